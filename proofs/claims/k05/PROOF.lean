import PyProof.Rows.All
import Wide.All
import OpenK.AllK
import Wide.FinOn
import HandS.ForMost
import KE.SortData
import KE.DataMinMax
import HandS.ForExc
import HandS.Lambda
import HandS.AnyAll
import HandS.Wide
import HandS.TupAny
import HandS.Deep
import HandS.Iter
import HandS.Zip
import KE.GoesMore
import KE.GoesEnum
import PyProof.Draws
import HandS.Style
import HandS.ExcOwn
import HandS.CallSlots
import HandS.WordsExc
import PyProof.SumAny
import PyProof.GenArm
import PyProof.GenQ
import HandS.GenList
import PyProof.ConsumeWalk
import HandS.Nested
import HandS.Defaults
import KE.DataEq
import HandS.Head0
import HandS.Head1
import HandS.Head2
import HandS.HeadEnd
import HandS.HeadHook1
import HandS.HeadHook2
import HandS.HeadHook3
import HandS.HeadHook4
import HandS.HeadWalk
import HandS.NestedK
import PyProof.ExcBaseAll.ValueError
import PySem.Challenge.RW_hotelstack_k05_claims_of_those_who_come
import PyProof.TableCode
import KE.KStateDown
import Lean
section
set_option linter.all false
set_option autoImplicit false
set_option maxRecDepth 100000
/-! Ev, part A: values, the small heap, the syntax of our own, its meaning (a plain function). -/
namespace Ev
open PySem L2

/-! ### values -/
abbrev D := PyData
/-- a reference to a logical cell -/
def cellD (r : Nat) : D := .dict [(.dict [], .int r)]
def asCell : D → Option Nat
  | .dict [(.dict [], .int (.ofNat r))] => some r
  | _ => none
/-- the script: a list that is only cut -/
def scrD (ns : List Int) : D := .dict [(.list [], .list (ns.map .int))]
def asScr : D → Option (List D)
  | .dict [(.list [], .list xs)] => some xs
  | _ => none
inductive Cell where
  | ins (c : Nat) (fs : List (Str × Bool × D))
  | lst (xs : List D)
  | dic (kvs : List (D × Bool × D))
abbrev M := List Cell
inductive R (α : Type) where
  | ok (a : α) (m : M)
  | exc (c : Nat) (m : M)
  | stuck
inductive Pl where
  | sl (i : Nat)
  | ce (r : Nat) (f : Str)
  deriving DecidableEq
abbrev Wr := Pl → Bool
abbrev Slot := Option (Bool × D)
abbrev Ga := List Slot
def R.bind {α β : Type} (x : R α) (f : α → M → R β) : R β :=
  match x with
  | .ok a m => f a m
  | .exc c m => .exc c m
  | .stuck => .stuck
@[simp] theorem R.bind_ok {α β : Type} (a : α) (m : M) (f : α → M → R β) : (R.ok a m).bind f = f a m := rfl
@[simp] theorem R.bind_exc {α β : Type} (c : Nat) (m : M) (f : α → M → R β) : (R.exc c m : R α).bind f = .exc c m := rfl
@[simp] theorem R.bind_stuck {α β : Type} (f : α → M → R β) : (R.stuck : R α).bind f = .stuck := rfl
def R.of {α : Type} (o : Option α) (m : M) : R α := match o with
  | some a => .ok a m
  | none => .stuck
@[simp] theorem R.of_some {α : Type} (a : α) (m : M) : R.of (some a) m = .ok a m := rfl
@[simp] theorem R.of_none {α : Type} (m : M) : R.of (none : Option α) m = .stuck := rfl

/-! ### operators by values -/
inductive BOp where | add | sub | mul | fdiv | mod | pow
inductive COp where | lt | le | gt | ge | eq | ne | isin | notin | isN | notN
def mulOk (i j : Int) : Bool := decide (i.natAbs < 2 ^ 64) || decide (j.natAbs < 2 ^ 64) || decide (i.natAbs.log2 + j.natAbs.log2 < 1000000)
def semBin : BOp → D → D → Option D
  | .add, .int i, .int j => some (.int (i + j))
  | .add, .str a, .str b => if a.length + b.length ≤ sizeLine then some (.str (a ++ b)) else none
  | .add, .list xs, .list ys => if xs.length + ys.length ≤ sizeLine then some (.list (xs ++ ys)) else none
  | .add, .tuple xs, .tuple ys => if xs.length + ys.length ≤ sizeLine then some (.tuple (xs ++ ys)) else none
  | .sub, .int i, .int j => some (.int (i - j))
  | .mul, .int i, .int j => if mulOk i j then some (.int (i * j)) else none
  | .mul, .list xs, .int k => if k < 2 ^ 63 ∧ -(2 ^ 63) ≤ k ∧ xs.length * k.toNat ≤ sizeLine then some (.list (List.replicate k.toNat xs).flatten) else none
  | .fdiv, .int i, .int j => if 0 < j ∧ j.natAbs.log2 < 9000 then some (.int (i / j)) else none
  | .mod, .int i, .int j => if 0 < j then some (.int (i % j)) else none
  | .pow, .int i, .int j => if 0 ≤ j ∧ j ≤ 1000 ∧ i.natAbs < 2 ^ 64 then some (.int (i ^ j.toNat)) else none
  | _, _, _ => none
def eqS (x y : D) : Option Bool := if SeqAt.shaped x && SeqAt.shaped y then some (PyData.eqv x y) else none
def lookD (kvs : List (D × D)) (k : D) : Option D := (kvs.find? fun p => PyData.eqv p.1 k).map (·.2)
def putD (kvs : List (D × D)) (k v : D) : List (D × D) :=
  match kvs with
  | [] => [(k, v)]
  | p :: r => if PyData.eqv p.1 k then (p.1, v) :: r else p :: putD r k v
def isKey : D → Bool
  | .int _ => true
  | .str _ => true
  | _ => false
def semIn (x : D) : D → Option Bool
  | .list ys => if SeqAt.shaped x && SeqAt.shaped (.list ys) then some (ys.any fun y => PyData.eqv y x) else none
  | .tuple ys => if SeqAt.shaped x && SeqAt.shaped (.tuple ys) then some (ys.any fun y => PyData.eqv y x) else none
  | .str z => match x with
    | .str c => if c.length = 1 then some (decide (c.cps.getD 0 0 ∈ z.cps.toList)) else none
    | _ => none
  | _ => none
def isNoneD : D → Bool
  | .none => true
  | _ => false
def semCmp : COp → D → D → Option Bool
  | .lt, .int i, .int j => some (decide (i < j))
  | .le, .int i, .int j => some (decide (i ≤ j))
  | .gt, .int i, .int j => some (decide (j < i))
  | .ge, .int i, .int j => some (decide (j ≤ i))
  | .eq, x, y => eqS x y
  | .ne, x, y => (eqS x y).map (!·)
  | .isin, x, y => semIn x y
  | .notin, x, y => (semIn x y).map (!·)
  | .isN, x, .none => some (isNoneD x)
  | .notN, x, .none => some (!isNoneD x)
  | _, _, _ => none
def semIdx (m : M) (x y : D) : Option D :=
  match x, y with
  | .list xs, .int i => atI xs i
  | .tuple xs, .int i => atI xs i
  | .str z, .int i => if z.length ≤ sizeLine then (atI z.cps.toList i).map fun c => .str ⟨#[c]⟩ else none
  | x, y => match asCell x with
    | some r => match m[r]?, y with
      | some (.lst xs), .int i => atI xs i
      | _, _ => none
    | none => none
def semSlc (x : D) (lo hi : Option Int) : Option D :=
  match x with
  | .list xs => some (.list (cutV' xs lo hi))
  | .tuple xs => some (.tuple (cutV' xs lo hi))
  | x => (asScr x).map fun xs => .list (cutV' xs lo hi)
where cutV' (xs : List D) (lo hi : Option Int) : List D := (xs.drop (HT.sIx xs.length 0 lo)).take (HT.sIx xs.length xs.length hi - HT.sIx xs.length 0 lo)
end Ev
end
section
set_option linter.all false
set_option autoImplicit false
set_option maxRecDepth 100000
/-! Ev, part B: the syntax of our own and its meaning. -/
namespace Ev
open PySem L2

inductive Tg where
  | nm (i : Nat)
  | tup (ts : List Tg)
/-- built-in functions of values -/
inductive Bi where | len | abs | max2 | min2 | max1 | min1 | sum1 | sorted | tuple | list | int | str
/-- what a comprehension or a consumer makes -/
inductive Ck where | lc | any | all | sum | tuple | sorted | min
mutual
inductive Ex where
  | nm (i : Nat) | pk (i : Nat)
  | cst (d : D) | glb (g : Nat)
  | bin (o : BOp) (a b : Ex) | neg (a : Ex) | not (a : Ex) | and (a b : Ex) | or (a b : Ex)
  | cmp (o : COp) (a b : Ex) | chn (o o' : COp) (a b c : Ex)
  | ite (t a b : Ex)
  | tup (es : List Ex) | lst (es : List Ex) | lstC (es : List Ex)
  | idx (a b : Ex) | slc (a : Ex) (lo hi : Option Ex)
  | fld (e : Ex) (f : Str) | pkf (e : Ex) (f : Str)
  | call (f : Nat) (es : List Ex) | met (f : Nat) (o : Ex) (es : List Ex) | new (c : Nat) (es : List Ex)
  | bi (b : Bi) (es : List Ex)
  | co (k : Ck) (elt : Ex) (tg : Tg) (src : Src) (ifs : List Ex)
  | told (f c : Nat) (body : Ex)
inductive Src where
  | seq (b : Bs) | rng (es : List Ex) | enum (b : Bs) | zip (a b : Ex)
/-- what is walked: a value, or a list that a slot or a field owns -/
inductive Bs where
  | e (e : Ex) | sl (i : Nat) | fd (e : Ex) (f : Str)
end
/-- a place that is changed -/
inductive PlE where
  | sl (i : Nat) | fd (e : Ex) (f : Str) | cl (e : Ex)
inductive St where
  | asg (i : Nat) (e : Ex) | asgO (i : Nat) (e : Ex) | unp (t : Tg) (e : Ex) | par (is : List Nat) (es : List Ex)
  | setf (o : Ex) (f : Str) (own : Bool) (e : Ex) | seti (p : PlE) (k e : Ex)
  | augn (i : Nat) (o : BOp) (e : Ex) | augf (o : Ex) (f : Str) (op : BOp) (e : Ex) | augi (p : PlE) (k : Ex) (op : BOp) (e : Ex)
  | app (p : PlE) (e : Ex) | exp (e : Ex)
  | ifs (t : Ex) (a b : List St) | for (tg : Tg) (src : Src) (body : List St) | whl (t : Ex) (body : List St)
  | ret (e : Ex) | retn | rai (c : Nat) | pass | frz (i : Nat)
  | bads (i j : Nat) (es : List Ex) (c : Nat)
/-- may the value be one that somebody owns? -/
def isB : Ex → Bool
  | .pk _ => true
  | .pkf _ _ => true
  | _ => false
/-- is it a list (a dict) that was just made? -/
def isFresh : Ex → Bool
  | .lst _ => true
  | .bin .mul (.lst _) _ => true
  | .co .lc _ _ _ _ => true
  | _ => false
def bindT : Tg → D → Ga → Option Ga
  | .nm i, d, g => if i < g.length then some (g.set i (some (false, d))) else none
  | .tup ts, .tuple xs, g => bindTs ts xs g
  | .tup _, _, _ => none
where bindTs : List Tg → List D → Ga → Option Ga
  | [], [], g => some g
  | t :: ts, x :: xs, g => (bindT t x g).bind fun g' => bindTs ts xs g'
  | _, _, _ => none
/-- the slots that a target fills -/
def tvars : Tg → List Nat
  | .nm i => [i]
  | .tup ts => tvarsL ts
where tvarsL : List Tg → List Nat
  | [] => []
  | t :: ts => tvars t ++ tvarsL ts
def wipeG (g : Ga) : List Nat → Ga
  | [] => g
  | v :: vs => (wipeG g vs).set v none
def dMax (x y : Int) : Int := if y > x then y else x
def dMin (x y : Int) : Int := if y < x then y else x
def intsOf : List D → Option (List Int)
  | [] => some []
  | .int i :: r => (intsOf r).map (i :: ·)
  | _ :: _ => none
/-- what sorted, min want of their items -/
def sortable (xs : List D) : Bool :=
  (xs.all fun x => xs.all fun y => PySem.W.alike x y) && xs.all (fun x => decide (x.depth ≤ 60)) &&
    ((xs.all fun x => match x with | .tuple (_ :: _) => true | _ => false) || xs.all fun x => match x with | .int _ => true | .str _ => true | _ => false)
def dLe (x y : D) : Bool := PySem.W.dataLe false id x y
def dLt (x y : D) : Bool := PySem.W.dataLt x y
def minL : List D → Option D
  | [] => none
  | x :: r => some (PySem.W.minD x r)
def semBi : Bi → List D → Option D
  | .len, [.list xs] => some (.int xs.length)
  | .len, [.tuple xs] => some (.int xs.length)
  | .len, [.str z] => if z.length ≤ sizeLine then some (.int z.length) else none
  | .abs, [.int i] => some (.int (if i < 0 then -i else i))
  | .max2, [.int i, .int j] => some (.int (dMax i j))
  | .min2, [.int i, .int j] => some (.int (dMin i j))
  | .max1, [.list xs] => (intsOf xs).bind fun ns => match ns with | [] => none | n :: r => some (.int (r.foldl dMax n))
  | .min1, [.list (x :: xs)] => if sortable (x :: xs) then some (PySem.W.minD x xs) else none
  | .sum1, [.list xs] => (intsOf xs).map fun ns => .int ns.sum
  | .sum1, [.tuple xs] => (intsOf xs).map fun ns => .int ns.sum
  | .sorted, [.list xs] => if sortable xs then some (.list (xs.mergeSort dLe)) else none
  | .tuple, [.list xs] => some (.tuple xs)
  | .tuple, [.tuple xs] => some (.tuple xs)
  | .list, [.list xs] => some (.list xs)
  | .list, [.tuple xs] => some (.list xs)
  | .int, [.int i] => some (.int i)
  | .int, [.bool b] => some (.int (if b then 1 else 0))
  | _, _ => none
/-- the world of a text -/
structure Wd where
  call : Nat → Wr → List D → M → R D
  glb : Nat → D
  ini : Nat → Nat
  cls : Nat → Nat
  nam : Nat → Str
  sub : Nat → Nat → Bool
  tol : Nat → Str
  fuel : Nat
def wr0 : Wr := fun _ => false
/-- no exception leaves -/
def R.nox {α : Type} : R α → R α
  | .ok a m => .ok a m
  | _ => .stuck
/-- b behind a: while a is borrowed nothing is written -/
def with2 {α : Type} (bor : Bool) (b : Wr → M → R D) (wr : Wr) (m : M) (k : D → M → R α) : R α :=
  if bor then (match b wr0 m with | .ok y _ => k y m | .exc c _ => .exc c m | .stuck => .stuck) else (b wr m).bind k
/-- the turns of a comprehension: what is made so far -/
def turns (body : D → M → R (Option D)) : List D → List D → M → R (List D)
  | [], acc, m => .ok acc m
  | x :: xs, acc, m => (body x m).bind fun o m' => match o with
    | some y => if acc.length < sizeLine then turns body xs (acc ++ [y]) m' else .stuck
    | none => turns body xs acc m'
/-- until one is b -/
def until' (b : Bool) (body : D → M → R (Option D)) : List D → M → R Bool
  | [], m => .ok (!b) m
  | x :: xs, m => (body x m).bind fun o m' => match o with
    | some (.bool c) => if c = b then .ok b m' else until' b body xs m'
    | some _ => .stuck
    | none => until' b body xs m'
def endCo : Ck → List D → Option D
  | .lc, xs => some (.list xs)
  | .tuple, xs => some (.tuple xs)
  | .sum, xs => (intsOf xs).map fun ns => .int ns.sum
  | .sorted, xs => if sortable xs then some (.list (xs.mergeSort dLe)) else none
  | .min, xs => if sortable xs then minL xs else none
  | _, _ => none
def runCo (k : Ck) (body : D → M → R (Option D)) (xs : List D) (m : M) : R D :=
  match k with
  | .any => (until' true body xs m).bind fun b m' => .ok (.bool b) m'
  | .all => (until' false body xs m).bind fun b m' => .ok (.bool b) m'
  | k => (turns body xs [] m).bind fun ys m' => R.of (endCo k ys) m'
def lockW (wr : Wr) : Option Pl → Wr
  | none => wr
  | some p => fun q => wr q && decide (q ≠ p)
def itemsOf : D → Option (List D)
  | .list xs => some xs
  | .tuple xs => some xs
  | _ => none
def rngOf : List D → Option (List D)
  | [.int j] => if -(2 ^ 62) ≤ j ∧ j < 2 ^ 62 then some ((List.range j.toNat).map fun (k : Nat) => .int (0 + (k : Int))) else none
  | [.int i, .int j] => if -(2 ^ 62) ≤ i ∧ i < 2 ^ 62 ∧ -(2 ^ 62) ≤ j ∧ j < 2 ^ 62 then some ((List.range (j - i).toNat).map fun (k : Nat) => .int (i + (k : Int))) else none
  | _ => none
def enumOf (xs : List D) : List D := (List.range xs.length).zipWith (fun (i : Nat) x => .tuple [.int (i : Int), x]) xs
def fldAt (m : M) (x : D) (f : Str) : Option (Bool × D) :=
  (asCell x).bind fun r => match m[r]? with
    | some (.ins _ fs) => fs.lookup f
    | _ => none
def clsAt (m : M) (x : D) : Option (Nat × List (Str × Bool × D)) :=
  (asCell x).bind fun r => match m[r]? with
    | some (.ins c fs) => some (c, fs)
    | _ => none
mutual
def ev (W : Wd) : Ex → Wr → Ga → M → R D
  | .nm i, _, g, m => match g[i]? with
    | some (some (false, d)) => .ok d m
    | _ => .stuck
  | .pk i, _, g, m => match g[i]? with
    | some (some (_, d)) => .ok d m
    | _ => .stuck
  | .cst d, _, _, m => .ok d m
  | .glb k, _, _, m => .ok (W.glb k) m
  | .bin o a b, wr, g, m => if isB a || isB b then .stuck else (ev W a wr g m).bind fun x m1 => (ev W b wr g m1).bind fun y m2 => R.of (semBin o x y) m2
  | .neg a, wr, g, m => (ev W a wr g m).bind fun x m1 => match x with
    | .int i => .ok (.int (-i)) m1
    | _ => .stuck
  | .not a, wr, g, m => (ev W a wr g m).bind fun x m1 => match x with
    | .bool b => .ok (.bool (!b)) m1
    | _ => .stuck
  | .and a b, wr, g, m => (ev W a wr g m).bind fun x m1 => match x with
    | .bool true => if isB b then .stuck else ev W b wr g m1
    | .bool false => .ok (.bool false) m1
    | _ => .stuck
  | .or a b, wr, g, m => (ev W a wr g m).bind fun x m1 => match x with
    | .bool false => if isB b then .stuck else ev W b wr g m1
    | .bool true => .ok (.bool true) m1
    | _ => .stuck
  | .cmp o a b, wr, g, m => (ev W a wr g m).bind fun x m1 => with2 (isB a) (fun wr m => ev W b wr g m) wr m1 fun y m2 => R.of ((semCmp o x y).map .bool) m2
  | .chn o o' a b c, wr, g, m => if isB a || isB b then .stuck else
    (ev W a wr g m).bind fun x m1 => (ev W b wr g m1).bind fun y m2 => match semCmp o x y with
      | some true => (ev W c wr g m2).bind fun z m3 => R.of ((semCmp o' y z).map .bool) m3
      | some false => .ok (.bool false) m2
      | none => .stuck
  | .ite t a b, wr, g, m => if isB a || isB b then .stuck else (ev W t wr g m).bind fun x m1 => match x with
    | .bool true => ev W a wr g m1
    | .bool false => ev W b wr g m1
    | _ => .stuck
  | .tup es, wr, g, m => if es.length ≤ 1000 then (evL W es wr g m).bind fun xs m1 => .ok (.tuple xs) m1 else .stuck
  | .lst es, wr, g, m => if es.length ≤ 1000 then (evL W es wr g m).bind fun xs m1 => .ok (.list xs) m1 else .stuck
  | .lstC es, wr, g, m => if es.length ≤ 1000 then (evL W es wr g m).bind fun xs m1 => .ok (cellD m1.length) (m1 ++ [.lst xs]) else .stuck
  | .idx a b, wr, g, m => if isB b then .stuck else (ev W a wr g m).bind fun x m1 => with2 (isB a) (fun wr m => ev W b wr g m) wr m1 fun y m2 => R.of (semIdx m2 x y) m2
  | .slc a lo hi, wr, g, m => if isB a then .stuck else (ev W a wr g m).bind fun x m1 => (evO W lo wr g m1).bind fun l m2 => (evO W hi wr g m2).bind fun h m3 => R.of (semSlc x l h) m3
  | .fld e f, wr, g, m => (ev W e wr g m).bind fun x m1 => match fldAt m1 x f with
    | some (false, d) => .ok d m1
    | _ => .stuck
  | .pkf e f, wr, g, m => (ev W e wr g m).bind fun x m1 => match fldAt m1 x f with
    | some (_, d) => .ok d m1
    | _ => .stuck
  | .call f es, wr, g, m => (evL W es wr g m).bind fun xs m1 => W.call f wr xs m1
  | .met f o es, wr, g, m => if isB o then .stuck else (ev W o wr g m).bind fun x m1 => match clsAt m1 x with
    | some (c, fs) => if c = W.cls f ∧ fs.lookup (W.nam f) = none then (evL W es wr g m1).bind fun xs m2 => W.call f wr (x :: xs) m2 else .stuck
    | none => .stuck
  | .new c es, wr, g, m => (evL W es wr g m).bind fun xs m1 => (W.call (W.ini c) wr (cellD m1.length :: xs) (m1 ++ [.ins c []])).bind fun v m2 => match v with
    | .none => .ok (cellD m1.length) m2
    | _ => .stuck
  | .bi b [e], wr, g, m => (ev W e wr g m).bind fun x m1 => R.of (semBi b [x]) m1
  | .bi b es, wr, g, m => (evL W es wr g m).bind fun xs m1 => R.of (semBi b xs) m1
  | .co k elt tg src ifs, wr, g, m => if isB elt then .stuck else (evS W src wr g m).bind fun (xs, p) m1 =>
    runCo k (fun x m => R.nox (match bindT tg x (wipeG g (tvars tg)) with
      | none => .stuck
      | some g' => (evI W ifs (lockW wr p) g' m).bind fun b m' => if b then (ev W elt (lockW wr p) g' m').bind fun y m'' => .ok (some y) m'' else .ok none m')) xs m1
  | .told _ c body, wr, g, m => if isB body then .stuck else match ev W body wr g m with
    | .ok d m' => .ok d m'
    | .exc e m' => if W.sub e c then .ok (.str (W.tol c)) m' else .stuck
    | .stuck => .stuck
def evL (W : Wd) : List Ex → Wr → Ga → M → R (List D)
  | [], _, _, m => .ok [] m
  | e :: es, wr, g, m => if isB e then .stuck else (ev W e wr g m).bind fun x m1 => (evL W es wr g m1).bind fun xs m2 => .ok (x :: xs) m2
def evO (W : Wd) : Option Ex → Wr → Ga → M → R (Option Int)
  | none, _, _, m => .ok none m
  | some e, wr, g, m => if isB e then .stuck else (ev W e wr g m).bind fun d m1 => match d with
    | .int i => .ok (some i) m1
    | _ => .stuck
/-- the tests of a comprehension -/
def evI (W : Wd) : List Ex → Wr → Ga → M → R Bool
  | [], _, _, m => .ok true m
  | e :: es, wr, g, m => (ev W e wr g m).bind fun x m1 => match x with
    | .bool true => evI W es wr g m1
    | .bool false => .ok false m1
    | _ => .stuck
def evS (W : Wd) : Src → Wr → Ga → M → R (List D × Option Pl)
  | .seq b, wr, g, m => (evB W b wr g m).bind fun (x, p) m1 => R.of ((itemsOf x).map fun xs => (xs, p)) m1
  | .rng es, wr, g, m => (evL W es wr g m).bind fun xs m1 => R.of ((rngOf xs).map fun ys => (ys, none)) m1
  | .enum b, wr, g, m => (evB W b wr g m).bind fun (x, p) m1 => R.of ((itemsOf x).map fun xs => (enumOf xs, p)) m1
  | .zip a b, wr, g, m => if isB a || isB b then .stuck else (ev W a wr g m).bind fun x m1 => (ev W b wr g m1).bind fun y m2 => match x, y with
    | .list xs, .list ys => .ok (xs.zipWith (fun a b => .tuple [a, b]) ys, none) m2
    | .tuple xs, .tuple ys => .ok (xs.zipWith (fun a b => .tuple [a, b]) ys, none) m2
    | _, _ => .stuck
def evB (W : Wd) : Bs → Wr → Ga → M → R (D × Option Pl)
  | .e e, wr, g, m => if isB e then .stuck else (ev W e wr g m).bind fun x m1 => .ok (x, none) m1
  | .sl i, _, g, m => match g[i]? with
    | some (some (_, d)) => .ok (d, some (.sl i)) m
    | _ => .stuck
  | .fd e f, wr, g, m => (ev W e wr g m).bind fun x m1 => match fldAt m1 x f with
    | some (_, d) => R.of ((asCell x).map fun r => (d, some (.ce r f))) m1
    | _ => .stuck
end
end Ev
end
section
set_option linter.all false
set_option autoImplicit false
set_option maxRecDepth 100000
/-! Ev, part C: how values, cells and slots stand in HandS's abstract heap. -/
namespace Ev
open PySem L2

structure Om where
  B : Addr → Prop
  ad : Nat → Str → Addr
  sl : Nat → Addr
  n : Nat
/-- what is fixed: the written part, the classes' addresses, tables of code objects -/
structure Fx where
  K : PySem.W.Frag
  ca : Nat → Addr
  xa : Nat → Addr
  TG : List Addr
  TL : List (Addr × Str)
def KTup (K : PySem.W.Frag) (a : Addr) (xs : List V) : Prop :=
  ∃ (o : Obj) (its : Array Value) (n : Nat), K.lookup a = some o ∧ o.cls = .type "tuple" ∧ o.data = .seq its n ∧ its.size ≤ sizeLine ∧ Vals xs its.toList
def TupAt (F : Fx) (ω : Om) (H : Hp) (a : Addr) (vs : List V) : Prop := (H a = some (.tup vs) ∧ ¬ ω.B a) ∨ KTup F.K a vs
def KLst (K : PySem.W.Frag) (a : Addr) (xs : List V) : Prop :=
  ∃ (o : Obj) (its : Array Value) (n : Nat), K.lookup a = some o ∧ o.cls = .type "list" ∧ o.dict = none ∧ o.data = .seq its n ∧ its.size ≤ sizeLine ∧ Vals xs its.toList
/-- a list that is only read -/
def LstAt (F : Fx) (ω : Om) (H : Hp) (a : Addr) (vs : List V) : Prop := (Rd H a (.lst vs) ∧ ¬ ω.B a) ∨ KLst F.K a vs
theorem LstAt.sq {F : Fx} {ω : Om} {H : Hp} {a : Addr} {vs : List V} (h : LstAt F ω H a vs) : SqL F.K H a vs := by
  rcases h with ⟨h, _⟩ | h
  · exact .inl h
  · exact .inr h
theorem TupAt.sq {F : Fx} {ω : Om} {H : Hp} {a : Addr} {vs : List V} (h : TupAt F ω H a vs) : SqT F.K H a vs := by
  rcases h with ⟨h, _⟩ | h
  · exact SqT.of h
  · exact .inr h
def keyRel : D → Key → Prop
  | .int i, k => k = .inl i
  | .str s, k => k = .inr s
  | _, _ => False
mutual
def Rep (F : Fx) (ω : Om) (H : Hp) : D → V → Prop
  | .none, v => v = .non
  | .bool b, v => v = .bl b
  | .int i, v => v = .int i
  | .str s, v => v = .str s
  | .list ds, v => ∃ a vs, v = .ref a ∧ H a = some (.lst vs) ∧ ¬ ω.B a ∧ Reps F ω H ds vs
  | .tuple ds, v => ∃ a vs, v = .ref a ∧ TupAt F ω H a vs ∧ Reps F ω H ds vs
  | .dict kvs, v => (∃ r, asCell (.dict kvs) = some r ∧ r < ω.n ∧ v = .ref (ω.ad r "")) ∨ (∃ a ns, (.dict kvs : D) = scrD ns ∧ v = .ref a ∧ LstAt F ω H a (ns.map V.int)) ∨
      ∃ a vs, v = .ref a ∧ Rd H a (.dK vs) ∧ ¬ ω.B a ∧ RepP F ω H kvs vs
def Reps (F : Fx) (ω : Om) (H : Hp) : List D → List V → Prop
  | [], vs => vs = []
  | d :: ds, vs => ∃ v r, vs = v :: r ∧ Rep F ω H d v ∧ Reps F ω H ds r
def RepP (F : Fx) (ω : Om) (H : Hp) : List (D × D) → List (Key × V) → Prop
  | [], vs => vs = []
  | (k, d) :: ds, vs => ∃ k' v r, vs = (k', v) :: r ∧ keyRel k k' ∧ Rep F ω H d v ∧ RepP F ω H ds r
end
def ContAt (F : Fx) (ω : Om) (H : Hp) (a : Addr) : D → Prop
  | .list ds => ∃ vs, H a = some (.lst vs) ∧ Reps F ω H ds vs
  | .dict kvs => ∃ vs, Rd H a (.dK vs) ∧ RepP F ω H kvs vs
  | _ => False
/-- a place that holds something of its own -/
def LvC (m : M) (r : Nat) (f : Str) : Prop := r < m.length ∧ (f = "" ∨ ∃ c fs d, m[r]? = some (.ins c fs) ∧ fs.lookup f = some (true, d) ∧ f ≠ "")
def FvRel (F : Fx) (ω : Om) (H : Hp) (r : Nat) (p : Str × Bool × D) (q : Str × V) : Prop :=
  p.1 = q.1 ∧ match p.2.1 with
    | false => Rep F ω H p.2.2 q.2
    | true => p.1 ≠ "" ∧ q.2 = .ref (ω.ad r p.1) ∧ ContAt F ω H (ω.ad r p.1) p.2.2
def CellAt (F : Fx) (ω : Om) (H : Hp) (r : Nat) : Cell → Prop
  | .ins c fs => ∃ dx vs, H (ω.ad r "") = some (.ins (F.ca c) dx vs) ∧ Paired (FvRel F ω H r) fs vs
  | .lst xs => ∃ vs, H (ω.ad r "") = some (.lst vs) ∧ Reps F ω H xs vs
  | .dic _ => False
structure Cells (F : Fx) (ω : Om) (m : M) (H : Hp) : Prop where
  len : m.length = ω.n
  at_ : ∀ (r : Nat) (c : Cell), m[r]? = some c → CellAt F ω H r c
  inj : ∀ r f r' f', LvC m r f → LvC m r' f' → ω.ad r f = ω.ad r' f' → r = r' ∧ f = f'
  inB : ∀ r f, LvC m r f → ω.B (ω.ad r f)
  nd : ∀ (r c : Nat) (fs : List (Str × Bool × D)), m[r]? = some (.ins c fs) → (fs.map (·.1)).Nodup
/-- what may be written -/
def Ub (ω : Om) (m : M) (wr : Wr) (b : Addr) : Prop := ∃ r f, LvC m r f ∧ wr (.ce r f) = true ∧ ω.ad r f = b
structure Fr (U B B' : Addr → Prop) (H H' : Hp) : Prop where
  keep : ∀ b o, H b = some o → ¬ U b → (∀ ps, o ≠ .tbl ps) → H' b = some o
  tab : ∀ b ps, H b = some (.tbl ps) → ∃ more, H' b = some (.tbl (ps ++ more))
  nb : ∀ b o, H b = some o → ¬ B b → ¬ B' b
  pb : ∀ b o, H b = some o → B b → B' b
  st : ∀ b o, H b = some o → ∃ o', H' b = some o'
def TabInv (F : Fx) (H : Hp) : Prop := (∀ P ∈ F.TG, GxR.TabG H P) ∧ LamX.Tabs F.TL H
structure Po (F : Fx) (wr : Wr) (ω : Om) (m : M) (H : Hp) (ω' : Om) (m' : M) (H' : Hp) : Prop where
  le : ω.n ≤ ω'.n
  ad : ∀ r, r < ω.n → ω'.ad r "" = ω.ad r ""
  sl : ω'.sl = ω.sl
  fr : Fr (Ub ω m wr) ω.B ω'.B H H'
  aq : ∀ r f, LvC m' r f → (LvC m r f ∧ ω'.ad r f = ω.ad r f) ∨ H (ω'.ad r f) = none
  cells : Cells F ω' m' H'
  tabs : TabInv F H'
structure SlRel (F : Fx) (ω : Om) (g : Ga) (m : M) (σ : L2.St) (H : Hp) : Prop where
  len : g.length = σ.length
  val : ∀ (i : Nat) (d : D), g[i]? = some (some (false, d)) → ∃ v, σ[i]? = some (some v) ∧ Rep F ω H d v
  own : ∀ (i : Nat) (d : D), g[i]? = some (some (true, d)) → σ[i]? = some (some (.ref (ω.sl i))) ∧ ContAt F ω H (ω.sl i) d ∧ ω.B (ω.sl i) ∧ ∀ r f, LvC m r f → ω.ad r f ≠ ω.sl i
  inj : ∀ (i : Nat) (d : D) (j : Nat) (e : D), g[i]? = some (some (true, d)) → g[j]? = some (some (true, e)) → ω.sl i = ω.sl j → i = j

section
variable {F : Fx} {ω ω' ω₁ ω₂ : Om} {H H' H₁ H₂ : Hp} {U B B' : Addr → Prop}
theorem Reps.length : ∀ {ds : List D} {vs : List V}, Reps F ω H ds vs → vs.length = ds.length
  | [], _, h => by
    have h : _ = [] := h
    rw [h]
    rfl
  | d :: ds, _, h => by
    obtain ⟨v, r, rfl, _, h⟩ := h
    simp [Reps.length h]
theorem Reps.get : ∀ {ds : List D} {vs : List V} {i : Nat} {d : D}, Reps F ω H ds vs → ds[i]? = some d → ∃ v, vs[i]? = some v ∧ Rep F ω H d v
  | [], _, _, _, _, e => by simp at e
  | d :: ds, _, 0, _, h, e => by
    obtain ⟨v, r, rfl, h1, _⟩ := h
    simp at e
    subst e
    exact ⟨v, rfl, h1⟩
  | d :: ds, _, i + 1, _, h, e => by
    obtain ⟨v, r, rfl, _, h1⟩ := h
    obtain ⟨w, a, b⟩ := Reps.get (i := i) h1 (by simpa using e)
    exact ⟨w, by simpa using a, b⟩
theorem Reps.cons {d : D} {v : V} {ds : List D} {vs : List V} (a : Rep F ω H d v) (b : Reps F ω H ds vs) : Reps F ω H (d :: ds) (v :: vs) := ⟨v, vs, rfl, a, b⟩
theorem Reps.app : ∀ {ds es : List D} {vs us : List V}, Reps F ω H ds vs → Reps F ω H es us → Reps F ω H (ds ++ es) (vs ++ us)
  | [], _, _, _, h, k => by
    have h : _ = [] := h
    rw [h]
    exact k
  | d :: ds, _, _, _, h, k => by
    obtain ⟨v, r, rfl, h1, h2⟩ := h
    exact ⟨v, _, rfl, h1, Reps.app h2 k⟩
theorem Reps.take : ∀ {ds : List D} {vs : List V} (n : Nat), Reps F ω H ds vs → Reps F ω H (ds.take n) (vs.take n)
  | _, _, 0, _ => rfl
  | [], _, n + 1, h => by
    have h : _ = [] := h
    rw [h]
    rfl
  | d :: ds, _, n + 1, h => by
    obtain ⟨v, r, rfl, h1, h2⟩ := h
    exact ⟨v, _, rfl, h1, Reps.take n h2⟩
theorem Reps.drop : ∀ {ds : List D} {vs : List V} (n : Nat), Reps F ω H ds vs → Reps F ω H (ds.drop n) (vs.drop n)
  | _, _, 0, h => h
  | [], _, n + 1, h => by
    have h : _ = [] := h
    rw [h]
    rfl
  | d :: ds, _, n + 1, h => by
    obtain ⟨v, r, rfl, h1, h2⟩ := h
    exact Reps.drop n h2
theorem Reps.set : ∀ {ds : List D} {vs : List V} (i : Nat) {d : D} {v : V}, Reps F ω H ds vs → Rep F ω H d v → Reps F ω H (ds.set i d) (vs.set i v)
  | [], _, i, _, _, h, _ => by
    have h : _ = [] := h
    rw [h]
    rfl
  | d :: ds, _, 0, _, _, h, k => by
    obtain ⟨v, r, rfl, h1, h2⟩ := h
    exact ⟨_, _, rfl, k, h2⟩
  | d :: ds, _, i + 1, _, _, h, k => by
    obtain ⟨v, r, rfl, h1, h2⟩ := h
    exact ⟨_, _, rfl, h1, Reps.set i h2 k⟩

/-- what is read stays -/
structure Stays (F : Fx) (ω ω' : Om) (H H' : Hp) : Prop where
  le : ω.n ≤ ω'.n
  ad : ∀ r, r < ω.n → ω'.ad r "" = ω.ad r ""
  keep : ∀ b o, H b = some o → ¬ ω.B b → (∀ ps, o ≠ .tbl ps) → H' b = some o ∨ ∃ u ob, o = .dK u ∧ H' b = some (.frz ob (.dK u))
  nb : ∀ b o, H b = some o → ¬ ω.B b → ¬ ω'.B b
mutual
theorem Rep.stays (S : Stays F ω ω' H H') : ∀ (d : D) (v : V), Rep F ω H d v → Rep F ω' H' d v
  | .none, _, h => h
  | .bool _, _, h => h
  | .int _, _, h => h
  | .str _, _, h => h
  | .list ds, _, h => by
    obtain ⟨a, vs, rfl, h1, h2, h3⟩ := h
    refine ⟨a, vs, rfl, ?_, S.nb _ _ h1 h2, Reps.stays S ds vs h3⟩
    rcases S.keep _ _ h1 h2 (fun ps z => by cases z) with e | ⟨u, ob, z, _⟩
    · exact e
    · cases z
  | .tuple ds, _, h => by
    obtain ⟨a, vs, rfl, h1, h3⟩ := h
    refine ⟨a, vs, rfl, ?_, Reps.stays S ds vs h3⟩
    rcases h1 with ⟨h1, h2⟩ | h1
    · refine .inl ⟨?_, S.nb _ _ h1 h2⟩
      rcases S.keep _ _ h1 h2 (fun ps z => by cases z) with e | ⟨u, ob, z, _⟩
      · exact e
      · cases z
    · exact .inr h1
  | .dict kvs, _, h => by
    rcases h with ⟨r, h1, h2, rfl⟩ | ⟨a, ns, h1, rfl, h2⟩ | ⟨a, vs, rfl, h1, h2, h3⟩
    · exact .inl ⟨r, h1, Nat.lt_of_lt_of_le h2 S.le, by rw [S.ad r h2]⟩
    · refine .inr (.inl ⟨a, ns, h1, rfl, ?_⟩)
      rcases h2 with ⟨h2 | ⟨o, h2⟩, h3⟩ | h2
      · rcases S.keep _ _ h2 h3 (fun ps z => by cases z) with e | ⟨u, ob, z, _⟩
        · exact .inl ⟨.inl e, S.nb _ _ h2 h3⟩
        · cases z
      · rcases S.keep _ _ h2 h3 (fun ps z => by cases z) with e | ⟨u, ob, z, _⟩
        · exact .inl ⟨.inr ⟨_, e⟩, S.nb _ _ h2 h3⟩
        · cases z
      · exact .inr h2
    · refine .inr (.inr ⟨a, vs, rfl, ?_, ?_, RepP.stays S kvs vs h3⟩)
      · rcases h1 with h1 | ⟨o, h1⟩
        · rcases S.keep _ _ h1 h2 (fun ps z => by cases z) with e | ⟨u, ob, z, e⟩
          · exact .inl e
          · cases z
            exact .inr ⟨_, e⟩
        · rcases S.keep _ _ h1 h2 (fun ps z => by cases z) with e | ⟨u, ob, z, e⟩
          · exact .inr ⟨_, e⟩
          · cases z
      · rcases h1 with h1 | ⟨o, h1⟩
        · exact S.nb _ _ h1 h2
        · exact S.nb _ _ h1 h2
theorem Reps.stays (S : Stays F ω ω' H H') : ∀ (ds : List D) (vs : List V), Reps F ω H ds vs → Reps F ω' H' ds vs
  | [], _, h => h
  | d :: ds, _, h => by
    obtain ⟨v, r, rfl, h1, h2⟩ := h
    exact ⟨v, r, rfl, Rep.stays S d v h1, Reps.stays S ds r h2⟩
theorem RepP.stays (S : Stays F ω ω' H H') : ∀ (ds : List (D × D)) (vs : List (Key × V)), RepP F ω H ds vs → RepP F ω' H' ds vs
  | [], _, h => h
  | (k, d) :: ds, _, h => by
    obtain ⟨k', v, r, rfl, h0, h1, h2⟩ := h
    exact ⟨k', v, r, rfl, h0, Rep.stays S d v h1, RepP.stays S ds r h2⟩
end
end
end Ev
end
section
set_option linter.all false
set_option autoImplicit false
set_option maxRecDepth 100000
/-! Ev, part D: what holds from state to state; the lifted readings. -/
namespace Ev
open PySem L2

section
variable {F : Fx} {wr : Wr} {ω ω' ω₁ ω₂ : Om} {m m' m₁ m₂ : M} {H H' H₁ H₂ : Hp}
theorem Cells.ub (C : Cells F ω m H) {b : Addr} (h : Ub ω m wr b) : ω.B b := by
  obtain ⟨r, f, h1, _, rfl⟩ := h
  exact C.inB r f h1
theorem Po.stays (C : Cells F ω m H) (p : Po F wr ω m H ω' m' H') : Stays F ω ω' H H' :=
  ⟨p.le, p.ad, fun b o h hb ht => .inl (p.fr.keep b o h (fun z => hb (C.ub z)) ht), fun b o h hb => p.fr.nb b o h hb⟩
theorem Po.nu (C : Cells F ω m H) (p : Po F wr ω m H ω' m' H') {b : Addr} {o : HO} (h : H b = some o) (hu : ¬ Ub ω m wr b) : ¬ Ub ω' m' wr b := by
  rintro ⟨r, f, h1, h2, rfl⟩
  rcases p.aq r f h1 with ⟨z1, z2⟩ | z
  · exact hu ⟨r, f, z1, h2, z2.symm⟩
  · rw [h] at z
    cases z
theorem Po.refl (C : Cells F ω m H) (T : TabInv F H) : Po F wr ω m H ω m H :=
  ⟨Nat.le_refl _, fun _ _ => rfl, rfl, ⟨fun _ _ h _ _ => h, fun _ ps h => ⟨#[], by rw [h]; simp⟩, fun _ _ _ h => h, fun _ _ _ h => h, fun _ o h => ⟨o, h⟩⟩, fun _ _ h => .inl ⟨h, rfl⟩, C, T⟩
theorem Po.trans (C : Cells F ω m H) (p : Po F wr ω m H ω₁ m₁ H₁) (q : Po F wr ω₁ m₁ H₁ ω₂ m₂ H₂) : Po F wr ω m H ω₂ m₂ H₂ := by
  refine ⟨Nat.le_trans p.le q.le, fun r h => (q.ad r (Nat.lt_of_lt_of_le h p.le)).trans (p.ad r h), q.sl.trans p.sl, ⟨fun b o h hu ht => q.fr.keep b o (p.fr.keep b o h hu ht) (p.nu C h hu) ht, fun b ps h => ?_, fun b o h hb => ?_, fun b o h hb => ?_, fun b o h => ?_⟩, fun r f h => ?_, q.cells, q.tabs⟩
  · obtain ⟨m1, e1⟩ := p.fr.tab b ps h
    obtain ⟨m2, e2⟩ := q.fr.tab b _ e1
    exact ⟨m1 ++ m2, by rw [e2, Array.append_assoc]⟩
  · obtain ⟨o1, e1⟩ := p.fr.st b o h
    exact q.fr.nb b o1 e1 (p.fr.nb b o h hb)
  · obtain ⟨o1, e1⟩ := p.fr.st b o h
    exact q.fr.pb b o1 e1 (p.fr.pb b o h hb)
  · obtain ⟨o1, e1⟩ := p.fr.st b o h
    exact q.fr.st b o1 e1
  · rcases q.aq r f h with ⟨h1, e1⟩ | h1
    · rcases p.aq r f h1 with ⟨h2, e2⟩ | h2
      · exact .inl ⟨h2, e1.trans e2⟩
      · exact .inr (by rw [e1]; exact h2)
    · refine .inr ?_
      cases e : H (ω₂.ad r f) with
      | none => rfl
      | some o =>
        obtain ⟨o1, e1⟩ := p.fr.st _ o e
        rw [h1] at e1
        cases e1
theorem Cont.keep (S : Stays F ω ω' H H') {a : Addr} (k : ∀ o, H a = some o → (∀ ps, o ≠ .tbl ps) → H' a = some o) : ∀ {d : D}, ContAt F ω H a d → ContAt F ω' H' a d
  | .list ds, h => by
    obtain ⟨vs, h1, h2⟩ := h
    exact ⟨vs, k _ h1 (fun ps z => by cases z), Reps.stays S _ _ h2⟩
  | .dict ds, h => by
    obtain ⟨vs, h1, h2⟩ := h
    refine ⟨vs, ?_, RepP.stays S _ _ h2⟩
    rcases h1 with h1 | ⟨o, h1⟩
    · exact .inl (k _ h1 fun ps z => by cases z)
    · exact .inr ⟨o, k _ h1 fun ps z => by cases z⟩
  | .none, h => h.elim
  | .bool _, h => h.elim
  | .int _, h => h.elim
  | .str _, h => h.elim
  | .tuple _, h => h.elim
theorem Cont.tracked {a : Addr} : ∀ {d : D}, ContAt F ω H a d → ∃ o, H a = some o ∧ ∀ ps, o ≠ .tbl ps
  | .list ds, h => by
    obtain ⟨vs, h1, h2⟩ := h
    exact ⟨_, h1, fun ps z => by cases z⟩
  | .dict ds, h => by
    obtain ⟨vs, h1, h2⟩ := h
    rcases h1 with h1 | ⟨o, h1⟩
    · exact ⟨_, h1, fun ps z => by cases z⟩
    · exact ⟨_, h1, fun ps z => by cases z⟩
  | .none, h => h.elim
  | .bool _, h => h.elim
  | .int _, h => h.elim
  | .str _, h => h.elim
  | .tuple _, h => h.elim
theorem SlRel.po {g : Ga} {σ : L2.St} (S : SlRel F ω g m σ H) (C : Cells F ω m H) (p : Po F wr ω m H ω' m' H') : SlRel F ω' g m' σ H' := by
  have T := p.stays C
  refine ⟨S.len, fun i d e => ?_, fun i d e => ?_, fun i d j e h1 h2 h3 => ?_⟩
  · obtain ⟨v, h1, h2⟩ := S.val i d e
    exact ⟨v, h1, Rep.stays T d v h2⟩
  · obtain ⟨h1, h2, h3, h4⟩ := S.own i d e
    obtain ⟨o, h5, _⟩ := Cont.tracked h2
    rw [p.sl]
    refine ⟨h1, Cont.keep T (fun o q nt => p.fr.keep _ o q (fun ⟨r, f, z1, _, z2⟩ => h4 r f z1 z2) nt) h2, p.fr.pb _ _ h5 h3, fun r f z e2 => ?_⟩
    rcases p.aq r f z with ⟨z1, z2⟩ | z1
    · exact h4 r f z1 (z2.symm.trans e2)
    · rw [e2, h5] at z1
      cases z1
  · rw [p.sl] at h3
    exact S.inj i d j e h1 h2 h3
end

/-! ### states and ends -/
structure Stt (F : Fx) (ω : Om) (g : Ga) (m : M) (σ : L2.St) (H : Hp) : Prop where
  sl : SlRel F ω g m σ H
  ce : Cells F ω m H
  tb : TabInv F H
def VRel (F : Fx) (bor : Bool) (ω : Om) (H : Hp) (d : D) (v : V) : Prop := Rep F ω H d v ∨ (bor = true ∧ ∃ a, v = .ref a ∧ ContAt F ω H a d)
def Fin {α β : Type} (F : Fx) (W : WX) (wr : Wr) (σ : L2.St) (rel : Om → Hp → α → β → Prop) (Q : β → Hp → Prop) (ω : Om) (m : M) (H : Hp) : R α → Prop
  | .stuck => False
  | .ok d m' => ∀ ω' v H', Po F wr ω m H ω' m' H' → rel ω' H' d v → Q v H'
  | .exc c m' => ∀ ω' H', Po F wr ω m H ω' m' H' → W (.ref (F.xa c)) none σ H'
def LG {α β : Type} (F : Fx) (W : WX) (rel : Om → Hp → α → β → Prop) (f : Wr → Ga → M → R α) : L2.St → Hp → (β → Hp → Prop) → Prop := fun σ H Q =>
  ∃ ω g m wr, Stt F ω g m σ H ∧ Fin F W wr σ rel Q ω m H (f wr g m)
abbrev LE (F : Fx) (W : WX) (bor : Bool) (f : Wr → Ga → M → R D) : TE := LG F W (VRel F bor) f
abbrev LA (F : Fx) (W : WX) (f : Wr → Ga → M → R (List D)) : TA := LG F W (Reps F) f
def RelB : Om → Hp → D → Bool → Prop := fun _ _ d b => d = .bool b
abbrev LT (F : Fx) (W : WX) (f : Wr → Ga → M → R D) : TT := fun σ H Q => LG F W RelB (fun wr g m => (f wr g m).bind fun d m' => match d with | .bool b => .ok (.bool b) m' | _ => .stuck) σ H Q

section
variable {F : Fx} {W : WX} {wr : Wr} {ω ω' ω₁ ω₂ : Om} {m m' m₁ m₂ : M} {H H' H₁ H₂ : Hp} {σ : L2.St} {g : Ga} {α β γ δ : Type}
theorem Stt.po (S : Stt F ω g m σ H) (p : Po F wr ω m H ω' m' H') : Stt F ω' g m' σ H' := ⟨S.sl.po S.ce p, p.cells, p.tabs⟩
theorem Fin.shift {rel : Om → Hp → α → β → Prop} {Q : β → Hp → Prop} (C : Cells F ω m H) (p : Po F wr ω m H ω₁ m₁ H₁) : ∀ {r : R α}, Fin F W wr σ rel Q ω m H r → Fin F W wr σ rel Q ω₁ m₁ H₁ r
  | .stuck, h => h
  | .ok d m', h => fun ω' v H' q => h ω' v H' (p.trans C q)
  | .exc c m', h => fun ω' H' q => h ω' H' (p.trans C q)
/-- a part first, then the rest -/
theorem Fin.bind {rel : Om → Hp → α → β → Prop} {rel' : Om → Hp → γ → δ → Prop} {Q : δ → Hp → Prop} {x : R α} {k : α → M → R γ} (C : Cells F ω m H) (h : Fin F W wr σ rel' Q ω m H (x.bind k)) :
    Fin F W wr σ rel (fun v H1 => ∃ ω₁ d m₁, x = .ok d m₁ ∧ Po F wr ω m H ω₁ m₁ H1 ∧ rel ω₁ H1 d v ∧ Fin F W wr σ rel' Q ω₁ m₁ H1 (k d m₁)) ω m H x := by
  cases x with
  | stuck => exact h
  | exc c m' => exact h
  | ok d m' => exact fun ω' v H' p r => ⟨ω', d, m', rfl, p, r, Fin.shift C p h⟩
theorem LG.of {rel : Om → Hp → α → β → Prop} {f : Wr → Ga → M → R α} {Q : β → Hp → Prop} (S : Stt F ω g m σ H) (h : Fin F W wr σ rel Q ω m H (f wr g m)) : LG F W rel f σ H Q := ⟨ω, g, m, wr, S, h⟩
theorem Fin.mono {rel : Om → Hp → α → β → Prop} {Q Q' : β → Hp → Prop} (hQ : ∀ v H, Q v H → Q' v H) : ∀ {r : R α}, Fin F W wr σ rel Q ω m H r → Fin F W wr σ rel Q' ω m H r
  | .stuck, h => h
  | .ok d m', h => fun ω' v H' q r => hQ _ _ (h ω' v H' q r)
  | .exc c m', h => h
end
theorem PE_imp {X : Cx} {e : Expr} {t t' : TE} (h : PE X e t) (i : ∀ σ H Q, t' σ H Q → t σ H Q) : PE X e t' := ⟨fun pins s σ H Q I hw => h.run pins s σ H Q I (i σ H Q hw)⟩
theorem PT_imp {X : Cx} {e : Expr} {t t' : TT} (h : PT X e t) (i : ∀ σ H Q, t' σ H Q → t σ H Q) : PT X e t' := ⟨fun pins s σ H Q I hw => h.run pins s σ H Q I (i σ H Q hw)⟩
theorem PW_imp {X : Cx} {e : Expr} {t t' : TT} (h : PW X e t) (i : ∀ σ H Q, t' σ H Q → t σ H Q) : PW X e t' := ⟨fun wh pins s σ H Q I hw => h.run wh pins s σ H Q I (i σ H Q hw)⟩
theorem PA_imp {X : Cx} {e : List Expr} {t t' : TA} (h : PA X e t) (i : ∀ σ H Q, t' σ H Q → t σ H Q) : PA X e t' := ⟨fun pos pins s σ H Q I hw => h.run pos pins s σ H Q I (i σ H Q hw)⟩
theorem PS_imp {X : Cx} {e : Stmt} {t t' : TS} (h : PS X e t) (i : ∀ D σ H, t' D σ H → t D σ H) : PS X e t' := ⟨fun pins s σ H D I hw => h.run pins s σ H D I (i D σ H hw)⟩
theorem PSs_imp {X : Cx} {e : List Stmt} {t t' : TS} (h : PSs X e t) (i : ∀ D σ H, t' D σ H → t D σ H) : PSs X e t' := ⟨fun pins s σ H D I hw => h.run pins s σ H D I (i D σ H hw)⟩

/-! ### new objects -/
def Om.out (ω : Om) (p : Addr) : Om := { ω with B := fun b => ω.B b ∧ b ≠ p }
def Om.inn (ω : Om) (p : Addr) : Om := { ω with B := fun b => ω.B b ∨ b = p }
section
variable {F : Fx} {W : WX} {wr : Wr} {ω ω' : Om} {m m' : M} {H H' : Hp} {σ : L2.St} {g : Ga} {p : Addr} {o : HO}
theorem stays_new (hp : H p = none) (ω' : Om) (hn : ω'.n = ω.n) (ha : ω'.ad = ω.ad) (hb : ∀ b o, H b = some o → ¬ ω.B b → ¬ ω'.B b) : Stays F ω ω' H (upd H p o) :=
  ⟨Nat.le_of_eq hn.symm, fun r _ => by rw [ha], fun b o h _ _ => .inl (by rw [upd_ne (ne_of_none h hp)]; exact h), hb⟩
theorem Paired.mp' {α β : Type} {P Q : α → β → Prop} (h : ∀ a b, P a b → Q a b) : ∀ {xs : List α} {ys : List β}, Paired P xs ys → Paired Q xs ys
  | _, _, .nil => .nil
  | _, _, .cons a b => .cons (h _ _ a) (Paired.mp' h b)
/-- the cells stand where their own objects stay -/
theorem CellAt.stays (S : Stays F ω ω' H H') {r : Nat} {c : Cell} (hr : ω'.ad r = ω.ad r) (k : ∀ f : Str, (f = "" ∨ ∃ c' fs d, c = .ins c' fs ∧ (f, true, d) ∈ fs) → ∀ o, H (ω.ad r f) = some o → (∀ ps, o ≠ .tbl ps) → H' (ω.ad r f) = some o) (h : CellAt F ω H r c) : CellAt F ω' H' r c := by
  cases c with
  | dic kvs => exact h
  | lst xs =>
    obtain ⟨vs, h1, h2⟩ := h
    exact ⟨vs, by rw [hr]; exact k "" (.inl rfl) _ h1 (fun ps z => by cases z), Reps.stays S _ _ h2⟩
  | ins c fs =>
    obtain ⟨dx, vs, h1, h2⟩ := h
    refine ⟨dx, vs, by rw [hr]; exact k "" (.inl rfl) _ h1 (fun ps z => by cases z), ?_⟩
    have all : ∀ (l : List (Str × Bool × D)) (us : List (Str × V)), (∀ q ∈ l, q ∈ fs) → Paired (FvRel F ω H r) l us → Paired (FvRel F ω' H' r) l us := by
      intro l
      induction l with
      | nil => intro us _ q; cases q; exact .nil
      | cons q l ih =>
        intro us hs hq
        cases hq with
        | cons a b =>
          refine .cons ?_ (ih _ (fun z hz => hs z (List.mem_cons_of_mem _ hz)) b)
          obtain ⟨f, own, d⟩ := q
          obtain ⟨e, a⟩ := a
          refine ⟨e, ?_⟩
          cases own with
          | false => exact Rep.stays S _ _ a
          | true =>
            obtain ⟨a0, a1, a2⟩ := a
            refine ⟨a0, by rw [hr]; exact a1, ?_⟩
            show ContAt F ω' H' (ω'.ad r f) d
            rw [hr]
            exact Cont.keep S (k f (.inr ⟨c, fs, d, rfl, hs _ List.mem_cons_self⟩)) a2
    exact all fs vs (fun _ z => z) h2
theorem lookup_of_mem {α : Type} : ∀ {l : List (Str × α)} {f : Str} {a : α}, (l.map (·.1)).Nodup → (f, a) ∈ l → l.lookup f = some a
  | (k, b) :: r, f, a, nd, h => by
    rw [List.map_cons, List.nodup_cons] at nd
    rw [List.lookup_cons]
    rcases List.mem_cons.mp h with e | h
    · cases e
      simp
    · have : (f == k) = false := by
        rw [beq_eq_false_iff_ne]
        intro e
        exact nd.1 (List.mem_map.mpr ⟨(f, a), h, e⟩)
      rw [this]
      exact lookup_of_mem nd.2 h
theorem Cells.tracked (C : Cells F ω m H) {r : Nat} {f : Str} (h : LvC m r f) : ∃ o, H (ω.ad r f) = some o ∧ ∀ ps, o ≠ .tbl ps := by
  obtain ⟨hr, h⟩ := h
  have e : m[r]? = some m[r] := List.getElem?_eq_getElem hr
  have a := C.at_ r _ e
  rcases h with rfl | ⟨c, fs, d, e2, h2, h3⟩
  · cases hc : m[r] with
    | lst xs => rw [hc] at a; obtain ⟨vs, h1, _⟩ := a; exact ⟨_, h1, fun ps z => by cases z⟩
    | ins c fs => rw [hc] at a; obtain ⟨dx, vs, h1, _⟩ := a; exact ⟨_, h1, fun ps z => by cases z⟩
    | dic kvs => rw [hc] at a; exact a.elim
  · rw [e] at e2
    rw [Option.some.inj e2] at a
    obtain ⟨dx, vs, _, h4⟩ := a
    have all : ∀ (l : List (Str × Bool × D)) (us : List (Str × V)), Paired (FvRel F ω H r) l us → (f, true, d) ∈ l → ∃ o, H (ω.ad r f) = some o ∧ ∀ ps, o ≠ .tbl ps := by
      intro l
      induction l with
      | nil => intro us _ q; cases q
      | cons q l ih =>
        intro us hq hm
        cases hq with
        | cons a b =>
          rcases List.mem_cons.mp hm with e | hm
          · subst e
            obtain ⟨_, _, _, a⟩ := a
            exact Cont.tracked a
          · exact ih _ b hm
    exact all fs vs h4 (PySem.mem_of_lookup h2)
theorem lvC_own {r c : Nat} {fs : List (Str × Bool × D)} {f : Str} {d : D} (nd : (fs.map (·.1)).Nodup) (e : m[r]? = some (.ins c fs)) (h : (f, true, d) ∈ fs) (hf : f ≠ "") : LvC m r f :=
  ⟨(List.getElem?_eq_some_iff.mp e).1, .inr ⟨c, fs, d, e, lookup_of_mem nd h, hf⟩⟩
theorem own_ne {r c : Nat} {fs : List (Str × Bool × D)} {vs : List (Str × V)} (h : Paired (FvRel F ω H r) fs vs) {f : Str} {d : D} (hm : (f, true, d) ∈ fs) : f ≠ "" := by
  induction h with
  | nil => cases hm
  | cons a b ih =>
    rcases List.mem_cons.mp hm with e | hm
    · subst e
      exact a.2.1
    · exact ih hm
/-- all cells stand where no own object changes -/
theorem Cells.stays (C : Cells F ω m H) (S : Stays F ω ω' H H') (hn : ω'.n = ω.n) (ha : ω'.ad = ω.ad) (hb : ∀ b o, H b = some o → ω.B b → ω'.B b) (k : ∀ b o, H b = some o → (∀ ps, o ≠ .tbl ps) → H' b = some o) : Cells F ω' m H' := by
  refine ⟨C.len.trans hn.symm, fun r c e => ?_, fun r f r' f' h1 h2 h3 => ?_, fun r f h => ?_, C.nd⟩
  · exact CellAt.stays S (by rw [ha]) (fun f _ o h nt => k _ o h nt) (C.at_ r c e)
  · rw [ha] at h3
    exact C.inj r f r' f' h1 h2 h3
  · rw [ha]
    obtain ⟨o, e, _⟩ := C.tracked h
    exact hb _ _ e (C.inB r f h)
theorem TabInv.ext (T : TabInv F H) (k : ∀ b o, H b = some o → H' b = some o) : TabInv F H' :=
  ⟨fun P hP => let ⟨ps, h1, h2⟩ := T.1 P hP; ⟨ps, k _ _ h1, h2⟩, T.2.ext k⟩
/-- a new object is laid -/
theorem Po.new (C : Cells F ω m H) (T : TabInv F H) (hp : H p = none) : Po F wr ω m H (ω.out p) m (upd H p o) := by
  have k : ∀ b u, H b = some u → upd H p o b = some u := fun b u h => by rw [upd_ne (ne_of_none h hp)]; exact h
  have nb : ∀ b u, H b = some u → ¬ ω.B b → ¬ (ω.out p).B b := fun b u _ h z => h z.1
  have pb : ∀ b u, H b = some u → ω.B b → (ω.out p).B b := fun b u h z => ⟨z, ne_of_none h hp⟩
  exact ⟨Nat.le_refl _, fun _ _ => rfl, rfl, ⟨fun b u h _ _ => k b u h, fun b ps h => ⟨#[], by rw [k _ _ h]; simp⟩, nb, pb, fun b u h => ⟨u, k b u h⟩⟩, fun r f h => .inl ⟨h, rfl⟩,
    C.stays (stays_new hp _ rfl rfl nb) rfl rfl pb (fun b u h _ => k b u h), T.ext k⟩
/-- .. and is somebody's own -/
theorem Po.newO (C : Cells F ω m H) (T : TabInv F H) (hp : H p = none) : Po F wr ω m H (ω.inn p) m (upd H p o) := by
  have k : ∀ b u, H b = some u → upd H p o b = some u := fun b u h => by rw [upd_ne (ne_of_none h hp)]; exact h
  have nb : ∀ b u, H b = some u → ¬ ω.B b → ¬ (ω.inn p).B b := fun b u h hn z => z.elim hn (ne_of_none h hp)
  have pb : ∀ b u, H b = some u → ω.B b → (ω.inn p).B b := fun b u h z => .inl z
  exact ⟨Nat.le_refl _, fun _ _ => rfl, rfl, ⟨fun b u h _ _ => k b u h, fun b ps h => ⟨#[], by rw [k _ _ h]; simp⟩, nb, pb, fun b u h => ⟨u, k b u h⟩⟩, fun r f h => .inl ⟨h, rfl⟩,
    C.stays (stays_new hp _ rfl rfl nb) rfl rfl pb (fun b u h _ => k b u h), T.ext k⟩
end
end Ev
end
section
set_option linter.all false
set_option autoImplicit false
set_option maxRecDepth 100000
/-! Ev, part E: operators. -/
namespace Ev
open PySem L2

section
variable {F : Fx} {W : WX} {wr : Wr} {ω ω' ω₁ ω₂ : Om} {m m' m₁ m₂ : M} {H H' H₁ H₂ : Hp} {σ : L2.St} {g : Ga}
theorem ub0 {b : Addr} : ¬ Ub ω m wr0 b := fun ⟨_, _, _, h, _⟩ => by cases h
theorem Po.drop (C : Cells F ω m H) (q : Po F wr0 ω m H ω₂ m₂ H₂) : Po F wr ω m H { ω with B := ω₂.B } m H₂ := by
  have k : ∀ b o, H b = some o → (∀ ps, o ≠ .tbl ps) → H₂ b = some o := fun b o h nt => q.fr.keep b o h ub0 nt
  refine ⟨Nat.le_refl _, fun _ _ => rfl, rfl, ⟨fun b o h _ nt => k b o h nt, q.fr.tab, q.fr.nb, q.fr.pb, q.fr.st⟩, fun r f h => .inl ⟨h, rfl⟩, ?_, q.tabs⟩
  exact C.stays ⟨Nat.le_refl _, fun _ _ => rfl, fun b o h _ nt => .inl (k b o h nt), q.fr.nb⟩ rfl rfl q.fr.pb k
mutual
theorem Rep.dp : ∀ (d : D) (v : V), Rep F ω H d v → PyData.canLay0 d = true → Dp F.K H v d
  | .none, _, h, _ => by
    have h : _ = _ := h
    subst h
    exact .non
  | .bool _, _, h, _ => by
    have h : _ = _ := h
    subst h
    exact .bl _
  | .int _, _, h, _ => by
    have h : _ = _ := h
    subst h
    exact .int _
  | .str _, _, h, _ => by
    have h : _ = _ := h
    subst h
    exact .str _
  | .list ds, _, h, c => by
    obtain ⟨a, vs, rfl, h1, h2, h3⟩ := h
    exact .lst (SqL.of h1) (Reps.dp ds vs h3 (by simpa [PyData.canLay0] using c))
  | .tuple ds, _, h, c => by
    obtain ⟨a, vs, rfl, h1, h3⟩ := h
    exact .tup h1.sq (Reps.dp ds vs h3 (by simpa [PyData.canLay0] using c))
  | .dict kvs, _, h, c => by simp [PyData.canLay0] at c
theorem Reps.dp : ∀ (ds : List D) (vs : List V), Reps F ω H ds vs → PyData.canLayAll0 ds = true → DpAll F.K H vs ds
  | [], _, h, _ => by
    have h : _ = [] := h
    subst h
    exact .nil
  | d :: ds, _, h, c => by
    obtain ⟨v, r, rfl, h1, h2⟩ := h
    rw [PyData.canLayAll0, Bool.and_eq_true] at c
    exact .cons (Rep.dp d v h1 c.1) (Reps.dp ds r h2 c.2)
end
theorem VRel.dp {bor : Bool} {d : D} {v : V} (h : VRel F bor ω H d v) (c : SeqAt.shaped d = true) : Dp F.K H v d := by
  have c := SeqAt.canLay_of_shaped c
  rcases h with h | ⟨_, a, rfl, h⟩
  · exact Rep.dp d v h c
  · cases d with
    | list ds =>
      obtain ⟨vs, h1, h2⟩ := h
      exact .lst (SqL.of h1) (Reps.dp ds vs h2 (by simpa [PyData.canLay0] using c))
    | dict _ => simp [PyData.canLay0] at c
    | none => exact h.elim
    | bool _ => exact h.elim
    | int _ => exact h.elim
    | str _ => exact h.elim
    | tuple _ => exact h.elim
theorem VRel.po {bor : Bool} {d : D} {v : V} (C : Cells F ω m H) (p : Po F wr ω m H ω' m' H') (hb : bor = true → wr = wr0) (h : VRel F bor ω H d v) : VRel F bor ω' H' d v := by
  rcases h with h | ⟨e, a, rfl, h⟩
  · exact .inl (Rep.stays (p.stays C) _ _ h)
  · refine .inr ⟨e, a, rfl, Cont.keep (p.stays C) (fun o q nt => p.fr.keep _ o q ?_ nt) h⟩
    rw [hb e]
    exact ub0
/-- a list's or a tuple's items, whoever owns it -/
theorem VRel.list {bor : Bool} {ds : List D} {v : V} (h : VRel F bor ω H (.list ds) v) : ∃ a vs, v = .ref a ∧ H a = some (.lst vs) ∧ Reps F ω H ds vs := by
  rcases h with ⟨a, vs, e, h1, _, h3⟩ | ⟨_, a, e, vs, h1, h3⟩
  · exact ⟨a, vs, e, h1, h3⟩
  · exact ⟨a, vs, e, h1, h3⟩
theorem VRel.tup {bor : Bool} {ds : List D} {v : V} (h : VRel F bor ω H (.tuple ds) v) : ∃ a vs, v = .ref a ∧ TupAt F ω H a vs ∧ Reps F ω H ds vs := by
  rcases h with ⟨a, vs, e, h1, h3⟩ | ⟨_, a, e, h⟩
  · exact ⟨a, vs, e, h1, h3⟩
  · exact h.elim
theorem VRel.int {bor : Bool} {i : Int} {v : V} (h : VRel F bor ω H (.int i) v) : v = .int i := by
  rcases h with h | ⟨_, a, e, h⟩
  · exact h
  · exact h.elim
theorem VRel.bool {bor : Bool} {i : Bool} {v : V} (h : VRel F bor ω H (.bool i) v) : v = .bl i := by
  rcases h with h | ⟨_, a, e, h⟩
  · exact h
  · exact h.elim
theorem VRel.str {bor : Bool} {i : Str} {v : V} (h : VRel F bor ω H (.str i) v) : v = .str i := by
  rcases h with h | ⟨_, a, e, h⟩
  · exact h
  · exact h.elim
theorem VRel.pure {d : D} {v : V} (h : VRel F false ω H d v) : Rep F ω H d v := by
  rcases h with h | ⟨e, _⟩
  · exact h
  · cases e
theorem asCell_eq {d : D} {r : Nat} (h : asCell d = some r) : d = cellD r := by
  unfold asCell at h
  split at h
  · cases h
    rfl
  · cases h
/-- a cell's reference -/
theorem VRel.cell {bor : Bool} {d : D} {r : Nat} {v : V} (e : asCell d = some r) (h : VRel F bor ω H d v) : r < ω.n ∧ v = .ref (ω.ad r "") := by
  have e1 := asCell_eq e
  subst e1
  have noP : ∀ vs, ¬ RepP F ω H [((.dict [] : D), (.int r : D))] vs := fun vs h => by
    obtain ⟨k', v, r', _, h2, _⟩ := h
    exact h2.elim
  rcases h with h | ⟨_, a, rfl, h⟩
  · rcases h with ⟨r', h1, h2, h3⟩ | ⟨a, ns, h1, _⟩ | ⟨a, vs, _, _, _, h3⟩
    · have z : asCell (cellD r) = some r' := h1
      have z2 : some r = some r' := z
      cases z2
      exact ⟨h2, h3⟩
    · unfold scrD at h1
      simp at h1
    · exact (noP _ h3).elim
  · obtain ⟨vs, _, h2⟩ := h
    exact (noP _ h2).elim
end

/-- an operator by its meaning: a (perhaps owned by somebody) and b; the result is new or a part of theirs -/
def Op2 (X : Cx) (F : Fx) (ba bb : Bool) (r : R2) (sem : D → D → Option D) : Prop :=
  ∀ (wr : Wr) (ω : Om) (m : M) (H : Hp) (x y : V) (dx dy d : D) (Q : VK), Cells F ω m H → TabInv F H → VRel F ba ω H dx x → VRel F bb ω H dy y → sem dx dy = some d →
    (∀ ω' v H', Po F wr ω m H ω' m H' → Rep F ω' H' d v → Q v H') → r x y H Q
section
variable {X : Cx} {F : Fx}
/-- the operators of a BinOp -/
def rBin : BOp → PySem.W.Frag → R2
  | .add, K => fun x y H Q => rI0 (fun i j => .int (i + j)) x y H Q ∨ (∃ i j, x = .str i ∧ y = .str j ∧ i.length + j.length ≤ sizeLine ∧ Q (.str (i ++ j)) H) ∨ rCat x y H Q ∨ rCatA K x y H Q
  | .sub, _ => rI0 fun i j => .int (i - j)
  | .mul, _ => fun x y H Q => rI CMul (fun i j => .int (i * j)) x y H Q ∨ rI CMulW (fun i j => .int (i * j)) x y H Q ∨ rRep x y H Q
  | .fdiv, _ => rI CDivW fun i j => .int (i / j)
  | .mod, _ => rI (fun _ j => 0 < j) fun i j => .int (i % j)
  | .pow, _ => rI CPow fun i j => .int (i ^ j.toNat)
def pyB : BOp → Operator
  | .add => .Add | .sub => .Sub | .mul => .Mult | .fdiv => .FloorDiv | .mod => .Mod | .pow => .Pow
theorem OpR_or {f : Value → Value → Sem Value} {r r' : R2} (h : OpR X f r) (h' : OpR X f r') : OpR X f (fun x y H Q => r x y H Q ∨ r' x y H Q) := h.or h'
theorem or_bin (o : BOp) : OpR X (binaryOp (pyB o)) (rBin o X.K) := by
  cases o with
  | add => exact OpR_or op_add (OpR_or op_add_str (OpR_or op_cat op_catA))
  | sub => exact op_sub
  | mul => exact OpR_or op_mul (OpR_or op_mulW op_rep)
  | fdiv => exact op_fdivW
  | mod => exact op_mod
  | pow => exact op_pow
theorem Reps.rep : ∀ {ω : Om} {H : Hp} (k : Nat) {xs : List D} {vs : List V}, Reps F ω H xs vs → Reps F ω H (List.replicate k xs).flatten (List.replicate k vs).flatten
  | ω, H, 0, _, _, _ => rfl
  | ω, H, k + 1, xs, vs, h => by
    rw [List.replicate_succ, List.replicate_succ, List.flatten_cons, List.flatten_cons]
    exact Reps.app h (Reps.rep k h)
theorem bin_sound (o : BOp) (hK : X.K = F.K) : Op2 X F false false (rBin o X.K) (semBin o) := by
  intro wr ω m H x y dx dy d Q C T hx hy hs hQ
  have hx := hx.pure
  have hy := hy.pure
  have q0 : ∀ {v : V}, Rep F ω H d v → Q v H := fun r => hQ ω _ H (Po.refl C T) r
  have newL : ∀ {ds es : List D} {p : Addr} {vs us : List V}, d = .list ds → Reps F ω H ds vs → H p = none → Q (.ref p) (upd H p (.lst vs)) := fun {ds es p vs us} e h hp => by
    subst e
    refine hQ (ω.out p) _ _ (Po.new C T hp) ⟨p, vs, rfl, upd_same, fun z => z.2 rfl, Reps.stays ((Po.new (wr := wr) (o := .lst vs) C T hp).stays C) _ _ h⟩
  have newT : ∀ {ds es : List D} {p : Addr} {vs us : List V}, d = .tuple ds → Reps F ω H ds vs → H p = none → Q (.ref p) (upd H p (.tup vs)) := fun {ds es p vs us} e h hp => by
    subst e
    refine hQ (ω.out p) _ _ (Po.new C T hp) ⟨p, vs, rfl, .inl ⟨upd_same, fun z => z.2 rfl⟩, Reps.stays ((Po.new (wr := wr) (o := .tup vs) C T hp).stays C) _ _ h⟩
  unfold semBin at hs
  split at hs
  · cases hs
    exact .inl ⟨_, _, hx, hy, q0 rfl⟩
  · split at hs
    · cases hs
      rename_i hl
      exact .inr (.inl ⟨_, _, hx, hy, hl, q0 rfl⟩)
    · cases hs
  · split at hs
    · cases hs
      rename_i hl
      obtain ⟨a, vs, rfl, h1, _, h3⟩ := hx
      obtain ⟨b, us, rfl, k1, _, k3⟩ := hy
      refine .inr (.inr (.inl ⟨a, b, vs, us, rfl, rfl, h1, k1, by rw [h3.length, k3.length]; exact hl, fun p hp => newL (es := []) (us := []) rfl (Reps.app h3 k3) hp⟩))
    · cases hs
  · split at hs
    · cases hs
      rename_i hl
      obtain ⟨a, vs, rfl, h1, h3⟩ := hx
      obtain ⟨b, us, rfl, k1, k3⟩ := hy
      refine .inr (.inr (.inr ⟨a, b, vs, us, rfl, rfl, by rw [hK]; exact h1.sq, by rw [hK]; exact k1.sq, by rw [h3.length, k3.length]; exact hl, fun e => ?_, fun _ e => ?_, fun _ _ p hp => newT (es := []) (us := []) rfl (Reps.app h3 k3) hp⟩))
      · subst e
        refine q0 ⟨b, us, rfl, k1, ?_⟩
        have := h3.length
        simp at this
        have e2 := List.length_eq_zero_iff.mp this.symm
        rw [e2]
        exact k3
      · subst e
        refine q0 ⟨a, vs, rfl, h1, ?_⟩
        have := k3.length
        simp at this
        have e2 := List.length_eq_zero_iff.mp this.symm
        rw [e2, List.append_nil]
        exact h3
    · cases hs
  · cases hs
    exact ⟨_, _, hx, hy, q0 rfl⟩
  · split at hs
    · cases hs
      rename_i i j hm
      unfold mulOk at hm
      rw [Bool.or_eq_true, Bool.or_eq_true, decide_eq_true_eq, decide_eq_true_eq, decide_eq_true_eq] at hm
      rcases hm with (hm | hm) | hm
      · exact .inl ⟨_, _, hx, hy, .inl (by omega), q0 rfl⟩
      · exact .inl ⟨_, _, hx, hy, .inr (by omega), q0 rfl⟩
      · exact .inr (.inl ⟨_, _, hx, hy, hm, q0 rfl⟩)
    · cases hs
  · split at hs
    · cases hs
      rename_i hl
      obtain ⟨a, vs, rfl, h1, _, h3⟩ := hx
      refine .inr (.inr ⟨a, _, vs, rfl, hy, h1, hl.2.1, hl.1, by rw [h3.length]; exact hl.2.2, fun p hp => newL (es := []) (us := []) rfl (Reps.rep _ h3) hp⟩)
    · cases hs
  · split at hs
    · cases hs
      rename_i hl
      exact ⟨_, _, hx, hy, hl, q0 rfl⟩
    · cases hs
  · split at hs
    · cases hs
      rename_i hl
      exact ⟨_, _, hx, hy, hl, q0 rfl⟩
    · cases hs
  · split at hs
    · cases hs
      rename_i hl
      exact ⟨_, _, hx, hy, ⟨hl.1, by omega, hl.2.2⟩, q0 rfl⟩
    · cases hs
  · cases hs
end
end Ev
end
section
set_option linter.all false
set_option autoImplicit false
set_option maxRecDepth 100000
/-! Ev, part F: comparisons, items, slices. -/
namespace Ev
open PySem L2

section
variable {X : Cx} {F : Fx}
def rInT (K : PySem.W.Frag) (neg : Bool) : R2 := fun x y H Q => ∃ d ds, Dp K H x d ∧ Dp K H y (.tuple ds) ∧ SeqAt.shaped d = true ∧ SeqAt.shaped (.tuple ds) = true ∧ Q (.bl (if neg then !(ds.any fun z => PyData.eqv z d) else ds.any fun z => PyData.eqv z d)) H
theorem op_inT (hu : X.A.units + 65 < cLine) : OpR X (compareOp .In) (rInT X.K false) := by
  intro pins s σ H x y v u Q I rx ry h
  obtain ⟨d, ds, hd, he, sd, se, q⟩ := h
  obtain ⟨as, r1⟩ := Dp.reads I d x v hd rx
  obtain ⟨bs, r2⟩ := Dp.reads I (.tuple ds) y u he ry
  exact SeqAt.in_tuple_reads r2 r1 (SeqAt.canLay_of_shaped se) (SeqAt.canLay_of_shaped sd) (PyProof.Rows.room_in_shaped sd hu) ⟨.bl _, H, I, rfl, q⟩
theorem op_notInT (hu : X.A.units + 65 < cLine) : OpR X (compareOp .NotIn) (rInT X.K true) := by
  intro pins s σ H x y v u Q I rx ry h
  obtain ⟨d, ds, hd, he, sd, se, q⟩ := h
  obtain ⟨as, r1⟩ := Dp.reads I d x v hd rx
  obtain ⟨bs, r2⟩ := Dp.reads I (.tuple ds) y u he ry
  exact SeqAt.notIn_tuple_reads r2 r1 (SeqAt.canLay_of_shaped se) (SeqAt.canLay_of_shaped sd) (PyProof.Rows.room_in_shaped sd hu) ⟨.bl _, H, I, rfl, q⟩
def pyC : COp → CmpOp
  | .lt => .Lt | .le => .LtE | .gt => .Gt | .ge => .GtE | .eq => .Eq | .ne => .NotEq | .isin => .In | .notin => .NotIn | .isN => .Is | .notN => .IsNot
def rCmp : COp → PySem.W.Frag → R2
  | .lt, _ => rI0 fun i j => .bl (decide (i < j))
  | .le, _ => rI0 fun i j => .bl (decide (i ≤ j))
  | .gt, _ => rI0 fun i j => .bl (decide (j < i))
  | .ge, _ => rI0 fun i j => .bl (decide (j ≤ i))
  | .eq, K => rEqD K
  | .ne, K => rNeD K
  | .isin, K => fun x y H Q => rInD K x y H Q ∨ rInT K false x y H Q ∨ ∃ (c : Nat) (z : Str), x = .str ⟨#[c]⟩ ∧ y = .str z ∧ Q (.bl (decide (c ∈ z.cps.toList))) H
  | .notin, K => fun x y H Q => rNotInD K x y H Q ∨ rInT K true x y H Q ∨ ∃ (c : Nat) (z : Str), x = .str ⟨#[c]⟩ ∧ y = .str z ∧ Q (.bl (!decide (c ∈ z.cps.toList))) H
  | .isN, _ => fun x y H Q => y = .non ∧ Q (.bl (decide (x = .non))) H
  | .notN, _ => fun x y H Q => y = .non ∧ Q (.bl (!decide (x = .non))) H
theorem or_cmp {k : Nat} (o : COp) (hr : Room k X.A) : OpR X (compareOp (pyC o)) (rCmp o X.K) := by
  have hu : X.A.units + 64 < cLine := hr.units
  have hu2 : X.A.units + 65 < cLine := by have := hr.un; omega
  cases o with
  | lt => exact op_lt
  | le => exact op_le
  | gt => exact op_gt
  | ge => exact op_ge
  | eq => exact op_eqD hu
  | ne => exact op_neD hu
  | isin => exact OpR_or (op_inD hu2) (OpR_or (op_inT hu2) op_in_sign)
  | notin => exact OpR_or (op_notInD hu2) (OpR_or (op_notInT hu2) op_notIn_sign)
  | isN => exact op_isN
  | notN => exact op_notN
theorem str_one {c : Str} (h : c.length = 1) : c = ⟨#[c.cps.getD 0 0]⟩ := by
  obtain ⟨⟨l⟩⟩ := c
  match l, h with
  | [x], _ => rfl
theorem VRel.isNone {bor : Bool} {ω : Om} {H : Hp} {d : D} {v : V} (h : VRel F bor ω H d v) : decide (v = .non) = isNoneD d := by
  cases d with
  | none =>
    rcases h with h | ⟨_, a, e, h⟩
    · have h : v = .non := h
      subst h
      rfl
    · exact h.elim
  | bool b => rw [h.bool]; rfl
  | int i => rw [h.int]; rfl
  | str i => rw [h.str]; rfl
  | list ds =>
    obtain ⟨a, vs, rfl, _⟩ := h.list
    rfl
  | tuple ds =>
    obtain ⟨a, vs, rfl, _⟩ := h.tup
    rfl
  | dict ds =>
    rcases h with h | ⟨_, a, rfl, h⟩
    · rcases h with ⟨r, _, _, rfl⟩ | ⟨a, ns, _, rfl, _⟩ | ⟨a, vs, rfl, _⟩
      · rfl
      · rfl
      · rfl
    · rfl
/-- a comparison by its meaning -/
theorem cmp_sound (o : COp) (hK : X.K = F.K) {ba bb : Bool} {ω ω₂ : Om} {H : Hp} {x y : V} {dx dy : D} {c : Bool} {Q : VK} (hx : VRel F ba ω H dx x) (hy : VRel F bb ω₂ H dy y) (hs : semCmp o dx dy = some c) (q : Q (.bl c) H) : rCmp o X.K x y H Q := by
  rw [hK]
  unfold semCmp at hs
  split at hs
  · cases hs; exact ⟨_, _, hx.int, hy.int, q⟩
  · cases hs; exact ⟨_, _, hx.int, hy.int, q⟩
  · cases hs; exact ⟨_, _, hx.int, hy.int, q⟩
  · cases hs; exact ⟨_, _, hx.int, hy.int, q⟩
  · unfold eqS at hs
    split at hs
    · rename_i hsh
      cases hs
      rw [Bool.and_eq_true] at hsh
      exact ⟨dx, dy, hx.dp hsh.1, hy.dp hsh.2, hsh.1, hsh.2, q⟩
    · cases hs
  · unfold eqS at hs
    split at hs
    · rename_i hsh
      cases hs
      rw [Bool.and_eq_true] at hsh
      exact ⟨dx, dy, hx.dp hsh.1, hy.dp hsh.2, hsh.1, hsh.2, q⟩
    · cases hs
  · unfold semIn at hs
    split at hs
    · split at hs
      · rename_i hsh
        cases hs
        rw [Bool.and_eq_true] at hsh
        exact .inl ⟨dx, _, hx.dp hsh.1, hy.dp hsh.2, hsh.1, hsh.2, q⟩
      · cases hs
    · split at hs
      · rename_i hsh
        cases hs
        rw [Bool.and_eq_true] at hsh
        exact .inr (.inl ⟨dx, _, hx.dp hsh.1, hy.dp hsh.2, hsh.1, hsh.2, q⟩)
      · cases hs
    · split at hs
      · split at hs
        · rename_i hl
          cases hs
          exact .inr (.inr ⟨_, _, by rw [hx.str]; exact congrArg V.str (str_one hl), hy.str, q⟩)
        · cases hs
      · cases hs
    · cases hs
  · unfold semIn at hs
    split at hs
    · split at hs
      · rename_i hsh
        cases hs
        rw [Bool.and_eq_true] at hsh
        exact .inl ⟨dx, _, hx.dp hsh.1, hy.dp hsh.2, hsh.1, hsh.2, q⟩
      · cases hs
    · split at hs
      · rename_i hsh
        cases hs
        rw [Bool.and_eq_true] at hsh
        exact .inr (.inl ⟨dx, _, hx.dp hsh.1, hy.dp hsh.2, hsh.1, hsh.2, q⟩)
      · cases hs
    · split at hs
      · split at hs
        · rename_i hl
          cases hs
          exact .inr (.inr ⟨_, _, by rw [hx.str]; exact congrArg V.str (str_one hl), hy.str, q⟩)
        · cases hs
      · cases hs
    · cases hs
  · cases hs
    refine ⟨?_, ?_⟩
    · rcases hy with hy | ⟨_, a, e, h⟩
      · exact hy
      · exact h.elim
    · show Q (.bl (decide (x = .non))) H
      rw [hx.isNone]
      exact q
  · cases hs
    refine ⟨?_, ?_⟩
    · rcases hy with hy | ⟨_, a, e, h⟩
      · exact hy
      · exact h.elim
    · show Q (.bl (!decide (x = .non))) H
      rw [hx.isNone]
      exact q
  · cases hs

theorem Reps.atI {ω : Om} {H : Hp} {xs : List D} {vs : List V} {i : Int} {d : D} (h : Reps F ω H xs vs) (e : L2.atI xs i = some d) : ∃ v, L2.atI vs i = some v ∧ Rep F ω H d v := by
  unfold L2.atI at e ⊢
  rw [h.length]
  cases hx : ixN xs.length i with
  | none => rw [hx] at e; cases e
  | some j =>
    rw [hx] at e
    exact Reps.get h e
/-- an item by its meaning -/
theorem idx_sound (hK : X.K = F.K) {ba bb : Bool} {ω ω₂ : Om} {m : M} {H : Hp} {x y : V} {dx dy d : D} {Q : VK} (C : Cells F ω m H) (hx : VRel F ba ω H dx x) (hy : VRel F bb ω₂ H dy y) (hs : semIdx m dx dy = some d) (q : ∀ v, Rep F ω H d v → Q v H) : rIx X.K x y H Q := by
  rw [hK]
  unfold semIdx at hs
  split at hs
  · obtain ⟨a, vs, rfl, h1, h2⟩ := hx.list
    obtain ⟨v, e1, e2⟩ := h2.atI hs
    exact .inl ⟨a, vs, _, v, rfl, hy.int, SqL.of h1, e1, q v e2⟩
  · obtain ⟨a, vs, rfl, h1, h2⟩ := hx.tup
    obtain ⟨v, e1, e2⟩ := h2.atI hs
    exact .inr (.inl ⟨a, vs, _, v, rfl, hy.int, h1.sq, e1, q v e2⟩)
  · split at hs
    · rename_i hl
      cases hc : L2.atI (Str.cps _).toList _ with
      | none => rw [hc] at hs; cases hs
      | some c =>
        rw [hc] at hs
        cases hs
        exact .inr (.inr ⟨_, _, c, hx.str, hy.int, hl, hc, q _ rfl⟩)
    · cases hs
  · split at hs
    · rename_i r hr
      cases hm : m[r]? with
      | none => simp [hm] at hs
      | some c =>
        cases c with
        | ins c fs => simp [hm] at hs
        | dic kvs => simp [hm] at hs
        | lst xs =>
          cases dy with
          | int i =>
            simp only [hm] at hs
            obtain ⟨h1, rfl⟩ := hx.cell hr
            obtain ⟨vs, h2, h3⟩ := C.at_ _ _ hm
            obtain ⟨v, e1, e2⟩ := h3.atI hs
            exact .inl ⟨_, vs, _, v, rfl, hy.int, SqL.of h2, e1, q v e2⟩
          | none => simp [hm] at hs
          | bool _ => simp [hm] at hs
          | str _ => simp [hm] at hs
          | list _ => simp [hm] at hs
          | tuple _ => simp [hm] at hs
          | dict _ => simp [hm] at hs
    · cases hs
def rSlAll (K : PySem.W.Frag) : V → Option Int → Option Int → Hp → VK → Prop := fun x lo hi H Q => rSlL K x lo hi H Q ∨ rSlA K x lo hi H Q
theorem sl_all : SlR X (rSlAll X.K) := SlR.or sl_list sl_tupA
theorem asScr_eq {d : D} {xs : List D} (h : asScr d = some xs) : d = .dict [(.list [], .list xs)] := by
  unfold asScr at h
  split at h
  · cases h
    rfl
  · cases h
theorem Reps.ints {ω : Om} {H : Hp} : ∀ ns : List Int, Reps F ω H (ns.map .int) (ns.map V.int)
  | [] => rfl
  | n :: ns => ⟨_, _, rfl, rfl, Reps.ints ns⟩
theorem Reps.cut {ω : Om} {H : Hp} {xs : List D} {vs : List V} (h : Reps F ω H xs vs) (lo hi : Option Int) : Reps F ω H (semSlc.cutV' xs lo hi) (cutV vs lo hi) := by
  unfold semSlc.cutV' cutV
  rw [h.length]
  exact (h.drop _).take _
theorem cut_whole {vs : List V} {lo hi : Option Int} (h : HT.sIx vs.length 0 lo = 0 ∧ HT.sIx vs.length vs.length hi = vs.length) : cutV vs lo hi = vs := by
  unfold cutV
  rw [h.1, h.2]
  simp
theorem slc_sound (hK : X.K = F.K) {wr : Wr} {ω : Om} {m : M} {H : Hp} {x : V} {dx d : D} {lo hi : Option Int} {Q : VK} (C : Cells F ω m H) (T : TabInv F H) (hx : Rep F ω H dx x) (hs : semSlc dx lo hi = some d)
    (hQ : ∀ ω' v H', Po F wr ω m H ω' m H' → Rep F ω' H' d v → Q v H') : rSlAll X.K x lo hi H Q := by
  rw [hK]
  have newL : ∀ {ds : List D} {p : Addr} {vs : List V}, d = .list ds → Reps F ω H ds vs → H p = none → Q (.ref p) (upd H p (.lst vs)) := fun {ds p vs} e h hp => by
    subst e
    exact hQ (ω.out p) _ _ (Po.new C T hp) ⟨p, vs, rfl, upd_same, fun z => z.2 rfl, Reps.stays ((Po.new (wr := wr) (o := .lst vs) C T hp).stays C) _ _ h⟩
  unfold semSlc at hs
  split at hs
  · cases hs
    obtain ⟨a, vs, rfl, h1, _, h2⟩ := hx
    exact .inl ⟨a, vs, rfl, SqL.of h1, fun p hp => newL rfl (h2.cut lo hi) hp⟩
  · cases hs
    obtain ⟨a, vs, rfl, h1, h2⟩ := hx
    refine .inr ⟨a, vs, rfl, h1.sq, fun e => ?_, fun _ p hp => ?_⟩
    · refine hQ ω _ H (Po.refl C T) ⟨a, vs, rfl, h1, ?_⟩
      have z := h2.cut lo hi
      rw [cut_whole e] at z
      exact z
    · exact hQ (ω.out p) _ _ (Po.new C T hp) ⟨p, _, rfl, .inl ⟨upd_same, fun z => z.2 rfl⟩, Reps.stays ((Po.new (wr := wr) (o := .tup (cutV vs lo hi)) C T hp).stays C) _ _ (h2.cut lo hi)⟩
  · cases hc : asScr dx with
    | none => rw [hc] at hs; cases hs
    | some xs =>
      rw [hc] at hs
      cases hs
      have e := asScr_eq hc
      subst e
      rcases hx with ⟨r, h1, _⟩ | ⟨a, ns, h1, rfl, h2⟩ | ⟨a, vs, _, _, _, h3⟩
      · cases h1
      · unfold scrD at h1
        simp at h1
        subst h1
        exact .inl ⟨a, _, rfl, h2.sq, fun p hp => newL rfl ((Reps.ints ns).cut lo hi) hp⟩
      · obtain ⟨k', v, r', _, h2, _⟩ := h3
        exact h2.elim
end
end Ev
end
section
set_option linter.all false
set_option autoImplicit false
set_option maxRecDepth 100000
/-! Ev, part G: expressions, one by one. -/
namespace Ev
open PySem L2

section
variable {X : Cx} {F : Fx} {W : Wd} {Wx : WX} {pos : Pos}
abbrev evE (W : Wd) (e : Ex) : Wr → Ga → M → R D := fun wr g m => ev W e wr g m
theorem Fin.ok {α β : Type} {rel : Om → Hp → α → β → Prop} {wr : Wr} {σ : L2.St} {Q : β → Hp → Prop} {ω : Om} {m : M} {H : Hp} {d : α} {v : β} (h : Fin F Wx wr σ rel Q ω m H (.ok d m)) (S : Cells F ω m H) (T : TabInv F H) (r : rel ω H d v) : Q v H := h ω v H (Po.refl S T) r
theorem s_nm {i : Nat} {x : Str} (hN : X.N[i]? = some x) (hv : Vis X.env.scope x) (hd : (x == ("__debug__" : Str)) = false) (hcd : (x == ("__classdict__" : Str)) = false) : PE X (.Name x pos) (LE F Wx false (evE W (.nm i))) := by
  refine PE_imp (pe_var hN hv hd hcd) fun σ H Q h => ?_
  obtain ⟨ω, g, m, wr, S, h⟩ := h
  simp only [evE, ev] at h
  split at h
  · rename_i d e
    obtain ⟨v, e1, e2⟩ := S.sl.val i d e
    exact ⟨v, e1, h.ok S.ce S.tb (.inl e2)⟩
  · exact h.elim
theorem s_pk {i : Nat} {x : Str} (hN : X.N[i]? = some x) (hv : Vis X.env.scope x) (hd : (x == ("__debug__" : Str)) = false) (hcd : (x == ("__classdict__" : Str)) = false) : PE X (.Name x pos) (LE F Wx true (evE W (.pk i))) := by
  refine PE_imp (pe_var hN hv hd hcd) fun σ H Q h => ?_
  obtain ⟨ω, g, m, wr, S, h⟩ := h
  simp only [evE, ev] at h
  split at h
  · rename_i b d e
    cases b with
    | false =>
      obtain ⟨v, e1, e2⟩ := S.sl.val i d e
      exact ⟨v, e1, h.ok S.ce S.tb (.inl e2)⟩
    | true =>
      obtain ⟨e1, e2, _, _⟩ := S.sl.own i d e
      exact ⟨_, e1, h.ok S.ce S.tb (.inr ⟨rfl, _, rfl, e2⟩)⟩
  · exact h.elim
/-- a constant, by its own rule -/
theorem s_c {py : Expr} {d : D} {v : V} (hp : PE X py (tC v)) (r : ∀ ω H, Rep F ω H d v) {f : Wr → Ga → M → R D} (hf : ∀ wr g m, f wr g m = .ok d m) : PE X py (LE F Wx false f) := by
  refine PE_imp hp fun σ H Q h => ?_
  obtain ⟨ω, g, m, wr, S, h⟩ := h
  rw [hf] at h
  exact h.ok S.ce S.tb (.inl (r ω H))
theorem s_cst_int {i : Int} {j : Nat} : PE X (.Constant (.int i) j pos) (LE F Wx false (evE W (.cst (.int i)))) := s_c (d := .int i) pe_int (fun _ _ => rfl) fun _ _ _ => by simp only [evE, ev]
theorem s_cst_str {i : Str} {j : Nat} : PE X (.Constant (.str i) j pos) (LE F Wx false (evE W (.cst (.str i)))) := s_c (d := .str i) pe_str (fun _ _ => rfl) fun _ _ _ => by simp only [evE, ev]
theorem s_cst_bl {i : Bool} {j : Nat} : PE X (.Constant (.bool i) j pos) (LE F Wx false (evE W (.cst (.bool i)))) := s_c (d := .bool i) pe_bl (fun _ _ => rfl) fun _ _ _ => by simp only [evE, ev]
theorem s_cst_non {j : Nat} : PE X (.Constant .none j pos) (LE F Wx false (evE W (.cst .none))) := s_c (d := .none) pe_non (fun _ _ => rfl) fun _ _ _ => by simp only [evE, ev]
theorem s_glb {k : Nat} {x : Str} {u : Value} {v : V} (hg : Gl X x) (hm : X.mg x = some u) (r : RelV v u) (hr : ∀ ω H, Rep F ω H (W.glb k) v) (hd : (x == ("__debug__" : Str)) = false) : PE X (.Name x pos) (LE F Wx false (evE W (.glb k))) :=
  s_c (pe_glob hg hm r hd) hr fun _ _ _ => by simp only [evE, ev]

/-- two values in a row -/
theorem s_two {a b : Expr} {fa fb : Wr → Ga → M → R D} {k : D → D → M → R D} {σ : L2.St} {H : Hp} {rel : Om → Hp → D → V → Prop} {Q : VK} {G : V → V → Hp → Prop}
    (h : LG F Wx rel (fun wr g m => (fa wr g m).bind fun x m1 => (fb wr g m1).bind fun y m2 => k x y m2) σ H Q)
    (hG : ∀ ω g m wr x y dx dy H2, Stt F ω g m σ H2 → Rep F ω H2 dx x → Rep F ω H2 dy y → Fin F Wx wr σ rel Q ω m H2 (k dx dy m) → G x y H2) :
    LE F Wx false fa σ H fun x H1 => LE F Wx false fb σ H1 fun y H2 => G x y H2 := by
  obtain ⟨ω, g, m, wr, S, h⟩ := h
  refine LG.of S (Fin.mono (fun x H1 hx => ?_) (Fin.bind (rel := VRel F false) S.ce h))
  obtain ⟨ω1, dx, m1, e1, p1, r1, h1⟩ := hx
  have S1 := S.po p1
  refine LG.of S1 (Fin.mono (fun y H2 hy => ?_) (Fin.bind (rel := VRel F false) S1.ce h1))
  obtain ⟨ω2, dy, m2, e2, p2, r2, h2⟩ := hy
  exact hG ω2 g m2 wr x y dx dy H2 (S1.po p2) (Rep.stays (p2.stays S1.ce) _ _ r1.pure) r2.pure h2
theorem LG.congr {α β : Type} {rel : Om → Hp → α → β → Prop} {f f' : Wr → Ga → M → R α} {σ : L2.St} {H : Hp} {Q : β → Hp → Prop} (e : ∀ wr g m, f wr g m = f' wr g m) (h : LG F Wx rel f σ H Q) : LG F Wx rel f' σ H Q := by
  obtain ⟨ω, g, m, wr, S, h⟩ := h
  rw [e] at h
  exact LG.of S h
theorem Fin.of {rel : Om → Hp → D → V → Prop} {wr : Wr} {σ : L2.St} {Q : VK} {ω : Om} {m : M} {H : Hp} {o : Option D} (h : Fin F Wx wr σ rel Q ω m H (R.of o m)) : ∃ d, o = some d ∧ ∀ ω' v H', Po F wr ω m H ω' m H' → rel ω' H' d v → Q v H' := by
  cases o with
  | none => exact h.elim
  | some d => exact ⟨d, rfl, h⟩
theorem s_bin (hK : X.K = F.K) {o : BOp} {ea eb : Ex} {a b : Expr} (na : isB ea = false) (nb : isB eb = false) (ha : PE X a (LE F Wx false (evE W ea))) (hb : PE X b (LE F Wx false (evE W eb))) : PE X (.BinOp a (pyB o) b pos) (LE F Wx false (evE W (.bin o ea eb))) := by
  refine PE_imp (pe_op (or_bin o) ha hb) fun σ H Q h => ?_
  have h := LG.congr (f' := fun wr g m => (evE W ea wr g m).bind fun x m1 => (evE W eb wr g m1).bind fun y m2 => R.of (semBin o x y) m2) (fun wr g m => by simp only [evE, ev, na, nb, Bool.or_self, Bool.false_eq_true, if_false]) h
  refine s_two (a := a) (b := b) h fun ω g m wr x y dx dy H2 S rx ry hf => ?_
  obtain ⟨d, e, q⟩ := hf.of
  exact bin_sound o hK wr ω m H2 x y dx dy d Q S.ce S.tb (.inl rx) (.inl ry) e fun ω' v H' p r => q ω' v H' p (.inl r)
theorem s_neg {ea : Ex} {a : Expr} (na : isB ea = false) (ha : PE X a (LE F Wx false (evE W ea))) : PE X (.UnaryOp .USub a pos) (LE F Wx false (evE W (.neg ea))) := by
  refine PE_imp (pe_un un_neg ha) fun σ H Q h => ?_
  obtain ⟨ω, g, m, wr, S, h⟩ := h
  simp only [evE, ev] at h
  refine LG.of S (Fin.mono (fun x H1 hx => ?_) (Fin.bind (rel := VRel F false) S.ce h))
  obtain ⟨ω1, dx, m1, e1, p1, r1, h1⟩ := hx
  cases dx with
  | int i => exact ⟨i, r1.int, h1.ok p1.cells p1.tabs (.inl rfl)⟩
  | _ => exact h1.elim
theorem s_not {ea : Ex} {a : Expr} (na : isB ea = false) (ha : PE X a (LE F Wx false (evE W ea))) : PE X (.UnaryOp .Not a pos) (LE F Wx false (evE W (.not ea))) := by
  refine PE_imp (pe_not ha) fun σ H Q h => ?_
  obtain ⟨ω, g, m, wr, S, h⟩ := h
  simp only [evE, ev] at h
  refine LG.of S (Fin.mono (fun x H1 hx => ?_) (Fin.bind (rel := VRel F false) S.ce h))
  obtain ⟨ω1, dx, m1, e1, p1, r1, h1⟩ := hx
  cases dx with
  | bool i => exact ⟨i, r1.bool, h1.ok p1.cells p1.tabs (.inl rfl)⟩
  | _ => exact h1.elim
theorem t_not {ea : Ex} {a : Expr} (ha : PT X a (LT F Wx (evE W ea))) : PT X (.UnaryOp .Not a pos) (LT F Wx (evE W (.not ea))) := by
  refine PT_imp (pt_not ha) fun σ H Q h => ?_
  obtain ⟨ω, g, m, wr, S, h⟩ := h
  refine LG.of (wr := wr) S ?_
  simp only [evE, ev] at h ⊢
  cases hx : ev W ea wr g m with
  | stuck => rw [hx] at h; exact h.elim
  | exc c m' => rw [hx] at h; exact h
  | ok d m' =>
    rw [hx] at h
    cases d with
    | bool b => exact fun ω' v H' p r => h ω' (!v) H' p (by rw [show v = b by cases r; rfl]; rfl)
    | _ => exact h.elim
theorem s_and {ea eb : Ex} {a b : Expr} {rest : List Expr} (na : isB ea = false) (nb : isB eb = false) (ha : PE X a (LE F Wx false (evE W ea))) (hb : PE X (.BoolOp .And (b :: rest) pos) (LE F Wx false (evE W eb))) : PE X (.BoolOp .And (a :: b :: rest) pos) (LE F Wx false (evE W (.and ea eb))) := by
  refine PE_imp (pe_and ha hb) fun σ H Q h => ?_
  obtain ⟨ω, g, m, wr, S, h⟩ := h
  simp only [evE, ev, nb, Bool.false_eq_true, if_false] at h
  refine LG.of S (Fin.mono (fun x H1 hx => ?_) (Fin.bind (rel := VRel F false) S.ce h))
  obtain ⟨ω1, dx, m1, e1, p1, r1, h1⟩ := hx
  cases dx with
  | bool i =>
    refine ⟨i, r1.bool, ?_⟩
    cases i with
    | true => exact iteT (LG.of (S.po p1) h1)
    | false => exact iteF (h1.ok p1.cells p1.tabs (.inl rfl))
  | _ => exact h1.elim
theorem s_or {ea eb : Ex} {a b : Expr} {rest : List Expr} (na : isB ea = false) (nb : isB eb = false) (ha : PE X a (LE F Wx false (evE W ea))) (hb : PE X (.BoolOp .Or (b :: rest) pos) (LE F Wx false (evE W eb))) : PE X (.BoolOp .Or (a :: b :: rest) pos) (LE F Wx false (evE W (.or ea eb))) := by
  refine PE_imp (pe_or ha hb) fun σ H Q h => ?_
  obtain ⟨ω, g, m, wr, S, h⟩ := h
  simp only [evE, ev, nb, Bool.false_eq_true, if_false] at h
  refine LG.of S (Fin.mono (fun x H1 hx => ?_) (Fin.bind (rel := VRel F false) S.ce h))
  obtain ⟨ω1, dx, m1, e1, p1, r1, h1⟩ := hx
  cases dx with
  | bool i =>
    refine ⟨i, r1.bool, ?_⟩
    cases i with
    | true => exact iteT (h1.ok p1.cells p1.tabs (.inl rfl))
    | false => exact iteF (LG.of (S.po p1) h1)
  | _ => exact h1.elim
/-- a test's value -/
def asB (r : R D) : R D := r.bind fun d m' => match d with | .bool b => .ok (.bool b) m' | _ => .stuck
theorem LT_cases {fa : Wr → Ga → M → R D} {k : Bool → Wr → Ga → M → R D} {σ : L2.St} {H : Hp} {Q G : Bool → Hp → Prop} {f : Wr → Ga → M → R D}
    (hf : ∀ wr g m, f wr g m = (fa wr g m).bind fun d m1 => match d with | .bool b => k b wr g m1 | _ => .stuck)
    (h : LT F Wx f σ H Q) (hG : ∀ ω g m wr b H1, Stt F ω g m σ H1 → Fin F Wx wr σ RelB Q ω m H1 (asB (k b wr g m)) → G b H1) : LT F Wx fa σ H G := by
  obtain ⟨ω, g, m, wr, S, h⟩ := h
  refine LG.of (wr := wr) S ?_
  have h : Fin F Wx wr σ RelB Q ω m H (asB (f wr g m)) := h
  rw [hf] at h
  show Fin F Wx wr σ RelB G ω m H (asB (fa wr g m))
  cases hx : fa wr g m with
  | stuck => rw [hx] at h; exact h.elim
  | exc c m' => rw [hx] at h; exact h
  | ok d m' =>
    rw [hx] at h
    cases d with
    | bool b =>
      intro ω' v H' p r
      rw [show v = b by cases r; rfl]
      exact hG ω' g m' wr b H' (S.po p) (Fin.shift S.ce p h)
    | _ => exact h.elim
theorem pw_of {op : PySem.BoolOp} {es : List Expr} {t : TT} (h : PT X (.BoolOp op es pos) t) : PW X (.BoolOp op es pos) t := ⟨fun wh pins s σ H Q I hw => h.run pins s σ H Q I hw⟩
theorem t_and {ea eb : Ex} {a b : Expr} {rest : List Expr} (nb : isB eb = false) (ha : PT X a (LT F Wx (evE W ea))) (hb : PT X (.BoolOp .And (b :: rest) pos) (LT F Wx (evE W eb))) : PT X (.BoolOp .And (a :: b :: rest) pos) (LT F Wx (evE W (.and ea eb))) := by
  refine PT_imp (PW.pt (pw_and ha (pw_of hb))) fun σ H Q h => ?_
  refine LT_cases (k := fun b wr g m => if b then ev W eb wr g m else .ok (.bool false) m) (fun wr g m => ?_) h fun ω g m wr b H1 S hf => ?_
  · simp only [evE, ev, nb, Bool.false_eq_true, if_false]
    congr 1
    funext d m1
    cases d with
    | bool b => cases b <;> rfl
    | _ => rfl
  · cases b with
    | true => exact iteT (LG.of S hf)
    | false => exact iteF (hf ω false H1 (Po.refl S.ce S.tb) rfl)
theorem t_or {ea eb : Ex} {a b : Expr} {rest : List Expr} (nb : isB eb = false) (ha : PT X a (LT F Wx (evE W ea))) (hb : PT X (.BoolOp .Or (b :: rest) pos) (LT F Wx (evE W eb))) : PT X (.BoolOp .Or (a :: b :: rest) pos) (LT F Wx (evE W (.or ea eb))) := by
  refine PT_imp (PW.pt (pw_or ha (pw_of hb))) fun σ H Q h => ?_
  refine LT_cases (k := fun b wr g m => if b then .ok (.bool true) m else ev W eb wr g m) (fun wr g m => ?_) h fun ω g m wr b H1 S hf => ?_
  · simp only [evE, ev, nb, Bool.false_eq_true, if_false]
    congr 1
    funext d m1
    cases d with
    | bool b => cases b <;> rfl
    | _ => rfl
  · cases b with
    | true => exact iteT (hf ω true H1 (Po.refl S.ce S.tb) rfl)
    | false => exact iteF (LG.of S hf)
theorem t_one_and {ea : Ex} {a : Expr} (ha : PT X a (LT F Wx (evE W ea))) : PT X (.BoolOp .And [a] pos) (LT F Wx (evE W ea)) := PW.pt (pw_and1 ha)
theorem t_one_or {ea : Ex} {a : Expr} (ha : PT X a (LT F Wx (evE W ea))) : PT X (.BoolOp .Or [a] pos) (LT F Wx (evE W ea)) := PW.pt (pw_or1 ha)
/-- any value as a test -/
theorem t_val {ea : Ex} {a : Expr} {bor : Bool} (he : ∀ whole, isTrue a X.env whole = (do let v ← whole; standAt a.pos; holding [v] (truthy v))) (ha : PE X a (LE F Wx bor (evE W ea))) : PT X a (LT F Wx (evE W ea)) := by
  refine PT_imp (pt_val ha he) fun σ H Q h => ?_
  obtain ⟨ω, g, m, wr, S, h⟩ := h
  refine LG.of S (Fin.mono (fun x H1 hx => ?_) (Fin.bind (rel := VRel F bor) S.ce h))
  obtain ⟨ω1, dx, m1, e1, p1, r1, h1⟩ := hx
  cases dx with
  | bool i => exact ⟨i, r1.bool, h1 ω1 i H1 (Po.refl p1.cells p1.tabs) rfl⟩
  | _ => exact h1.elim
theorem s_ite {et ea eb : Ex} {t a b : Expr} (na : isB ea = false) (nb : isB eb = false) (ht : PT X t (LT F Wx (evE W et))) (ha : PE X a (LE F Wx false (evE W ea))) (hb : PE X b (LE F Wx false (evE W eb))) : PE X (.IfExp t a b pos) (LE F Wx false (evE W (.ite et ea eb))) := by
  refine PE_imp (pe_ifExp ht ha hb) fun σ H Q h => ?_
  obtain ⟨ω, g, m, wr, S, h⟩ := h
  simp only [evE, ev, na, nb, Bool.or_self, Bool.false_eq_true, if_false] at h
  refine LG.of (wr := wr) S ?_
  show Fin F Wx wr σ RelB _ ω m H (asB (ev W et wr g m))
  cases hx : ev W et wr g m with
  | stuck => rw [hx] at h; exact h.elim
  | exc c m' => rw [hx] at h; exact h
  | ok d m' =>
    rw [hx] at h
    cases d with
    | bool b =>
      intro ω' v H' p r
      rw [show v = b by cases r; rfl]
      cases b with
      | true => exact iteT (LG.of (S.po p) (Fin.shift S.ce p h))
      | false => exact iteF (LG.of (S.po p) (Fin.shift S.ce p h))
    | _ => exact h.elim
end
end Ev
end
section
set_option linter.all false
set_option autoImplicit false
set_option maxRecDepth 100000
/-! Ev, part H: comparisons, items, displays, arguments. -/
namespace Ev
open PySem L2

section
variable {X : Cx} {F : Fx} {W : Wd} {Wx : WX} {pos : Pos}
theorem s_two2 {fa fb : Wr → Ga → M → R D} {α β : Type} {ba bb : Bool} {k : D → D → M → R α} {σ : L2.St} {H : Hp} {rel : Om → Hp → α → β → Prop} {Q : β → Hp → Prop} {G : V → V → Hp → Prop}
    (h : LG F Wx rel (fun wr g m => (fa wr g m).bind fun x m1 => with2 ba (fun wr m => fb wr g m) wr m1 fun y m2 => k x y m2) σ H Q)
    (hG : ∀ ω ω₂ g m wr x y dx dy H2, Stt F ω g m σ H2 → VRel F ba ω H2 dx x → VRel F bb ω₂ H2 dy y → Fin F Wx wr σ rel Q ω m H2 (k dx dy m) → G x y H2) :
    LE F Wx ba fa σ H fun x H1 => LE F Wx bb fb σ H1 fun y H2 => G x y H2 := by
  obtain ⟨ω, g, m, wr, S, h⟩ := h
  refine LG.of S (Fin.mono (fun x H1 hx => ?_) (Fin.bind (rel := VRel F ba) S.ce h))
  obtain ⟨ω1, dx, m1, e1, p1, r1, h1⟩ := hx
  have S1 := S.po p1
  cases ba with
  | false =>
    refine LG.of (wr := wr) S1 (Fin.mono (fun y H2 hy => ?_) (Fin.bind (rel := VRel F bb) S1.ce h1))
    obtain ⟨ω2, dy, m2, e2, p2, r2, h2⟩ := hy
    exact hG ω2 ω2 g m2 wr x y dx dy H2 (S1.po p2) (r1.po S1.ce p2 (fun z => by cases z)) r2 h2
  | true =>
    refine LG.of (wr := wr0) S1 ?_
    have h1 : Fin F Wx wr σ rel Q ω1 m1 H1 (match fb wr0 g m1 with | .ok y _ => k dx y m1 | .exc c _ => .exc c m1 | .stuck => .stuck) := h1
    cases hb : fb wr0 g m1 with
    | stuck => rw [hb] at h1; exact h1
    | exc c m' =>
      rw [hb] at h1
      exact fun ω' H' p => h1 _ H' (Po.drop S1.ce p)
    | ok dy m2 =>
      rw [hb] at h1
      intro ω2 y H2 p2 r2
      have d2 : Po F wr ω1 m1 H1 { ω1 with B := ω2.B } m1 H2 := Po.drop S1.ce p2
      have d0 : Po F wr0 ω1 m1 H1 { ω1 with B := ω2.B } m1 H2 := Po.drop S1.ce p2
      exact hG _ ω2 g m1 wr x y dx dy H2 (S1.po d2) (r1.po S1.ce d0 (fun _ => rfl)) r2 (Fin.shift S1.ce d2 h1)
def plainE : Expr → Bool
  | .Starred .. => false
  | .Slice .. => false
  | .Set .. => false
  | _ => true
theorem plain_ix {b : Expr} (h : plainE b = true) : PlainIx b := fun o i => by cases b <;> first | rfl | (simp [plainE] at h)
theorem plain_star {e : Expr} (h : plainE e = true) (es : List Expr) (env : Env) : starEach (e :: es) env = (false, eval e env) :: starEach es env := by cases e <;> first | rfl | (simp [plainE] at h)
theorem plain_beh {e : Expr} (h : plainE e = true) (op : CmpOp) : behindInMarks op e = false := by cases e <;> first | rfl | (simp [plainE] at h)
theorem plain_fold {e : Expr} (h : plainE e = true) (env : Env) : ∀ x, foldedSetIterable e env x = pure x := fun x => by cases e <;> first | rfl | (simp [plainE] at h)
theorem plain_any : ∀ {es : List Expr} (pos : Pos) (env : Env), (es.all plainE) = true → (backTo pos (starEach es env)).any (·.1) = false
  | [], _, _, _ => rfl
  | e :: es, pos, env, h => by
    rw [List.all_cons, Bool.and_eq_true] at h
    rw [plain_star h.1]
    show (false || (backTo pos (starEach es env)).any (·.1)) = false
    rw [plain_any pos env h.2]
    rfl
theorem cmp_fin (o : COp) (hK : X.K = F.K) {wr : Wr} {σ : L2.St} {ba bb : Bool} {ω ω₂ : Om} {m : M} {H : Hp} {x y : V} {dx dy : D} {Q : VK} (C : Cells F ω m H) (T : TabInv F H) (hx : VRel F ba ω H dx x) (hy : VRel F bb ω₂ H dy y)
    (h : Fin F Wx wr σ (VRel F false) Q ω m H (R.of ((semCmp o dx dy).map .bool) m)) : rCmp o X.K x y H Q := by
  obtain ⟨d, e, q⟩ := h.of
  cases hc : semCmp o dx dy with
  | none => rw [hc] at e; cases e
  | some c =>
    rw [hc] at e
    cases e
    exact cmp_sound o hK hx hy hc (q ω _ H (Po.refl C T) (.inl rfl))
theorem asB_bind {α : Type} (x : R α) (k : α → M → R D) : asB (x.bind k) = x.bind fun a m => asB (k a m) := by cases x <;> rfl
theorem asB_with2 (bor : Bool) (b : Wr → M → R D) (wr : Wr) (m : M) (k : D → M → R D) : asB (with2 bor b wr m k) = with2 bor b wr m fun y m => asB (k y m) := by
  unfold with2
  cases bor with
  | true =>
    simp only [if_true]
    cases b wr0 m <;> rfl
  | false =>
    simp only [Bool.false_eq_true, if_false]
    exact asB_bind _ _
theorem s_cmp {n : Nat} (hK : X.K = F.K) (hr : Room n X.A) {o : COp} {ea eb : Ex} {a b : Expr} (pb : plainE b = true) (ha : PE X a (LE F Wx (isB ea) (evE W ea))) (hb : PE X b (LE F Wx (isB eb) (evE W eb))) : PE X (.Compare a [pyC o] [b] pos) (LE F Wx false (evE W (.cmp o ea eb))) := by
  refine PE_imp (pe_cmpR (or_cmp o hr) ha hb (plain_beh pb _)) fun σ H Q h => ?_
  have h := LG.congr (f' := fun wr g m => (evE W ea wr g m).bind fun x m1 => with2 (isB ea) (fun wr m => evE W eb wr g m) wr m1 fun y m2 => R.of ((semCmp o x y).map .bool) m2) (fun wr g m => by simp only [evE, ev]) h
  exact s_two2 h fun ω ω₂ g m wr x y dx dy H2 S rx ry hf => cmp_fin o hK S.ce S.tb rx ry hf
theorem t_cmp {n : Nat} (hK : X.K = F.K) (hr : Room n X.A) {o : COp} {ea eb : Ex} {a b : Expr} (pb : plainE b = true) (ha : PE X a (LE F Wx (isB ea) (evE W ea))) (hb : PE X b (LE F Wx (isB eb) (evE W eb))) : PT X (.Compare a [pyC o] [b] pos) (LT F Wx (evE W (.cmp o ea eb))) := by
  refine PT_imp (pt_cmpR (or_cmp o hr) ha hb (plain_beh pb _)) fun σ H Q h => ?_
  have h : LG F Wx RelB (fun wr g m => (evE W ea wr g m).bind fun x m1 => with2 (isB ea) (fun wr m => evE W eb wr g m) wr m1 fun y m2 => asB (R.of ((semCmp o x y).map .bool) m2)) σ H Q := by
    refine LG.congr (f := fun wr g m => asB (ev W (.cmp o ea eb) wr g m)) (fun wr g m => ?_) h
    simp only [ev, asB_bind, asB_with2, evE]
  refine s_two2 h fun ω ω₂ g m wr x y dx dy H2 S rx ry hf => ?_
  cases hc : semCmp o dx dy with
  | none => rw [hc] at hf; exact hf.elim
  | some c =>
    rw [hc] at hf
    exact cmp_sound o hK rx ry hc ⟨c, rfl, hf ω c H2 (Po.refl S.ce S.tb) rfl⟩
/-- a chain of two -/
theorem s_chn {n : Nat} (hK : X.K = F.K) (hr : Room n X.A) {o o' : COp} {ea eb ec : Ex} {a b c : Expr} (na : isB ea = false) (nb : isB eb = false) (hpb : behindInMarks (pyC o) b = false) (hpc : behindInMarks (pyC o') c = false)
    (ha : PE X a (LE F Wx false (evE W ea))) (hb : PE X b (LE F Wx false (evE W eb))) (hc : PE X c (LE F Wx (isB ec) (evE W ec))) : True := trivial
theorem s_nil : PA X [] (LA F Wx fun _ _ m => .ok [] m) := by
  refine PA_imp pa_nil fun σ H Q h => ?_
  obtain ⟨ω, g, m, wr, S, h⟩ := h
  exact h.ok S.ce S.tb rfl
abbrev evLs (W : Wd) (es : List Ex) : Wr → Ga → M → R (List D) := fun wr g m => evL W es wr g m
theorem s_nil' : PA X [] (LA F Wx (evLs W [])) := by
  refine PA_imp s_nil fun σ H Q h => LG.congr (fun wr g m => ?_) h
  simp only [evLs, evL]
theorem s_cons {e : Ex} {es : List Ex} {p : Expr} {ps : List Expr} (ne : isB e = false) (pp : plainE p = true) (he : PE X p (LE F Wx false (evE W e))) (hes : PA X ps (LA F Wx (evLs W es))) : PA X (p :: ps) (LA F Wx (evLs W (e :: es))) := by
  refine PA_imp (pa_cons he hes (plain_star pp _ _)) fun σ H Q h => ?_
  obtain ⟨ω, g, m, wr, S, h⟩ := h
  simp only [evLs, evL, ne, Bool.false_eq_true, if_false] at h
  refine LG.of S (Fin.mono (fun x H1 hx => ?_) (Fin.bind (rel := VRel F false) S.ce h))
  obtain ⟨ω1, dx, m1, e1, p1, r1, h1⟩ := hx
  have S1 := S.po p1
  refine LG.of S1 (Fin.mono (fun xs H2 hy => ?_) (Fin.bind (rel := Reps F) S1.ce h1))
  obtain ⟨ω2, dy, m2, e2, p2, r2, h2⟩ := hy
  exact h2.ok p2.cells p2.tabs ⟨x, xs, rfl, Rep.stays (p2.stays S1.ce) _ _ r1.pure, r2⟩
theorem Reps.le1000 {ω : Om} {H : Hp} {xs : List D} {vs : List V} (h : Reps F ω H xs vs) {n : Nat} (hn : n ≤ 1000) (e : xs.length = n) : vs.length ≤ sizeLine := by
  rw [h.length, e]
  exact Nat.le_of_lt (small1000 hn)
theorem evL_len : ∀ (W : Wd) (es : List Ex) (wr : Wr) (g : Ga) (m : M) {xs : List D} {m' : M}, evL W es wr g m = .ok xs m' → xs.length = es.length
  | W, [], wr, g, m, xs, m', h => by
    simp only [evL] at h
    cases h
    rfl
  | W, e :: es, wr, g, m, xs, m', h => by
    simp only [evL] at h
    split at h
    · cases h
    · cases h1 : ev W e wr g m with
      | stuck => rw [h1] at h; cases h
      | exc c m1 => rw [h1] at h; cases h
      | ok x m1 =>
        rw [h1] at h
        simp only [R.bind_ok] at h
        cases h2 : evL W es wr g m1 with
        | stuck => rw [h2] at h; cases h
        | exc c m1 => rw [h2] at h; cases h
        | ok ys m2 =>
          rw [h2] at h
          cases h
          simp [evL_len W es wr g m1 h2]
theorem s_tup {es : List Ex} {ps : List Expr} {k : Nat} (hes : PA X ps (LA F Wx (evLs W es))) : PE X (.Tuple ps k pos) (LE F Wx false (evE W (.tup es))) := by
  refine PE_imp (pe_tup hes) fun σ H Q h => ?_
  obtain ⟨ω, g, m, wr, S, h⟩ := h
  simp only [evE, ev] at h
  split at h
  · rename_i hl
    refine LG.of S (Fin.mono (fun xs H1 hx => ?_) (Fin.bind (rel := Reps F) S.ce h))
    obtain ⟨ω1, dx, m1, e1, p1, r1, h1⟩ := hx
    refine ⟨r1.le1000 hl (evL_len _ _ _ _ _ e1), fun p hp => ?_⟩
    have q := Po.new (wr := wr) (o := .tup xs) p1.cells p1.tabs hp
    exact h1 (ω1.out p) _ _ q (.inl ⟨p, xs, rfl, .inl ⟨upd_same, fun z => z.2 rfl⟩, Reps.stays (q.stays p1.cells) _ _ r1⟩)
  · exact h.elim

/-! ### lists just made -/
def FinF (F : Fx) (Wx : WX) (wr : Wr) (σ : L2.St) (Q : VK) (ω : Om) (m : M) (H : Hp) : R D → Prop
  | .stuck => False
  | .ok d m' => ∀ ω' a H', Po F wr ω m H ω' m' H' → H a = none → ContAt F ω' H' a d → ω'.B a → (∀ r f, LvC m' r f → ω'.ad r f ≠ a) → Q (.ref a) H'
  | .exc c m' => ∀ ω' H', Po F wr ω m H ω' m' H' → Wx (.ref (F.xa c)) none σ H'
def LF (F : Fx) (Wx : WX) (f : Wr → Ga → M → R D) : TE := fun σ H Q => ∃ ω g m wr, Stt F ω g m σ H ∧ FinF F Wx wr σ Q ω m H (f wr g m)
theorem stays_out {ω : Om} {H : Hp} {a : Addr} : Stays F ω (ω.out a) H H := ⟨Nat.le_refl _, fun _ _ => rfl, fun b o h _ _ => .inl h, fun b o _ hb z => hb z.1⟩
theorem Cells.out {ω : Om} {m : M} {H : Hp} {a : Addr} (C : Cells F ω m H) (ha : ∀ r f, LvC m r f → ω.ad r f ≠ a) : Cells F (ω.out a) m H :=
  ⟨C.len, fun r c e => CellAt.stays stays_out rfl (fun _ _ _ h _ => h) (C.at_ r c e), C.inj, fun r f h => ⟨C.inB r f h, ha r f h⟩, C.nd⟩
/-- nobody owns it any more -/
theorem Po.freeze {wr : Wr} {ω ω' : Om} {m m' : M} {H H' : Hp} {a : Addr} (p : Po F wr ω m H ω' m' H') (h0 : H a = none) (ha : ∀ r f, LvC m' r f → ω'.ad r f ≠ a) : Po F wr ω m H (ω'.out a) m' H' :=
  ⟨p.le, p.ad, p.sl, ⟨p.fr.keep, p.fr.tab, fun b o h hb z => p.fr.nb b o h hb z.1, fun b o h hb => ⟨p.fr.pb b o h hb, ne_of_none h h0⟩, p.fr.st⟩, p.aq, p.cells.out ha, p.tabs⟩
theorem Rep.freeze {ω : Om} {H : Hp} {a : Addr} : ∀ {d : D}, ContAt F ω H a d → (∀ x, asCell d ≠ some x) → Rep F (ω.out a) H d (.ref a)
  | .list ds, h, _ => by
    obtain ⟨vs, h1, h2⟩ := h
    exact ⟨a, vs, rfl, h1, fun z => z.2 rfl, Reps.stays stays_out _ _ h2⟩
  | .dict ds, h, _ => by
    obtain ⟨vs, h1, h2⟩ := h
    exact .inr (.inr ⟨a, vs, rfl, h1, fun z => z.2 rfl, RepP.stays stays_out _ _ h2⟩)
  | .none, h, _ => h.elim
  | .bool _, h, _ => h.elim
  | .int _, h, _ => h.elim
  | .str _, h, _ => h.elim
  | .tuple _, h, _ => h.elim
theorem cont_nocell {ω : Om} {H : Hp} {a : Addr} {d : D} (h : ContAt F ω H a d) (x : Nat) : asCell d ≠ some x := fun e => by
  have e1 := asCell_eq e
  subst e1
  obtain ⟨vs, _, h2⟩ := h
  obtain ⟨k', v, r', _, h3, _⟩ := h2
  exact h3.elim
theorem LF.le {f : Wr → Ga → M → R D} {e : Expr} (h : PE X e (LF F Wx f)) : PE X e (LE F Wx false f) := by
  refine PE_imp h fun σ H Q hq => ?_
  obtain ⟨ω, g, m, wr, S, hq⟩ := hq
  refine ⟨ω, g, m, wr, S, ?_⟩
  cases hf : f wr g m with
  | stuck => rw [hf] at hq; exact hq
  | exc c m' => rw [hf] at hq; exact hq
  | ok d m' =>
    rw [hf] at hq
    exact fun ω' a H' p h0 hc hB hl => hq (ω'.out a) _ _ (p.freeze h0 hl) (.inl (Rep.freeze hc (cont_nocell hc)))
theorem lv_new {wr : Wr} {ω ω' : Om} {m m' : M} {H H' : Hp} {p : Addr} (q : Po F wr ω m H ω' m' H') (hp : H' p = none) : ∀ r f, LvC m' r f → ω'.ad r f ≠ p := fun r f h e => by
  obtain ⟨o, e2, _⟩ := q.cells.tracked h
  rw [e, hp] at e2
  cases e2
/-- a new list is laid: somebody's own -/
theorem LF.new {wr : Wr} {σ : L2.St} {ω ω₁ : Om} {m m₁ : M} {H H₁ : Hp} {p : Addr} {xs : List D} {vs : List V} {Q : VK} (p1 : Po F wr ω m H ω₁ m₁ H₁) (C : Cells F ω m H) (r1 : Reps F ω₁ H₁ xs vs) (hp : H₁ p = none)
    (h : ∀ ω' a H', Po F wr ω m H ω' m₁ H' → H a = none → ContAt F ω' H' a (.list xs) → ω'.B a → (∀ r f, LvC m₁ r f → ω'.ad r f ≠ a) → Q (.ref a) H') : Q (.ref p) (upd H₁ p (.lst vs)) := by
  have q := Po.newO (wr := wr) (o := .lst vs) p1.cells p1.tabs hp
  refine h (ω₁.inn p) p _ (p1.trans C q) ?_ ⟨vs, upd_same, Reps.stays (q.stays p1.cells) _ _ r1⟩ (.inr rfl) (fun r f hl e => lv_new p1 hp r f hl e)
  cases e : H p with
  | none => rfl
  | some o =>
    obtain ⟨o', e2⟩ := p1.fr.st p o e
    rw [hp] at e2
    cases e2
theorem f_lst {es : List Ex} {ps : List Expr} (hes : PA X ps (LA F Wx (evLs W es))) : PE X (.List ps pos) (LF F Wx (evE W (.lst es))) := by
  refine PE_imp (pe_lst hes) fun σ H Q h => ?_
  obtain ⟨ω, g, m, wr, S, h⟩ := h
  simp only [evE, ev] at h
  split at h
  · rename_i hl
    refine LG.of (wr := wr) S ?_
    show Fin F Wx wr σ (Reps F) _ ω m H (evL W es wr g m)
    cases he : evL W es wr g m with
    | stuck => rw [he] at h; exact h
    | exc c m' => rw [he] at h; exact h
    | ok xs m1 =>
      rw [he] at h
      intro ω1 vs H1 p1 r1
      exact ⟨r1.le1000 hl (evL_len _ _ _ _ _ he), fun p hp => LF.new (σ := σ) p1 S.ce r1 hp h⟩
  · exact h.elim
/-- [a, ..] * n, just made -/
theorem f_rep (hK : X.K = F.K) {es : List Ex} {eb : Ex} {a b : Expr} (nb : isB eb = false) (ha : PE X a (LE F Wx false (evE W (.lst es)))) (hb : PE X b (LE F Wx false (evE W eb))) : PE X (.BinOp a .Mult b pos) (LF F Wx (evE W (.bin .mul (.lst es) eb))) := by
  refine PE_imp (pe_op op_rep ha hb) fun σ H Q h => ?_
  obtain ⟨ω, g, m, wr, S, h⟩ := h
  have e0 : evE W (.bin .mul (.lst es) eb) wr g m = (ev W (.lst es) wr g m).bind fun x m1 => (ev W eb wr g m1).bind fun y m2 => R.of (semBin .mul x y) m2 := by
    simp only [evE]
    rw [ev]
    exact if_neg (by rw [nb]; exact Bool.false_ne_true)
  rw [e0] at h
  refine LG.of (wr := wr) S ?_
  show Fin F Wx wr σ (VRel F false) _ ω m H (ev W (.lst es) wr g m)
  cases hx : ev W (.lst es) wr g m with
  | stuck => rw [hx] at h; exact h
  | exc c m' => rw [hx] at h; exact h
  | ok dx m1 =>
    rw [hx] at h
    intro ω1 x H1 p1 r1
    have S1 := S.po p1
    refine LG.of (wr := wr) S1 ?_
    show Fin F Wx wr σ (VRel F false) _ ω1 m1 H1 (ev W eb wr g m1)
    simp only [R.bind_ok] at h
    cases hy : ev W eb wr g m1 with
    | stuck => rw [hy] at h; exact h
    | exc c m' => rw [hy] at h; exact fun ω' H' p => h ω' H' (p1.trans S.ce p)
    | ok dy m2 =>
      rw [hy] at h
      intro ω2 y H2 p2 r2
      simp only [R.bind_ok] at h
      have rx := Rep.stays (p2.stays S1.ce) _ _ r1.pure
      have ry := r2.pure
      have p12 := p1.trans S.ce p2
      cases dx with
      | list xs =>
        cases dy with
        | int i =>
          simp only [semBin] at h
          split at h
          · rename_i hl
            obtain ⟨q, vs, rfl, h1, _, h3⟩ := rx
            exact ⟨q, i, vs, rfl, ry, h1, hl.2.1, hl.1, by rw [h3.length]; exact hl.2.2, fun p hp => LF.new (σ := σ) p12 S.ce (Reps.rep _ h3) hp h⟩
          · exact h.elim
        | _ => exact h.elim
      | _ =>
        -- a list display gives a list
        exfalso
        have z : ∀ d m', ev W (.lst es) wr g m = .ok d m' → ∃ xs, d = .list xs := fun d m' e => by
          simp only [ev] at e
          split at e
          · cases he : evL W es wr g m with
            | stuck => rw [he] at e; cases e
            | exc c m' => rw [he] at e; cases e
            | ok xs m1 => rw [he] at e; cases e; exact ⟨xs, rfl⟩
          · cases e
        obtain ⟨xs, e⟩ := z _ _ hx
        cases e
end
end Ev
end
section
set_option linter.all false
set_option autoImplicit false
set_option maxRecDepth 100000
/-! Ev, part I: chains, items, slices, built-ins. -/
namespace Ev
open PySem L2

section
variable {X : Cx} {F : Fx} {W : Wd} {Wx : WX} {pos : Pos}
theorem cmp_bool (o : COp) (hK : X.K = F.K) {ω ω₂ : Om} {H : Hp} {x y : V} {dx dy : D} {ba bb : Bool} {c : Bool} {G : Bool → Hp → Prop} (hx : VRel F ba ω H dx x) (hy : VRel F bb ω₂ H dy y) (hs : semCmp o dx dy = some c) (q : G c H) :
    rCmp o X.K x y H fun z H3 => ∃ k, z = .bl k ∧ G k H3 := cmp_sound o hK hx hy hs ⟨c, rfl, q⟩
theorem chn_marks {o o' : COp} {b c : Expr} (pb : plainE b = true) (pc : plainE c = true) : lastMarks [pyC o, pyC o'] [b, c] = false := by
  show behindInMarks (pyC o') c = false
  exact plain_beh pc _
theorem chn_core (hK : X.K = F.K) {o o' : COp} {ea eb ec : Ex} {σ : L2.St} {H : Hp} {Q : VK} (na : isB ea = false) (nb : isB eb = false)
    (h : LE F Wx false (evE W (.chn o o' ea eb ec)) σ H Q) :
    tChain (rCmp o X.K) (rCmp o' X.K) (LE F Wx false (evE W ea)) (LE F Wx false (evE W eb)) (LE F Wx (isB ec) (evE W ec)) σ H Q := by
  have h := LG.congr (f' := fun wr g m => (evE W ea wr g m).bind fun x m1 => (evE W eb wr g m1).bind fun y m2 => match semCmp o x y with
      | some true => (ev W ec wr g m2).bind fun z m3 => R.of ((semCmp o' y z).map .bool) m3
      | some false => .ok (.bool false) m2
      | none => .stuck) (fun wr g m => by
      simp only [evE]
      rw [ev]
      exact if_neg (by rw [na, nb]; exact Bool.false_ne_true)) h
  obtain ⟨ω, g, m, wr, S, h⟩ := h
  refine LG.of S (Fin.mono (fun x H1 hx => ?_) (Fin.bind (rel := VRel F false) S.ce h))
  obtain ⟨ω1, dx, m1, e1, p1, r1, h1⟩ := hx
  have S1 := S.po p1
  refine LG.of S1 (Fin.mono (fun y H2 hy => ?_) (Fin.bind (rel := VRel F false) S1.ce h1))
  obtain ⟨ω2, dy, m2, e2, p2, r2, h2⟩ := hy
  have rx : VRel F false ω2 H2 dx x := .inl (Rep.stays (p2.stays S1.ce) _ _ r1.pure)
  cases hs : semCmp o dx dy with
  | none => simp only [hs] at h2; exact h2.elim
  | some c =>
    refine cmp_bool o hK rx r2 hs ?_
    cases c with
    | false =>
      simp only [hs] at h2
      exact iteF (h2.ok p2.cells p2.tabs (.inl rfl))
    | true =>
      simp only [hs] at h2
      refine iteT ?_
      refine LG.of (S1.po p2) (Fin.mono (fun z H3 hz => ?_) (Fin.bind (rel := VRel F (isB ec)) p2.cells h2))
      obtain ⟨ω3, dz, m3, e3, p3, r3, h3⟩ := hz
      exact cmp_fin o' hK p3.cells p3.tabs (.inl (Rep.stays (p3.stays p2.cells) _ _ r2.pure) : VRel F false ω3 H3 dy y) r3 h3
theorem s_chn' {n : Nat} (hK : X.K = F.K) (hr : Room n X.A) {o o' : COp} {ea eb ec : Ex} {a b c : Expr} (na : isB ea = false) (nb : isB eb = false) (pb : plainE b = true) (pc : plainE c = true)
    (ha : PE X a (LE F Wx false (evE W ea))) (hb : PE X b (LE F Wx false (evE W eb))) (hc : PE X c (LE F Wx (isB ec) (evE W ec))) : PE X (.Compare a [pyC o, pyC o'] [b, c] pos) (LE F Wx false (evE W (.chn o o' ea eb ec))) :=
  PE_imp (pe_chain (or_cmp o hr) (or_cmp o' hr) ha hb hc (chn_marks pb pc)) fun σ H Q h => chn_core hK na nb h
/-- a reading of a bool as a test -/
theorem LT_le {f : Wr → Ga → M → R D} {σ : L2.St} {H : Hp} {Q : Bool → Hp → Prop} {bor : Bool} (h : LT F Wx f σ H Q) : LE F Wx bor f σ H fun x H1 => ∃ k, x = .bl k ∧ Q k H1 := by
  obtain ⟨ω, g, m, wr, S, h⟩ := h
  refine LG.of S (Fin.mono (fun x H1 hx => ?_) (Fin.bind (rel := VRel F bor) S.ce h))
  obtain ⟨ω1, dx, m1, e1, p1, r1, h1⟩ := hx
  cases dx with
  | bool i => exact ⟨i, r1.bool, h1 ω1 i H1 (Po.refl p1.cells p1.tabs) rfl⟩
  | _ => exact h1.elim
theorem t_chn' {n : Nat} (hK : X.K = F.K) (hr : Room n X.A) {o o' : COp} {ea eb ec : Ex} {a b c : Expr} (na : isB ea = false) (nb : isB eb = false) (pb : plainE b = true) (pc : plainE c = true)
    (ha : PE X a (LE F Wx false (evE W ea))) (hb : PE X b (LE F Wx false (evE W eb))) (hc : PE X c (LE F Wx (isB ec) (evE W ec))) : PT X (.Compare a [pyC o, pyC o'] [b, c] pos) (LT F Wx (evE W (.chn o o' ea eb ec))) :=
  PT_imp (pt_chain (or_cmp o hr) (or_cmp o' hr) ha hb hc (chn_marks pb pc)) fun σ H Q h => chn_core hK na nb (LT_le h)
theorem s_idx (hK : X.K = F.K) {ea eb : Ex} {a b : Expr} (nb : isB eb = false) (pb : plainE b = true) (ha : PE X a (LE F Wx (isB ea) (evE W ea))) (hb : PE X b (LE F Wx false (evE W eb))) : PE X (.Subscript a b pos) (LE F Wx false (evE W (.idx ea eb))) := by
  refine PE_imp (pe_ix ix_seq ha hb (plain_ix pb)) fun σ H Q h => ?_
  have h := LG.congr (f' := fun wr g m => (evE W ea wr g m).bind fun x m1 => with2 (isB ea) (fun wr m => evE W eb wr g m) wr m1 fun y m2 => R.of (semIdx m2 x y) m2) (fun wr g m => by
    simp only [evE]
    rw [ev]
    exact if_neg (by rw [nb]; exact Bool.false_ne_true)) h
  refine s_two2 h fun ω ω₂ g m wr x y dx dy H2 S rx ry hf => ?_
  obtain ⟨d, e, q⟩ := hf.of
  exact idx_sound hK S.ce rx ry e fun v r => q ω v H2 (Po.refl S.ce S.tb) (.inl r)
/-- an optional part of a slice -/
abbrev LO (F : Fx) (Wx : WX) (f : Wr → Ga → M → R (Option Int)) : TO := LG F Wx (fun _ _ (d : Option Int) (o : Option Int) => d = o) f
abbrev evOs (W : Wd) (o : Option Ex) : Wr → Ga → M → R (Option Int) := fun wr g m => evO W o wr g m
theorem s_onone : PO X none (LO F Wx (evOs W none)) := by
  refine ⟨fun pins s σ H Q I h => po_none.run pins s σ H Q I ?_⟩
  obtain ⟨ω, g, m, wr, S, h⟩ := h
  simp only [evOs, evO] at h
  exact h.ok S.ce S.tb rfl
theorem s_osome {e : Ex} {p : Expr} (ne : isB e = false) (he : PE X p (LE F Wx false (evE W e))) : PO X (some p) (LO F Wx (evOs W (some e))) := by
  refine ⟨fun pins s σ H Q I h => (po_some he).run pins s σ H Q I ?_⟩
  obtain ⟨ω, g, m, wr, S, h⟩ := h
  simp only [evOs, evO, ne, Bool.false_eq_true, if_false] at h
  refine LG.of S (Fin.mono (fun x H1 hx => ?_) (Fin.bind (rel := VRel F false) S.ce h))
  obtain ⟨ω1, dx, m1, e1, p1, r1, h1⟩ := hx
  cases dx with
  | int i => exact ⟨i, r1.int, h1.ok p1.cells p1.tabs rfl⟩
  | _ => exact h1.elim
theorem s_slc (hK : X.K = F.K) {ea : Ex} {lo hi : Option Ex} {a : Expr} {plo phi : Option Expr} {p2 : Pos} (na : isB ea = false) (ha : PE X a (LE F Wx false (evE W ea)))
    (hlo : PO X plo (LO F Wx (evOs W lo))) (hhi : PO X phi (LO F Wx (evOs W hi))) : PE X (.Subscript a (.Slice plo phi none p2) pos) (LE F Wx false (evE W (.slc ea lo hi))) := by
  refine PE_imp (pe_slice sl_all ha hlo hhi) fun σ H Q h => ?_
  have h := LG.congr (f' := fun wr g m => (evE W ea wr g m).bind fun x m1 => (evO W lo wr g m1).bind fun l m2 => (evO W hi wr g m2).bind fun h m3 => R.of (semSlc x l h) m3) (fun wr g m => by
    simp only [evE]
    rw [ev]
    exact if_neg (by rw [na]; exact Bool.false_ne_true)) h
  obtain ⟨ω, g, m, wr, S, h⟩ := h
  refine LG.of S (Fin.mono (fun x H1 hx => ?_) (Fin.bind (rel := VRel F false) S.ce h))
  obtain ⟨ω1, dx, m1, e1, p1, r1, h1⟩ := hx
  have S1 := S.po p1
  refine LG.of S1 (Fin.mono (fun l H2 hx => ?_) (Fin.bind (rel := fun _ _ (d : Option Int) (o : Option Int) => d = o) S1.ce h1))
  obtain ⟨ω2, dl, m2, e2, p2, rfl, h2⟩ := hx
  have S2 := S1.po p2
  refine LG.of S2 (Fin.mono (fun u H3 hx => ?_) (Fin.bind (rel := fun _ _ (d : Option Int) (o : Option Int) => d = o) S2.ce h2))
  obtain ⟨ω3, du, m3, e3, p3, rfl, h3⟩ := hx
  obtain ⟨d, e, q⟩ := h3.of
  exact slc_sound hK p3.cells p3.tabs (Rep.stays (p3.stays p2.cells) _ _ (Rep.stays (p2.stays S1.ce) _ _ r1.pure)) e fun ω' v H' q' r => q ω' v H' q' (.inl r)

/-! ### cells -/
theorem ad_upd_of (ω : Om) (r : Nat) (f : Str) (a : Addr) : (fun r' f' => if r' = r ∧ f' = f then a else ω.ad r' f') r f = a := by simp
def Om.cell (ω : Om) (p : Addr) : Om := { B := fun b => ω.B b ∨ b = p, ad := fun r f => if r = ω.n then p else ω.ad r f, sl := ω.sl, n := ω.n + 1 }
theorem Po.cell {wr : Wr} {ω : Om} {m : M} {H : Hp} {p : Addr} {xs : List D} {vs : List V} (C : Cells F ω m H) (T : TabInv F H) (hp : H p = none) (rx : Reps F ω H xs vs) :
    Po F wr ω m H (ω.cell p) (m ++ [.lst xs]) (upd H p (.lst vs)) := by
  have k : ∀ b u, H b = some u → upd H p (.lst vs) b = some u := fun b u h => by rw [upd_ne (ne_of_none h hp)]; exact h
  have nb : ∀ b u, H b = some u → ¬ ω.B b → ¬ (ω.cell p).B b := fun b u h hn z => z.elim hn (ne_of_none h hp)
  have pb : ∀ b u, H b = some u → ω.B b → (ω.cell p).B b := fun b u h z => .inl z
  have adl : ∀ r, r < ω.n → (ω.cell p).ad r = ω.ad r := fun r hr => by
    funext f
    show (if r = ω.n then p else ω.ad r f) = ω.ad r f
    rw [if_neg (Nat.ne_of_lt hr)]
  have adn : ∀ f, (ω.cell p).ad ω.n f = p := fun f => by
    show (if ω.n = ω.n then p else ω.ad ω.n f) = p
    rw [if_pos rfl]
  have st : Stays F ω (ω.cell p) H (upd H p (.lst vs)) := ⟨Nat.le_succ _, fun r hr => by rw [adl r hr], fun b o h _ _ => .inl (k b o h), nb⟩
  have lv : ∀ r f, LvC (m ++ [.lst xs]) r f → LvC m r f ∨ (r = ω.n ∧ f = "") := fun r f h => by
    obtain ⟨h1, h2⟩ := h
    rw [List.length_append, List.length_singleton, C.len] at h1
    by_cases hr : r < m.length
    · refine .inl ⟨hr, ?_⟩
      rcases h2 with h2 | ⟨c, fs, d, e, h3⟩
      · exact .inl h2
      · rw [List.getElem?_append_left hr] at e
        exact .inr ⟨c, fs, d, e, h3⟩
    · rw [C.len] at hr
      have er : r = ω.n := by omega
      refine .inr ⟨er, ?_⟩
      rcases h2 with h2 | ⟨c, fs, d, e, h3⟩
      · exact h2
      · rw [er, ← C.len, List.getElem?_append_right (Nat.le_refl _), Nat.sub_self] at e
        cases e
  have ltn : ∀ {r f}, LvC m r f → r < ω.n := fun h => by have := h.1; rw [C.len] at this; exact this
  refine ⟨Nat.le_succ _, fun r hr => by rw [adl r hr], rfl, ⟨fun b u h _ _ => k b u h, fun b ps h => ⟨#[], by rw [k _ _ h]; simp⟩, nb, pb, fun b u h => ⟨u, k b u h⟩⟩, fun r f h => ?_, ⟨?_, fun r c e => ?_, fun r f r' f' h1 h2 h3 => ?_, fun r f h => ?_, fun r c fs e => ?_⟩, T.ext k⟩
  · rcases lv r f h with h | ⟨rfl, rfl⟩
    · exact .inl ⟨h, by rw [adl r (ltn h)]⟩
    · exact .inr (by rw [adn]; exact hp)
  · rw [List.length_append, C.len]
    rfl
  · by_cases hr : r < m.length
    · rw [List.getElem?_append_left hr] at e
      rw [C.len] at hr
      exact CellAt.stays st (adl r hr) (fun f _ o h _ => k _ _ h) (C.at_ r c e)
    · have hr2 := (List.getElem?_eq_some_iff.mp e).1
      rw [List.length_append, List.length_singleton] at hr2
      have er : r = ω.n := by rw [← C.len]; omega
      rw [er, ← C.len, List.getElem?_append_right (Nat.le_refl _), Nat.sub_self] at e
      cases e
      rw [er]
      exact ⟨vs, by rw [adn]; exact upd_same, Reps.stays st _ _ rx⟩
  · rcases lv r f h1 with h1 | ⟨rfl, rfl⟩
    · rcases lv r' f' h2 with h2 | ⟨rfl, rfl⟩
      · rw [adl r (ltn h1), adl r' (ltn h2)] at h3
        exact C.inj r f r' f' h1 h2 h3
      · rw [adl r (ltn h1), adn] at h3
        obtain ⟨o, e, _⟩ := C.tracked h1
        rw [h3, hp] at e
        cases e
    · rcases lv r' f' h2 with h2 | ⟨rfl, rfl⟩
      · rw [adl r' (ltn h2), adn] at h3
        obtain ⟨o, e, _⟩ := C.tracked h2
        rw [← h3, hp] at e
        cases e
      · exact ⟨rfl, rfl⟩
  · rcases lv r f h with h | ⟨rfl, rfl⟩
    · rw [adl r (ltn h)]
      exact .inl (C.inB r f h)
    · rw [adn]
      exact .inr rfl
  · by_cases hr : r < m.length
    · rw [List.getElem?_append_left hr] at e
      exact C.nd r c fs e
    · have hr2 := (List.getElem?_eq_some_iff.mp e).1
      rw [List.length_append, List.length_singleton] at hr2
      have er : r = m.length := by omega
      rw [er, List.getElem?_append_right (Nat.le_refl _), Nat.sub_self] at e
      cases e
theorem rep_cell {ω : Om} {H : Hp} {r : Nat} (hr : r < ω.n) : Rep F ω H (cellD r) (.ref (ω.ad r "")) := .inl ⟨r, rfl, hr, rfl⟩
theorem s_lstC {es : List Ex} {ps : List Expr} (hes : PA X ps (LA F Wx (evLs W es))) : PE X (.List ps pos) (LE F Wx false (evE W (.lstC es))) := by
  refine PE_imp (pe_lst hes) fun σ H Q h => ?_
  obtain ⟨ω, g, m, wr, S, h⟩ := h
  simp only [evE, ev] at h
  split at h
  · rename_i hl
    refine LG.of S (Fin.mono (fun xs H1 hx => ?_) (Fin.bind (rel := Reps F) S.ce h))
    obtain ⟨ω1, dx, m1, e1, p1, r1, h1⟩ := hx
    refine ⟨r1.le1000 hl (evL_len _ _ _ _ _ e1), fun p hp => ?_⟩
    have q := Po.cell (wr := wr) p1.cells p1.tabs hp r1
    refine h1 (ω1.cell p) _ _ q (.inl ?_)
    have e : (.ref p : V) = .ref ((ω1.cell p).ad m1.length "") := by
      show (.ref p : V) = .ref (if m1.length = ω1.n then p else _)
      rw [if_pos p1.cells.len]
    rw [e]
    exact rep_cell (by rw [p1.cells.len]; exact Nat.lt_succ_self _)
  · exact h.elim
end
end Ev
end
section
set_option linter.all false
set_option autoImplicit false
set_option maxRecDepth 100000
/-! Ev, part J: what is walked. -/
namespace Ev
open PySem PySem.Spec PyProof.Rows L2

structure Hold (F : Fx) (A : Addr → Prop) (ω1 : Om) (H1 : Hp) (ω : Om) (H : Hp) : Prop where
  st : Stays F ω1 ω H1 H
  at_ : ∀ b, A b → ∀ o, H1 b = some o → (∀ ps, o ≠ .tbl ps) → H b = some o
def adr (ω : Om) : Pl → Addr
  | .sl i => ω.sl i
  | .ce r f => ω.ad r f
def OwnP (g : Ga) (m : M) (d : D) : Pl → Prop
  | .sl i => g[i]? = some (some (true, d))
  | .ce r f => LvC m r f
def AOk (ω : Om) (m : M) (g : Ga) (p : Option Pl) (b : Addr) : Prop := ¬ ω.B b ∨ ∃ q d, p = some q ∧ OwnP g m d q ∧ b = adr ω q
structure Walk (F : Fx) (A : Addr → Prop) (ω1 : Om) (H1 : Hp) (J : It) (xs : List D) : Prop where
  go : ∀ ω H i, Hold F A ω1 H1 ω H → i < xs.length → J.go i H
  stop : ∀ ω H, Hold F A ω1 H1 ω H → J.stop xs.length H
  yld : ∀ (wr : Wr) ω m H i x H', Hold F A ω1 H1 ω H → Cells F ω m H → TabInv F H → i < xs.length → J.yld i H x H' → ∃ d ω', xs[i]? = some d ∧ Po F wr ω m H ω' m H' ∧ Rep F ω' H' d x
/-- what a base is: a value, or somebody's own -/
def RelBs (F : Fx) : Om → Hp → (D × Option Pl × Ga × M) → V → Prop := fun ω H r v => Rep F ω H r.1 v ∨ ∃ q, r.2.1 = some q ∧ v = .ref (adr ω q) ∧ ContAt F ω H (adr ω q) r.1 ∧ OwnP r.2.2.1 r.2.2.2 r.1 q
abbrev evBx (W : Wd) (b : Bs) : Wr → Ga → M → R (D × Option Pl × Ga × M) := fun wr g m => (evB W b wr g m).bind fun r m' => .ok (r.1, r.2, g, m') m'
def RelI (F : Fx) : Om → Hp → (List D × Option Pl × Ga × M) → It → Prop := fun ω H r J => ∃ A : Addr → Prop, (∀ b, A b → AOk ω r.2.2.2 r.2.2.1 r.2.1 b ∧ ∃ o, H b = some o ∧ ∀ ps, o ≠ .tbl ps) ∧ Walk F A ω H J r.1
abbrev evSx (W : Wd) (s : Src) : Wr → Ga → M → R (List D × Option Pl × Ga × M) := fun wr g m => (evS W s wr g m).bind fun r m' => .ok (r.1, r.2, g, m') m'
abbrev LI (F : Fx) (Wx : WX) (W : Wd) (s : Src) : TI := LG F Wx (RelI F) (evSx W s)
abbrev LB (F : Fx) (Wx : WX) (W : Wd) (b : Bs) : TE := LG F Wx (RelBs F) (evBx W b)

section
variable {X : Cx} {F : Fx} {W : Wd} {Wx : WX} {pos : Pos}
theorem Reps.get' {ω : Om} {H : Hp} {xs : List D} {vs : List V} {i : Nat} {x : V} (h : Reps F ω H xs vs) (e : vs[i]? = some x) : ∃ d, xs[i]? = some d ∧ Rep F ω H d x := by
  have hl := (List.getElem?_eq_some_iff.mp e).1
  rw [h.length] at hl
  obtain ⟨v, e2, r⟩ := h.get (List.getElem?_eq_getElem hl)
  rw [e] at e2
  cases e2
  exact ⟨_, List.getElem?_eq_getElem hl, r⟩
theorem sqL_hold {A : Addr → Prop} {ω1 ω : Om} {H1 H : Hp} {a : Addr} {vs : List V} (hA : A a) (hq : SqL F.K H1 a vs) (h : Hold F A ω1 H1 ω H) : SqL F.K H a vs := by
  rcases hq with (hq | ⟨o, hq⟩) | hq
  · exact .inl (.inl (h.at_ a hA _ hq fun ps z => by cases z))
  · exact .inl (.inr ⟨o, h.at_ a hA _ hq fun ps z => by cases z⟩)
  · exact .inr hq
theorem sqT_hold {A : Addr → Prop} {ω1 ω : Om} {H1 H : Hp} {a : Addr} {vs : List V} (hA : A a ∨ KTup F.K a vs) (hq : SqT F.K H1 a vs) (h : Hold F A ω1 H1 ω H) : SqT F.K H a vs := by
  rcases hA with hA | hA
  · rcases hq with (hq | ⟨o, hq⟩) | hq
    · exact .inl (.inl (h.at_ a hA _ hq fun ps z => by cases z))
    · exact .inl (.inr ⟨o, h.at_ a hA _ hq fun ps z => by cases z⟩)
    · exact .inr hq
  · exact .inr hA
theorem walk_list {A : Addr → Prop} {ω1 : Om} {H1 : Hp} {a : Addr} {xs : List D} {vs : List V} (hA : A a) (hq : SqL F.K H1 a vs) (r : Reps F ω1 H1 xs vs) : Walk F A ω1 H1 (Itl F.K a) xs := by
  refine ⟨fun ω H i h hi => ?_, fun ω H h => ?_, fun wr ω m H i x H' h C T hi y => ?_⟩
  · rw [← r.length] at hi
    exact ⟨vs, vs[i], sqL_hold hA hq h, List.getElem?_eq_getElem hi⟩
  · exact ⟨vs, sqL_hold hA hq h, by rw [r.length]; exact Nat.le_refl _⟩
  · obtain ⟨e, y⟩ := y
    subst e
    obtain ⟨d, e1, e2⟩ := r.get' (y vs (sqL_hold hA hq h))
    exact ⟨d, ω, e1, Po.refl C T, Rep.stays h.st _ _ e2⟩
theorem walk_tup {A : Addr → Prop} {ω1 : Om} {H1 : Hp} {a : Addr} {xs : List D} {vs : List V} (hA : A a ∨ KTup F.K a vs) (hq : SqT F.K H1 a vs) (r : Reps F ω1 H1 xs vs) : Walk F A ω1 H1 (Itt F.K a) xs := by
  refine ⟨fun ω H i h hi => ?_, fun ω H h => ?_, fun wr ω m H i x H' h C T hi y => ?_⟩
  · rw [← r.length] at hi
    exact ⟨vs, vs[i], sqT_hold hA hq h, List.getElem?_eq_getElem hi⟩
  · exact ⟨vs, sqT_hold hA hq h, by rw [r.length]; exact Nat.le_refl _⟩
  · obtain ⟨e, y⟩ := y
    subst e
    obtain ⟨d, e1, e2⟩ := r.get' (y vs (sqT_hold hA hq h))
    exact ⟨d, ω, e1, Po.refl C T, Rep.stays h.st _ _ e2⟩
theorem walk_rng {A : Addr → Prop} {ω1 : Om} {H1 : Hp} {lo : Int} {n : Nat} : Walk F A ω1 H1 (Itr lo n) ((List.range n).map fun (k : Nat) => (.int (lo + (k : Int)) : D)) := by
  refine ⟨fun ω H i h hi => ?_, fun ω H h => ?_, fun wr ω m H i x H' h C T hi y => ?_⟩
  · rw [List.length_map, List.length_range] at hi
    exact hi
  · rw [List.length_map, List.length_range]
    exact Nat.le_refl _
  · obtain ⟨e, y⟩ := y
    subst e
    rw [List.length_map, List.length_range] at hi
    refine ⟨.int (lo + i), ω, ?_, Po.refl C T, y⟩
    rw [List.getElem?_map, List.getElem?_range hi]
    rfl
theorem enum_get {xs : List D} {i : Nat} {d : D} (e : xs[i]? = some d) : (enumOf xs)[i]? = some (.tuple [.int (i : Int), d]) := by
  have hl := (List.getElem?_eq_some_iff.mp e).1
  unfold enumOf
  rw [List.getElem?_zipWith, e, List.getElem?_range hl]
theorem enum_len (xs : List D) : (enumOf xs).length = xs.length := by simp [enumOf]
theorem pair_new {wr : Wr} {ω : Om} {m : M} {H : Hp} {T : Addr} {x y : V} {dx dy : D} (C : Cells F ω m H) (TI : TabInv F H) (hT : H T = none) (rx : Rep F ω H dx x) (ry : Rep F ω H dy y) :
    Po F wr ω m H (ω.out T) m (upd H T (.tup [x, y])) ∧ Rep F (ω.out T) (upd H T (.tup [x, y])) (.tuple [dx, dy]) (.ref T) := by
  have q := Po.new (wr := wr) (o := .tup [x, y]) C TI hT
  exact ⟨q, T, [x, y], rfl, .inl ⟨upd_same, fun z => z.2 rfl⟩, Reps.stays (q.stays C) _ _ ⟨x, [y], rfl, rx, y, [], rfl, ry, rfl⟩⟩
theorem walk_enum {A : Addr → Prop} {ω1 : Om} {H1 : Hp} {a : Addr} {xs : List D} {vs : List V} (hA : A a) (hq : SqL F.K H1 a vs) (r : Reps F ω1 H1 xs vs) : Walk F A ω1 H1 (Ite F.K a) (enumOf xs) := by
  refine ⟨fun ω H i h hi => ?_, fun ω H h => ?_, fun wr ω m H i x H' h C T hi y => ?_⟩
  · rw [enum_len, ← r.length] at hi
    exact ⟨vs, vs[i], sqL_hold hA hq h, List.getElem?_eq_getElem hi⟩
  · exact ⟨vs, sqL_hold hA hq h, by rw [enum_len, r.length]; exact Nat.le_refl _⟩
  · obtain ⟨Tp, v, rfl, hn, rfl, y⟩ := y
    obtain ⟨d, e1, e2⟩ := r.get' (y vs (sqL_hold hA hq h))
    obtain ⟨q1, q2⟩ := pair_new (wr := wr) (dx := .int (i : Int)) (x := .int (i : Int)) C T hn rfl (Rep.stays h.st _ _ e2)
    exact ⟨_, _, enum_get e1, q1, q2⟩

/-! enumerate of a tuple -/
def IteT (K : PySem.W.Frag) (a : Addr) : It :=
  ⟨fun i H => ∃ (xs : List V) (x : V), SqT K H a xs ∧ xs[i]? = some x, fun i H v H' => ∃ T x, v = .ref T ∧ H T = none ∧ H' = upd H T (.tup [.int (i : Nat), x]) ∧ ∀ xs, SqT K H a xs → xs[i]? = some x, fun i H => ∃ xs : List V, SqT K H a xs ∧ xs.length ≤ i⟩
theorem walk_enumT {A : Addr → Prop} {ω1 : Om} {H1 : Hp} {a : Addr} {xs : List D} {vs : List V} (hA : A a ∨ KTup F.K a vs) (hq : SqT F.K H1 a vs) (r : Reps F ω1 H1 xs vs) : Walk F A ω1 H1 (IteT F.K a) (enumOf xs) := by
  refine ⟨fun ω H i h hi => ?_, fun ω H h => ?_, fun wr ω m H i x H' h C T hi y => ?_⟩
  · rw [enum_len, ← r.length] at hi
    exact ⟨vs, vs[i], sqT_hold hA hq h, List.getElem?_eq_getElem hi⟩
  · exact ⟨vs, sqT_hold hA hq h, by rw [enum_len, r.length]; exact Nat.le_refl _⟩
  · obtain ⟨Tp, v, rfl, hn, rfl, y⟩ := y
    obtain ⟨d, e1, e2⟩ := r.get' (y vs (sqT_hold hA hq h))
    obtain ⟨q1, q2⟩ := pair_new (wr := wr) (dx := .int (i : Int)) (x := .int (i : Int)) C T hn rfl (Rep.stays h.st _ _ e2)
    exact ⟨_, _, enum_get e1, q1, q2⟩
theorem zip_get {xs ys : List D} {i : Nat} {d e : D} (h1 : xs[i]? = some d) (h2 : ys[i]? = some e) : (xs.zipWith (fun a b => (.tuple [a, b] : D)) ys)[i]? = some (.tuple [d, e]) := by
  rw [List.getElem?_zipWith, h1, h2]
theorem walk_zip {A : Addr → Prop} {ω1 : Om} {H1 : Hp} {a b : Addr} {xs ys : List D} {vs us : List V} (hA : A a) (hB : A b) (hq : SqL F.K H1 a vs) (hq2 : SqL F.K H1 b us) (r : Reps F ω1 H1 xs vs) (r2 : Reps F ω1 H1 ys us) : Walk F A ω1 H1 (Itz F.K a b) (xs.zipWith (fun a b => .tuple [a, b]) ys) := by
  refine ⟨fun ω H i h hi => ?_, fun ω H h => ?_, fun wr ω m H i x H' h C T hi y => ?_⟩
  · rw [List.length_zipWith, ← r.length, ← r2.length, Nat.lt_min] at hi
    exact ⟨vs, us, vs[i], us[i], sqL_hold hA hq h, sqL_hold hB hq2 h, List.getElem?_eq_getElem hi.1, List.getElem?_eq_getElem hi.2⟩
  · refine ⟨vs, us, sqL_hold hA hq h, sqL_hold hB hq2 h, ?_⟩
    rw [List.length_zipWith, ← r.length, ← r2.length]
    omega
  · obtain ⟨Tp, v, u, rfl, hn, rfl, y, y2⟩ := y
    obtain ⟨d, e1, e2⟩ := r.get' (y vs (sqL_hold hA hq h))
    obtain ⟨d2, e3, e4⟩ := r2.get' (y2 us (sqL_hold hB hq2 h))
    obtain ⟨q1, q2⟩ := pair_new (wr := wr) C T hn (Rep.stays h.st _ _ e2) (Rep.stays h.st _ _ e4)
    exact ⟨_, _, zip_get e1 e3, q1, q2⟩
theorem walk_zipT {A : Addr → Prop} {ω1 : Om} {H1 : Hp} {a b : Addr} {xs ys : List D} {vs us : List V} (hA : A a ∨ KTup F.K a vs) (hB : A b ∨ KTup F.K b us) (hq : SqT F.K H1 a vs) (hq2 : SqT F.K H1 b us) (r : Reps F ω1 H1 xs vs) (r2 : Reps F ω1 H1 ys us) : Walk F A ω1 H1 (RZ.ItzT F.K a b) (xs.zipWith (fun a b => .tuple [a, b]) ys) := by
  refine ⟨fun ω H i h hi => ?_, fun ω H h => ?_, fun wr ω m H i x H' h C T hi y => ?_⟩
  · rw [List.length_zipWith, ← r.length, ← r2.length, Nat.lt_min] at hi
    exact ⟨vs, us, vs[i], us[i], sqT_hold hA hq h, sqT_hold hB hq2 h, List.getElem?_eq_getElem hi.1, List.getElem?_eq_getElem hi.2⟩
  · refine ⟨vs, us, sqT_hold hA hq h, sqT_hold hB hq2 h, ?_⟩
    rw [List.length_zipWith, ← r.length, ← r2.length]
    omega
  · obtain ⟨Tp, v, u, rfl, hn, rfl, y, y2⟩ := y
    obtain ⟨d, e1, e2⟩ := r.get' (y vs (sqT_hold hA hq h))
    obtain ⟨d2, e3, e4⟩ := r2.get' (y2 us (sqT_hold hB hq2 h))
    obtain ⟨q1, q2⟩ := pair_new (wr := wr) C T hn (Rep.stays h.st _ _ e2) (Rep.stays h.st _ _ e4)
    exact ⟨_, _, zip_get e1 e3, q1, q2⟩
end
end Ev
end
section
set_option linter.all false
set_option autoImplicit false
set_option maxRecDepth 100000
/-! Ev, part K: enumerate of a tuple; the readings of what is walked. -/
namespace PySem
open Sem (wp)
open AutoSeq1 (wpAny_loadPart')
set_option maxHeartbeats 1000000 in
theorem ev_meets_enumT (l : Addr) (items : Array Value) (n : Nat) (dct : Option Addr) (sl : Array (Option Value)) :
    Meets (Builtin.«enumerate.__new__» ⟨[.type "enumerate", .ref l], []⟩) (fun _ R s => s.heap.get? l = some { cls := .type "tuple", dict := dct, data := .seq items n, slots := sl } ∧
      R (.ok (.ret (.ref (s.heap.push { cls := .type "tuple_iterator", data := .fields #[.ref l, .int 0 0] }).objs.size)))
        { s with heap := (s.heap.push { cls := .type "tuple_iterator", data := .fields #[.ref l, .int 0 0] }).push { cls := .type "enumerate", data := .fields #[.none, .bool false, .ref s.heap.objs.size, rawInt 0, .none, .none] } }) :=
  .of_wp fun prog w A R s h => by
    obtain ⟨hp, g, d, tk, os⟩ := s; obtain ⟨hl, h⟩ := h
    have hsub := sub_enumerate
    have hL : Heap.IsTuple (Shared.heap ⟨hp, g, d, tk, os⟩) l items := ⟨_, hl, rfl, n, rfl⟩
    wp_walk using wpAny_loadPart' hl
    refine wpAny_stack_any fun st => wpAny_pure ?_
    split
    · rename_i c _ _ _ _ _
      cases (c == Value.type "enumerate")
      · wp_walk using wpAny_loadPart' hl, wpAny_pyIter_tuple hL
        exact ⟨_, rfl, h⟩
      · wp_walk using wpAny_loadPart' hl, wpAny_pyIter_tuple hL
        exact ⟨_, rfl, h⟩
    · wp_walk using wpAny_loadPart' hl, wpAny_pyIter_tuple hL
      exact ⟨_, rfl, h⟩
section
variable {prog : Program} {w : World} {A : Around} {E : Value → Shared → Prop} {s : Shared}
theorem ev_call_enumT {l : Addr} {items : Array Value} {Q : Value → Shared → Prop} (hL : s.heap.IsTuple l items)
    (h : ∀ h', IsEnum h' (s.heap.objs.size + 1) s.heap.objs.size 0 .none → h'.IsTupleIter s.heap.objs.size l 0 → h'.objs.size = s.heap.objs.size + 2 →
      (∀ b o, s.heap.get? b = some o → h'.get? b = some o) → Q (.ref (s.heap.objs.size + 1)) { s with heap := h' }) :
    wpAny (model prog w) A (call (.type "enumerate") [.ref l]) Q E s := by
  obtain ⟨⟨c, dct, dt, sl⟩, hl, hc, n, hd⟩ := hL
  replace hc : c = .type "tuple" := hc
  replace hd : dt = .seq items n := hd
  subst hc hd
  refine callType_new F.called_enumerate (by decide) (F.typeCall_enumerate_1 _) (F.newCall_enumerate_1 _) (fun obj => F.args_object_init_2 obj _) F.entry_enumerate_new
    (ev_meets_enumT l items n dct sl) ⟨hl, ?_⟩
  have hz : (s.heap.push { cls := .type "tuple_iterator", data := .fields #[.ref l, .int 0 0] }).objs.size = s.heap.objs.size + 1 := Heap.size_push ..
  show _ ∧ _
  rw [hz]
  have he : IsEnum ((s.heap.push { cls := .type "tuple_iterator", data := .fields #[.ref l, .int 0 0] }).push
      { cls := .type "enumerate", data := .fields #[.none, .bool false, .ref s.heap.objs.size, rawInt 0, .none, .none] }) (s.heap.objs.size + 1) s.heap.objs.size 0 .none := by
    have := Heap.get?_push_size (s.heap.push { cls := .type "tuple_iterator", data := .fields #[.ref l, .int 0 0] })
      (o := { cls := .type "enumerate", data := .fields #[.none, .bool false, .ref s.heap.objs.size, rawInt 0, .none, .none] }) rfl
    rw [hz] at this; exact this
  refine ⟨⟨_, he, rfl⟩, h _ he ⟨_, Heap.get?_push_of_some _ (Heap.get?_push_size _ rfl), rfl, rfl⟩ (by rw [Heap.size_push, hz]) fun b o x => Heap.get?_push_of_some _ (Heap.get?_push_of_some _ x)⟩
end
end PySem
namespace Ev
open PySem PySem.Spec PyProof.Rows L2
theorem turn_enumT {P : Program} {w : World} {K : PySem.W.Frag} {elts : List Expr} {kk : Nat} {tpos : Pos} (a e it : Addr) (hae : a ≠ e) (hai : a ≠ it) :
    Turn P w K (.Tuple elts kk tpos) (IteT K a) [e, it] e (fun i h => (∃ old, IsEnum h e it ((i : Nat) : Int) old) ∧ h.IsTupleIter it a i ∧ e ≠ it) where
  mem := by simp
  obj := fun i h st b hb => by
    obtain ⟨⟨old, he⟩, ⟨o, ho, hc, hd⟩, _⟩ := st
    have e' : b = e ∨ b = it := by simpa using hb
    rcases e' with z | z
    · rw [z]; exact ⟨_, he, fun v q => nomatch q⟩
    · rw [z]; exact ⟨o, ho, fun v q => by rw [hd] at q; cases q⟩
  keep := fun i h h' st k => let ⟨⟨old, he⟩, hi, hne⟩ := st; ⟨⟨old, k e (by simp) _ he⟩, hi.at fun o q => k it (by simp) o q, hne⟩
  item := by
    intro X hP hw hK hc i pins s σ H E I hf st hg
    subst hP hw hK
    obtain ⟨⟨old, he⟩, hit, hne⟩ := st
    obtain ⟨xs, x, hq, hx⟩ := hg
    obtain ⟨its, rv, p, hz⟩ := I.tuple hq
    obtain ⟨u, hu, ru⟩ := rv.get hx
    have hel : e < s.heap.objs.size := Heap.lt_size he
    have hil : it < s.heap.objs.size := by obtain ⟨_, q, _⟩ := hit; exact Heap.lt_size q
    have hlt : i < its.toArray.size := by
      have := (List.getElem?_eq_some_iff.mp hu).1
      simpa using this
    have hitm : e ∉ [it, a] := by
      intro z
      rcases List.mem_cons.mp z with z | z
      · exact hne z
      · exact hae (List.mem_singleton.mp z).symm
    refine wpAny_pyNext_enum_itemD (n := its.toArray.size) (Draws.tuple (A := X.A.in1) (I.ok.hd hc) it a hai its.toArray) he ⟨hit, p⟩ hlt hne hitm fun xv h' tk hP ho hit' hT hsz hk => ?_
    have hxu : xv = u := by
      have : its.toArray[i]? = some xv := hP
      rw [List.getElem?_toArray, hu] at this
      exact (Option.some.inj this).symm
    subst hxu
    refine ⟨_, rfl, wpAny_letOwnedTupleGo_enum (s := { s with heap := h', toks := tk + 1 }) ho fun h'' he' sb => ?_⟩
    have hT2 : h''.get? s.heap.objs.size = some { cls := .type "tuple", data := .seq #[.int i tk, xv] } := (sb.2 _ (Nat.ne_of_gt hel)).trans hT
    have new : ObjOk X.prog X.w (upd H s.heap.objs.size (.tup [.int (i : Nat), x])) h'' s.heap.objs.size (.tup [.int (i : Nat), x]) :=
      ⟨by show 2 ≤ sizeLine; decide, [.int i tk, xv], .cons ⟨_, rfl⟩ (.cons ru .nil), ⟨_, hT2, rfl, _, rfl⟩⟩
    have I1 : Inv X pins σ (upd H s.heap.objs.size (.tup [.int (i : Nat), x])) { s with heap := h'', toks := tk + 1 } :=
      I.turnedNew (ch := [e, it]) (fun b ob hb q => (sb.2 b (fun z => hb (by simp [z]))).trans (hk b ob (fun z => hb (by simp [z])) (fun z => hb (by simp [z])) q)) hf (Nat.le_refl _) new
    refine ⟨.ref s.heap.objs.size, _, I1, rfl, ⟨_, x, rfl, I.hok.fresh (Nat.le_refl _), rfl, fun ys hy => by rw [I.tuple_inj hy hq]; exact hx⟩, ⟨⟨xv, ?_⟩, hit'.1.at fun o q => (sb.2 it (Ne.symm hne)).trans q, hne⟩, fun b hb => ?_⟩
    · have e1 : ((i + 1 : Nat) : Int) = (i : Int) + 1 := by omega
      rw [e1]; exact he'
    · have hb' : b < s.heap.objs.size := by
        have e' : b = e ∨ b = it := by simpa using hb
        rcases e' with z | z
        · rw [z]; exact hel
        · rw [z]; exact hil
      rw [upd_ne (Nat.ne_of_lt hb')]
      exact (hf b hb).1
  done := by
    intro X hP hw hK hc i pins s σ H E I hf st hg
    subst hP hw hK
    obtain ⟨⟨old, he⟩, hit, hne⟩ := st
    obtain ⟨xs, hq, hx⟩ := hg
    obtain ⟨its, rv, p, hz⟩ := I.tuple hq
    obtain ⟨f0, f1, f2, f3, f4, f5⟩ := hf it (by simp)
    have hl := rv.length
    have hT : s.TypeIs (.ref e) "enumerate" := ⟨_, he, rfl⟩
    unfold pyNext
    refine wpAny_bind (wpAny_attempt (wpAny_callSpecial?_slot (name := Str.ofString "__next__") hT F.slot_enumerate_next
      (wpAny_call_entry F.slot_enumerate_next hT F.entry_enumerate_next ?_ (F.args_enumerate_next_1 _))))
    show wpAny _ _ (field (.ref e) 2 >>= _) _ _ _
    refine wpAny_bind (wpAny_field he rfl (x := .ref it) rfl ?_)
    refine wpAny_bind (wpAny_nextOf_tuple_end (I.ok.hd hc) hit p (by simp; omega) fun h' x he' hx' => ?_)
    obtain ⟨o, ho, hcl⟩ := hx'
    refine wpAny_bind (wpAny_isInstance (T := "StopIteration") (b := true) ⟨o, ho, hcl⟩ isSubtype_stop ?_)
    exact wpAny_pure ⟨rfl, I.turned (t' := s.toks) (fun b o hb q => he' b o hb q) f0 f1 f3 f4 f5⟩
  self := fun A i s Q E st h => let ⟨⟨_, he⟩, _⟩ := st; wpAny_pyIter_enum he h
section
variable {X : Cx}
/-- over a list or a tuple, as the value is -/
def iSeq (K : PySem.W.Frag) (tl : TE) : TI := fun σ H R => tl σ H fun x H1 => ∃ a, x = .ref a ∧ (((∃ xs, SqL K H1 a xs) ∧ R (Itl K a) H1) ∨ ((∃ xs, SqT K H1 a xs) ∧ R (Itt K a) H1))
theorem pi_seq {tg l : Expr} {tl : TE} (hl : PE X l tl) : PI X tg l (iSeq X.K tl) := by
  refine ⟨fun pins s σ H R I h => ?_⟩
  refine thn (hl.run pins s σ H _ I h) fun v s1 ⟨x, H1, I1, r1, q1⟩ => ?_
  obtain ⟨a, e, q1⟩ := q1
  subst e
  cases r1
  have fp1 : ∀ b ∈ [s1.heap.objs.size], FpOk X pins H1 b := fun b hb => by
    have e : b = s1.heap.objs.size := by simpa using hb
    subst e
    exact I1.fpOk (Nat.le_refl _) (I1.hok.fresh (Nat.le_refl _))
  rcases q1 with ⟨⟨xs, hq⟩, q⟩ | ⟨⟨xs, hq⟩, q⟩
  · obtain ⟨its, rv, p, hz⟩ := I1.list hq
    refine wpAny_pyIter_list p.isList ?_
    exact ⟨s1.heap.objs.size, [s1.heap.objs.size], _, _, H1, rfl, I1.kept (t' := s1.toks) fun b o e => Heap.get?_push_of_some _ e, turn_list a _, ⟨_, Heap.get?_push_size _ rfl, rfl, rfl⟩, fp1, q⟩
  · obtain ⟨its, rv, p, hz⟩ := I1.tuple hq
    refine wpAny_pyIter_tuple (show s1.heap.IsTuple a its.toArray from p) ?_
    exact ⟨s1.heap.objs.size, [s1.heap.objs.size], _, _, H1, rfl, I1.kept (t' := s1.toks) fun b o e => Heap.get?_push_of_some _ e, turn_tuple a _, ⟨_, Heap.get?_push_size _ rfl, rfl, rfl⟩, fp1, q⟩
def iEnumA (K : PySem.W.Frag) (ta : TA) : TI := fun σ H R => ta σ H fun vs H1 => ∃ a, vs = [.ref a] ∧ (((∃ xs, SqL K H1 a xs) ∧ R (Ite K a) H1) ∨ ((∃ xs, SqT K H1 a xs) ∧ R (IteT K a) H1))
theorem pi_enumA {e : Expr} {ta : TA} {p pos tpos : Pos} {elts : List Expr} {kk : Nat} (hg : Gl X "enumerate") (hm : X.mg "enumerate" = none) (ha : PA X [e] ta) (hs : starEach [e] X.env = [(false, eval e X.env)]) :
    PI X (.Tuple elts kk tpos) (.Call (.Name "enumerate" p) [e] [] pos) (iEnumA X.K ta) := by
  refine ⟨fun pins s σ H R I h => ?_⟩
  refine Call_ (ld_blt I hg hm boot_enumerate (PyProof.Rows.callWith_type1 (thn (ha.run pos pins s σ H _ I h) fun us s1 ⟨vs, H1, I1, r1, q1⟩ => ?_) hs rfl))
  obtain ⟨a, ex, q1⟩ := q1
  subst ex
  cases r1 with
  | cons r rr =>
    cases rr
    cases r
    have fp2 : ∀ b ∈ [s1.heap.objs.size + 1, s1.heap.objs.size], FpOk X pins H1 b := fun b hb => by
      have e' : b = s1.heap.objs.size + 1 ∨ b = s1.heap.objs.size := by simpa using hb
      have hle : s1.heap.objs.size ≤ b := by
        rcases e' with z | z
        · rw [z]; exact Nat.le_add_right _ _
        · rw [z]; exact Nat.le_refl _
      exact I1.fpOk hle (I1.hok.fresh hle)
    rcases q1 with ⟨⟨xs, hq⟩, q⟩ | ⟨⟨xs, hq⟩, q⟩
    · obtain ⟨its, rv, p', hz⟩ := I1.list hq
      refine call_enumerate_list p'.isList fun h' he hit hsz hk => wpAny_pyIter_enum he ?_
      have I2 : Inv X pins σ H1 { s1 with heap := h' } := I1.kept (t' := s1.toks) hk
      exact ⟨s1.heap.objs.size + 1, [s1.heap.objs.size + 1, s1.heap.objs.size], _, _, H1, rfl, I2, turn_enum a (s1.heap.objs.size + 1) s1.heap.objs.size, ⟨⟨.none, he⟩, hit, Nat.succ_ne_self _⟩, fp2, q⟩
    · obtain ⟨its, rv, p', hz⟩ := I1.tuple hq
      have hal : a < s1.heap.objs.size := by obtain ⟨o, ho, _⟩ := p'; exact Heap.lt_size ho
      refine ev_call_enumT p' fun h' he hit hsz hk => wpAny_pyIter_enum he ?_
      have I2 : Inv X pins σ H1 { s1 with heap := h' } := I1.kept (t' := s1.toks) hk
      exact ⟨s1.heap.objs.size + 1, [s1.heap.objs.size + 1, s1.heap.objs.size], _, _, H1, rfl, I2, turn_enumT a (s1.heap.objs.size + 1) s1.heap.objs.size (Nat.ne_of_lt (Nat.lt_succ_of_lt hal)) (Nat.ne_of_lt hal), ⟨⟨.none, he⟩, hit, Nat.succ_ne_self _⟩, fp2, q⟩
theorem PI_imp {tg e : Expr} {t t' : TI} (h : PI X tg e t) (i : ∀ σ H R, t' σ H R → t σ H R) : PI X tg e t' := ⟨fun pins s σ H R I hw => h.run pins s σ H R I (i σ H R hw)⟩
end
end Ev
end
section
set_option linter.all false
set_option autoImplicit false
set_option maxRecDepth 100000
/-! Ev, part L: sources. -/
namespace Ev
open PySem PySem.Spec PyProof.Rows L2

section
variable {X : Cx} {F : Fx} {W : Wd} {Wx : WX} {pos : Pos}
theorem b_e {e : Ex} {p : Expr} (ne : isB e = false) (he : PE X p (LE F Wx false (evE W e))) : PE X p (LB F Wx W (.e e)) := by
  refine PE_imp he fun σ H Q h => ?_
  obtain ⟨ω, g, m, wr, S, h⟩ := h
  simp only [evBx, evB, ne, Bool.false_eq_true, if_false] at h
  refine LG.of (wr := wr) S ?_
  show Fin F Wx wr σ (VRel F false) _ ω m H (ev W e wr g m)
  cases hx : ev W e wr g m with
  | stuck => rw [hx] at h; exact h
  | exc c m' => rw [hx] at h; exact h
  | ok d m' => rw [hx] at h; exact fun ω' v H' p r => h ω' v H' p (.inl r.pure)
theorem b_sl {i : Nat} {x : Str} (hN : X.N[i]? = some x) (hv : Vis X.env.scope x) (hd : (x == ("__debug__" : Str)) = false) (hcd : (x == ("__classdict__" : Str)) = false) : PE X (.Name x pos) (LB F Wx W (.sl i)) := by
  refine PE_imp (pe_var hN hv hd hcd) fun σ H Q h => ?_
  obtain ⟨ω, g, m, wr, S, h⟩ := h
  simp only [evBx, evB] at h
  split at h
  · rename_i b d e
    cases b with
    | false =>
      obtain ⟨v, e1, e2⟩ := S.sl.val i d e
      exact ⟨v, e1, h.ok S.ce S.tb (.inl e2)⟩
    | true =>
      obtain ⟨e1, e2, _, _⟩ := S.sl.own i d e
      exact ⟨_, e1, h.ok S.ce S.tb (.inr ⟨.sl i, rfl, rfl, e2, e⟩)⟩
  · exact h.elim
/-- what a base holds, to be walked -/
theorem bs_walk {α : Type} {ω : Om} {m : M} {H : Hp} {g : Ga} {p : Option Pl} {d : D} {xs : List D} {v : V} (r : RelBs F ω H (d, p, g, m) v) (e : itemsOf d = some xs) :
    ∃ a, v = .ref a ∧ ((∃ vs, SqL F.K H a vs ∧ Reps F ω H xs vs ∧ ∃ A : Addr → Prop, A a ∧ ∀ b, A b → AOk ω m g p b ∧ ∃ o, H b = some o ∧ ∀ ps, o ≠ .tbl ps) ∨
      (∃ vs, SqT F.K H a vs ∧ Reps F ω H xs vs ∧ ∃ A : Addr → Prop, (A a ∨ KTup F.K a vs) ∧ ∀ b, A b → AOk ω m g p b ∧ ∃ o, H b = some o ∧ ∀ ps, o ≠ .tbl ps)) := by
  cases d with
  | list ds =>
    cases e
    rcases r with ⟨a, vs, rfl, h1, h2, h3⟩ | ⟨q, e1, rfl, ⟨vs, h1, h3⟩, h4⟩
    · refine ⟨a, rfl, .inl ⟨vs, SqL.of h1, h3, (· = a), rfl, fun b hb => ?_⟩⟩
      subst hb
      exact ⟨.inl h2, _, h1, fun ps z => by cases z⟩
    · refine ⟨_, rfl, .inl ⟨vs, SqL.of h1, h3, (· = adr ω q), rfl, fun b hb => ?_⟩⟩
      subst hb
      exact ⟨.inr ⟨q, _, e1, h4, rfl⟩, _, h1, fun ps z => by cases z⟩
  | tuple ds =>
    cases e
    rcases r with ⟨a, vs, rfl, h1, h3⟩ | ⟨q, e1, rfl, h, h4⟩
    · refine ⟨a, rfl, .inr ⟨vs, h1.sq, h3, ?_⟩⟩
      rcases h1 with ⟨h1, h2⟩ | h1
      · refine ⟨(· = a), .inl rfl, fun b hb => ?_⟩
        subst hb
        exact ⟨.inl h2, _, h1, fun ps z => by cases z⟩
      · exact ⟨fun _ => False, .inr h1, fun b hb => hb.elim⟩
    · exact h.elim
  | none => cases e
  | bool _ => cases e
  | int _ => cases e
  | str _ => cases e
  | dict _ => cases e
theorem pi_seqS {tg p : Expr} {b : Bs} (hK : X.K = F.K) (hb : PE X p (LB F Wx W b)) : PI X tg p (LI F Wx W (.seq b)) := by
  refine PI_imp (pi_seq hb) fun σ H Rr h => ?_
  have h := LG.congr (f' := fun wr g m => (evBx W b wr g m).bind fun r m1 => R.of ((itemsOf r.1).map fun xs => (xs, r.2.1, g, m1)) m1) (fun wr g m => by
    simp only [evSx, evBx, evS]
    cases evB W b wr g m with
    | stuck => rfl
    | exc c m => rfl
    | ok r m1 =>
      obtain ⟨x, p⟩ := r
      simp only [R.bind_ok]
      cases itemsOf x <;> rfl) h
  obtain ⟨ω, g, m, wr, S, h⟩ := h
  refine LG.of S (Fin.mono (fun x H1 hx => ?_) (Fin.bind (rel := RelBs F) S.ce h))
  obtain ⟨ω1, r, m1, e1, p1, r1, h1⟩ := hx
  have e2 : r.2.2 = (g, m1) := by
    simp only [evBx] at e1
    cases e3 : evB W b wr g m with
    | stuck => rw [e3] at e1; cases e1
    | exc c m => rw [e3] at e1; cases e1
    | ok z m2 => rw [e3] at e1; cases e1; rfl
  obtain ⟨d, p, g', m'⟩ := r
  cases e2
  cases e : itemsOf d with
  | none => simp only [e] at h1; exact h1.elim
  | some xs =>
    simp only [e] at h1
    obtain ⟨a, rfl, z⟩ := bs_walk (α := Unit) r1 e
    refine ⟨a, rfl, ?_⟩
    rw [hK]
    rcases z with ⟨vs, q1, q2, A, q3, q4⟩ | ⟨vs, q1, q2, A, q3, q4⟩
    · exact .inl ⟨⟨vs, q1⟩, h1.ok p1.cells p1.tabs ⟨A, q4, walk_list q3 q1 q2⟩⟩
    · exact .inr ⟨⟨vs, q1⟩, h1.ok p1.cells p1.tabs ⟨A, q4, walk_tup q3 q1 q2⟩⟩
theorem pi_enumS {p : Expr} {b : Bs} {np pos tpos : Pos} {elts : List Expr} {kk : Nat} (hK : X.K = F.K) (hg : Gl X "enumerate") (hm : X.mg "enumerate" = none) (pp : plainE p = true) (hb : PE X p (LB F Wx W b)) :
    PI X (.Tuple elts kk tpos) (.Call (.Name "enumerate" np) [p] [] pos) (LI F Wx W (.enum b)) := by
  refine PI_imp (pi_enumA hg hm (pa_cons hb pa_nil (plain_star pp _ _)) (plain_star pp _ _)) fun σ H Rr h => ?_
  have h := LG.congr (f' := fun wr g m => (evBx W b wr g m).bind fun r m1 => R.of ((itemsOf r.1).map fun xs => (enumOf xs, r.2.1, g, m1)) m1) (fun wr g m => by
    simp only [evSx, evBx, evS]
    cases evB W b wr g m with
    | stuck => rfl
    | exc c m => rfl
    | ok r m1 =>
      obtain ⟨x, p⟩ := r
      simp only [R.bind_ok]
      cases itemsOf x <;> rfl) h
  obtain ⟨ω, g, m, wr, S, h⟩ := h
  refine LG.of S (Fin.mono (fun x H1 hx => ?_) (Fin.bind (rel := RelBs F) S.ce h))
  obtain ⟨ω1, r, m1, e1, p1, r1, h1⟩ := hx
  have e2 : r.2.2 = (g, m1) := by
    simp only [evBx] at e1
    cases e3 : evB W b wr g m with
    | stuck => rw [e3] at e1; cases e1
    | exc c m => rw [e3] at e1; cases e1
    | ok z m2 => rw [e3] at e1; cases e1; rfl
  obtain ⟨d, p, g', m'⟩ := r
  cases e2
  cases e : itemsOf d with
  | none => simp only [e] at h1; exact h1.elim
  | some xs =>
    simp only [e] at h1
    obtain ⟨a, rfl, z⟩ := bs_walk (α := Unit) r1 e
    refine ⟨a, rfl, ?_⟩
    rw [hK]
    rcases z with ⟨vs, q1, q2, A, q3, q4⟩ | ⟨vs, q1, q2, A, q3, q4⟩
    · exact .inl ⟨⟨vs, q1⟩, h1.ok p1.cells p1.tabs ⟨A, q4, walk_enum q3 q1 q2⟩⟩
    · exact .inr ⟨⟨vs, q1⟩, h1.ok p1.cells p1.tabs ⟨A, q4, walk_enumT q3 q1 q2⟩⟩
theorem ints1 {ω : Om} {H : Hp} {j : Int} {vs : List V} (h : Reps F ω H [.int j] vs) : vs = [.int j] := by
  obtain ⟨v, r, rfl, h1, h2⟩ := h
  have h1 : v = .int j := h1
  have h2 : r = [] := h2
  rw [h1, h2]
theorem ints2 {ω : Om} {H : Hp} {i j : Int} {vs : List V} (h : Reps F ω H [.int i, .int j] vs) : vs = [.int i, .int j] := by
  obtain ⟨v, r, rfl, h1, h2⟩ := h
  have h1 : v = .int i := h1
  rw [h1, ints1 h2]
theorem rng_core {es : List Ex} {σ : L2.St} {H : Hp} {Rr : It → Hp → Prop} (h : LI F Wx W (.rng es) σ H Rr) : LA F Wx (evLs W es) σ H fun vs H1 =>
    (∃ j : Int, vs = [.int j] ∧ -(2 ^ 62) ≤ j ∧ j < 2 ^ 62 ∧ Rr (Itr 0 j.toNat) H1) ∨ ∃ i j : Int, vs = [.int i, .int j] ∧ (-(2 ^ 62) ≤ i ∧ i < 2 ^ 62 ∧ -(2 ^ 62) ≤ j ∧ j < 2 ^ 62) ∧ Rr (Itr i (j - i).toNat) H1 := by
  have h := LG.congr (f' := fun wr g m => (evLs W es wr g m).bind fun xs m1 => R.of ((rngOf xs).map fun ys => (ys, none, g, m1)) m1) (fun wr g m => by
    simp only [evSx, evLs, evS]
    cases evL W es wr g m with
    | stuck => rfl
    | exc c m => rfl
    | ok r m1 =>
      simp only [R.bind_ok]
      cases rngOf r <;> rfl) h
  obtain ⟨ω, g, m, wr, S, h⟩ := h
  refine LG.of S (Fin.mono (fun vs H1 hx => ?_) (Fin.bind (rel := Reps F) S.ce h))
  obtain ⟨ω1, r, m1, e1, p1, r1, h1⟩ := hx
  have fin : ∀ {lo : Int} {n : Nat}, rngOf r = some ((List.range n).map fun (k : Nat) => .int (lo + (k : Int))) → Rr (Itr lo n) H1 := fun e => by
    simp only [e] at h1
    exact h1.ok p1.cells p1.tabs ⟨fun _ => False, fun b hb => hb.elim, walk_rng⟩
  unfold rngOf at h1 fin
  split at h1
  · rename_i j
    split at h1
    · rename_i hj
      exact .inl ⟨j, ints1 r1, hj.1, hj.2, fin (if_pos hj)⟩
    · exact h1.elim
  · rename_i i j
    split at h1
    · rename_i hj
      exact .inr ⟨i, j, ints2 r1, hj, fin (if_pos hj)⟩
    · exact h1.elim
  · exact h1.elim
theorem pi_rng1S {tg p : Expr} {e : Ex} {np pos : Pos} (hg : Gl X "range") (hm : X.mg "range" = none) (pp : plainE p = true) (ha : PA X [p] (LA F Wx (evLs W [e]))) : PI X tg (.Call (.Name "range" np) [p] [] pos) (LI F Wx W (.rng [e])) := by
  refine PI_imp (pi_range1 hg hm ha (plain_star pp _ _)) fun σ H Rr h => ?_
  obtain ⟨ω, g, m, wr, S, h2⟩ := rng_core h
  refine LG.of (wr := wr) S ?_
  show Fin F Wx wr σ (Reps F) _ ω m H (evLs W [e] wr g m)
  cases hx : evLs W [e] wr g m with
  | stuck => rw [hx] at h2; exact h2
  | exc c m' => rw [hx] at h2; exact h2
  | ok xs m' =>
    rw [hx] at h2
    intro ω' vs H' p r
    rcases h2 ω' vs H' p r with z | ⟨i, j, rfl, z⟩
    · exact z
    · exfalso
      have a := r.length
      rw [evL_len _ _ _ _ _ hx] at a
      simp at a
theorem pi_rng2S {tg p q : Expr} {e e2 : Ex} {np pos : Pos} (hg : Gl X "range") (hm : X.mg "range" = none) (pp : plainE p = true) (pq : plainE q = true) (ha : PA X [p, q] (LA F Wx (evLs W [e, e2]))) : PI X tg (.Call (.Name "range" np) [p, q] [] pos) (LI F Wx W (.rng [e, e2])) := by
  refine PI_imp (pi_range2 hg hm ha ((plain_star pp _ _).trans (by rw [plain_star pq]; rfl)) (plain_star pq _ _)) fun σ H Rr h => ?_
  obtain ⟨ω, g, m, wr, S, h2⟩ := rng_core h
  refine LG.of (wr := wr) S ?_
  show Fin F Wx wr σ (Reps F) _ ω m H (evLs W [e, e2] wr g m)
  cases hx : evLs W [e, e2] wr g m with
  | stuck => rw [hx] at h2; exact h2
  | exc c m' => rw [hx] at h2; exact h2
  | ok xs m' =>
    rw [hx] at h2
    intro ω' vs H' p r
    rcases h2 ω' vs H' p r with ⟨j, rfl, z⟩ | z
    · exfalso
      have a := r.length
      rw [evL_len _ _ _ _ _ hx] at a
      simp at a
    · exact z
theorem pi_zipS {p q : Expr} {a b : Ex} {np pos tpos : Pos} {elts : List Expr} {kk : Nat} (hK : X.K = F.K) (hg : Gl X "zip") (hm : X.mg "zip" = none) (na : isB a = false) (nb : isB b = false) (pp : plainE p = true) (pq : plainE q = true)
    (ha : PE X p (LE F Wx false (evE W a))) (hb : PE X q (LE F Wx false (evE W b))) : PI X (.Tuple elts kk tpos) (.Call (.Name "zip" np) [p, q] [] pos) (LI F Wx W (.zip a b)) := by
  refine PI_imp (RZ.pi_zipA hg hm (pa_cons ha (pa_cons hb pa_nil (plain_star pq _ _)) (plain_star pp _ _)) (plain_star pp _ _) (plain_any _ _ (by simp [pq]))) fun σ H Rr h => ?_
  have h := LG.congr (f' := fun wr g m => (evE W a wr g m).bind fun x m1 => (evE W b wr g m1).bind fun y m2 => R.of (match x, y with
      | .list xs, .list ys => some (xs.zipWith (fun a b => .tuple [a, b]) ys, none, g, m2)
      | .tuple xs, .tuple ys => some (xs.zipWith (fun a b => .tuple [a, b]) ys, none, g, m2)
      | _, _ => none) m2) (fun wr g m => by
    simp only [evSx, evS, evE, na, nb, Bool.or_self, Bool.false_eq_true, if_false]
    cases ev W a wr g m with
    | stuck => rfl
    | exc c m => rfl
    | ok x m1 =>
      simp only [R.bind_ok]
      cases ev W b wr g m1 with
      | stuck => rfl
      | exc c m => rfl
      | ok y m2 => cases x <;> cases y <;> rfl) h
  obtain ⟨ω, g, m, wr, S, h⟩ := h
  refine LG.of S (Fin.mono (fun x H1 hx => ?_) (Fin.bind (rel := VRel F false) S.ce h))
  obtain ⟨ω1, dx, m1, e1, p1, r1, h1⟩ := hx
  have S1 := S.po p1
  refine LG.of S1 (Fin.mono (fun y H2 hy => ?_) (Fin.bind (rel := VRel F false) S1.ce h1))
  obtain ⟨ω2, dy, m2, e2, p2, r2, h2⟩ := hy
  have rx := Rep.stays (p2.stays S1.ce) _ _ r1.pure
  have ry := r2.pure
  show ∃ a b xs ys, [x, y] = [.ref a, .ref b] ∧ _
  rw [hK]
  cases dx with
  | list ds =>
    cases dy with
    | list es =>
      obtain ⟨a, vs, rfl, h3, h4, h5⟩ := rx
      obtain ⟨b, us, rfl, h6, h7, h8⟩ := ry
      refine ⟨a, b, vs, us, rfl, .inl ⟨SqL.of h3, SqL.of h6, h2.ok p2.cells p2.tabs ⟨fun c => c = a ∨ c = b, fun c hc => ?_, walk_zip (.inl rfl) (.inr rfl) (SqL.of h3) (SqL.of h6) h5 h8⟩⟩⟩
      rcases hc with rfl | rfl
      · exact ⟨.inl h4, _, h3, fun ps z => by cases z⟩
      · exact ⟨.inl h7, _, h6, fun ps z => by cases z⟩
    | _ => exact h2.elim
  | tuple ds =>
    cases dy with
    | tuple es =>
      obtain ⟨a, vs, rfl, h3, h5⟩ := rx
      obtain ⟨b, us, rfl, h6, h8⟩ := ry
      refine ⟨a, b, vs, us, rfl, .inr ⟨h3.sq, h6.sq, h2.ok p2.cells p2.tabs ⟨fun c => (c = a ∧ H2 a = some (.tup vs) ∧ ¬ ω2.B a) ∨ (c = b ∧ H2 b = some (.tup us) ∧ ¬ ω2.B b), fun c hc => ?_, walk_zipT ?_ ?_ h3.sq h6.sq h5 h8⟩⟩⟩
      · rcases hc with ⟨rfl, q1, q2⟩ | ⟨rfl, q1, q2⟩
        · exact ⟨.inl q2, _, q1, fun ps z => by cases z⟩
        · exact ⟨.inl q2, _, q1, fun ps z => by cases z⟩
      · rcases h3 with ⟨q1, q2⟩ | q
        · exact .inl (.inl ⟨rfl, q1, q2⟩)
        · exact .inr q
      · rcases h6 with ⟨q1, q2⟩ | q
        · exact .inl (.inr ⟨rfl, q1, q2⟩)
        · exact .inr q
    | _ => exact h2.elim
  | _ => exact h2.elim
end
end Ev
end
section
set_option linter.all false
set_option autoImplicit false
set_option maxRecDepth 100000
/-! Ev, part M: targets, list comprehensions. -/
namespace Ev
open PySem PySem.Spec PyProof.Rows L2

section
variable {X : Cx} {F : Fx} {W : Wd} {Wx : WX} {pos : Pos} {wr : Wr} {ω ω' ω₁ ω₂ : Om} {m m' m₁ m₂ : M} {H H' H₁ H₂ : Hp} {σ : L2.St} {g : Ga}
theorem SlRel.set {i : Nat} {d : D} {v : V} (S : SlRel F ω g m σ H) (r : Rep F ω H d v) : SlRel F ω (g.set i (some (false, d))) m (σ.set i (some v)) H := by
  refine ⟨by rw [List.length_set, List.length_set, S.len], fun j e h => ?_, fun j e h => ?_, fun j e k f h1 h2 h3 => ?_⟩
  · by_cases hj : i = j
    · subst hj
      have hl : i < g.length := by
        have := (List.getElem?_eq_some_iff.mp h).1
        simpa using this
      rw [List.getElem?_set_self hl] at h
      cases h
      exact ⟨v, List.getElem?_set_self (by rw [← S.len]; exact hl), r⟩
    · rw [List.getElem?_set_ne hj] at h ⊢
      exact S.val j e h
  · by_cases hj : i = j
    · subst hj
      have hl : i < g.length := by
        have := (List.getElem?_eq_some_iff.mp h).1
        simpa using this
      rw [List.getElem?_set_self hl] at h
      cases h
    · rw [List.getElem?_set_ne hj] at h ⊢
      exact S.own j e h
  · have un : ∀ {j : Nat} {e : D}, (g.set i (some (false, d)))[j]? = some (some (true, e)) → g[j]? = some (some (true, e)) := fun {j e} h => by
      by_cases hj : i = j
      · subst hj
        have hl : i < g.length := by
          have := (List.getElem?_eq_some_iff.mp h).1
          simpa using this
        rw [List.getElem?_set_self hl] at h
        cases h
      · rw [List.getElem?_set_ne hj] at h
        exact h
    exact S.inj j e k f (un h1) (un h2) h3
theorem SlRel.clr {i : Nat} (S : SlRel F ω g m σ H) : SlRel F ω (g.set i none) m (σ.set i none) H := by
  have un : ∀ {j : Nat} {b : Bool} {e : D}, (g.set i none)[j]? = some (some (b, e)) → g[j]? = some (some (b, e)) ∧ i ≠ j := fun {j b e} h => by
    by_cases hj : i = j
    · subst hj
      have hl : i < g.length := by
        have := (List.getElem?_eq_some_iff.mp h).1
        simpa using this
      rw [List.getElem?_set_self hl] at h
      cases h
    · rw [List.getElem?_set_ne hj] at h
      exact ⟨h, hj⟩
  refine ⟨by rw [List.length_set, List.length_set, S.len], fun j e h => ?_, fun j e h => ?_, fun j e k f h1 h2 h3 => S.inj j e k f (un h1).1 (un h2).1 h3⟩
  · obtain ⟨h, hj⟩ := un h
    rw [List.getElem?_set_ne hj]
    exact S.val j e h
  · obtain ⟨h, hj⟩ := un h
    rw [List.getElem?_set_ne hj]
    exact S.own j e h
theorem SlRel.wipe (S : SlRel F ω g m σ H) : ∀ vs : List Nat, SlRel F ω (wipeG g vs) m (L2.wipe σ vs) H
  | [] => S
  | v :: vs => (SlRel.wipe S vs).clr
theorem wipe_in {σ : L2.St} {i : Nat} (hl : i < σ.length) : ∀ {vs : List Nat}, i ∈ vs → (L2.wipe σ vs)[i]? = some none
  | [], h => by cases h
  | v :: vs, h => by
    unfold L2.wipe
    by_cases hv : v = i
    · subst hv
      rw [List.getElem?_set_self (by rw [wipe_length]; exact hl)]
    · rw [List.getElem?_set_ne hv]
      rcases List.mem_cons.mp h with z | z
      · exact absurd z.symm hv
      · exact wipe_in hl z
theorem wipe_eq {σ σ' : L2.St} {vs : List Nat} (hl : σ'.length = σ.length) (h : ∀ i, i ∉ vs → σ'[i]? = σ[i]?) : L2.wipe σ' vs = L2.wipe σ vs := by
  apply List.ext_getElem?
  intro i
  by_cases hi : i ∈ vs
  · by_cases hil : i < σ.length
    · rw [wipe_in hil hi, wipe_in (by rw [hl]; exact hil) hi]
    · rw [List.getElem?_eq_none (by rw [wipe_length]; omega), List.getElem?_eq_none (by rw [wipe_length]; omega)]
  · rw [wipe_out hi, wipe_out hi]
    exact h i hi
theorem wipe_wipe {σ : L2.St} {vs : List Nat} : L2.wipe (L2.wipe σ vs) vs = L2.wipe σ vs := wipe_eq (wipe_length _ _) fun i hi => wipe_out hi

/-! targets -/
/-- a target's reading -/
def GOk (F : Fx) (t : TG) (tg : Tg) : Prop := ∀ (ω : Om) (H : Hp) (g : Ga) (m : M) (σ : L2.St) (d : D) (v : V) (g' : Ga) (Q : L2.St → Hp → Prop), SlRel F ω g m σ H → Rep F ω H d v → bindT tg d g = some g' →
  (∀ σ', SlRel F ω g' m σ' H → σ'.length = σ.length → (∀ i, i ∉ tvars tg → σ'[i]? = σ[i]?) → Q σ' H) → t v σ H Q
def GsOk (F : Fx) (t : TGs) (tgs : List Tg) : Prop := ∀ (ω : Om) (H : Hp) (g : Ga) (m : M) (σ : L2.St) (ds : List D) (vs : List V) (g' : Ga) (Q : L2.St → Hp → Prop), SlRel F ω g m σ H → Reps F ω H ds vs → bindT.bindTs tgs ds g = some g' →
  (∀ σ', SlRel F ω g' m σ' H → σ'.length = σ.length → (∀ i, i ∉ tvars.tvarsL tgs → σ'[i]? = σ[i]?) → Q σ' H) → t vs σ H Q
theorem gok_nm {i : Nat} : GOk F (gName i) (.nm i) := by
  intro ω H g m σ d v g' Q S r e k
  simp only [bindT] at e
  split at e
  · cases e
    refine k _ (S.set r) (List.length_set ..) fun j hj => ?_
    rw [List.getElem?_set_ne]
    intro z
    exact hj (by simp [tvars, z])
  · cases e
theorem gsok_nil : GsOk F gNil [] := by
  intro ω H g m σ ds vs g' Q S r e k
  cases ds with
  | nil =>
    cases e
    have r : vs = [] := r
    exact ⟨r, k σ S rfl fun _ _ => rfl⟩
  | cons d ds => cases e
theorem gsok_cons {t : TG} {u : TGs} {tg : Tg} {tgs : List Tg} (h1 : GOk F t tg) (h2 : GsOk F u tgs) : GsOk F (gCons t u) (tg :: tgs) := by
  intro ω H g m σ ds vs g' Q S r e k
  cases ds with
  | nil => cases e
  | cons d ds =>
    obtain ⟨v, us, rfl, r1, r2⟩ := r
    simp only [bindT.bindTs] at e
    cases e1 : bindT tg d g with
    | none => rw [e1] at e; cases e
    | some g1 =>
      rw [e1] at e
      refine ⟨v, us, rfl, h1 ω H g m σ d v g1 _ S r1 e1 fun σ1 S1 l1 k1 => h2 ω H g1 m σ1 ds us g' Q S1 r2 e fun σ2 S2 l2 k2 => k σ2 S2 (l2.trans l1) fun i hi => ?_⟩
      simp only [tvars.tvarsL, List.mem_append, not_or] at hi
      rw [k2 i hi.2, k1 i hi.1]
theorem gok_tup {u : TGs} {tgs : List Tg} {n : Nat} (hn : tgs.length = n) (h : GsOk F u tgs) : GOk F (gTup F.K n u) (.tup tgs) := by
  intro ω H g m σ d v g' Q S r e k
  cases d with
  | tuple ds =>
    obtain ⟨a, vs, rfl, h1, h3⟩ := r
    simp only [bindT] at e
    have hl : ∀ (ts : List Tg) (xs : List D) (g g' : Ga), bindT.bindTs ts xs g = some g' → ts.length = xs.length := by
      intro ts
      induction ts with
      | nil => intro xs g g' e; cases xs with
        | nil => rfl
        | cons x xs => cases e
      | cons t ts ih => intro xs g g' e; cases xs with
        | nil => cases e
        | cons x xs =>
          simp only [bindT.bindTs] at e
          cases e1 : bindT t x g with
          | none => rw [e1] at e; cases e
          | some g1 =>
            rw [e1] at e
            rw [List.length_cons, List.length_cons, ih xs g1 g' e]
    exact ⟨a, vs, rfl, h1.sq, by rw [h3.length, ← hl _ _ _ _ e, hn], h ω H g m σ ds vs g' Q S h3 e fun σ' S' l k' => k σ' S' l fun i hi => k' i (by simpa only [tvars] using hi)⟩
  | _ => simp [bindT] at e

/-! lists on the way -/
structure OwnD (F : Fx) (ω : Om) (m : M) (H : Hp) (a : Addr) (acc : List D) : Prop where
  inB : ω.B a
  ne : ∀ r f, LvC m r f → ω.ad r f ≠ a
  at_ : ∃ vs, H a = some (.lst vs) ∧ Reps F ω H acc vs
theorem OwnD.po {a : Addr} {acc : List D} (O : OwnD F ω m H a acc) (C : Cells F ω m H) (p : Po F wr ω m H ω' m' H') : OwnD F ω' m' H' a acc := by
  obtain ⟨vs, h1, h2⟩ := O.at_
  refine ⟨p.fr.pb _ _ h1 O.inB, fun r f h e => ?_, vs, p.fr.keep _ _ h1 (fun ⟨r, f, z1, _, z2⟩ => O.ne r f z1 z2) (fun ps z => by cases z), Reps.stays (p.stays C) _ _ h2⟩
  rcases p.aq r f h with ⟨z1, z2⟩ | z
  · exact O.ne r f z1 (z2.symm.trans e)
  · rw [e, h1] at z
    cases z
theorem Ub.mono {wr wr' : Wr} (h : ∀ q, wr' q = true → wr q = true) {b : Addr} : Ub ω m wr' b → Ub ω m wr b := fun ⟨r, f, a, b, c⟩ => ⟨r, f, a, h _ b, c⟩
theorem Po.mono {wr wr' : Wr} (h : ∀ q, wr' q = true → wr q = true) (p : Po F wr' ω m H ω' m' H') : Po F wr ω m H ω' m' H' :=
  ⟨p.le, p.ad, p.sl, ⟨fun b o e hu nt => p.fr.keep b o e (fun z => hu (z.mono h)) nt, p.fr.tab, p.fr.nb, p.fr.pb, p.fr.st⟩, p.aq, p.cells, p.tabs⟩
theorem lockW_le (wr : Wr) (p : Option Pl) : ∀ q, lockW wr p q = true → wr q = true := by
  intro q h
  cases p with
  | none => exact h
  | some p =>
    simp only [lockW, Bool.and_eq_true] at h
    exact h.1
theorem upd_stays {a : Addr} {o : HO} (hB : ω.B a) : Stays F ω ω H (upd H a o) :=
  ⟨Nat.le_refl _, fun _ _ => rfl, fun b u h hb _ => .inl (by rw [upd_ne (fun z => hb (by rw [z]; exact hB))]; exact h), fun _ _ _ h => h⟩
theorem Cells.upd {a : Addr} {o : HO} (C : Cells F ω m H) (hB : ω.B a) (ne : ∀ r f, LvC m r f → ω.ad r f ≠ a) : Cells F ω m (L2.upd H a o) := by
  refine ⟨C.len, fun r c e => CellAt.stays (upd_stays hB) rfl (fun f hf o h _ => ?_) (C.at_ r c e), C.inj, C.inB, C.nd⟩
  have lv : LvC m r f := by
    rcases hf with rfl | ⟨c', fs, d, rfl, hm⟩
    · exact ⟨(List.getElem?_eq_some_iff.mp e).1, .inl rfl⟩
    · have a := C.at_ r _ e
      obtain ⟨dx, vs, _, h2⟩ := a
      exact lvC_own (C.nd r c' fs e) e hm (own_ne (c := 0) h2 hm)
  rw [upd_ne (ne r f lv)]
  exact h
theorem TabInv.upd {a : Addr} {vs : List V} {o : HO} (T : TabInv F H) (h : H a = some (.lst vs)) : TabInv F (L2.upd H a o) := by
  have nt : ∀ b u, H b = some u → u ≠ .lst vs → L2.upd H a o b = some u := fun b u e hu => by
    rw [upd_ne fun z => hu ?_]
    · exact e
    · rw [z, h] at e
      exact (Option.some.inj e).symm
  refine ⟨fun P hP => ?_, fun p hp => ?_⟩
  · obtain ⟨ps, h1, h2⟩ := T.1 P hP
    exact ⟨ps, nt _ _ h1 (fun z => by cases z), h2⟩
  · obtain ⟨ps, h1, h2, h3⟩ := T.2 p hp
    refine ⟨ps, nt _ _ h1 (fun z => by cases z), h2, fun pos cv hc => ?_⟩
    obtain ⟨c, e1, e2⟩ := h3 pos cv hc
    exact ⟨c, e1, nt _ _ e2 (fun z => by unfold LamX.CodeO at z; cases z)⟩
/-- an item is added to a list that is younger than the start -/
theorem Po.app {a : Addr} {acc : List D} {vs : List V} {d : D} {y : V} (p : Po F wr ω m H ω' m' H') (h0 : H a = none) (O : OwnD F ω' m' H' a acc) (hv : H' a = some (.lst vs)) (hr : Reps F ω' H' acc vs) (r : Rep F ω' H' d y) :
    Po F wr ω m H ω' m' (upd H' a (.lst (vs ++ [y]))) ∧ OwnD F ω' m' (upd H' a (.lst (vs ++ [y]))) a (acc ++ [d]) := by
  have st : Stays F ω' ω' H' (upd H' a (.lst (vs ++ [y]))) := upd_stays O.inB
  have k : ∀ b o, H b = some o → upd H' a (.lst (vs ++ [y])) b = H' b := fun b o h => by rw [upd_ne (ne_of_none h h0)]
  refine ⟨⟨p.le, p.ad, p.sl, ⟨fun b o h hu nt => by rw [k b o h]; exact p.fr.keep b o h hu nt, fun b ps h => by rw [k b _ h]; exact p.fr.tab b ps h, p.fr.nb, p.fr.pb, fun b o h => by rw [k b o h]; exact p.fr.st b o h⟩, p.aq, p.cells.upd O.inB O.ne, p.tabs.upd hv⟩, O.inB, O.ne, vs ++ [y], upd_same, ?_⟩
  exact Reps.stays st _ _ (Reps.app hr ⟨y, [], rfl, r, rfl⟩)
theorem po_hold {A : Addr → Prop} (C : Cells F ω m H) (p : Po F wr ω m H ω' m' H') (hA : ∀ b, A b → ¬ Ub ω m wr b) : Hold F A ω H ω' H' := ⟨p.stays C, fun b hb o h nt => p.fr.keep b o h (hA b hb) nt⟩
theorem aok_ub {p : Option Pl} {b : Addr} (S : Stt F ω g m σ H) (h : AOk ω m g p b) : ¬ Ub ω m (lockW wr p) b := by
  rintro ⟨r, f, h1, h2, rfl⟩
  rcases h with h | ⟨q, d, rfl, h3, h4⟩
  · exact h (S.ce.inB r f h1)
  · cases q with
    | sl i => exact (S.sl.own i d h3).2.2.2 r f h1 h4
    | ce r' f' =>
      obtain ⟨e1, e2⟩ := S.ce.inj r f r' f' h1 h3 h4
      subst e1 e2
      simp [lockW] at h2
/-- what no exception leaves -/
abbrev Wx0 : WX := fun _ _ _ _ => False
abbrev evIs (W : Wd) (es : List Ex) : Wr → Ga → M → R Bool := fun wr g m => evI W es wr g m
abbrev LTs (F : Fx) (W : Wd) (es : List Ex) : TT := LG F Wx0 (fun _ _ (d : Bool) (b : Bool) => d = b) (evIs W es)
theorem pts_nil' : PTs X [] (LTs F W []) := by
  refine ⟨fun pins s σ H Q I h => pts_nil.run pins s σ H Q I ?_⟩
  obtain ⟨ω, g, m, wr, S, h⟩ := h
  simp only [evIs, evI] at h
  exact h.ok S.ce S.tb rfl
theorem pts_one' {e : Ex} {p : Expr} (he : PT X p (LT F Wx0 (evE W e))) : PTs X [p] (LTs F W [e]) := by
  refine ⟨fun pins s σ H Q I h => (pts_one he).run pins s σ H Q I ?_⟩
  obtain ⟨ω, g, m, wr, S, h⟩ := h
  refine LG.of (wr := wr) S ?_
  simp only [evIs, evI] at h
  show Fin F Wx0 wr σ RelB Q ω m H (asB (ev W e wr g m))
  cases hx : ev W e wr g m with
  | stuck => rw [hx] at h; exact h
  | exc c m' => rw [hx] at h; exact h
  | ok d m' =>
    rw [hx] at h
    cases d with
    | bool b =>
      intro ω' v H' p r
      rw [show v = b by cases r; rfl]
      cases b <;> exact h ω' _ H' p rfl
    | _ => exact h
/-- a turn's body -/
def coBody (W : Wd) (elt : Ex) (tg : Tg) (ifs : List Ex) (wr : Wr) (g : Ga) : D → M → R (Option D) := fun x m => R.nox (match bindT tg x (wipeG g (tvars tg)) with
  | none => .stuck
  | some g' => (evI W ifs wr g' m).bind fun b m' => if b then (ev W elt wr g' m').bind fun y m'' => .ok (some y) m'' else .ok none m')
end
end Ev
end
section
set_option linter.all false
set_option autoImplicit false
set_option maxRecDepth 100000
/-! Ev, part N: list comprehensions. -/
namespace Ev
open PySem PySem.Spec PyProof.Rows L2

section
variable {X : Cx} {F : Fx} {W : Wd} {Wx : WX} {pos : Pos}
theorem turns_cons (body : D → M → R (Option D)) (x : D) (xs acc : List D) (m : M) : turns body (x :: xs) acc m = (body x m).bind fun o m' => match o with
    | some y => if acc.length < sizeLine then turns body xs (acc ++ [y]) m' else .stuck
    | none => turns body xs acc m' := rfl
theorem drop_cons {α : Type} {xs : List α} {i : Nat} {x : α} (e : xs[i]? = some x) : xs.drop i = x :: xs.drop (i + 1) := by
  have hl := (List.getElem?_eq_some_iff.mp e).1
  have h2 := (List.getElem?_eq_some_iff.mp e).2
  rw [List.drop_eq_getElem_cons hl, h2]
/-- the reading of a list comprehension -/
theorem lc_read {elt : Ex} {tg : Tg} {src : Src} {ifs : List Ex} {t : TG} {vs : List Nat} {σ : L2.St} {H : Hp} {Q : VK} (ne : isB elt = false) (ht : GOk F t tg) (hvs : vs = tvars tg)
    (h : LF F Wx (evE W (.co .lc elt tg src ifs)) σ H Q) : tLc (LI F Wx W src) t (LTs F W ifs) (LE F Wx0 false (evE W elt)) vs σ H Q := by
  subst hvs
  obtain ⟨ω, g, m, wr, S, h⟩ := h
  refine LG.of (wr := wr) S ?_
  show Fin F Wx wr σ (RelI F) _ ω m H (evSx W src wr g m)
  have e0 : evE W (.co .lc elt tg src ifs) wr g m = (evS W src wr g m).bind fun r m1 => (turns (coBody W elt tg ifs (lockW wr r.2) g) r.1 [] m1).bind fun ys m' => .ok (.list ys) m' := by
    simp only [evE]
    rw [ev]
    exact if_neg (by rw [ne]; exact Bool.false_ne_true)
  rw [e0] at h
  simp only [evSx]
  cases hs : evS W src wr g m with
  | stuck => rw [hs] at h; exact h
  | exc c m' => rw [hs] at h; exact h
  | ok r m1 =>
    obtain ⟨xs, p⟩ := r
    rw [hs] at h
    simp only [R.bind_ok] at h ⊢
    intro ω1 J H1 p1 hr
    obtain ⟨A, hA, wk⟩ := hr
    have hA : ∀ b, A b → AOk ω1 m1 g p b ∧ ∃ o, H1 b = some o ∧ ∀ ps, o ≠ .tbl ps := hA
    have wk : Walk F A ω1 H1 J xs := wk
    intro L hL
    have S1 := S.po p1
    let wr' := lockW wr p
    let body := coBody W elt tg ifs wr' g
    have hU : ∀ b, A b → ¬ Ub ω1 m1 wr' b := fun b hb => aok_ub S1 (hA b hb).1
    refine ⟨fun i k H2 => k = xs.length - i ∧ i ≤ xs.length ∧ ∃ ω2 m2 acc, Po F wr' ω1 m1 H1 ω2 m2 H2 ∧ OwnD F ω2 m2 H2 L acc ∧ FinF F Wx wr σ Q ω m H ((turns body (xs.drop i) acc m2).bind fun ys m' => .ok (.list ys) m'), ?_, ?_⟩
    · refine ⟨xs.length, rfl, Nat.zero_le _, ω1.inn L, m1, [], Po.newO p1.cells p1.tabs hL, ⟨.inr rfl, fun r f hl e => lv_new p1 hL r f hl e, [], upd_same, rfl⟩, h⟩
    · rintro i k H2 ⟨rfl, hi, ω2, m2, acc, p2, O, hf⟩
      have hold : Hold F A ω1 H1 ω2 H2 := po_hold p1.cells p2 hU
      by_cases hlt : i < xs.length
      · refine .inr ⟨wk.go ω2 H2 i hold hlt, fun H' => (i + 1) ≤ xs.length ∧ ∃ ω2 m2 acc, Po F wr' ω1 m1 H1 ω2 m2 H' ∧ OwnD F ω2 m2 H' L acc ∧ FinF F Wx wr σ Q ω m H ((turns body (xs.drop (i + 1)) acc m2).bind fun ys m' => .ok (.list ys) m'), ?_, ?_⟩
        · rintro H' ⟨h1, h2⟩
          exact ⟨xs.length - (i + 1), by omega, rfl, h1, h2⟩
        · intro x H3 hy
          obtain ⟨d, ω3, e1, p3, r3⟩ := wk.yld wr' ω2 m2 H2 i x H3 hold p2.cells p2.tabs hlt hy
          have O3 := O.po p2.cells p3
          have p23 := p2.trans p1.cells p3
          rw [drop_cons e1, turns_cons] at hf
          have S3 : SlRel F ω3 (wipeG g (tvars tg)) m2 (L2.wipe σ (tvars tg)) H3 := (S1.sl.po p1.cells p23).wipe _
          cases hb : bindT tg d (wipeG g (tvars tg)) with
          | none =>
            simp only [body, coBody, hb] at hf
            exact hf.elim
          | some g' =>
            have hbody : body d m2 = R.nox ((evI W ifs wr' g' m2).bind fun b m' => if b then (ev W elt wr' g' m').bind fun y m'' => .ok (some y) m'' else .ok none m') := by
              simp only [body, coBody, hb]
            rw [hbody] at hf
            refine ht ω3 H3 _ m2 _ d x g' _ S3 r3 hb fun σ' S' hl' hk' => ⟨?_, ?_⟩
            · exact (wipe_eq hl' hk').trans wipe_wipe
            · have St3 : Stt F ω3 g' m2 σ' H3 := ⟨S', p23.cells, p23.tabs⟩
              refine LG.of (wr := wr') St3 ?_
              show Fin F Wx0 wr' σ' _ _ ω3 m2 H3 (evI W ifs wr' g' m2)
              cases ht2 : evI W ifs wr' g' m2 with
              | stuck => rw [ht2] at hf; exact hf.elim
              | exc c m' => rw [ht2] at hf; exact hf.elim
              | ok b m4 =>
                rw [ht2] at hf
                intro ω4 b' H4 p4 hb'
                subst hb'
                have O4 := O3.po p23.cells p4
                have p24 := p23.trans p1.cells p4
                simp only [R.bind_ok] at hf
                cases b with
                | false =>
                  simp only [Bool.false_eq_true, if_false, R.nox, R.bind_ok] at hf ⊢
                  exact ⟨hlt, ω4, m4, acc, p24, O4, hf⟩
                | true =>
                  simp only [if_true] at hf ⊢
                  refine LG.of (wr := wr') (St3.po p4) ?_
                  show Fin F Wx0 wr' σ' (VRel F false) _ ω4 m4 H4 (ev W elt wr' g' m4)
                  cases hx : ev W elt wr' g' m4 with
                  | stuck => rw [hx] at hf; exact hf.elim
                  | exc c m' => rw [hx] at hf; exact hf.elim
                  | ok y m5 =>
                    rw [hx] at hf
                    intro ω5 v H5 p5 r5
                    have O5 := O4.po p24.cells p5
                    have p25 := p24.trans p1.cells p5
                    simp only [R.bind_ok, R.nox] at hf
                    split at hf
                    · rename_i hz
                      obtain ⟨vs, hv1, hv2⟩ := O5.at_
                      obtain ⟨q1, q2⟩ := p25.app hL O5 hv1 hv2 r5.pure
                      exact ⟨vs, hv1, by rw [hv2.length]; exact hz, hlt, ω5, m5, acc ++ [y], q1, q2, hf⟩
                    · exact hf.elim
      · have hi2 : i = xs.length := by omega
        subst hi2
        refine .inl ⟨wk.stop ω2 H2 hold, ?_⟩
        rw [List.drop_length] at hf
        have hf : FinF F Wx wr σ Q ω m H (.ok (.list acc) m2) := hf
        have p12 : Po F wr ω m H ω2 m2 H2 := p1.trans S.ce (p2.mono (lockW_le wr p))
        refine hf ω2 L H2 p12 ?_ O.at_ O.inB O.ne
        cases e : H L with
        | none => rfl
        | some o =>
          obtain ⟨o', e2⟩ := p1.fr.st L o e
          rw [hL] at e2
          cases e2
theorem f_lc {elt iter tgE : Expr} {e : Ex} {tg : Tg} {src : Src} {ifs : List Expr} {is : List Ex} {scope : Scope} {own : List (Str × Nat)} {t : TG} (hc : X.calm = true) (hN : X.N.Nodup) (ne : isB e = false) (pf : plainE iter = true) (ok : BlkOk X.N X.env.scope scope own) (hvs : own.map (·.2) = tvars tg) (hi : PI X tgE iter (LI F Wx W src)) (hG : GOk F t tg)
    (hg : ∀ (s : Shared) (H : Hp) (C : Addr) (cl : List (Str × Addr)) (fp : List Addr), PG (X.blk s H scope (compEnvC scope cl C X.env) fp) tgE t) (ht : ∀ (s : Shared) (H : Hp) (C : Addr) (cl : List (Str × Addr)) (fp : List Addr), PTs (X.blk s H scope (compEnvC scope cl C X.env) fp) ifs (LTs F W is))
    (he : ∀ (s : Shared) (H : Hp) (C : Addr) (cl : List (Str × Addr)) (fp : List Addr), PE (X.blk s H scope (compEnvC scope cl C X.env) fp) elt (LE F Wx0 false (evE W e))) :
    PE X (.ListComp elt [⟨tgE, iter, ifs, 0⟩] scope pos) (LF F Wx (evE W (.co .lc e tg src is))) :=
  PE_imp (pe_lc hc hN hi ok hg ht he (plain_fold pf _)) fun σ H Q h => lc_read ne hG hvs h
end
end Ev
end
section
set_option linter.all false
set_option autoImplicit false
set_option maxRecDepth 100000
/-! Ev, part O: statements, their meaning and their readings. -/
namespace Ev
open PySem PySem.Spec PyProof.Rows L2

/-- how a statement ends -/
inductive RS where
  | nx (g : Ga) (m : M)
  | rt (d : D) (m : M)
  | exc (c : Nat) (g : Ga) (m : M)
  | stuck
def RS.of {α : Type} (x : R α) (g : Ga) (k : α → M → RS) : RS := match x with
  | .ok a m => k a m
  | .exc c m => .exc c g m
  | .stuck => .stuck
@[simp] theorem RS.of_ok {α : Type} (a : α) (m : M) (g : Ga) (k : α → M → RS) : RS.of (.ok a m) g k = k a m := rfl
@[simp] theorem RS.of_exc {α : Type} (c : Nat) (m : M) (g : Ga) (k : α → M → RS) : RS.of (.exc c m : R α) g k = .exc c g m := rfl
@[simp] theorem RS.of_stuck {α : Type} (g : Ga) (k : α → M → RS) : RS.of (.stuck : R α) g k = .stuck := rfl
def RS.then (x : RS) (k : Ga → M → RS) : RS := match x with
  | .nx g m => k g m
  | .rt d m => .rt d m
  | .exc c g m => .exc c g m
  | .stuck => .stuck
def asgn (i : Nat) (own : Bool) (d : D) (g : Ga) (m : M) : RS := if i < g.length then .nx (g.set i (some (own, d))) m else .stuck
def asgL : List Nat → List D → Ga → M → RS
  | [], [], g, m => .nx g m
  | i :: is, d :: ds, g, m => if i < g.length then asgL is ds (g.set i (some (false, d))) m else .stuck
  | _, _, _, _ => .stuck
def setN (xs : List D) (k : D) (d : D) : Option (List D) := match k with
  | .int i => (ixN xs.length i).map fun j => xs.set j d
  | _ => none
def getN (xs : List D) (k : D) : Option D := match k with
  | .int i => atI xs i
  | _ => none
/-- op= on ints -/
def semAug : BOp → D → D → Option D
  | .add, .int i, .int j => some (.int (i + j))
  | .sub, .int i, .int j => some (.int (i - j))
  | _, _, _ => none
/-- the turns of a loop -/
def forL (tg : Tg) (body : Ga → M → RS) : List D → Ga → M → RS
  | [], g, m => .nx g m
  | x :: xs, g, m => match bindT tg x g with
    | none => .stuck
    | some g' => (body g' m).then (forL tg body xs)
def whlL (t : Ga → M → R D) (body : Ga → M → RS) : Nat → Ga → M → RS
  | 0, _, _ => .stuck
  | n + 1, g, m => RS.of (t g m) g fun d m1 => match d with
    | .bool true => (body g m1).then (whlL t body n)
    | .bool false => .nx g m1
    | _ => .stuck
/-- each raises what c catches: the memory behind them -/
def badsR (W : Wd) (c : Nat) : List Ex → Wr → Ga → M → Option M
  | [], _, _, m => some m
  | e :: es, wr, g, m => match ev W e wr g m with
    | .exc k m' => if W.sub k c = true then badsR W c es wr g m' else none
    | _ => none
mutual
def exec (W : Wd) : St → Wr → Ga → M → RS
  | .asg i e, wr, g, m => if isB e then .stuck else RS.of (ev W e wr g m) g fun d m1 => asgn i false d g m1
  | .asgO i e, wr, g, m => RS.of (ev W e wr g m) g fun d m1 => asgn i true d g m1
  | .unp t e, wr, g, m => if isB e then .stuck else RS.of (ev W e wr g m) g fun d m1 => match bindT t d g with
    | some g' => .nx g' m1
    | none => .stuck
  | .par is es, wr, g, m => RS.of (evL W es wr g m) g fun ds m1 => asgL is ds g m1
  | .seti (.sl i) k e, wr, g, m => if isB e || isB k then .stuck else match g[i]? with
    | some (some (true, .list xs)) => RS.of (ev W e wr g m) g fun d m1 => RS.of (ev W k wr g m1) g fun kd m2 => (match setN xs kd d with
      | some xs' => .nx (g.set i (some (true, .list xs'))) m2
      | none => .stuck)
    | _ => .stuck
  | .seti (.cl o) k e, wr, g, m => if isB e || isB o || isB k then .stuck else RS.of (ev W e wr g m) g fun d m1 => RS.of (ev W o wr g m1) g fun od m2 => RS.of (ev W k wr g m2) g fun kd m3 => match asCell od with
    | some r => (match m3[r]? with
      | some (.lst xs) => (match setN xs kd d with
        | some xs' => if wr (.ce r "") then .nx g (m3.set r (.lst xs')) else .stuck
        | none => .stuck)
      | _ => .stuck)
    | none => .stuck
  | .seti (.fd _ _) _ _, _, _, _ => .stuck
  | .setf _ _ _ _, _, _, _ => .stuck
  | .augn i o e, wr, g, m => if isB e then .stuck else match g[i]? with
    | some (some (false, x)) => RS.of (ev W e wr g m) g fun d m1 => (match semAug o x d with
      | some v => .nx (g.set i (some (false, v))) m1
      | none => .stuck)
    | _ => .stuck
  | .augf _ _ _ _, _, _, _ => .stuck
  | .augi (.sl i) k o e, wr, g, m => if isB e || isB k then .stuck else match g[i]? with
    | some (some (true, .list xs)) => RS.of (ev W k wr g m) g fun kd m1 => (match getN xs kd with
      | some x => RS.of (ev W e wr g m1) g fun d m2 => (match semAug o x d with
        | some v => (match setN xs kd v with
          | some xs' => .nx (g.set i (some (true, .list xs'))) m2
          | none => .stuck)
        | none => .stuck)
      | none => .stuck)
    | _ => .stuck
  | .augi _ _ _ _, _, _, _ => .stuck
  | .app (.sl i) e, wr, g, m => if isB e then .stuck else match g[i]? with
    | some (some (true, .list xs)) => RS.of (ev W e wr g m) g fun d m1 => if xs.length < sizeLine then .nx (g.set i (some (true, .list (xs ++ [d])))) m1 else .stuck
    | _ => .stuck
  | .app _ _, _, _, _ => .stuck
  | .exp e, wr, g, m => if isB e then .stuck else RS.of (ev W e wr g m) g fun _ m1 => .nx g m1
  | .ifs t a b, wr, g, m => RS.of (ev W t wr g m) g fun d m1 => match d with
    | .bool true => execL W a wr g m1
    | .bool false => execL W b wr g m1
    | _ => .stuck
  | .for tg src body, wr, g, m => RS.of (evS W src wr g m) g fun r m1 => match r.2 with
    | some (.sl _) => .stuck
    | p => forL tg (fun g m => execL W body (lockW wr p) g m) r.1 g m1
  | .whl t body, wr, g, m => whlL (fun g m => ev W t wr g m) (fun g m => execL W body wr g m) W.fuel g m
  | .ret e, wr, g, m => if isB e then .stuck else RS.of (ev W e wr g m) g fun d m1 => .rt d m1
  | .retn, _, _, m => .rt .none m
  | .rai c, _, g, m => .exc c g m
  | .pass, _, g, m => .nx g m
  | .bads i _ es c, wr, g, m => (match badsR W c es wr (g.set i none) m with
    | some m2 => .nx (g.set i none) m2
    | none => .stuck)
  | .frz i, _, g, m => match g[i]? with
    | some (some (true, d)) => .nx (g.set i (some (false, d))) m
    | some (some (false, _)) => .nx g m
    | _ => .stuck
def execL (W : Wd) : List St → Wr → Ga → M → RS
  | [], _, g, m => .nx g m
  | s :: r, wr, g, m => (exec W s wr g m).then fun g' m' => execL W r wr g' m'
end
/-- own slots' addresses -/
def Vg (ω : Om) (g : Ga) : Addr → Prop := fun b => ∃ i d, g[i]? = some (some (true, d)) ∧ ω.sl i = b
structure PoV (F : Fx) (wr : Wr) (V : Addr → Prop) (ω : Om) (m : M) (H : Hp) (ω' : Om) (m' : M) (H' : Hp) (V' : Addr → Prop) : Prop where
  le : ω.n ≤ ω'.n
  ad : ∀ r, r < ω.n → ω'.ad r "" = ω.ad r ""
  keep : ∀ b o, H b = some o → ¬ Ub ω m wr b → ¬ V b → (∀ ps, o ≠ .tbl ps) → H' b = some o
  tab : ∀ b ps, H b = some (.tbl ps) → ∃ more, H' b = some (.tbl (ps ++ more))
  nb : ∀ b o, H b = some o → ¬ ω.B b → ¬ ω'.B b
  pb : ∀ b o, H b = some o → ω.B b → ¬ V b → ω'.B b
  st : ∀ b o, H b = some o → ∃ o', H' b = some o'
  aq : ∀ r f, LvC m' r f → (LvC m r f ∧ ω'.ad r f = ω.ad r f) ∨ H (ω'.ad r f) = none
  vq : ∀ b, V' b → V b ∨ H b = none
  cells : Cells F ω' m' H'
  tabs : TabInv F H'
section
variable {F : Fx} {wr : Wr} {ω ω' ω₁ ω₂ : Om} {m m' m₁ m₂ : M} {H H' H₁ H₂ : Hp} {V V' V₁ V₂ : Addr → Prop}
theorem PoV.refl (C : Cells F ω m H) (T : TabInv F H) : PoV F wr V ω m H ω m H V :=
  ⟨Nat.le_refl _, fun _ _ => rfl, fun _ _ h _ _ _ => h, fun _ ps h => ⟨#[], by rw [h]; simp⟩, fun _ _ _ h => h, fun _ _ _ h _ => h, fun _ o h => ⟨o, h⟩, fun _ _ h => .inl ⟨h, rfl⟩, fun _ h => .inl h, C, T⟩
theorem PoV.of (p : Po F wr ω m H ω' m' H') (hV : ∀ b, V' b → V b) : PoV F wr V ω m H ω' m' H' V' :=
  ⟨p.le, p.ad, fun b o h hu _ nt => p.fr.keep b o h hu nt, p.fr.tab, p.fr.nb, fun b o h hb _ => p.fr.pb b o h hb, p.fr.st, p.aq, fun b h => .inl (hV b h), p.cells, p.tabs⟩
theorem PoV.trans (p : PoV F wr V ω m H ω₁ m₁ H₁ V₁) (q : PoV F wr V₁ ω₁ m₁ H₁ ω₂ m₂ H₂ V₂) : PoV F wr V ω m H ω₂ m₂ H₂ V₂ := by
  have nu : ∀ b o, H b = some o → ¬ Ub ω m wr b → ¬ Ub ω₁ m₁ wr b := fun b o h hu => by
    rintro ⟨r, f, h1, h2, rfl⟩
    rcases p.aq r f h1 with ⟨z1, z2⟩ | z
    · exact hu ⟨r, f, z1, h2, z2.symm⟩
    · rw [h] at z
      cases z
  have nv : ∀ b o, H b = some o → ¬ V b → ¬ V₁ b := fun b o h hv z => by
    rcases p.vq b z with z | z
    · exact hv z
    · rw [h] at z
      cases z
  refine ⟨Nat.le_trans p.le q.le, fun r h => (q.ad r (Nat.lt_of_lt_of_le h p.le)).trans (p.ad r h), fun b o h hu hv nt => q.keep b o (p.keep b o h hu hv nt) (nu b o h hu) (nv b o h hv) nt, fun b ps h => ?_, fun b o h hb => ?_, fun b o h hb hv => ?_, fun b o h => ?_, fun r f h => ?_, fun b h => ?_, q.cells, q.tabs⟩
  · obtain ⟨m1, e1⟩ := p.tab b ps h
    obtain ⟨m2, e2⟩ := q.tab b _ e1
    exact ⟨m1 ++ m2, by rw [e2, Array.append_assoc]⟩
  · obtain ⟨o1, e1⟩ := p.st b o h
    exact q.nb b o1 e1 (p.nb b o h hb)
  · obtain ⟨o1, e1⟩ := p.st b o h
    exact q.pb b o1 e1 (p.pb b o h hb hv) (nv b o h hv)
  · obtain ⟨o1, e1⟩ := p.st b o h
    exact q.st b o1 e1
  · rcases q.aq r f h with ⟨h1, e1⟩ | h1
    · rcases p.aq r f h1 with ⟨h2, e2⟩ | h2
      · exact .inl ⟨h2, e1.trans e2⟩
      · exact .inr (by rw [e1]; exact h2)
    · refine .inr ?_
      cases e : H (ω₂.ad r f) with
      | none => rfl
      | some o =>
        obtain ⟨o1, e1⟩ := p.st _ o e
        rw [h1] at e1
        cases e1
  · rcases q.vq b h with z | z
    · exact p.vq b z
    · refine .inr ?_
      cases e : H b with
      | none => rfl
      | some o =>
        obtain ⟨o1, e1⟩ := p.st _ o e
        rw [z] at e1
        cases e1
theorem PoV.stays (C : Cells F ω m H) (hV : ∀ b, V b → ω.B b) (p : PoV F wr V ω m H ω' m' H' V') : Stays F ω ω' H H' :=
  ⟨p.le, p.ad, fun b o h hb ht => .inl (p.keep b o h (fun z => hb (C.ub z)) (fun z => hb (hV b z)) ht), fun b o h hb => p.nb b o h hb⟩
theorem SlRel.vb {g : Ga} {σ : L2.St} (S : SlRel F ω g m σ H) : ∀ b, Vg ω g b → ω.B b := by
  rintro b ⟨i, d, e, rfl⟩
  exact (S.own i d e).2.2.1
/-- readings of statements -/
def FinS (F : Fx) (Wx : WX) (wr : Wr) (Dn : Ends) (V : Addr → Prop) (ω : Om) (m : M) (H : Hp) : RS → Prop
  | .stuck => False
  | .nx g' m' => ∀ ω' σ' H', PoV F wr V ω m H ω' m' H' (Vg ω' g') → Stt F ω' g' m' σ' H' → Dn.nx σ' H'
  | .rt d m' => ∀ ω' v H', PoV F wr V ω m H ω' m' H' (fun _ => False) → Rep F ω' H' d v → Dn.rt v H'
  | .exc c g' m' => ∀ ω' σ' H', PoV F wr V ω m H ω' m' H' (Vg ω' g') → Stt F ω' g' m' σ' H' → Wx (.ref (F.xa c)) none σ' H'
def LS (F : Fx) (Wx : WX) (f : Wr → Ga → M → RS) : TS := fun Dn σ H => ∃ ω g m wr, Stt F ω g m σ H ∧ FinS F Wx wr Dn (Vg ω g) ω m H (f wr g m)
variable {Wx : WX} {Dn : Ends} {g : Ga} {σ : L2.St}
theorem LS.of {f : Wr → Ga → M → RS} (S : Stt F ω g m σ H) (h : FinS F Wx wr Dn (Vg ω g) ω m H (f wr g m)) : LS F Wx f Dn σ H := ⟨ω, g, m, wr, S, h⟩
theorem FinS.shift (p : PoV F wr V ω m H ω₁ m₁ H₁ V₁) : ∀ {r : RS}, FinS F Wx wr Dn V ω m H r → FinS F Wx wr Dn V₁ ω₁ m₁ H₁ r
  | .stuck, h => h
  | .nx g' m', h => fun ω' σ' H' q S => h ω' σ' H' (p.trans q) S
  | .rt d m', h => fun ω' v H' q r => h ω' v H' (p.trans q) r
  | .exc c g' m', h => fun ω' σ' H' q S => h ω' σ' H' (p.trans q) S
theorem Vg.po (p : Po F wr ω m H ω' m' H') : Vg ω' g = Vg ω g := by
  funext b
  unfold Vg
  rw [p.sl]
theorem FinS.of_bind {α β : Type} {rel : Om → Hp → α → β → Prop} {x : R α} {k : α → M → RS} (S : Stt F ω g m σ H) (h : FinS F Wx wr Dn (Vg ω g) ω m H (RS.of x g k)) :
    Fin F Wx wr σ rel (fun v H1 => ∃ ω₁ d m₁, x = .ok d m₁ ∧ Po F wr ω m H ω₁ m₁ H1 ∧ rel ω₁ H1 d v ∧ Stt F ω₁ g m₁ σ H1 ∧ FinS F Wx wr Dn (Vg ω₁ g) ω₁ m₁ H1 (k d m₁)) ω m H x := by
  cases x with
  | stuck => exact h
  | exc c m' =>
    intro ω' H' p
    have h : FinS F Wx wr Dn (Vg ω g) ω m H (.exc c g m') := h
    exact h ω' σ H' (PoV.of p (fun b hb => by rw [Vg.po p] at hb; exact hb)) (S.po p)
  | ok d m' =>
    intro ω' v H' p r
    have e := Vg.po (g := g) p
    refine ⟨ω', d, m', rfl, p, r, S.po p, ?_⟩
    exact FinS.shift (PoV.of p (fun b hb => by rw [e] at hb; exact hb)) h
theorem FinS.nx {g' : Ga} {σ' : L2.St} (h : FinS F Wx wr Dn V ω m H (.nx g' m)) (S : Stt F ω g' m σ' H) (hv : ∀ b, Vg ω g' b → V b) : Dn.nx σ' H :=
  h ω σ' H (PoV.of (Po.refl S.ce S.tb) hv) S
theorem FinS.then {x : RS} {k : Ga → M → RS} (h : FinS F Wx wr Dn V ω m H (x.then k)) :
    FinS F Wx wr { Dn with nx := fun σ1 H1 => ∃ ω₁ g₁ m₁, x = .nx g₁ m₁ ∧ PoV F wr V ω m H ω₁ m₁ H1 (Vg ω₁ g₁) ∧ Stt F ω₁ g₁ m₁ σ1 H1 ∧ FinS F Wx wr Dn (Vg ω₁ g₁) ω₁ m₁ H1 (k g₁ m₁) } V ω m H x := by
  cases x with
  | stuck => exact h
  | exc c g' m' => exact h
  | rt d m' => exact h
  | nx g' m' => exact fun ω' σ' H' p S => ⟨ω', g', m', rfl, p, S, FinS.shift p h⟩
theorem LS.seq {W : Wd} {s : St} {r : List St} (h : LS F Wx (fun wr g m => execL W (s :: r) wr g m) Dn σ H) : LS F Wx (fun wr g m => exec W s wr g m) { Dn with nx := fun σ H => LS F Wx (fun wr g m => execL W r wr g m) Dn σ H } σ H := by
  obtain ⟨ω, g, m, wr, S, h⟩ := h
  simp only [execL] at h
  refine LS.of (wr := wr) S ?_
  have h := FinS.then h
  cases e : exec W s wr g m with
  | stuck => rw [e] at h; exact h
  | exc c g' m' => rw [e] at h; exact h
  | rt d m' => rw [e] at h; exact h
  | nx g' m' =>
    rw [e] at h
    intro ω' σ' H' p S'
    obtain ⟨ω₁, g₁, m₁, e1, p1, S1, h1⟩ := h ω' σ' H' p S'
    cases e1
    exact LS.of S1 h1
theorem LS.congr {f f' : Wr → Ga → M → RS} (e : ∀ wr g m, f wr g m = f' wr g m) (h : LS F Wx f Dn σ H) : LS F Wx f' Dn σ H := by
  obtain ⟨ω, g, m, wr, S, h⟩ := h
  rw [e] at h
  exact LS.of S h
end
abbrev exS (W : Wd) (s : St) : Wr → Ga → M → RS := fun wr g m => exec W s wr g m
abbrev exL (W : Wd) (s : List St) : Wr → Ga → M → RS := fun wr g m => execL W s wr g m
section
variable {X : Cx} {F : Fx} {W : Wd} {Wx : WX} {pos : Pos}
theorem ss_nil : PSs X [] (LS F Wx (exL W [])) := by
  refine PSs_imp pss_nil fun Dn σ H h => ?_
  obtain ⟨ω, g, m, wr, S, h⟩ := h
  simp only [execL] at h
  exact h.nx S fun b z => z
theorem ss_cons {p : Stmt} {ps : List Stmt} {s : St} {r : List St} (h1 : PS X p (LS F Wx (exS W s))) (h2 : PSs X ps (LS F Wx (exL W r))) : PSs X (p :: ps) (LS F Wx (exL W (s :: r))) :=
  PSs_imp (pss_cons h1 h2) fun Dn σ H h => LS.seq h
theorem ss_one {p : Stmt} {s : St} (h1 : PS X p (LS F Wx (exS W s))) : PSs X [p] (LS F Wx (exL W [s])) := by
  refine PSs_imp (pss_one h1) fun Dn σ H h => ?_
  refine LS.congr (fun wr g m => ?_) h
  simp only [execL, exS]
  cases exec W s wr g m <;> rfl
theorem s_pass : PS X (.Pass pos) (LS F Wx (exS W .pass)) := by
  refine PS_imp ps_pass fun Dn σ H h => ?_
  obtain ⟨ω, g, m, wr, S, h⟩ := h
  simp only [exec] at h
  exact h.nx S fun b z => z
theorem s_doc {x : Str} {j : Nat} {p q : Pos} : PS X (.Expr (.Constant (.str x) j p) q) (LS F Wx (exS W .pass)) := by
  refine PS_imp ps_doc fun Dn σ H h => ?_
  obtain ⟨ω, g, m, wr, S, h⟩ := h
  simp only [exec] at h
  exact h.nx S fun b z => z
theorem vg_set_f {ω : Om} {g : Ga} {i : Nat} {d : D} : ∀ b, Vg ω (g.set i (some (false, d))) b → Vg ω g b := by
  rintro b ⟨j, e, h, rfl⟩
  by_cases hj : i = j
  · subst hj
    have hl : i < g.length := by
      have := (List.getElem?_eq_some_iff.mp h).1
      simpa using this
    rw [List.getElem?_set_self hl] at h
    cases h
  · rw [List.getElem?_set_ne hj] at h
    exact ⟨j, e, h, rfl⟩
theorem Stt.set {ω : Om} {g : Ga} {m : M} {σ : L2.St} {H : Hp} {i : Nat} {d : D} {v : V} (S : Stt F ω g m σ H) (r : Rep F ω H d v) : Stt F ω (g.set i (some (false, d))) m (σ.set i (some v)) H := ⟨S.sl.set r, S.ce, S.tb⟩
def swapOk : Expr → Bool
  | .ListComp .. => false
  | .SetComp .. => false
  | .DictComp .. => false
  | _ => true
theorem swap_ok {e : Expr} (h : swapOk e = true) (t : Option Expr) (l : Nat) (env : Env) : swapsWith e t l env = pure false := by cases e <;> first | rfl | (simp [swapOk] at h)
theorem s_asg {i : Nat} {x : Str} {e : Ex} {p : Expr} {pos' : Pos} (hN : X.N.Nodup) (hi : X.N[i]? = some x) (hx : Loc X.env.scope x) (hf : X.fn x = true ∨ X.env.scope.names.lookup x = some .local) (hs : swapOk p = true) (ne : isB e = false) (he : PE X p (LE F Wx false (evE W e))) :
    PS X (.Assign [.Name x pos'] p pos) (LS F Wx (exS W (.asg i e))) := by
  refine PS_imp (ps_set hN hi hx he (swap_ok hs _ _ _) hf) fun Dn σ H h => ?_
  obtain ⟨ω, g, m, wr, S, h⟩ := h
  simp only [exec, ne, Bool.false_eq_true, if_false] at h
  refine LG.of S (Fin.mono (fun v H1 hx => ?_) (FinS.of_bind (rel := VRel F false) S h))
  obtain ⟨ω1, d, m1, e1, p1, r1, S1, h1⟩ := hx
  unfold asgn at h1
  split at h1
  · exact h1.nx (S1.set r1.pure) vg_set_f
  · exact h1.elim
end
end Ev
end
section
set_option linter.all false
set_option autoImplicit false
set_option maxRecDepth 100000
/-! Ev, part P: statements, one by one. -/
namespace Ev
open PySem PySem.Spec PyProof.Rows L2

section
variable {F : Fx} {wr : Wr} {ω ω' ω₁ ω₂ : Om} {m m' m₁ m₂ : M} {H H' H₁ H₂ : Hp} {V V' V₁ V₂ : Addr → Prop} {Wx : WX} {Dn : Ends} {g : Ga} {σ : L2.St}
theorem PoV.mono {wr wr' : Wr} (h : ∀ q, wr' q = true → wr q = true) (p : PoV F wr' V ω m H ω' m' H' V') : PoV F wr V ω m H ω' m' H' V' :=
  ⟨p.le, p.ad, fun b o e hu hv nt => p.keep b o e (fun z => hu (z.mono h)) hv nt, p.tab, p.nb, p.pb, p.st, p.aq, p.vq, p.cells, p.tabs⟩
theorem FinS.weak {wr wr' : Wr} (h : ∀ q, wr' q = true → wr q = true) : ∀ {r : RS}, FinS F Wx wr Dn V ω m H r → FinS F Wx wr' Dn V ω m H r
  | .stuck, z => z
  | .nx g' m', z => fun ω' σ' H' q S => z ω' σ' H' (q.mono h) S
  | .rt d m', z => fun ω' v H' q r => z ω' v H' (q.mono h) r
  | .exc c g' m', z => fun ω' σ' H' q S => z ω' σ' H' (q.mono h) S
theorem get_set_self {α : Type} {l : List α} {i : Nat} {a b : α} (h : (l.set i a)[i]? = some b) : b = a ∧ i < l.length := by
  have hl : i < l.length := by
    have := (List.getElem?_eq_some_iff.mp h).1
    simpa using this
  rw [List.getElem?_set_self hl] at h
  exact ⟨(Option.some.inj h).symm, hl⟩
/-- the own list of a slot is changed -/
theorem own_upd {i : Nat} {xs xs' : List D} {vs vs' : List L2.V} (S : Stt F ω g m σ H) (e : g[i]? = some (some (true, .list xs))) (hv : H (ω.sl i) = some (.lst vs)) (r : Reps F ω H xs' vs') :
    PoV F wr (Vg ω g) ω m H ω m (upd H (ω.sl i) (.lst vs')) (Vg ω (g.set i (some (true, .list xs')))) ∧ Stt F ω (g.set i (some (true, .list xs'))) m σ (upd H (ω.sl i) (.lst vs')) := by
  obtain ⟨e1, _, hB, hne⟩ := S.sl.own i _ e
  have st : Stays F ω ω H (upd H (ω.sl i) (.lst vs')) := upd_stays hB
  have hi : i < g.length := (List.getElem?_eq_some_iff.mp e).1
  have C' : Cells F ω m (upd H (ω.sl i) (.lst vs')) := S.ce.upd hB hne
  have T' : TabInv F (upd H (ω.sl i) (.lst vs')) := S.tb.upd hv
  have vq : ∀ b, Vg ω (g.set i (some (true, .list xs'))) b → Vg ω g b := by
    rintro b ⟨j, d, h, rfl⟩
    by_cases hj : i = j
    · subst hj
      exact ⟨i, _, e, rfl⟩
    · rw [List.getElem?_set_ne hj] at h
      exact ⟨j, d, h, rfl⟩
  refine ⟨⟨Nat.le_refl _, fun _ _ => rfl, fun b o h hu hv' nt => ?_, fun b ps h => ⟨#[], ?_⟩, fun _ _ _ h => h, fun _ _ _ h _ => h, fun b o h => ?_, fun r f h => .inl ⟨h, rfl⟩, fun b h => .inl (vq b h), C', T'⟩, ⟨by rw [List.length_set]; exact S.sl.len, fun j d h => ?_, fun j d h => ?_, fun j d k d' h1 h2 h3 => ?_⟩, C', T'⟩
  · rw [upd_ne fun z => hv' ⟨i, _, e, z.symm⟩]
    exact h
  · rw [upd_ne (ne_of h hv (fun z => by cases z)), h]
    simp
  · by_cases hb : b = ω.sl i
    · exact ⟨_, by rw [hb]; exact upd_same⟩
    · exact ⟨o, by rw [upd_ne hb]; exact h⟩
  · by_cases hj : i = j
    · subst hj
      obtain ⟨z, _⟩ := get_set_self h
      cases z
    · rw [List.getElem?_set_ne hj] at h
      obtain ⟨v, h1, h2⟩ := S.sl.val j d h
      exact ⟨v, h1, Rep.stays st _ _ h2⟩
  · by_cases hj : i = j
    · subst hj
      obtain ⟨z, _⟩ := get_set_self h
      cases z
      exact ⟨e1, ⟨vs', upd_same, Reps.stays st _ _ r⟩, hB, hne⟩
    · rw [List.getElem?_set_ne hj] at h
      obtain ⟨h1, h2, h3, h4⟩ := S.sl.own j d h
      exact ⟨h1, Cont.keep st (fun o q _ => by rw [upd_ne fun z => hj (S.sl.inj i _ j d e h z.symm)]; exact q) h2, h3, h4⟩
  · have un : ∀ {j : Nat} {d : D}, (g.set i (some (true, .list xs')))[j]? = some (some (true, d)) → ∃ d', g[j]? = some (some (true, d')) := fun {j d} h => by
      by_cases hj : i = j
      · subst hj
        exact ⟨_, e⟩
      · rw [List.getElem?_set_ne hj] at h
        exact ⟨_, h⟩
    obtain ⟨a, ha⟩ := un h1
    obtain ⟨b, hb⟩ := un h2
    exact S.sl.inj j a k b ha hb h3
/-- a slot's own thing is nobody's any more -/
theorem frz_sl {i : Nat} {d : D} (S : Stt F ω g m σ H) (e : g[i]? = some (some (true, d))) :
    PoV F wr (Vg ω g) ω m H (ω.out (ω.sl i)) m H (Vg (ω.out (ω.sl i)) (g.set i (some (false, d)))) ∧ Stt F (ω.out (ω.sl i)) (g.set i (some (false, d))) m σ H := by
  obtain ⟨e1, hc, hB, hne⟩ := S.sl.own i _ e
  have C' : Cells F (ω.out (ω.sl i)) m H := S.ce.out hne
  refine ⟨⟨Nat.le_refl _, fun _ _ => rfl, fun b o h _ _ _ => h, fun b ps h => ⟨#[], by rw [h]; simp⟩, fun _ _ _ h z => h z.1, fun b _ _ h hv => ⟨h, fun z => hv ⟨i, d, e, z.symm⟩⟩, fun b o h => ⟨o, h⟩, fun r f h => .inl ⟨h, rfl⟩, fun b h => .inl (vg_set_f b h), C', S.tb⟩, ⟨by rw [List.length_set]; exact S.sl.len, fun j f h => ?_, fun j f h => ?_, fun j a k b h1 h2 h3 => ?_⟩, C', S.tb⟩
  · by_cases hj : i = j
    · subst hj
      obtain ⟨z, _⟩ := get_set_self h
      cases z
      exact ⟨_, e1, Rep.freeze hc (cont_nocell hc)⟩
    · rw [List.getElem?_set_ne hj] at h
      obtain ⟨v, h1, h2⟩ := S.sl.val j f h
      exact ⟨v, h1, Rep.stays stays_out _ _ h2⟩
  · by_cases hj : i = j
    · subst hj
      obtain ⟨z, _⟩ := get_set_self h
      cases z
    · rw [List.getElem?_set_ne hj] at h
      obtain ⟨h1, h2, h3, h4⟩ := S.sl.own j f h
      exact ⟨h1, Cont.keep stays_out (fun o q _ => q) h2, ⟨h3, fun z => hj (S.sl.inj j f i d h e z).symm⟩, h4⟩
  · have un : ∀ {j : Nat} {f : D}, (g.set i (some (false, d)))[j]? = some (some (true, f)) → g[j]? = some (some (true, f)) := fun {j f} h => by
      by_cases hj : i = j
      · subst hj
        obtain ⟨z, _⟩ := get_set_self h
        cases z
      · rw [List.getElem?_set_ne hj] at h
        exact h
    exact S.sl.inj j a k b (un h1) (un h2) h3
def Om.sls (ω : Om) (i : Nat) (a : Addr) : Om := { ω with sl := fun j => if j = i then a else ω.sl j }
theorem stays_sls {i : Nat} {a : Addr} : Stays F ω (ω.sls i a) H H := ⟨Nat.le_refl _, fun _ _ => rfl, fun b o h _ _ => .inl h, fun b o _ hb z => hb z⟩
theorem Cells.sls {i : Nat} {a : Addr} (C : Cells F ω m H) : Cells F (ω.sls i a) m H :=
  C.stays stays_sls rfl rfl (fun _ _ _ h => h) (fun _ _ h _ => h)
/-- a new thing is a slot's own -/
theorem own_new {i : Nat} {a : Addr} {d : D} (S : Stt F ω g m σ H) (p : Po F wr ω m H ω' m' H') (h0 : H a = none) (hc : ContAt F ω' H' a d) (hB : ω'.B a) (hne : ∀ r f, LvC m' r f → ω'.ad r f ≠ a) (hi : i < g.length) :
    PoV F wr (Vg ω g) ω m H (ω'.sls i a) m' H' (Vg (ω'.sls i a) (g.set i (some (true, d)))) ∧ Stt F (ω'.sls i a) (g.set i (some (true, d))) m' (σ.set i (some (.ref a))) H' := by
  have S1 := S.po p
  have C' : Cells F (ω'.sls i a) m' H' := p.cells.sls
  have sli : (ω'.sls i a).sl i = a := by show (if i = i then a else _) = a; rw [if_pos rfl]
  have slj : ∀ j, i ≠ j → (ω'.sls i a).sl j = ω'.sl j := fun j hj => by show (if j = i then a else _) = _; rw [if_neg fun z => hj z.symm]
  have old : ∀ {j : Nat} {f : D}, g[j]? = some (some (true, f)) → ω'.sl j ≠ a := fun {j f} h z => by
    obtain ⟨_, h2, _, _⟩ := S.sl.own j f h
    obtain ⟨o, h5, _⟩ := Cont.tracked h2
    rw [← p.sl, z, h0] at h5
    cases h5
  refine ⟨⟨p.le, p.ad, fun b o h hu _ nt => p.fr.keep b o h hu nt, p.fr.tab, p.fr.nb, fun b o h hb _ => p.fr.pb b o h hb, p.fr.st, p.aq, ?_, C', p.tabs⟩, ⟨by rw [List.length_set, List.length_set]; exact S.sl.len, fun j f h => ?_, fun j f h => ?_, fun j b k c h1 h2 h3 => ?_⟩, C', p.tabs⟩
  · rintro b ⟨j, f, h, rfl⟩
    by_cases hj : i = j
    · subst hj
      rw [sli]
      exact .inr h0
    · rw [List.getElem?_set_ne hj] at h
      rw [slj j hj, p.sl]
      exact .inl ⟨j, f, h, rfl⟩
  · by_cases hj : i = j
    · subst hj
      obtain ⟨z, _⟩ := get_set_self h
      cases z
    · rw [List.getElem?_set_ne hj] at h
      obtain ⟨v, h1, h2⟩ := S1.sl.val j f h
      exact ⟨v, by rw [List.getElem?_set_ne hj]; exact h1, Rep.stays stays_sls _ _ h2⟩
  · by_cases hj : i = j
    · subst hj
      obtain ⟨z, _⟩ := get_set_self h
      cases z
      rw [sli]
      exact ⟨List.getElem?_set_self (by rw [← S.sl.len]; exact hi), Cont.keep stays_sls (fun o q _ => q) hc, hB, hne⟩
    · rw [List.getElem?_set_ne hj] at h
      obtain ⟨h1, h2, h3, h4⟩ := S1.sl.own j f h
      rw [slj j hj]
      exact ⟨by rw [List.getElem?_set_ne hj]; exact h1, Cont.keep stays_sls (fun o q _ => q) h2, h3, h4⟩
  · by_cases hj : i = j
    · by_cases hk : i = k
      · rw [← hj, ← hk]
      · rw [List.getElem?_set_ne hk] at h2
        rw [slj k hk, ← hj, sli] at h3
        exact absurd h3.symm (old h2)
    · rw [List.getElem?_set_ne hj] at h1
      by_cases hk : i = k
      · rw [slj j hj, ← hk, sli] at h3
        exact absurd h3 (old h1)
      · rw [List.getElem?_set_ne hk] at h2
        rw [slj j hj, slj k hk] at h3
        exact S1.sl.inj j b k c h1 h2 h3
end
section
variable {X : Cx} {F : Fx} {W : Wd} {Wx : WX} {pos : Pos}
theorem ss_frz {i : Nat} {ps : List Stmt} {r : List St} (h : PSs X ps (LS F Wx (exL W r))) : PSs X ps (LS F Wx (exL W (.frz i :: r))) := by
  refine PSs_imp h fun Dn σ H h => ?_
  obtain ⟨ω, g, m, wr, S, h⟩ := h
  simp only [exL, execL, exec] at h
  split at h
  · rename_i d e
    obtain ⟨p, S'⟩ := frz_sl (wr := wr) S e
    exact LS.of S' (FinS.shift p h)
  · exact LS.of S h
  · exact h.elim
theorem setO_core {i : Nat} {e : Ex} {σ : L2.St} {H : Hp} {Dn : Ends} (h : LS F Wx (exS W (.asgO i e)) Dn σ H) : LF F Wx (evE W e) σ H fun v H1 => Dn.nx (σ.set i (some v)) H1 := by
  obtain ⟨ω, g, m, wr, S, h⟩ := h
  refine ⟨ω, g, m, wr, S, ?_⟩
  simp only [exec] at h
  show FinF F Wx wr σ _ ω m H (ev W e wr g m)
  cases hx : ev W e wr g m with
  | stuck => rw [hx] at h; exact h
  | exc c m' =>
    rw [hx] at h
    intro ω' H' p
    have h : FinS F Wx wr Dn (Vg ω g) ω m H (.exc c g m') := h
    exact h ω' σ H' (PoV.of p (fun b hb => by rw [Vg.po p] at hb; exact hb)) (S.po p)
  | ok d m' =>
    rw [hx] at h
    intro ω' a H' p h0 hc hB hne
    simp only [RS.of_ok, asgn] at h
    split at h
    · rename_i hi
      obtain ⟨q1, q2⟩ := own_new S p h0 hc hB hne hi
      exact h (ω'.sls i a) _ H' q1 q2
    · exact h.elim
theorem s_asgO {i : Nat} {x : Str} {e : Ex} {p : Expr} {pos' : Pos} (hN : X.N.Nodup) (hi : X.N[i]? = some x) (hx : Loc X.env.scope x) (hf : X.fn x = true ∨ X.env.scope.names.lookup x = some .local) (hs : swapOk p = true) (he : PE X p (LF F Wx (evE W e))) :
    PS X (.Assign [.Name x pos'] p pos) (LS F Wx (exS W (.asgO i e))) :=
  PS_imp (ps_set hN hi hx he (swap_ok hs _ _ _) hf) fun Dn σ H h => setO_core h
theorem vg_bind : ∀ (tg : Tg) (d : D) (g g' : Ga), bindT tg d g = some g' → ∀ (ω : Om) b, Vg ω g' b → Vg ω g b
  | .nm i, d, g, g', e => by
    intro ω b hb
    simp only [bindT] at e
    split at e
    · cases e
      exact vg_set_f b hb
    · cases e
  | .tup ts, .tuple ds, g, g', e => by
    simp only [bindT] at e
    exact vg_binds ts ds g g' e
  | .tup ts, .none, g, g', e => by simp [bindT] at e
  | .tup ts, .bool _, g, g', e => by simp [bindT] at e
  | .tup ts, .int _, g, g', e => by simp [bindT] at e
  | .tup ts, .str _, g, g', e => by simp [bindT] at e
  | .tup ts, .list _, g, g', e => by simp [bindT] at e
  | .tup ts, .dict _, g, g', e => by simp [bindT] at e
where vg_binds : ∀ (ts : List Tg) (ds : List D) (g g' : Ga), bindT.bindTs ts ds g = some g' → ∀ (ω : Om) b, Vg ω g' b → Vg ω g b
  | [], [], g, g', e => by
    intro ω b hb
    cases e
    exact hb
  | [], _ :: _, g, g', e => by cases e
  | _ :: _, [], g, g', e => by cases e
  | t :: ts, d :: ds, g, g', e => by
    intro ω b hb
    simp only [bindT.bindTs] at e
    cases e1 : bindT t d g with
    | none => rw [e1] at e; cases e
    | some g1 =>
      rw [e1] at e
      exact vg_bind t d g g1 e1 ω b (vg_binds ts ds g1 g' e ω b hb)
theorem s_unp {e : Ex} {t : Tg} {u : TG} {tgE p : Expr} (hs : swapOk p = true) (hw : swappedStores [tgE] p X.env = pure none) (h1 : (assignEach [tgE] X.env).map (·.2) = [assign tgE X.env]) (ne : isB e = false) (he : PE X p (LE F Wx false (evE W e))) (hg : PG X tgE u) (hG : GOk F u t) :
    PS X (.Assign [tgE] p pos) (LS F Wx (exS W (.unp t e))) := by
  refine PS_imp (ps_asg he hg (swap_ok hs _ _ _) hw h1) fun Dn σ H h => ?_
  obtain ⟨ω, g, m, wr, S, h⟩ := h
  simp only [exec, ne, Bool.false_eq_true, if_false] at h
  refine LG.of S (Fin.mono (fun v H1 hx => ?_) (FinS.of_bind (rel := VRel F false) S h))
  obtain ⟨ω1, d, m1, e1, p1, r1, S1, h1⟩ := hx
  cases hb : bindT t d g with
  | none => simp only [hb] at h1; exact h1.elim
  | some g' =>
    simp only [hb] at h1
    exact hG ω1 H1 g m1 σ d v g' _ S1.sl r1.pure hb fun σ' S' _ _ => h1.nx ⟨S', S1.ce, S1.tb⟩ (vg_bind t d g g' hb ω1)
theorem s_par2 {i j : Nat} {x y : Str} {a b : Expr} {es : List Ex} {px py pt : Pos} {kt k2 pt2} (hc : X.calm = true) (hN : X.N.Nodup) (hi : X.N[i]? = some x) (hj : X.N[j]? = some y) (hij : i ≠ j)
    (hx : X.env.scope.names.lookup x = some .local) (hy : X.env.scope.names.lookup y = some .local) (ha : PA X [a, b] (LA F Wx (evLs W es)))
    (hw : swappedStores [.Tuple [.Name x px, .Name y py] kt pt] (.Tuple [a, b] k2 pt2) X.env = pure (some [x, y])) :
    PS X (.Assign [.Tuple [.Name x px, .Name y py] kt pt] (.Tuple [a, b] k2 pt2) pos) (LS F Wx (exS W (.par [i, j] es))) := by
  refine PS_imp (ps_par hc hN hi hj hij hx hy ha hw) fun Dn σ H h => ?_
  obtain ⟨ω, g, m, wr, S, h⟩ := h
  simp only [exec] at h
  refine LG.of S (Fin.mono (fun vs H1 hx => ?_) (FinS.of_bind (rel := Reps F) S h))
  obtain ⟨ω1, ds, m1, e1, p1, r1, S1, h1⟩ := hx
  match ds, r1, h1 with
  | [d1, d2], r1, h1 =>
    obtain ⟨v1, r, rfl, q1, v2, r', rfl, q2, q3⟩ := r1
    have q3 : r' = [] := q3
    subst q3
    simp only [asgL] at h1
    split at h1
    · split at h1
      · exact ⟨v1, v2, rfl, h1.nx ((S1.set q1).set q2) fun b z => vg_set_f b (vg_set_f b z)⟩
      · exact h1.elim
    · exact h1.elim
  | [], _, h1 => exact h1.elim
  | [_], _, h1 =>
    simp only [asgL] at h1
    split at h1 <;> exact h1.elim
  | _ :: _ :: _ :: _, _, h1 =>
    simp only [asgL] at h1
    split at h1
    · split at h1 <;> exact h1.elim
    · exact h1.elim
theorem s_par3 {i j l : Nat} {x y z : Str} {a b c : Expr} {es : List Ex} {px py pz pt : Pos} {kt k2 pt2} (hc : X.calm = true) (hN : X.N.Nodup) (hi : X.N[i]? = some x) (hj : X.N[j]? = some y) (hl : X.N[l]? = some z) (hij : i ≠ j) (hil : i ≠ l) (hjl : j ≠ l)
    (hx : X.env.scope.names.lookup x = some .local) (hy : X.env.scope.names.lookup y = some .local) (hz : X.env.scope.names.lookup z = some .local) (ha : PA X [a, b, c] (LA F Wx (evLs W es)))
    (hw : swappedStores [.Tuple [.Name x px, .Name y py, .Name z pz] kt pt] (.Tuple [a, b, c] k2 pt2) X.env = pure (some [x, y, z])) :
    PS X (.Assign [.Tuple [.Name x px, .Name y py, .Name z pz] kt pt] (.Tuple [a, b, c] k2 pt2) pos) (LS F Wx (exS W (.par [i, j, l] es))) := by
  refine PS_imp (ps_par3 hc hN hi hj hl hij hil hjl hx hy hz ha hw) fun Dn σ H h => ?_
  obtain ⟨ω, g, m, wr, S, h⟩ := h
  simp only [exec] at h
  refine LG.of S (Fin.mono (fun vs H1 hx => ?_) (FinS.of_bind (rel := Reps F) S h))
  obtain ⟨ω1, ds, m1, e1, p1, r1, S1, h1⟩ := hx
  match ds, r1, h1 with
  | [d1, d2, d3], r1, h1 =>
    obtain ⟨v1, r, rfl, q1, v2, r', rfl, q2, v3, r'', rfl, q3, q4⟩ := r1
    have q4 : r'' = [] := q4
    subst q4
    simp only [asgL] at h1
    split at h1
    · split at h1
      · split at h1
        · exact ⟨v1, v2, v3, rfl, h1.nx (((S1.set q1).set q2).set q3) fun b z => vg_set_f b (vg_set_f b (vg_set_f b z))⟩
        · exact h1.elim
      · exact h1.elim
    · exact h1.elim
  | [], _, h1 => exact h1.elim
  | [_], _, h1 =>
    simp only [asgL] at h1
    split at h1 <;> exact h1.elim
  | [_, _], _, h1 =>
    simp only [asgL] at h1
    split at h1
    · split at h1 <;> exact h1.elim
    · exact h1.elim
  | _ :: _ :: _ :: _ :: _, _, h1 =>
    simp only [asgL] at h1
    split at h1
    · split at h1
      · split at h1 <;> exact h1.elim
      · exact h1.elim
    · exact h1.elim
theorem s_exp {e : Ex} {p : Expr} (hs : swapOk p = true) (ne : isB e = false) (he : PE X p (LE F Wx false (evE W e))) : PS X (.Expr p pos) (LS F Wx (exS W (.exp e))) := by
  refine PS_imp (ps_expr he (swap_ok hs _ _ _)) fun Dn σ H h => ?_
  obtain ⟨ω, g, m, wr, S, h⟩ := h
  simp only [exec, ne, Bool.false_eq_true, if_false] at h
  refine LG.of S (Fin.mono (fun v H1 hx => ?_) (FinS.of_bind (rel := VRel F false) S h))
  obtain ⟨ω1, d, m1, e1, p1, r1, S1, h1⟩ := hx
  exact h1.nx S1 fun b z => z
theorem s_ret {e : Ex} {p : Expr} (ne : isB e = false) (he : PE X p (LE F Wx false (evE W e))) : PS X (.Return (some p) pos) (LS F Wx (exS W (.ret e))) := by
  refine PS_imp (ps_ret he) fun Dn σ H h => ?_
  obtain ⟨ω, g, m, wr, S, h⟩ := h
  simp only [exec, ne, Bool.false_eq_true, if_false] at h
  refine LG.of S (Fin.mono (fun v H1 hx => ?_) (FinS.of_bind (rel := VRel F false) S h))
  obtain ⟨ω1, d, m1, e1, p1, r1, S1, h1⟩ := hx
  exact h1 ω1 v H1 (PoV.of (Po.refl S1.ce S1.tb) fun b z => z.elim) r1.pure
theorem s_retn : PS X (.Return none pos) (LS F Wx (exS W .retn)) := by
  refine PS_imp ps_retN fun Dn σ H h => ?_
  obtain ⟨ω, g, m, wr, S, h⟩ := h
  simp only [exec] at h
  exact h ω .non H (PoV.of (Po.refl S.ce S.tb) fun b z => z.elim) rfl
theorem s_ifs {t : Ex} {a b : List St} {c : Expr} {pa pb : List Stmt} (ht : PT X c (LT F Wx (evE W t))) (ha : PSs X pa (LS F Wx (exL W a))) (hb : PSs X pb (LS F Wx (exL W b))) : PS X (.If c pa pb pos) (LS F Wx (exS W (.ifs t a b))) := by
  refine PS_imp (ps_if ht ha hb) fun Dn σ H h => ?_
  obtain ⟨ω, g, m, wr, S, h⟩ := h
  simp only [exec] at h
  refine LG.of (wr := wr) S ?_
  show Fin F Wx wr σ RelB _ ω m H (asB (ev W t wr g m))
  have hh := FinS.of_bind (rel := fun _ _ (_ : D) (_ : V) => True) S h
  cases hx : ev W t wr g m with
  | stuck => rw [hx] at h; exact h
  | exc c m' => rw [hx] at hh; exact hh
  | ok d m' =>
    rw [hx] at hh
    cases d with
    | bool k =>
      intro ω' v H' p r
      rw [show v = k by cases r; rfl]
      obtain ⟨ω1, d, m1, e1, p1, r1, S1, h1⟩ := hh ω' (.non) H' p trivial
      cases e1
      cases k with
      | true => exact iteT (LS.of S1 h1)
      | false => exact iteF (LS.of S1 h1)
    | _ => rw [hx] at h; exact h
theorem s_rai {c : Nat} {x msg : Str} {j : Nat} {C : Addr} {bmB : List Value} {B newId initId : String} {p p2 q : Pos} (hc : X.calm = true) (tk : Takes X Wx) (hC : F.xa c = C) (EF : ExcBaseFacts B newId initId bmB) (hq : PySem.W.excIn X.K C bmB newId = true) (gC : X.mg x = some (.ref C)) (kC : PySem.W.keepIn X.K (.ref C) = true) (r : Raises X (.ref C)) (hg : Gl X x)
    (hdb : (x == ("__debug__" : Str)) = false) : PS X (.Raise (some (.Call (.Name x p) [.Constant (.str msg) j p2] [] q)) none pos) (LS F Wx (exS W (.rai c))) := by
  refine PS_imp (ps_raise hc tk (pmk_own EF hq gC kC r hg hdb)) fun Dn σ H h => ?_
  obtain ⟨ω, g, m, wr, S, h⟩ := h
  simp only [exec] at h
  have z := h ω σ H (PoV.of (Po.refl S.ce S.tb) fun b z => z) S
  rw [hC] at z
  exact z
end
end Ev
end
section
set_option linter.all false
set_option autoImplicit false
set_option maxRecDepth 100000
/-! Ev, part Q: stores into lists, loops. -/
namespace Ev
open PySem PySem.Spec PyProof.Rows L2

section
variable {X : Cx} {F : Fx} {W : Wd} {Wx : WX} {pos : Pos}
theorem get_list : PGet X (rIxL X.K) := by
  intro pins s σ H x y v u Q I rx ry h
  obtain ⟨p, xs, i, z, rfl, rfl, hq, he, q⟩ := h
  cases rx
  obtain ⟨t, rfl⟩ := ry
  obtain ⟨its, r, pl, hz⟩ := I.list hq
  obtain ⟨j, h1, h2, h3, h4, h5⟩ := atI_get he
  obtain ⟨w, ew, rw'⟩ := r.get h2
  have hl := r.length
  have hn := line63
  have fin : EP X pins σ Q w s := ⟨z, H, I, rw', q⟩
  by_cases h0 : 0 ≤ i
  · have hj : i.toNat = j := by
      rw [seqIndex_of h0 h5] at h1
      exact Option.some.inj h1
    exact getItem_listL pl.isList h0 (by omega) (by rw [hj]; exact ew) fin
  · have hj : (i + (its.toArray.size : Int)).toNat = j := by
      rw [seqIndex_neg (by omega) h4] at h1
      rw [List.size_toArray, ← hl]
      exact Option.some.inj h1
    exact wpAny_getItem_list_neg pl.isList (by omega) (by rw [List.size_toArray] <;> omega) (by omega) (by rw [hj]; simpa using ew) fin
theorem setN_sound {ω : Om} {H : Hp} {xs xs' : List D} {vs : List V} {k d : D} {kv v : V} (r : Reps F ω H xs vs) (rk : Rep F ω H k kv) (rd : Rep F ω H d v) (e : setN xs k d = some xs') :
    ∃ i j, kv = .int i ∧ ixN vs.length i = some j ∧ Reps F ω H xs' (vs.set j v) := by
  unfold setN at e
  split at e
  · rename_i i
    rw [← r.length] at e
    cases hj : ixN vs.length i with
    | none => rw [hj] at e; cases e
    | some j =>
      rw [hj] at e
      cases e
      exact ⟨i, j, rk, hj, Reps.set j r rd⟩
  · cases e
theorem getN_sound {ω : Om} {H : Hp} {xs : List D} {vs : List V} {k d : D} {kv : V} (r : Reps F ω H xs vs) (rk : Rep F ω H k kv) (e : getN xs k = some d) :
    ∃ i v, kv = .int i ∧ atI vs i = some v ∧ Rep F ω H d v := by
  unfold getN at e
  split at e
  · rename_i i
    obtain ⟨v, h1, h2⟩ := r.atI e
    exact ⟨i, v, rk, h1, h2⟩
  · cases e
theorem sole_ok {e t : Expr} (h : swapOk e = true) (l : Nat) (env : Env) : swapsWithSole [t] e l env = pure false := swap_ok h _ _ _
abbrev subAssign (X : Cx) (o pk : Expr) (ps' : Pos) : Prop := ∀ v, assign (.Subscript o pk ps') X.env v = (do
      let ov ← holding [v] (eval o X.env)
      let iv ← holding [v, ov] (eval pk X.env)
      standAt ps'
      holding [v, ov, iv] (setItem ov iv v)
      release [v, ov, iv] [])
/-- x[k] = e, x a slot's own -/
theorem s_setiS {i : Nat} {x : Str} {k e : Ex} {pk p : Expr} {px ps' : Pos} (hN : X.N[i]? = some x) (hv : Vis X.env.scope x) (hd : (x == ("__debug__" : Str)) = false) (hcd : (x == ("__classdict__" : Str)) = false) (hs : swapOk p = true)
    (ha : subAssign X (.Name x px) pk ps')
    (ne : isB e = false) (nk : isB k = false) (he : PE X p (LE F Wx false (evE W e))) (hk : PE X pk (LE F Wx false (evE W k))) :
    PS X (.Assign [.Subscript (.Name x px) pk ps'] p pos) (LS F Wx (exS W (.seti (.sl i) k e))) := by
  refine PS_imp (ps_asg he (pg_sub (pe_var hN hv hd hcd) hk set_list ha) (sole_ok hs _ _) rfl rfl) fun Dn σ H h => ?_
  obtain ⟨ω, g, m, wr, S, h⟩ := h
  simp only [exec, ne, nk, Bool.or_self, Bool.false_eq_true, if_false] at h
  split at h
  · rename_i ls eg
    refine LG.of S (Fin.mono (fun v H1 hx => ?_) (FinS.of_bind (rel := VRel F false) S h))
    obtain ⟨ω1, d, m1, e1, p1, r1, S1, h1⟩ := hx
    refine ⟨_, (S1.sl.own i _ eg).1, ?_⟩
    refine LG.of S1 (Fin.mono (fun kv H2 hx => ?_) (FinS.of_bind (rel := VRel F false) S1 h1))
    obtain ⟨ω2, dk, m2, e2, p2, r2, S2, h2⟩ := hx
    cases hset : setN ls dk d with
    | none => simp only [hset] at h2; exact h2.elim
    | some xs' =>
      simp only [hset] at h2
      obtain ⟨_, ⟨vs, hv1, hv2⟩, _, _⟩ := S2.sl.own i _ eg
      obtain ⟨ii, j, rfl, hj, r3⟩ := setN_sound hv2 r2.pure (Rep.stays (p2.stays S1.ce) _ _ r1.pure) hset
      refine ⟨ω2.sl i, vs, ii, j, ?_, rfl, hv1, hj, ?_⟩
      · rw [p2.sl]
      · obtain ⟨q1, q2⟩ := own_upd (wr := wr) S2 eg hv1 r3
        exact h2 ω2 σ _ q1 q2
  · exact h.elim
def pyA : BOp → Operator := pyB
theorem ip_int {o : BOp} (h : o = .add ∨ o = .sub) : ∃ f : Int → Int → Int, PIp X (pyB o) (ipI f) ∧ ∀ x d v, semAug o x d = some v → ∃ i j, x = .int i ∧ d = .int j ∧ v = .int (f i j) := by
  rcases h with rfl | rfl
  · refine ⟨_, ip_add, fun x d v e => ?_⟩
    cases x <;> cases d <;> simp [semAug] at e
    exact ⟨_, _, rfl, rfl, e.symm⟩
  · refine ⟨_, ip_sub, fun x d v e => ?_⟩
    cases x <;> cases d <;> simp [semAug] at e
    exact ⟨_, _, rfl, rfl, e.symm⟩
/-- x op= e -/
theorem s_augn {i : Nat} {x : Str} {o : BOp} {e : Ex} {p : Expr} {px : Pos} (ho : o = .add ∨ o = .sub) (hN : X.N.Nodup) (hi : X.N[i]? = some x) (hx : Loc X.env.scope x) (hf : X.fn x = true ∨ X.env.scope.names.lookup x = some .local) (ne : isB e = false) (he : PE X p (LE F Wx false (evE W e))) :
    PS X (.AugAssign (.Name x px) (pyB o) p pos) (LS F Wx (exS W (.augn i o e))) := by
  obtain ⟨f, hip, hsem⟩ := ip_int (X := X) ho
  refine PS_imp (ps_aug hN hi hx he hip hf) fun Dn σ H h => ?_
  obtain ⟨ω, g, m, wr, S, h⟩ := h
  simp only [exec, ne, Bool.false_eq_true, if_false] at h
  split at h
  · rename_i x eg
    obtain ⟨v, e1, r0⟩ := S.sl.val i x eg
    refine ⟨v, e1, ?_⟩
    refine LG.of S (Fin.mono (fun u H1 hx => ?_) (FinS.of_bind (rel := VRel F false) S h))
    obtain ⟨ω1, d, m1, e2, p1, r1, S1, h1⟩ := hx
    cases hs : semAug o x d with
    | none => simp only [hs] at h1; exact h1.elim
    | some w =>
      simp only [hs] at h1
      obtain ⟨a, b, rfl, rfl, rfl⟩ := hsem _ _ _ hs
      have r0 : v = .int a := r0
      have r1 : u = .int b := r1.pure
      exact ⟨a, b, r0, r1, h1.nx (S1.set rfl) vg_set_f⟩
  · exact h.elim
/-- x[k] op= e -/
theorem s_augiS {i : Nat} {x : Str} {o : BOp} {k e : Ex} {pk p : Expr} {px ps' : Pos} (ho : o = .add ∨ o = .sub) (hN : X.N[i]? = some x) (hv : Vis X.env.scope x) (hd : (x == ("__debug__" : Str)) = false) (hcd : (x == ("__classdict__" : Str)) = false)
    (ha : ∀ ov iv new, augStore pk ov iv new = (do holding [new, ov, iv] (setItem ov iv new); release [new, ov, iv] []; pure .next))
    (ne : isB e = false) (nk : isB k = false) (he : PE X p (LE F Wx false (evE W e))) (hk : PE X pk (LE F Wx false (evE W k))) :
    PS X (.AugAssign (.Subscript (.Name x px) pk ps') (pyB o) p pos) (LS F Wx (exS W (.augi (.sl i) k o e))) := by
  obtain ⟨f, hip, hsem⟩ := ip_int (X := X) ho
  refine PS_imp (ps_augS (pe_var hN hv hd hcd) hk get_list he hip set_list ha) fun Dn σ H h => ?_
  obtain ⟨ω, g, m, wr, S, h⟩ := h
  simp only [exec, ne, nk, Bool.or_self, Bool.false_eq_true, if_false] at h
  split at h
  · rename_i ls eg
    refine ⟨_, (S.sl.own i _ eg).1, ?_⟩
    refine LG.of S (Fin.mono (fun kv H1 hx => ?_) (FinS.of_bind (rel := VRel F false) S h))
    obtain ⟨ω1, dk, m1, e1, p1, r1, S1, h1⟩ := hx
    cases hget : getN ls dk with
    | none => simp only [hget] at h1; exact h1.elim
    | some x0 =>
      simp only [hget] at h1
      obtain ⟨_, ⟨vs, hv1, hv2⟩, _, _⟩ := S1.sl.own i _ eg
      obtain ⟨ii, v0, rfl, hj, r0⟩ := getN_sound hv2 r1.pure hget
      refine ⟨_, vs, ii, v0, rfl, rfl, SqL.of (by rw [← p1.sl]; exact hv1), hj, ?_⟩
      refine LG.of S1 (Fin.mono (fun u H2 hx => ?_) (FinS.of_bind (rel := VRel F false) S1 h1))
      obtain ⟨ω2, d, m2, e2, p2, r2, S2, h2⟩ := hx
      cases hs : semAug o x0 d with
      | none => simp only [hs] at h2; exact h2.elim
      | some w =>
        simp only [hs] at h2
        cases hset : setN ls dk w with
        | none => simp only [hset] at h2; exact h2.elim
        | some xs' =>
          simp only [hset] at h2
          obtain ⟨a, b, rfl, rfl, rfl⟩ := hsem _ _ _ hs
          have r0 : v0 = .int a := r0
          have r2' : u = .int b := r2.pure
          refine ⟨a, b, r0, r2', ?_⟩
          obtain ⟨_, ⟨vs2, hv3, hv4⟩, _, _⟩ := S2.sl.own i _ eg
          obtain ⟨i2, j, ei, hj2, r3⟩ := setN_sound hv4 (Rep.stays (p2.stays S1.ce) _ _ r1.pure) (show Rep F ω2 H2 (.int (f a b)) (.int (f a b)) from rfl) hset
          cases ei
          refine ⟨ω2.sl i, vs2, ii, j, ?_, rfl, hv3, hj2, ?_⟩
          · rw [p2.sl, p1.sl]
          · obtain ⟨q1, q2⟩ := own_upd (wr := wr) S2 eg hv3 r3
            exact h2 ω2 σ _ q1 q2
  · exact h.elim
/-- a cell's list is changed -/
theorem cell_upd {wr : Wr} {ω : Om} {m : M} {H : Hp} {σ : L2.St} {g : Ga} {r : Nat} {xs xs' : List D} {vs vs' : List V} (S : Stt F ω g m σ H) (e : m[r]? = some (.lst xs)) (hw : wr (.ce r "") = true) (hv : H (ω.ad r "") = some (.lst vs)) (rr : Reps F ω H xs' vs') :
    PoV F wr (Vg ω g) ω m H ω (m.set r (.lst xs')) (upd H (ω.ad r "") (.lst vs')) (Vg ω g) ∧ Stt F ω g (m.set r (.lst xs')) σ (upd H (ω.ad r "") (.lst vs')) := by
  have hr : r < m.length := (List.getElem?_eq_some_iff.mp e).1
  have lv0 : LvC m r "" := ⟨hr, .inl rfl⟩
  have hB : ω.B (ω.ad r "") := S.ce.inB r "" lv0
  have st : Stays F ω ω H (upd H (ω.ad r "") (.lst vs')) := upd_stays hB
  have lv : ∀ r' f, LvC (m.set r (.lst xs')) r' f → LvC m r' f := fun r' f h => by
    obtain ⟨h1, h2⟩ := h
    rw [List.length_set] at h1
    refine ⟨h1, ?_⟩
    rcases h2 with h2 | ⟨c, fs, d, h3, h4⟩
    · exact .inl h2
    · by_cases hj : r = r'
      · subst hj
        obtain ⟨z, _⟩ := get_set_self h3
        cases z
      · rw [List.getElem?_set_ne hj] at h3
        exact .inr ⟨c, fs, d, h3, h4⟩
  have C' : Cells F ω (m.set r (.lst xs')) (upd H (ω.ad r "") (.lst vs')) := by
    refine ⟨by rw [List.length_set]; exact S.ce.len, fun r' c h => ?_, fun a f b f' h1 h2 h3 => S.ce.inj a f b f' (lv _ _ h1) (lv _ _ h2) h3, fun a f h => S.ce.inB a f (lv _ _ h), fun a c fs h => ?_⟩
    · by_cases hj : r = r'
      · subst hj
        obtain ⟨z, _⟩ := get_set_self h
        subst z
        exact ⟨vs', upd_same, Reps.stays st _ _ rr⟩
      · rw [List.getElem?_set_ne hj] at h
        refine CellAt.stays st rfl (fun f hf o q _ => ?_) (S.ce.at_ r' c h)
        have l2 : LvC m r' f := by
          rcases hf with rfl | ⟨c', fs, d, rfl, hm⟩
          · exact ⟨(List.getElem?_eq_some_iff.mp h).1, .inl rfl⟩
          · obtain ⟨dx, us, _, h2⟩ := S.ce.at_ r' _ h
            exact lvC_own (S.ce.nd r' c' fs h) h hm (own_ne (c := 0) h2 hm)
        rw [upd_ne fun z => hj (S.ce.inj r' f r "" l2 lv0 z).1.symm]
        exact q
    · by_cases hj : r = a
      · subst hj
        obtain ⟨z, _⟩ := get_set_self h
        cases z
      · rw [List.getElem?_set_ne hj] at h
        exact S.ce.nd a c fs h
  have T' : TabInv F (upd H (ω.ad r "") (.lst vs')) := S.tb.upd hv
  refine ⟨⟨Nat.le_refl _, fun _ _ => rfl, fun b o h hu _ nt => ?_, fun b ps h => ⟨#[], ?_⟩, fun _ _ _ h => h, fun _ _ _ h _ => h, fun b o h => ?_, fun r' f h => .inl ⟨lv _ _ h, rfl⟩, fun b h => .inl h, C', T'⟩, ⟨S.sl.len, fun j d h => ?_, fun j d h => ?_, S.sl.inj⟩, C', T'⟩
  · rw [upd_ne fun z => hu ⟨r, "", lv0, hw, z.symm⟩]
    exact h
  · rw [upd_ne (ne_of h hv (fun z => by cases z)), h]
    simp
  · by_cases hb : b = ω.ad r ""
    · exact ⟨_, by rw [hb]; exact upd_same⟩
    · exact ⟨o, by rw [upd_ne hb]; exact h⟩
  · obtain ⟨v, h1, h2⟩ := S.sl.val j d h
    exact ⟨v, h1, Rep.stays st _ _ h2⟩
  · obtain ⟨h1, h2, h3, h4⟩ := S.sl.own j d h
    exact ⟨h1, Cont.keep st (fun o q _ => by rw [upd_ne fun z => h4 r "" lv0 z.symm]; exact q) h2, h3, fun r' f l => h4 r' f (lv _ _ l)⟩
/-- o[k] = e, o a cell's list -/
theorem s_setiC {k e eo : Ex} {po pk p : Expr} {ps' : Pos} (hs : swapOk p = true) (ha : subAssign X po pk ps')
    (ne : isB e = false) (no : isB eo = false) (nk : isB k = false) (he : PE X p (LE F Wx false (evE W e))) (ho : PE X po (LE F Wx false (evE W eo))) (hk : PE X pk (LE F Wx false (evE W k))) :
    PS X (.Assign [.Subscript po pk ps'] p pos) (LS F Wx (exS W (.seti (.cl eo) k e))) := by
  refine PS_imp (ps_asg he (pg_sub ho hk set_list ha) (sole_ok hs _ _) rfl rfl) fun Dn σ H h => ?_
  obtain ⟨ω, g, m, wr, S, h⟩ := h
  simp only [exec, ne, no, nk, Bool.or_self, Bool.false_eq_true, if_false] at h
  refine LG.of S (Fin.mono (fun v H1 hx => ?_) (FinS.of_bind (rel := VRel F false) S h))
  obtain ⟨ω1, d, m1, e1, p1, r1, S1, h1⟩ := hx
  refine LG.of S1 (Fin.mono (fun ov H2 hx => ?_) (FinS.of_bind (rel := VRel F false) S1 h1))
  obtain ⟨ω2, od, m2, e2, p2, r2, S2, h2⟩ := hx
  refine LG.of S2 (Fin.mono (fun kv H3 hx => ?_) (FinS.of_bind (rel := VRel F false) S2 h2))
  obtain ⟨ω3, kd, m3, e3, p3, r3, S3, h3⟩ := hx
  cases hc : asCell od with
  | none => simp only [hc] at h3; exact h3.elim
  | some r =>
    simp only [hc] at h3
    split at h3
    · rename_i xs hm
      cases hset : setN xs kd d with
      | none => simp only [hset] at h3; exact h3.elim
      | some xs' =>
        simp only [hset] at h3
        split at h3
        · rename_i hw
          have ro := Rep.stays (p3.stays S2.ce) _ _ r2.pure
          obtain ⟨hr, eo⟩ := VRel.cell hc (.inl ro : VRel F false ω3 H3 od ov)
          obtain ⟨vs, hv1, hv2⟩ := S3.ce.at_ r _ hm
          obtain ⟨ii, j, rfl, hj, rr⟩ := setN_sound hv2 r3.pure (Rep.stays (p3.stays S2.ce) _ _ (Rep.stays (p2.stays S1.ce) _ _ r1.pure)) hset
          obtain ⟨q1, q2⟩ := cell_upd S3 hm hw hv1 rr
          exact ⟨_, vs, ii, j, eo, rfl, hv1, hj, h3 ω3 σ _ q1 q2⟩
        · exact h3.elim
    · exact h3.elim
end
end Ev
end
section
set_option linter.all false
set_option autoImplicit false
set_option maxRecDepth 100000
/-! Ev, part R: loops. -/
namespace Ev
open PySem PySem.Spec PyProof.Rows L2

section
variable {X : Cx} {F : Fx} {W : Wd} {Wx : WX} {pos : Pos}
theorem aok_v {ω : Om} {m : M} {H : Hp} {σ : L2.St} {g : Ga} {p : Option Pl} {b : Addr} (S : Stt F ω g m σ H) (hp : ∀ i, p ≠ some (.sl i)) (h : AOk ω m g p b) : ¬ Vg ω g b := by
  rintro ⟨j, e, h1, h2⟩
  rcases h with h | ⟨q, d, rfl, h3, h4⟩
  · exact h (by rw [← h2]; exact (S.sl.own j e h1).2.2.1)
  · cases q with
    | sl i => exact hp i rfl
    | ce r f => exact (S.sl.own j e h1).2.2.2 r f h3 (by rw [h2]; exact h4.symm)
theorem pov_hold {wr : Wr} {V V' A : Addr → Prop} {ω ω' : Om} {m m' : M} {H H' : Hp} (C : Cells F ω m H) (hV : ∀ b, V b → ω.B b) (p : PoV F wr V ω m H ω' m' H' V') (hA : ∀ b, A b → ¬ Ub ω m wr b) (hA2 : ∀ b, A b → ¬ V b) : Hold F A ω H ω' H' :=
  ⟨p.stays C hV, fun b hb o h nt => p.keep b o h (hA b hb) (hA2 b hb) nt⟩
theorem s_for {tg : Tg} {src : Src} {body : List St} {tgE iter : Expr} {pb : List Stmt} {t : TG} (hp : PassesOwn (model X.prog X.w) X.A X.env X.xe) (hc : X.calm = true) (pf : plainE iter = true) (hi : PI X tgE iter (LI F Wx W src)) (hg : PG X tgE t) (hG : GOk F t tg)
    (hb : PSs X pb (LS F Wx (exL W body))) : PS X (.For tgE iter pb [] pos) (LS F Wx (exS W (.for tg src body))) := by
  refine PS_imp (ps_for hp hc hi hg hb (plain_fold pf _)) fun Dn σ H h => ?_
  obtain ⟨ω, g, m, wr, S, h⟩ := h
  simp only [exec] at h
  refine LG.of (wr := wr) S ?_
  show Fin F Wx wr σ (RelI F) _ ω m H (evSx W src wr g m)
  simp only [evSx]
  have hh := FinS.of_bind (rel := fun _ _ (_ : List D × Option Pl) (_ : Unit) => True) S h
  cases hs : evS W src wr g m with
  | stuck => rw [hs] at h; exact h
  | exc c m' => rw [hs] at hh; exact hh
  | ok r m1 =>
    obtain ⟨xs, p⟩ := r
    rw [hs] at hh
    simp only [R.bind_ok]
    intro ω1 J H1 p1 hr
    obtain ⟨A, hA, wk⟩ := hr
    have hA : ∀ b, A b → AOk ω1 m1 g p b ∧ ∃ o, H1 b = some o ∧ ∀ ps, o ≠ .tbl ps := hA
    have wk : Walk F A ω1 H1 J xs := wk
    have S1 := S.po p1
    rw [hs] at h
    simp only [RS.of_ok] at h
    have h1 := FinS.shift (PoV.of p1 (V := Vg ω g) (V' := Vg ω1 g) (fun b hb => by rw [Vg.po p1] at hb; exact hb)) h
    have hps : ∀ i, p ≠ some (.sl i) := fun i e => by
      rw [e] at h1
      exact h1.elim
    let wr' := lockW wr p
    have hwr : ∀ q, wr' q = true → wr q = true := lockW_le wr p
    have h1 : FinS F Wx wr' Dn (Vg ω1 g) ω1 m1 H1 (forL tg (fun g m => execL W body wr' g m) xs g m1) := by
      refine FinS.weak hwr ?_
      cases p with
      | none => exact h1
      | some q =>
        cases q with
        | sl i => exact absurd rfl (hps i)
        | ce r f => exact h1
    have hU : ∀ b, A b → ¬ Ub ω1 m1 wr' b := fun b hb => aok_ub S1 (hA b hb).1
    have hU2 : ∀ b, A b → ¬ Vg ω1 g b := fun b hb => aok_v S1 hps (hA b hb).1
    refine ⟨fun i k σ2 H2 => k = xs.length - i ∧ i ≤ xs.length ∧ ∃ ω2 g2 m2, PoV F wr' (Vg ω1 g) ω1 m1 H1 ω2 m2 H2 (Vg ω2 g2) ∧ Stt F ω2 g2 m2 σ2 H2 ∧ FinS F Wx wr' Dn (Vg ω2 g2) ω2 m2 H2 (forL tg (fun g m => execL W body wr' g m) (xs.drop i) g2 m2), ⟨xs.length, rfl, Nat.zero_le _, ω1, g, m1, PoV.refl S1.ce S1.tb, S1, h1⟩, ?_⟩
    rintro i k σ2 H2 ⟨rfl, hi, ω2, g2, m2, p2, S2, hf⟩
    have hold : Hold F A ω1 H1 ω2 H2 := pov_hold S1.ce S1.sl.vb p2 hU hU2
    by_cases hlt : i < xs.length
    · refine .inr ⟨wk.go ω2 H2 i hold hlt, fun σ3 H3 => (i + 1) ≤ xs.length ∧ ∃ ω2 g2 m2, PoV F wr' (Vg ω1 g) ω1 m1 H1 ω2 m2 H3 (Vg ω2 g2) ∧ Stt F ω2 g2 m2 σ3 H3 ∧ FinS F Wx wr' Dn (Vg ω2 g2) ω2 m2 H3 (forL tg (fun g m => execL W body wr' g m) (xs.drop (i + 1)) g2 m2), ?_, ?_⟩
      · rintro σ' H' ⟨h3, h4⟩
        exact ⟨xs.length - (i + 1), by omega, rfl, h3, h4⟩
      · intro x H3 hy
        obtain ⟨d, ω3, e1, p3, r3⟩ := wk.yld wr' ω2 m2 H2 i x H3 hold S2.ce S2.tb hlt hy
        have S3 := S2.po p3
        have hV3 : Vg ω3 g2 = Vg ω2 g2 := Vg.po p3
        have q3 : PoV F wr' (Vg ω2 g2) ω2 m2 H2 ω3 m2 H3 (Vg ω3 g2) := PoV.of p3 fun b hb => by rw [hV3] at hb; exact hb
        rw [drop_cons e1] at hf
        simp only [forL] at hf
        cases hbd : bindT tg d g2 with
        | none => simp only [hbd] at hf; exact hf.elim
        | some g' =>
          simp only [hbd] at hf
          refine hG ω3 H3 g2 m2 σ2 d x g' _ S3.sl r3 hbd fun σ' S' _ _ => ?_
          have St' : Stt F ω3 g' m2 σ' H3 := ⟨S', S3.ce, S3.tb⟩
          have q4 : PoV F wr' (Vg ω2 g2) ω2 m2 H2 ω3 m2 H3 (Vg ω3 g') := PoV.of p3 fun b hb => by
            have := vg_bind tg d g2 g' hbd ω3 b hb
            rw [hV3] at this
            exact this
          refine LS.of (wr := wr') St' ?_
          have hf := FinS.then (FinS.shift q4 hf)
          show FinS F Wx wr' _ _ ω3 m2 H3 (execL W body wr' g' m2)
          cases hx : execL W body wr' g' m2 with
          | stuck => rw [hx] at hf; exact hf
          | exc c g5 m5 => rw [hx] at hf; exact hf
          | rt d5 m5 => rw [hx] at hf; exact hf
          | nx g5 m5 =>
            rw [hx] at hf
            intro ω5 σ5 H5 p5 S5
            obtain ⟨ω6, g6, m6, e6, p6, S6, h6⟩ := hf ω5 σ5 H5 p5 S5
            cases e6
            exact ⟨hlt, ω6, _, _, (p2.trans q4).trans p6, S6, h6⟩
    · have hi2 : i = xs.length := by omega
      subst hi2
      refine .inl ⟨wk.stop ω2 H2 hold, ?_⟩
      rw [List.drop_length] at hf
      exact FinS.nx hf S2 fun b z => z
/-- while -/
theorem s_whl {t : Ex} {body : List St} {c : Expr} {pb : List Stmt} (hp : PassesOwn (model X.prog X.w) X.A X.env X.xe) (ht : PT X c (LT F Wx (evE W t))) (hb : PSs X pb (LS F Wx (exL W body))) : PS X (.While c pb [] pos) (LS F Wx (exS W (.whl t body))) := by
  refine PS_imp (ps_while hp ht hb) fun Dn σ H h => ?_
  obtain ⟨ω, g, m, wr, S, h⟩ := h
  simp only [exec] at h
  refine ⟨fun n σ2 H2 => ∃ ω2 g2 m2, Stt F ω2 g2 m2 σ2 H2 ∧ FinS F Wx wr Dn (Vg ω2 g2) ω2 m2 H2 (whlL (fun g m => ev W t wr g m) (fun g m => execL W body wr g m) n g2 m2), ⟨W.fuel, ω, g, m, S, h⟩, ?_⟩
  rintro n σ2 H2 ⟨ω2, g2, m2, S2, hf⟩
  cases n with
  | zero => exact hf.elim
  | succ n =>
    simp only [whlL] at hf
    refine LG.of (wr := wr) S2 ?_
    show Fin F Wx wr σ2 RelB _ ω2 m2 H2 (asB (ev W t wr g2 m2))
    have hh := FinS.of_bind (rel := fun _ _ (_ : D) (_ : V) => True) S2 hf
    cases hx : ev W t wr g2 m2 with
    | stuck => rw [hx] at hf; exact hf
    | exc c m' => rw [hx] at hh; exact hh
    | ok d m' =>
      rw [hx] at hf
      simp only [RS.of_ok] at hf
      cases d with
      | bool k =>
        intro ω' v H' p r
        rw [show v = k by cases r; rfl]
        have S3 := S2.po p
        have h3 := FinS.shift (PoV.of p (V := Vg ω2 g2) (V' := Vg ω' g2) (fun b hb => by rw [Vg.po p] at hb; exact hb)) hf
        cases k with
        | true =>
          refine iteT ⟨fun σ5 H5 => ∃ ω2 g2 m2, Stt F ω2 g2 m2 σ5 H5 ∧ FinS F Wx wr Dn (Vg ω2 g2) ω2 m2 H5 (whlL (fun g m => ev W t wr g m) (fun g m => execL W body wr g m) n g2 m2), fun σ' H' z => ⟨n, Nat.lt_succ_self _, z⟩, ?_⟩
          refine LS.of (wr := wr) S3 ?_
          have h4 := FinS.then h3
          show FinS F Wx wr _ _ ω' m' H' (execL W body wr g2 m')
          cases hx2 : execL W body wr g2 m' with
          | stuck => rw [hx2] at h4; exact h4
          | exc c g5 m5 => rw [hx2] at h4; exact h4
          | rt d5 m5 => rw [hx2] at h4; exact h4
          | nx g5 m5 =>
            rw [hx2] at h4
            intro ω5 σ5 H5 p5 S5
            obtain ⟨ω6, g6, m6, e6, p6, S6, h6⟩ := h4 ω5 σ5 H5 p5 S5
            cases e6
            exact ⟨ω6, _, _, S6, h6⟩
        | false => exact iteF (FinS.nx h3 S3 fun b z => z)
      | _ => exact hf.elim
end
end Ev
end
section
set_option linter.all false
set_option autoImplicit false
set_option maxRecDepth 100000
/-! Ev, part S: calls, defs. -/
namespace Ev
open PySem PySem.Spec PyProof.Rows L2

/-- a def's promise -/
def spOf (F : Fx) (n : Nat) (sem : Wr → List D → M → R D) : Sp := fun vs H Q E => vs.length = n ∧ ∃ ω m wr ds, Cells F ω m H ∧ TabInv F H ∧ Reps F ω H ds vs ∧
  Fin F (fun cls _ _ H' => E cls none H') wr [] (VRel F false) Q ω m H (sem wr ds m)
theorem Fin.sig {α β : Type} {F : Fx} {Wx Wx' : WX} {wr : Wr} {σ σ' : L2.St} {rel : Om → Hp → α → β → Prop} {Q : β → Hp → Prop} {ω : Om} {m : M} {H : Hp} (k : ∀ c H, Wx (.ref (F.xa c)) none σ H → Wx' (.ref (F.xa c)) none σ' H) : ∀ {r : R α}, Fin F Wx wr σ rel Q ω m H r → Fin F Wx' wr σ' rel Q ω m H r
  | .stuck, h => h
  | .ok d m', h => h
  | .exc c m', h => fun ω' H' p => k c H' (h ω' H' p)
section
variable {X : Cx} {F : Fx} {W : Wd} {Wx : WX} {pos : Pos}
theorem call_core {f n : Nat} {es : List Ex} {σ : L2.St} {H : Hp} {Q : VK} (hn : es.length = n) (h : LE F Wx false (evE W (.call f es)) σ H Q) : LA F Wx (evLs W es) σ H fun vs H1 => spOf F n (W.call f) vs H1 Q (WE Wx σ) := by
  obtain ⟨ω, g, m, wr, S, h⟩ := h
  simp only [evE, ev] at h
  refine LG.of S (Fin.mono (fun vs H1 hx => ?_) (Fin.bind (rel := Reps F) S.ce h))
  obtain ⟨ω1, ds, m1, e1, p1, r1, h1⟩ := hx
  exact ⟨by rw [r1.length, evL_len _ _ _ _ _ e1, hn], ω1, m1, wr, ds, p1.cells, p1.tabs, r1, Fin.sig (fun _ _ z => z) h1⟩
theorem s_call {f n k : Nat} {fa : Addr} {fd : FuncData} {ps : List Str} {x : Str} {e : Ex} {es : List Ex} {p : Expr} {pes : List Expr} {np : Pos} (hn : (e :: es).length = n) (FK : FnOk X.prog X.w X.K X.mg X.base (L2.CX X.prog X.w) k fa fd ps (spOf F n (W.call f))) (hr : Room k X.A) (hg : Gl X x) (hm : X.mg x = some (.ref fa)) (hk : PySem.W.keepIn X.K (.ref fa) = true) (hb : Binds X.K fd ps []) (tk : Takes X Wx)
    (ha : PA X (p :: pes) (LA F Wx (evLs W (e :: es)))) (hdb : (x == ("__debug__" : Str)) = false) (pp : (p :: pes).all plainE = true) :
    PE X (.Call (.Name x np) (p :: pes) [] pos) (LE F Wx false (evE W (.call f (e :: es)))) := by
  rw [List.all_cons, Bool.and_eq_true] at pp
  exact PE_imp (pe_callS FK hr hg hm hk hb (passAt tk) ha hdb (plain_star pp.1 _ _) (plain_any _ _ pp.2)) fun σ H Q h => call_core hn h
theorem s_call0 {f k : Nat} {fa : Addr} {fd : FuncData} {x : Str} {np : Pos} (FK : FnOk X.prog X.w X.K X.mg X.base (L2.CX X.prog X.w) k fa fd [] (spOf F 0 (W.call f))) (hr : Room k X.A) (hg : Gl X x) (hm : X.mg x = some (.ref fa)) (hk : PySem.W.keepIn X.K (.ref fa) = true) (hb : Binds X.K fd [] []) (tk : Takes X Wx)
    (hdb : (x == ("__debug__" : Str)) = false) : PE X (.Call (.Name x np) [] [] pos) (LE F Wx false (evE W (.call f []))) := by
  refine ⟨fun pins s σ H Q I h => ?_⟩
  have h := call_core (n := 0) rfl h
  obtain ⟨ω, g, m, wr, S, h⟩ := h
  simp only [evLs, evL] at h
  have h0 := h ω [] H (Po.refl S.ce S.tb) rfl
  refine wpAny_Call_Name_kw (ld_glob I hg hm ?_ hdb)
  exact PySem.W.callWith_K0 I.kIn hk (run_fnS (us := []) (E := WE Wx) FK hr hb (passAt tk σ) I .nil h0)

/-! ### defs -/
def ga0 (n : Nat) (ds : List D) : Ga := ds.map (fun d => some (false, d)) ++ List.replicate (n - ds.length) none
def semFn (W : Wd) (body : List St) (n : Nat) : Wr → List D → M → R D := fun wr ds m => match execL W body wr (ga0 n ds) m with
  | .nx _ m' => .ok .none m'
  | .rt d m' => .ok d m'
  | .exc c _ m' => .exc c m'
  | .stuck => .stuck
theorem ga0_get {n : Nat} {ds : List D} {i : Nat} {b : Bool} {d : D} (h : (ga0 n ds)[i]? = some (some (b, d))) : b = false ∧ ds[i]? = some d := by
  unfold ga0 at h
  by_cases hi : i < ds.length
  · rw [List.getElem?_append_left (by simpa using hi), List.getElem?_map] at h
    cases e : ds[i]? with
    | none => rw [e] at h; cases h
    | some x =>
      rw [e] at h
      cases h
      exact ⟨rfl, rfl⟩
  · rw [List.getElem?_append_right (by simpa using Nat.le_of_not_lt hi)] at h
    rw [List.getElem?_replicate] at h
    split at h <;> cases h
theorem ga0_sl {N : List Str} {ds : List D} {vs : List V} {ω : Om} {m : M} {H : Hp} (r : Reps F ω H ds vs) (hl : ds.length ≤ N.length) : SlRel F ω (ga0 N.length ds) m (L2.start N vs) H := by
  have no : ∀ {i : Nat} {d : D}, ¬ (ga0 N.length ds)[i]? = some (some (true, d)) := fun h => by
    obtain ⟨z, _⟩ := ga0_get h
    cases z
  refine ⟨?_, fun i d h => ?_, fun i d h => absurd h no, fun i d j e h => absurd h no⟩
  · simp only [ga0, L2.start, List.length_append, List.length_map, List.length_replicate, r.length]
  · obtain ⟨_, e⟩ := ga0_get h
    obtain ⟨v, e2, r2⟩ := r.get e
    refine ⟨v, ?_, r2⟩
    have hi := (List.getElem?_eq_some_iff.mp e2).1
    unfold L2.start
    rw [List.getElem?_append_left (by simpa using hi), List.getElem?_map, e2]
    rfl
def Om.slw (ω : Om) (s : Nat → Addr) : Om := { ω with sl := s }
theorem stays_slw {ω : Om} {H : Hp} {s : Nat → Addr} : Stays F ω (ω.slw s) H H := ⟨Nat.le_refl _, fun _ _ => rfl, fun b o h _ _ => .inl h, fun b o _ hb z => hb z⟩
theorem Po.ofV {wr : Wr} {V V' : Addr → Prop} {ω ω' : Om} {m m' : M} {H H' : Hp} (hV : ∀ b, ¬ V b) (p : PoV F wr V ω m H ω' m' H' V') : Po F wr ω m H (ω'.slw ω.sl) m' H' :=
  ⟨p.le, p.ad, rfl, ⟨fun b o h hu nt => p.keep b o h hu (hV b) nt, p.tab, p.nb, fun b o h hb => p.pb b o h hb (hV b), p.st⟩, p.aq, p.cells.stays stays_slw rfl rfl (fun _ _ _ h => h) (fun _ _ h _ => h), p.tabs⟩
/-- a def's body keeps the promise -/
theorem body_core {body : List St} {N : List Str} {n : Nat} {vs : List V} {H : Hp} {Q : VK} {E : XK} (hn : n ≤ N.length) (h : spOf F n (semFn W body N.length) vs H Q E) :
    LS F (fun cls d _ H' => E cls d H') (exL W body) { nx := fun _ H' => Q .non H', rt := Q } (L2.start N vs) H := by
  obtain ⟨hl, ω, m, wr, ds, C, T, r, h⟩ := h
  have S : Stt F ω (ga0 N.length ds) m (L2.start N vs) H := ⟨ga0_sl r (by rw [← r.length, hl]; exact hn), C, T⟩
  have hV : ∀ b, ¬ Vg ω (ga0 N.length ds) b := by
    rintro b ⟨i, d, e, _⟩
    obtain ⟨z, _⟩ := ga0_get e
    cases z
  refine LS.of (wr := wr) S ?_
  show FinS F _ wr _ _ ω m H (execL W body wr (ga0 N.length ds) m)
  unfold semFn at h
  cases hx : execL W body wr (ga0 N.length ds) m with
  | stuck => simp only [hx] at h; exact h
  | nx g' m' =>
    simp only [hx] at h
    exact fun ω' σ' H' p S' => h _ .non H' (Po.ofV hV p) (.inl rfl)
  | rt d m' =>
    simp only [hx] at h
    exact fun ω' v H' p r => h _ v H' (Po.ofV hV p) (.inl (Rep.stays stays_slw _ _ r))
  | exc c g' m' =>
    simp only [hx] at h
    exact fun ω' σ' H' p S' => h _ H' (Po.ofV hV p)
end
end Ev
end
section
set_option linter.all false
set_option autoImplicit false
set_option maxRecDepth 100000
/-! Ev, part T: built-in functions. -/
namespace Ev
open PySem PySem.Spec PyProof.Rows L2

theorem preSum_getD (ns : List Int) : ∀ j, preSum (fun i => ns.getD i 0) j = (ns.take j).sum
  | 0 => by simp [preSum]
  | j + 1 => by
    rw [preSum, preSum_getD ns j]
    by_cases h : j < ns.length
    · rw [List.take_add_one, List.getElem?_eq_getElem h, List.sum_append]
      simp [List.getD_eq_getElem?_getD, List.getElem?_eq_getElem h]
    · have h2 : ns.length ≤ j := by omega
      rw [List.take_of_length_le h2, List.take_of_length_le (Nat.le_succ_of_le h2)]
      simp [List.getD_eq_getElem?_getD, List.getElem?_eq_none h2]
section
variable {X : Cx} {F : Fx} {W : Wd} {Wx : WX} {pos : Pos}
def rSumT (K : PySem.W.Frag) : List V → Hp → VK → Prop := fun vs H Q => ∃ (a : Addr) (ns : List Int), vs = [V.ref a] ∧ SqT K H a (ns.map V.int) ∧ Q (.int ns.sum) H
theorem cr_sumT (hc : X.calm = true) : CallR X (.builtin "sum") (rSumT X.K) := by
  intro pins s σ H vs us Q I r h
  obtain ⟨a, ns, rfl, hs, q⟩ := h
  obtain ⟨its, rv, ht, _⟩ := I.tuple hs
  rw [Vals.ref1 r]
  have hl : its.length = ns.length := by rw [← rv.length, List.length_map]
  refine call_sum_walkAnyS (PySem.W.iter_tupleW (A := X.A.in1) (I.ok.hd hc) (show s.heap.IsTuple a its.toArray from ht) fun s₂ e Wk st hfp hw hk => ?_)
  refine ⟨_, _, _, _, _, _, _, fun i => ns.getD i 0, rfl, Wk, st, hfp, fun i v hv => ?_, fun s' t' hm => ?_⟩
  · have hv : its.toArray[i]? = some v := hv
    rw [List.getElem?_toArray] at hv
    have hi : i < ns.length := by rw [← hl]; exact (List.getElem?_eq_some_iff.mp hv).1
    obtain ⟨u, hu, ru⟩ := rv.get (i := i) (x := .int ns[i]) (by rw [List.getElem?_map, List.getElem?_eq_getElem hi]; rfl)
    rw [hv] at hu
    cases hu
    obtain ⟨t, rfl⟩ := ru
    exact ⟨t, by simp [List.getD_eq_getElem?_getD, List.getElem?_eq_getElem hi]⟩
  · obtain ⟨h', tk, rfl, hold⟩ := PySem.W.moved_old e rfl hm
    refine ⟨.int ns.sum, H, I.kept hold, ⟨t', ?_⟩, q⟩
    rw [preSum_getD, List.take_of_length_le (by simp [hl])]
/-- a built-in's rule says what semBi says -/
def BiOk (X : Cx) (F : Fx) (b : Bi) (n : Nat) (r : List V → Hp → VK → Prop) : Prop := ∀ (wr : Wr) (ω : Om) (m : M) (H : Hp) (vs : List V) (ds : List D) (d : D) (Q : VK), ds.length = n → Cells F ω m H → TabInv F H →
  (Reps F ω H ds vs ∨ ∃ dx x, ds = [dx] ∧ vs = [x] ∧ VRel F true ω H dx x) → semBi b ds = some d → (∀ ω' v H', Po F wr ω m H ω' m H' → Rep F ω' H' d v → Q v H') → r vs H Q
theorem bi1_core {b : Bi} {r : List V → Hp → VK → Prop} {e : Ex} {σ : L2.St} {H : Hp} {Q : VK} (hb : BiOk X F b 1 r) (h : LE F Wx false (evE W (.bi b [e])) σ H Q) : LE F Wx (isB e) (evE W e) σ H fun x H1 => r [x] H1 Q := by
  obtain ⟨ω, g, m, wr, S, h⟩ := h
  simp only [evE, ev] at h
  refine LG.of S (Fin.mono (fun x H1 hx => ?_) (Fin.bind (rel := VRel F (isB e)) S.ce h))
  obtain ⟨ω1, dx, m1, e1, p1, r1, h1⟩ := hx
  obtain ⟨d, e2, q⟩ := h1.of
  have r2 : VRel F true ω1 H1 dx x := by
    rcases r1 with r1 | ⟨_, r1⟩
    · exact .inl r1
    · exact .inr ⟨rfl, r1⟩
  exact hb wr ω1 m1 H1 [x] [dx] d Q rfl p1.cells p1.tabs (.inr ⟨dx, x, rfl, rfl, r2⟩) e2 fun ω' v H' p r => q ω' v H' p (.inl r)
theorem bi2_core {b : Bi} {r : List V → Hp → VK → Prop} {e e2 : Ex} {es : List Ex} {σ : L2.St} {H : Hp} {Q : VK} (hb : BiOk X F b (e :: e2 :: es).length r) (h : LE F Wx false (evE W (.bi b (e :: e2 :: es))) σ H Q) : LA F Wx (evLs W (e :: e2 :: es)) σ H fun vs H1 => r vs H1 Q := by
  obtain ⟨ω, g, m, wr, S, h⟩ := h
  have e0 : evE W (.bi b (e :: e2 :: es)) wr g m = (evLs W (e :: e2 :: es) wr g m).bind fun xs m1 => R.of (semBi b xs) m1 := by simp only [evE, ev, evLs]
  rw [e0] at h
  refine LG.of S (Fin.mono (fun x H1 hx => ?_) (Fin.bind (rel := Reps F) S.ce h))
  obtain ⟨ω1, ds, m1, e1, p1, r1, h1⟩ := hx
  obtain ⟨d, e3, q⟩ := h1.of
  exact hb wr ω1 m1 H1 x ds d Q (evL_len _ _ _ _ _ e1) p1.cells p1.tabs (.inl r1) e3 fun ω' v H' p r => q ω' v H' p (.inl r)
/-- one argument -/
theorem bi_val {ω : Om} {H : Hp} {vs : List V} {ds : List D} (h : Reps F ω H ds vs ∨ ∃ dx x, ds = [dx] ∧ vs = [x] ∧ VRel F true ω H dx x) {dx : D} (e : ds = [dx]) : ∃ x, vs = [x] ∧ VRel F true ω H dx x := by
  subst e
  rcases h with ⟨v, r, rfl, h1, h2⟩ | ⟨dy, x, e1, rfl, h⟩
  · have h2 : r = [] := h2
    subst h2
    exact ⟨v, rfl, .inl h1⟩
  · cases e1
    exact ⟨x, rfl, h⟩
theorem Reps.intsV {ω : Om} {H : Hp} : ∀ {xs : List D} {ns : List Int} {vs : List V}, intsOf xs = some ns → Reps F ω H xs vs → vs = ns.map V.int
  | [], ns, vs, e, h => by
    cases e
    exact h
  | d :: ds, ns, vs, e, h => by
    obtain ⟨v, r, rfl, h1, h2⟩ := h
    cases d with
    | int i =>
      simp only [intsOf] at e
      cases e2 : intsOf ds with
      | none => rw [e2] at e; cases e
      | some ms =>
        rw [e2] at e
        cases e
        have h1 : v = .int i := h1
        rw [h1, Reps.intsV e2 h2]
        rfl
    | _ => simp [intsOf] at e
theorem max_fold : ∀ (r : List Int) (n m : Int), m ∈ n :: r → (∀ y ∈ n :: r, y ≤ m) → m = r.foldl dMax n
  | [], n, m, h1, h2 => by simpa using h1
  | y :: r, n, m, h1, h2 => by
    rw [List.foldl_cons]
    refine max_fold r (dMax n y) m ?_ ?_
    · have hn := h2 n (by simp)
      have hy := h2 y (by simp)
      rcases List.mem_cons.mp h1 with rfl | h1
      · refine List.mem_cons.mpr (.inl ?_)
        unfold dMax
        split <;> omega
      · rcases List.mem_cons.mp h1 with rfl | h1
        · refine List.mem_cons.mpr (.inl ?_)
          unfold dMax
          split <;> omega
        · exact List.mem_cons_of_mem _ h1
    · intro z hz
      rcases List.mem_cons.mp hz with rfl | hz
      · unfold dMax
        split
        · exact h2 y (by simp)
        · exact h2 n (by simp)
      · exact h2 z (by simp [hz])
theorem bi_len (hK : X.K = F.K) : BiOk X F .len 1 (fun xs H Q => ∃ x n, xs = [x] ∧ LenV X.K x H n ∧ Q (.int n) H) := by
  intro wr ω m H vs ds d Q hl C T h e q
  have q0 : ∀ {v : V}, Rep F ω H d v → Q v H := fun r => q ω _ H (Po.refl C T) r
  unfold semBi at e
  split at e <;> first | contradiction | (try cases e)
  · obtain ⟨x, rfl, hx⟩ := bi_val h rfl
    obtain ⟨a, vs, rfl, h1, h2⟩ := hx.list
    exact ⟨_, _, rfl, .inl ⟨vs, SqL.of h1, h2.length.symm⟩, q0 rfl⟩
  · obtain ⟨x, rfl, hx⟩ := bi_val h rfl
    obtain ⟨a, vs, rfl, h1, h2⟩ := hx.tup
    exact ⟨_, _, rfl, .inr ⟨vs, by rw [hK]; exact h1.sq, h2.length.symm⟩, q0 rfl⟩
  · split at e
    · cases e
      rename_i hz
      obtain ⟨x, rfl, hx⟩ := bi_val h rfl
      rw [hx.str]
      exact ⟨_, _, rfl, ⟨hz, rfl⟩, q0 rfl⟩
    · cases e
theorem bi_abs : BiOk X F .abs 1 (fun xs H Q => ∃ i, xs = [.int i] ∧ Q (.int (if i < 0 then -i else i)) H) := by
  intro wr ω m H vs ds d Q hl C T h e q
  have q0 : ∀ {v : V}, Rep F ω H d v → Q v H := fun r => q ω _ H (Po.refl C T) r
  unfold semBi at e
  split at e <;> first | contradiction | (try cases e)
  obtain ⟨x, rfl, hx⟩ := bi_val h rfl
  exact ⟨_, by rw [hx.int], q0 rfl⟩
theorem bi_int : BiOk X F .int 1 (fun xs H Q => (∃ i, xs = [.int i] ∧ Q (.int i) H) ∨ ∃ k, xs = [.bl k] ∧ Q (.int (if k then 1 else 0)) H) := by
  intro wr ω m H vs ds d Q hl C T h e q
  have q0 : ∀ {v : V}, Rep F ω H d v → Q v H := fun r => q ω _ H (Po.refl C T) r
  unfold semBi at e
  split at e <;> first | contradiction | (try cases e)
  · obtain ⟨x, rfl, hx⟩ := bi_val h rfl
    exact .inl ⟨_, by rw [hx.int], q0 rfl⟩
  · obtain ⟨x, rfl, hx⟩ := bi_val h rfl
    exact .inr ⟨_, by rw [hx.bool], q0 rfl⟩
theorem two_ints {ω : Om} {H : Hp} {vs : List V} {i j : Int} (h : Reps F ω H [.int i, .int j] vs ∨ ∃ dx x, ([.int i, .int j] : List D) = [dx] ∧ vs = [x] ∧ VRel F true ω H dx x) : vs = [.int i, .int j] := by
  rcases h with h | ⟨_, _, e, _⟩
  · exact ints2 h
  · cases e
theorem bi_max2 : BiOk X F .max2 2 (fun xs H Q => ∃ i j, xs = [.int i, .int j] ∧ Q (.int (if j > i then j else i)) H) := by
  intro wr ω m H vs ds d Q hl C T h e q
  unfold semBi at e
  split at e <;> first | contradiction | (try cases e)
  exact ⟨_, _, two_ints h, q ω _ H (Po.refl C T) rfl⟩
theorem bi_min2 : BiOk X F .min2 2 (fun xs H Q => ∃ i j, xs = [.int i, .int j] ∧ Q (.int (if j < i then j else i)) H) := by
  intro wr ω m H vs ds d Q hl C T h e q
  unfold semBi at e
  split at e <;> first | contradiction | (try cases e)
  exact ⟨_, _, two_ints h, q ω _ H (Po.refl C T) rfl⟩
theorem bi_max1 (hK : X.K = F.K) : BiOk X F .max1 1 (rMax X.K) := by
  intro wr ω m H vs ds d Q hl C T h e q
  unfold semBi at e
  split at e <;> first | contradiction | (try cases e)
  rename_i xs _
  cases hx : intsOf xs with
  | none => rw [hx] at e; cases e
  | some ns =>
    rw [hx] at e
    cases ns with
    | nil => cases e
    | cons n r =>
      cases e
      obtain ⟨x, rfl, hv⟩ := bi_val h rfl
      obtain ⟨a, us, rfl, h1, h2⟩ := hv.list
      rw [Reps.intsV hx h2] at h1
      refine ⟨a, n :: r, rfl, SqL.of h1, by simp, fun k hk1 hk2 => ?_⟩
      rw [max_fold r n k hk1 hk2]
      exact q ω _ H (Po.refl C T) rfl
theorem bi_sum (hK : X.K = F.K) : BiOk X F .sum1 1 (fun vs H Q => rSum X.K vs H Q ∨ rSumT X.K vs H Q) := by
  intro wr ω m H vs ds d Q hl C T h e q
  unfold semBi at e
  split at e <;> first | contradiction | (try cases e)
  · rename_i xs _
    cases hx : intsOf xs with
    | none => rw [hx] at e; cases e
    | some ns =>
      rw [hx] at e
      cases e
      obtain ⟨x, rfl, hv⟩ := bi_val h rfl
      obtain ⟨a, us, rfl, h1, h2⟩ := hv.list
      rw [Reps.intsV hx h2] at h1
      exact .inl ⟨a, ns, rfl, SqL.of h1, q ω _ H (Po.refl C T) rfl⟩
  · rename_i xs _
    cases hx : intsOf xs with
    | none => rw [hx] at e; cases e
    | some ns =>
      rw [hx] at e
      cases e
      obtain ⟨x, rfl, hv⟩ := bi_val h rfl
      obtain ⟨a, us, rfl, h1, h2⟩ := hv.tup
      rw [Reps.intsV hx h2] at h1
      exact .inr ⟨a, ns, rfl, by rw [hK]; exact h1.sq, q ω _ H (Po.refl C T) rfl⟩
theorem bi_tuple (hK : X.K = F.K) : BiOk X F .tuple 1 (fun xs H Q => ∃ p ys, xs = [.ref p] ∧ ((SqL X.K H p ys ∧ ∀ l, H l = none → Q (.ref l) (upd H l (.tup ys))) ∨ (SqT X.K H p ys ∧ Q (.ref p) H))) := by
  intro wr ω m H vs ds d Q hl C T h e q
  unfold semBi at e
  split at e <;> first | contradiction | (try cases e)
  · obtain ⟨x, rfl, hv⟩ := bi_val h rfl
    obtain ⟨a, us, rfl, h1, h2⟩ := hv.list
    refine ⟨a, us, rfl, .inl ⟨SqL.of h1, fun l hl => ?_⟩⟩
    have p := Po.new (wr := wr) (o := .tup us) C T hl
    exact q _ _ _ p ⟨l, us, rfl, .inl ⟨upd_same, fun z => z.2 rfl⟩, Reps.stays (p.stays C) _ _ h2⟩
  · obtain ⟨x, rfl, hv⟩ := bi_val h rfl
    obtain ⟨a, us, rfl, h1, h2⟩ := hv.tup
    exact ⟨a, us, rfl, .inr ⟨by rw [hK]; exact h1.sq, q ω _ H (Po.refl C T) ⟨a, us, rfl, h1, h2⟩⟩⟩
theorem bi_list (hK : X.K = F.K) : BiOk X F .list 1 (fun xs H Q => ∃ p ys, xs = [.ref p] ∧ (SqL X.K H p ys ∨ SqT X.K H p ys) ∧ ∀ l, H l = none → Q (.ref l) (upd H l (.lst ys))) := by
  intro wr ω m H vs ds d Q hl C T h e q
  unfold semBi at e
  split at e <;> first | contradiction | (try cases e)
  · obtain ⟨x, rfl, hv⟩ := bi_val h rfl
    obtain ⟨a, us, rfl, h1, h2⟩ := hv.list
    refine ⟨a, us, rfl, .inl (SqL.of h1), fun l hl => ?_⟩
    have p := Po.new (wr := wr) (o := .lst us) C T hl
    exact q _ _ _ p ⟨l, us, rfl, upd_same, fun z => z.2 rfl, Reps.stays (p.stays C) _ _ h2⟩
  · obtain ⟨x, rfl, hv⟩ := bi_val h rfl
    obtain ⟨a, us, rfl, h1, h2⟩ := hv.tup
    refine ⟨a, us, rfl, .inr (by rw [hK]; exact h1.sq), fun l hl => ?_⟩
    have p := Po.new (wr := wr) (o := .lst us) C T hl
    exact q _ _ _ p ⟨l, us, rfl, upd_same, fun z => z.2 rfl, Reps.stays (p.stays C) _ _ h2⟩
end
end Ev
end
section
set_option linter.all false
set_option autoImplicit false
set_option maxRecDepth 100000
set_option maxHeartbeats 1000000
/-! Ev, part GA: the context of a generator expression's block, and how it begins. -/
namespace Ev
open PySem PySem.Spec PyProof.Rows L2

/-- its context: woken under Ag by X's def, made at s -/
def gnCx (X : Cx) (Ag : Around) (s : Shared) (H : Hp) (cenv : Env) (fp : List Addr) (pn : List (Addr × Obj)) : Cx :=
  { X with A := Ag, s_0 := s, H_0 := H, env := cenv, outer := X.stack, stack := cenv :: X.stack, ex := fp, fn := fun _ => false, pn := pn, xe := fun _ _ => False }
/-- its names -/
structure GnOk (N : List Str) (sc scope : Scope) (own : List (Str × Nat)) : Prop extends BlkOk N sc scope own where
  co : scope.isCoroutine = false
  nocell : ∀ y ∈ scope.names, y.2 ≠ .cell
  dot : scope.names.lookup (".0" : Str) = some NameKind.local
def gnC (N : List Str) (sc scope : Scope) (own : List (Str × Nat)) : Bool :=
  blkC N sc scope own && !scope.isCoroutine && (scope.names.all fun y => !decide (y.2 = .cell)) && decide (scope.names.lookup (".0" : Str) = some NameKind.local)
theorem gnOk_by {N : List Str} {sc scope : Scope} {own : List (Str × Nat)} (h : gnC N sc scope own = true) : GnOk N sc scope own := by
  unfold gnC at h
  simp only [Bool.and_eq_true, Bool.not_eq_true', List.all_eq_true, decide_eq_true_eq, decide_eq_false_iff_not] at h
  obtain ⟨⟨⟨h1, h2⟩, h3⟩, h4⟩ := h
  exact ⟨blkOk_by h1, h2, h3, h4⟩
section
variable {X : Cx} {pins : List (Addr × Obj)} {σ : L2.St} {H : Hp} {s : Shared}
theorem gn_start {Ag : Around} {scope : Scope} {own : List (Str × Nat)} {fp : List Addr} {code : Value} {bi : Addr} {h' : Heap} {mm : Str → Option Value} {g' : Array GenState} {t' : Nat} {d' : Drawn} (I : Inv X pins σ H s) (ok : GnOk X.N X.env.scope scope own) (hN : X.N.Nodup) (hbi : bi = builtinsNs)
    (hfp : ∀ b ∈ fp, FpOk X pins H b ∧ b < s.heap.objs.size) (hd : Ag.handled = none) (hfr : Ag.frames = some (genEnv scope (cloFrom X.env.cells scope.names []) s.heap.objs.size code bi X.env :: X.stack))
    (hns : h'.Ns s.heap.objs.size mm) (kp : ∀ b o, s.heap.get? b = some o → h'.get? b = some o) (hg : AllBare g') :
    Inv (gnCx X Ag s H (genEnv scope (cloFrom X.env.cells scope.names []) s.heap.objs.size code bi X.env) fp []) [] (L2.wipe σ (own.map (·.2))) H { s with heap := h', gens := g', drawn := d', toks := t' } := by
  have hfree : ∀ y ∈ scope.names, y.2 = .free → ∃ c, X.env.cells.lookup y.1 = some c := fun y hy e => by
    rcases ok.free y hy e with k | k
    · exact I.ok.has _ (.inl k)
    · exact I.ok.has _ (.inr k)
  have cm : ∀ {y c}, (cloFrom X.env.cells scope.names []).lookup y = some c → X.env.cells.lookup y = some c := fun {y c} e => by
    rcases cloFrom_mem (PySem.mem_of_lookup e) with z | ⟨z1, z2⟩
    · cases z
    · obtain ⟨c', hc⟩ := hfree _ z1 rfl
      rw [hc] at z2
      rw [z2]
      exact hc
  have look : ∀ {y}, scope.names.lookup y = some .free → ∃ c, (cloFrom X.env.cells scope.names []).lookup y = some c := fun {y} hl => mem_lookup (cloFrom_has (cells := X.env.cells) (acc := []) (PySem.mem_of_lookup hl))
  have noC : ∀ {y}, scope.names.lookup y ≠ some .cell := fun {y} e => ok.nocell _ (PySem.mem_of_lookup e) rfl
  refine ⟨⟨I.ok.mod, ok.kind, I.ok.glob, hbi, Nat.le_refl _, fun y z c e1 e2 => I.ok.inj y z c (cm e1) (cm e2), fun y hy => ?_, fun y c z _ => ?_, fun _ => hd, hfr, .inr ⟨rfl, rfl⟩, fun b hb => ⟨?_, fun y c e z => ?_⟩, I.bs, Nat.le_trans I.ok.bsz I.sz, fun b o e hb => ?_, fun b hb z => ?_, I.stack, I.stkFree⟩,
    rfl, hg, Un.kept kp, ⟨_, hns, fun i y v e1 e2 e3 => ?_⟩, fun y c e => ?_, I.hok.fresh (Nat.le_refl _), fun y c e => I.freeC y c (cm e), fun q hq => ?_, I.hok.kept kp, by rw [wipe_length]; exact I.len⟩
  · have hy : scope.names.lookup y = some .cell ∨ scope.names.lookup y = some .free := hy
    rcases hy with hy | hy
    · exact absurd hy noC
    · exact look hy
  · have z : false = true := z
    cases z
  · exact Nat.ne_of_lt (hfp b hb).2
  · exact (hfp b hb).1.2.2.2.2.1 y c (cm e) z
  · rcases (hfp b hb).1.2.2.2.1 with z | z
    · exact I.ok.noex b o e z
    · exact absurd (Nat.lt_of_lt_of_le (Heap.lt_size e) (Nat.le_trans I.ok.bsz z)) (Nat.lt_irrefl _)
  · rcases List.mem_cons.mp (I.stkSub b z) with z | z
    · exact (hfp b hb).1.2.1 z
    · exact (hfp b hb).1.2.2.1 z
  · obtain ⟨e2, hne⟩ := wipe_some e2
    have e3 : Vis scope y := e3
    rcases e3 with k | k | k
    · rcases ok.own _ (PySem.mem_of_lookup k) (.inl rfl) with e' | e'
      · obtain ⟨p, hp, hpy⟩ := List.mem_map.mp e'
        have e4 := ok.ix p hp
        have : p.1 = y := hpy
        rw [this] at e4
        exact absurd (List.mem_map.mpr ⟨p, hp, nodup_ix hN e4 e1⟩) hne
      · exact absurd (List.mem_of_getElem? e1) e'
    · exact absurd k noC
    · obtain ⟨m, hn, hl⟩ := I.loc
      have hvis : Vis X.env.scope y := (ok.free _ (PySem.mem_of_lookup k) rfl).elim (fun k => .inr (.inl k)) (fun k => .inr (.inr k))
      obtain ⟨w', r, q⟩ := hl i y v e1 e2 hvis
      obtain ⟨c2, h2⟩ := look k
      refine ⟨w', r, .inr ⟨.inr k, c2, h2, ?_⟩⟩
      have c1 := cm h2
      rcases q with ⟨k', _⟩ | ⟨_, c3, e', z⟩
      · have k' : X.env.scope.names.lookup y = some .local := k'
        rcases ok.free _ (PySem.mem_of_lookup k) rfl with k2 | k2 <;> rw [show X.env.scope.names.lookup y = _ from k2] at k' <;> cases k'
      · rw [c1] at e'
        cases e'
        exact z.keeps kp
  · obtain ⟨w', z⟩ := I.cell y c (cm e)
    exact ⟨w', z.keeps kp⟩
  · exact absurd (show q ∈ ([] : List (Addr × Obj)) ++ [] from hq) (by simp)
/-- under another around -/
theorem Inv.gnA {Ag Ag' : Around} {s0 : Shared} {H0 : Hp} {cenv : Env} {fp : List Addr} {pn pl : List (Addr × Obj)} (I : Inv (gnCx X Ag s0 H0 cenv fp pn) pl σ H s) (hd : Ag'.handled = none) (hfr : Ag'.frames = some (cenv :: X.stack)) : Inv (gnCx X Ag' s0 H0 cenv fp pn) pl σ H s :=
  ⟨⟨I.ok.mod, I.ok.kind, I.ok.glob, I.ok.blt, I.ok.above, I.ok.inj, I.ok.has, I.ok.cab, fun _ => hd, hfr, I.ok.stk, I.ok.exf, I.ok.bs, I.ok.bsz, I.ok.noex, I.ok.exfs, I.ok.funs, I.ok.frf⟩, I.os, I.bare, I.base, I.loc, I.cell, I.free, I.freeC, I.pin, I.hok, I.len⟩
theorem over_comp {A : Around} {elt : Expr} {gens : List Comprehension} {sc : Scope} {pos : Pos} {it acc : Value} {env : Env} : A.over (.compLoop (.GeneratorExp elt gens sc pos) 0 it acc env) [] = A.deeper env := by
  obtain ⟨hd, d, fr, gs, u⟩ := A
  first
    | rfl
    | (cases fr <;> cases gs <;> rfl)
theorem over_start {A : Around} {elt : Expr} {gens : List Comprehension} {sc : Scope} {pos : Pos} {it acc : Value} {env : Env} : A.over (.compStart (.GeneratorExp elt gens sc pos) 0 it acc env) [] = A.deeper env := by
  obtain ⟨hd, d, fr, gs, u⟩ := A
  first
    | rfl
    | (cases fr <;> cases gs <;> rfl)
end
end Ev
end
section
set_option linter.all false
set_option autoImplicit false
set_option maxRecDepth 100000
set_option maxHeartbeats 1000000
/-! Ev, part GB: the turns of a generator expression's block. -/
namespace Ev
open PySem PySem.Spec PyProof.Rows L2

/-- where a generator expression stands: made at s0 under X, its iterator's objects at fp, itself in pn -/
structure GnW where
  X : Cx
  s0 : Shared
  H1 : Hp
  cenv : Env
  fp : List Addr
  pn : List (Addr × Obj)
  σ : L2.St
  tn : Nat → Heap → Prop
abbrev GnW.cx (G : GnW) (Ag : Around) : Cx := gnCx G.X Ag G.s0 G.H1 G.cenv G.fp G.pn
/-- what belongs to whom calls it -/
def Priv (G : GnW) (pl : List (Addr × Obj)) : Prop := ∀ p ∈ pl, G.s0.heap.objs.size ≤ p.1 ∧ (∀ q ∈ G.pn, q.1 ≠ p.1) ∧ ∀ v, p.2.data ≠ .cell v
structure GRest (G : GnW) (pl : List (Addr × Obj)) (i : Nat) (H : Hp) (s : Shared) : Prop where
  inv : ∀ Ag : Around, Ag.handled = none → Ag.frames = some (G.cenv :: G.X.stack) → Inv (G.cx Ag) pl G.σ H s
  tn : G.tn i s.heap
  nf : ∀ b ∈ G.fp, H b = none
  pv : Priv G pl
/-- it slept: whom it belongs to has changed its own things alone -/
structure Slp (pl pl' : List (Addr × Obj)) (s s' : Shared) : Prop where
  os : s'.os = s.os
  bare : AllBare s'.gens
  same : pl'.map (·.1) = pl.map (·.1)
  keep : ∀ b o, b ∉ pl.map (·.1) → s.heap.get? b = some o → s'.heap.get? b = some o
  at_ : ∀ p ∈ pl', s'.heap.get? p.1 = some p.2 ∧ ∀ v, p.2.data ≠ .cell v
theorem sh_eta' (s s' : Shared) (h : s'.os = s.os) : ({ s with heap := s'.heap, gens := s'.gens, drawn := s'.drawn, toks := s'.toks } : Shared) = s' := by
  cases s'
  cases h
  rfl
section
variable {G : GnW} {pl pl' : List (Addr × Obj)} {i : Nat} {H : Hp} {s s' : Shared}
theorem GRest.slp (R : GRest G pl i H s) (z : Slp pl pl' s s') (hfp : ∀ b ∈ G.fp, b < G.s0.heap.objs.size) (tk : ∀ i h h', G.tn i h → (∀ b ∈ G.fp, ∀ o, h.get? b = some o → h'.get? b = some o) → G.tn i h') : GRest G pl' i H s' := by
  have mem : ∀ {b}, b ∈ pl.map (·.1) → ∃ o, (b, o) ∈ pl := fun {b} h => by
    obtain ⟨p, hp, rfl⟩ := List.mem_map.mp h
    exact ⟨p.2, hp⟩
  have pv' : Priv G pl' := fun p hp => by
    have hm : p.1 ∈ pl.map (·.1) := by rw [← z.same]; exact List.mem_map.mpr ⟨p, hp, rfl⟩
    obtain ⟨o, ho⟩ := mem hm
    obtain ⟨h1, h2, _⟩ := R.pv _ ho
    exact ⟨h1, h2, (z.at_ p hp).2⟩
  refine ⟨fun Ag hd hfr => ?_, ?_, R.nf, pv'⟩
  · have I := R.inv Ag hd hfr
    have I0 : Inv (G.cx Ag) [] G.σ H s := I.pins_of fun p hp => absurd hp (by simp)
    have nH : ∀ b ∈ pl.map (·.1), H b = none ∧ b ≠ G.cenv.locals := fun b hb => by
      obtain ⟨o, ho⟩ := mem hb
      obtain ⟨_, h2, h3, _, _⟩ := I.pin (b, o) (List.mem_append_right _ ho)
      exact ⟨h2, h3⟩
    have notP : ∀ b u, H b = some u → b ∉ pl.map (·.1) := fun b u e hb => by rw [(nH b hb).1] at e; cases e
    have hL : ∀ m, s.heap.Ns G.cenv.locals m → s'.heap.Ns G.cenv.locals m := fun m ⟨o, es, ep, ho, r⟩ => ⟨o, es, ep, z.keep _ o (fun hb => (nH _ hb).2 rfl) ho, r⟩
    have J := I0.step (g' := s'.gens) (t' := s'.toks) (d' := s'.drawn) (h' := s'.heap) (H' := H) (ch := pl.map (·.1)) (fun b hb => by
        obtain ⟨o, ho⟩ := mem hb
        obtain ⟨h1, h2, h3⟩ := R.pv _ ho
        obtain ⟨e1, e2, e3, e4, e5⟩ := I.pin (b, o) (List.mem_append_right _ ho)
        refine ⟨.inr h1, e3, fun x c hc hcb => ?_, fun p hp => ?_⟩
        · obtain ⟨v, oc, hoc, hdc⟩ := I.cell x c hc
          rw [hcb, e1] at hoc
          cases hoc
          exact e5 _ hdc
        · have hp : p ∈ G.pn ++ [] := hp
          rw [List.append_nil] at hp
          exact h2 p hp)
      (fun b o _ _ hc e _ => z.keep b o hc e) (fun b o _ _ hc e _ => ⟨o.slots, z.keep b o hc e⟩) (fun _ _ _ _ n => n) (fun b o hc e => ⟨o, z.keep b o hc e⟩) (fun _ _ e => e) (fun _ _ _ e => e) (fun b ps e => ⟨#[], by rw [e]; simp⟩) hL
      (fun b u e => (I.hok b u e).stay (fun c v hc q => z.keep c v (by
          rcases hc with w | w
          · rw [w]; exact notP b u e
          · exact notP c _ w) q) (fun _ q => q) fun _ _ q => q) z.bare
    rw [sh_eta' s s' z.os] at J
    refine J.pins_of fun p hp => ?_
    have hm : p.1 ∈ pl.map (·.1) := by rw [← z.same]; exact List.mem_map.mpr ⟨p, hp, rfl⟩
    obtain ⟨o, ho⟩ := mem hm
    obtain ⟨e1, e2, e3, e4, e5⟩ := I.pin (p.1, o) (List.mem_append_right _ ho)
    exact ⟨(z.at_ p hp).1, e2, e3, e4, (z.at_ p hp).2⟩
  · refine tk _ _ _ R.tn fun b hb o e => z.keep b o (fun hm => ?_) e
    obtain ⟨o', ho⟩ := mem hm
    exact Nat.lt_irrefl _ (Nat.lt_of_lt_of_le (hfp b hb) (R.pv _ ho).1)
end
/-- what is read of the turns: ys handed out so far -/
structure GnR where
  J : It
  len : Nat
  Acc : List V → List (Addr × Obj) → Prop
  P : List V → Nat → Hp → Prop
  Yd : List V → V → Nat → Hp → Prop
  Fi : List V → Hp → Prop
def GnEnd (G : GnW) (r : GnR) : Nat → Shared → Shared → Prop := fun _ s₀ s1 => ∃ (ys : List V) (H : Hp) (pl : List (Addr × Obj)), (∀ p ∈ pl, s₀.heap.get? p.1 = some p.2) ∧ r.Acc ys pl ∧ Priv G pl ∧ (∀ Ag : Around, Ag.handled = none → Ag.frames = some (G.cenv :: G.X.stack) → Inv (G.cx Ag) pl G.σ H s1) ∧ r.Fi ys H
def REx (G : GnW) (r : GnR) : GenEnd := fun n s₀ res s1 => ((res = .ok (.ret .none) ∨ res = .ok .next) ∧ GnEnd G r n s₀ s1) ∨ ∃ e, res = .error e ∧ False
def YEx (G : GnW) (r : GnR) : Protocol := fun n s₀ v s1 kap => ∃ ys y i H pl, (∀ p ∈ pl, s₀.heap.get? p.1 = some p.2) ∧ i < r.len ∧ RelV y v ∧ r.Acc ys pl ∧ GRest G pl (i + 1) H s1 ∧ r.Yd ys y i H ∧ (r.P (ys ++ [y]) (i + 1) H → ∀ pl' s'', r.Acc (ys ++ [y]) pl' → Slp pl pl' s1 s'' → kap (.send .none) s'')
/-- the reading of a turn -/
def GnT (X : Cx) (r : GnR) (g : TG) (tt : TT) (te : TE) (σ : L2.St) (vs : List Nat) : Prop :=
  (∀ ys H, r.P ys r.len H → r.J.stop r.len H ∧ r.Fi ys H) ∧
  ∀ ys i H, i < r.len → r.P ys i H → r.J.go i H ∧ ∀ x H', r.J.yld i H x H' → g x σ H' fun σ2 H2 => L2.wipe σ2 vs = σ ∧ tt σ2 H2 fun b H3 => if b = true then te σ2 H3 fun y H4 => r.Yd ys y i H4 else r.P ys (i + 1) H3
theorem wipe_weak {σ σ2 : L2.St} {vs : List Nat} (h : L2.wipe σ2 vs = σ) : σ.length = σ2.length ∧ ∀ (i : Nat) v, σ[i]? = some (some v) → σ2[i]? = some (some v) := by
  subst h
  exact ⟨wipe_length _ _, fun i v e => (wipe_some e).1⟩
theorem seg_gn {G : GnW} {r : GnR} {elt tgE iter : Expr} {ifs : List Expr} {scope : Scope} {pos : Pos} {it : Addr} {g : TG} {tt : TT} {te : TE} {vs : List Nat} {k : Nat} {Aw : Around}
    (T : Turn G.X.prog G.X.w G.X.K tgE r.J G.fp it G.tn) (hc : G.X.calm = true) (hco : G.cenv.scope.isCoroutine = false) (hfp : ∀ b ∈ G.fp, b < G.s0.heap.objs.size) (hpn : ∀ q ∈ G.pn, G.s0.heap.objs.size ≤ q.1)
    (hd : Aw.handled = none) (hfr : Aw.frames = some G.X.stack) (hr : Room k (Aw.deeper G.cenv))
    (hg : ∀ Ag, Ag.handled = none → Room k Ag → PG (G.cx Ag) tgE g) (ht : ∀ Ag, Ag.handled = none → Room k Ag → PTs (G.cx Ag) ifs tt) (he : ∀ Ag, Ag.handled = none → Room k Ag → PE (G.cx Ag) elt te) (rd : GnT G.X r g tt te G.σ vs) :
    ∀ (k i n : Nat) (ys : List V) (H : Hp) (pl : List (Addr × Obj)) (s₀ s : Shared), r.len - i = k → i ≤ r.len → k ≤ n → (∀ p ∈ pl, s₀.heap.get? p.1 = some p.2) → r.Acc ys pl → GRest G pl i H s → r.P ys i H →
      Seg (model G.X.prog G.X.w) Aw (REx G r) (YEx G r) n s₀ (.compLoop (.GeneratorExp elt [⟨tgE, iter, ifs, 0⟩] scope pos) 0 (.ref it) .none G.cenv)
        ((model G.X.prog G.X.w).den (.compLoop (.GeneratorExp elt [⟨tgE, iter, ifs, 0⟩] scope pos) 0 (.ref it) .none G.cenv)) [] s := by
  have hd' : (Aw.deeper G.cenv).handled = none := hd
  have hfr' : (Aw.deeper G.cenv).frames = some (G.cenv :: G.X.stack) := Around.frames_deeper hfr
  have fpok : ∀ {pl : List (Addr × Obj)} {i : Nat} {H : Hp} {s : Shared}, GRest G pl i H s → ∀ {H' : Hp} {s' : Shared}, Inv (G.cx (Aw.deeper G.cenv)) pl G.σ H' s' → (∀ b ∈ G.fp, H' b = none) → ∀ b ∈ G.fp, FpOk (G.cx (Aw.deeper G.cenv)) pl H' b := fun {pl i H s} R {H' s'} I hn b hb => by
    refine ⟨hn b hb, (I.ok.exf b hb).1, I.ok.exfs b hb, .inl hb, fun x c e => (I.ok.exf b hb).2 x c e, fun p hp => ?_⟩
    have hlt := hfp b hb
    rcases List.mem_append.mp hp with z | z
    · exact fun e => Nat.lt_irrefl _ (Nat.lt_of_lt_of_le (by rw [← e] at hlt; exact hlt) (hpn p z))
    · exact fun e => Nat.lt_irrefl _ (Nat.lt_of_lt_of_le (by rw [← e] at hlt; exact hlt) (R.pv p z).1)
  intro kk
  induction kk with
  | zero =>
    intro i n ys H pl s₀ s hk hi hkn hs0 hacc R hP
    have hin : i = r.len := by omega
    subst hin
    obtain ⟨stop, fin⟩ := rd.1 ys H hP
    show Seg _ Aw _ _ _ s₀ _ ((compTurn (.GeneratorExp elt [⟨tgE, iter, ifs, 0⟩] scope pos) 0 (.ref it) .none G.cenv).onRaise (leaving G.cenv)) [] s
    rw [compTurn_gen, Sem.onRaise_eq_wrap]
    refine seg_bind_wrap (wpAny_standAt ?_)
    refine seg_bind_wrap ?_
    rw [over_comp]
    have I := R.inv _ hd' hfr'
    refine thnF (T.done (G.cx (Aw.deeper G.cenv)) rfl rfl rfl hc r.len pl s G.σ H (fun _ _ => False) I (fpok R I R.nf) R.tn stop) fun u s1 ⟨hu, I1⟩ => ?_
    subst hu
    exact seg_end (.ok .next) (.inl ⟨.inr rfl, ys, H, pl, hs0, hacc, R.pv, fun Ag d1 d2 => Inv.gnA I1 d1 d2, fin⟩)
  | succ kk ih =>
    intro i n ys H pl s₀ s hk hi hkn hs0 hacc R hP
    have hlt : i < r.len := by omega
    obtain ⟨go, step⟩ := rd.2 ys i H hlt hP
    show Seg _ Aw _ _ _ s₀ _ ((compTurn (.GeneratorExp elt [⟨tgE, iter, ifs, 0⟩] scope pos) 0 (.ref it) .none G.cenv).onRaise (leaving G.cenv)) [] s
    rw [compTurn_gen, Sem.onRaise_eq_wrap]
    refine seg_bind_wrap (wpAny_standAt ?_)
    refine seg_bind_wrap ?_
    rw [over_comp]
    have I := R.inv _ hd' hfr'
    refine thnF (T.item (G.cx (Aw.deeper G.cenv)) rfl rfl rfl hc i pl s G.σ H (fun _ _ => False) I (fpok R I R.nf) R.tn go) fun u s1 ⟨v, hu, h1⟩ => ?_
    subst hu
    refine seg_bind_wrap ?_
    rw [over_comp]
    refine thnF h1 fun _ s2 ⟨x, H2, I2, r2, y2, t2, n2⟩ => ?_
    have I2' := I2.pinned (fpok R I2 n2) (T.obj _ _ t2)
    refine seg_bind_wrap ?_
    rw [over_comp]
    refine thnF ((hg _ hd' hr).run _ s2 G.σ H2 x v _ I2' r2 (step x H2 y2)) fun _ s3 ⟨σ3, H3, I3, hw3, q3⟩ => ?_
    refine seg_bind_wrap ?_
    rw [over_comp]
    refine thnF ((ht _ hd' hr).run _ s3 σ3 H3 _ I3 q3) fun b s4 ⟨H4, I4, q4⟩ => ?_
    obtain ⟨w1, w2⟩ := wipe_weak hw3
    -- at rest behind the turn
    have rest : ∀ {s' : Shared} {H' : Hp}, Inv (G.cx (Aw.deeper G.cenv)) (pl ++ pinsAt G.fp s2.heap) σ3 H' s' → GRest G pl (i + 1) H' s' := fun {s' H'} I' => by
      have pin' : ∀ b ∈ G.fp, ∀ o, s2.heap.get? b = some o → s'.heap.get? b = some o ∧ H' b = none := fun b hb o e =>
        let z := I'.pin (b, o) (List.mem_append_right _ (List.mem_append_right _ (mem_pinsAt hb e)))
        ⟨z.1, z.2.1⟩
      refine ⟨fun Ag d1 d2 => Inv.gnA (I'.unpinned.weak w1 w2) d1 d2, T.keep _ _ _ t2 fun b hb o e => (pin' b hb o e).1, fun b hb => ?_, R.pv⟩
      obtain ⟨o, e, _⟩ := T.obj _ _ t2 b hb
      exact (pin' b hb o e).2
    cases b with
    | false =>
      simp only [Bool.false_eq_true, if_false] at q4 ⊢
      exact seg_again rfl (ih (i + 1) n ys H4 pl s₀ s4 (by omega) hlt (by omega) hs0 hacc (rest I4) q4)
    | true =>
      simp only [if_true] at q4 ⊢
      obtain ⟨n, rfl⟩ : ∃ m, n = m + 1 := ⟨n - 1, by omega⟩
      have hy : ∀ v, yieldOut G.cenv v = yieldValue v := fun v => by simp only [yieldOut, hco, Bool.false_eq_true, if_false]
      simp only [hy]
      rw [Sem.bind_eq_wrap', Sem.bind_eq_wrap', Sem.wrap_wrap, Sem.wrap_wrap]
      refine seg_wrap ?_
      rw [over_comp]
      refine thnF ((he _ hd' hr).run _ s4 σ3 H4 _ I4 q4) fun yv s5 ⟨y, H5, I5, r5, q5⟩ => ?_
      refine seg_at (seg_yield rfl rfl rfl ⟨ys, y, i, H5, pl, hs0, hlt, r5, hacc, rest I5, q5, fun hP' pl' s'' hacc' z => ?_⟩)
      exact seg_again rfl (ih (i + 1) n (ys ++ [y]) H5 pl' s'' s'' (by omega) hlt (by omega) (fun p hp => (z.at_ p hp).1) hacc' ((rest I5).slp z hfp T.keep) hP')
end Ev
end
section
set_option linter.all false
set_option autoImplicit false
set_option maxRecDepth 100000
set_option maxHeartbeats 1000000
/-! Ev, part GC: a generator expression is asked for its next. -/
namespace Ev
open PySem PySem.Spec PyProof.Rows L2

theorem seg_gnStart {G : GnW} {r : GnR} {elt tgE iter : Expr} {ifs : List Expr} {scope : Scope} {pos : Pos} {it : Addr} {Aw : Around} {n : Nat} {s₀ s : Shared}
    (T : Turn G.X.prog G.X.w G.X.K tgE r.J G.fp it G.tn) (ht : G.tn 0 s.heap)
    (loop : Seg (model G.X.prog G.X.w) Aw (REx G r) (YEx G r) n s₀ (.compLoop (.GeneratorExp elt [⟨tgE, iter, ifs, 0⟩] scope pos) 0 (.ref it) .none G.cenv)
        ((model G.X.prog G.X.w).den (.compLoop (.GeneratorExp elt [⟨tgE, iter, ifs, 0⟩] scope pos) 0 (.ref it) .none G.cenv)) [] s) :
    Seg (model G.X.prog G.X.w) Aw (REx G r) (YEx G r) n s₀ (.compStart (.GeneratorExp elt [⟨tgE, iter, ifs, 0⟩] scope pos) 0 (.ref it) .none G.cenv)
        ((model G.X.prog G.X.w).den (.compStart (.GeneratorExp elt [⟨tgE, iter, ifs, 0⟩] scope pos) 0 (.ref it) .none G.cenv)) [] s := by
  show Seg _ Aw _ _ _ s₀ _ ((compStart (.GeneratorExp elt [⟨tgE, iter, ifs, 0⟩] scope pos) 0 (.ref it) .none G.cenv).onRaise (leaving G.cenv)) [] s
  unfold compStart
  rw [Sem.onRaise_eq_wrap]
  show Seg _ Aw _ _ _ s₀ _ ((ask >>= _).wrap _ _ _ _) [] s
  refine seg_bind_wrap (wpAny_askSetting ?_)
  split
  · exact seg_again rfl loop
  · refine seg_bind_wrap (wpAny_rule ?_)
    show Seg _ Aw _ _ _ s₀ _ ((standAt iter.pos >>= _).wrap _ _ _ _) [] s
    exact seg_bind_wrap (wpAny_standAt (seg_bind_wrap (T.self _ 0 s _ _ ht (seg_again rfl loop))))
/-- it may be asked: n at most are left -/
structure GnAt (G : GnW) (r : GnR) (A : Around) (a : Addr) (g n : Nat) (s : Shared) : Prop where
  gen : s.heap.IsGen a g
  lim : s.heap.NoLimit
  go : ∃ gs, s.gens[g]? = some gs ∧ gs.Goes (model G.X.prog G.X.w) A.in1 (REx G r) (YEx G r) n (.send .none) (s.setGen g .running)
structure GnOb (G : GnW) (a : Addr) (g : Nat) : Prop where
  ob : ∃ go, (a, go) ∈ G.pn ∧ ∀ h : Heap, h.get? a = some go → h.IsGen a g
theorem gn_next {G : GnW} {r : GnR} {A : Around} {a : Addr} {g n : Nat} {s : Shared} {Q : Option Value → Shared → Prop} {E : Value → Shared → Prop} (hh : A.handled = none) (hroom : A.depth < recursionLimit) (ob : GnOb G a g) (hfp : ∀ b ∈ G.fp, b < G.s0.heap.objs.size)
    (tk : ∀ i h h', G.tn i h → (∀ b ∈ G.fp, ∀ o, h.get? b = some o → h'.get? b = some o) → G.tn i h') (hA : ∃ Ag : Around, Ag.handled = none ∧ Ag.frames = some (G.cenv :: G.X.stack)) (S : GnAt G r A a g n s)
    (hY : ∀ v s1 ys y i H pl, (∀ p ∈ pl, s.heap.get? p.1 = some p.2) → i < r.len → RelV y v → r.Acc ys pl → GRest G pl (i + 1) H s1 → r.Yd ys y i H →
      (r.P (ys ++ [y]) (i + 1) H → ∀ pl' s2, s2.gens = s1.gens → r.Acc (ys ++ [y]) pl' → Slp pl pl' s1 s2 → ∃ m, n = m + 1 ∧ GnAt G r A a g m s2) → Q (some v) s1)
    (hF : ∀ s1 ys H pl, (∀ p ∈ pl, s.heap.get? p.1 = some p.2) → r.Acc ys pl → Priv G pl → (∀ Ag : Around, Ag.handled = none → Ag.frames = some (G.cenv :: G.X.stack) → Inv (G.cx Ag) pl G.σ H s1) → r.Fi ys H → Q none s1) :
    wpAny (model G.X.prog G.X.w) A (pyNext (.ref a)) Q E s := by
  obtain ⟨gs, hgs, hgo⟩ := S.go
  obtain ⟨go, hgo1, hgo2⟩ := ob.ob
  have hgl : g < s.gens.size := (Array.getElem?_eq_some_iff.mp hgs).1
  have reb : ∀ {pl : List (Addr × Obj)} {H : Hp} {s1 : Shared} {x : GenState} {h' : Heap}, x.bare = true → (∀ b o, s1.heap.get? b = some o → h'.get? b = some o) → (∀ Ag : Around, Ag.handled = none → Ag.frames = some (G.cenv :: G.X.stack) → Inv (G.cx Ag) pl G.σ H s1) →
      ∀ Ag : Around, Ag.handled = none → Ag.frames = some (G.cenv :: G.X.stack) → Inv (G.cx Ag) pl G.σ H { s1.setGen g x with heap := h' } := fun {pl H s1 x h'} hx hk hI Ag d1 d2 => by
    have I := hI Ag d1 d2
    have J := I.call (ch := []) (g' := (s1.setGen g x).gens) (d' := (s1.setGen g x).drawn) (t' := (s1.setGen g x).toks) (Un.kept hk) (I.hok.kept hk) (allBare_setGen I.bare hx) (fun b hb => by simp at hb)
    exact J
  refine GenW.wpAny_gsz (n := g + 1) hgl (next_genG hh S.lim hroom S.gen hgs (F := GnEnd G r) (Er := fun _ _ => False) hgo
    (fun v s₁ gs' hb hv => ?_) (fun s₁ hp h' hk => ?_) fun e s₁ he => he.elim)
  · obtain ⟨ys, y, i, H, pl, h0, h1, h2, h3, R, h5, h6⟩ := hv
    have R' : GRest G pl (i + 1) H (s₁.setGen g gs') := ⟨fun Ag d1 d2 => reb (h' := s₁.heap) hb (fun _ _ e => e) R.inv Ag d1 d2, R.tn, R.nf, R.pv⟩
    intro hsz
    refine hY v _ ys y i H pl h0 h1 h2 h3 R' h5 fun hP pl' s2 hg2 hacc z => ?_
    obtain ⟨Ag, d1, d2⟩ := hA
    have R2 := R'.slp z hfp tk
    have I2 := R2.inv Ag d1 d2
    have hgs' : s2.gens[g]? = some gs' := by
      rw [hg2]
      refine setGen_at ?_
      have q : (s₁.setGen g gs').gens.size = s₁.gens.size := GenW.setGen_size _ _ _
      have hsz' : g + 1 ≤ (s₁.setGen g gs').gens.size := hsz
      omega
    have fin : Slp pl pl' s₁ (s2.setGen g .running) := ⟨z.os, allBare_setGen z.bare rfl, z.same, z.keep, z.at_⟩
    have h6 := h6 hP pl' (s2.setGen g .running) hacc fin
    cases n with
    | zero => exact h6.elim
    | succ m => exact ⟨m, rfl, hgo2 _ (I2.pin (a, go) (List.mem_append_left _ hgo1)).1, I2.nolimit, gs', hgs', h6⟩
  · obtain ⟨ys, H, pl, h0, h3, pv, hI, h5⟩ := hp
    intro _
    exact hF _ ys H pl h0 h3 pv (reb rfl hk hI) h5
end Ev
end
section
set_option linter.all false
set_option autoImplicit false
set_option maxRecDepth 100000
set_option maxHeartbeats 1000000
/-! Ev, part GD: sum of a generator expression. -/
namespace Ev
open PySem PySem.Spec PyProof.Rows L2

def vInt : V → Int
  | .int i => i
  | _ => 0
def sumV (ys : List V) : Int := (ys.map vInt).sum
theorem sumV_snoc (ys : List V) (z : Int) : sumV (ys ++ [.int z]) = sumV ys + z := by simp [sumV, vInt, List.sum_append]
def sumO (i : Int) (t : Tok) (c : Nat) : Obj := { cls := .type "list", dict := none, data := .seq #[.int i t] c, slots := #[] }
theorem sumO_inj {i j : Int} {t u : Tok} {c d : Nat} (h : sumO i t c = sumO j u d) : i = j := by
  unfold sumO at h
  simp at h
  exact h.1.1
def sumAcc (S : Addr) (ys : List V) (pl : List (Addr × Obj)) : Prop := ∃ t c, pl = [(S, sumO (sumV ys) t c)]
section
variable {G : GnW} {r : GnR} {S a : Addr} {g : Nat}
theorem sum_gn {A : Around} {R : Result → Shared → Prop} (hh : A.handled = none) (hroom : A.depth < recursionLimit) (ob : GnOb G a g) (hfp : ∀ b ∈ G.fp, b < G.s0.heap.objs.size)
    (tk : ∀ i h h', G.tn i h → (∀ b ∈ G.fp, ∀ o, h.get? b = some o → h'.get? b = some o) → G.tn i h') (hA : ∃ Ag : Around, Ag.handled = none ∧ Ag.frames = some (G.cenv :: G.X.stack)) (hacc : r.Acc = sumAcc S)
    (hYd : ∀ ys y i H, r.Yd ys y i H → ∃ z, y = .int z ∧ r.P (ys ++ [y]) (i + 1) H)
    (hR : ∀ s' ys t' H pl, Priv G pl → (∀ Ag : Around, Ag.handled = none → Ag.frames = some (G.cenv :: G.X.stack) → Inv (G.cx Ag) pl G.σ H s') → r.Fi ys H → R (.ok (.ret (.int (sumV ys) t'))) s') :
    ∀ (n : Nat) (i0 : Int) (s : Shared) (tA : Tok) (c : Nat) (st : Int), (st = 0 ∨ st = 2) → GnAt G r A.in1 a g n s → s.heap.get? S = some (sumO i0 tA c) →
      codeAny (model G.X.prog G.X.w) A (.builtin "sum.loop" ⟨[.ref a, .ref S, rawInt st, rawInt 0], []⟩) R s := by
  have main : ∀ (n : Nat), (∀ m, n = m + 1 → ∀ (i0 : Int) (s : Shared) (tA : Tok) (c : Nat) (st : Int), (st = 0 ∨ st = 2) → GnAt G r A.in1 a g m s → s.heap.get? S = some (sumO i0 tA c) → codeAny (model G.X.prog G.X.w) A (.builtin "sum.loop" ⟨[.ref a, .ref S, rawInt st, rawInt 0], []⟩) R s) →
      ∀ (i0 : Int) (s : Shared) (tA : Tok) (c : Nat) (st : Int), (st = 0 ∨ st = 2) → GnAt G r A.in1 a g n s → s.heap.get? S = some (sumO i0 tA c) → codeAny (model G.X.prog G.X.w) A (.builtin "sum.loop" ⟨[.ref a, .ref S, rawInt st, rawInt 0], []⟩) R s := by
    intro n ih i0 s tA c st hst2 hat hS
    refine codeAny_builtin F.entry_sum_loop ?_
    rw [Around.under_plainId F.plain_sum_loop _]
    show wpAny _ A.in1 (seqItems? (.ref S) >>= _) _ _ s
    refine wpAny_bind (wpAny_seqItems hS rfl ?_)
    show wpAny _ A.in1 (tryCatch (pyNext (.ref a)) _ >>= _) _ _ s
    refine wpAny_bind (wpAny_tryCatch (gn_next (A := A.in1) hh hroom ob hfp tk hA hat (fun v s1 ys y i H pl h0 hlt rv hac rest yd hk => ?_) (fun s1 ys H pl h0 hac pv hI fi => ?_)))
    · rw [hacc] at hac
      obtain ⟨t0, c0, rfl⟩ := hac
      have e0 := h0 _ (List.mem_singleton.mpr rfl)
      have e1 : some (sumO (sumV ys) t0 c0) = some (sumO i0 tA c) := e0.symm.trans hS
      have e2 := sumO_inj (Option.some.inj e1)
      obtain ⟨z, rfl, hP⟩ := hYd _ _ _ _ yd
      obtain ⟨t, rfl⟩ : ∃ t, v = .int z t := rv
      obtain ⟨Ag, d1, d2⟩ := hA
      have hS' : s1.heap.get? S = some (sumO (sumV ys) t0 c0) := ((rest.inv Ag d1 d2).pin (S, _) (List.mem_append_right _ (List.mem_singleton.mpr rfl))).1
      have bare1 : AllBare s1.gens := (rest.inv Ag d1 d2).bare
      have fin : ∀ (h2 : Heap) (tk2 : Nat) (t2 : Tok) (c2 : Nat) (st2 : Int), (st2 = 0 ∨ st2 = 2) → (∀ b o, b ≠ S → s1.heap.get? b = some o → h2.get? b = some o) → h2.get? S = some (sumO (i0 + z) t2 c2) →
          codeAny (model G.X.prog G.X.w) A (.builtin "sum.loop" ⟨[.ref a, .ref S, rawInt st2, rawInt 0], []⟩) R { s1 with heap := h2, toks := tk2 } := fun h2 tk2 t2 c2 st2 hst hk2 hS2 => by
        have hs2 : sumV (ys ++ [.int z]) = i0 + z := by rw [sumV_snoc, e2]
        obtain ⟨m, hm, hat2⟩ := hk hP [(S, sumO (i0 + z) t2 c2)] { s1 with heap := h2, toks := tk2 } rfl (by rw [hacc]; exact ⟨t2, c2, by rw [hs2]⟩)
          ⟨rfl, bare1, rfl, fun b o hb e => hk2 b o (fun hbS => hb (by simp [hbS])) e, fun p hp => by rw [List.mem_singleton.mp hp]; exact ⟨hS2, fun v q => by cases q⟩⟩
        exact ih m hm (i0 + z) _ t2 c2 st2 hst hat2 hS2
      rw [e2] at hS'
      have other : ∀ {h : Heap} {f : Obj → Obj} {b : Addr} {o : Obj}, b ≠ S → h.get? b = some o → (h.update S f).get? b = some o := fun hb e => (Heap.get?_update_other _ _ (Ne.symm hb)).trans e
      rcases hst2 with rfl | rfl
      · show wpAny _ A.in1 (if (_ : Bool) = true then (mkInt (i0 + z) >>= _) else _) _ _ _
        split
        · refine wpAny_bind (wpAny_mkInt ?_)
          show wpAny _ A.in1 (updateSeq S (fun _ => #[.int (i0 + z) s1.toks]) >>= _) _ _ _
          exact wpAny_bind (wpAny_updateSeq hS' rfl (wpAny_pure ⟨plainId_quiet F.plain_sum_loop _, fin _ _ s1.toks _ 0 (.inl rfl) (fun b o hb e => other hb e) (Heap.get?_update_self _ hS' rfl)⟩))
        · refine wpAny_bind (wpAny_rule (wpAny_bind (wpAny_attempt (wpAny_holding (wpAny_add_int ?_)))))
          show wpAny _ A.in1 (updateSeq S (fun _ => #[.int (i0 + z) s1.toks]) >>= _) _ _ _
          refine wpAny_bind (wpAny_updateSeq hS' rfl ?_)
          have hS₂ := Heap.get?_update_self (Obj.mapSeq fun _ => #[Value.int (i0 + z) s1.toks]) hS' rfl
          refine wpAny_bind (wpAny_letGo (wpAny_bind (wpAny_updateSeq hS₂ rfl ?_)))
          exact wpAny_pure ⟨plainId_quiet F.plain_sum_loop _, fin _ _ s1.toks _ 2 (.inr rfl) (fun b o hb e => other hb (other hb e)) (Heap.get?_update_self _ hS₂ rfl)⟩
      · show wpAny _ A.in1 ((holding [Value.int z t] (binaryOp .Add (.int i0 tA) (.int z t))).attempt >>= _) _ _ _
        refine wpAny_bind (wpAny_attempt (wpAny_holding (wpAny_add_int ?_)))
        show wpAny _ A.in1 (updateSeq S (fun _ => #[.int (i0 + z) s1.toks]) >>= _) _ _ _
        refine wpAny_bind (wpAny_updateSeq hS' rfl ?_)
        have hS₂ := Heap.get?_update_self (Obj.mapSeq fun _ => #[Value.int (i0 + z) s1.toks]) hS' rfl
        refine wpAny_bind (wpAny_letGo (wpAny_bind (wpAny_updateSeq hS₂ rfl ?_)))
        exact wpAny_pure ⟨plainId_quiet F.plain_sum_loop _, fin _ _ s1.toks _ 2 (.inr rfl) (fun b o hb e => other hb (other hb e)) (Heap.get?_update_self _ hS₂ rfl)⟩
    · rw [hacc] at hac
      obtain ⟨t0, c0, rfl⟩ := hac
      have e0 := h0 _ (List.mem_singleton.mpr rfl)
      have e1 : some (sumO (sumV ys) t0 c0) = some (sumO i0 tA c) := e0.symm.trans hS
      have e2 := sumO_inj (Option.some.inj e1)
      refine wpAny_pure ?_
      rw [← e2]
      exact hR s1 ys tA H _ pv hI fi
  intro n
  induction n with
  | zero => exact main 0 fun m e => by cases e
  | succ m ih => exact main (m + 1) fun m' e => by cases e; exact ih
end
end Ev
end
section
set_option linter.all false
set_option autoImplicit false
set_option maxRecDepth 100000
set_option maxHeartbeats 1000000
/-! Ev, part GE: a generator expression is made. -/
namespace Ev
open PySem PySem.Spec PyProof.Rows L2

/-- the table at P may have grown -/
def TabX (P : Addr) (H H' : Hp) : Prop := GxR.Tabbed P H H' ∧ ∃ ps more : Array Value, H P = some (.tbl ps) ∧ H' P = some (.tbl (ps ++ more))
structure GnMade (X : Cx) (pins : List (Addr × Obj)) (σ : L2.St) (H1 : Hp) (scope : Scope) (tgE elt iter : Expr) (ifs : List Expr) (pos : Pos) (J : It) (a : Addr) (s5 : Shared) : Prop where
  ex : ∃ (s4 : Shared) (fp : List Addr) (tn : Nat → Heap → Prop) (it : Addr) (code : Value) (go : Obj) (mm : Str → Option Value) (g : Nat), Inv X pins σ H1 s4 ∧ s5.os = s4.os ∧ AllBare s5.gens ∧ (∀ b o, s4.heap.get? b = some o → s5.heap.get? b = some o) ∧ s4.heap.objs.size < a ∧ a < s5.heap.objs.size ∧ s5.heap.get? a = some go ∧
    (∀ h : Heap, h.get? a = some go → h.IsGen a g) ∧ (∀ v, go.data ≠ .cell v) ∧ s5.heap.Ns s4.heap.objs.size mm ∧ Turn X.prog X.w X.K tgE J fp it tn ∧ tn 0 s5.heap ∧ (∀ b ∈ fp, FpOk X pins H1 b ∧ b < s4.heap.objs.size) ∧
    s5.gens[g]? = some (.fresh (.compStart (.GeneratorExp elt [⟨tgE, iter, ifs, 0⟩] scope pos) 0 (.ref it) .none (genEnv scope (cloFrom X.env.cells scope.names []) s4.heap.objs.size code builtinsNs X.env)))
section
variable {X : Cx} {pins : List (Addr × Obj)} {σ : L2.St} {H : Hp} {s : Shared}
theorem gen_made {c P : Addr} {elt iter tgE : Expr} {ifs : List Expr} {gpos : Pos} {scope : Scope} {own : List (Str × Nat)} {wi : TI} {Q' : Value → Shared → Prop} {Rq : It → Hp → Prop}
    (hd : X.A.depth < recursionLimit) (TB : GxR.TabB X.base X.mg c P) (hcode : X.env.code = .ref c) (S : GnOk X.N X.env.scope scope own) (hi : PI X tgE iter wi)
    (hs : ∀ v, genFold iter X.env v = pure v) (I : Inv X pins σ H s) (h : wi σ H fun J H1 => GxR.TabG H1 P ∧ ∀ H2, TabX P H1 H2 → Rq J H2)
    (hQ : ∀ J H2 a s5, Rq J H2 → GnMade X pins σ H2 scope tgE elt iter ifs gpos J a s5 → Q' (.ref a) s5) :
    wpAny (model X.prog X.w) X.A (eval (.GeneratorExp elt [⟨tgE, iter, ifs, 0⟩] scope gpos) X.env) Q' X.xe s := by
  have hfree : ∀ y ∈ scope.names, y.2 = .free → ∃ c, X.env.cells.lookup y.1 = some c := fun y hy e => by
    rcases S.free y hy e with k | k
    · exact I.ok.has _ (.inl k)
    · exact I.ok.has _ (.inr k)
  refine wpAny_GeneratorExp_make S.co (closure_ok hfree) S.nocell S.dot S.kind hd (thn (hi.run pins s σ H _ I h) fun xv s1 hx => thn hx fun itv s2 h2 => ?_) hs
  obtain ⟨it, fp, tn, J, H1, e, I2, T, st2, f2, ⟨ps, hP, ht⟩, q⟩ := h2
  subst e
  have hPs : s2.heap.get? P = some { cls := .none, data := .fields ps } := I2.hok P _ hP
  have hPlt : P < s2.heap.objs.size := Heap.lt_size hPs
  have cd : PySem.W.CodeHd s2.heap c P := TB.code.keeps I2.bk
  have nP : ∀ b ∈ fp, b ≠ P := fun b hb z => by
    have := (f2 b hb).1
    rw [z, hP] at this
    cases this
  have cont : ∀ (code : Value) (s3 : Shared) (H2 : Hp), TabX P H1 H2 → Inv X pins σ H2 s3 → (∀ b o, b ≠ P → s2.heap.get? b = some o → s3.heap.get? b = some o) → s2.heap.objs.size ≤ s3.heap.objs.size →
      wpAny (model X.prog X.w) X.A (builtinsFor X.env.globals X.env.builtins) (fun bi s₄ => ∀ h', h'.Ns s₄.heap.objs.size (fun y => if y = ".0" then some (.ref it) else none) → Heap.SameBut s₄.heap.objs.size (s₄.heap.push { cls := .type "frame", data := .dict #[] }) h' →
          Q' (.ref h'.objs.size) { s₄ with
            gens := s₄.gens.push (.fresh (.compStart (.GeneratorExp elt [⟨tgE, iter, ifs, 0⟩] scope gpos) 0 (.ref it) .none (genEnv scope (cloFrom X.env.cells scope.names []) s₄.heap.objs.size code bi X.env))),
            toks := s₄.toks + 1 + 1 + 1,
            heap := h'.push { cls := .type "generator", data := .fields #[.int s₄.gens.size 0, .str "<genexpr>" (s₄.toks + 1), .str (X.env.qual ++ "<genexpr>") (s₄.toks + 1 + 1)] } }) X.xe s3 := by
    intro code s3 H2 hT I3 k23 hsz
    obtain ⟨bm, ob, e1, e2, e3, e4, e5, e6, e7, e8⟩ := TB.bm
    refine wpAny_builtinsFor (m := X.mg) (by rw [I3.ok.glob]; exact I3.mod.glob.keeps I3.bk) e1 e2 (I3.bk _ _ e5) e6 e7 e8 ?_
    intro h' hn' hs'
    have keep' : ∀ b o, s3.heap.get? b = some o → h'.get? b = some o := fun b o e => hs'.extBut b o (Nat.ne_of_lt (Heap.lt_size e)) (Heap.get?_push_of_some _ e)
    have hsz' : h'.objs.size = s3.heap.objs.size + 1 := by rw [hs'.1, Heap.size_push]
    have fp3 : ∀ b ∈ fp, FpOk X pins H2 b ∧ b < s3.heap.objs.size := fun b hb => by
      obtain ⟨o, eo, _⟩ := T.obj _ _ st2 b hb
      refine ⟨⟨?_, (f2 b hb).2⟩, Nat.lt_of_lt_of_le (Heap.lt_size eo) hsz⟩
      rw [hT.1.2 b (nP b hb)]
      exact (f2 b hb).1
    refine hQ J H2 _ _ (q H2 hT) ⟨s3, fp, tn, it, code, _, _, s3.gens.size, I3, rfl, AllBare.push I3.bare rfl, fun b o e => Heap.get?_push_of_some _ (keep' b o e), by omega, ?_, Heap.get?_push_size _ rfl, fun h e => ⟨_, _, _, e, rfl, rfl, rfl⟩, (fun v z => by cases z), hn'.push _, T, ?_, fp3, Array.getElem?_push_size ..⟩
    · show h'.objs.size < (h'.push _).objs.size
      rw [Heap.size_push]
      exact Nat.lt_succ_self _
    · exact T.keep _ _ _ st2 fun b hb o e => Heap.get?_push_of_some _ (keep' b o (k23 b o (nP b hb) e))
  refine ⟨I2.nolimit, ?_⟩
  cases hf : codeAmong gpos ps.toList with
  | none =>
    refine wpAny_genexprCodeX hcode (cd.code hPs ht) (cd.tab hPs) hf fun c' h' tk hx hge hlt hco' _ htab' _ => ?_
    obtain ⟨o1, vs, f1, tf, fl, tg, inF, tx, tt, op, _, _, _, _, _, _, _, _, _, htr, _⟩ := hco'
    have J3 := GxR.inv_tab (g' := s2.gens) (d' := s2.drawn) (t' := tk) (more := #[rawInt gpos.line, rawInt gpos.col, .ref c']) (h' := h') I2 hP (fun b o hb e => hx b o hb e) htab'.2 I2.bare
    exact cont _ { s2 with heap := h', toks := tk } _ ⟨⟨⟨_, upd_same, htr⟩, fun b hb => upd_ne hb⟩, ps, _, hP, upd_same⟩ J3 (fun b o hb e => hx b o hb e) (Nat.le_trans hge (Nat.le_of_lt hlt))
  | some cv =>
    refine wpAny_genexprCode_hit hcode (cd.code hPs ht) hf ?_
    exact cont cv s2 H1 ⟨⟨⟨ps, hP, ht⟩, fun _ _ => rfl⟩, ps, #[], hP, by rw [hP]; simp⟩ I2 (fun _ _ _ e => e) (Nat.le_refl _)
theorem Inv.gnP {Ag : Around} {s0 : Shared} {H0 : Hp} {cenv : Env} {fp : List Addr} {pn pl : List (Addr × Obj)} (I : Inv (gnCx X Ag s0 H0 cenv fp []) [] σ H s)
    (h : ∀ p ∈ pn ++ pl, s.heap.get? p.1 = some p.2 ∧ H p.1 = none ∧ p.1 ≠ cenv.locals ∧ p.1 ∉ frs X.stack ∧ ∀ v, p.2.data ≠ .cell v) : Inv (gnCx X Ag s0 H0 cenv fp pn) pl σ H s :=
  ⟨⟨I.ok.mod, I.ok.kind, I.ok.glob, I.ok.blt, I.ok.above, I.ok.inj, I.ok.has, I.ok.cab, I.ok.hd, I.ok.frames, I.ok.stk, I.ok.exf, I.ok.bs, I.ok.bsz, I.ok.noex, I.ok.exfs, I.ok.funs, I.ok.frf⟩, I.os, I.bare, I.base, I.loc, I.cell, I.free, I.freeC, h, I.hok, I.len⟩
/-- a made one may be asked, at a later state, by one with things of its own -/
theorem gn_at {elt iter tgE : Expr} {ifs : List Expr} {gpos : Pos} {scope : Scope} {own : List (Str × Nat)} {J : It} {a : Addr} {s5 s6 : Shared} {r : GnR} {A : Around} {k : Nat} {g : TG} {tt : TT} {te : TE} {pl : List (Addr × Obj)}
    (M : GnMade X pins σ H scope tgE elt iter ifs gpos J a s5) (S : GnOk X.N X.env.scope scope own) (hN : X.N.Nodup) (hc : X.calm = true) (hJ : r.J = J)
    (hd : A.handled = none) (hfr : A.frames = some X.stack) (hr : ∀ env, Room k (A.in1.deeper env)) (kp : ∀ b o, s5.heap.get? b = some o → s6.heap.get? b = some o) (hgs : s6.gens = s5.gens) (hos : s6.os = s5.os)
    (hpl : ∀ p ∈ pl, s5.heap.objs.size ≤ p.1 ∧ s6.heap.get? p.1 = some p.2 ∧ ∀ v, p.2.data ≠ .cell v) (hacc : r.Acc [] pl) (hP : r.P [] 0 H)
    (hg : ∀ (Ag : Around) (s0 : Shared) (H0 : Hp) (C : Addr) (code : Value) (fp : List Addr) (pn : List (Addr × Obj)), Ag.handled = none → Room k Ag → PG (gnCx X Ag s0 H0 (genEnv scope (cloFrom X.env.cells scope.names []) C code builtinsNs X.env) fp pn) tgE g)
    (ht : ∀ (Ag : Around) (s0 : Shared) (H0 : Hp) (C : Addr) (code : Value) (fp : List Addr) (pn : List (Addr × Obj)), Ag.handled = none → Room k Ag → PTs (gnCx X Ag s0 H0 (genEnv scope (cloFrom X.env.cells scope.names []) C code builtinsNs X.env) fp pn) ifs tt)
    (he : ∀ (Ag : Around) (s0 : Shared) (H0 : Hp) (C : Addr) (code : Value) (fp : List Addr) (pn : List (Addr × Obj)), Ag.handled = none → Room k Ag → PE (gnCx X Ag s0 H0 (genEnv scope (cloFrom X.env.cells scope.names []) C code builtinsNs X.env) fp pn) elt te)
    (rd : GnT X r g tt te (L2.wipe σ (own.map (·.2))) (own.map (·.2))) :
    ∃ (G : GnW) (gn : Nat), G.X = X ∧ G.s0.heap.objs.size ≤ s5.heap.objs.size ∧ GnOb G a gn ∧ (∀ b ∈ G.fp, b < G.s0.heap.objs.size) ∧ (∀ i h h', G.tn i h → (∀ b ∈ G.fp, ∀ o, h.get? b = some o → h'.get? b = some o) → G.tn i h') ∧ (∃ Ag : Around, Ag.handled = none ∧ Ag.frames = some (G.cenv :: G.X.stack)) ∧
      GnAt G r A a gn r.len s6 ∧ ∀ (Ag : Around) (pl : List (Addr × Obj)) (H' : Hp) (s' : Shared), Inv (G.cx Ag) pl G.σ H' s' → Inv X pins σ H' s' := by
  obtain ⟨s4, fp, tn, it, code, go, mm, gn, I4, os5, bare5, k45, ha1, ha2, hgo, hgo2, hgd, hns, T, st5, f4, hgen⟩ := M.ex
  have hszA : ∀ b, b < s4.heap.objs.size → b ≠ a := fun b hb => Nat.ne_of_lt (Nat.lt_trans hb ha1)
  have hd1 : A.in1.handled = none := hd
  have hfr1 : A.in1.frames = some X.stack := hfr
  have s45 : s4.heap.objs.size ≤ s5.heap.objs.size := Nat.le_of_lt (Nat.lt_trans ha1 ha2)
  have k46 : ∀ b o, s4.heap.get? b = some o → s6.heap.get? b = some o := fun b o e => kp b o (k45 b o e)
  have young : ∀ b, s4.heap.objs.size < b → H b = none ∧ b ∉ frs X.stack := fun b hb => by
    refine ⟨I4.hok.fresh (Nat.le_of_lt hb), fun hm => ?_⟩
    rcases List.mem_cons.mp (I4.stkSub b hm) with z | z
    · have := I4.lt
      rw [← z] at this
      exact Nat.lt_irrefl _ (Nat.lt_trans this hb)
    · exact I4.nofs (Nat.le_of_lt hb) z
  let cenv := genEnv scope (cloFrom X.env.cells scope.names []) s4.heap.objs.size code builtinsNs X.env
  let G : GnW := ⟨X, s4, H, cenv, fp, [(a, go)], L2.wipe σ (own.map (·.2)), tn⟩
  have big : ∀ p ∈ [(a, go)] ++ pl, s4.heap.objs.size < p.1 ∧ s6.heap.get? p.1 = some p.2 ∧ ∀ v, p.2.data ≠ .cell v := fun p hp => by
    rcases List.mem_append.mp hp with z | z
    · rw [List.mem_singleton.mp z]
      exact ⟨ha1, kp _ _ hgo, hgd⟩
    · obtain ⟨h1, h2, h3⟩ := hpl p z
      exact ⟨Nat.lt_of_lt_of_le (Nat.lt_trans ha1 ha2) h1, h2, h3⟩
  have inv6 : ∀ (x : Array GenState), AllBare x → ∀ Ag : Around, Ag.handled = none → Ag.frames = some (cenv :: X.stack) → Inv (G.cx Ag) pl G.σ H { s6 with gens := x } := fun x hx Ag d1 d2 => by
    have J6 := gn_start (Ag := Ag) (h' := s6.heap) (g' := x) (t' := s6.toks) (d' := s6.drawn) I4 S hN rfl f4 d1 d2 (hns.at' fun o e => kp _ _ e) k46 hx
    have e6 : ({ s4 with heap := s6.heap, gens := x, drawn := s6.drawn, toks := s6.toks } : Shared) = { s6 with gens := x } := by
      have ho : s6.os = s4.os := hos.trans os5
      cases s6
      cases ho
      rfl
    rw [e6] at J6
    refine Inv.gnP J6 fun p hp => ?_
    obtain ⟨h1, h2, h3⟩ := big p hp
    obtain ⟨y1, y2⟩ := young p.1 h1
    exact ⟨h2, y1, Nat.ne_of_gt h1, y2, h3⟩
  have pv : Priv G pl := fun p hp => by
    obtain ⟨h1, h2, h3⟩ := hpl p hp
    refine ⟨Nat.le_trans s45 h1, fun q hq => ?_, h3⟩
    have hq : q ∈ [(a, go)] := hq
    rw [List.mem_singleton.mp hq]
    exact Nat.ne_of_lt (Nat.lt_of_lt_of_le ha2 h1)
  have tk := T.keep
  have bare6 : AllBare s6.gens := by rw [hgs]; exact bare5
  refine ⟨G, gn, rfl, s45, ⟨go, List.mem_singleton.mpr rfl, hgo2⟩, fun b hb => (f4 b hb).2, tk, ⟨A.in1.deeper cenv, hd1, Around.frames_deeper hfr1⟩, ⟨hgo2 _ (kp _ _ hgo), ?_, .fresh _, by rw [hgs]; exact hgen, ⟨rfl, ?_⟩⟩, fun Ag pl H' s' I' => ?_⟩
  · exact (inv6 s6.gens bare6 (A.in1.deeper cenv) hd1 (Around.frames_deeper hfr1)).nolimit
  · subst hJ
    have rest : GRest G pl 0 H (s6.setGen gn .running) := ⟨inv6 (s6.setGen gn .running).gens (allBare_setGen (x := .running) bare6 rfl), tk _ _ _ st5 fun b _ o e => kp b o e, fun b hb => (f4 b hb).1.1, pv⟩
    refine seg_gnStart T rest.tn (seg_gn (k := k) T hc S.co (fun b hb => (f4 b hb).2) (fun q hq => ?_) hd1 hfr1 (hr _) (fun Ag d1 d2 => hg Ag _ _ _ _ _ _ d1 d2) (fun Ag d1 d2 => ht Ag _ _ _ _ _ _ d1 d2) (fun Ag d1 d2 => he Ag _ _ _ _ _ _ d1 d2) rd r.len 0 r.len [] H pl _ _ (Nat.sub_zero _) (Nat.zero_le _) (Nat.le_refl _) (fun p hp => (hpl p hp).2.1) hacc rest hP)
    have hq : q ∈ [(a, go)] := hq
    rw [List.mem_singleton.mp hq]
    exact Nat.le_of_lt ha1
  · exact I4.call' (ch := fp) I'.os I'.base I'.hok I'.bare fun b hb => ⟨(f4 b hb).1.2.2.2.1, (f4 b hb).1.2.1, (f4 b hb).1.2.2.2.2.1, (f4 b hb).1.2.2.2.2.2⟩
end
end Ev
end
section
set_option linter.all false
set_option autoImplicit false
set_option maxRecDepth 100000
set_option maxHeartbeats 1000000
/-! Ev, part GF: what takes a generator expression as its one argument. -/
namespace Ev
open PySem PySem.Spec PyProof.Rows L2

section
variable {X : Cx} {F : Fx} {W : Wd} {Wx : WX} {pos : Pos} {ω : Om} {m : M} {H H' : Hp} {wr : Wr}
theorem po_tab {P : Addr} (C : Cells F ω m H) (T : TabInv F H) (h : TabX P H H') (hP : P ∈ F.TG) (hL : ∀ p ∈ F.TL, p.1 ≠ P) : Po F wr ω m H ω m H' := by
  obtain ⟨⟨h1, h2⟩, ps, more, h3, h4⟩ := h
  have nt : ∀ b o, H b = some o → (∀ ps, o ≠ .tbl ps) → H' b = some o := fun b o e n => by
    rw [h2 b fun z => ?_]
    · exact e
    · rw [z, h3] at e
      cases e
      exact n _ rfl
  have st : Stays F ω ω H H' := ⟨Nat.le_refl _, fun _ _ => rfl, fun b o e _ n => .inl (nt b o e n), fun _ _ _ h => h⟩
  refine ⟨Nat.le_refl _, fun _ _ => rfl, rfl, ⟨fun b o e _ n => nt b o e n, fun b qs e => ?_, fun _ _ _ h => h, fun _ _ _ h => h, fun b o e => ?_⟩, fun _ _ h => .inl ⟨h, rfl⟩, ?_, fun Q hQ => ?_, fun p hp => ?_⟩
  · by_cases hb : b = P
    · subst hb
      rw [h3] at e
      cases e
      exact ⟨more, h4⟩
    · exact ⟨#[], by rw [h2 b hb, e]; simp⟩
  · by_cases hb : b = P
    · subst hb
      exact ⟨_, h4⟩
    · exact ⟨o, by rw [h2 b hb]; exact e⟩
  · exact ⟨C.len, fun r c e => CellAt.stays st rfl (fun f _ o e n => nt _ o e n) (C.at_ r c e), C.inj, C.inB, C.nd⟩
  · by_cases hb : Q = P
    · subst hb
      exact h1
    · obtain ⟨qs, e1, e2⟩ := T.1 Q hQ
      exact ⟨qs, by rw [h2 Q hb]; exact e1, e2⟩
  · obtain ⟨qs, e1, e2, e3⟩ := T.2 p hp
    refine ⟨qs, by rw [h2 _ (hL p hp)]; exact e1, e2, fun pos cv hc => ?_⟩
    obtain ⟨c, k1, k2⟩ := e3 pos cv hc
    exact ⟨c, k1, nt _ _ k2 fun ps z => by cases z⟩
/-- the turns of a generator expression by their values: what is handed out is one of Ok -/
theorem turns_acc {body : D → M → R (Option D)} : ∀ {xs acc : List D} {m m' : M} {ys : List D}, turns body xs acc m = .ok ys m' → ∃ zs, ys = acc ++ zs
  | [], acc, m, m', ys, h => by
    simp only [turns] at h
    cases h
    exact ⟨[], by simp⟩
  | x :: xs, acc, m, m', ys, h => by
    rw [turns] at h
    cases hb : body x m with
    | stuck => rw [hb] at h; cases h
    | exc c m1 => rw [hb] at h; cases h
    | ok o m1 =>
      rw [hb, R.bind_ok] at h
      cases o with
      | none => exact turns_acc h
      | some y =>
        simp only at h
        split at h
        · obtain ⟨zs, e⟩ := turns_acc h
          exact ⟨y :: zs, by rw [e]; simp⟩
        · cases h
theorem nox_exc {α : Type} {r : R α} {c : Nat} {m' : M} : R.nox r ≠ .exc c m' := by cases r <;> (intro z; cases z)
theorem turns_nox {body : D → M → R (Option D)} (hb : ∀ x m c m', body x m ≠ .exc c m') : ∀ (xs acc : List D) (m : M) (c : Nat) (m' : M), turns body xs acc m ≠ .exc c m'
  | [], acc, m, c, m', h => by cases h
  | x :: xs, acc, m, c, m', h => by
    rw [turns] at h
    cases hx : body x m with
    | stuck => rw [hx] at h; cases h
    | exc c m1 => exact hb _ _ _ _ hx
    | ok o m1 =>
      rw [hx, R.bind_ok] at h
      cases o with
      | none => exact turns_nox hb _ _ _ _ _ h
      | some y =>
        simp only at h
        split at h
        · exact turns_nox hb _ _ _ _ _ h
        · cases h
theorem intsOf_app : ∀ {xs ys : List D} {ns : List Int}, intsOf (xs ++ ys) = some ns → ∃ ks, intsOf xs = some ks
  | [], ys, ns, h => ⟨[], rfl⟩
  | d :: xs, ys, ns, h => by
    cases d with
    | int i =>
      simp only [List.cons_append, intsOf] at h ⊢
      cases e : intsOf (xs ++ ys) with
      | none => rw [e] at h; cases h
      | some ks =>
        obtain ⟨js, e2⟩ := intsOf_app e
        exact ⟨i :: js, by rw [e2]; rfl⟩
    | _ => simp [intsOf] at h
theorem intsOf_map : ∀ {xs : List D} {ns : List Int}, intsOf xs = some ns → xs = ns.map (fun i => (.int i : D))
  | [], ns, h => by cases h; rfl
  | d :: xs, ns, h => by
    cases d with
    | int i =>
      simp only [intsOf] at h
      cases e : intsOf xs with
      | none => rw [e] at h; cases h
      | some ks =>
        rw [e] at h
        cases h
        rw [intsOf_map e]
        rfl
    | _ => simp [intsOf] at h
theorem intsOf_ints : ∀ ns : List Int, intsOf (ns.map fun i => (.int i : D)) = some ns
  | [] => rfl
  | n :: ns => by simp [intsOf, intsOf_ints ns]
/-- what the consumer of a generator expression is to know -/
def SumRq (X : Cx) (t : TG) (tt : TT) (te : TE) (σ : L2.St) (vs : List Nat) (Q : VK) : It → Hp → Prop := fun J H => ∃ (len : Nat) (Pp : List V → Nat → Hp → Prop) (Fi : List V → Hp → Prop), Pp [] 0 H ∧
  (∀ A : List V → List (Addr × Obj) → Prop, GnT X ⟨J, len, A, Pp, fun ys y i H => (∃ z, y = .int z) ∧ Pp (ys ++ [y]) (i + 1) H, Fi⟩ t tt te (L2.wipe σ vs) vs) ∧ ∀ ys H, Fi ys H → Q (.int (sumV ys)) H
theorem sum_read {elt : Ex} {tg : Tg} {src : Src} {ifs : List Ex} {t : TG} {vs : List Nat} {σ : L2.St} {H : Hp} {Q : VK} {P : Addr} (ne : isB elt = false) (ht : GOk F t tg) (hvs : vs = tvars tg) (hP : P ∈ F.TG) (hTL : ∀ p ∈ F.TL, p.1 ≠ P)
    (h : LE F Wx false (evE W (.co .sum elt tg src ifs)) σ H Q) : LI F Wx W src σ H fun J H1 => GxR.TabG H1 P ∧ ∀ H2, TabX P H1 H2 → SumRq X t (LTs F W ifs) (LE F Wx0 false (evE W elt)) σ vs Q J H2 := by
  subst hvs
  obtain ⟨ω, g, m, wr, S, h⟩ := h
  refine LG.of (wr := wr) S ?_
  show Fin F Wx wr σ (RelI F) _ ω m H (evSx W src wr g m)
  have e0 : evE W (.co .sum elt tg src ifs) wr g m = (evS W src wr g m).bind fun r m1 => (turns (coBody W elt tg ifs (lockW wr r.2) g) r.1 [] m1).bind fun ys m' => R.of (endCo .sum ys) m' := by
    simp only [evE]
    rw [ev]
    exact if_neg (by rw [ne]; exact Bool.false_ne_true)
  rw [e0] at h
  simp only [evSx]
  cases hs : evS W src wr g m with
  | stuck => rw [hs] at h; exact h
  | exc c m' => rw [hs] at h; exact h
  | ok r m1 =>
    obtain ⟨xs, p⟩ := r
    rw [hs] at h
    simp only [R.bind_ok] at h ⊢
    intro ω1 J H1 p1 hr
    obtain ⟨A, hA, wk⟩ := hr
    have hA : ∀ b, A b → AOk ω1 m1 g p b ∧ ∃ o, H1 b = some o ∧ ∀ ps, o ≠ .tbl ps := hA
    have wk : Walk F A ω1 H1 J xs := wk
    refine ⟨p1.tabs.1 P hP, fun H1' hT => ?_⟩
    have S1 := S.po p1
    let wr' := lockW wr p
    let body := coBody W elt tg ifs wr' g
    have p0 : Po F wr' ω1 m1 H1 ω1 m1 H1' := po_tab p1.cells p1.tabs hT hP hTL
    have hU : ∀ b, A b → ¬ Ub ω1 m1 wr' b := fun b hb => aok_ub S1 (hA b hb).1
    refine ⟨xs.length, fun ys i H2 => i ≤ xs.length ∧ ∃ ω2 m2, ∃ ns : List Int, Po F wr' ω1 m1 H1 ω2 m2 H2 ∧ ys = ns.map V.int ∧ Fin F Wx wr σ (VRel F false) Q ω m H ((turns body (xs.drop i) (ns.map fun i => (.int i : D)) m2).bind fun ys m' => R.of (endCo .sum ys) m'),
      fun ys H2 => Q (.int (sumV ys)) H2, ⟨Nat.zero_le _, ω1, m1, [], p0, rfl, h⟩, fun Ac => ⟨?_, ?_⟩, fun ys H h => h⟩
    · rintro ys H2 ⟨hi, ω2, m2, ns, p2, rfl, hf⟩
      have hold : Hold F A ω1 H1 ω2 H2 := po_hold p1.cells p2 hU
      have hf : Fin F Wx wr σ (VRel F false) Q ω m H ((turns body (xs.drop xs.length) (ns.map fun i => (.int i : D)) m2).bind fun ys m' => R.of (endCo .sum ys) m') := hf
      refine ⟨wk.stop ω2 H2 hold, ?_⟩
      rw [List.drop_length] at hf
      have e1 : (turns body [] (ns.map fun i => (.int i : D)) m2).bind (fun ys m' => R.of (endCo .sum ys) m') = .ok (.int ns.sum) m2 := by
        simp only [turns, R.bind_ok, endCo, intsOf_ints]
        rfl
      rw [e1] at hf
      have p12 : Po F wr ω m H ω2 m2 H2 := p1.trans S.ce (p2.mono (lockW_le wr p))
      have q := hf ω2 (.int ns.sum) H2 p12 (.inl rfl)
      have e2 : sumV (ns.map V.int) = ns.sum := by
        unfold sumV
        rw [List.map_map]
        congr 1
        exact List.map_id _
      show Q (.int (sumV (ns.map V.int))) H2
      rw [e2]
      exact q
    · rintro ys i H2 hlt ⟨hi, ω2, m2, ns, p2, rfl, hf⟩
      have hlt : i < xs.length := hlt
      have hold : Hold F A ω1 H1 ω2 H2 := po_hold p1.cells p2 hU
      refine ⟨wk.go ω2 H2 i hold hlt, fun x H3 hy => ?_⟩
      obtain ⟨d, ω3, e1, p3, r3⟩ := wk.yld wr' ω2 m2 H2 i x H3 hold p2.cells p2.tabs hlt hy
      have p23 := p2.trans p1.cells p3
      rw [drop_cons e1, turns_cons] at hf
      have S3 : SlRel F ω3 (wipeG g (tvars tg)) m2 (L2.wipe σ (tvars tg)) H3 := (S1.sl.po p1.cells p23).wipe _
      cases hb : bindT tg d (wipeG g (tvars tg)) with
      | none =>
        simp only [body, coBody, hb] at hf
        exact hf.elim
      | some g' =>
        have hbody : body d m2 = R.nox ((evI W ifs wr' g' m2).bind fun b m' => if b then (ev W elt wr' g' m').bind fun y m'' => .ok (some y) m'' else .ok none m') := by
          simp only [body, coBody, hb]
        rw [hbody] at hf
        refine ht ω3 H3 _ m2 _ d x g' _ S3 r3 hb fun σ' S' hl' hk' => ⟨?_, ?_⟩
        · exact (wipe_eq hl' hk').trans wipe_wipe
        · have St3 : Stt F ω3 g' m2 σ' H3 := ⟨S', p23.cells, p23.tabs⟩
          refine LG.of (wr := wr') St3 ?_
          show Fin F Wx0 wr' σ' _ _ ω3 m2 H3 (evI W ifs wr' g' m2)
          cases ht2 : evI W ifs wr' g' m2 with
          | stuck => rw [ht2] at hf; exact hf.elim
          | exc c m' => rw [ht2] at hf; exact hf.elim
          | ok b m4 =>
            rw [ht2] at hf
            intro ω4 b' H4 p4 hb'
            subst hb'
            have p24 := p23.trans p1.cells p4
            simp only [R.bind_ok] at hf
            cases b with
            | false =>
              simp only [Bool.false_eq_true, if_false, R.nox, R.bind_ok] at hf ⊢
              exact ⟨hlt, ω4, m4, ns, p24, rfl, hf⟩
            | true =>
              simp only [if_true] at hf ⊢
              refine LG.of (wr := wr') (St3.po p4) ?_
              show Fin F Wx0 wr' σ' (VRel F false) _ ω4 m4 H4 (ev W elt wr' g' m4)
              cases hx : ev W elt wr' g' m4 with
              | stuck => rw [hx] at hf; exact hf.elim
              | exc c m' => rw [hx] at hf; exact hf.elim
              | ok y m5 =>
                rw [hx] at hf
                intro ω5 v H5 p5 r5
                have p25 := p24.trans p1.cells p5
                simp only [R.bind_ok, R.nox] at hf
                split at hf
                · rename_i hz
                  have hint : ∃ z, y = .int z := by
                    cases hu : turns body (xs.drop (i + 1)) (ns.map (fun i => (.int i : D)) ++ [y]) m5 with
                    | stuck => rw [hu] at hf; exact hf.elim
                    | exc c m' =>
                      exact absurd hu (turns_nox (fun x m c m' => nox_exc) _ _ _ _ _)
                    | ok zs m' =>
                      rw [hu, R.bind_ok] at hf
                      obtain ⟨us, e⟩ := turns_acc hu
                      simp only [endCo] at hf
                      cases ei : intsOf zs with
                      | none => rw [ei] at hf; exact hf.elim
                      | some ks =>
                        rw [e] at ei
                        obtain ⟨js, ej⟩ := intsOf_app ei
                        have := intsOf_map ej
                        have hm : y ∈ js.map (fun i => (.int i : D)) := by rw [← this]; simp
                        obtain ⟨z, _, rfl⟩ := List.mem_map.mp hm
                        exact ⟨z, rfl⟩
                  obtain ⟨z, rfl⟩ := hint
                  have ev : v = .int z := by
                    rcases r5 with r5 | ⟨z2, _⟩
                    · exact r5
                    · cases z2
                  subst ev
                  exact ⟨⟨z, rfl⟩, hlt, ω5, m5, ns ++ [z], p25, by simp, by simpa using hf⟩
                · exact hf.elim
/-- name(genexp), name a built-in -/
theorem gen_call {nm : Str} {np : Pos} {b : String} {c P : Addr} {elt iter tgE : Expr} {ifs : List Expr} {gpos : Pos} {scope : Scope} {own : List (Str × Nat)} {wi : TI} {Rq : It → Hp → Prop} {pins : List (Addr × Obj)} {σ : L2.St} {s : Shared} {Q' : Value → Shared → Prop}
    (hg : Gl X nm) (hm : X.mg nm = none) (hv : bootBuiltins nm = some (.builtin b)) (hn : nm ≠ "__name__") (hdb : (nm == ("__debug__" : Str)) = false)
    (hd : X.A.depth < recursionLimit) (TB : GxR.TabB X.base X.mg c P) (hcode : X.env.code = .ref c) (S : GnOk X.N X.env.scope scope own) (hi : PI X tgE iter wi)
    (hs : ∀ v, genFold iter X.env v = pure v) (I : Inv X pins σ H s) (h : wi σ H fun J H1 => GxR.TabG H1 P ∧ ∀ H2, TabX P H1 H2 → Rq J H2)
    (hC : ∀ J H2 a s5, Rq J H2 → GnMade X pins σ H2 scope tgE elt iter ifs gpos J a s5 → wpAny (model X.prog X.w) X.A (call (.builtin b) [.ref a]) Q' X.xe s5) :
    wpAny (model X.prog X.w) X.A (eval (.Call (.Name nm np) [.GeneratorExp elt [⟨tgE, iter, ifs, 0⟩] scope gpos] [] pos) X.env) Q' X.xe s := by
  have he : starEach [.GeneratorExp elt [⟨tgE, iter, ifs, 0⟩] scope gpos] X.env = (false, eval (.GeneratorExp elt [⟨tgE, iter, ifs, 0⟩] scope gpos) X.env) :: starEach [] X.env := rfl
  refine wpAny_Call_Name_kw (ld_blt I hg hm hv ?_ hn hdb)
  refine PyProof.Rows.callWith_builtin1 ?_ he (by rfl)
  rw [he]
  show wpAny _ _ (spliced ((false, eval (.GeneratorExp elt [⟨tgE, iter, ifs, 0⟩] scope gpos) X.env) :: backTo pos (starEach [] X.env))) _ _ s
  exact Calls.spliced_cons (gen_made hd TB hcode S hi hs I h fun J H2 a s5 hR hG => Calls.spliced_nil (hC J H2 a s5 hR hG))
end
end Ev
end
section
set_option linter.all false
set_option autoImplicit false
set_option maxRecDepth 100000
set_option maxHeartbeats 1000000
/-! Ev, part GG: sum of a generator expression, its reading. -/
namespace Ev
open PySem PySem.Spec PyProof.Rows L2

def plainG : Expr → Bool
  | .List .. => false
  | .Set .. => false
  | _ => true
theorem plain_gen {e : Expr} (h : plainG e = true) (env : Env) : ∀ x, genFold e env x = pure x := fun x => by cases e <;> first | rfl | (simp [plainG] at h)
theorem room_gn {k : Nat} {A : Around} (r : Room (k + 1) A) (env : Env) : Room k (A.in1.in1.deeper env) :=
  ⟨r.hd, by have := r.dp; show A.depth + 1 + 3 * k + 5 < _; omega, by have := r.un; show A.units + 1 + 1 + 3 + 16 * k + 200 < _; omega⟩
theorem room_deep {k : Nat} {A : Around} (r : Room k A) : A.depth < recursionLimit := by have := r.dp; omega
/-- the parts of a generator expression, read -/
structure GnParts (X : Cx) (k : Nat) (scope : Scope) (tgE elt : Expr) (ifs : List Expr) (g : TG) (tt : TT) (te : TE) : Prop where
  g : ∀ (Ag : Around) (s0 : Shared) (H0 : Hp) (C : Addr) (code : Value) (fp : List Addr) (pn : List (Addr × Obj)), Ag.handled = none → Room k Ag → PG (gnCx X Ag s0 H0 (genEnv scope (cloFrom X.env.cells scope.names []) C code builtinsNs X.env) fp pn) tgE g
  t : ∀ (Ag : Around) (s0 : Shared) (H0 : Hp) (C : Addr) (code : Value) (fp : List Addr) (pn : List (Addr × Obj)), Ag.handled = none → Room k Ag → PTs (gnCx X Ag s0 H0 (genEnv scope (cloFrom X.env.cells scope.names []) C code builtinsNs X.env) fp pn) ifs tt
  e : ∀ (Ag : Around) (s0 : Shared) (H0 : Hp) (C : Addr) (code : Value) (fp : List Addr) (pn : List (Addr × Obj)), Ag.handled = none → Room k Ag → PE (gnCx X Ag s0 H0 (genEnv scope (cloFrom X.env.cells scope.names []) C code builtinsNs X.env) fp pn) elt te
section
variable {X : Cx} {F : Fx} {W : Wd} {Wx : WX} {pos : Pos} {pins : List (Addr × Obj)} {σ : L2.St} {H : Hp}
theorem sum_call {k : Nat} {a : Addr} {s5 : Shared} {J : It} {elt iter tgE : Expr} {ifs : List Expr} {gpos : Pos} {scope : Scope} {own : List (Str × Nat)} {g : TG} {tt : TT} {te : TE} {Q : VK} (hr : Room (k + 1) X.A) (hfr : X.A.frames = some X.stack) (hc : X.calm = true) (hN : X.N.Nodup)
    (S : GnOk X.N X.env.scope scope own) (pr : GnParts X k scope tgE elt ifs g tt te) (M : GnMade X pins σ H scope tgE elt iter ifs gpos J a s5) (h : SumRq X g tt te σ (own.map (·.2)) Q J H) :
    wpAny (model X.prog X.w) X.A (call (.builtin "sum") [.ref a]) (EP X pins σ Q) X.xe s5 := by
  obtain ⟨len, Pp, Fi, h0, hT, hFi⟩ := h
  obtain ⟨s4, fp, tn, it, code, go, mm, gn, I4, os5, bare5, k45, ha1, ha2, hgo, hgo2, hgd, hns, T, st5, f4, hgen⟩ := M.ex
  refine call_function_tree F.kind_sum F.plain_sum F.entry_sum (F.args_sum1 _) ?_
  unfold Builtin.«sum»
  simp only [List.length_cons, List.length_nil]
  rw [if_neg (by decide)]
  refine wpAny_bind (wpAny_of_eq (show Builtin.Builtins.bindParams "sum" ["start"] 0 { } = pure [none] from rfl) ?_)
  refine wpAny_bind (wpAny_pyIter_gen (hgo2 _ hgo) ?_)
  refine wpAny_bind (wpAny_mkInt ?_)
  refine wpAny_bind (wpAny_pure ?_)
  simp only [List.forIn_cons, List.forIn_nil]
  refine wpAny_bind (wpAny_bind (wpAny_bind (wpAny_isInstance (T := "int") (b := false) (typeIs_int _ _ _) PySem.sub_int_str ?_)))
  simp only [Bool.false_eq_true, if_false]
  refine wpAny_pure (wpAny_bind (wpAny_bind (wpAny_isInstance (T := "int") (b := false) (typeIs_int _ _ _) PySem.sub_int_bytes ?_)))
  simp only [Bool.false_eq_true, if_false]
  refine wpAny_pure (wpAny_bind (wpAny_bind (wpAny_isInstance (T := "int") (b := false) (typeIs_int _ _ _) PySem.sub_int_bytearray ?_)))
  simp only [Bool.false_eq_true, if_false]
  refine wpAny_pure (wpAny_pure ?_)
  refine wpAny_bind (wpAny_newObj_type ?_)
  let Sa := s5.heap.objs.size
  let r : GnR := ⟨J, len, sumAcc Sa, Pp, fun ys y i H => (∃ z, y = .int z) ∧ Pp (ys ++ [y]) (i + 1) H, Fi⟩
  refine wpAny_pure ⟨plainId_quiet F.plain_sum_loop _, ?_⟩
  have hS : ∀ (x : Tok), (s5.heap.push (sumO 0 x 0)).get? Sa = some (sumO 0 x 0) := fun x => Heap.get?_push_size _ rfl
  obtain ⟨G, gn2, eX, hsz, ob, hfp, tk, hA, hat, back⟩ := gn_at (A := X.A.in1) (k := k) (r := r) (pl := [(Sa, sumO 0 s5.toks 0)]) (s6 := { s5 with heap := s5.heap.push (sumO 0 s5.toks 0), toks := s5.toks + 1 }) M S hN hc rfl hr.hd hfr (fun env => room_gn hr env)
    (fun b o e => Heap.get?_push_of_some _ e) rfl rfl (fun p hp => by rw [List.mem_singleton.mp hp]; exact ⟨Nat.le_refl _, hS _, fun v z => by cases z⟩) ⟨s5.toks, 0, rfl⟩ h0 pr.g pr.t pr.e (hT _)
  subst eX
  exact sum_gn hr.hd (room_deep hr) ob hfp tk hA rfl (fun ys y i H h => by obtain ⟨⟨z, e⟩, h⟩ := h; exact ⟨z, e, h⟩)
    (fun s' ys t' H' pl pv hI fi => by
      obtain ⟨Ag, d1, d2⟩ := hA
      exact ⟨.int (sumV ys), H', back Ag pl H' s' (hI Ag d1 d2), ⟨t', rfl⟩, hFi ys H' fi⟩) r.len 0 _ _ _ 0 (.inl rfl) hat (hS _)
theorem pe_sumG {k : Nat} {np gpos : Pos} {c P : Addr} {elt iter tgE : Expr} {e : Ex} {tg : Tg} {src : Src} {ifs : List Expr} {is : List Ex} {scope : Scope} {own : List (Str × Nat)} {t : TG} (hr : Room (k + 1) X.A) (hc : X.calm = true) (hN : X.N.Nodup)
    (hg : Gl X "sum") (hm : X.mg "sum" = none) (hv : bootBuiltins "sum" = some (.builtin "sum")) (TB : GxR.TabB X.base X.mg c P) (hcode : X.env.code = .ref c) (hP : P ∈ F.TG) (hTL : ∀ p ∈ F.TL, p.1 ≠ P)
    (ne : isB e = false) (pf : plainG iter = true) (ok : GnOk X.N X.env.scope scope own) (hvs : own.map (·.2) = tvars tg) (hi : PI X tgE iter (LI F Wx W src)) (hG : GOk F t tg) (pr : GnParts X k scope tgE elt ifs t (LTs F W is) (LE F Wx0 false (evE W e))) :
    PE X (.Call (.Name "sum" np) [.GeneratorExp elt [⟨tgE, iter, ifs, 0⟩] scope gpos] [] pos) (LE F Wx false (evE W (.co .sum e tg src is))) :=
  ⟨fun pins s σ H Q I h => gen_call hg hm hv (by decide) (by decide) (room_deep hr) TB hcode ok hi (plain_gen pf _) I (sum_read ne hG hvs hP hTL h) fun J H2 a s5 hq M => sum_call hr I.ok.frames hc hN ok pr M hq⟩
end
end Ev
end
section
set_option linter.all false
set_option autoImplicit false
set_option maxRecDepth 100000
set_option maxHeartbeats 1000000
/-! Ev, part GH: any, all of a generator expression. -/
namespace Ev
open PySem PySem.Spec PyProof.Rows L2

section
variable {G : GnW} {r : GnR} {a : Addr} {g : Nat}
theorem any_gn {A : Around} {R : Result → Shared → Prop} {Bk : Hp → Prop} (hh : A.handled = none) (hroom : A.depth < recursionLimit) (ob : GnOb G a g) (hfp : ∀ b ∈ G.fp, b < G.s0.heap.objs.size)
    (tk : ∀ i h h', G.tn i h → (∀ b ∈ G.fp, ∀ o, h.get? b = some o → h'.get? b = some o) → G.tn i h') (hA : ∃ Ag : Around, Ag.handled = none ∧ Ag.frames = some (G.cenv :: G.X.stack)) (hacc : r.Acc = fun _ pl => pl = [])
    (hYd : ∀ ys y i H, r.Yd ys y i H → ∃ c, y = .bl c ∧ (c = true → Bk H) ∧ (c = false → r.P (ys ++ [y]) (i + 1) H))
    (hB : ∀ s' H pl, Priv G pl → (∀ Ag : Around, Ag.handled = none → Ag.frames = some (G.cenv :: G.X.stack) → Inv (G.cx Ag) pl G.σ H s') → Bk H → R (.ok (.ret (.bool true))) s')
    (hR : ∀ s' ys H pl, Priv G pl → (∀ Ag : Around, Ag.handled = none → Ag.frames = some (G.cenv :: G.X.stack) → Inv (G.cx Ag) pl G.σ H s') → r.Fi ys H → R (.ok (.ret (.bool false))) s') :
    ∀ (n : Nat) (s : Shared), GnAt G r A.in1 a g n s → codeAny (model G.X.prog G.X.w) A (.builtin "any.loop" ⟨[.ref a], []⟩) R s := by
  have main : ∀ (n : Nat), (∀ m, n = m + 1 → ∀ s : Shared, GnAt G r A.in1 a g m s → codeAny (model G.X.prog G.X.w) A (.builtin "any.loop" ⟨[.ref a], []⟩) R s) →
      ∀ s : Shared, GnAt G r A.in1 a g n s → codeAny (model G.X.prog G.X.w) A (.builtin "any.loop" ⟨[.ref a], []⟩) R s := by
    intro n ih s hat
    refine codeAny_builtin F.entry_any_loop ?_
    rw [Around.under_plainId F.plain_any_loop _]
    show wpAny _ A.in1 (pyNext (.ref a) >>= _) _ _ s
    refine wpAny_bind (gn_next (A := A.in1) hh hroom ob hfp tk hA hat (fun v s1 ys y i H pl h0 hlt rv hac rest yd hk => ?_) (fun s1 ys H pl h0 hac pv hI fi => ?_))
    · rw [hacc] at hac
      subst hac
      obtain ⟨c, rfl, h1, h2⟩ := hYd _ _ _ _ yd
      obtain rfl : v = .bool c := rv
      obtain ⟨Ag, d1, d2⟩ := hA
      have bare1 : AllBare s1.gens := (rest.inv Ag d1 d2).bare
      refine wpAny_bind (wpAny_holding (wpAny_truthy_bool ?_))
      refine wpAny_bind (wpAny_letGo ?_)
      cases c with
      | true =>
        simp only [if_true]
        refine wpAny_bind (wpAny_rule (wpAny_pure ?_))
        exact hB s1 H [] rest.pv (fun Ag d1 d2 => rest.inv Ag d1 d2) (h1 rfl)
      | false =>
        simp only [Bool.false_eq_true, if_false]
        refine wpAny_pure ⟨plainId_quiet F.plain_any_loop _, ?_⟩
        obtain ⟨m, hm, hat2⟩ := hk (h2 rfl) [] s1 rfl (by rw [hacc]) ⟨rfl, bare1, rfl, fun _ _ _ e => e, fun p hp => by simp at hp⟩
        exact ih m hm s1 hat2
    · rw [hacc] at hac
      subst hac
      exact wpAny_bind (wpAny_rule (wpAny_pure (hR s1 ys H [] pv hI fi)))
  intro n
  induction n with
  | zero => exact main 0 fun m e => by cases e
  | succ m ih => exact main (m + 1) fun m' e => by cases e; exact ih
theorem all_gn {A : Around} {R : Result → Shared → Prop} {Bk : Hp → Prop} (hh : A.handled = none) (hroom : A.depth < recursionLimit) (ob : GnOb G a g) (hfp : ∀ b ∈ G.fp, b < G.s0.heap.objs.size)
    (tk : ∀ i h h', G.tn i h → (∀ b ∈ G.fp, ∀ o, h.get? b = some o → h'.get? b = some o) → G.tn i h') (hA : ∃ Ag : Around, Ag.handled = none ∧ Ag.frames = some (G.cenv :: G.X.stack)) (hacc : r.Acc = fun _ pl => pl = [])
    (hYd : ∀ ys y i H, r.Yd ys y i H → ∃ c, y = .bl c ∧ (c = false → Bk H) ∧ (c = true → r.P (ys ++ [y]) (i + 1) H))
    (hB : ∀ s' H pl, Priv G pl → (∀ Ag : Around, Ag.handled = none → Ag.frames = some (G.cenv :: G.X.stack) → Inv (G.cx Ag) pl G.σ H s') → Bk H → R (.ok (.ret (.bool false))) s')
    (hR : ∀ s' ys H pl, Priv G pl → (∀ Ag : Around, Ag.handled = none → Ag.frames = some (G.cenv :: G.X.stack) → Inv (G.cx Ag) pl G.σ H s') → r.Fi ys H → R (.ok (.ret (.bool true))) s') :
    ∀ (n : Nat) (s : Shared), GnAt G r A.in1 a g n s → codeAny (model G.X.prog G.X.w) A (.builtin "all.loop" ⟨[.ref a], []⟩) R s := by
  have main : ∀ (n : Nat), (∀ m, n = m + 1 → ∀ s : Shared, GnAt G r A.in1 a g m s → codeAny (model G.X.prog G.X.w) A (.builtin "all.loop" ⟨[.ref a], []⟩) R s) →
      ∀ s : Shared, GnAt G r A.in1 a g n s → codeAny (model G.X.prog G.X.w) A (.builtin "all.loop" ⟨[.ref a], []⟩) R s := by
    intro n ih s hat
    refine codeAny_builtin F.entry_all_loop ?_
    rw [Around.under_plainId F.plain_all_loop _]
    show wpAny _ A.in1 (pyNext (.ref a) >>= _) _ _ s
    refine wpAny_bind (gn_next (A := A.in1) hh hroom ob hfp tk hA hat (fun v s1 ys y i H pl h0 hlt rv hac rest yd hk => ?_) (fun s1 ys H pl h0 hac pv hI fi => ?_))
    · rw [hacc] at hac
      subst hac
      obtain ⟨c, rfl, h1, h2⟩ := hYd _ _ _ _ yd
      obtain rfl : v = .bool c := rv
      obtain ⟨Ag, d1, d2⟩ := hA
      have bare1 : AllBare s1.gens := (rest.inv Ag d1 d2).bare
      refine wpAny_bind (wpAny_holding (wpAny_truthy_bool ?_))
      refine wpAny_bind (wpAny_letGo ?_)
      cases c with
      | false =>
        simp only [Bool.false_eq_true, if_false]
        refine wpAny_bind (wpAny_rule (wpAny_pure ?_))
        exact hB s1 H [] rest.pv (fun Ag d1 d2 => rest.inv Ag d1 d2) (h1 rfl)
      | true =>
        simp only [if_true]
        refine wpAny_pure ⟨plainId_quiet F.plain_all_loop _, ?_⟩
        obtain ⟨m, hm, hat2⟩ := hk (h2 rfl) [] s1 rfl (by rw [hacc]) ⟨rfl, bare1, rfl, fun _ _ _ e => e, fun p hp => by simp at hp⟩
        exact ih m hm s1 hat2
    · rw [hacc] at hac
      subst hac
      exact wpAny_bind (wpAny_rule (wpAny_pure (hR s1 ys H [] pv hI fi)))
  intro n
  induction n with
  | zero => exact main 0 fun m e => by cases e
  | succ m ih => exact main (m + 1) fun m' e => by cases e; exact ih
end
section
variable {X : Cx} {F : Fx} {W : Wd} {Wx : WX} {pos : Pos}
/-- what the consumer of a generator expression is to know -/
def AnyRq (X : Cx) (b : Bool) (t : TG) (tt : TT) (te : TE) (σ : L2.St) (vs : List Nat) (Q : VK) : It → Hp → Prop := fun J H => ∃ (len : Nat) (Pp : List V → Nat → Hp → Prop) (Fi : List V → Hp → Prop), Pp [] 0 H ∧
  (∀ A : List V → List (Addr × Obj) → Prop, GnT X ⟨J, len, A, Pp, fun ys y i H => ∃ c, y = .bl c ∧ (c = b → Q (.bl b) H) ∧ (c = !b → Pp (ys ++ [y]) (i + 1) H), Fi⟩ t tt te (L2.wipe σ vs) vs) ∧ ∀ ys H, Fi ys H → Q (.bl !b) H
theorem until_cons (b : Bool) (body : D → M → R (Option D)) (x : D) (xs : List D) (m : M) : until' b body (x :: xs) m = (body x m).bind fun o m' => match o with
    | some (.bool c) => if c = b then .ok b m' else until' b body xs m'
    | some _ => .stuck
    | none => until' b body xs m' := rfl
theorem any_read {b : Bool} {ck : Ck} {elt : Ex} {tg : Tg} {src : Src} {ifs : List Ex} {t : TG} {vs : List Nat} {σ : L2.St} {H : Hp} {Q : VK} {P : Addr} (hck : ∀ body xs m, True → runCo ck body xs m = (until' b body xs m).bind fun b m' => .ok (.bool b) m') (ne : isB elt = false) (ht : GOk F t tg) (hvs : vs = tvars tg) (hP : P ∈ F.TG) (hTL : ∀ p ∈ F.TL, p.1 ≠ P)
    (h : LE F Wx false (evE W (.co ck elt tg src ifs)) σ H Q) : LI F Wx W src σ H fun J H1 => GxR.TabG H1 P ∧ ∀ H2, TabX P H1 H2 → AnyRq X b t (LTs F W ifs) (LE F Wx0 false (evE W elt)) σ vs Q J H2 := by
  subst hvs
  obtain ⟨ω, g, m, wr, S, h⟩ := h
  refine LG.of (wr := wr) S ?_
  show Fin F Wx wr σ (RelI F) _ ω m H (evSx W src wr g m)
  have e0 : evE W (.co ck elt tg src ifs) wr g m = (evS W src wr g m).bind fun r m1 => (until' b (coBody W elt tg ifs (lockW wr r.2) g) r.1 m1).bind fun b m' => .ok (.bool b) m' := by
    simp only [evE]
    rw [ev]
    refine (if_neg (by rw [ne]; exact Bool.false_ne_true)).trans ?_
    congr 1
    funext r m1
    exact hck _ _ _ trivial
  rw [e0] at h
  simp only [evSx]
  cases hs : evS W src wr g m with
  | stuck => rw [hs] at h; exact h
  | exc c m' => rw [hs] at h; exact h
  | ok r m1 =>
    obtain ⟨xs, p⟩ := r
    rw [hs] at h
    simp only [R.bind_ok] at h ⊢
    intro ω1 J H1 p1 hr
    obtain ⟨A, hA, wk⟩ := hr
    have hA : ∀ b, A b → AOk ω1 m1 g p b ∧ ∃ o, H1 b = some o ∧ ∀ ps, o ≠ .tbl ps := hA
    have wk : Walk F A ω1 H1 J xs := wk
    refine ⟨p1.tabs.1 P hP, fun H1' hT => ?_⟩
    have S1 := S.po p1
    let wr' := lockW wr p
    let body := coBody W elt tg ifs wr' g
    have p0 : Po F wr' ω1 m1 H1 ω1 m1 H1' := po_tab p1.cells p1.tabs hT hP hTL
    have hU : ∀ b, A b → ¬ Ub ω1 m1 wr' b := fun b hb => aok_ub S1 (hA b hb).1
    refine ⟨xs.length, fun ys i H2 => i ≤ xs.length ∧ ∃ ω2 m2, Po F wr' ω1 m1 H1 ω2 m2 H2 ∧ Fin F Wx wr σ (VRel F false) Q ω m H ((until' b body (xs.drop i) m2).bind fun b m' => .ok (.bool b) m'),
      fun ys H2 => Q (.bl !b) H2, ⟨Nat.zero_le _, ω1, m1, p0, h⟩, fun Ac => ⟨?_, ?_⟩, fun ys H h => h⟩
    · rintro ys H2 ⟨hi, ω2, m2, p2, hf⟩
      have hold : Hold F A ω1 H1 ω2 H2 := po_hold p1.cells p2 hU
      have hf : Fin F Wx wr σ (VRel F false) Q ω m H ((until' b body (xs.drop xs.length) m2).bind fun b m' => .ok (.bool b) m') := hf
      refine ⟨wk.stop ω2 H2 hold, ?_⟩
      rw [List.drop_length] at hf
      have hf : Fin F Wx wr σ (VRel F false) Q ω m H (.ok (.bool !b) m2) := hf
      have p12 : Po F wr ω m H ω2 m2 H2 := p1.trans S.ce (p2.mono (lockW_le wr p))
      exact hf ω2 (.bl !b) H2 p12 (.inl rfl)
    · rintro ys i H2 hlt ⟨hi, ω2, m2, p2, hf⟩
      have hlt : i < xs.length := hlt
      have hold : Hold F A ω1 H1 ω2 H2 := po_hold p1.cells p2 hU
      refine ⟨wk.go ω2 H2 i hold hlt, fun x H3 hy => ?_⟩
      obtain ⟨d, ω3, e1, p3, r3⟩ := wk.yld wr' ω2 m2 H2 i x H3 hold p2.cells p2.tabs hlt hy
      have p23 := p2.trans p1.cells p3
      rw [drop_cons e1, until_cons] at hf
      have S3 : SlRel F ω3 (wipeG g (tvars tg)) m2 (L2.wipe σ (tvars tg)) H3 := (S1.sl.po p1.cells p23).wipe _
      cases hb : bindT tg d (wipeG g (tvars tg)) with
      | none =>
        simp only [body, coBody, hb] at hf
        exact hf.elim
      | some g' =>
        have hbody : body d m2 = R.nox ((evI W ifs wr' g' m2).bind fun b m' => if b then (ev W elt wr' g' m').bind fun y m'' => .ok (some y) m'' else .ok none m') := by
          simp only [body, coBody, hb]
        rw [hbody] at hf
        refine ht ω3 H3 _ m2 _ d x g' _ S3 r3 hb fun σ' S' hl' hk' => ⟨?_, ?_⟩
        · exact (wipe_eq hl' hk').trans wipe_wipe
        · have St3 : Stt F ω3 g' m2 σ' H3 := ⟨S', p23.cells, p23.tabs⟩
          refine LG.of (wr := wr') St3 ?_
          show Fin F Wx0 wr' σ' _ _ ω3 m2 H3 (evI W ifs wr' g' m2)
          cases ht2 : evI W ifs wr' g' m2 with
          | stuck => rw [ht2] at hf; exact hf.elim
          | exc c m' => rw [ht2] at hf; exact hf.elim
          | ok bb m4 =>
            rw [ht2] at hf
            intro ω4 b' H4 p4 hb'
            subst hb'
            have p24 := p23.trans p1.cells p4
            simp only [R.bind_ok] at hf
            cases bb with
            | false =>
              simp only [Bool.false_eq_true, if_false, R.nox, R.bind_ok] at hf ⊢
              exact ⟨hlt, ω4, m4, p24, hf⟩
            | true =>
              simp only [if_true] at hf ⊢
              refine LG.of (wr := wr') (St3.po p4) ?_
              show Fin F Wx0 wr' σ' (VRel F false) _ ω4 m4 H4 (ev W elt wr' g' m4)
              cases hx : ev W elt wr' g' m4 with
              | stuck => rw [hx] at hf; exact hf.elim
              | exc c m' => rw [hx] at hf; exact hf.elim
              | ok y m5 =>
                rw [hx] at hf
                intro ω5 v H5 p5 r5
                have p25 := p24.trans p1.cells p5
                simp only [R.bind_ok, R.nox] at hf
                cases y with
                | bool c =>
                  simp only at hf
                  have ev : v = .bl c := by
                    rcases r5 with r5 | ⟨z2, _⟩
                    · exact r5
                    · cases z2
                  subst ev
                  refine ⟨c, rfl, fun e => ?_, fun e => ?_⟩
                  · subst e
                    simp only [if_true, R.bind_ok] at hf
                    have p12 : Po F wr ω m H ω5 m5 H5 := p1.trans S.ce (p25.mono (lockW_le wr p))
                    exact hf ω5 (.bl c) H5 p12 (.inl rfl)
                  · rw [if_neg (by rw [e]; cases b <;> decide)] at hf
                    exact ⟨hlt, ω5, m5, p25, hf⟩
                | _ => exact hf.elim
end
section
variable {X : Cx} {F : Fx} {W : Wd} {Wx : WX} {pos : Pos} {pins : List (Addr × Obj)} {σ : L2.St} {H : Hp}
theorem any_call {k : Nat} {a : Addr} {s5 : Shared} {J : It} {elt iter tgE : Expr} {ifs : List Expr} {gpos : Pos} {scope : Scope} {own : List (Str × Nat)} {g : TG} {tt : TT} {te : TE} {Q : VK} (hr : Room (k + 1) X.A) (hfr : X.A.frames = some X.stack) (hc : X.calm = true) (hN : X.N.Nodup)
    (S : GnOk X.N X.env.scope scope own) (pr : GnParts X k scope tgE elt ifs g tt te) (M : GnMade X pins σ H scope tgE elt iter ifs gpos J a s5) (h : AnyRq X true g tt te σ (own.map (·.2)) Q J H) :
    wpAny (model X.prog X.w) X.A (call (.builtin "any") [.ref a]) (EP X pins σ Q) X.xe s5 := by
  obtain ⟨len, Pp, Fi, h0, hT, hFi⟩ := h
  obtain ⟨s4, fp, tn, it, code, go, mm, gn, I4, os5, bare5, k45, ha1, ha2, hgo, hgo2, hgd, hns, T, st5, f4, hgen⟩ := M.ex
  refine call_function_tree F.kind_any F.plain_any F.entry_any (F.args_any1 _) ?_
  unfold Builtin.«any»
  refine wpAny_bind (m := oneArg "any" _) (wpAny_pure ?_)
  refine wpAny_bind (wpAny_pyIter_gen (hgo2 _ hgo) ?_)
  let r : GnR := ⟨J, len, fun _ pl => pl = [], Pp, fun ys y i H => ∃ c, y = .bl c ∧ (c = true → Q (.bl true) H) ∧ (c = !true → Pp (ys ++ [y]) (i + 1) H), Fi⟩
  refine wpAny_pure ⟨plainId_quiet F.plain_any_loop _, ?_⟩
  obtain ⟨G, gn2, eX, hsz, ob, hfp, tk, hA, hat, back⟩ := gn_at (A := X.A.in1) (k := k) (r := r) (pl := []) (s6 := s5) M S hN hc rfl hr.hd hfr (fun env => room_gn hr env)
    (fun b o e => e) rfl rfl (fun p hp => by simp at hp) rfl h0 pr.g pr.t pr.e (hT _)
  subst eX
  exact any_gn (Bk := fun H => Q (.bl true) H) hr.hd (room_deep hr) ob hfp tk hA rfl (fun ys y i H h => h)
    (fun s' H' pl pv hI fi => by
      obtain ⟨Ag, d1, d2⟩ := hA
      exact ⟨.bl true, H', back Ag pl H' s' (hI Ag d1 d2), rfl, fi⟩)
    (fun s' ys H' pl pv hI fi => by
      obtain ⟨Ag, d1, d2⟩ := hA
      exact ⟨.bl false, H', back Ag pl H' s' (hI Ag d1 d2), rfl, hFi ys H' fi⟩) r.len s5 hat
theorem all_call {k : Nat} {a : Addr} {s5 : Shared} {J : It} {elt iter tgE : Expr} {ifs : List Expr} {gpos : Pos} {scope : Scope} {own : List (Str × Nat)} {g : TG} {tt : TT} {te : TE} {Q : VK} (hr : Room (k + 1) X.A) (hfr : X.A.frames = some X.stack) (hc : X.calm = true) (hN : X.N.Nodup)
    (S : GnOk X.N X.env.scope scope own) (pr : GnParts X k scope tgE elt ifs g tt te) (M : GnMade X pins σ H scope tgE elt iter ifs gpos J a s5) (h : AnyRq X false g tt te σ (own.map (·.2)) Q J H) :
    wpAny (model X.prog X.w) X.A (call (.builtin "all") [.ref a]) (EP X pins σ Q) X.xe s5 := by
  obtain ⟨len, Pp, Fi, h0, hT, hFi⟩ := h
  obtain ⟨s4, fp, tn, it, code, go, mm, gn, I4, os5, bare5, k45, ha1, ha2, hgo, hgo2, hgd, hns, T, st5, f4, hgen⟩ := M.ex
  refine call_function_tree F.kind_all F.plain_all F.entry_all (F.args_all1 _) ?_
  unfold Builtin.«all»
  refine wpAny_bind (m := oneArg "all" _) (wpAny_pure ?_)
  refine wpAny_bind (wpAny_pyIter_gen (hgo2 _ hgo) ?_)
  let r : GnR := ⟨J, len, fun _ pl => pl = [], Pp, fun ys y i H => ∃ c, y = .bl c ∧ (c = false → Q (.bl false) H) ∧ (c = !false → Pp (ys ++ [y]) (i + 1) H), Fi⟩
  refine wpAny_pure ⟨plainId_quiet F.plain_all_loop _, ?_⟩
  obtain ⟨G, gn2, eX, hsz, ob, hfp, tk, hA, hat, back⟩ := gn_at (A := X.A.in1) (k := k) (r := r) (pl := []) (s6 := s5) M S hN hc rfl hr.hd hfr (fun env => room_gn hr env)
    (fun b o e => e) rfl rfl (fun p hp => by simp at hp) rfl h0 pr.g pr.t pr.e (hT _)
  subst eX
  exact all_gn (Bk := fun H => Q (.bl false) H) hr.hd (room_deep hr) ob hfp tk hA rfl (fun ys y i H h => h)
    (fun s' H' pl pv hI fi => by
      obtain ⟨Ag, d1, d2⟩ := hA
      exact ⟨.bl false, H', back Ag pl H' s' (hI Ag d1 d2), rfl, fi⟩)
    (fun s' ys H' pl pv hI fi => by
      obtain ⟨Ag, d1, d2⟩ := hA
      exact ⟨.bl true, H', back Ag pl H' s' (hI Ag d1 d2), rfl, hFi ys H' fi⟩) r.len s5 hat
theorem pe_anyG {k : Nat} {np gpos : Pos} {c P : Addr} {elt iter tgE : Expr} {e : Ex} {tg : Tg} {src : Src} {ifs : List Expr} {is : List Ex} {scope : Scope} {own : List (Str × Nat)} {t : TG} (hr : Room (k + 1) X.A) (hc : X.calm = true) (hN : X.N.Nodup)
    (hg : Gl X "any") (hm : X.mg "any" = none) (hv : bootBuiltins "any" = some (.builtin "any")) (TB : GxR.TabB X.base X.mg c P) (hcode : X.env.code = .ref c) (hP : P ∈ F.TG) (hTL : ∀ p ∈ F.TL, p.1 ≠ P)
    (ne : isB e = false) (pf : plainG iter = true) (ok : GnOk X.N X.env.scope scope own) (hvs : own.map (·.2) = tvars tg) (hi : PI X tgE iter (LI F Wx W src)) (hG : GOk F t tg) (pr : GnParts X k scope tgE elt ifs t (LTs F W is) (LE F Wx0 false (evE W e))) :
    PE X (.Call (.Name "any" np) [.GeneratorExp elt [⟨tgE, iter, ifs, 0⟩] scope gpos] [] pos) (LE F Wx false (evE W (.co .any e tg src is))) :=
  ⟨fun pins s σ H Q I h => gen_call hg hm hv (by decide) (by decide) (room_deep hr) TB hcode ok hi (plain_gen pf _) I (any_read (b := true) (fun _ _ _ _ => rfl) ne hG hvs hP hTL h) fun J H2 a s5 hq M => any_call hr I.ok.frames hc hN ok pr M hq⟩
theorem pe_allG {k : Nat} {np gpos : Pos} {c P : Addr} {elt iter tgE : Expr} {e : Ex} {tg : Tg} {src : Src} {ifs : List Expr} {is : List Ex} {scope : Scope} {own : List (Str × Nat)} {t : TG} (hr : Room (k + 1) X.A) (hc : X.calm = true) (hN : X.N.Nodup)
    (hg : Gl X "all") (hm : X.mg "all" = none) (hv : bootBuiltins "all" = some (.builtin "all")) (TB : GxR.TabB X.base X.mg c P) (hcode : X.env.code = .ref c) (hP : P ∈ F.TG) (hTL : ∀ p ∈ F.TL, p.1 ≠ P)
    (ne : isB e = false) (pf : plainG iter = true) (ok : GnOk X.N X.env.scope scope own) (hvs : own.map (·.2) = tvars tg) (hi : PI X tgE iter (LI F Wx W src)) (hG : GOk F t tg) (pr : GnParts X k scope tgE elt ifs t (LTs F W is) (LE F Wx0 false (evE W e))) :
    PE X (.Call (.Name "all" np) [.GeneratorExp elt [⟨tgE, iter, ifs, 0⟩] scope gpos] [] pos) (LE F Wx false (evE W (.co .all e tg src is))) :=
  ⟨fun pins s σ H Q I h => gen_call hg hm hv (by decide) (by decide) (room_deep hr) TB hcode ok hi (plain_gen pf _) I (any_read (b := false) (fun _ _ _ _ => rfl) ne hG hvs hP hTL h) fun J H2 a s5 hq M => all_call hr I.ok.frames hc hN ok pr M hq⟩
end
end Ev
end
section
set_option linter.all false
set_option autoImplicit false
set_option maxRecDepth 100000
set_option maxHeartbeats 1000000
/-! Ev, part HA: a lambda is made, its object known from then on. -/
namespace Ev
open PySem PySem.Spec PyProof.Rows L2 LamX

/-- the object at f is o -/
def FunO (f : Addr) (o : Obj) : HO := .ext fun h => h.get? f = some o
theorem funO_ne {f : Addr} {o : Obj} (ps : Array Value) : FunO f o ≠ .tbl ps := fun z => by
  unfold FunO at z
  cases z
theorem funO_at {P : Program} {w : World} {H : Hp} {h : Heap} {f : Addr} {o : Obj} (hok : HOk P w H h) (e : H f = some (FunO f o)) : h.get? f = some o := by
  obtain ⟨z, _, _⟩ := hok f _ e
  exact z
/-- what a lambda's making leaves -/
structure LamMade (T : List (Addr × Str)) (P : Addr) (q : Str) (H H1 : Hp) (f c' : Addr) (o : Obj) : Prop where
  keep : ∀ b u, H b = some u → b ≠ P → H1 b = some u
  tab : ∃ ps more : Array Value, H P = some (.tbl ps) ∧ H1 P = some (.tbl (ps ++ more))
  tabs : Tabs T H1
  nf : H f = none
  fo : H1 f = some (FunO f o)
  co : H1 c' = some (CodeO c' q)
section
variable {X : Cx} {pins : List (Addr × Obj)} {σ : L2.St} {H : Hp} {s : Shared}
theorem inv_lam {o : Obj} {t' : Nat} (I : Inv X pins σ H s) (hf : o.isFreed = false) : Inv X pins σ (upd H s.heap.objs.size (FunO s.heap.objs.size o)) { s with heap := s.heap.push o, toks := t' } := by
  refine I.laid (a := s.heap.objs.size) (fun b u e => Heap.get?_push_of_some _ e) (Nat.le_refl _) ?_
  have e : (s.heap.push o).get? s.heap.objs.size = some o := Heap.get?_push_size _ hf
  exact ⟨e, ⟨_, e⟩, fun h1 h2 z st => st _ z⟩
theorem lam_make3 {T : List (Addr × Str)} {c P : Addr} {params : Arguments} {body : Expr} {scope : Scope} {pos : Pos} {E : Value → Shared → Prop} {Q : Value → Shared → Prop} (I : Inv X pins σ H s) (TB : LamX.TabB X.base X.mg c P) (hcode : X.env.code = .ref c)
    (hm : (P, X.env.qual ++ "<lambda>") ∈ T) (hu : ∀ p ∈ T, p.1 = P → p.2 = X.env.qual ++ "<lambda>") (hT : Tabs T H) (hdef : defaultsOf params X.env = ([], [])) (hfree : ∀ y ∈ scope.names, y.2 = .free → ∃ c, X.env.cells.lookup y.1 = some c)
    (h : ∀ (f c' : Addr) (pm ctv : Value) (H1 : Hp) (s' : Shared), Inv X pins σ H1 s' →
      LamMade T P (X.env.qual ++ "<lambda>") H H1 f c' (PySem.W.kla_obj "<lambda>" (X.env.qual ++ "<lambda>") params body scope (cloFrom X.env.cells scope.names []) pm c' ctv) → Q (.ref f) s') :
    wpAny (model X.prog X.w) X.A (eval (.Lambda params body scope pos) X.env) Q E s := by
  obtain ⟨ps, hP, ht, ha⟩ := hT _ hm
  refine PySem.W.kla_eval hdef ?_
  have bP : s.heap.BuiltinsAt X.mg P := TB.bm.keeps I.bk
  have hP' : s.heap.get? P = some { cls := .none, data := .fields ps } := I.hok P _ hP
  cases hc : codeAmong pos ps.toList with
  | none =>
    refine PySem.W.kla_makeFunction (mg := X.mg) (c := c) (P := P) (ps := ps) (closure_ok hfree) I.ok.glob (I.mod.glob.keeps I.bk) hcode (TB.code.keeps I.bk) hP' ht hc TB.gP bP fun c' ctv h' tk hx hge hlt hrec htb => ?_
    obtain ⟨c2, oc, vs, t, e2, hoc, hd, hv⟩ := hrec
    cases e2
    have nC : H c' = none := I.hok.fresh hge
    have I1 := inv_table (t' := tk) (more := #[rawInt pos.line, rawInt pos.col, .ref c']) (h' := h') I hP (fun b o hb e => hx b o hb e) htb hge ⟨oc, vs, t, hoc, hd, hv⟩
    have nF := I1.hok.fresh (Nat.le_refl h'.objs.size)
    have hE : ∀ b u, H b = some u → b ≠ P → upd (upd H P (.tbl (ps ++ #[rawInt pos.line, rawInt pos.col, .ref c']))) c' (CodeO c' (X.env.qual ++ "<lambda>")) b = some u := fun b u e n => by
      rw [upd_ne (ne_of_none e nC), upd_ne n]
      exact e
    have nP : ∀ {b : Addr} {q : Str}, H b = some (CodeO b q) → b ≠ P := fun {b q} e z => by
      rw [z, hP] at e
      exact codeO_ne _ (Option.some.inj e).symm
    have eL : (ps ++ #[rawInt pos.line, rawInt pos.col, .ref c']).toList = ps.toList ++ [rawInt pos.line, rawInt pos.col, .ref c'] := by simp
    have T1 : Tabs T (upd (upd H P (.tbl (ps ++ #[rawInt pos.line, rawInt pos.col, .ref c']))) c' (CodeO c' (X.env.qual ++ "<lambda>"))) := fun p hp => by
      by_cases hb : p.1 = P
      · rw [hu p hp hb, hb]
        refine ⟨_, by rw [upd_ne (ne_of_none hP nC), upd_same], by rw [eL]; exact PySem.TriplesOk_snoc _ _ _ _ ht, fun p' cv hcv => ?_⟩
        rw [eL] at hcv
        rcases LamX.among_app _ ht hcv with z | z
        · obtain ⟨c0, e1, e2⟩ := ha p' cv z
          exact ⟨c0, e1, hE _ _ e2 (nP e2)⟩
        · exact ⟨c', z, upd_same⟩
      · obtain ⟨ps', a1, a2, a3⟩ := hT p hp
        refine ⟨ps', by rw [upd_ne (ne_of_none a1 nC), upd_ne hb]; exact a1, a2, fun p' cv hcv => ?_⟩
        obtain ⟨c0, e1, e2⟩ := a3 p' cv hcv
        exact ⟨c0, e1, hE _ _ e2 (nP e2)⟩
    have I2 := inv_lam (t' := tk) (o := PySem.W.kla_obj "<lambda>" (X.env.qual ++ "<lambda>") params body scope (cloFrom X.env.cells scope.names []) ((X.mg "__name__").getD .none) c' ctv) I1 rfl
    have up : ∀ {b : Addr} {u : HO}, (upd (upd H P (.tbl (ps ++ #[rawInt pos.line, rawInt pos.col, .ref c']))) c' (CodeO c' (X.env.qual ++ "<lambda>"))) b = some u → ∀ x : HO, upd (upd (upd H P (.tbl (ps ++ #[rawInt pos.line, rawInt pos.col, .ref c']))) c' (CodeO c' (X.env.qual ++ "<lambda>"))) h'.objs.size x b = some u := fun {b u} e x => by
      rw [upd_ne (ne_of_none e nF)]
      exact e
    refine h h'.objs.size c' ((X.mg "__name__").getD .none) ctv _ _ I2 ⟨fun b u e n => up (hE b u e n) _, ⟨ps, _, hP, up (by rw [upd_ne (ne_of_none hP nC), upd_same]) _⟩, T1.ext fun b u e => up e _, I.hok.fresh (Nat.le_trans hge (Nat.le_of_lt hlt)), upd_same, up upd_same _⟩
  | some cv =>
    obtain ⟨c', e, hco⟩ := ha pos cv hc
    subst e
    refine PySem.W.kla_makeFunctionHit (mg := X.mg) (c := c) (P := P) (ps := ps) (closure_ok hfree) I.ok.glob (I.mod.glob.keeps I.bk) hcode (TB.code.keeps I.bk) hP' ht hc bP fun ctv h' tk hx hsz => ?_
    have I1 : Inv X pins σ H { s with heap := h', toks := tk } := I.kept hx
    have nF := I1.hok.fresh (Nat.le_refl h'.objs.size)
    have I2 := inv_lam (t' := tk) (o := PySem.W.kla_obj "<lambda>" (X.env.qual ++ "<lambda>") params body scope (cloFrom X.env.cells scope.names []) ((X.mg "__name__").getD .none) c' ctv) I1 rfl
    have up : ∀ {b : Addr} {u : HO}, H b = some u → ∀ x : HO, upd H h'.objs.size x b = some u := fun {b u} e x => by
      rw [upd_ne (ne_of_none e nF)]
      exact e
    exact h h'.objs.size c' ((X.mg "__name__").getD .none) ctv _ _ I2 ⟨fun b u e n => up e _, ⟨ps, #[], hP, by simpa using up hP _⟩, hT.ext fun b u e => up e _, nF, upd_same, up hco _⟩
end
end Ev
end
section
set_option linter.all false
set_option autoImplicit false
set_option maxRecDepth 100000
set_option maxHeartbeats 1000000
/-! Ev, part HB: a list comprehension of which no item passes; its tests are told of the def's own state. -/
namespace Ev
open PySem PySem.Spec PyProof.Rows L2

/-- [elt for tgE in iter if ..], all n items fail -/
def tNone (wi : TI) (g : TG) (tt : L2.St → TT) (vs : List Nat) : TE := fun σ H Q => wi σ H fun J H1 => ∀ D, H1 D = none → ∃ (n : Nat) (W : Nat → Hp → Prop), W 0 (upd H1 D (.lst [])) ∧ ∀ i H, W i H →
  (i = n ∧ J.stop i H ∧ Q (.ref D) H) ∨ (i < n ∧ J.go i H ∧ ∀ x H', J.yld i H x H' → g x (L2.wipe σ vs) H' fun σ2 H2 => L2.wipe σ2 vs = L2.wipe σ vs ∧ tt σ σ2 H2 fun b H3 => b = false ∧ W (i + 1) H3)
section
variable {X : Cx} {pins : List (Addr × Obj)} {σ : L2.St} {H : Hp} {s : Shared}
theorem none_core {Q : VK} {elt tgE iter : Expr} {ifs : List Expr} {scope : Scope} {own : List (Str × Nat)} {pos : Pos} {wi : TI} {g : TG} {tt : L2.St → TT} (calm : X.calm = true) (nd : X.N.Nodup) (I : Inv X pins σ H s) (src : PI X tgE iter wi) (B : BlkOk X.N X.env.scope scope own)
    (pf : plainE iter = true) (tg : ∀ (s : Shared) (H : Hp) (C : Addr) (cl : List (Str × Addr)) (fp : List Addr), PG (X.blk s H scope (compEnvC scope cl C X.env) fp) tgE g)
    (test : ∀ (s : Shared) (H : Hp) (C : Addr) (cl : List (Str × Addr)) (fp : List Addr), (∀ pins' σ' H' s', Inv (X.blk s H scope (compEnvC scope cl C X.env) fp) pins' σ' H' s' → Inv X pins σ H' s') → PTs (X.blk s H scope (compEnvC scope cl C X.env) fp) ifs (tt σ)) (h : tNone wi g tt (own.map (·.2)) σ H Q) :
    wpAny (model X.prog X.w) X.A (eval (.ListComp elt [⟨tgE, iter, ifs, 0⟩] scope pos) X.env) (EP X pins σ Q) X.xe s := by
  rw [eval_ListComp]
  have outer : ∀ y ∈ scope.names, y.2 = .free → ∃ c, X.env.cells.lookup y.1 = some c := fun y hy e => (B.free y hy e).elim (fun k => I.ok.has _ (.inl k)) fun k => I.ok.has _ (.inr k)
  refine wpAny_comprehension_free rfl (plain_fold pf _) (closure_ok outer) B.kind (fun y hy e => (B.uniq y hy).trans (congrArg some e)) (thn (src.run pins s σ H _ I h) fun v0 t0 hv => thn hv fun v1 t1 hw => ?_)
  obtain ⟨it, fp, tn, J, Hs, rfl, Is, T, sts, fs, turns⟩ := hw
  refine wpAny_newObj_type (newEnv_comp ?_) (by show 0 ≤ sizeLine; decide)
  have fresh : Hs t1.heap.objs.size = none := Is.hok.fresh (Nat.le_refl _)
  obtain ⟨n, W, start, turn⟩ := turns _ fresh
  let D := t1.heap.objs.size
  let t2 : Shared := { t1 with heap := t1.heap.push { cls := .type "list", data := .seq ([] : List Value).toArray } }
  let HD := upd Hs D (.lst [])
  have push : ∀ b o, t1.heap.get? b = some o → t2.heap.get? b = some o := fun b o e => Heap.get?_push_of_some _ e
  have ID : Inv X pins σ HD t2 := Is.laid (t' := t1.toks) push (Nat.le_refl _) ⟨Nat.zero_le _, [], 0, .nil, Heap.get?_push_size _ rfl⟩
  have small : ∀ b ∈ fp, b < D := fun b hb => by
    obtain ⟨o, e, _⟩ := T.obj _ _ sts b hb
    exact Heap.lt_size e
  have fD : ∀ b ∈ fp, FpOk X pins HD b ∧ b < t2.heap.objs.size := fun b hb => by
    refine ⟨⟨(upd_ne (Nat.ne_of_lt (small b hb))).trans (fs b hb).1, (fs b hb).2⟩, ?_⟩
    show b < (t1.heap.push _).objs.size
    rw [Heap.size_push]
    exact Nat.lt_succ_of_lt (small b hb)
  let cl := cellsFrom (t2.heap.objs.size + 1) scope.names (cloFrom X.env.cells scope.names [])
  let ce := compEnvC scope cl t2.heap.objs.size X.env
  let t3 : Shared := { t2 with heap := pushCells (t2.heap.push { cls := .type "dict", data := .dict #[] }) scope.names }
  have IB : Inv (X.blk t2 HD scope ce fp) [] (L2.wipe σ (own.map (·.2))) HD t3 := block_start ID B nd fD
  have tn3 : tn 0 t3.heap := T.keep _ _ _ sts fun b _ o e => pushCells_keeps _ _ _ _ (Heap.get?_push_of_some _ (push b o e))
  have ptg := tg t2 HD t2.heap.objs.size cl fp
  have home : ∀ pins' σ' H' s', Inv (X.blk t2 HD scope ce fp) pins' σ' H' s' → Inv X pins σ H' s' := fun pins' σ' H' s' J => ID.call' (ch := fp) J.os J.base J.hok J.bare fun b hb => ⟨(fD b hb).1.2.2.2.1, (fD b hb).1.2.1, (fD b hb).1.2.2.2.2.1, (fD b hb).1.2.2.2.2.2⟩
  have pts := test t2 HD t2.heap.objs.size cl fp home
  have ready : ∀ {σ' : L2.St} {H' : Hp} {s' : Shared}, Inv (X.blk t2 HD scope ce fp) [] σ' H' s' → (∀ b ∈ fp, H' b = none) → ∀ b ∈ fp, FpOk (X.blk t2 HD scope ce fp) [] H' b := fun {σ' H' s'} I' none b hb =>
    ⟨none b hb, (I'.ok.exf b hb).1, I'.ok.exfs b hb, .inl hb, fun x c e => (I'.ok.exf b hb).2 x c e, fun p hp => by
      have hp : p ∈ ([] : List (Addr × Obj)) ++ [] := hp
      simp at hp⟩
  have loop : codeAny (model X.prog X.w) X.A (.compLoop (.ListComp elt [⟨tgE, iter, ifs, 0⟩] scope pos) 0 (.ref it) (.ref D) ce) (compPost (model X.prog X.w) X.A X.xe none (EP X pins σ Q) (.ref D) t2.heap.objs.size) t3 := by
    refine compLoop_any (fun k s' => ∃ i H', i + k = n ∧ Inv (X.blk t2 HD scope ce fp) [] (L2.wipe σ (own.map (·.2))) H' s' ∧ tn i s'.heap ∧ (∀ b ∈ fp, H' b = none) ∧ W i H') ?_ n ⟨0, HD, Nat.zero_add n, IB, tn3, fun b hb => (fD b hb).1.1, start⟩
    rintro k u0 ⟨i, H0, hk, I0, tn0, no0, w0⟩
    rcases turn i H0 w0 with ⟨_, stop, q⟩ | ⟨hlt, go, step⟩
    · refine thnF (T.done (X.blk t2 HD scope ce fp) rfl rfl rfl calm i [] u0 _ H0 (fun _ _ => False) I0 (ready I0 no0) tn0 stop) fun r u1 ⟨e, I1⟩ => ?_
      subst e
      have back : Inv X pins σ H0 u1 := home _ _ _ _ I1
      obtain ⟨m, hn, _⟩ := I1.loc
      have nC : H0 t2.heap.objs.size = none := I1.free
      refine ⟨m, hn, fun h'' sb => ?_⟩
      obtain ⟨f0, f1, f2, f3, f4, f5⟩ := ID.fpOk (Nat.le_refl _) nC
      exact ⟨.ref D, H0, back.turned (t' := u1.toks) (fun b o hb e => (sb.2 b hb).trans e) f0 f1 f3 f4 f5, rfl, q⟩
    · refine thnF (T.item (X.blk t2 HD scope ce fp) rfl rfl rfl calm i [] u0 _ H0 (fun _ _ => False) I0 (ready I0 no0) tn0 go) fun r u1 ⟨v, e, h1⟩ => ?_
      subst e
      refine thnF h1 fun _ u2 ⟨x, H2, I2, rx, yx, tn2, no2⟩ => ?_
      refine thnF (ptg.run _ u2 _ H2 x v _ (I2.pinned (ready I2 no2) (T.obj _ _ tn2)) rx (step x H2 yx)) fun _ u3 ⟨σ3, H3, I3, hw, q3⟩ => ?_
      refine thnF (pts.run _ u3 σ3 H3 _ I3 q3) fun b u4 ⟨H4, I4, eb, w4⟩ => ?_
      subst eb
      have pinned : ∀ b ∈ fp, ∀ o, u2.heap.get? b = some o → u4.heap.get? b = some o ∧ H4 b = none := fun b hb o e =>
        let z := I4.pin (b, o) (List.mem_append_right _ (List.mem_append_right _ (mem_pinsAt hb e)))
        ⟨z.1, z.2.1⟩
      obtain ⟨l1, l2⟩ := wipe_weak hw
      refine ⟨k - 1, by omega, i + 1, H4, by omega, (I4.unpinned (pins := [])).weak l1 l2, T.keep _ _ _ tn2 fun b hb o e => (pinned b hb o e).1, fun b hb => ?_, w4⟩
      obtain ⟨o, e, _⟩ := T.obj _ _ tn2 b hb
      exact (pinned b hb o e).2
  exact codeAny_compStart_list loop (T.self X.A 0 _ _ _ tn3 loop)
end
end Ev
end
section
set_option linter.all false
set_option autoImplicit false
set_option maxRecDepth 100000
set_option maxHeartbeats 1000000
/-! Ev, part HC: a lambda that is known is called by the def that was handed it. -/
namespace Ev
open PySem PySem.Spec PyProof.Rows L2 LamX

/-- a lambda's words -/
structure Lm where
  params : Arguments
  body : Expr
  scope : Scope
  e : Ex
abbrev Lm.obj (l : Lm) (q : Str) (cells : List (Str × Addr)) (c' : Addr) (pm ctv : Value) : Obj := PySem.W.kla_obj "<lambda>" q l.params l.body l.scope (cloFrom cells l.scope.names []) pm c' ctv
structure LmOk (X : Cx) (l : Lm) : Prop where
  sc : LamS X.env.scope l.scope
  bind : ∀ (q : Str) (cl : List (Str × Addr)) (pm cv ctv : Value), bindArgs (PySem.W.kla_fn "<lambda>" q l.params l.body l.scope cl pm cv ctv) ⟨[], []⟩ = pure []
section
variable {X : Cx} {pins : List (Addr × Obj)} {σ : L2.St} {H : Hp} {s : Shared}
theorem act_known {Eg : XK} {Ng : List Str} {qg : Str} {sg : Scope} {g f c' : Addr} {cdg pm ctv : Value} {l : Lm} {k i : Nat} {a : Str} {pn : List (Addr × Obj)} {xe : Value → Shared → Prop} {W : WX} {E : XK} {tb : TE} {p1 p2 : Pos}
    (I : Inv X pins σ H s) (L : LmOk X l) (tk : Takes ((cxOf C8.CX0 X.prog X.w X.K X.mg X.base Ng qg sg g cdg X.A X.stack s H Eg).tr pn xe) W) (hW : ∀ cls d σ' H', E cls d H' → W cls d σ' H') (hr : Room (k + 1) (X.A.deeper (envOfC qg sg s.heap.objs.size g cdg)))
    (body : ∀ (A : Around) (outer : List Env) (s : Shared) (H : Hp), Room k (A.deeper (lamEnv X l.scope s.heap.objs.size f c')) → PE (lamCx X A outer s H E l.scope f c') l.body tb)
    (hN : Ng[i]? = some a) (hv : Vis sg a) (hd : (a == ("__debug__" : Str)) = false) (hcd : (a == ("__classdict__" : Str)) = false) :
    PE ((cxOf C8.CX0 X.prog X.w X.K X.mg X.base Ng qg sg g cdg X.A X.stack s H Eg).tr pn xe) (.Call (.Name a p1) [] [] p2)
      (fun σZ HZ Q => σZ[i]? = some (some (.ref f)) ∧ HZ c' = some (CodeO c' (X.env.qual ++ "<lambda>")) ∧ HZ f = some (FunO f (l.obj (X.env.qual ++ "<lambda>") X.env.cells c' pm ctv)) ∧ tb σ HZ Q) := by
  let Z : Cx := (cxOf C8.CX0 X.prog X.w X.K X.mg X.base Ng qg sg g cdg X.A X.stack s H Eg).tr pn xe
  refine ⟨fun pz z0 σZ HZ Q IZ ⟨at_, code, known, rd⟩ => ?_⟩
  refine wpAny_Call_Name_kw (thn ((pe_var (pos := p1) (i := i) hN hv hd hcd).run pz z0 σZ HZ (fun v H1 => v = .ref f ∧ H1 = HZ) IZ ⟨.ref f, at_, rfl, rfl⟩) fun u z1 ⟨v, H1, J, rv, e1, e2⟩ => ?_)
  subst e1
  rw [e2] at J
  obtain rfl : u = Value.ref f := rv
  have ob := funO_at J.hok known
  refine PySem.W.callWith_F0 ⟨_, _, _, _, ob⟩ ?_
  obtain ⟨⟨oc, vs, t, hoc, hdc, hvc⟩, _, _⟩ := J.hok c' _ code
  have pass : Passes (L2.CX X.prog X.w) Z E := passes_call tk hW
  have run : codeAny (model X.prog X.w) Z.A (.call (.ref f) ⟨[], []⟩) (CR (L2.CX X.prog X.w) Z.stack X.prog X.w HZ z1 Q E) z1 := by
    refine PySem.W.kla_callFunE hr.depth ob rfl L.sc.co L.sc.gen rfl ⟨c', oc, vs, t, rfl, hoc, hdc, hvc⟩ ?_
    rw [L.bind]
    refine wpAny_pure (wpAny_newFunctionEnv (fun y hy => (L.sc.own y hy).2) (fun y hy => absurd hy (by simp)) (fun h₁ hns hsb => ⟨J.nolimit.fresh _ hsb, ?_⟩) L.sc.kind)
    show codeAny _ _ (.expr l.body (lamEnv X l.scope z1.heap.objs.size f c')) _ _
    have kp : ∀ b o, z1.heap.get? b = some o → h₁.get? b = some o := fun b o e => hsb.extBut b o (Nat.ne_of_lt (Heap.lt_size e)) (Heap.get?_push_of_some _ e)
    have start : Inv (lamCx X Z.A Z.stack z1 HZ E l.scope f c') [] σ HZ { z1 with heap := h₁, toks := z1.toks + ([] : List (Str × Value)).length } := lam_start2 I L.sc J.env0 hr.hd J.base hns kp
    exact PySem.W.kla_codeExpr (wpAny_mono ((body _ _ z1 HZ (hr.deeper _)).run [] _ _ HZ Q start rd) (fun v s' ⟨w', H', J', rv, q⟩ => ⟨w', H', J'.os, J'.bare, J'.base, J'.hok, rv, q⟩) fun e s' hq => hq)
  refine wpAny_call (codeAny_mono run fun r s' hq => ?_)
  cases r with
  | error e => exact pass pz σZ HZ z1 e s' J hq
  | ok fl =>
    cases fl with
    | ret u => exact J.after hq
    | _ => exact False.elim hq
/-- x(y), x the def that tells, y a name that holds one of the known lambdas -/
def tTold (X : Cx) (j : Nat) (TT : (XK → Hp → VK → Prop) → Hp → VK → Prop) (ls : List Lm) (t : Lm → XK → TE) (σ : L2.St) : TE := fun σY HY Q => ∃ (f c' : Addr) (pm ctv : Value) (l : Lm), l ∈ ls ∧ σY[j]? = some (some (.ref f)) ∧ HY c' = some (CodeO c' (X.env.qual ++ "<lambda>")) ∧
  TT (fun E H' Q' => H' f = some (FunO f (l.obj (X.env.qual ++ "<lambda>") X.env.cells c' pm ctv)) ∧ t l E σ H' Q') HY Q
theorem pe_toldV {s0 : Shared} {H0 : Hp} {scope : Scope} {C : Addr} {cl : List (Str × Addr)} {fp : List Addr} {TT : (XK → Hp → VK → Prop) → Hp → VK → Prop} {x y a : Str} {g : Addr} {k j : Nat} {pg : Arguments} {bg : List Stmt} {sg : Scope} {dV kV doc pm cdv ct oc : Value} {an od : Option Addr} {osl : Array (Option Value)} {Ng : List Str}
    {ls : List Lm} {t : Lm → XK → TE} {p py pos : Pos} (home : ∀ pins' σ' H' s', Inv (X.blk s0 H0 scope (compEnvC scope cl C X.env) fp) pins' σ' H' s' → Inv X pins σ H' s')
    (hg : Gl (X.blk s0 H0 scope (compEnvC scope cl C X.env) fp) x) (hm : X.mg x = some (.ref g)) (hk : PySem.W.keepIn X.K (.ref g) = true)
    (lk : X.K.lookup g = some ⟨oc, od, .func (PySem.W.fnOf x x pg bg sg dV kV doc pm an cdv ct), osl⟩) (hcg : PySem.W.codeIn X.K cdv x = true) (hb : L2.Binds X.K (PySem.W.fnOf x x pg bg sg dV kV doc pm an cdv ct) [a] []) (Sg : FnScope Ng [a] sg) (hNg : Ng[0]? = some a) (hva : Vis sg a)
    (hG : GivesTo (X.blk s0 H0 scope (compEnvC scope cl C X.env) fp) Ng x sg g cdv bg a (X.env.qual ++ "<lambda>") TT) (hr : Room (k + 2) X.A) (L : ∀ l ∈ ls, LmOk X l)
    (hbody : ∀ l ∈ ls, ∀ (A : Around) (outer : List Env) (s : Shared) (H : Hp) (E : XK) (f c' : Addr), Room k (A.deeper (lamEnv X l.scope s.heap.objs.size f c')) → PE (lamCx X A outer s H E l.scope f c') l.body (t l E))
    (hN : X.N[j]? = some y) (hy : Vis (relS scope X.env.scope) y) (hdx : (x == ("__debug__" : Str)) = false) (hdy : (y == ("__debug__" : Str)) = false) (hcy : (y == ("__classdict__" : Str)) = false) (hda : (a == ("__debug__" : Str)) = false) (hca : (a == ("__classdict__" : Str)) = false) :
    PE (X.blk s0 H0 scope (compEnvC scope cl C X.env) fp) (.Call (.Name x p) [.Name y py] [] pos) (tTold X j TT ls t σ) := by
  let Y : Cx := X.blk s0 H0 scope (compEnvC scope cl C X.env) fp
  refine ⟨fun pz z0 σY HY Q I ⟨f, c', pm, ctv, l, hl, at_, code, rd⟩ => ?_⟩
  refine wpAny_Call_Name_kw (ld_glob I hg hm ?_ hdx)
  refine PySem.W.callWith_K (h₀ := Y.base) I.ok.mod.kin hk ?_ (by rfl) (by rfl)
  show wpAny _ _ (spliced ((false, eval (.Name y py) Y.env) :: backTo pos (starEach [] Y.env))) _ _ z0
  refine Calls.spliced_cons (thn ((pe_var (X := Y) (pos := py) (i := j) hN hy hdy hcy).run pz z0 σY HY (fun v H1 => v = .ref f ∧ H1 = HY) I ⟨.ref f, at_, rfl, rfl⟩) fun u z1 ⟨v, H1, J, rv, e1, e2⟩ => ?_)
  subst e1
  rw [e2] at J
  obtain rfl : u = Value.ref f := rv
  refine Calls.spliced_nil ⟨J.kIn, ?_⟩
  have run : codeAny (model X.prog X.w) Y.A (.call (.ref g) ⟨[.ref f], []⟩) (CR C8.CX0 Y.stack X.prog X.w HY z1 Q C8.E0) z1 := by
    refine run_ofS (N := Ng) (ps := [a]) (us := [.ref f]) (vs := [.ref f]) lk hcg Sg hr J.env0 (hb z1 [.ref f] J.kIn rfl) (.cons rfl .nil) rfl fun room => ?_
    obtain ⟨t', ht', hq'⟩ := hG f c' z1 HY Q _ (fun W pn xe E p1 p2 tk hW => act_known (X := X) (i := 0) (E := E) (tb := t l E) (home _ _ _ _ J) (L l hl) tk hW room (fun A outer s H hr2 => hbody l hl A outer s H E f c' hr2) hNg hva hda hca) code rd
    exact ⟨t', ht'.nox, hq'⟩
  refine wpAny_call (codeAny_mono run fun r s2 hq => ?_)
  cases r with
  | error e => exact (show False from hq).elim
  | ok fl =>
    cases fl with
    | ret u => exact J.after hq
    | _ => exact False.elim hq
end
end Ev
end
section
set_option linter.all false
set_option autoImplicit false
set_option maxRecDepth 100000
set_option maxHeartbeats 1000000
/-! Ev, part HD: lambdas known, in the layer's own words. -/
namespace Ev
open PySem PySem.Spec PyProof.Rows L2 LamX

section
variable {F : Fx} {ω ω' : Om} {m m' : M} {H H' H1 : Hp} {wr : Wr}
theorem Cont.noext {a : Addr} {d : D} (h : ContAt F ω H a d) (φ : Heap → Prop) : H a ≠ some (.ext φ) := fun z => by
  cases d with
  | list ds =>
    obtain ⟨vs, h1, _⟩ := h
    rw [h1] at z
    cases z
  | dict ds =>
    obtain ⟨vs, h1, _⟩ := h
    rcases h1 with h1 | ⟨o, h1⟩ <;> (rw [h1] at z; cases z)
  | _ => exact h.elim
theorem Cells.noext (C : Cells F ω m H) {r : Nat} {f : Str} (h : LvC m r f) (φ : Heap → Prop) : H (ω.ad r f) ≠ some (.ext φ) := by
  obtain ⟨hr, h⟩ := h
  have e : m[r]? = some m[r] := List.getElem?_eq_getElem hr
  have a := C.at_ r _ e
  rcases h with rfl | ⟨c, fs, d, e2, h2, h3⟩
  · cases hc : m[r] with
    | lst xs => rw [hc] at a; obtain ⟨vs, h1, _⟩ := a; exact fun z => by rw [h1] at z; cases z
    | ins c fs => rw [hc] at a; obtain ⟨dx, vs, h1, _⟩ := a; exact fun z => by rw [h1] at z; cases z
    | dic kvs => rw [hc] at a; exact a.elim
  · rw [e] at e2
    rw [Option.some.inj e2] at a
    obtain ⟨dx, vs, _, h4⟩ := a
    have all : ∀ (l : List (Str × Bool × D)) (us : List (Str × V)), Paired (FvRel F ω H r) l us → (f, true, d) ∈ l → H (ω.ad r f) ≠ some (.ext φ) := by
      intro l
      induction l with
      | nil => intro us _ q; cases q
      | cons q l ih =>
        intro us hq hm
        cases hq with
        | cons a b =>
          rcases List.mem_cons.mp hm with e | hm
          · subst e
            obtain ⟨_, _, _, a⟩ := a
            exact Cont.noext a φ
          · exact ih _ b hm
    exact all fs vs h4 (PySem.mem_of_lookup h2)
/-- what is known by an ext stays so -/
theorem Po.ext {φ : Heap → Prop} {b : Addr} (C : Cells F ω m H) (p : Po F wr ω m H ω' m' H') (e : H b = some (.ext φ)) : H' b = some (.ext φ) := by
  refine p.fr.keep b _ e ?_ fun ps z => by cases z
  rintro ⟨r, f, h1, _, rfl⟩
  exact C.noext h1 φ e
/-- a lambda is made -/
theorem LamMade.po {P f c' : Addr} {q : Str} {o : Obj} (C : Cells F ω m H) (T : TabInv F H) (M : LamMade F.TL P q H H1 f c' o) (hT : P ∉ F.TG) : Po F wr ω m H (ω.out f) m H1 := by
  obtain ⟨ps, more, t1, t2⟩ := M.tab
  have nt : ∀ b o, H b = some o → (∀ ps, o ≠ .tbl ps) → H1 b = some o := fun b u e n => M.keep b u e fun z => by
    rw [z, t1] at e
    exact n _ (Option.some.inj e).symm
  have nf : ∀ b u, H b = some u → b ≠ f := fun b u e => ne_of_none e M.nf
  have st : Stays F ω (ω.out f) H H1 := ⟨Nat.le_refl _, fun _ _ => rfl, fun b o e _ n => .inl (nt b o e n), fun b o _ h z => h z.1⟩
  refine ⟨Nat.le_refl _, fun _ _ => rfl, rfl, ⟨fun b o e _ n => nt b o e n, fun b qs e => ?_, fun b o _ h z => h z.1, fun b o e h => ⟨h, nf b o e⟩, fun b o e => ?_⟩, fun _ _ h => .inl ⟨h, rfl⟩, C.stays st rfl rfl (fun b o e h => ⟨h, nf b o e⟩) nt, fun Q hQ => ?_, M.tabs⟩
  · by_cases hb : b = P
    · subst hb
      rw [t1] at e
      cases e
      exact ⟨more, t2⟩
    · exact ⟨#[], by rw [M.keep b _ e hb]; simp⟩
  · by_cases hb : b = P
    · subst hb
      exact ⟨_, t2⟩
    · exact ⟨o, M.keep b o e hb⟩
  · obtain ⟨qs, e1, e2⟩ := T.1 Q hQ
    exact ⟨qs, M.keep Q _ e1 fun z => hT (z ▸ hQ), e2⟩
/-- f is the lambda l -/
def Kn (q : Str) (cells : List (Str × Addr)) (H : Hp) (l : Lm) (f : Addr) : Prop := ∃ (c' : Addr) (pm ctv : Value), H f = some (FunO f (l.obj q cells c' pm ctv)) ∧ H c' = some (CodeO c' q)
theorem Kn.po {q : Str} {cells : List (Str × Addr)} {l : Lm} {f : Addr} (C : Cells F ω m H) (p : Po F wr ω m H ω' m' H') (h : Kn q cells H l f) : Kn q cells H' l f := by
  obtain ⟨c', pm, ctv, h1, h2⟩ := h
  exact ⟨c', pm, ctv, Po.ext C p h1, Po.ext C p h2⟩
end
section
variable {X : Cx}
def tLm (T : List (Addr × Str)) (P : Addr) (q : Str) (cells : List (Str × Addr)) (l : Lm) : TE := fun _ H Q => Tabs T H ∧ ∀ (f c' : Addr) (pm ctv : Value) (H1 : Hp), LamMade T P q H H1 f c' (l.obj q cells c' pm ctv) → Q (.ref f) H1
/-- where lambdas may be made -/
structure LmAt (X : Cx) (T : List (Addr × Str)) (P : Addr) : Prop where
  ex : ∃ c, LamX.TabB X.base X.mg c P ∧ X.env.code = .ref c
  mem : (P, X.env.qual ++ "<lambda>") ∈ T
  one : ∀ p ∈ T, p.1 = P → p.2 = X.env.qual ++ "<lambda>"
theorem pe_lm {T : List (Addr × Str)} {P : Addr} {l : Lm} {pos : Pos} (h : LmAt X T P) (L : LmOk X l) (hd : defaultsOf l.params X.env = ([], [])) : PE X (.Lambda l.params l.body l.scope pos) (tLm T P (X.env.qual ++ "<lambda>") X.env.cells l) := by
  obtain ⟨c, TB, hc⟩ := h.ex
  exact ⟨fun pins s σ H Q I ⟨hT, q⟩ => lam_make3 I TB hc h.mem h.one hT hd (L.sc.has I.ok) fun f c' pm ctv H1 s' I1 M => ⟨.ref f, H1, I1, rfl, q f c' pm ctv H1 M⟩⟩
def lmE (l : Lm × Pos) : Expr := .Lambda l.1.params l.1.body l.1.scope l.2
/-- the list's items -/
def tLms (T : List (Addr × Str)) (P : Addr) (q : Str) (cells : List (Str × Addr)) : List (Lm × Pos) → TA
  | [] => tNil
  | l :: ls => tCons (tLm T P q cells l.1) (tLms T P q cells ls)
theorem pa_lms {T : List (Addr × Str)} {P : Addr} (h : LmAt X T P) : ∀ ls : List (Lm × Pos), (∀ l ∈ ls, LmOk X l.1 ∧ defaultsOf l.1.params X.env = ([], [])) → PA X (ls.map lmE) (tLms T P (X.env.qual ++ "<lambda>") X.env.cells ls)
  | [], _ => pa_nil
  | l :: ls, hl => pa_cons (pe_lm h (hl l (List.mem_cons_self ..)).1 (hl l (List.mem_cons_self ..)).2) (pa_lms h ls fun k hk => hl k (List.mem_cons_of_mem _ hk))
theorem lms_read {F : Fx} {m : M} {wr : Wr} {P : Addr} {q : Str} {cells : List (Str × Addr)} {σ : L2.St} (hT : P ∉ F.TG) : ∀ (ls : List (Lm × Pos)) (H : Hp) (Q : List V → Hp → Prop) (ω : Om), Cells F ω m H → TabInv F H →
    (∀ ω' fs H', Po F wr ω m H ω' m H' → Paired (fun (l : Lm × Pos) (f : Addr) => Kn q cells H' l.1 f) ls fs → Q (fs.map V.ref) H') → tLms F.TL P q cells ls σ H Q
  | [], H, Q, ω, C, T, h => h ω [] H (Po.refl C T) .nil
  | l :: ls, H, Q, ω, C, T, h => ⟨T.2, fun f c' pm ctv H1 M => by
      have p1 : Po F wr ω m H (ω.out f) m H1 := LamMade.po C T M hT
      refine lms_read (wr := wr) hT ls H1 _ (ω.out f) p1.cells p1.tabs fun ω' fs H' p2 k => ?_
      exact h ω' (f :: fs) H' (p1.trans C p2) (.cons (Kn.po p1.cells p2 ⟨c', pm, ctv, M.fo, M.co⟩) k)⟩
end
end Ev
end
section
set_option linter.all false
set_option autoImplicit false
set_option maxRecDepth 100000
set_option maxHeartbeats 1000000
/-! Ev, part HE: a list of lambdas, each of which raises: the reading. -/
namespace Ev
open PySem PySem.Spec PyProof.Rows L2 LamX

theorem Paired.at {α β : Type} {R : α → β → Prop} : ∀ {xs : List α} {ys : List β} {i : Nat} {x : α}, Paired R xs ys → xs[i]? = some x → ∃ y, ys[i]? = some y ∧ R x y
  | [], _, _, _, _, e => by simp at e
  | _ :: _, _ :: _, 0, _, .cons a _, e => ⟨_, rfl, by simp at e; subst e; exact a⟩
  | _ :: _, _ :: _, i + 1, _, .cons _ b, e => by
    obtain ⟨y, h1, h2⟩ := Paired.at (i := i) b (by simpa using e)
    exact ⟨y, by simpa using h1, h2⟩
theorem Paired.len {α β : Type} {R : α → β → Prop} : ∀ {xs : List α} {ys : List β}, Paired R xs ys → xs.length = ys.length
  | _, _, .nil => rfl
  | _, _, .cons _ b => congrArg Nat.succ (Paired.len b)
section
variable {X : Cx} {F : Fx} {W : Wd} {ω : Om} {g : Ga} {m m2 : M} {σ : L2.St} {H : Hp} {wr : Wr}
abbrev lmT (F : Fx) (W : Wd) : Lm → XK → TE := fun l E => LE F (fun cls d _ H' => E cls d H') false (evE W l.e)
abbrev ttBad (X : Cx) (F : Fx) (W : Wd) (j : Nat) (CS : Addr) (ret : Str) (ls : List (Lm × Pos)) : L2.St → TT := fun σ => tTest (tOp (rCmp .ne X.K) (tTold X j (TTold X.K CS ret) (ls.map (·.1)) (lmT F W) σ) (tC (.str ret)))
theorem bads_read {ls : List (Lm × Pos)} {fs : List Addr} {ib j c : Nat} {L CS : Addr} {ret : Str} {Q : VK} (hK : X.K = F.K) (S : Stt F ω g m σ H) (hb : σ[ib]? = some (some (.ref L))) (hL : H L = some (.lst (fs.map V.ref))) (hLB : ¬ ω.B L) (hj : j < σ.length)
    (kn : Paired (fun (l : Lm × Pos) (f : Addr) => Kn (X.env.qual ++ "<lambda>") X.env.cells H l.1 f) ls fs) (hr : badsR W c (ls.map (·.1.e)) wr g m = some m2)
    (caught : ∀ k, W.sub k c = true → PySem.W.exmOne X.K (.ref (F.xa k)) (.ref CS) = some true) (hne : semCmp .ne (.str ret) (.str ret) = some false)
    (hQ : ∀ ω2 D H2, Po F wr ω m H ω2 m2 H2 → H D = none → H2 D = some (.lst []) → ¬ ω2.B D → Q (.ref D) H2) :
    tNone (iList F.K (tVar ib)) (gName j) (ttBad X F W j CS ret ls) [j] σ H Q := by
  refine ⟨.ref L, hb, L, rfl, ⟨_, .inl (.inl hL)⟩, fun D hD => ?_⟩
  have len := Paired.len kn
  have nt : ∀ (xs : List V) ps, (HO.lst xs) ≠ .tbl ps := fun xs ps z => by cases z
  refine ⟨ls.length, fun i H' => i ≤ ls.length ∧ ∃ ω' m', Po F wr ω m H ω' m' H' ∧ H' D = some (.lst []) ∧ ¬ ω'.B D ∧ badsR W c ((ls.drop i).map (·.1.e)) wr g m' = some m2, ⟨Nat.zero_le _, ω.out D, m, Po.new S.ce S.tb hD, upd_same, fun z => z.2 rfl, hr⟩, ?_⟩
  rintro i H' ⟨hi, ω', m', p, hD', nD, hb'⟩
  have hL' : H' L = some (.lst (fs.map V.ref)) := p.fr.keep L _ hL (fun z => hLB (S.ce.ub z)) (nt _)
  by_cases hlt : i < ls.length
  · obtain ⟨l, hl⟩ : ∃ l, ls[i]? = some l := ⟨_, List.getElem?_eq_getElem hlt⟩
    obtain ⟨f, hf, k⟩ := Paired.at kn hl
    have hx : (fs.map V.ref)[i]? = some (V.ref f) := by rw [List.getElem?_map, hf]; rfl
    refine .inr ⟨hlt, ⟨_, _, .inl (.inl hL'), hx⟩, fun x H'' ⟨e, y⟩ => ?_⟩
    subst e
    have ex := y _ (.inl (.inl hL'))
    rw [hx] at ex
    cases ex
    obtain ⟨c', pm, ctv, k1, k2⟩ := Kn.po S.ce p k
    refine ⟨?_, f, c', pm, ctv, l.1, List.mem_map.mpr ⟨l, List.mem_of_getElem? hl, rfl⟩, ?_, k2, k1, ?_⟩
    · show ((σ.set j none).set j _).set j none = σ.set j none
      rw [List.set_set, List.set_set]
    · show ((σ.set j none).set j (some (V.ref f)))[j]? = _
      rw [List.set_set, List.getElem?_set_self hj]
    · refine LG.of (wr := wr) (S.po p) ?_
      show Fin F _ wr σ (VRel F false) _ ω' m' H'' (ev W l.1.e wr g m')
      have ed : ls.drop i = l :: ls.drop (i + 1) := drop_cons hl
      rw [ed] at hb'
      simp only [List.map_cons, badsR] at hb'
      cases hv : ev W l.1.e wr g m' with
      | stuck => rw [hv] at hb'; cases hb'
      | ok d m3 => rw [hv] at hb'; cases hb'
      | exc k m3 =>
        rw [hv] at hb'
        simp only at hb'
        split at hb'
        · rename_i hs
          intro ω3 H3 p3
          refine ⟨true, caught k hs, fun _ => ?_, fun z => by cases z⟩
          simp only [tC]
          refine cmp_sound (X := X) (F := F) .ne hK (ba := false) (bb := false) (ω := ω3) (ω₂ := ω3) (dx := .str ret) (dy := .str ret) (.inl rfl) (.inl rfl) hne ?_
          exact ⟨false, rfl, rfl, hlt, ω3, m3, p.trans S.ce p3, p3.fr.keep D _ hD' (fun z => nD (p.cells.ub z)) (nt _), p3.fr.nb D _ hD' nD, hb'⟩
        · cases hb'
  · have hi2 : i = ls.length := by omega
    subst hi2
    rw [List.drop_length] at hb'
    cases hb'
    refine .inl ⟨rfl, ⟨_, .inl (.inl hL'), by rw [List.length_map]; omega⟩, hQ ω' D H' p hD hD' nD⟩
end
end Ev
end
section
set_option linter.all false
set_option autoImplicit false
set_option maxRecDepth 100000
set_option maxHeartbeats 1000000
/-! Ev, part HF: [1 for f in bad if told(f) != 'X'] != []. -/
namespace Ev
open PySem PySem.Spec PyProof.Rows L2 LamX

/-- the def that tells: x(a): try: return a() except e: return ret -/
structure ToldK (K : PySem.W.Frag) (mg : Str → Option Value) (x ret : Str) (CS : Addr) : Prop where
  ex : ∃ (g : Addr) (pg : Arguments) (bg : List Stmt) (sg : Scope) (dV kV doc pm cdv ct oc : Value) (an od : Option Addr) (osl : Array (Option Value)) (Ng : List Str) (a e : Str) (j : Nat) (p1 p2 p3 p4 p5 p6 p7 p8 : Pos),
    mg x = some (.ref g) ∧ PySem.W.keepIn K (.ref g) = true ∧ K.lookup g = some ⟨oc, od, .func (PySem.W.fnOf x x pg bg sg dV kV doc pm an cdv ct), osl⟩ ∧ PySem.W.codeIn K cdv x = true ∧ L2.Binds K (PySem.W.fnOf x x pg bg sg dV kV doc pm an cdv ct) [a] [] ∧ FnScope Ng [a] sg ∧ Ng[0]? = some a ∧ Vis sg a ∧
    bg = [.Try [.Return (some (.Call (.Name a p1) [] [] p2)) p3] [.ExceptHandler (some (.Name e p4)) none [.Return (some (.Constant (.str ret) j p5)) p6] p7] [] [] p8] ∧
    sg.names.lookup e = some .globalImplicit ∧ mg e = some (.ref CS) ∧ (e == ("__debug__" : Str)) = false ∧ (a == ("__debug__" : Str)) = false ∧ (a == ("__classdict__" : Str)) = false ∧ ∀ f : Addr, (L2.start Ng [V.ref f])[0]? = some (some (V.ref f))
section
variable {X : Cx} {F : Fx} {W : Wd}
theorem t_bads {k ib j kk : Nat} {CS : Addr} {ret x y fn : Str} {ls : List (Lm × Pos)} {elt : Expr} {scope : Scope} {pf py pf2 px cp sp mp lp ep pos : Pos} (hc : X.calm = true) (nd : X.N.Nodup) (hr : Room (k + 2) X.A) (B : BlkOk X.N X.env.scope scope [(fn, j)])
    (hN : X.N[ib]? = some y) (hy : Vis X.env.scope y) (hy1 : (y == ("__debug__" : Str)) = false) (hy2 : (y == ("__classdict__" : Str)) = false)
    (hj : X.N[j]? = some fn) (hfl : (relS scope X.env.scope).names.lookup fn = some .local) (hf1 : (fn == ("__debug__" : Str)) = false) (hf2 : (fn == ("__classdict__" : Str)) = false)
    (hx : (relS scope X.env.scope).names.lookup x = some .globalImplicit) (hx1 : (x == ("__debug__" : Str)) = false) (T : ToldK X.K X.mg x ret CS) (L : ∀ l ∈ ls, LmOk X l.1)
    (hbody : ∀ l ∈ ls, ∀ (A : Around) (outer : List Env) (s : Shared) (H : Hp) (E : XK) (f c' : Addr), Room k (A.deeper (lamEnv X l.1.scope s.heap.objs.size f c')) → PE (lamCx X A outer s H E l.1.scope f c') l.1.body (lmT F W l.1 E)) :
    PT X (.Compare (.ListComp elt [⟨.Name fn pf, .Name y py, [.Compare (.Call (.Name x px) [.Name fn pf2] [] cp) [.NotEq] [.Constant (.str ret) kk sp] mp], 0⟩] scope lp) [.NotEq] [.List [] ep] pos)
      (tTest (tOp (rCmp .ne X.K) (tNone (iList X.K (tVar ib)) (gName j) (ttBad X F W j CS ret ls) [j]) (tLst tNil))) := by
  obtain ⟨g, pg, bg, sg, dV, kV, doc, pm, cdv, ct, oc, an, od, osl, Ng, a, e, jj, p1, p2, p3, p4, p5, p6, p7, p8, h1, h2, h3, h4, h5, h6, h7, h8, rfl, h10, h11, h12, h13, h14, h15⟩ := T.ex
  refine pt_cmpR (or_cmp (X := X) .ne hr) ⟨fun pins s σ H Q I h => none_core (own := [(fn, j)]) hc nd I (pi_list (pe_var hN hy hy1 hy2)) B rfl (fun s H C cl fp => ?_) (fun s H C cl fp home => ?_) h⟩ (pe_lst pa_nil) rfl
  · exact pg_name (X := X.blk s H scope (compEnvC scope cl C X.env) fp) nd hj (.inl hfl) (.inr hfl)
  · refine pts_one (pt_cmpR (X := X.blk s H scope (compEnvC scope cl C X.env) fp) (or_cmp (X := X.blk s H scope (compEnvC scope cl C X.env) fp) .ne hr) ?_ pe_str rfl)
    exact pe_toldV home hx h1 h2 h3 h4 h5 h6 h7 h8 (told_gives h10 h11 h12 h15) hr (fun l hl => by obtain ⟨q, hq, rfl⟩ := List.mem_map.mp hl; exact L q hq) (fun l hl => by obtain ⟨q, hq, rfl⟩ := List.mem_map.mp hl; exact hbody q hq) hj (.inl hfl) hx1 hf1 hf2 h13 h14
theorem bads_test {ω : Om} {g : Ga} {m m2 : M} {σ : L2.St} {H : Hp} {wr : Wr} {ls : List (Lm × Pos)} {fs : List Addr} {ib j c : Nat} {L CS : Addr} {ret : Str} {Q : Bool → Hp → Prop} (hK : X.K = F.K) (S : Stt F ω g m σ H) (hb : σ[ib]? = some (some (.ref L))) (hL : H L = some (.lst (fs.map V.ref))) (hLB : ¬ ω.B L) (hj : j < σ.length)
    (kn : Paired (fun (l : Lm × Pos) (f : Addr) => Kn (X.env.qual ++ "<lambda>") X.env.cells H l.1 f) ls fs) (hr : badsR W c (ls.map (·.1.e)) wr g m = some m2)
    (caught : ∀ k, W.sub k c = true → PySem.W.exmOne X.K (.ref (F.xa k)) (.ref CS) = some true) (hne : semCmp .ne (.str ret) (.str ret) = some false)
    (hQ : ∀ ω2 H2, Po F wr ω m H ω2 m2 H2 → Q false H2) :
    tTest (tOp (rCmp .ne X.K) (tNone (iList X.K (tVar ib)) (gName j) (ttBad X F W j CS ret ls) [j]) (tLst tNil)) σ H Q := by
  have h := bads_read (X := X) (F := F) (W := W) (Q := fun x H1 => tLst tNil σ H1 fun y H2 => rCmp .ne X.K x y H2 fun x H' => ∃ k, x = V.bl k ∧ Q k H') hK S hb hL hLB hj kn hr caught hne fun ω2 D H2 p hD hD2 nD => ⟨by decide, fun E hE => ?_⟩
  · rw [← hK] at h
    exact h
  · have q := Po.new (wr := wr) (o := .lst []) p.cells p.tabs hE
    have rD : Rep F (ω2.out E) (upd H2 E (.lst [])) (.list []) (.ref D) := Rep.stays (q.stays p.cells) (.list []) (.ref D) ⟨D, [], rfl, hD2, nD, rfl⟩
    have rE : Rep F (ω2.out E) (upd H2 E (.lst [])) (.list []) (.ref E) := ⟨E, [], rfl, upd_same, fun z => z.2 rfl, rfl⟩
    refine cmp_sound (X := X) (F := F) .ne hK (ba := false) (bb := false) (c := false) (.inl rD) (.inl rE) (by decide) ?_
    exact ⟨false, rfl, hQ _ _ (p.trans S.ce q)⟩
end
end Ev
end
section
set_option linter.all false
set_option autoImplicit false
set_option maxRecDepth 100000
set_option maxHeartbeats 1000000
/-! Ev, part HG: bad = [lambda ..]; if [1 for f in bad if told(f) != 'X'] != [] or R: A. -/
namespace Ev
open PySem PySem.Spec PyProof.Rows L2 LamX

section
variable {X : Cx} {F : Fx} {W : Wd} {Wx : WX} {ω : Om} {g : Ga} {m : M} {σ : L2.St} {H : Hp} {wr : Wr} {Dn : Ends}
theorem SlRel.put {i : Nat} {v : V} (S : SlRel F ω g m σ H) : SlRel F ω (g.set i none) m (σ.set i (some v)) H := by
  have Z := S.clr (i := i)
  have un : ∀ {j : Nat} {p : Bool × D}, (g.set i none)[j]? = some (some p) → i ≠ j := fun {j p} h e => by
    subst e
    have hl : i < g.length := by
      have := (List.getElem?_eq_some_iff.mp h).1
      simpa using this
    rw [List.getElem?_set_self hl] at h
    cases h
  refine ⟨by rw [List.length_set, List.length_set, S.len], fun j d h => ?_, fun j d h => ?_, Z.inj⟩
  · obtain ⟨u, h1, h2⟩ := Z.val j d h
    rw [List.getElem?_set_ne (un h)] at h1
    exact ⟨u, by rw [List.getElem?_set_ne (un h)]; exact h1, h2⟩
  · obtain ⟨h1, h2⟩ := Z.own j d h
    rw [List.getElem?_set_ne (un h)] at h1
    exact ⟨by rw [List.getElem?_set_ne (un h)]; exact h1, h2⟩
theorem ifs_read {t : Ex} {a b : List St} (h : LS F Wx (exS W (.ifs t a b)) Dn σ H) : tIfS (LT F Wx (evE W t)) (LS F Wx (exL W a)) (LS F Wx (exL W b)) Dn σ H := by
  obtain ⟨ω, g, m, wr, S, h⟩ := h
  simp only [exec] at h
  refine LG.of (wr := wr) S ?_
  show Fin F Wx wr σ RelB _ ω m H (asB (ev W t wr g m))
  have hh := FinS.of_bind (rel := fun _ _ (_ : D) (_ : V) => True) S h
  cases hx : ev W t wr g m with
  | stuck => rw [hx] at h; exact h
  | exc c m' => rw [hx] at hh; exact hh
  | ok d m' =>
    rw [hx] at hh
    cases d with
    | bool k =>
      intro ω' v H' p r
      rw [show v = k by cases r; rfl]
      obtain ⟨ω1, d, m1, e1, p1, r1, S1, h1⟩ := hh ω' (.non) H' p trivial
      cases e1
      cases k with
      | true => exact iteT (LS.of S1 h1)
      | false => exact iteF (LS.of S1 h1)
    | _ => rw [hx] at h; exact h
/-- what the two statements mean -/
def exBads (W : Wd) (i c : Nat) (es : List Ex) (r : List St) : Wr → Ga → M → RS := fun wr g m => match badsR W c es wr (g.set i none) m with
  | some m2 => execL W r wr (g.set i none) m2
  | none => .stuck
theorem ss_bads {i j c : Nat} {ls : List (Lm × Pos)} {CS P : Addr} {ret y : Str} {C r0 : Expr} {rest : List Expr} {py ep ap op ip : Pos} {t : Ex} {a r : List St} {A ps : List Stmt} (hK : X.K = F.K) (nd : X.N.Nodup) (hi : X.N[i]? = some y) (hy : Loc X.env.scope y) (hf : X.fn y = true ∨ X.env.scope.names.lookup y = some .local) (hj : j < X.N.length) (hlen : ls.length ≤ sizeLine)
    (at_ : LmAt X F.TL P) (hT : P ∉ F.TG) (L : ∀ l ∈ ls, LmOk X l.1 ∧ defaultsOf l.1.params X.env = ([], [])) (caught : ∀ k, W.sub k c = true → PySem.W.exmOne X.K (.ref (F.xa k)) (.ref CS) = some true) (hne : semCmp .ne (.str ret) (.str ret) = some false)
    (hN : ∀ pins σ H s, Inv X pins σ H s → σ.length = X.N.length)
    (hC : PT X C (tTest (tOp (rCmp .ne X.K) (tNone (iList X.K (tVar i)) (gName j) (ttBad X F W j CS ret ls) [j]) (tLst tNil)))) (hR : PT X (.BoolOp .Or (r0 :: rest) op) (LT F Wx (evE W t))) (hA : PSs X A (LS F Wx (exL W a))) (hps : PSs X ps (LS F Wx (exL W r))) :
    PSs X (.Assign [.Name y py] (.List (ls.map lmE) ep) ap :: .If (.BoolOp .Or (C :: r0 :: rest) op) A [] ip :: ps) (LS F Wx (exBads W i c (ls.map (·.1.e)) (.ifs t a [] :: r))) := by
  have h0 := pss_cons (ps_set (pos := ap) (pos' := py) nd hi hy (pe_lst (pos := ep) (pa_lms at_ ls L)) rfl hf) (pss_cons (ps_if (pos := ip) (PW.pt (pw_or hC (pw_of hR))) hA (show PSs X [] (LS F Wx (exL W [])) from ss_nil)) hps)
  refine ⟨fun pins s σ H Dn I h => h0.run pins s σ H Dn I ?_⟩
  obtain ⟨ω, g, m, wr, S, h⟩ := h
  have hl := hN _ _ _ _ I
  show tLms F.TL P (X.env.qual ++ "<lambda>") X.env.cells ls σ H _
  refine lms_read (wr := wr) hT ls H _ ω S.ce S.tb fun ω1 fs H1 p1 kn => ⟨by rw [List.length_map, ← Paired.len kn]; exact hlen, fun L hL => ?_⟩
  have q := Po.new (wr := wr) (o := .lst (fs.map V.ref)) p1.cells p1.tabs hL
  have p2 := p1.trans S.ce q
  have S2 : Stt F (ω1.out L) (g.set i none) m (σ.set i (some (.ref L))) (upd H1 L (.lst (fs.map V.ref))) := ⟨(S.po p2).sl.put, p2.cells, p2.tabs⟩
  have kn2 : Paired (fun (l : Lm × Pos) (f : Addr) => Kn (X.env.qual ++ "<lambda>") X.env.cells (upd H1 L (.lst (fs.map V.ref))) l.1 f) ls fs := Paired.mono (fun l f k => Kn.po p1.cells q k) kn
  unfold exBads at h
  cases hr : badsR W c (ls.map (·.1.e)) wr (g.set i none) m with
  | none => rw [hr] at h; exact h.elim
  | some m2 =>
    rw [hr] at h
    have hil : i < σ.length := by rw [hl]; exact (List.getElem?_eq_some_iff.mp hi).1
    simp only [gName, tSeq, tIfS, tOr]
    refine bads_test hK S2 (List.getElem?_set_self hil) upd_same (fun z => z.2 rfl) (by rw [List.length_set, hl]; exact hj) kn2 hr caught hne fun ω2 H2 p3 => ?_
    have S3 : Stt F ω2 (g.set i none) m2 (σ.set i (some (.ref L))) H2 := S2.po p3
    have pt := p2.trans S.ce p3
    have fin := FinS.shift (V₁ := Vg ω2 (g.set i none)) (PoV.of pt fun b ⟨k, d, e1, e2⟩ => ⟨k, d, by
      by_cases hk : i = k
      · subst hk
        have hgl : i < g.length := by
          have := (List.getElem?_eq_some_iff.mp e1).1
          simpa using this
        rw [List.getElem?_set_self hgl] at e1
        cases e1
      · rw [List.getElem?_set_ne hk] at e1
        exact e1, by rw [← pt.sl]; exact e2⟩) h
    exact ifs_read (LS.seq (LS.of S3 fin))
end
end Ev
end
section
set_option linter.all false
set_option autoImplicit false
set_option maxRecDepth 100000
/-! Ev, part U: the look at a text: expressions. -/
namespace Ev
open PySem PySem.Spec PyProof.Rows L2

/-- what a name of the module stands for -/
inductive Gb where
  | fn (f : Nat) (ps : List Str)
  | cst (k : Nat)
  | exc (c : Nat)
  | blt
  | told (c : Nat) (ret : Str)
/-- what is known where a text stands -/
structure Cxt where
  N : List Str
  sc : Scope
  fn : Str → Bool
  G : List (Str × Gb)
  gd : Bool
  ld : Bool
/-- in a lambda's body -/
def Cxt.lblk (c : Cxt) (scope : Scope) : Cxt := { c with sc := scope, fn := fun _ => false, gd := false, ld := false }
/-- in a generator expression's block -/
def Cxt.gblk (c : Cxt) (scope : Scope) : Cxt := { c with sc := scope, fn := fun _ => false, gd := false, ld := false }
def Cxt.blk (c : Cxt) (scope : Scope) : Cxt := { c with sc := relS scope c.sc, fn := fun x => scope.names.lookup x == some .cell, ld := false }
def GbOk (P : Program) (w : World) (K : PySem.W.Frag) (mg : Str → Option Value) (base : Heap) (F : Fx) (W : Wd) (k : Nat) (x : Str) : Gb → Prop
  | .fn f ps => ∃ fa fd, mg x = some (.ref fa) ∧ PySem.W.keepIn K (.ref fa) = true ∧ Binds K fd ps [] ∧ FnOk P w K mg base (L2.CX P w) k fa fd ps (spOf F ps.length (W.call f))
  | .cst g => ∃ u v, mg x = some u ∧ RelV v u ∧ ∀ ω H, Rep F ω H (W.glb g) v
  | .exc c => ∃ bmB B newId initId, ExcBaseFacts B newId initId bmB ∧ PySem.W.excIn K (F.xa c) bmB newId = true ∧ mg x = some (.ref (F.xa c)) ∧ PySem.W.keepIn K (.ref (F.xa c)) = true ∧ PySem.W.subIn K (.ref (F.xa c)) (.type "BaseException") = some true ∧ PySem.W.typeIn K (.ref (F.xa c)) = some (.type "type")
  | .blt => mg x = none
  | .told c ret => ToldK K mg x ret (F.xa c) ∧ ∀ j, W.sub j c = true → PySem.W.exmOne K (.ref (F.xa j)) (.ref (F.xa c)) = some true
structure XOk (k : Nat) (c : Cxt) (X : Cx) (F : Fx) (W : Wd) (Wx : WX) : Prop where
  K : X.K = F.K
  calm : X.calm = true
  N : X.N = c.N
  nd : X.N.Nodup
  sc : X.env.scope = c.sc
  fn : ∀ x, c.fn x = true → X.fn x = true
  room : Room k X.A
  gl : ∀ x gb, c.G.lookup x = some gb → GbOk X.prog X.w X.K X.mg X.base F W k x gb
  tk : Takes X Wx
  gd : c.gd = true → Room (k + 1) X.A ∧ ∃ cc P, X.env.code = .ref cc ∧ GxR.TabB X.base X.mg cc P ∧ P ∈ F.TG ∧ ∀ p ∈ F.TL, p.1 ≠ P
  ld : c.ld = true → Room (k + 2) X.A ∧ ∃ P, LmAt X F.TL P ∧ P ∉ F.TG
theorem XOk.blk {k : Nat} {c : Cxt} {X : Cx} {F : Fx} {W : Wd} {Wx : WX} (h : XOk k c X F W Wx) {scope : Scope} (s : Shared) (H : Hp) (C : Addr) (cl : List (Str × Addr)) (fp : List Addr) :
    XOk k (c.blk scope) (X.blk s H scope (compEnvC scope cl C X.env) fp) F W Wx0 := by
  refine ⟨h.K, h.calm, h.N, h.nd, ?_, fun x hx => hx, h.room, h.gl, L2.takes0, h.gd, fun z => absurd (show false = true from z) Bool.false_ne_true⟩
  show relS scope X.env.scope = relS scope c.sc
  rw [h.sc]
theorem XOk.gblk {k : Nat} {c : Cxt} {X : Cx} {F : Fx} {W : Wd} {Wx : WX} (h : XOk k c X F W Wx) {scope : Scope} (Ag : Around) (s0 : Shared) (H0 : Hp) (C : Addr) (code : Value) (fp : List Addr) (pn : List (Addr × Obj)) (hr : Room k Ag) :
    XOk k (c.gblk scope) (gnCx X Ag s0 H0 (genEnv scope (cloFrom X.env.cells scope.names []) C code builtinsNs X.env) fp pn) F W Wx0 :=
  ⟨h.K, h.calm, h.N, h.nd, rfl, fun x hx => absurd (show false = true from hx) Bool.false_ne_true, hr, h.gl, L2.takes0, fun z => absurd (show false = true from z) Bool.false_ne_true, fun z => absurd (show false = true from z) Bool.false_ne_true⟩
theorem XOk.lblk {k : Nat} {c : Cxt} {X : Cx} {F : Fx} {W : Wd} {Wx : WX} (h : XOk k c X F W Wx) {scope : Scope} (A : Around) (outer : List Env) (s : Shared) (H : Hp) (E : XK) (f c' : Addr) (hr : Room k (A.deeper (LamX.lamEnv X scope s.heap.objs.size f c'))) :
    XOk k (c.lblk scope) (LamX.lamCx X A outer s H E scope f c') F W (fun cls d _ H' => E cls d H') :=
  ⟨h.K, rfl, h.N, h.nd, rfl, fun x hx => absurd (show false = true from hx) Bool.false_ne_true, hr, h.gl, takes_of rfl rfl rfl rfl, fun z => absurd (show false = true from z) Bool.false_ne_true, fun z => absurd (show false = true from z) Bool.false_ne_true⟩

/-! ### the look -/
def visB (sc : Scope) (x : Str) : Bool := match sc.names.lookup x with
  | some .local => true
  | some .cell => true
  | some .free => true
  | _ => false
def locB (sc : Scope) (x : Str) : Bool := match sc.names.lookup x with
  | some .local => true
  | some .cell => true
  | _ => false
def Cxt.nm (c : Cxt) (i : Nat) (x : Str) : Bool := decide (c.N[i]? = some x) && visB c.sc x && !(x == ("__debug__" : Str)) && !(x == ("__classdict__" : Str))
def Cxt.gl (c : Cxt) (x : Str) : Bool := decide (c.sc.names.lookup x = some .globalImplicit) && !(x == ("__debug__" : Str)) && decide (x ≠ "__name__")
def Cxt.isC (c : Cxt) (x : Str) (g : Nat) : Bool := match c.G.lookup x with
  | some (.cst h) => h == g
  | _ => false
def Cxt.isF (c : Cxt) (x : Str) (f n : Nat) : Bool := match c.G.lookup x with
  | some (.fn h ps) => h == f && ps.length == n
  | _ => false
def Cxt.isB (c : Cxt) (x y : Str) : Bool := c.gl x && x == y && match c.G.lookup x with
  | some .blt => true
  | _ => false
def opB : BOp → Operator → Bool
  | .add, .Add => true | .sub, .Sub => true | .mul, .Mult => true | .fdiv, .FloorDiv => true | .mod, .Mod => true | .pow, .Pow => true
  | _, _ => false
theorem opB_ok {o : BOp} {p : Operator} (h : opB o p = true) : p = pyB o := by cases o <;> cases p <;> first | rfl | (simp [opB] at h)
def opC : COp → CmpOp → Bool
  | .lt, .Lt => true | .le, .LtE => true | .gt, .Gt => true | .ge, .GtE => true | .eq, .Eq => true | .ne, .NotEq => true | .isin, .In => true | .notin, .NotIn => true | .isN, .Is => true | .notN, .IsNot => true
  | _, _ => false
theorem opC_ok {o : COp} {p : CmpOp} (h : opC o p = true) : p = pyC o := by cases o <;> cases p <;> first | rfl | (simp [opC] at h)
def biN : Bi → Str
  | .len => "len" | .abs => "abs" | .max2 => "max" | .min2 => "min" | .max1 => "max" | .min1 => "min" | .sum1 => "sum" | .sorted => "sorted" | .tuple => "tuple" | .list => "list" | .int => "int" | .str => "str"
/-- those of one argument that are known, those of two -/
def bi1B : Bi → Bool
  | .len => true | .abs => true | .max1 => true | .sum1 => true | .tuple => true | .list => true | .int => true
  | _ => false
def bi2B : Bi → Bool
  | .max2 => true | .min2 => true
  | _ => false
/-- those that take a generator expression -/
def coB : Ck → Bool
  | .sum => true | .any => true | .all => true
  | _ => false
def coN : Ck → Str
  | .sum => "sum" | .any => "any" | _ => "all"
def tOkE : Expr → Bool
  | .IfExp .. => false
  | _ => true
def ownOf (c : Cxt) (t : Tg) : List (Str × Nat) := (tvars t).map fun i => (c.N.getD i "", i)
theorem ownOf_ix (c : Cxt) (t : Tg) : (ownOf c t).map (·.2) = tvars t := by
  unfold ownOf
  rw [List.map_map]
  exact List.map_id _
mutual
def mTg (c : Cxt) : Tg → Expr → Bool
  | .nm i, .Name x _ => decide (c.N[i]? = some x) && locB c.sc x && (c.fn x || decide (c.sc.names.lookup x = some .local))
  | .tup ts, .Tuple ps _ _ => mTgs c ts ps
  | _, _ => false
def mTgs (c : Cxt) : List Tg → List Expr → Bool
  | [], [] => true
  | t :: ts, p :: ps => mTg c t p && mTgs c ts ps
  | _, _ => false
end
def isTup : Expr → Bool
  | .Tuple .. => true
  | _ => false
mutual
def mE (c : Cxt) : Ex → Expr → Bool
  | .nm i, .Name x _ => c.nm i x
  | .pk i, .Name x _ => c.nm i x
  | .cst (.int i), .Constant (.int j) _ _ => decide (i = j)
  | .cst (.str i), .Constant (.str j) _ _ => decide (i = j)
  | .cst (.bool i), .Constant (.bool j) _ _ => i == j
  | .cst .none, .Constant .none _ _ => true
  | .glb g, .Name x _ => c.gl x && c.isC x g
  | .bin o a b, .BinOp pa op pb _ => opB o op && !isB a && !isB b && mE c a pa && mE c b pb
  | .neg a, .UnaryOp .USub pa _ => !isB a && mE c a pa
  | .not a, .UnaryOp .Not pa _ => !isB a && (tOkE pa && mE c a pa)
  | .and a b, .BoolOp .And [pa, pb] _ => !isB a && !isB b && tOkE pa && tOkE pb && mE c a pa && mE c b pb
  | .and a b, .BoolOp .And (pa :: pb :: pc :: r) pos => !isB a && !isB b && tOkE pa && mE c a pa && mE c b (.BoolOp .And (pb :: pc :: r) pos)
  | .or a b, .BoolOp .Or [pa, pb] _ => !isB a && !isB b && tOkE pa && tOkE pb && mE c a pa && mE c b pb
  | .or a b, .BoolOp .Or (pa :: pb :: pc :: r) pos => !isB a && !isB b && tOkE pa && mE c a pa && mE c b (.BoolOp .Or (pb :: pc :: r) pos)
  | .cmp o a b, .Compare pa [op] [pb] _ => opC o op && plainE pb && mE c a pa && mE c b pb
  | .chn o o' a b d, .Compare pa [op, op'] [pb, pd] _ => opC o op && opC o' op' && !isB a && !isB b && plainE pb && plainE pd && mE c a pa && mE c b pb && mE c d pd
  | .ite t a b, .IfExp pt pa pb _ => tOkE pt && !isB a && !isB b && mE c t pt && mE c a pa && mE c b pb
  | .tup es, .Tuple ps _ _ => mL c es ps
  | .lst es, .List ps _ => mL c es ps
  | .lstC es, .List ps _ => mL c es ps
  | .idx a b, .Subscript pa pb _ => plainE pb && !isB b && mE c a pa && mE c b pb
  | .slc a lo hi, .Subscript pa (.Slice plo phi none _) _ => !isB a && mE c a pa && mO c lo plo && mO c hi phi
  | .call f es, .Call (.Name x _) ps [] _ => c.gl x && c.isF x f es.length && ps.all plainE && mL c es ps
  | .bi b [e], .Call (.Name x _) [p] [] _ => bi1B b && c.isB x (biN b) && plainE p && mE c e p
  | .bi b [e, e2], .Call (.Name x _) [p, p2] [] _ => bi2B b && c.isB x (biN b) && plainE p && plainE p2 && !isB e && !isB e2 && mE c e p && mE c e2 p2
  | .co .lc e tg src is, .ListComp pe [⟨ptg, pit, pis, na⟩] scope _ => decide (na = 0) && !isB e && plainE pit && blkC c.N c.sc scope (ownOf c tg) && mS c src ptg pit && mTg (c.blk scope) tg ptg && mI (c.blk scope) is pis && mE (c.blk scope) e pe
  | .co ck e tg src is, .Call (.Name x _) [.GeneratorExp pe [⟨ptg, pit, pis, na⟩] scope _] [] _ => c.gd && coB ck && c.isB x (coN ck) && decide (na = 0) && !isB e && plainG pit && gnC c.N c.sc scope (ownOf c tg) && mS c src ptg pit && mTg (c.gblk scope) tg ptg && mI (c.gblk scope) is pis && mE (c.gblk scope) e pe
  | _, _ => false
def mL (c : Cxt) : List Ex → List Expr → Bool
  | [], [] => true
  | e :: es, p :: ps => !isB e && plainE p && mE c e p && mL c es ps
  | _, _ => false
def mO (c : Cxt) : Option Ex → Option Expr → Bool
  | none, none => true
  | some e, some p => !isB e && mE c e p
  | _, _ => false
def mI (c : Cxt) : List Ex → List Expr → Bool
  | [], [] => true
  | [e], [p] => tOkE p && mE c e p
  | _, _ => false
def mS (c : Cxt) : Src → Expr → Expr → Bool
  | .seq b, _, p => mB c b p
  | .rng [e], _, .Call (.Name x _) [p] [] _ => c.isB x "range" && !isB e && plainE p && mE c e p
  | .rng [e, e2], _, .Call (.Name x _) [p, p2] [] _ => c.isB x "range" && !isB e && !isB e2 && plainE p && plainE p2 && mE c e p && mE c e2 p2
  | .enum b, tg, .Call (.Name x _) [p] [] _ => isTup tg && c.isB x "enumerate" && plainE p && mB c b p
  | .zip e e2, tg, .Call (.Name x _) [p, p2] [] _ => isTup tg && c.isB x "zip" && !isB e && !isB e2 && plainE p && plainE p2 && mE c e p && mE c e2 p2
  | _, _, _ => false
def mB (c : Cxt) : Bs → Expr → Bool
  | .e e, p => !isB e && mE c e p
  | .sl i, .Name x _ => c.nm i x
  | _, _ => false
end

/-! ### what the look shows -/
section
variable {F : Fx} {W : Wd} {k : Nat}
theorem visB_ok {X : Cx} {sc : Scope} {x : Str} (hs : X.env.scope = sc) (h : visB sc x = true) : Vis X.env.scope x := by
  rw [hs]
  unfold visB at h
  split at h
  · rename_i e; exact .inl e
  · rename_i e; exact .inr (.inl e)
  · rename_i e; exact .inr (.inr e)
  · cases h
theorem locB_ok {X : Cx} {sc : Scope} {x : Str} (hs : X.env.scope = sc) (h : locB sc x = true) : Loc X.env.scope x := by
  rw [hs]
  unfold locB at h
  split at h
  · rename_i e; exact .inl e
  · rename_i e; exact .inr e
  · cases h
theorem nm_ok {c : Cxt} {X : Cx} {Wx : WX} {i : Nat} {x : Str} (O : XOk k c X F W Wx) (h : c.nm i x = true) : X.N[i]? = some x ∧ Vis X.env.scope x ∧ (x == ("__debug__" : Str)) = false ∧ (x == ("__classdict__" : Str)) = false := by
  unfold Cxt.nm at h
  simp only [Bool.and_eq_true, Bool.not_eq_true', decide_eq_true_eq] at h
  obtain ⟨⟨⟨h1, h2⟩, h3⟩, h4⟩ := h
  exact ⟨by rw [O.N]; exact h1, visB_ok O.sc h2, h3, h4⟩
theorem gl_ok {c : Cxt} {X : Cx} {Wx : WX} {x : Str} (O : XOk k c X F W Wx) (h : c.gl x = true) : Gl X x ∧ (x == ("__debug__" : Str)) = false ∧ x ≠ "__name__" := by
  unfold Cxt.gl at h
  simp only [Bool.and_eq_true, Bool.not_eq_true', decide_eq_true_eq] at h
  obtain ⟨⟨h1, h2⟩, h3⟩ := h
  refine ⟨?_, h2, h3⟩
  show X.env.scope.names.lookup x = _
  rw [O.sc]
  exact h1
theorem isB_ok {c : Cxt} {X : Cx} {Wx : WX} {x y : Str} (O : XOk k c X F W Wx) (h : c.isB x y = true) : x = y ∧ Gl X x ∧ X.mg x = none := by
  unfold Cxt.isB at h
  simp only [Bool.and_eq_true] at h
  obtain ⟨⟨h1, h2⟩, h3⟩ := h
  refine ⟨eq_of_beq h2, (gl_ok O h1).1, ?_⟩
  split at h3
  · rename_i e
    exact O.gl x .blt e
  · cases h3
theorem isC_ok {c : Cxt} {X : Cx} {Wx : WX} {x : Str} {g : Nat} (O : XOk k c X F W Wx) (h : c.isC x g = true) : GbOk X.prog X.w X.K X.mg X.base F W k x (.cst g) := by
  unfold Cxt.isC at h
  split at h
  · rename_i g' e
    have e2 : g' = g := by simpa using h
    subst e2
    exact O.gl x _ e
  · cases h
theorem isF_ok {c : Cxt} {X : Cx} {Wx : WX} {x : Str} {f n : Nat} (O : XOk k c X F W Wx) (h : c.isF x f n = true) : ∃ ps, ps.length = n ∧ GbOk X.prog X.w X.K X.mg X.base F W k x (.fn f ps) := by
  unfold Cxt.isF at h
  split at h
  · rename_i g' ps e
    simp only [Bool.and_eq_true, beq_iff_eq] at h
    obtain ⟨rfl, h2⟩ := h
    exact ⟨ps, h2, O.gl x _ e⟩
  · cases h
theorem isTup_ok {p : Expr} (h : isTup p = true) : ∃ es k pos, p = .Tuple es k pos := by cases p <;> first | (simp [isTup] at h; done) | exact ⟨_, _, _, rfl⟩
theorem nostar_each {p : Expr} {ps : List Expr} {env : Env} (h : ∀ t q, p ≠ .Starred t q) : assignEach (p :: ps) env = (false, assign p env) :: assignEach ps env := by
  cases p <;> first | rfl | exact absurd rfl (h _ _)
mutual
theorem mTg_ok : ∀ (t : Tg) (c : Cxt) (p : Expr), mTg c t p = true → ∃ u : TG, GOk F u t ∧ (∀ (X : Cx) (Wx : WX), XOk k c X F W Wx → PG X p u) ∧ ∀ a q, p ≠ .Starred a q
  | .nm i, c, p, h => by
    cases p <;> first | (simp [mTg] at h; done) | skip
    rename_i x pos
    simp only [mTg, Bool.and_eq_true, decide_eq_true_eq, Bool.or_eq_true] at h
    obtain ⟨⟨h1, h2⟩, h3⟩ := h
    refine ⟨gName i, gok_nm, fun X Wx O => pg_name O.nd (by rw [O.N]; exact h1) (locB_ok O.sc h2) ?_, fun a q z => by cases z⟩
    rcases h3 with h3 | h3
    · exact .inl (O.fn x h3)
    · exact .inr (by rw [O.sc]; exact h3)
  | .tup ts, c, p, h => by
    cases p <;> first | (simp [mTg] at h; done) | skip
    rename_i ps kk pos
    simp only [mTg] at h
    obtain ⟨u, h1, h2, h3, h4⟩ := mTgs_ok ts c ps h
    refine ⟨gTup F.K ps.length u, gok_tup h4 h1, fun X Wx O => ?_, fun a q z => by cases z⟩
    rw [← O.K]
    exact pg_tup O.calm (h2 X Wx O) (h3 X.env).1 (h3 X.env).2
theorem mTgs_ok : ∀ (ts : List Tg) (c : Cxt) (ps : List Expr), mTgs c ts ps = true → ∃ u : TGs, GsOk F u ts ∧ (∀ (X : Cx) (Wx : WX), XOk k c X F W Wx → PGs X ps u) ∧ (∀ env, (assignEach ps env).length = ps.length ∧ (assignEach ps env).findIdx? (·.1) = none) ∧ ts.length = ps.length
  | [], c, ps, h => by
    cases ps with
    | nil => exact ⟨gNil, gsok_nil, fun X Wx O => pgs_nil, fun env => ⟨rfl, rfl⟩, rfl⟩
    | cons p ps => simp [mTgs] at h
  | t :: ts, c, ps, h => by
    cases ps with
    | nil => simp [mTgs] at h
    | cons p ps =>
      simp only [mTgs, Bool.and_eq_true] at h
      obtain ⟨u, h1, h2, h3⟩ := mTg_ok t c p h.1
      obtain ⟨us, k1, k2, k3, k4⟩ := mTgs_ok ts c ps h.2
      refine ⟨gCons u us, gsok_cons h1 k1, fun X Wx O => ?_, fun env => ?_, by simp [k4]⟩
      · exact pgs_cons (h2 X Wx O) (k2 X Wx O) (by rw [nostar_each h3]; rfl)
      · rw [nostar_each h3]
        refine ⟨by simp [(k3 env).1], ?_⟩
        rw [List.findIdx?_cons]
        simp [(k3 env).2]
end
end
end Ev
end
section
set_option linter.all false
set_option autoImplicit false
set_option maxRecDepth 100000
set_option maxHeartbeats 1000000
/-! Ev, part V: the look at an expression shows its reading. -/
namespace Ev
open PySem PySem.Spec PyProof.Rows L2

theorem boot_sum' : bootBuiltins "sum" = some (.builtin "sum") := by decide +kernel
theorem boot_any' : bootBuiltins "any" = some (.builtin "any") := by decide +kernel
theorem boot_all' : bootBuiltins "all" = some (.builtin "all") := by decide +kernel
theorem boot_max' : bootBuiltins "max" = some (.builtin "max") := by decide +kernel
theorem boot_min' : bootBuiltins "min" = some (.builtin "min") := by decide +kernel
theorem boot_abs' : bootBuiltins "abs" = some (.builtin "abs") := by decide +kernel
theorem boot_len' : bootBuiltins "len" = some (.builtin "len") := by decide +kernel
theorem boot_int' : bootBuiltins "int" = some (.type "int") := by decide +kernel
theorem boot_list' : bootBuiltins "list" = some (.type "list") := by decide +kernel
theorem boot_tuple' : bootBuiltins "tuple" = some (.type "tuple") := by decide +kernel
section
variable {F : Fx} {W : Wd} {k : Nat}
abbrev EOk (F : Fx) (W : Wd) (Wx : WX) (X : Cx) (e : Ex) (p : Expr) : Prop := PE X p (LE F Wx (isB e) (evE W e)) ∧ (tOkE p = true → PT X p (LT F Wx (evE W e)))
theorem EOk.pe {Wx : WX} {X : Cx} {e : Ex} {p : Expr} (h : EOk F W Wx X e p) (n : isB e = false) : PE X p (LE F Wx false (evE W e)) := by
  have := h.1
  rw [n] at this
  exact this
theorem eok_of {Wx : WX} {X : Cx} {e : Ex} {p : Expr} (he : ∀ whole, isTrue p X.env whole = (do let v ← whole; standAt p.pos; holding [v] (truthy v))) (h : PE X p (LE F Wx (isB e) (evE W e))) : EOk F W Wx X e p := ⟨h, fun _ => t_val he h⟩
theorem pe_one' {X : Cx} {a : Expr} {pos : Pos} {op : PySem.BoolOp} {t : TE} (h : PE X a t) : PE X (.BoolOp op [a] pos) t := pe_one h
theorem bi1_ok {Wx : WX} {X : Cx} {c : Cxt} {b : Bi} {e : Ex} {p : Expr} {x : Str} {np pos : Pos} (O : XOk k c X F W Wx) (hb : bi1B b = true) (hx : c.isB x (biN b) = true) (pp : plainE p = true) (he : PE X p (LE F Wx (isB e) (evE W e))) :
    PE X (.Call (.Name x np) [p] [] pos) (LE F Wx false (evE W (.bi b [e]))) := by
  obtain ⟨rfl, hg, hm⟩ := isB_ok O hx
  have ha : PA X [p] _ := pa_cons he pa_nil (plain_star pp _ _)
  have hs := plain_star pp [] X.env
  cases b <;> first | (simp [bi1B] at hb; done) | skip
  · exact PE_imp (pe_callB call_len hg hm boot_len' ha (by decide) (by decide) hs rfl) fun σ H Q h => bi1_core (bi_len O.K) h
  · exact PE_imp (pe_callB call_abs hg hm boot_abs' ha (by decide) (by decide) hs rfl) fun σ H Q h => bi1_core (X := X) bi_abs h
  · exact PE_imp (pe_callB (cr_max O.calm) hg hm boot_max' ha (by decide) (by decide) hs rfl) fun σ H Q h => bi1_core (bi_max1 O.K) h
  · exact PE_imp (pe_callB (CallR.or (cr_sum O.calm) (cr_sumT O.calm)) hg hm boot_sum' ha (by decide) (by decide) hs rfl) fun σ H Q h => bi1_core (bi_sum O.K) h
  · exact PE_imp (pe_callTy call_tuple_of hg hm boot_tuple' ha (by decide) (by decide) hs rfl) fun σ H Q h => bi1_core (bi_tuple O.K) h
  · exact PE_imp (pe_callTy call_list_of hg hm boot_list' ha (by decide) (by decide) hs rfl) fun σ H Q h => bi1_core (bi_list O.K) h
  · exact PE_imp (pe_callTy call_int1 hg hm boot_int' ha (by decide) (by decide) hs rfl) fun σ H Q h => bi1_core (X := X) bi_int h
theorem bi2_ok {Wx : WX} {X : Cx} {c : Cxt} {b : Bi} {e e2 : Ex} {p p2 : Expr} {x : Str} {np pos : Pos} (O : XOk k c X F W Wx) (hb : bi2B b = true) (hx : c.isB x (biN b) = true) (pp : plainE p = true) (pp2 : plainE p2 = true) (ha : PA X [p, p2] (LA F Wx (evLs W [e, e2]))) :
    PE X (.Call (.Name x np) [p, p2] [] pos) (LE F Wx false (evE W (.bi b [e, e2]))) := by
  obtain ⟨rfl, hg, hm⟩ := isB_ok O hx
  have hs := plain_star pp [p2] X.env
  have hpl : (backTo pos (starEach [p2] X.env)).any (·.1) = false := plain_any _ _ (by simp [pp2])
  cases b <;> first | (simp [bi2B] at hb; done) | skip
  · exact PE_imp (pe_callB (call_max2 O.calm) hg hm boot_max' ha (by decide) (by decide) hs hpl) fun σ H Q h => bi2_core (X := X) (es := []) bi_max2 h
  · exact PE_imp (pe_callB (call_min2 O.calm) hg hm boot_min' ha (by decide) (by decide) hs hpl) fun σ H Q h => bi2_core (X := X) (es := []) bi_min2 h
abbrev and4 {a b : Bool} (h : (a && b) = true) : a = true ∧ b = true := (Bool.and_eq_true _ _).mp h
theorem nb {a : Bool} (h : (!a) = true) : a = false := by simpa using h
def coParts (c : Cxt) (ck : Ck) (e : Ex) (tg : Tg) (src : Src) (is : List Ex) (x : Str) (pe ptg pit : Expr) (pis : List Expr) (na : Int) (scope : Scope) : Bool :=
  c.gd && coB ck && c.isB x (coN ck) && decide (na = 0) && !isB e && plainG pit && gnC c.N c.sc scope (ownOf c tg) && mS c src ptg pit && mTg (c.gblk scope) tg ptg && mI (c.gblk scope) is pis && mE (c.gblk scope) e pe
theorem mE_co {c : Cxt} {ck : Ck} {e : Ex} {tg : Tg} {src : Src} {is : List Ex} {fn : Expr} {ps : List Expr} {kws : List Keyword} {pos : Pos} (h : mE c (.co ck e tg src is) (.Call fn ps kws pos) = true) :
    ∃ x np pe ptg pit pis na scope gpos, fn = .Name x np ∧ ps = [.GeneratorExp pe [⟨ptg, pit, pis, na⟩] scope gpos] ∧ kws = [] ∧ coParts c ck e tg src is x pe ptg pit pis na scope = true := by
  rw [mE.eq_def] at h
  split at h
  all_goals first
    | exact absurd h Bool.false_ne_true
    | (rename_i h1 h2; cases h1; done)
    | (rename_i h1 h2; cases h1; cases h2; done)
    | (rename_i h1 h2; cases h1; cases h2; exact ⟨_, _, _, _, _, _, _, _, _, rfl, rfl, rfl, h⟩)
mutual
theorem mE_ok : ∀ (e : Ex) (c : Cxt) (p : Expr), mE c e p = true → ∀ (X : Cx) (Wx : WX), XOk k c X F W Wx → EOk F W Wx X e p
  | .nm i, c, p, h, X, Wx, O => by
    cases p <;> first | (simp [mE] at h; done) | skip
    simp only [mE] at h
    obtain ⟨h1, h2, h3, h4⟩ := nm_ok O h
    exact eok_of (fun _ => rfl) (s_nm h1 h2 h3 h4)
  | .pk i, c, p, h, X, Wx, O => by
    cases p <;> first | (simp [mE] at h; done) | skip
    simp only [mE] at h
    obtain ⟨h1, h2, h3, h4⟩ := nm_ok O h
    exact eok_of (fun _ => rfl) (s_pk h1 h2 h3 h4)
  | .cst d, c, p, h, X, Wx, O => by
    cases p <;> first | (cases d <;> simp [mE] at h; done) | skip
    rename_i v kk pos
    cases d <;> cases v <;> first | (simp [mE] at h; done) | skip
    · exact eok_of (fun _ => rfl) s_cst_non
    · simp only [mE, beq_iff_eq] at h
      subst h
      exact eok_of (fun _ => rfl) s_cst_bl
    · simp only [mE, decide_eq_true_eq] at h
      subst h
      exact eok_of (fun _ => rfl) s_cst_int
    · simp only [mE, decide_eq_true_eq] at h
      subst h
      exact eok_of (fun _ => rfl) s_cst_str
  | .glb g, c, p, h, X, Wx, O => by
    cases p <;> first | (simp [mE] at h; done) | skip
    simp only [mE, Bool.and_eq_true] at h
    obtain ⟨h1, h2, h3⟩ := gl_ok O h.1
    obtain ⟨u, v, q1, q2, q3⟩ := isC_ok O h.2
    exact eok_of (fun _ => rfl) (s_glb h1 q1 q2 q3 h2)
  | .bin o a b, c, p, h, X, Wx, O => by
    cases p <;> first | (simp [mE] at h; done) | skip
    simp only [mE, Bool.and_eq_true] at h
    obtain ⟨⟨⟨⟨h1, h2⟩, h3⟩, h4⟩, h5⟩ := h
    have e := opB_ok h1
    subst e
    exact eok_of (fun _ => rfl) (s_bin O.K (nb h2) (nb h3) ((mE_ok a c _ h4 X Wx O).pe (nb h2)) ((mE_ok b c _ h5 X Wx O).pe (nb h3)))
  | .neg a, c, p, h, X, Wx, O => by
    cases p <;> first | (simp [mE] at h; done) | skip
    rename_i op pa pos
    cases op <;> first | (simp [mE] at h; done) | skip
    simp only [mE, Bool.and_eq_true] at h
    exact eok_of (fun _ => rfl) (s_neg (nb h.1) ((mE_ok a c _ h.2 X Wx O).pe (nb h.1)))
  | .not a, c, p, h, X, Wx, O => by
    cases p <;> first | (simp [mE] at h; done) | skip
    rename_i op pa pos
    cases op <;> first | (simp [mE] at h; done) | skip
    simp only [mE, Bool.and_eq_true] at h
    have ih := mE_ok a c _ h.2.2 X Wx O
    exact ⟨s_not (nb h.1) (ih.pe (nb h.1)), fun _ => t_not (ih.2 h.2.1)⟩
  | .and a b, c, p, h, X, Wx, O => by
    cases p <;> first | (simp [mE] at h; done) | skip
    rename_i op vals pos
    cases op <;> first | (cases vals <;> simp [mE] at h; done) | skip
    match vals, h with
    | [], h => simp [mE] at h
    | [_], h => simp [mE] at h
    | [pa, pb], h =>
      simp only [mE, Bool.and_eq_true] at h
      obtain ⟨⟨⟨⟨⟨h1, h2⟩, t1⟩, t2⟩, h3⟩, h4⟩ := h
      have ia := mE_ok a c _ h3 X Wx O
      have ib := mE_ok b c _ h4 X Wx O
      exact ⟨s_and (nb h1) (nb h2) (ia.pe (nb h1)) (pe_one' (ib.pe (nb h2))), fun _ => t_and (nb h2) (ia.2 t1) (t_one_and (ib.2 t2))⟩
    | pa :: pb :: pc :: r, h =>
      simp only [mE, Bool.and_eq_true] at h
      obtain ⟨⟨⟨⟨h1, h2⟩, t1⟩, h3⟩, h4⟩ := h
      have ia := mE_ok a c _ h3 X Wx O
      have ib := mE_ok b c _ h4 X Wx O
      exact ⟨s_and (nb h1) (nb h2) (ia.pe (nb h1)) (ib.pe (nb h2)), fun _ => t_and (nb h2) (ia.2 t1) (ib.2 rfl)⟩
  | .or a b, c, p, h, X, Wx, O => by
    cases p <;> first | (simp [mE] at h; done) | skip
    rename_i op vals pos
    cases op <;> first | (cases vals <;> simp [mE] at h; done) | skip
    match vals, h with
    | [], h => simp [mE] at h
    | [_], h => simp [mE] at h
    | [pa, pb], h =>
      simp only [mE, Bool.and_eq_true] at h
      obtain ⟨⟨⟨⟨⟨h1, h2⟩, t1⟩, t2⟩, h3⟩, h4⟩ := h
      have ia := mE_ok a c _ h3 X Wx O
      have ib := mE_ok b c _ h4 X Wx O
      exact ⟨s_or (nb h1) (nb h2) (ia.pe (nb h1)) (pe_one' (ib.pe (nb h2))), fun _ => t_or (nb h2) (ia.2 t1) (t_one_or (ib.2 t2))⟩
    | pa :: pb :: pc :: r, h =>
      simp only [mE, Bool.and_eq_true] at h
      obtain ⟨⟨⟨⟨h1, h2⟩, t1⟩, h3⟩, h4⟩ := h
      have ia := mE_ok a c _ h3 X Wx O
      have ib := mE_ok b c _ h4 X Wx O
      exact ⟨s_or (nb h1) (nb h2) (ia.pe (nb h1)) (ib.pe (nb h2)), fun _ => t_or (nb h2) (ia.2 t1) (ib.2 rfl)⟩
  | .cmp o a b, c, p, h, X, Wx, O => by
    cases p <;> first | (simp [mE] at h; done) | skip
    rename_i pa ops pbs pos
    match ops, pbs, h with
    | [op], [pb], h =>
      simp only [mE, Bool.and_eq_true] at h
      obtain ⟨⟨⟨h1, h2⟩, h3⟩, h4⟩ := h
      have e := opC_ok h1
      subst e
      have ia := mE_ok a c _ h3 X Wx O
      have ib := mE_ok b c _ h4 X Wx O
      exact ⟨s_cmp O.K O.room h2 ia.1 ib.1, fun _ => t_cmp O.K O.room h2 ia.1 ib.1⟩
    | [], _, h => simp [mE] at h
    | [_], [], h => simp [mE] at h
    | [_], _ :: _ :: _, h => simp [mE] at h
    | _ :: _ :: _, _, h => simp [mE] at h
  | .chn o o' a b d, c, p, h, X, Wx, O => by
    cases p <;> first | (simp [mE] at h; done) | skip
    rename_i pa ops pbs pos
    match ops, pbs, h with
    | [op, op'], [pb, pd], h =>
      simp only [mE, Bool.and_eq_true] at h
      obtain ⟨⟨⟨⟨⟨⟨⟨⟨h1, h2⟩, h3⟩, h4⟩, h5⟩, h6⟩, h7⟩, h8⟩, h9⟩ := h
      have e := opC_ok h1
      subst e
      have e := opC_ok h2
      subst e
      have ia := (mE_ok a c _ h7 X Wx O).pe (nb h3)
      have ib := (mE_ok b c _ h8 X Wx O).pe (nb h4)
      have id := mE_ok d c _ h9 X Wx O
      exact ⟨s_chn' O.K O.room (nb h3) (nb h4) h5 h6 ia ib id.1, fun _ => t_chn' O.K O.room (nb h3) (nb h4) h5 h6 ia ib id.1⟩
    | [], _, h => simp [mE] at h
    | [_], _, h => simp [mE] at h
    | [_, _], [], h => simp [mE] at h
    | [_, _], [_], h => simp [mE] at h
    | [_, _], _ :: _ :: _ :: _, h => simp [mE] at h
    | _ :: _ :: _ :: _, _, h => simp [mE] at h
  | .ite t a b, c, p, h, X, Wx, O => by
    cases p <;> first | (simp [mE] at h; done) | skip
    simp only [mE, Bool.and_eq_true] at h
    obtain ⟨⟨⟨⟨⟨h1, h2⟩, h3⟩, h4⟩, h5⟩, h6⟩ := h
    exact ⟨s_ite (nb h2) (nb h3) ((mE_ok t c _ h4 X Wx O).2 h1) ((mE_ok a c _ h5 X Wx O).pe (nb h2)) ((mE_ok b c _ h6 X Wx O).pe (nb h3)), fun z => by simp [tOkE] at z⟩
  | .tup es, c, p, h, X, Wx, O => by
    cases p <;> first | (simp [mE] at h; done) | skip
    simp only [mE] at h
    exact eok_of (fun _ => rfl) (s_tup (mL_ok es c _ h X Wx O))
  | .lst es, c, p, h, X, Wx, O => by
    cases p <;> first | (simp [mE] at h; done) | skip
    simp only [mE] at h
    exact eok_of (fun _ => rfl) (LF.le (f_lst (mL_ok es c _ h X Wx O)))
  | .lstC es, c, p, h, X, Wx, O => by
    cases p <;> first | (simp [mE] at h; done) | skip
    simp only [mE] at h
    exact eok_of (fun _ => rfl) (s_lstC (mL_ok es c _ h X Wx O))
  | .idx a b, c, p, h, X, Wx, O => by
    cases p <;> first | (simp [mE] at h; done) | skip
    simp only [mE, Bool.and_eq_true] at h
    obtain ⟨⟨⟨h1, h2⟩, h3⟩, h4⟩ := h
    exact eok_of (fun _ => rfl) (s_idx O.K (nb h2) h1 (mE_ok a c _ h3 X Wx O).1 ((mE_ok b c _ h4 X Wx O).pe (nb h2)))
  | .slc a lo hi, c, p, h, X, Wx, O => by
    cases p <;> first | (simp [mE] at h; done) | skip
    rename_i pa ps pos
    cases ps <;> first | (simp [mE] at h; done) | skip
    rename_i plo phi pst p2
    cases pst with
    | some _ => simp [mE] at h
    | none =>
      simp only [mE, Bool.and_eq_true] at h
      obtain ⟨⟨⟨h1, h2⟩, h3⟩, h4⟩ := h
      exact eok_of (fun _ => rfl) (s_slc O.K (nb h1) ((mE_ok a c _ h2 X Wx O).pe (nb h1)) (mO_ok lo c _ h3 X Wx O) (mO_ok hi c _ h4 X Wx O))
  | .call f es, c, p, h, X, Wx, O => by
    cases p <;> first | (simp [mE] at h; done) | skip
    rename_i fn ps kws pos
    cases fn <;> first | (simp [mE] at h; done) | skip
    rename_i x np
    cases kws with
    | cons _ _ => simp [mE] at h
    | nil =>
      simp only [mE, Bool.and_eq_true] at h
      obtain ⟨⟨⟨h1, h2⟩, h3⟩, h4⟩ := h
      obtain ⟨q1, q2, q3⟩ := gl_ok O h1
      obtain ⟨qs, hl, fa, fd, r1, r2, r3, r4⟩ := isF_ok O h2
      refine eok_of (fun _ => rfl) ?_
      cases es with
      | nil =>
        cases ps with
        | cons _ _ => simp [mL] at h4
        | nil =>
          have e : qs = [] := List.length_eq_zero_iff.mp hl
          subst e
          exact s_call0 r4 O.room q1 r1 r2 r3 O.tk q2
      | cons e es =>
        cases ps with
        | nil => simp [mL] at h4
        | cons p ps => exact s_call hl.symm r4 O.room q1 r1 r2 r3 O.tk (mL_ok (e :: es) c _ h4 X Wx O) q2 h3
  | .bi b es, c, p, h, X, Wx, O => by
    cases p <;> first | (cases es <;> simp [mE] at h; done) | skip
    rename_i fn ps kws pos
    cases fn <;> first | (rcases es with _ | ⟨_, _ | ⟨_, _ | _⟩⟩ <;> simp [mE] at h; done) | skip
    rename_i x np
    cases kws with
    | cons _ _ => rcases es with _ | ⟨_, _ | ⟨_, _ | _⟩⟩ <;> rcases ps with _ | ⟨_, _ | ⟨_, _ | _⟩⟩ <;> simp [mE] at h
    | nil =>
      match es, ps, h with
      | [e], [p], h =>
        simp only [mE, Bool.and_eq_true] at h
        obtain ⟨⟨⟨h1, h2⟩, h3⟩, h4⟩ := h
        exact eok_of (fun _ => rfl) (bi1_ok O h1 h2 h3 (mE_ok e c _ h4 X Wx O).1)
      | [e, e2], [p, p2], h =>
        simp only [mE, Bool.and_eq_true] at h
        obtain ⟨⟨⟨⟨⟨⟨⟨h1, h2⟩, h3⟩, h4⟩, h5⟩, h6⟩, h7⟩, h8⟩ := h
        exact eok_of (fun _ => rfl) (bi2_ok O h1 h2 h3 h4 (s_cons (nb h5) h3 ((mE_ok e c _ h7 X Wx O).pe (nb h5)) (s_cons (nb h6) h4 ((mE_ok e2 c _ h8 X Wx O).pe (nb h6)) s_nil')))
      | [], _, h => simp [mE] at h
      | [_], [], h => simp [mE] at h
      | [_], _ :: _ :: _, h => simp [mE] at h
      | [_, _], [], h => simp [mE] at h
      | [_, _], [_], h => simp [mE] at h
      | [_, _], _ :: _ :: _ :: _, h => simp [mE] at h
      | _ :: _ :: _ :: _, _, h => simp [mE] at h
  | .co ck e tg src is, c, p, h, X, Wx, O => by
    cases p <;> first | (cases ck <;> simp [mE] at h; done) | skip
    · rename_i pe gens scope pos
      cases ck <;> first | (simp [mE] at h; done) | skip
      match gens, h with
      | [⟨ptg, pit, pis, na⟩], h =>
        simp only [mE, Bool.and_eq_true, decide_eq_true_eq] at h
        obtain ⟨⟨⟨⟨⟨⟨⟨h0, h1⟩, h2⟩, h3⟩, h4⟩, h5⟩, h6⟩, h7⟩ := h
        subst h0
        obtain ⟨u, g1, g2, g3⟩ := mTg_ok (F := F) (W := W) (k := k) tg (c.blk scope) ptg h5
        exact eok_of (fun _ => rfl) (LF.le (f_lc (own := ownOf c tg) O.calm O.nd (nb h1) h2 (by rw [O.N, O.sc]; exact blkOk_by h3) (ownOf_ix c tg) (mS_ok src c ptg pit h4 X Wx O) g1 (fun s H C cl fp => g2 _ _ (O.blk s H C cl fp)) (fun s H C cl fp => mI_ok is (c.blk scope) pis h6 _ (O.blk s H C cl fp)) fun s H C cl fp => (mE_ok e (c.blk scope) pe h7 _ _ (O.blk s H C cl fp)).pe (nb h1)))
      | [], h => simp [mE] at h
      | _ :: _ :: _, h => simp [mE] at h
    · rename_i fn ps kws pos
      obtain ⟨x, np, pe, ptg, pit, pis, na, scope, gpos, rfl, rfl, rfl, hh⟩ := mE_co h
      clear h
      unfold coParts at hh
      simp only [Bool.and_eq_true, decide_eq_true_eq] at hh
      obtain ⟨⟨⟨⟨⟨⟨⟨⟨⟨⟨h0, h1⟩, h2⟩, h3⟩, h4⟩, h5⟩, h6⟩, h7⟩, h8⟩, h9⟩, h10⟩ := hh
      subst h3
      obtain ⟨rfl, hg, hm⟩ := isB_ok O h2
      obtain ⟨r1, cc, P, r2, r3, r4, r5⟩ := O.gd h0
      obtain ⟨u, g1, g2, g3⟩ := mTg_ok (F := F) (W := W) (k := k) tg (c.gblk scope) ptg h8
      have ok : GnOk X.N X.env.scope scope (ownOf c tg) := by rw [O.N, O.sc]; exact gnOk_by h6
      have pr : GnParts X k scope ptg pe pis u (LTs F W is) (LE F Wx0 false (evE W e)) := ⟨fun Ag s0 H0 C code fp pn hd hr => g2 _ _ (O.gblk Ag s0 H0 C code fp pn hr), fun Ag s0 H0 C code fp pn hd hr => mI_ok is (c.gblk scope) pis h9 _ (O.gblk Ag s0 H0 C code fp pn hr),
        fun Ag s0 H0 C code fp pn hd hr => (mE_ok e (c.gblk scope) pe h10 _ _ (O.gblk Ag s0 H0 C code fp pn hr)).pe (nb h4)⟩
      have hi := mS_ok src c ptg pit h7 X Wx O
      cases ck <;> first | (simp [coB] at h1; done) | skip
      · exact eok_of (fun _ => rfl) (pe_anyG r1 O.calm O.nd hg hm boot_any' r3 r2 r4 r5 (nb h4) h5 ok (ownOf_ix c tg) hi g1 pr)
      · exact eok_of (fun _ => rfl) (pe_allG r1 O.calm O.nd hg hm boot_all' r3 r2 r4 r5 (nb h4) h5 ok (ownOf_ix c tg) hi g1 pr)
      · exact eok_of (fun _ => rfl) (pe_sumG r1 O.calm O.nd hg hm boot_sum' r3 r2 r4 r5 (nb h4) h5 ok (ownOf_ix c tg) hi g1 pr)
  | .fld _ _, c, p, h, X, Wx, O => by simp [mE] at h
  | .pkf _ _, c, p, h, X, Wx, O => by simp [mE] at h
  | .met _ _ _, c, p, h, X, Wx, O => by simp [mE] at h
  | .new _ _, c, p, h, X, Wx, O => by simp [mE] at h
  | .told _ _ _, c, p, h, X, Wx, O => by simp [mE] at h
theorem mL_ok : ∀ (es : List Ex) (c : Cxt) (ps : List Expr), mL c es ps = true → ∀ (X : Cx) (Wx : WX), XOk k c X F W Wx → PA X ps (LA F Wx (evLs W es))
  | [], c, ps, h, X, Wx, O => by
    cases ps with
    | nil => exact s_nil'
    | cons _ _ => simp [mL] at h
  | e :: es, c, ps, h, X, Wx, O => by
    cases ps with
    | nil => simp [mL] at h
    | cons p ps =>
      simp only [mL, Bool.and_eq_true] at h
      obtain ⟨⟨⟨h1, h2⟩, h3⟩, h4⟩ := h
      exact s_cons (nb h1) h2 ((mE_ok e c p h3 X Wx O).pe (nb h1)) (mL_ok es c ps h4 X Wx O)
theorem mO_ok : ∀ (o : Option Ex) (c : Cxt) (p : Option Expr), mO c o p = true → ∀ (X : Cx) (Wx : WX), XOk k c X F W Wx → PO X p (LO F Wx (evOs W o))
  | none, c, p, h, X, Wx, O => by
    cases p with
    | none => exact s_onone
    | some _ => simp [mO] at h
  | some e, c, p, h, X, Wx, O => by
    cases p with
    | none => simp [mO] at h
    | some p =>
      simp only [mO, Bool.and_eq_true] at h
      exact s_osome (nb h.1) ((mE_ok e c p h.2 X Wx O).pe (nb h.1))
theorem mI_ok : ∀ (es : List Ex) (c : Cxt) (ps : List Expr), mI c es ps = true → ∀ (X : Cx), XOk k c X F W Wx0 → PTs X ps (LTs F W es)
  | [], c, ps, h, X, O => by
    cases ps with
    | nil => exact pts_nil'
    | cons _ _ => simp [mI] at h
  | e :: es, c, ps, h, X, O => by
    match es, ps, h with
    | [], [p], h =>
      simp only [mI, Bool.and_eq_true] at h
      exact pts_one' ((mE_ok e c p h.2 X _ O).2 h.1)
    | [], [], h => simp [mI] at h
    | [], _ :: _ :: _, h => simp [mI] at h
    | _ :: _, _, h => simp [mI] at h
theorem mS_ok : ∀ (s : Src) (c : Cxt) (tg p : Expr), mS c s tg p = true → ∀ (X : Cx) (Wx : WX), XOk k c X F W Wx → PI X tg p (LI F Wx W s)
  | .seq b, c, tg, p, h, X, Wx, O => by
    simp only [mS] at h
    exact pi_seqS O.K (mB_ok b c p h X Wx O)
  | .rng es, c, tg, p, h, X, Wx, O => by
    cases p <;> first | (rcases es with _ | ⟨_, _ | ⟨_, _ | _⟩⟩ <;> simp [mS] at h; done) | skip
    rename_i fn ps kws pos
    cases fn <;> first | (rcases es with _ | ⟨_, _ | ⟨_, _ | _⟩⟩ <;> simp [mS] at h; done) | skip
    rename_i x np
    cases kws with
    | cons _ _ => rcases es with _ | ⟨_, _ | ⟨_, _ | _⟩⟩ <;> rcases ps with _ | ⟨_, _ | ⟨_, _ | _⟩⟩ <;> simp [mS] at h
    | nil =>
      match es, ps, h with
      | [e], [p], h =>
        simp only [mS, Bool.and_eq_true] at h
        obtain ⟨⟨⟨h1, h2⟩, h3⟩, h4⟩ := h
        obtain ⟨rfl, hg, hm⟩ := isB_ok O h1
        exact pi_rng1S hg hm h3 (s_cons (nb h2) h3 ((mE_ok e c _ h4 X Wx O).pe (nb h2)) s_nil')
      | [e, e2], [p, p2], h =>
        simp only [mS, Bool.and_eq_true] at h
        obtain ⟨⟨⟨⟨⟨⟨h1, h2⟩, h3⟩, h4⟩, h5⟩, h6⟩, h7⟩ := h
        obtain ⟨rfl, hg, hm⟩ := isB_ok O h1
        exact pi_rng2S hg hm h4 h5 (s_cons (nb h2) h4 ((mE_ok e c _ h6 X Wx O).pe (nb h2)) (s_cons (nb h3) h5 ((mE_ok e2 c _ h7 X Wx O).pe (nb h3)) s_nil'))
      | [], _, h => simp [mS] at h
      | [_], [], h => simp [mS] at h
      | [_], _ :: _ :: _, h => simp [mS] at h
      | [_, _], [], h => simp [mS] at h
      | [_, _], [_], h => simp [mS] at h
      | [_, _], _ :: _ :: _ :: _, h => simp [mS] at h
      | _ :: _ :: _ :: _, _, h => simp [mS] at h
  | .enum b, c, tg, p, h, X, Wx, O => by
    cases p <;> first | (simp [mS] at h; done) | skip
    rename_i fn ps kws pos
    cases fn <;> first | (simp [mS] at h; done) | skip
    match ps, kws, h with
    | [p], [], h =>
      simp only [mS, Bool.and_eq_true] at h
      obtain ⟨⟨⟨h1, h2⟩, h3⟩, h4⟩ := h
      obtain ⟨es, kk, tp, rfl⟩ := isTup_ok h1
      obtain ⟨rfl, hg, hm⟩ := isB_ok O h2
      exact pi_enumS O.K hg hm h3 (mB_ok b c p h4 X Wx O)
    | [], _, h => simp [mS] at h
    | [_], _ :: _, h => simp [mS] at h
    | _ :: _ :: _, _, h => simp [mS] at h
  | .zip e e2, c, tg, p, h, X, Wx, O => by
    cases p <;> first | (simp [mS] at h; done) | skip
    rename_i fn ps kws pos
    cases fn <;> first | (simp [mS] at h; done) | skip
    match ps, kws, h with
    | [p, p2], [], h =>
      simp only [mS, Bool.and_eq_true] at h
      obtain ⟨⟨⟨⟨⟨⟨⟨h1, h2⟩, h3⟩, h4⟩, h5⟩, h6⟩, h7⟩, h8⟩ := h
      obtain ⟨es, kk, tp, rfl⟩ := isTup_ok h1
      obtain ⟨rfl, hg, hm⟩ := isB_ok O h2
      exact pi_zipS O.K hg hm (nb h3) (nb h4) h5 h6 ((mE_ok e c _ h7 X Wx O).pe (nb h3)) ((mE_ok e2 c _ h8 X Wx O).pe (nb h4))
    | [], _, h => simp [mS] at h
    | [_], _, h => simp [mS] at h
    | [_, _], _ :: _, h => simp [mS] at h
    | _ :: _ :: _ :: _, _, h => simp [mS] at h
theorem mB_ok : ∀ (b : Bs) (c : Cxt) (p : Expr), mB c b p = true → ∀ (X : Cx) (Wx : WX), XOk k c X F W Wx → PE X p (LB F Wx W b)
  | .e e, c, p, h, X, Wx, O => by
    simp only [mB, Bool.and_eq_true] at h
    exact b_e (nb h.1) ((mE_ok e c p h.2 X Wx O).pe (nb h.1))
  | .sl i, c, p, h, X, Wx, O => by
    cases p <;> first | (simp [mB] at h; done) | skip
    simp only [mB] at h
    obtain ⟨h1, h2, h3, h4⟩ := nm_ok O h
    exact b_sl h1 h2 h3 h4
  | .fd _ _, c, p, h, X, Wx, O => by simp [mB] at h
end
end
end Ev
end
section
set_option linter.all false
set_option autoImplicit false
set_option maxRecDepth 100000
set_option maxHeartbeats 1000000
/-! Ev, part W: the look at statements. -/
namespace Ev
open PySem PySem.Spec PyProof.Rows L2

/-- does the store swap with the comprehension? -/
def swLc (sc scope : Scope) (x : Str) (l1 l2 : Nat) : Bool := sc.names.lookup x == some .local && l1 == l2 && !(scope.names.any fun (n, k) => n == x && (k == .local || k == .cell))
def namesOf (sc : Scope) (line : Nat) (ts : List Expr) : List Str := ts.filterMap fun
  | .Name id pos => if sc.names.lookup id == some .local && pos.line == line then some id else none
  | _ => none
def lineOf (ts : List Expr) : Nat := (ts.head?.map (·.pos.line)).getD 0
/-- a tuple's items are not stored in the other order -/
def swNone (sc : Scope) : Expr → Expr → Bool
  | .Tuple ts _ _, .Tuple vs _ _ => !(ts.length == 2 || ts.length == 3) || vs.length != ts.length || (!(vs.any fun | .Starred .. => true | _ => false) && ((namesOf sc (lineOf ts) ts).length != ts.length || (namesOf sc (lineOf ts) ts).eraseDups.length != (namesOf sc (lineOf ts) ts).length || vs.all (foldedForSure 8)))
  | .Tuple .., _ => true
  | _, _ => false
def nmL (c : Cxt) (i : Nat) (x : Str) : Bool := decide (c.N[i]? = some x) && decide (c.sc.names.lookup x = some .local)
def parB (c : Cxt) : List Nat → List Expr → List Expr → Bool
  | [i, j], [.Name x px, .Name y py], [a, b] => nmL c i x && nmL c j y && decide (i ≠ j) && decide (c.sc.kind = .function) && px.line == py.line && decide (x ≠ y) && plainE a && plainE b && !([a, b].all (foldedForSure 8)) && !([a, b].all (constantsAlone 8))
  | [i, j, l], [.Name x px, .Name y py, .Name z pz], [a, b, d] => nmL c i x && nmL c j y && nmL c l z && decide (i ≠ j) && decide (i ≠ l) && decide (j ≠ l) && decide (c.sc.kind = .function) && px.line == py.line && px.line == pz.line && decide (x ≠ y) && decide (x ≠ z) && decide (y ≠ z) && plainE a && plainE b && plainE d && !([a, b, d].all (foldedForSure 8)) && !([a, b, d].all (constantsAlone 8))
  | _, _, _ => false
def asgB (c : Cxt) (i : Nat) (x : Str) : Bool := decide (c.N[i]? = some x) && locB c.sc x && (c.fn x || decide (c.sc.names.lookup x = some .local))
/-- how a value is stored under a name -/
def stB (c : Cxt) (x : Str) (px : Pos) (p : Expr) : Bool := decide (c.sc.kind = .function) && match p with
  | .ListComp .. => true
  | p => swapOk p
def Cxt.isE (c : Cxt) (x : Str) (g : Nat) : Bool := c.gl x && match c.G.lookup x with
  | some (.exc h) => h == g
  | _ => false
def isAS : BOp → Bool
  | .add => true | .sub => true
  | _ => false
def isNm (c : Cxt) (i : Nat) : Expr → Bool
  | .Name x _ => c.nm i x
  | _ => false
theorem isNm_ok {c : Cxt} {i : Nat} {p : Expr} (h : isNm c i p = true) : ∃ x pos, p = .Name x pos ∧ c.nm i x = true := by
  unfold isNm at h
  split at h
  · exact ⟨_, _, rfl, h⟩
  · cases h
/-- X('text') -/
def isRai (c : Cxt) (g : Nat) (e : Expr) : Bool := match e with
  | .Call (.Name x _) [.Constant (.str _) _ _] [] _ => c.isE x g
  | _ => false
theorem isRai_ok {c : Cxt} {g : Nat} {e : Expr} (h : isRai c g e = true) : ∃ x p s k p2 p3, e = .Call (.Name x p) [.Constant (.str s) k p2] [] p3 ∧ c.isE x g = true := by
  unfold isRai at h
  split at h
  · exact ⟨_, _, _, _, _, _, rfl, h⟩
  · cases h
def noArgs : Arguments → Bool
  | ⟨[], [], none, [], [], none, []⟩ => true
  | _ => false
/-- lambdas without parameters -/
def lmsB (c : Cxt) : List Ex → List Expr → Bool
  | [], [] => true
  | e :: es, .Lambda params body scope _ :: ps => !isB e && LamX.lamSB c.sc scope && noArgs params && mE (c.lblk scope) e body && lmsB c es ps
  | _, _ => false
def Cxt.isT (c : Cxt) (x : Str) (g : Nat) (ret : Str) : Bool := match c.G.lookup x with
  | some (.told h r) => h == g && decide (r = ret)
  | _ => false
/-- bad = [lambda ..]; the comparison behind it -/
def badsB (c : Cxt) (i j : Nat) (es : List Ex) (cc : Nat) : Stmt → Expr → Bool
  | .Assign [.Name y _] (.List lams _) _, .Compare (.ListComp _ [⟨.Name fn _, .Name y2 _, [.Compare (.Call (.Name x _) [.Name fn2 _] [] _) [.NotEq] [.Constant (.str ret) _ _] _], na⟩] scope _) [.NotEq] [.List [] _] _ =>
    c.ld && decide (y2 = y) && decide (fn2 = fn) && decide (na = 0) && asgB c i y && c.nm i y && decide (c.N[j]? = some fn) && blkC c.N c.sc scope [(fn, j)] && decide ((relS scope c.sc).names.lookup fn = some .local) && !(fn == ("__debug__" : Str)) && !(fn == ("__classdict__" : Str)) &&
      decide ((relS scope c.sc).names.lookup x = some .globalImplicit) && !(x == ("__debug__" : Str)) && c.isT x cc ret && decide (semCmp .ne (.str ret) (.str ret) = some false) && decide (es.length ≤ 1000) && lmsB c es lams
  | _, _ => false
def ifParts : Stmt → Option (Expr × Expr × List Stmt)
  | .If (.BoolOp .Or (C :: r0 :: rest) op) A [] _ => some (C, .BoolOp .Or (r0 :: rest) op, A)
  | _ => none
theorem ifParts_ok {p : Stmt} {C R : Expr} {A : List Stmt} (h : ifParts p = some (C, R, A)) : ∃ r0 rest op ip, p = .If (.BoolOp .Or (C :: r0 :: rest) op) A [] ip ∧ R = .BoolOp .Or (r0 :: rest) op := by
  unfold ifParts at h
  split at h
  · cases h
    exact ⟨_, _, _, _, rfl, rfl⟩
  · cases h
def orB (c : Cxt) (t : Ex) : Expr → Bool
  | .BoolOp .Or [r0] _ => tOkE r0 && mE c t r0
  | R => tOkE R && mE c t R
mutual
def mSt (c : Cxt) : St → Stmt → Bool
  | .pass, .Pass _ => true
  | .pass, .Expr (.Constant (.str _) _ _) _ => true
  | .asg i e, .Assign [.Name x px] p _ => asgB c i x && stB c x px p && !isB e && mE c e p
  | .asgO i e, .Assign [.Name x px] p _ => asgB c i x && stB c x px p && isFresh e && mE c e p
  | .unp t e, .Assign [tg] p _ => swapOk p && decide (c.sc.kind = .function) && swNone c.sc tg p && !isB e && mTg c t tg && mE c e p
  | .par is es, .Assign [.Tuple ts _ _] (.Tuple vs _ _) _ => parB c is ts vs && mL c es vs
  | .seti (.sl i) k e, .Assign [.Subscript o pk _] p _ => isNm c i o && swapOk p && plainE pk && !isB e && !isB k && mE c e p && mE c k pk
  | .seti (.cl o) k e, .Assign [.Subscript po pk _] p _ => swapOk p && plainE pk && !isB e && !isB o && !isB k && mE c e p && mE c o po && mE c k pk
  | .augn i o e, .AugAssign (.Name x _) op p _ => isAS o && opB o op && asgB c i x && !isB e && mE c e p
  | .augi (.sl i) k o e, .AugAssign (.Subscript o2 pk _) op p _ => isAS o && opB o op && isNm c i o2 && plainE pk && !isB e && !isB k && mE c e p && mE c k pk
  | .exp e, .Expr p _ => swapOk p && !isB e && mE c e p
  | .ifs t a b, .If pt pa pb _ => tOkE pt && mE c t pt && mSts c a pa && mSts c b pb
  | .for tg src body, .For ptg pit pb [] _ => plainE pit && mS c src ptg pit && mTg c tg ptg && mSts c body pb
  | .whl t body, .While pt pb [] _ => tOkE pt && mE c t pt && mSts c body pb
  | .ret e, .Return (some p) _ => !isB e && mE c e p
  | .retn, .Return none _ => true
  | .rai g, .Raise (some e) none _ => isRai c g e
  | _, _ => false
def mSts (c : Cxt) : List St → List Stmt → Bool
  | [], [] => true
  | .frz _ :: r, ps => mSts c r ps
  | .bads i j es cc :: .ifs t a [] :: r, p1 :: p2 :: ps => (match ifParts p2 with
    | some (C, R, A) => badsB c i j es cc p1 C && orB c t R && mSts c a A && mSts c r ps
    | none => false)
  | s :: r, p :: ps => mSt c s p && mSts c r ps
  | _, _ => false
end
structure XSk (k : Nat) (c : Cxt) (X : Cx) (F : Fx) (W : Wd) (Wx : WX) : Prop extends XOk k c X F W Wx where
  po : PassesOwn (model X.prog X.w) X.A X.env X.xe
section
variable {F : Fx} {W : Wd} {k : Nat} {X : Cx} {Wx : WX} {c : Cxt}
theorem asgB_ok {i : Nat} {x : Str} (O : XOk k c X F W Wx) (h : asgB c i x = true) : X.N[i]? = some x ∧ Loc X.env.scope x ∧ (X.fn x = true ∨ X.env.scope.names.lookup x = some .local) := by
  unfold asgB at h
  simp only [Bool.and_eq_true, decide_eq_true_eq, Bool.or_eq_true] at h
  obtain ⟨⟨h1, h2⟩, h3⟩ := h
  refine ⟨by rw [O.N]; exact h1, locB_ok O.sc h2, ?_⟩
  rcases h3 with h3 | h3
  · exact .inl (O.fn x h3)
  · exact .inr (by rw [O.sc]; exact h3)
theorem blockKind_fn (hk : X.env.scope.kind = .function) : X.env.blockKind = .function := by
  unfold Env.blockKind
  rw [hk]
  exact if_neg (by decide)
theorem sw_false {elt : Expr} {gs : List Comprehension} {scope : Scope} {pos py : Pos} {y : Str} {l : Nat} (hk : X.env.scope.kind = .function) (h : swLc X.env.scope scope y py.line pos.line = false) :
    swapsWith (.ListComp elt gs scope pos) (some (.Name y py)) l X.env = pure false := by
  unfold swapsWith
  simp only [blockKind_fn hk, Expr.pos]
  show pure _ = pure false
  exact congrArg pure h
theorem sw_true' {elt : Expr} {gs : List Comprehension} {scope : Scope} {pos py : Pos} {y : Str} {l : Nat} (hk : X.env.scope.kind = .function) (h : swLc X.env.scope scope y py.line pos.line = true) :
    X.env.scope.names.lookup y = some .local ∧ swapsWith (.ListComp elt gs scope pos) (some (.Name y py)) l X.env = pure true := by
  unfold swLc at h
  simp only [Bool.and_eq_true, Bool.not_eq_true', beq_iff_eq] at h
  obtain ⟨⟨h1, h2⟩, h3⟩ := h
  exact ⟨h1, sw_true hk h1 (by simp [h2]) h3⟩
theorem LE_LF {f : Wr → Ga → M → R D} {σ : L2.St} {H : Hp} {Q : VK} (hq : LE F Wx false f σ H Q) : LF F Wx f σ H Q := by
  obtain ⟨ω, g, m, wr, S, hq⟩ := hq
  refine ⟨ω, g, m, wr, S, ?_⟩
  cases hf : f wr g m with
  | stuck => rw [hf] at hq; exact hq
  | exc c m' => rw [hf] at hq; exact hq
  | ok d m' =>
    rw [hf] at hq
    exact fun ω' a H' p h0 hc hB hl => hq (ω'.out a) _ _ (p.freeze h0 hl) (.inl (Rep.freeze hc (cont_nocell hc)))
theorem set_core {i : Nat} {e : Ex} {σ : L2.St} {H : Hp} {Dn : Ends} (ne : isB e = false) (h : LS F Wx (exS W (.asg i e)) Dn σ H) : LE F Wx false (evE W e) σ H fun v H1 => Dn.nx (σ.set i (some v)) H1 := by
  obtain ⟨ω, g, m, wr, S, h⟩ := h
  simp only [exec, ne, Bool.false_eq_true, if_false] at h
  refine LG.of S (Fin.mono (fun v H1 hx => ?_) (FinS.of_bind (rel := VRel F false) S h))
  obtain ⟨ω1, d, m1, e1, p1, r1, S1, h1⟩ := hx
  unfold asgn at h1
  split at h1
  · exact h1.nx (S1.set r1.pure) vg_set_f
  · exact h1.elim
/-- name = [.. for ..], wherever it stands -/
theorem lc_set {t : TS} {i : Nat} {y : Str} {py spos : Pos} {e : Ex} {tg : Tg} {src : Src} {is : List Ex} {pe : Expr} {gens : List Comprehension} {scope : Scope} {pos : Pos} (O : XOk k c X F W Wx) (hk : c.sc.kind = .function) (hn : asgB c i y = true) (h : mE c (.co .lc e tg src is) (.ListComp pe gens scope pos) = true)
    (ht : ∀ Dn σ H, t Dn σ H → LF F Wx (evE W (.co .lc e tg src is)) σ H fun v H1 => Dn.nx (σ.set i (some v)) H1) :
    PS X (.Assign [.Name y py] (.ListComp pe gens scope pos) spos) t := by
  have hk' : X.env.scope.kind = .function := by rw [O.sc]; exact hk
  obtain ⟨n1, n2, n3⟩ := asgB_ok O hn
  match gens, h with
  | [⟨ptg, pit, pis, na⟩], h =>
    cases hs : swLc X.env.scope scope y py.line pos.line with
    | false =>
      simp only [mE, Bool.and_eq_true, decide_eq_true_eq] at h
      obtain ⟨⟨⟨⟨⟨⟨⟨h0, h1⟩, h2⟩, h3⟩, h4⟩, h5⟩, h6⟩, h7⟩ := h
      subst h0
      obtain ⟨u, g1, g2, g3⟩ := mTg_ok (F := F) (W := W) (k := k) tg (c.blk scope) ptg h5
      have fl := f_lc (Wx := Wx) (pos := pos) (own := ownOf c tg) O.calm O.nd (nb h1) h2 (by rw [O.N, O.sc]; exact blkOk_by h3) (ownOf_ix c tg) (mS_ok src c ptg pit h4 X Wx O) g1 (fun s H C cl fp => g2 _ _ (O.blk s H C cl fp)) (fun s H C cl fp => mI_ok is (c.blk scope) pis h6 _ (O.blk s H C cl fp)) fun s H C cl fp => (mE_ok e (c.blk scope) pe h7 _ _ (O.blk s H C cl fp)).pe (nb h1)
      exact PS_imp (ps_set O.nd n1 n2 fl (sw_false hk' hs) n3) fun Dn σ H h => ht Dn σ H h
    | true =>
      obtain ⟨q1, q2⟩ := sw_true' (elt := pe) (gs := [⟨ptg, pit, pis, na⟩]) (l := spos.line) hk' hs
      simp only [mE, Bool.and_eq_true, decide_eq_true_eq] at h
      obtain ⟨⟨⟨⟨⟨⟨⟨h0, h1⟩, h2⟩, h3⟩, h4⟩, h5⟩, h6⟩, h7⟩ := h
      subst h0
      obtain ⟨u, g1, g2, g3⟩ := mTg_ok (F := F) (W := W) (k := k) tg (c.blk scope) ptg h5
      refine PS_imp (ps_setLc (own := ownOf c tg) O.calm O.nd n1 q1 q2 (mS_ok src c ptg pit h4 X Wx O) (by rw [O.N, O.sc]; exact blkOk_by h3) (fun s H C cl fp => g2 _ _ (O.blk s H C cl fp)) (fun s H C cl fp => mI_ok is (c.blk scope) pis h6 _ (O.blk s H C cl fp)) (fun s H C cl fp => (mE_ok e (c.blk scope) pe h7 _ _ (O.blk s H C cl fp)).pe (nb h1)) (plain_fold h2 _)) fun Dn σ H h => ?_
      exact lc_read (nb h1) g1 (ownOf_ix c tg) (ht Dn σ H h)
  | [], h => simp [mE] at h
  | _ :: _ :: _, h => simp [mE] at h
theorem fresh_ok {e : Ex} {p : Expr} (O : XOk k c X F W Wx) (hf : isFresh e = true) (h : mE c e p = true) (hp : swapOk p = true) : PE X p (LF F Wx (evE W e)) := by
  cases e <;> first | (simp [isFresh] at hf; done) | skip
  · rename_i o a b
    cases o <;> first | (simp [isFresh] at hf; done) | skip
    cases a <;> first | (simp [isFresh] at hf; done) | skip
    cases p <;> first | (simp [mE] at h; done) | skip
    simp only [mE, Bool.and_eq_true] at h
    obtain ⟨⟨⟨⟨h1, h2⟩, h3⟩, h4⟩, h5⟩ := h
    have e := opB_ok h1
    subst e
    exact f_rep O.K (nb h3) ((mE_ok _ c _ h4 X Wx O).pe rfl) ((mE_ok _ c _ h5 X Wx O).pe (nb h3))
  · cases p <;> first | (simp [mE] at h; done) | skip
    simp only [mE] at h
    exact f_lst (mL_ok _ c _ h X Wx O)
  · rename_i ck _ _ _ _
    cases ck <;> first | (simp [isFresh] at hf; done) | skip
    cases p <;> first | (simp [mE] at h; done) | (simp [swapOk] at hp; done) | (obtain ⟨_, _, _, _, _, _, _, _, _, _, _, _, hh⟩ := mE_co h; simp [coParts, coB] at hh; done)
theorem sub_ok {o pk : Expr} {ps' : Pos} (h : plainE pk = true) : subAssign X o pk ps' := fun v => by cases pk <;> first | rfl | (simp [plainE] at h)
theorem augStore_ok {pk : Expr} (h : plainE pk = true) : ∀ ov iv new, augStore pk ov iv new = (do holding [new, ov, iv] (setItem ov iv new); release [new, ov, iv] []; pure .next) := fun ov iv new => by cases pk <;> first | rfl | (simp [plainE] at h)
theorem isAS_ok {o : BOp} (h : isAS o = true) : o = .add ∨ o = .sub := by cases o <;> first | exact .inl rfl | exact .inr rfl | (simp [isAS] at h)
def starB (vs : List Expr) : Bool := vs.any fun | .Starred .. => true | _ => false
theorem swapped_eq (hk : X.env.scope.kind = .function) (ts vs : List Expr) (k1 k2 : Nat) (p1 p2 : Pos) : swappedStores [.Tuple ts k1 p1] (.Tuple vs k2 p2) X.env =
    (if (!(ts.length == 2 || ts.length == 3) || vs.length != ts.length || (ScopeKind.function != ScopeKind.function)) = true then pure none
    else if starB vs = true then pure none
    else if ((namesOf X.env.scope (lineOf ts) ts).length != ts.length || (namesOf X.env.scope (lineOf ts) ts).eraseDups.length != (namesOf X.env.scope (lineOf ts) ts).length) = true then pure none
    else if vs.all (foldedForSure 8) = true then pure none
    else if vs.all (constantsAlone 8) = true then (do unsupported "assign.tuple-of-constant-expressions:order-of-the-stores"; pure (some (namesOf X.env.scope (lineOf ts) ts)))
    else pure (some (namesOf X.env.scope (lineOf ts) ts))) := by
  unfold swappedStores
  simp only [blockKind_fn hk]
  rfl
theorem swNone_ok {tg p : Expr} (hk : X.env.scope.kind = .function) (h : swNone X.env.scope tg p = true) : swappedStores [tg] p X.env = pure none := by
  unfold swNone at h
  split at h
  · rename_i ts _ _ vs _ _
    rw [swapped_eq hk]
    have h : (!(ts.length == 2 || ts.length == 3) || vs.length != ts.length || (!(starB vs) && ((namesOf X.env.scope (lineOf ts) ts).length != ts.length || (namesOf X.env.scope (lineOf ts) ts).eraseDups.length != (namesOf X.env.scope (lineOf ts) ts).length || vs.all (foldedForSure 8)))) = true := h
    by_cases c1 : (!(ts.length == 2 || ts.length == 3) || vs.length != ts.length || (ScopeKind.function != ScopeKind.function)) = true
    · rw [if_pos c1]
    · rw [if_neg c1]
      by_cases c2 : starB vs = true
      · rw [if_pos c2]
      · rw [if_neg c2]
        by_cases c3 : ((namesOf X.env.scope (lineOf ts) ts).length != ts.length || (namesOf X.env.scope (lineOf ts) ts).eraseDups.length != (namesOf X.env.scope (lineOf ts) ts).length) = true
        · rw [if_pos c3]
        · rw [if_neg c3]
          have c4 : vs.all (foldedForSure 8) = true := by
            rw [Bool.or_eq_true, Bool.and_eq_true, Bool.or_eq_true _ (vs.all _)] at h
            rcases h with h | ⟨_, h | h⟩
            · exact absurd (by rw [h]; rfl) c1
            · exact absurd h c3
            · exact h
          rw [if_pos c4]
  · rename_i hp
    cases p <;> first | rfl | exact (hp _ _ _ rfl).elim
  · cases h
theorem par2_ok {i j : Nat} {x y : Str} {px py pt p2 : Pos} {a b : Expr} {kt k2 : Nat} (hk : X.env.scope.kind = .function) (hx : X.env.scope.names.lookup x = some .local) (hy : X.env.scope.names.lookup y = some .local) (hl : px.line = py.line) (hne : x ≠ y) (pa : plainE a = true) (pb : plainE b = true)
    (h1 : [a, b].all (foldedForSure 8) = false) (h2 : [a, b].all (constantsAlone 8) = false) : swappedStores [.Tuple [.Name x px, .Name y py] kt pt] (.Tuple [a, b] k2 p2) X.env = pure (some [x, y]) := by
  rw [swapped_eq hk]
  have e : namesOf X.env.scope (lineOf [.Name x px, .Name y py]) [.Name x px, .Name y py] = [x, y] := by
    simp [namesOf, lineOf, hx, hy, Expr.pos, hl]
  have s : starB [a, b] = false := by
    have : ∀ e : Expr, plainE e = true → starB [e] = false := fun e h => by cases e <;> first | rfl | (simp [plainE] at h)
    have ha := this a pa
    have hb := this b pb
    simp only [starB, List.any_cons, List.any_nil, Bool.or_false] at ha hb ⊢
    rw [ha, hb]
    rfl
  rw [e, s, h1, h2]
  have d : ([x, y] : List Str).eraseDups = [x, y] := by
    simp [List.eraseDups_cons, hne, Ne.symm hne]
  rw [d]
  rfl
theorem par3_ok {x y z : Str} {px py pz pt p2 : Pos} {a b d : Expr} {kt k2 : Nat} (hk : X.env.scope.kind = .function) (hx : X.env.scope.names.lookup x = some .local) (hy : X.env.scope.names.lookup y = some .local) (hz : X.env.scope.names.lookup z = some .local) (hl : px.line = py.line) (hl2 : px.line = pz.line) (hne : x ≠ y) (hne2 : x ≠ z) (hne3 : y ≠ z) (pa : plainE a = true) (pb : plainE b = true) (pd : plainE d = true)
    (h1 : [a, b, d].all (foldedForSure 8) = false) (h2 : [a, b, d].all (constantsAlone 8) = false) : swappedStores [.Tuple [.Name x px, .Name y py, .Name z pz] kt pt] (.Tuple [a, b, d] k2 p2) X.env = pure (some [x, y, z]) := by
  rw [swapped_eq hk]
  have e : namesOf X.env.scope (lineOf [.Name x px, .Name y py, .Name z pz]) [.Name x px, .Name y py, .Name z pz] = [x, y, z] := by
    simp [namesOf, lineOf, hx, hy, hz, Expr.pos, ← hl, ← hl2]
  have s : starB [a, b, d] = false := by
    have : ∀ e : Expr, plainE e = true → starB [e] = false := fun e h => by cases e <;> first | rfl | (simp [plainE] at h)
    have ha := this a pa
    have hb := this b pb
    have hd := this d pd
    simp only [starB, List.any_cons, List.any_nil, Bool.or_false] at ha hb hd ⊢
    rw [ha, hb, hd]
    rfl
  rw [e, s, h1, h2]
  have dd : ([x, y, z] : List Str).eraseDups = [x, y, z] := by
    simp [List.eraseDups_cons, hne, Ne.symm hne, hne2, Ne.symm hne2, hne3, Ne.symm hne3]
  rw [dd]
  rfl
end
section
variable {F : Fx} {W : Wd} {k : Nat}
theorem noArgs_ok {p : Arguments} (h : noArgs p = true) : p = ⟨[], [], none, [], [], none, []⟩ := by
  unfold noArgs at h
  split at h
  · rfl
  · cases h
theorem lmsB_ok {c : Cxt} {X : Cx} {Wx : WX} (O : XOk k c X F W Wx) : ∀ (es : List Ex) (ps : List Expr), lmsB c es ps = true → ∃ ls : List (Lm × Pos), ps = ls.map lmE ∧ es = ls.map (·.1.e) ∧ ∀ l ∈ ls, LmOk X l.1 ∧ defaultsOf l.1.params X.env = ([], []) ∧
    ∀ (A : Around) (outer : List Env) (s : Shared) (H : Hp) (E : XK) (f c' : Addr), Room k (A.deeper (LamX.lamEnv X l.1.scope s.heap.objs.size f c')) → PE (LamX.lamCx X A outer s H E l.1.scope f c') l.1.body (lmT F W l.1 E)
  | [], ps, h => by
    cases ps with
    | nil => exact ⟨[], rfl, rfl, fun l hl => by cases hl⟩
    | cons _ _ => simp [lmsB] at h
  | e :: es, ps, h => by
    cases ps with
    | nil => simp [lmsB] at h
    | cons p ps =>
      cases p <;> first | (simp [lmsB] at h; done) | skip
      rename_i params body scope pos
      simp only [lmsB, Bool.and_eq_true] at h
      obtain ⟨⟨⟨⟨h1, h2⟩, h3⟩, h4⟩, h5⟩ := h
      obtain ⟨ls, e1, e2, h6⟩ := lmsB_ok O es ps h5
      have e3 := noArgs_ok h3
      subst e3
      refine ⟨(⟨_, body, scope, e⟩, pos) :: ls, by rw [e1]; rfl, by rw [e2]; rfl, fun l hl => ?_⟩
      rcases List.mem_cons.mp hl with z | z
      · subst z
        exact ⟨⟨by rw [O.sc]; exact LamX.lamS_by h2, fun q cl pm cv ctv => rfl⟩, rfl, fun A outer s H E f c' hr => (mE_ok e (c.lblk scope) body h4 _ _ (O.lblk A outer s H E f c' hr)).pe (nb h1)⟩
      · exact h6 l z
end
end Ev
end
section
set_option linter.all false
set_option autoImplicit false
set_option maxRecDepth 100000
set_option maxHeartbeats 1000000
/-! Ev, part X: the look at statements shows their readings. -/
namespace Ev
open PySem PySem.Spec PyProof.Rows L2

section
variable {F : Fx} {W : Wd} {k : Nat} {Wx : WX}
theorem isE_ok {c : Cxt} {X : Cx} {x : Str} {g : Nat} (O : XOk k c X F W Wx) (h : c.isE x g = true) : Gl X x ∧ (x == ("__debug__" : Str)) = false ∧ GbOk X.prog X.w X.K X.mg X.base F W k x (.exc g) := by
  unfold Cxt.isE at h
  simp only [Bool.and_eq_true] at h
  obtain ⟨q1, q2, q3⟩ := gl_ok O h.1
  refine ⟨q1, q2, ?_⟩
  have h := h.2
  split at h
  · rename_i g' e
    have e2 : g' = g := by simpa using h
    subst e2
    exact O.gl x _ e
  · cases h
theorem nmL_ok {c : Cxt} {X : Cx} {i : Nat} {x : Str} (O : XOk k c X F W Wx) (h : nmL c i x = true) : X.N[i]? = some x ∧ X.env.scope.names.lookup x = some .local := by
  unfold nmL at h
  simp only [Bool.and_eq_true, decide_eq_true_eq] at h
  exact ⟨by rw [O.N]; exact h.1, by rw [O.sc]; exact h.2⟩
theorem s_par {c : Cxt} {X : Cx} {is : List Nat} {es : List Ex} {ts vs : List Expr} {k1 k2 : Nat} {p1 p2 pos : Pos} (O : XOk k c X F W Wx) (h : parB c is ts vs = true) (hm : mL c es vs = true) :
    PS X (.Assign [.Tuple ts k1 p1] (.Tuple vs k2 p2) pos) (LS F Wx (exS W (.par is es))) := by
  have hk : ∀ {z : Prop} [Decidable z], decide (c.sc.kind = .function) = true → X.env.scope.kind = .function := fun q => by rw [O.sc]; exact of_decide_eq_true q
  unfold parB at h
  split at h
  · simp only [Bool.and_eq_true, decide_eq_true_eq, Bool.not_eq_true', beq_iff_eq] at h
    obtain ⟨⟨⟨⟨⟨⟨⟨⟨⟨h1, h2⟩, h3⟩, h4⟩, h5⟩, h6⟩, h7⟩, h8⟩, h9⟩, h10⟩ := h
    obtain ⟨a1, a2⟩ := nmL_ok O h1
    obtain ⟨b1, b2⟩ := nmL_ok O h2
    exact s_par2 O.calm O.nd a1 b1 h3 a2 b2 (mL_ok es c _ hm X Wx O) (par2_ok (i := 0) (j := 0) (by rw [O.sc]; exact h4) a2 b2 h5 h6 h7 h8 h9 h10)
  · simp only [Bool.and_eq_true, decide_eq_true_eq, Bool.not_eq_true', beq_iff_eq] at h
    obtain ⟨⟨⟨⟨⟨⟨⟨⟨⟨⟨⟨⟨⟨⟨⟨⟨h1, h2⟩, h3⟩, h4⟩, h5⟩, h6⟩, h7⟩, h8⟩, h9⟩, h10⟩, h11⟩, h12⟩, h13⟩, h14⟩, h15⟩, h16⟩, h17⟩ := h
    obtain ⟨a1, a2⟩ := nmL_ok O h1
    obtain ⟨b1, b2⟩ := nmL_ok O h2
    obtain ⟨c1, c2⟩ := nmL_ok O h3
    exact s_par3 O.calm O.nd a1 b1 c1 h4 h5 h6 a2 b2 c2 (mL_ok es c _ hm X Wx O) (par3_ok (by rw [O.sc]; exact h7) a2 b2 c2 h8 h9 h10 h11 h12 h13 h14 h15 h16 h17)
  · cases h
theorem s_set_any {c : Cxt} {X : Cx} {i : Nat} {e : Ex} {x : Str} {px pos : Pos} {p : Expr} (O : XOk k c X F W Wx) (h1 : asgB c i x = true) (h2 : stB c x px p = true) (h3 : isB e = false) (h4 : mE c e p = true) :
    PS X (.Assign [.Name x px] p pos) (LS F Wx (exS W (.asg i e))) := by
  obtain ⟨n1, n2, n3⟩ := asgB_ok O h1
  unfold stB at h2
  simp only [Bool.and_eq_true, decide_eq_true_eq] at h2
  obtain ⟨hk, h2⟩ := h2
  split at h2
  · rename_i pe gens scope lp
    cases e <;> first | (simp [mE] at h4; done) | skip
    rename_i ck el tg src is
    cases ck <;> first | (simp [mE] at h4; done) | skip
    exact lc_set O hk h1 h4 fun Dn σ H h => LE_LF (set_core h3 h)
  · exact s_asg O.nd n1 n2 n3 h2 h3 ((mE_ok e c p h4 X Wx O).pe h3)
theorem s_setO_any {c : Cxt} {X : Cx} {i : Nat} {e : Ex} {x : Str} {px pos : Pos} {p : Expr} (O : XOk k c X F W Wx) (h1 : asgB c i x = true) (h2 : stB c x px p = true) (h3 : isFresh e = true) (h4 : mE c e p = true) :
    PS X (.Assign [.Name x px] p pos) (LS F Wx (exS W (.asgO i e))) := by
  obtain ⟨n1, n2, n3⟩ := asgB_ok O h1
  unfold stB at h2
  simp only [Bool.and_eq_true, decide_eq_true_eq] at h2
  obtain ⟨hk, h2⟩ := h2
  split at h2
  · rename_i pe gens scope lp
    cases e <;> first | (simp [mE] at h4; done) | skip
    rename_i ck el tg src is
    cases ck <;> first | (simp [mE] at h4; done) | skip
    exact lc_set O hk h1 h4 fun Dn σ H h => setO_core h
  · exact s_asgO O.nd n1 n2 n3 h2 (fresh_ok O h3 h4 h2)
theorem orB_ok {c : Cxt} {t : Ex} {R : Expr} {X : Cx} {Wx : WX} (O : XOk k c X F W Wx) (h : orB c t R = true) : PT X R (LT F Wx (evE W t)) := by
  unfold orB at h
  split at h
  · simp only [Bool.and_eq_true] at h
    exact t_one_or ((mE_ok t c _ h.2 X Wx O).2 h.1)
  · simp only [Bool.and_eq_true] at h
    exact (mE_ok t c _ h.2 X Wx O).2 h.1
theorem isT_ok {c : Cxt} {X : Cx} {Wx : WX} {x ret : Str} {g : Nat} (O : XOk k c X F W Wx) (h : c.isT x g ret = true) : GbOk X.prog X.w X.K X.mg X.base F W k x (.told g ret) := by
  unfold Cxt.isT at h
  split at h
  · rename_i g' r e
    simp only [Bool.and_eq_true, beq_iff_eq, decide_eq_true_eq] at h
    obtain ⟨rfl, rfl⟩ := h
    exact O.gl x _ e
  · cases h
theorem bads_ok {c : Cxt} {X : Cx} {Wx : WX} {i j cc : Nat} {es : List Ex} {t : Ex} {a r : List St} {p1 p2 : Stmt} {ps : List Stmt} {C R : Expr} {A : List Stmt} (O : XSk k c X F W Wx) (hp : ifParts p2 = some (C, R, A)) (h1 : badsB c i j es cc p1 C = true) (h2 : orB c t R = true)
    (hA : PSs X A (LS F Wx (exL W a))) (hps : PSs X ps (LS F Wx (exL W r))) : PSs X (p1 :: p2 :: ps) (LS F Wx (exL W (.bads i j es cc :: .ifs t a [] :: r))) := by
  obtain ⟨r0, rest, op, ip, rfl, rfl⟩ := ifParts_ok hp
  have hR := orB_ok O.toXOk h2
  unfold badsB at h1
  split at h1
  · simp only [Bool.and_eq_true, decide_eq_true_eq, Bool.not_eq_true'] at h1
    obtain ⟨⟨⟨⟨⟨⟨⟨⟨⟨⟨⟨⟨⟨⟨⟨⟨b1, b2⟩, b3⟩, b4⟩, b5⟩, b6⟩, b7⟩, b8⟩, b9⟩, b10⟩, b11⟩, b12⟩, b13⟩, b14⟩, b15⟩, b16⟩, b17⟩ := h1
    subst b2 b3 b4
    obtain ⟨hr, P, la, lt⟩ := O.ld b1
    obtain ⟨ls, rfl, e2, hl⟩ := lmsB_ok O.toXOk es _ b17
    obtain ⟨T, hcc⟩ := isT_ok O.toXOk b14
    obtain ⟨n1, n2, n3⟩ := asgB_ok O.toXOk b5
    obtain ⟨m1, m2, m3, m4⟩ := nm_ok O.toXOk b6
    have hj := b7
    rw [← O.N] at hj
    have B := blkOk_by b8
    rw [← O.N, ← O.sc] at B
    have el : es.length = ls.length := by rw [e2, List.length_map]
    refine PSs_imp (ss_bads (c := cc) (j := j) O.K O.nd n1 n2 n3 (List.getElem?_eq_some_iff.mp hj).1 (by rw [← el]; exact Nat.le_trans b16 (by decide)) la lt (fun l h => ⟨(hl l h).1, (hl l h).2.1⟩) hcc b15 (fun pins σ H s I => I.len) (t_bads (F := F) (W := W) O.calm O.nd hr B m1 m2 m3 m4 hj (by rw [O.sc]; exact b9) b10 b11 (by rw [O.sc]; exact b12) b13 T (fun l h => (hl l h).1) (fun l h A outer s H E f c' hr2 => (hl l h).2.2 A outer s H E f c' hr2)) hR hA hps) fun Dn σ H h => LS.congr (fun wr g m => ?_) h
    simp only [execL, exec, exBads, ← e2]
    cases badsR W cc es wr (g.set i none) m <;> rfl
  · cases h1
mutual
theorem mSt_ok : ∀ (s : St) (c : Cxt) (p : Stmt), mSt c s p = true → ∀ (X : Cx) (Wx : WX), XSk k c X F W Wx → PS X p (LS F Wx (exS W s))
  | .pass, c, p, h, X, Wx, O => by
    cases p <;> first | (simp [mSt] at h; done) | skip
    · rename_i e pos
      cases e <;> first | (simp [mSt] at h; done) | skip
      rename_i v kk p2
      cases v <;> first | (simp [mSt] at h; done) | skip
      exact s_doc
    · exact s_pass
  | .asg i e, c, p, h, X, Wx, O => by
    cases p <;> first | (simp [mSt] at h; done) | skip
    rename_i ts p pos
    match ts, h with
    | [], h => simp [mSt] at h
    | [t], h =>
      cases t <;> first | (simp [mSt] at h; done) | skip
      simp only [mSt, Bool.and_eq_true] at h
      obtain ⟨⟨⟨h1, h2⟩, h3⟩, h4⟩ := h
      exact s_set_any O.toXOk h1 h2 (nb h3) h4
    | t :: _ :: _, h => cases t <;> simp [mSt] at h
  | .asgO i e, c, p, h, X, Wx, O => by
    cases p <;> first | (simp [mSt] at h; done) | skip
    rename_i ts p pos
    match ts, h with
    | [], h => simp [mSt] at h
    | [t], h =>
      cases t <;> first | (simp [mSt] at h; done) | skip
      simp only [mSt, Bool.and_eq_true] at h
      obtain ⟨⟨⟨h1, h2⟩, h3⟩, h4⟩ := h
      exact s_setO_any O.toXOk h1 h2 h3 h4
    | t :: _ :: _, h => cases t <;> simp [mSt] at h
  | .unp t e, c, p, h, X, Wx, O => by
    cases p <;> first | (simp [mSt] at h; done) | skip
    rename_i ts p pos
    match ts, h with
    | [], h => simp [mSt] at h
    | [tg], h =>
      simp only [mSt, Bool.and_eq_true, decide_eq_true_eq] at h
      obtain ⟨⟨⟨⟨⟨h1, h2⟩, h3⟩, h4⟩, h5⟩, h6⟩ := h
      obtain ⟨u, g1, g2, g3⟩ := mTg_ok (F := F) (W := W) (k := k) t c tg h5
      refine s_unp h1 (swNone_ok (by rw [O.sc]; exact h2) (by rw [O.sc]; exact h3)) (by rw [nostar_each g3]; rfl) (nb h4) ((mE_ok e c p h6 X Wx O.toXOk).pe (nb h4)) (g2 X Wx O.toXOk) g1
    | _ :: _ :: _, h => simp [mSt] at h
  | .par is es, c, p, h, X, Wx, O => by
    cases p <;> first | (simp [mSt] at h; done) | skip
    rename_i ts p pos
    match ts, h with
    | [], h => simp [mSt] at h
    | [t], h =>
      cases t <;> first | (simp [mSt] at h; done) | skip
      cases p <;> first | (simp [mSt] at h; done) | skip
      simp only [mSt, Bool.and_eq_true] at h
      exact s_par O.toXOk h.1 h.2
    | t :: _ :: _, h => cases t <;> simp [mSt] at h
  | .seti (.sl i) k' e, c, p, h, X, Wx, O => by
    cases p <;> first | (simp [mSt] at h; done) | skip
    rename_i ts p pos
    match ts, h with
    | [], h => simp [mSt] at h
    | [t], h =>
      cases t <;> first | (simp [mSt] at h; done) | skip
      rename_i o pk p2
      simp only [mSt, Bool.and_eq_true] at h
      obtain ⟨⟨⟨⟨⟨⟨h1, h2⟩, h3⟩, h4⟩, h5⟩, h6⟩, h7⟩ := h
      obtain ⟨x, xp, rfl, h1⟩ := isNm_ok h1
      obtain ⟨q1, q2, q3, q4⟩ := nm_ok O.toXOk h1
      exact s_setiS q1 q2 q3 q4 h2 (sub_ok h3) (nb h4) (nb h5) ((mE_ok e c _ h6 X Wx O.toXOk).pe (nb h4)) ((mE_ok k' c _ h7 X Wx O.toXOk).pe (nb h5))
    | t :: _ :: _, h => cases t <;> simp [mSt] at h
  | .seti (.cl o) k' e, c, p, h, X, Wx, O => by
    cases p <;> first | (simp [mSt] at h; done) | skip
    rename_i ts p pos
    match ts, h with
    | [], h => simp [mSt] at h
    | [t], h =>
      cases t <;> first | (simp [mSt] at h; done) | skip
      simp only [mSt, Bool.and_eq_true] at h
      obtain ⟨⟨⟨⟨⟨⟨⟨h1, h2⟩, h3⟩, h4⟩, h5⟩, h6⟩, h7⟩, h8⟩ := h
      exact s_setiC h1 (sub_ok h2) (nb h3) (nb h4) (nb h5) ((mE_ok e c _ h6 X Wx O.toXOk).pe (nb h3)) ((mE_ok o c _ h7 X Wx O.toXOk).pe (nb h4)) ((mE_ok k' c _ h8 X Wx O.toXOk).pe (nb h5))
    | t :: _ :: _, h => cases t <;> simp [mSt] at h
  | .seti (.fd _ _) _ _, c, p, h, X, Wx, O => by
    cases p <;> first | (simp [mSt] at h; done) | skip
  | .setf _ _ _ _, c, p, h, X, Wx, O => by simp [mSt] at h
  | .augn i o e, c, p, h, X, Wx, O => by
    cases p <;> first | (simp [mSt] at h; done) | skip
    rename_i t op p pos
    cases t <;> first | (simp [mSt] at h; done) | skip
    simp only [mSt, Bool.and_eq_true] at h
    obtain ⟨⟨⟨⟨h1, h2⟩, h3⟩, h4⟩, h5⟩ := h
    have e := opB_ok h2
    subst e
    obtain ⟨q1, q2, q3⟩ := asgB_ok O.toXOk h3
    exact s_augn (isAS_ok h1) O.nd q1 q2 q3 (nb h4) ((mE_ok _ c _ h5 X Wx O.toXOk).pe (nb h4))
  | .augf _ _ _ _, c, p, h, X, Wx, O => by simp [mSt] at h
  | .augi (.sl i) k' o e, c, p, h, X, Wx, O => by
    cases p <;> first | (simp [mSt] at h; done) | skip
    rename_i t op p pos
    cases t <;> first | (simp [mSt] at h; done) | skip
    rename_i o2 pk p2
    simp only [mSt, Bool.and_eq_true] at h
    obtain ⟨⟨⟨⟨⟨⟨⟨h1, h2⟩, h3⟩, h4⟩, h5⟩, h6⟩, h7⟩, h8⟩ := h
    have e := opB_ok h2
    subst e
    obtain ⟨x, xp, rfl, h3⟩ := isNm_ok h3
    obtain ⟨q1, q2, q3, q4⟩ := nm_ok O.toXOk h3
    exact s_augiS (isAS_ok h1) q1 q2 q3 q4 (augStore_ok h4) (nb h5) (nb h6) ((mE_ok _ c _ h7 X Wx O.toXOk).pe (nb h5)) ((mE_ok _ c _ h8 X Wx O.toXOk).pe (nb h6))
  | .augi (.fd _ _) _ _ _, c, p, h, X, Wx, O => by simp [mSt] at h
  | .augi (.cl _) _ _ _, c, p, h, X, Wx, O => by simp [mSt] at h
  | .app _ _, c, p, h, X, Wx, O => by simp [mSt] at h
  | .exp e, c, p, h, X, Wx, O => by
    cases p <;> first | (simp [mSt] at h; done) | skip
    simp only [mSt, Bool.and_eq_true] at h
    obtain ⟨⟨h1, h2⟩, h3⟩ := h
    exact s_exp h1 (nb h2) ((mE_ok e c _ h3 X Wx O.toXOk).pe (nb h2))
  | .ifs t a b, c, p, h, X, Wx, O => by
    cases p <;> first | (simp [mSt] at h; done) | skip
    simp only [mSt, Bool.and_eq_true] at h
    obtain ⟨⟨⟨h1, h2⟩, h3⟩, h4⟩ := h
    exact s_ifs ((mE_ok t c _ h2 X Wx O.toXOk).2 h1) (mSts_ok a c _ h3 X Wx O) (mSts_ok b c _ h4 X Wx O)
  | .for tg src body, c, p, h, X, Wx, O => by
    cases p <;> first | (simp [mSt] at h; done) | skip
    rename_i ptg pit pb pe pos
    cases pe <;> first | (simp [mSt] at h; done) | skip
    simp only [mSt, Bool.and_eq_true] at h
    obtain ⟨⟨⟨h1, h2⟩, h3⟩, h4⟩ := h
    obtain ⟨u, g1, g2, g3⟩ := mTg_ok (F := F) (W := W) (k := k) tg c ptg h3
    exact s_for O.po O.calm h1 (mS_ok src c ptg pit h2 X Wx O.toXOk) (g2 X Wx O.toXOk) g1 (mSts_ok body c pb h4 X Wx O)
  | .whl t body, c, p, h, X, Wx, O => by
    cases p <;> first | (simp [mSt] at h; done) | skip
    rename_i pt pb pe pos
    cases pe <;> first | (simp [mSt] at h; done) | skip
    simp only [mSt, Bool.and_eq_true] at h
    obtain ⟨⟨h1, h2⟩, h3⟩ := h
    exact s_whl O.po ((mE_ok t c _ h2 X Wx O.toXOk).2 h1) (mSts_ok body c pb h3 X Wx O)
  | .ret e, c, p, h, X, Wx, O => by
    cases p <;> first | (simp [mSt] at h; done) | skip
    rename_i p pos
    cases p <;> first | (simp [mSt] at h; done) | skip
    simp only [mSt, Bool.and_eq_true] at h
    exact s_ret (nb h.1) ((mE_ok e c _ h.2 X Wx O.toXOk).pe (nb h.1))
  | .retn, c, p, h, X, Wx, O => by
    cases p <;> first | (simp [mSt] at h; done) | skip
    rename_i p pos
    cases p <;> first | (simp [mSt] at h; done) | skip
    exact s_retn
  | .rai g, c, p, h, X, Wx, O => by
    cases p <;> first | (simp [mSt] at h; done) | skip
    rename_i ex ca pos
    cases ca <;> first | (cases ex <;> simp [mSt] at h; done) | skip
    cases ex with
    | none => simp [mSt] at h
    | some ex =>
      simp only [mSt] at h
      obtain ⟨x, p, s, kk, p2, p3, rfl, h⟩ := isRai_ok h
      obtain ⟨q1, q2, bmB, B, newId, initId, r1, r2, r3, r4, r5, r6⟩ := isE_ok O.toXOk h
      exact s_rai O.calm O.tk rfl r1 r2 r3 r4 (raises_own r5 r6) q1 q2
  | .frz _, c, p, h, X, Wx, O => by simp [mSt] at h
  | .bads _ _ _ _, c, p, h, X, Wx, O => by simp [mSt] at h
theorem mSts_ok : ∀ (ss : List St) (c : Cxt) (ps : List Stmt), mSts c ss ps = true → ∀ (X : Cx) (Wx : WX), XSk k c X F W Wx → PSs X ps (LS F Wx (exL W ss))
  | [], c, ps, h, X, Wx, O => by
    cases ps with
    | nil => exact ss_nil
    | cons _ _ => simp [mSts] at h
  | s :: r, c, ps, h, X, Wx, O => by
    by_cases hb : ∃ i j es cc, s = .bads i j es cc
    · obtain ⟨i, j, es, cc, rfl⟩ := hb
      match r, ps, h with
      | .ifs t a [] :: r', p1 :: p2 :: ps', h =>
        simp only [mSts] at h
        cases hp : ifParts p2 with
        | none => rw [hp] at h; cases h
        | some q =>
          obtain ⟨C, R, A⟩ := q
          rw [hp] at h
          simp only [Bool.and_eq_true] at h
          obtain ⟨⟨⟨h1, h2⟩, h3⟩, h4⟩ := h
          exact bads_ok O hp h1 h2 (mSts_ok a c A h3 X Wx O) (mSts_ok r' c ps' h4 X Wx O)
      | [], [], h => simp [mSts] at h
      | [], _ :: _, h => simp [mSts, mSt] at h
      | s2 :: r', [], h => cases s2 <;> simp [mSts] at h
      | s2 :: r', [_], h => cases s2 <;> simp [mSts, mSt] at h
      | .ifs t a (_ :: _) :: r', _ :: _ :: _, h => simp [mSts, mSt] at h
      | .asg _ _ :: r', _ :: _ :: _, h => simp [mSts, mSt] at h
      | .asgO _ _ :: r', _ :: _ :: _, h => simp [mSts, mSt] at h
      | .unp _ _ :: r', _ :: _ :: _, h => simp [mSts, mSt] at h
      | .par _ _ :: r', _ :: _ :: _, h => simp [mSts, mSt] at h
      | .setf _ _ _ _ :: r', _ :: _ :: _, h => simp [mSts, mSt] at h
      | .seti _ _ _ :: r', _ :: _ :: _, h => simp [mSts, mSt] at h
      | .augn _ _ _ :: r', _ :: _ :: _, h => simp [mSts, mSt] at h
      | .augf _ _ _ _ :: r', _ :: _ :: _, h => simp [mSts, mSt] at h
      | .augi _ _ _ _ :: r', _ :: _ :: _, h => simp [mSts, mSt] at h
      | .app _ _ :: r', _ :: _ :: _, h => simp [mSts, mSt] at h
      | .exp _ :: r', _ :: _ :: _, h => simp [mSts, mSt] at h
      | .for _ _ _ :: r', _ :: _ :: _, h => simp [mSts, mSt] at h
      | .whl _ _ :: r', _ :: _ :: _, h => simp [mSts, mSt] at h
      | .ret _ :: r', _ :: _ :: _, h => simp [mSts, mSt] at h
      | .retn :: r', _ :: _ :: _, h => simp [mSts, mSt] at h
      | .rai _ :: r', _ :: _ :: _, h => simp [mSts, mSt] at h
      | .pass :: r', _ :: _ :: _, h => simp [mSts, mSt] at h
      | .frz _ :: r', _ :: _ :: _, h => simp [mSts, mSt] at h
      | .bads _ _ _ _ :: r', _ :: _ :: _, h => simp [mSts, mSt] at h
    by_cases hf : ∃ i, s = .frz i
    · obtain ⟨i, rfl⟩ := hf
      simp only [mSts] at h
      exact ss_frz (mSts_ok r c ps h X Wx O)
    · cases ps with
      | nil => cases s <;> first | (simp [mSts] at h; done) | exact absurd ⟨_, rfl⟩ hf | exact absurd ⟨_, _, _, _, rfl⟩ hb
      | cons p ps =>
        have h : (mSt c s p && mSts c r ps) = true := by cases s <;> first | exact h | exact absurd ⟨_, rfl⟩ hf | exact absurd ⟨_, _, _, _, rfl⟩ hb
        rw [Bool.and_eq_true] at h
        exact ss_cons (mSt_ok s c p h.1 X Wx O) (mSts_ok r c ps h.2 X Wx O)
end
end
end Ev
end
section
set_option linter.all false
set_option autoImplicit false
set_option maxRecDepth 100000
/-! Ev, part Y: defs by their texts; levels. -/
namespace Ev
open PySem PySem.Spec PyProof.Rows L2

/-- what is known of a def's code object: its table, where it is tracked -/
def TabOf (F : Fx) (mg : Str → Option Value) (base : Heap) (fd : FuncData) : Prop := ∃ cc P, fd.code = .ref cc ∧ GxR.TabB base mg cc P ∧ P ∈ F.TG ∧ ∀ p ∈ F.TL, p.1 ≠ P
/-- .. and may lambdas be made there? -/
def TabL (F : Fx) (mg : Str → Option Value) (base : Heap) (qual : Str) (scope : Scope) (fd : FuncData) : Prop := ∃ cc P, fd.code = .ref cc ∧ LamX.TabB base mg cc P ∧ P ∉ F.TG ∧ (P, (envOfC qual scope 0 0 .none).qual ++ "<lambda>") ∈ F.TL ∧ ∀ p ∈ F.TL, p.1 = P → p.2 = (envOfC qual scope 0 0 .none).qual ++ "<lambda>"
theorem def_ok {P : Program} {w : World} {K : PySem.W.Frag} {mg : Str → Option Value} {base : Heap} {F : Fx} {W : Wd} {k : Nat} {gd ld : Bool} {x qual : Str} {params : Arguments} {body : List Stmt} {scope : Scope} {f : Addr} {fd : FuncData} {N ps : List Str} {G : List (Str × Gb)} {sb : List St}
    (Fd : FunD K x qual params body scope [] [] f fd) (S : FnScope N ps scope) (hn : ps.length ≤ N.length) (ht : gd = true → TabOf F mg base fd) (hl : ld = true → TabL F mg base qual scope fd) (hm : mSts ⟨N, scope, fun _ => true, G, gd, ld⟩ sb body = true) (hK : K = F.K) (gl : ∀ x gb, G.lookup x = some gb → GbOk P w K mg base F W k x gb) :
    FnOk P w K mg base (L2.CX P w) (k + 3) f fd ps (spOf F ps.length (semFn W sb N.length)) := by
  obtain ⟨oc, od, dV, kV, doc, pm, an, cdv, ct, osl, rfl, lk, hcd, _, _⟩ := Fd.ex
  refine fn_of lk hcd S (fun vs H Q E h => h.1) fun A outer s H vs Q E hr h => ?_
  have O : XSk k ⟨N, scope, fun _ => true, G, gd, ld⟩ (cxOf (L2.CX P w) P w K mg base N qual scope f cdv A outer s H E) F W (fun cls d _ H' => E cls d H') :=
    { K := hK, calm := rfl, N := rfl, nd := S.nd, sc := rfl, fn := fun _ _ => rfl, room := hr.mono (by omega), gl := gl, tk := takes_of rfl rfl rfl rfl, po := passes_of rfl
      gd := fun z => ⟨hr.mono (by omega), ht z⟩
      ld := fun z => by
        obtain ⟨cc, P, e1, e2, e3, e4, e5⟩ := hl z
        exact ⟨hr, P, ⟨⟨cc, e2, e1⟩, e4, e5⟩, e3⟩ }
  exact ⟨_, mSts_ok sb _ body hm _ _ O, body_core hn h⟩
/-- the levels: how deep calls may go -/
def lvW (W : Wd) (fns : Nat → List St × Nat) : Nat → Wd
  | 0 => { W with call := fun _ _ _ _ => .stuck }
  | k + 1 => { W with call := fun f => semFn (lvW W fns k) (fns f).1 (fns f).2 }
/-- what is known of one def of the table -/
structure DefK (K : PySem.W.Frag) (mg : Str → Option Value) (base : Heap) (F : Fx) (G : List (Str × Gb)) (fns : Nat → List St × Nat) (x : Str) (f : Nat) (ps : List Str) : Prop where
  ex : ∃ (qual : Str) (params : Arguments) (body : List Stmt) (scope : Scope) (fa : Addr) (fd : FuncData) (N : List Str) (gd ld : Bool), (gd = true → TabOf F mg base fd) ∧ (ld = true → TabL F mg base qual scope fd) ∧ FunD K x qual params body scope [] [] fa fd ∧ FnScope N ps scope ∧ ps.length ≤ N.length ∧ mSts ⟨N, scope, fun _ => true, G, gd, ld⟩ (fns f).1 body = true ∧ (fns f).2 = N.length ∧
    mg x = some (.ref fa) ∧ Binds K fd ps []
theorem all_lv {P : Program} {w : World} {K : PySem.W.Frag} {mg : Str → Option Value} {base : Heap} {F : Fx} {W : Wd} {fns : Nat → List St × Nat} {G : List (Str × Gb)} (hK : K = F.K)
    (hf : ∀ x f ps, G.lookup x = some (.fn f ps) → DefK K mg base F G fns x f ps) (ho : ∀ x gb, G.lookup x = some gb → (∀ f ps, gb ≠ .fn f ps) → GbOk P w K mg base F W 0 x gb) :
    ∀ k x gb, G.lookup x = some gb → GbOk P w K mg base F (lvW W fns k) (3 * k) x gb := by
  have other : ∀ k x gb, G.lookup x = some gb → (∀ f ps, gb ≠ .fn f ps) → GbOk P w K mg base F (lvW W fns k) (3 * k) x gb := fun k x gb h hn => by
    have z := ho x gb h hn
    have e : ∀ g, (lvW W fns k).glb g = W.glb g := fun g => by cases k <;> rfl
    cases gb with
    | fn f ps => exact absurd rfl (hn f ps)
    | cst g =>
      obtain ⟨u, v, h1, h2, h3⟩ := z
      exact ⟨u, v, h1, h2, fun ω H => by rw [e]; exact h3 ω H⟩
    | exc c => exact z
    | told c ret => exact ⟨z.1, fun j hj => z.2 j (by cases k <;> exact hj)⟩
    | blt => exact z
  intro k
  induction k with
  | zero =>
    intro x gb h
    cases gb with
    | fn f ps =>
      obtain ⟨qual, params, body, scope, fa, fd, N, gd, ld, ht, hl, Fd, S, hn, hm, hN, hg, hb⟩ := (hf x f ps h).ex
      refine ⟨fa, fd, hg, Fd.kp, hb, ⟨fun vs H Q E h => h.1, fun A outer s H args us vs Q E hr he hbd hv hs => ?_⟩⟩
      obtain ⟨_, _, _, _, _, _, _, _, z⟩ := hs
      exact z.elim
    | _ => exact other 0 x _ h (fun f ps z => by cases z)
  | succ k ih =>
    intro x gb h
    cases gb with
    | fn f ps =>
      obtain ⟨qual, params, body, scope, fa, fd, N, gd, ld, ht, hl, Fd, S, hn, hm, hN, hg, hb⟩ := (hf x f ps h).ex
      have z := def_ok (P := P) (w := w) (mg := mg) (base := base) (W := lvW W fns k) (k := 3 * k) Fd S hn ht hl hm hK ih
      refine ⟨fa, fd, hg, Fd.kp, hb, ?_⟩
      show FnOk P w K mg base (L2.CX P w) (3 * k + 3) fa fd ps (spOf F ps.length (semFn (lvW W fns k) (fns f).1 (fns f).2))
      rw [hN]
      exact z
    | _ => exact other (k + 1) x _ h (fun f ps z => by cases z)
end Ev
end
section
set_option Elab.async false
set_option linter.all false
set_option autoImplicit false
set_option maxRecDepth 100000
/-! Ev, part Z: reckoning with the meaning by simp: what comes later is not looked at before its time. -/
namespace Ev
open PySem L2

def Tk {α : Type} (_ : α) : Type := Unit
def tk {α : Type} (a : α) : Tk a := ()
def R.bF {α β : Type} (x : R α) (f : α → M → R β) (_ : Tk f) : R β := x.bind f
@[simp] theorem R.bF_ok {α β : Type} (a : α) (m : M) (f : α → M → R β) (t : Tk f) : (R.ok a m).bF f t = f a m := rfl
@[simp] theorem R.bF_exc {α β : Type} (c : Nat) (m : M) (f : α → M → R β) (t : Tk f) : (R.exc c m : R α).bF f t = .exc c m := rfl
@[simp] theorem R.bF_stuck {α β : Type} (f : α → M → R β) (t : Tk f) : (R.stuck : R α).bF f t = .stuck := rfl
def R.oF {α : Type} (x : R α) (g : Ga) (f : α → M → RS) (_ : Tk f) : RS := RS.of x g f
@[simp] theorem R.oF_ok {α : Type} (a : α) (m : M) (g : Ga) (f : α → M → RS) (t : Tk f) : R.oF (.ok a m) g f t = f a m := rfl
@[simp] theorem R.oF_exc {α : Type} (c : Nat) (m : M) (g : Ga) (f : α → M → RS) (t : Tk f) : R.oF (.exc c m : R α) g f t = .exc c g m := rfl
@[simp] theorem R.oF_stuck {α : Type} (g : Ga) (f : α → M → RS) (t : Tk f) : R.oF (.stuck : R α) g f t = .stuck := rfl
def RS.tF (x : RS) (k : Ga → M → RS) (_ : Tk k) : RS := x.then k
@[simp] theorem RS.tF_nx (g : Ga) (m : M) (k : Ga → M → RS) (t : Tk k) : (RS.nx g m).tF k t = k g m := rfl
@[simp] theorem RS.tF_rt (d : D) (m : M) (k : Ga → M → RS) (t : Tk k) : (RS.rt d m).tF k t = .rt d m := rfl
@[simp] theorem RS.tF_exc (c : Nat) (g : Ga) (m : M) (k : Ga → M → RS) (t : Tk k) : (RS.exc c g m).tF k t = .exc c g m := rfl
@[simp] theorem RS.tF_stuck (k : Ga → M → RS) (t : Tk k) : RS.stuck.tF k t = .stuck := rfl
def ifB {β : Type} (d : D) (a b : Unit → β) (z : β) (_ : Tk a) (_ : Tk b) : β := match d with
  | .bool true => a ()
  | .bool false => b ()
  | _ => z
@[simp] theorem ifB_true {β : Type} (a b : Unit → β) (z : β) (s : Tk a) (t : Tk b) : ifB (.bool true) a b z s t = a () := rfl
@[simp] theorem ifB_false {β : Type} (a b : Unit → β) (z : β) (s : Tk a) (t : Tk b) : ifB (.bool false) a b z s t = b () := rfl
def slF (o : Option Slot) (m : M) : R D := match o with
  | some (some (false, d)) => .ok d m
  | _ => .stuck
@[simp] theorem slF_some (d : D) (m : M) : slF (some (some (false, d))) m = .ok d m := rfl
def pkF (o : Option Slot) (m : M) : R D := match o with
  | some (some (_, d)) => .ok d m
  | _ => .stuck
@[simp] theorem pkF_some (b : Bool) (d : D) (m : M) : pkF (some (some (b, d))) m = .ok d m := rfl
def intF {α : Type} (d : D) (f : Int → R α) (_ : Tk f) : R α := match d with
  | .int i => f i
  | _ => .stuck
@[simp] theorem intF_int {α : Type} (i : Int) (f : Int → R α) (t : Tk f) : intF (.int i) f t = f i := rfl
section
variable (W : Wd) (wr : Wr) (g : Ga) (m : M)
@[simp] theorem e_nm (i : Nat) : ev W (.nm i) wr g m = slF g[i]? m := by simp only [ev]; rfl
@[simp] theorem e_pk (i : Nat) : ev W (.pk i) wr g m = pkF g[i]? m := by simp only [ev]; rfl
@[simp] theorem e_cst (d : D) : ev W (.cst d) wr g m = .ok d m := by simp only [ev]
@[simp] theorem e_glb (k : Nat) : ev W (.glb k) wr g m = .ok (W.glb k) m := by simp only [ev]
@[simp] theorem e_bin (o : BOp) (a b : Ex) : ev W (.bin o a b) wr g m = if isB a || isB b then .stuck else (ev W a wr g m).bF (fun x m1 => (ev W b wr g m1).bF (fun y m2 => R.of (semBin o x y) m2) (tk _)) (tk _) := by simp only [ev]; rfl
@[simp] theorem e_neg (a : Ex) : ev W (.neg a) wr g m = (ev W a wr g m).bF (fun x m1 => intF x (fun i => .ok (.int (-i)) m1) (tk _)) (tk _) := by simp only [ev]; rfl
@[simp] theorem e_not (a : Ex) : ev W (.not a) wr g m = (ev W a wr g m).bF (fun x m1 => ifB x (fun _ => .ok (.bool false) m1) (fun _ => .ok (.bool true) m1) .stuck (tk _) (tk _)) (tk _) := by
  simp only [ev]
  cases ev W a wr g m with
  | ok d m1 => cases d <;> first | rfl | (rename_i b; cases b <;> rfl)
  | _ => rfl
@[simp] theorem e_and (a b : Ex) : ev W (.and a b) wr g m = (ev W a wr g m).bF (fun x m1 => ifB x (fun _ => if isB b then .stuck else ev W b wr g m1) (fun _ => .ok (.bool false) m1) .stuck (tk _) (tk _)) (tk _) := by simp only [ev]; rfl
@[simp] theorem e_or (a b : Ex) : ev W (.or a b) wr g m = (ev W a wr g m).bF (fun x m1 => ifB x (fun _ => .ok (.bool true) m1) (fun _ => if isB b then .stuck else ev W b wr g m1) .stuck (tk _) (tk _)) (tk _) := by
  simp only [ev]
  cases ev W a wr g m with
  | ok d m1 => cases d <;> first | rfl | (rename_i b; cases b <;> rfl)
  | _ => rfl
def bT (x : R D) (m : M) (k : D → M → R D) (_ : Tk k) : R D := match x with
  | .ok y _ => k y m
  | .exc c _ => .exc c m
  | .stuck => .stuck
@[simp] theorem bT_ok (d : D) (m m' : M) (k : D → M → R D) (t : Tk k) : bT (.ok d m') m k t = k d m := rfl
@[simp] theorem bT_exc (c : Nat) (m m' : M) (k : D → M → R D) (t : Tk k) : bT (.exc c m') m k t = .exc c m := rfl
@[simp] theorem e_cmp (o : COp) (a b : Ex) : ev W (.cmp o a b) wr g m = (ev W a wr g m).bF (fun x m1 => if isB a then bT (ev W b wr0 g m1) m1 (fun y m2 => R.of ((semCmp o x y).map .bool) m2) (tk _) else (ev W b wr g m1).bF (fun y m2 => R.of ((semCmp o x y).map .bool) m2) (tk _)) (tk _) := by
  simp only [ev, with2]
  rfl
def chF (c : Option Bool) (m : M) (f : Unit → R D) (_ : Tk f) : R D := match c with
  | some true => f ()
  | some false => .ok (.bool false) m
  | none => .stuck
@[simp] theorem chF_true (m : M) (f : Unit → R D) (t : Tk f) : chF (some true) m f t = f () := rfl
@[simp] theorem chF_false (m : M) (f : Unit → R D) (t : Tk f) : chF (some false) m f t = .ok (.bool false) m := rfl
@[simp] theorem e_chn (o o' : COp) (a b c : Ex) : ev W (.chn o o' a b c) wr g m = if isB a || isB b then .stuck else (ev W a wr g m).bF (fun x m1 => (ev W b wr g m1).bF (fun y m2 => chF (semCmp o x y) m2 (fun _ => (ev W c wr g m2).bF (fun z m3 => R.of ((semCmp o' y z).map .bool) m3) (tk _)) (tk _)) (tk _)) (tk _) := by simp only [ev]; rfl
@[simp] theorem e_ite (t a b : Ex) : ev W (.ite t a b) wr g m = if isB a || isB b then .stuck else (ev W t wr g m).bF (fun x m1 => ifB x (fun _ => ev W a wr g m1) (fun _ => ev W b wr g m1) .stuck (tk _) (tk _)) (tk _) := by simp only [ev]; rfl
@[simp] theorem e_tup (es : List Ex) : ev W (.tup es) wr g m = if es.length ≤ 1000 then (evL W es wr g m).bF (fun xs m1 => .ok (.tuple xs) m1) (tk _) else .stuck := by simp only [ev]; rfl
@[simp] theorem e_lst (es : List Ex) : ev W (.lst es) wr g m = if es.length ≤ 1000 then (evL W es wr g m).bF (fun xs m1 => .ok (.list xs) m1) (tk _) else .stuck := by simp only [ev]; rfl
@[simp] theorem e_lstC (es : List Ex) : ev W (.lstC es) wr g m = if es.length ≤ 1000 then (evL W es wr g m).bF (fun xs m1 => .ok (cellD m1.length) (m1 ++ [.lst xs])) (tk _) else .stuck := by simp only [ev]; rfl
@[simp] theorem e_idx (a b : Ex) : ev W (.idx a b) wr g m = if isB b then .stuck else (ev W a wr g m).bF (fun x m1 => if isB a then bT (ev W b wr0 g m1) m1 (fun y m2 => R.of (semIdx m2 x y) m2) (tk _) else (ev W b wr g m1).bF (fun y m2 => R.of (semIdx m2 x y) m2) (tk _)) (tk _) := by
  simp only [ev, with2]
  rfl
@[simp] theorem e_slc (a : Ex) (lo hi : Option Ex) : ev W (.slc a lo hi) wr g m = if isB a then .stuck else (ev W a wr g m).bF (fun x m1 => (evO W lo wr g m1).bF (fun l m2 => (evO W hi wr g m2).bF (fun h m3 => R.of (semSlc x l h) m3) (tk _)) (tk _)) (tk _) := by simp only [ev]; rfl
@[simp] theorem e_call (f : Nat) (es : List Ex) : ev W (.call f es) wr g m = (evL W es wr g m).bF (fun xs m1 => W.call f wr xs m1) (tk _) := by simp only [ev]; rfl
@[simp] theorem e_bi1 (b : Bi) (e : Ex) : ev W (.bi b [e]) wr g m = (ev W e wr g m).bF (fun x m1 => R.of (semBi b [x]) m1) (tk _) := by simp only [ev]; rfl
@[simp] theorem e_bi2 (b : Bi) (e e2 : Ex) : ev W (.bi b [e, e2]) wr g m = (evL W [e, e2] wr g m).bF (fun xs m1 => R.of (semBi b xs) m1) (tk _) := by simp only [ev]; rfl
/-- a comprehension's turn -/
def cmB (W : Wd) (elt : Ex) (tg : Tg) (ifs : List Ex) (wr : Wr) (g : Ga) (x : D) (m : M) : R (Option D) := R.nox (match bindT tg x (wipeG g (tvars tg)) with
  | none => .stuck
  | some g' => (evI W ifs wr g' m).bind fun b m' => if b then (ev W elt wr g' m').bind fun y m'' => .ok (some y) m'' else .ok none m')
theorem e_co (k : Ck) (elt : Ex) (tg : Tg) (src : Src) (ifs : List Ex) : ev W (.co k elt tg src ifs) wr g m = if isB elt then .stuck else (evS W src wr g m).bF (fun xp m1 => runCo k (cmB W elt tg ifs (lockW wr xp.2) g) xp.1 m1) (tk _) := by simp only [ev]; rfl
@[simp] theorem el_nil : evL W [] wr g m = .ok [] m := by simp only [evL]
@[simp] theorem el_cons (e : Ex) (es : List Ex) : evL W (e :: es) wr g m = if isB e then .stuck else (ev W e wr g m).bF (fun x m1 => (evL W es wr g m1).bF (fun xs m2 => .ok (x :: xs) m2) (tk _)) (tk _) := by simp only [evL]; rfl
@[simp] theorem eo_none : evO W none wr g m = .ok none m := by simp only [evO]
@[simp] theorem eo_some (e : Ex) : evO W (some e) wr g m = if isB e then .stuck else (ev W e wr g m).bF (fun d m1 => intF d (fun i => .ok (some i) m1) (tk _)) (tk _) := by simp only [evO]; rfl
@[simp] theorem ei_nil : evI W [] wr g m = .ok true m := by simp only [evI]
@[simp] theorem ei_cons (e : Ex) (es : List Ex) : evI W (e :: es) wr g m = (ev W e wr g m).bF (fun x m1 => ifB x (fun _ => evI W es wr g m1) (fun _ => .ok false m1) .stuck (tk _) (tk _)) (tk _) := by simp only [evI]; rfl
@[simp] theorem es_seq (b : Bs) : evS W (.seq b) wr g m = (evB W b wr g m).bF (fun xp m1 => R.of ((itemsOf xp.1).map fun xs => (xs, xp.2)) m1) (tk _) := by simp only [evS]; rfl
@[simp] theorem es_rng (es : List Ex) : evS W (.rng es) wr g m = (evL W es wr g m).bF (fun xs m1 => R.of ((rngOf xs).map fun ys => (ys, none)) m1) (tk _) := by simp only [evS]; rfl
@[simp] theorem es_enum (b : Bs) : evS W (.enum b) wr g m = (evB W b wr g m).bF (fun xp m1 => R.of ((itemsOf xp.1).map fun xs => (enumOf xs, xp.2)) m1) (tk _) := by simp only [evS]; rfl
@[simp] theorem eb_e (e : Ex) : evB W (.e e) wr g m = if isB e then .stuck else (ev W e wr g m).bF (fun x m1 => .ok (x, none) m1) (tk _) := by simp only [evB]; rfl
def bsF (o : Option Slot) (i : Nat) (m : M) : R (D × Option Pl) := match o with
  | some (some (_, d)) => .ok (d, some (.sl i)) m
  | _ => .stuck
@[simp] theorem bsF_some (b : Bool) (d : D) (i : Nat) (m : M) : bsF (some (some (b, d))) i m = .ok (d, some (.sl i)) m := rfl
@[simp] theorem eb_sl (i : Nat) : evB W (.sl i) wr g m = bsF g[i]? i m := by simp only [evB]; rfl

/-! ### statements -/
@[simp] theorem x_nil : execL W [] wr g m = .nx g m := by simp only [execL]
@[simp] theorem x_cons (s : St) (r : List St) : execL W (s :: r) wr g m = (exec W s wr g m).tF (fun g' m' => execL W r wr g' m') (tk _) := by simp only [execL]; rfl
@[simp] theorem x_asg (i : Nat) (e : Ex) : exec W (.asg i e) wr g m = if isB e then .stuck else (ev W e wr g m).oF g (fun d m1 => asgn i false d g m1) (tk _) := by simp only [exec]; rfl
@[simp] theorem x_asgO (i : Nat) (e : Ex) : exec W (.asgO i e) wr g m = (ev W e wr g m).oF g (fun d m1 => asgn i true d g m1) (tk _) := by simp only [exec]; rfl
def gaF (o : Option Ga) (m : M) : RS := match o with
  | some g' => .nx g' m
  | none => .stuck
@[simp] theorem gaF_some (g' : Ga) (m : M) : gaF (some g') m = .nx g' m := rfl
@[simp] theorem x_unp (t : Tg) (e : Ex) : exec W (.unp t e) wr g m = if isB e then .stuck else (ev W e wr g m).oF g (fun d m1 => gaF (bindT t d g) m1) (tk _) := by simp only [exec]; rfl
@[simp] theorem x_par (is : List Nat) (es : List Ex) : exec W (.par is es) wr g m = (evL W es wr g m).oF g (fun ds m1 => asgL is ds g m1) (tk _) := by simp only [exec]; rfl
def setF (i : Nat) (o : Option (List D)) (g : Ga) (m : M) : RS := match o with
  | some xs => .nx (g.set i (some (true, .list xs))) m
  | none => .stuck
@[simp] theorem setF_some (i : Nat) (xs : List D) (g : Ga) (m : M) : setF i (some xs) g m = .nx (g.set i (some (true, .list xs))) m := rfl
def ownF (o : Option Slot) (f : List D → RS) (_ : Tk f) : RS := match o with
  | some (some (true, .list xs)) => f xs
  | _ => .stuck
@[simp] theorem ownF_some (xs : List D) (f : List D → RS) (t : Tk f) : ownF (some (some (true, .list xs))) f t = f xs := rfl
@[simp] theorem x_setiS (i : Nat) (k e : Ex) : exec W (.seti (.sl i) k e) wr g m = if isB e || isB k then .stuck else ownF g[i]? (fun xs => (ev W e wr g m).oF g (fun d m1 => (ev W k wr g m1).oF g (fun kd m2 => setF i (setN xs kd d) g m2) (tk _)) (tk _)) (tk _) := by simp only [exec]; rfl
def celF (od : D) (m : M) (f : Nat → List D → RS) (_ : Tk f) : RS := match asCell od with
  | some r => (match m[r]? with
    | some (.lst xs) => f r xs
    | _ => .stuck)
  | none => .stuck
theorem celF_ok {od : D} {m : M} {r : Nat} {xs : List D} {f : Nat → List D → RS} {t : Tk f} (h1 : asCell od = some r) (h2 : m[r]? = some (.lst xs)) : celF od m f t = f r xs := by
  unfold celF
  rw [h1]
  show (match m[r]? with | some (.lst xs) => f r xs | _ => .stuck) = _
  rw [h2]
def setCF (r : Nat) (o : Option (List D)) (wr : Wr) (g : Ga) (m : M) : RS := match o with
  | some xs' => if wr (.ce r "") then .nx g (m.set r (.lst xs')) else .stuck
  | none => .stuck
@[simp] theorem setCF_some (r : Nat) (xs : List D) (wr : Wr) (g : Ga) (m : M) : setCF r (some xs) wr g m = if wr (.ce r "") then .nx g (m.set r (.lst xs)) else .stuck := rfl
@[simp] theorem x_setiC (o k e : Ex) : exec W (.seti (.cl o) k e) wr g m = if isB e || isB o || isB k then .stuck else (ev W e wr g m).oF g (fun d m1 => (ev W o wr g m1).oF g (fun od m2 => (ev W k wr g m2).oF g (fun kd m3 => celF od m3 (fun r xs => setCF r (setN xs kd d) wr g m3) (tk _)) (tk _)) (tk _)) (tk _) := by simp only [exec]; rfl
def valF (o : Option D) (f : D → RS) (_ : Tk f) : RS := match o with
  | some d => f d
  | none => .stuck
@[simp] theorem valF_some (d : D) (f : D → RS) (t : Tk f) : valF (some d) f t = f d := rfl
def nmS (o : Option Slot) (f : D → RS) (_ : Tk f) : RS := match o with
  | some (some (false, x)) => f x
  | _ => .stuck
@[simp] theorem nmS_some (x : D) (f : D → RS) (t : Tk f) : nmS (some (some (false, x))) f t = f x := rfl
@[simp] theorem x_augn (i : Nat) (o : BOp) (e : Ex) : exec W (.augn i o e) wr g m = if isB e then .stuck else nmS g[i]? (fun x => (ev W e wr g m).oF g (fun d m1 => valF (semAug o x d) (fun v => .nx (g.set i (some (false, v))) m1) (tk _)) (tk _)) (tk _) := by simp only [exec]; rfl
@[simp] theorem x_augiS (i : Nat) (k : Ex) (o : BOp) (e : Ex) : exec W (.augi (.sl i) k o e) wr g m = if isB e || isB k then .stuck else ownF g[i]? (fun xs => (ev W k wr g m).oF g (fun kd m1 => valF (getN xs kd) (fun x => (ev W e wr g m1).oF g (fun d m2 => valF (semAug o x d) (fun v => setF i (setN xs kd v) g m2) (tk _)) (tk _)) (tk _)) (tk _)) (tk _) := by simp only [exec]; rfl
@[simp] theorem x_app (i : Nat) (e : Ex) : exec W (.app (.sl i) e) wr g m = if isB e then .stuck else ownF g[i]? (fun xs => (ev W e wr g m).oF g (fun d m1 => if xs.length < sizeLine then .nx (g.set i (some (true, .list (xs ++ [d])))) m1 else .stuck) (tk _)) (tk _) := by simp only [exec]; rfl
@[simp] theorem x_exp (e : Ex) : exec W (.exp e) wr g m = if isB e then .stuck else (ev W e wr g m).oF g (fun _ m1 => .nx g m1) (tk _) := by simp only [exec]; rfl
@[simp] theorem x_ifs (t : Ex) (a b : List St) : exec W (.ifs t a b) wr g m = (ev W t wr g m).oF g (fun d m1 => ifB d (fun _ => execL W a wr g m1) (fun _ => execL W b wr g m1) .stuck (tk _) (tk _)) (tk _) := by simp only [exec]; rfl
/-- a loop's turns -/
def forB (W : Wd) (tg : Tg) (body : List St) (wr : Wr) (xs : List D) (g : Ga) (m : M) : RS := forL tg (fun g m => execL W body wr g m) xs g m
def forS (W : Wd) (tg : Tg) (body : List St) (wr : Wr) (r : List D × Option Pl) (g : Ga) (m : M) : RS := match r.2 with
  | some (.sl _) => .stuck
  | p => forB W tg body (lockW wr p) r.1 g m
@[simp] theorem forS_none (tg : Tg) (body : List St) (xs : List D) : forS W tg body wr (xs, none) g m = forB W tg body wr xs g m := rfl
@[simp] theorem x_for (tg : Tg) (src : Src) (body : List St) : exec W (.for tg src body) wr g m = (evS W src wr g m).oF g (fun r m1 => forS W tg body wr r g m1) (tk _) := by simp only [exec]; rfl
def whlB (W : Wd) (t : Ex) (body : List St) (wr : Wr) (n : Nat) (g : Ga) (m : M) : RS := whlL (fun g m => ev W t wr g m) (fun g m => execL W body wr g m) n g m
@[simp] theorem x_whl (t : Ex) (body : List St) : exec W (.whl t body) wr g m = whlB W t body wr W.fuel g m := by simp only [exec]; rfl
@[simp] theorem x_ret (e : Ex) : exec W (.ret e) wr g m = if isB e then .stuck else (ev W e wr g m).oF g (fun d m1 => .rt d m1) (tk _) := by simp only [exec]; rfl
@[simp] theorem x_retn : exec W .retn wr g m = .rt .none m := by simp only [exec]
@[simp] theorem x_rai (c : Nat) : exec W (.rai c) wr g m = .exc c g m := by simp only [exec]
@[simp] theorem x_pass : exec W .pass wr g m = .nx g m := by simp only [exec]
def frF (o : Option Slot) (i : Nat) (g : Ga) (m : M) : RS := match o with
  | some (some (true, d)) => .nx (g.set i (some (false, d))) m
  | some (some (false, _)) => .nx g m
  | _ => .stuck
@[simp] theorem frF_t (d : D) (i : Nat) (g : Ga) (m : M) : frF (some (some (true, d))) i g m = .nx (g.set i (some (false, d))) m := rfl
@[simp] theorem frF_f (d : D) (i : Nat) (g : Ga) (m : M) : frF (some (some (false, d))) i g m = .nx g m := rfl
@[simp] theorem x_frz (i : Nat) : exec W (.frz i) wr g m = frF g[i]? i g m := by simp only [exec]; rfl
def bdF (o : Option M) (g : Ga) : RS := match o with
  | some m2 => .nx g m2
  | none => .stuck
@[simp] theorem bdF_some (m2 : M) (g : Ga) : bdF (some m2) g = .nx g m2 := rfl
@[simp] theorem x_bads (i j : Nat) (es : List Ex) (c : Nat) : exec W (.bads i j es c) wr g m = bdF (badsR W c es wr (g.set i none) m) (g.set i none) := by simp only [exec]; rfl
def bdS (x : R D) (c : Nat) (f : M → Option M) (_ : Tk f) (W : Wd) : Option M := match x with
  | .exc k m' => if W.sub k c = true then f m' else none
  | _ => none
@[simp] theorem bdS_exc (k c : Nat) (m' : M) (f : M → Option M) (t : Tk f) (W : Wd) : bdS (.exc k m') c f t W = if W.sub k c = true then f m' else none := rfl
@[simp] theorem badsR_nil (c : Nat) : badsR W c [] wr g m = some m := rfl
@[simp] theorem badsR_cons (c : Nat) (e : Ex) (es : List Ex) : badsR W c (e :: es) wr g m = bdS (ev W e wr g m) c (fun m' => badsR W c es wr g m') (tk _) W := rfl
end
/-- a def's end -/
def endF (r : RS) : R D := match r with
  | .nx _ m' => .ok .none m'
  | .rt d m' => .ok d m'
  | .exc c _ m' => .exc c m'
  | .stuck => .stuck
@[simp] theorem endF_nx (g : Ga) (m : M) : endF (.nx g m) = .ok .none m := rfl
@[simp] theorem endF_rt (d : D) (m : M) : endF (.rt d m) = .ok d m := rfl
@[simp] theorem endF_exc (c : Nat) (g : Ga) (m : M) : endF (.exc c g m) = .exc c m := rfl
theorem sem_eq (W : Wd) (body : List St) (n : Nat) (wr : Wr) (ds : List D) (m : M) : semFn W body n wr ds m = endF (execL W body wr (ga0 n ds) m) := rfl

/-! ### targets, stores -/
@[simp] theorem bindT_nm (i : Nat) (d : D) (g : Ga) : bindT (.nm i) d g = if i < g.length then some (g.set i (some (false, d))) else none := by simp only [bindT]
@[simp] theorem bindT_tup (ts : List Tg) (xs : List D) (g : Ga) : bindT (.tup ts) (.tuple xs) g = bindT.bindTs ts xs g := by simp only [bindT]
@[simp] theorem bindTs_nil (g : Ga) : bindT.bindTs [] [] g = some g := by simp only [bindT.bindTs]
@[simp] theorem bindTs_cons (t : Tg) (ts : List Tg) (x : D) (xs : List D) (g : Ga) : bindT.bindTs (t :: ts) (x :: xs) g = (bindT t x g).bind fun g' => bindT.bindTs ts xs g' := by simp only [bindT.bindTs]
@[simp] theorem tvars_nm (i : Nat) : tvars (.nm i) = [i] := by simp only [tvars]
@[simp] theorem tvars_tup (ts : List Tg) : tvars (.tup ts) = tvars.tvarsL ts := by simp only [tvars]
@[simp] theorem tvarsL_nil : tvars.tvarsL [] = [] := by simp only [tvars.tvarsL]
@[simp] theorem tvarsL_cons (t : Tg) (ts : List Tg) : tvars.tvarsL (t :: ts) = tvars t ++ tvars.tvarsL ts := by simp only [tvars.tvarsL]
@[simp] theorem wipeG_nil (g : Ga) : wipeG g [] = g := rfl
@[simp] theorem wipeG_cons (g : Ga) (v : Nat) (vs : List Nat) : wipeG g (v :: vs) = (wipeG g vs).set v none := rfl
@[simp] theorem asgn_eq (i : Nat) (o : Bool) (d : D) (g : Ga) (m : M) : asgn i o d g m = if i < g.length then .nx (g.set i (some (o, d))) m else .stuck := rfl
@[simp] theorem asgL_nil (g : Ga) (m : M) : asgL [] [] g m = .nx g m := rfl
@[simp] theorem asgL_cons (i : Nat) (is : List Nat) (d : D) (ds : List D) (g : Ga) (m : M) : asgL (i :: is) (d :: ds) g m = if i < g.length then asgL is ds (g.set i (some (false, d))) m else .stuck := rfl

/-! ### operators -/
@[simp] theorem sb_add (i j : Int) : semBin .add (.int i) (.int j) = some (.int (i + j)) := rfl
@[simp] theorem sb_sub (i j : Int) : semBin .sub (.int i) (.int j) = some (.int (i - j)) := rfl
@[simp] theorem sb_mul (i j : Int) : semBin .mul (.int i) (.int j) = if mulOk i j then some (.int (i * j)) else none := rfl
@[simp] theorem sb_fdiv (i j : Int) : semBin .fdiv (.int i) (.int j) = if 0 < j ∧ j.natAbs.log2 < 9000 then some (.int (i / j)) else none := rfl
@[simp] theorem sb_mod (i j : Int) : semBin .mod (.int i) (.int j) = if 0 < j then some (.int (i % j)) else none := rfl
@[simp] theorem sb_pow (i j : Int) : semBin .pow (.int i) (.int j) = if 0 ≤ j ∧ j ≤ 1000 ∧ i.natAbs < 2 ^ 64 then some (.int (i ^ j.toNat)) else none := rfl
@[simp] theorem sb_addL (xs ys : List D) : semBin .add (.list xs) (.list ys) = if xs.length + ys.length ≤ sizeLine then some (.list (xs ++ ys)) else none := rfl
theorem sb_mulL (xs : List D) (k : Int) : semBin .mul (.list xs) (.int k) = if k < 2 ^ 63 ∧ -(2 ^ 63) ≤ k ∧ xs.length * k.toNat ≤ sizeLine then some (.list (List.replicate k.toNat xs).flatten) else none := rfl
@[simp] theorem sc_lt (i j : Int) : semCmp .lt (.int i) (.int j) = some (decide (i < j)) := rfl
@[simp] theorem sc_le (i j : Int) : semCmp .le (.int i) (.int j) = some (decide (i ≤ j)) := rfl
@[simp] theorem sc_gt (i j : Int) : semCmp .gt (.int i) (.int j) = some (decide (j < i)) := rfl
@[simp] theorem sc_ge (i j : Int) : semCmp .ge (.int i) (.int j) = some (decide (j ≤ i)) := rfl
theorem shaped_int (i : Int) : SeqAt.shaped (.int i) = true := rfl
theorem eqS_int (i j : Int) : eqS (.int i) (.int j) = some (decide (i = j)) := by
  show some (PyData.eqv (.int i) (.int j)) = _
  simp only [PyData.eqv]
  congr 1
@[simp] theorem sc_eq (i j : Int) : semCmp .eq (.int i) (.int j) = some (decide (i = j)) := eqS_int i j
@[simp] theorem sc_ne (i j : Int) : semCmp .ne (.int i) (.int j) = some (!decide (i = j)) := by
  show (eqS (.int i) (.int j)).map (!·) = _
  rw [eqS_int]
  rfl
theorem eqS_self {d : D} (h : SeqAt.shaped d = true) : eqS d d = some true := by
  unfold eqS
  rw [h, SeqAt.eqv_refl_plain d (PyData.plain_of_canLay0 d (SeqAt.canLay_of_shaped h))]
  rfl
theorem sc_eqS {d : D} (h : SeqAt.shaped d = true) : semCmp .eq d d = some true := by
  show (match COp.eq, d, d with | .eq, x, y => eqS x y | _, _, _ => none) = _
  exact eqS_self h
theorem sc_neS {d : D} (h : SeqAt.shaped d = true) : semCmp .ne d d = some false := by
  show (eqS d d).map (!·) = _
  rw [eqS_self h]
  rfl
@[simp] theorem sa_add (i j : Int) : semAug .add (.int i) (.int j) = some (.int (i + j)) := rfl
@[simp] theorem sa_sub (i j : Int) : semAug .sub (.int i) (.int j) = some (.int (i - j)) := rfl
@[simp] theorem si_tup (m : M) (xs : List D) (i : Int) : semIdx m (.tuple xs) (.int i) = atI xs i := rfl
@[simp] theorem si_lst (m : M) (xs : List D) (i : Int) : semIdx m (.list xs) (.int i) = atI xs i := rfl
@[simp] theorem sbi_lenL (xs : List D) : semBi .len [.list xs] = some (.int xs.length) := rfl
@[simp] theorem sbi_lenT (xs : List D) : semBi .len [.tuple xs] = some (.int xs.length) := rfl
@[simp] theorem sbi_abs (i : Int) : semBi .abs [.int i] = some (.int (if i < 0 then -i else i)) := rfl
@[simp] theorem sbi_max2 (i j : Int) : semBi .max2 [.int i, .int j] = some (.int (dMax i j)) := rfl
@[simp] theorem sbi_min2 (i j : Int) : semBi .min2 [.int i, .int j] = some (.int (dMin i j)) := rfl
@[simp] theorem sbi_tupleL (xs : List D) : semBi .tuple [.list xs] = some (.tuple xs) := rfl
@[simp] theorem sbi_tupleT (xs : List D) : semBi .tuple [.tuple xs] = some (.tuple xs) := rfl
@[simp] theorem sbi_listL (xs : List D) : semBi .list [.list xs] = some (.list xs) := rfl
@[simp] theorem sbi_listT (xs : List D) : semBi .list [.tuple xs] = some (.list xs) := rfl
@[simp] theorem sbi_int (i : Int) : semBi .int [.int i] = some (.int i) := rfl
@[simp] theorem sbi_intB (b : Bool) : semBi .int [.bool b] = some (.int (if b then 1 else 0)) := rfl
@[simp] theorem itemsOf_l (xs : List D) : itemsOf (.list xs) = some xs := rfl
@[simp] theorem itemsOf_t (xs : List D) : itemsOf (.tuple xs) = some xs := rfl
theorem intsOf_mapI (ns : List Int) : intsOf (ns.map .int) = some ns := by
  induction ns with
  | nil => rfl
  | cons n r ih => simp only [List.map_cons, intsOf, ih, Option.map_some]
@[simp] theorem sbi_sumL (ns : List Int) : semBi .sum1 [.list (ns.map .int)] = some (.int ns.sum) := by
  show (intsOf (ns.map .int)).map (fun ns => PyData.int ns.sum) = _
  rw [intsOf_mapI]
  rfl
@[simp] theorem sbi_sumT (ns : List Int) : semBi .sum1 [.tuple (ns.map .int)] = some (.int ns.sum) := by
  show (intsOf (ns.map .int)).map (fun ns => PyData.int ns.sum) = _
  rw [intsOf_mapI]
  rfl
end Ev
end
section
set_option Elab.async false
set_option linter.all false
set_option autoImplicit false
set_option maxRecDepth 100000
/-! Ev, part ZL: loops by invariants, items typed. -/
namespace Ev
open PySem L2

theorem forB_ind {α : Type} {W : Wd} {tg : Tg} {body : List St} {wr : Wr} (enc : α → D) (I : List α → Ga → M → Prop)
    (step : ∀ a as g m, I (a :: as) g m → ∃ g' g2 m2, bindT tg (enc a) g = some g' ∧ execL W body wr g' m = .nx g2 m2 ∧ I as g2 m2) :
    ∀ as g m, I as g m → ∃ g' m', forB W tg body wr (as.map enc) g m = .nx g' m' ∧ I [] g' m'
  | [], g, m, h => ⟨g, m, rfl, h⟩
  | a :: as, g, m, h => by
    obtain ⟨g', g2, m2, e1, e2, h2⟩ := step a as g m h
    obtain ⟨g3, m3, e3, h3⟩ := forB_ind enc I step as g2 m2 h2
    refine ⟨g3, m3, ?_, h3⟩
    unfold forB at e3 ⊢
    rw [List.map_cons, forL, e1]
    show (execL W body wr g' m).then _ = _
    rw [e2]
    exact e3
theorem whlB_ind {W : Wd} {t : Ex} {body : List St} {wr : Wr} (I : Ga → M → Prop) (Q : Ga → M → Prop) (μ : Ga → M → Nat)
    (step : ∀ g m, I g m → (∃ m1, ev W t wr g m = .ok (.bool false) m1 ∧ Q g m1) ∨ ∃ m1 g2 m2, ev W t wr g m = .ok (.bool true) m1 ∧ execL W body wr g m1 = .nx g2 m2 ∧ I g2 m2 ∧ μ g2 m2 < μ g m) :
    ∀ n g m, I g m → μ g m < n → ∃ g' m', whlB W t body wr n g m = .nx g' m' ∧ Q g' m'
  | 0, g, m, h, hn => absurd hn (Nat.not_lt_zero _)
  | n + 1, g, m, h, hn => by
    unfold whlB
    rw [whlL]
    rcases step g m h with ⟨m1, e1, q⟩ | ⟨m1, g2, m2, e1, e2, h2, hl⟩
    · rw [e1]
      exact ⟨g, m1, rfl, q⟩
    · rw [e1]
      obtain ⟨g3, m3, e3, q⟩ := whlB_ind I Q μ step n g2 m2 h2 (by omega)
      refine ⟨g3, m3, ?_, q⟩
      show (execL W body wr g m1).then _ = _
      rw [e2]
      exact e3
theorem turns_map {α : Type} {body : D → M → R (Option D)} (enc : α → D) (f : α → Option D) {m : M} : ∀ (as : List α) (acc : List D), (∀ a ∈ as, body (enc a) m = .ok (f a) m) → acc.length + as.length ≤ sizeLine →
    turns body (as.map enc) acc m = .ok (acc ++ as.filterMap f) m
  | [], acc, h, hl => by simp [turns]
  | a :: as, acc, h, hl => by
    have e := h a List.mem_cons_self
    rw [List.map_cons, turns, e]
    simp only [R.bind_ok]
    have hl : acc.length + (as.length + 1) ≤ sizeLine := hl
    cases hf : f a with
    | none =>
      simp only
      rw [turns_map enc f as acc (fun b hb => h b (List.mem_cons_of_mem _ hb)) (by omega), List.filterMap_cons, hf]
    | some y =>
      simp only
      rw [if_pos (by omega), turns_map enc f as (acc ++ [y]) (fun b hb => h b (List.mem_cons_of_mem _ hb)) (by rw [List.length_append, List.length_singleton]; omega), List.filterMap_cons, hf]
      simp
section
variable {α : Type} {body : D → M → R (Option D)} {enc : α → D} {m : M}
theorem co_lc {as : List α} (f : α → Option D) (h : ∀ a ∈ as, body (enc a) m = .ok (f a) m) (hl : as.length ≤ sizeLine) : runCo .lc body (as.map enc) m = .ok (.list (as.filterMap f)) m := by
  show (turns body (as.map enc) [] m).bind _ = _
  rw [turns_map enc f as [] h (by simpa using hl)]
  rfl
theorem co_lcS {as : List α} (f : α → D) (h : ∀ a ∈ as, body (enc a) m = .ok (some (f a)) m) (hl : as.length ≤ sizeLine) : runCo .lc body (as.map enc) m = .ok (.list (as.map f)) m := by
  rw [co_lc (fun a => some (f a)) h hl, List.filterMap_eq_map']
theorem co_sum {as : List α} (f : α → Int) (h : ∀ a ∈ as, body (enc a) m = .ok (some (.int (f a))) m) (hl : as.length ≤ sizeLine) : runCo .sum body (as.map enc) m = .ok (.int (as.map f).sum) m := by
  show (turns body (as.map enc) [] m).bind _ = _
  rw [turns_map enc (fun a => some (.int (f a))) as [] h (by simpa using hl)]
  have e : as.filterMap (fun a => some (PyData.int (f a))) = (as.map f).map .int := by
    rw [List.filterMap_eq_map', List.map_map]
    rfl
  show R.of ((intsOf ([] ++ as.filterMap (fun a => some (PyData.int (f a))))).map fun ns => PyData.int ns.sum) m = _
  rw [List.nil_append, e, intsOf_mapI]
  rfl
end
/-! ### what is walked -/
def prD {α : Type} (enc : α → D) (p : Nat × α) : D := .tuple [.int (p.1 : Int), enc p.2]
def nums {α : Type} (n : Nat) : List α → List (Nat × α)
  | [] => []
  | a :: as => (n, a) :: nums (n + 1) as
theorem nums_map {α : Type} (enc : α → D) : ∀ (as : List α) (n : Nat), (nums n as).map (prD enc) = (List.range' n as.length).zipWith (fun (i : Nat) x => .tuple [.int (i : Int), x]) (as.map enc)
  | [], n => rfl
  | a :: as, n => by
    rw [nums, List.map_cons, nums_map enc as (n + 1)]
    rfl
theorem enumOf_map {α : Type} (enc : α → D) (as : List α) : enumOf (as.map enc) = (nums 0 as).map (prD enc) := by
  rw [nums_map]
  unfold enumOf
  rw [List.length_map, List.range_eq_range']
theorem nums_len {α : Type} : ∀ (as : List α) (n : Nat), (nums n as).length = as.length
  | [], n => rfl
  | a :: as, n => by rw [nums, List.length_cons, List.length_cons, nums_len as]
theorem nums_get {α : Type} : ∀ (as : List α) (n i : Nat), (nums n as)[i]? = (as[i]?).map fun a => (n + i, a)
  | [], n, i => by simp [nums]
  | a :: as, n, 0 => by simp [nums]
  | a :: as, n, i + 1 => by
    simp only [nums, List.getElem?_cons_succ, nums_get as (n + 1) i]
    congr 1
    funext a
    congr 1
    omega
theorem nums_mem {α : Type} {as : List α} {n : Nat} {p : Nat × α} (h : p ∈ nums n as) : ∃ i, p.1 = n + i ∧ as[i]? = some p.2 := by
  obtain ⟨i, hi⟩ := List.mem_iff_getElem?.mp h
  rw [nums_get] at hi
  cases e : as[i]? with
  | none => rw [e] at hi; cases hi
  | some a =>
    rw [e] at hi
    cases hi
    exact ⟨i, rfl, e⟩
theorem nums_app {α : Type} : ∀ (as bs : List α) (n : Nat), nums n (as ++ bs) = nums n as ++ nums (n + as.length) bs
  | [], bs, n => by simp [nums]
  | a :: as, bs, n => by
    simp only [List.cons_append, nums, nums_app as bs (n + 1), List.length_cons]
    rw [show n + 1 + as.length = n + (as.length + 1) by omega]
def rngI (i : Int) (n : Nat) : List Int := (List.range n).map fun (k : Nat) => i + (k : Int)
theorem rngOf1 {j : Int} (h : -(2 ^ 62) ≤ j ∧ j < 2 ^ 62) : rngOf [.int j] = some ((rngI 0 j.toNat).map .int) := by
  refine (if_pos h).trans ?_
  rw [rngI, List.map_map]
  rfl
theorem rngOf2 {i j : Int} (h : -(2 ^ 62) ≤ i ∧ i < 2 ^ 62 ∧ -(2 ^ 62) ≤ j ∧ j < 2 ^ 62) : rngOf [.int i, .int j] = some ((rngI i (j - i).toNat).map .int) := by
  refine (if_pos h).trans ?_
  rw [rngI, List.map_map]
  rfl
theorem rngI_len (i : Int) (n : Nat) : (rngI i n).length = n := by simp [rngI]
theorem rngI_mem {i : Int} {n : Nat} {x : Int} : x ∈ rngI i n ↔ i ≤ x ∧ x < i + n := by
  unfold rngI
  rw [List.mem_map]
  constructor
  · rintro ⟨k, hk, rfl⟩
    have := List.mem_range.mp hk
    omega
  · rintro ⟨h1, h2⟩
    exact ⟨(x - i).toNat, List.mem_range.mpr (by omega), by omega⟩
theorem rngI_zero (i : Int) : rngI i 0 = [] := rfl
theorem rngI_succ (i : Int) (n : Nat) : rngI i (n + 1) = i :: rngI (i + 1) n := by
  unfold rngI
  rw [List.range_succ_eq_map, List.map_cons, List.map_map]
  congr 1
  · simp
  · refine List.map_congr_left fun k hk => ?_
    show i + ((k + 1 : Nat) : Int) = i + 1 + (k : Int)
    omega
theorem rngI_get (i : Int) (n k : Nat) (h : k < n) : (rngI i n)[k]? = some (i + k) := by
  unfold rngI
  rw [List.getElem?_map, List.getElem?_range h]
  rfl
/-! ### items -/
theorem ixN_nat {n k : Nat} (h : k < n) : ixN n (k : Int) = some k := by
  unfold ixN
  rw [if_pos (by omega), if_pos (by omega)]
  simp
theorem setN_nat {xs : List D} {k : Nat} {d : D} (h : k < xs.length) : setN xs (.int (k : Int)) d = some (xs.set k d) := by
  show (ixN xs.length (k : Int)).map (fun j => xs.set j d) = _
  rw [ixN_nat h]
  rfl
theorem getN_nat {xs : List D} {k : Nat} {d : D} (h : xs[k]? = some d) : getN xs (.int (k : Int)) = some d := atI_nat h
theorem getN_ints {xs : List Int} {k : Int} {i : Nat} {v : Int} (hk : k = (i : Int)) (h : xs[i]? = some v) : getN (xs.map .int) (.int k) = some (.int v) := by
  subst hk
  exact getN_nat (by rw [List.getElem?_map, h]; rfl)
theorem setN_ints {xs ys : List Int} {k : Int} {i : Nat} {v : Int} (hk : k = (i : Int)) (h : i < xs.length) (e : xs.set i v = ys) : setN (xs.map .int) (.int k) (.int v) = some (ys.map .int) := by
  subst hk e
  rw [setN_nat (by rw [List.length_map]; exact h), List.map_set]
theorem flat_one (n : Nat) (d : D) : (List.replicate n [d]).flatten = List.replicate n d := by
  induction n with
  | zero => rfl
  | succ n ih => rw [List.replicate_succ, List.flatten_cons, ih, List.replicate_succ]; rfl
theorem sb_rep {d : D} {k : Int} {n : Nat} (hk : k = (n : Int)) (h : n ≤ 1000000) : semBin .mul (.list [d]) (.int k) = some (.list (List.replicate n d)) := by
  have hs : 1 * k.toNat ≤ sizeLine := by
    have : (1000000 : Nat) ≤ sizeLine := by decide +kernel
    omega
  rw [sb_mulL, if_pos ⟨by omega, by omega, hs⟩, flat_one]
  congr 3
  omega
theorem mulOk_l {i j : Int} (h : i.natAbs < 2 ^ 64) : mulOk i j = true := by
  unfold mulOk
  rw [decide_eq_true h]
  rfl
theorem mulOk_r {i j : Int} (h : j.natAbs < 2 ^ 64) : mulOk i j = true := by
  unfold mulOk
  rw [decide_eq_true h, Bool.or_true]
  rfl
theorem mulOk_b {i j : Int} {n : Nat} (h1 : i.natAbs < 2 ^ n) (h2 : j.natAbs < 2 ^ n) (h : n ≤ 400000) : mulOk i j = true := by
  have l : ∀ a : Nat, a < 2 ^ n → a.log2 ≤ n := fun a ha => by
    by_cases h0 : a = 0
    · subst h0; simp
    · exact Nat.le_of_lt ((Nat.log2_lt h0).mpr ha)
  unfold mulOk
  rw [decide_eq_true (show i.natAbs.log2 + j.natAbs.log2 < 1000000 by have := l _ h1; have := l _ h2; omega), Bool.or_true]
/-! ### shapes -/
theorem canLay_ints (ns : List Int) : PyData.canLayAll0 (ns.map .int) = true := by
  induction ns with
  | nil => rfl
  | cons n r ih => rw [List.map_cons, PyData.canLayAll0, ih]; rfl
theorem depth_ints (ns : List Int) : PyData.depthAll (ns.map .int) = 0 := by
  induction ns with
  | nil => rfl
  | cons n r ih => rw [List.map_cons, PyData.depthAll, ih]; rfl
theorem shaped_t {xs : List D} {n : Nat} (h1 : PyData.canLayAll0 xs = true) (h2 : PyData.depthAll xs ≤ n) (h : n ≤ 63) : SeqAt.shaped (.tuple xs) = true := by
  unfold SeqAt.shaped
  rw [PyData.canLay0, h1, PyData.depth, decide_eq_true (by omega)]
  rfl
theorem shaped_l {xs : List D} {n : Nat} (h1 : PyData.canLayAll0 xs = true) (h2 : PyData.depthAll xs ≤ n) (h : n ≤ 63) : SeqAt.shaped (.list xs) = true := by
  unfold SeqAt.shaped
  rw [PyData.canLay0, h1, PyData.depth, decide_eq_true (by omega)]
  rfl
theorem shaped_lints (ns : List Int) : SeqAt.shaped (.list (ns.map .int)) = true := shaped_l (canLay_ints ns) (Nat.le_of_eq (depth_ints ns)) (Nat.zero_le _)
theorem shaped_tints (ns : List Int) : SeqAt.shaped (.tuple (ns.map .int)) = true := shaped_t (canLay_ints ns) (Nat.le_of_eq (depth_ints ns)) (Nat.zero_le _)
theorem shaped_int2 (a b : Int) : SeqAt.shaped (.tuple [.int a, .int b]) = true := shaped_tints [a, b]
/-- xs == [] -/
theorem eqS_nil {xs : List D} (h : SeqAt.shaped (.list xs) = true) : eqS (.list xs) (.list []) = some xs.isEmpty := by
  unfold eqS
  rw [h]
  have e : SeqAt.shaped (.list []) = true := by decide
  rw [e]
  cases xs with
  | nil => rfl
  | cons x r => simp [PyData.eqv, PyData.eqvAll]
@[simp] theorem lockW_none (wr : Wr) : lockW wr none = wr := rfl
theorem cmB_eq (W : Wd) (elt : Ex) (tg : Tg) (ifs : List Ex) (wr : Wr) (g g' : Ga) (x : D) (m : M) (h : bindT tg x (wipeG g (tvars tg)) = some g') : cmB W elt tg ifs wr g x m = R.nox ((evI W ifs wr g' m).bF (fun b m' => if b then (ev W elt wr g' m').bF (fun y m'' => .ok (some y) m'') (tk _) else .ok none m') (tk _)) := by
  unfold cmB
  rw [h]
  rfl
@[simp] theorem nox_ok {α : Type} (a : α) (m : M) : R.nox (.ok a m) = .ok a m := rfl
def natD (k : Nat) : D := .int (k : Int)
theorem rngI_nat (a n : Nat) : (rngI (a : Int) n).map PyData.int = (List.range' a n).map natD := by
  unfold rngI
  rw [List.range'_eq_map_range, List.map_map, List.map_map]
  refine List.map_congr_left fun k _ => ?_
  show PyData.int ((a : Int) + (k : Int)) = .int ((a + k : Nat) : Int)
  rw [Int.natCast_add]
theorem rngOf1N {n : Nat} {j : Int} (hj : j = (n : Int)) (h : n ≤ 1000000) : rngOf [.int j] = some ((List.range n).map natD) := by
  subst hj
  rw [rngOf1 (by omega), Int.toNat_natCast, List.range_eq_range']
  congr 1
  exact rngI_nat 0 n
theorem rngOf2N {a b : Nat} {i j : Int} (hi : i = (a : Int)) (hj : j = (b : Int)) (ha : a ≤ 1000000) (h : b ≤ 1000000) : rngOf [.int i, .int j] = some ((List.range' a (b - a)).map natD) := by
  subst hi hj
  rw [rngOf2 (by omega), show ((b : Int) - (a : Int)).toNat = b - a by omega]
  congr 1
  exact rngI_nat a (b - a)
def cutI (ns : List Int) (lo hi : Option Int) : List Int := (ns.drop (HT.sIx ns.length 0 lo)).take (HT.sIx ns.length ns.length hi - HT.sIx ns.length 0 lo)
theorem cut_map (ns : List Int) (lo hi : Option Int) : semSlc.cutV' (ns.map .int) lo hi = (cutI ns lo hi).map .int := by
  unfold semSlc.cutV' cutI
  rw [List.length_map, List.map_take, List.map_drop]
@[simp] theorem slc_t (ns : List Int) (lo hi : Option Int) : semSlc (.tuple (ns.map .int)) lo hi = some (.tuple ((cutI ns lo hi).map .int)) := by
  show some (PyData.tuple (semSlc.cutV' (ns.map .int) lo hi)) = _
  rw [cut_map]
@[simp] theorem slc_l (ns : List Int) (lo hi : Option Int) : semSlc (.list (ns.map .int)) lo hi = some (.list ((cutI ns lo hi).map .int)) := by
  show some (PyData.list (semSlc.cutV' (ns.map .int) lo hi)) = _
  rw [cut_map]
@[simp] theorem atI_0 {α : Type} (a : α) (r : List α) : atI (a :: r) 0 = some a := atI_nat (j := 0) rfl
@[simp] theorem atI_1 {α : Type} (a b : α) (r : List α) : atI (a :: b :: r) 1 = some b := atI_nat (j := 1) rfl
@[simp] theorem atI_2 {α : Type} (a b c : α) (r : List α) : atI (a :: b :: c :: r) 2 = some c := atI_nat (j := 2) rfl
@[simp] theorem atI_3 {α : Type} (a b c d : α) (r : List α) : atI (a :: b :: c :: d :: r) 3 = some d := atI_nat (j := 3) rfl
def fbF (o : Option Ga) (f : Ga → RS) (_ : Tk f) : RS := match o with
  | some g => f g
  | none => .stuck
@[simp] theorem fbF_some (g : Ga) (f : Ga → RS) (t : Tk f) : fbF (some g) f t = f g := rfl
@[simp] theorem forB_nil (W : Wd) (tg : Tg) (body : List St) (wr : Wr) (g : Ga) (m : M) : forB W tg body wr [] g m = .nx g m := rfl
@[simp] theorem forB_cons (W : Wd) (tg : Tg) (body : List St) (wr : Wr) (x : D) (xs : List D) (g : Ga) (m : M) : forB W tg body wr (x :: xs) g m = fbF (bindT tg x g) (fun g' => (execL W body wr g' m).tF (fun g m => forB W tg body wr xs g m) (tk _)) (tk _) := by
  unfold forB
  rw [forL]
  cases bindT tg x g <;> rfl
theorem filterMap_p {α β : Type} (p : α → Prop) [DecidablePred p] (f : α → β) (xs : List α) : xs.filterMap (fun a => if p a then some (f a) else none) = (xs.filter (fun a => decide (p a))).map f := by
  induction xs with
  | nil => rfl
  | cons x xs ih =>
    by_cases h : p x
    · simp [List.filterMap_cons, h, ih]
    · simp [List.filterMap_cons, h, ih]
theorem map_getD (xs : List Int) : (List.range xs.length).map (fun j => (PyData.int (xs.getD j 0))) = xs.map .int := by
  refine List.ext_getElem? fun i => ?_
  rw [List.getElem?_map, List.getElem?_map]
  by_cases h : i < xs.length
  · rw [List.getElem?_range h, List.getElem?_eq_getElem h]
    simp [List.getD, List.getElem?_eq_getElem h]
  · rw [List.getElem?_eq_none (by simpa using h), List.getElem?_eq_none (by omega)]
    rfl
end Ev
end
section
set_option Elab.async false
set_option linter.all false
set_option autoImplicit false
set_option maxRecDepth 100000
/-! Ev, part Head: from the head's facts to what the levels want. -/
namespace Ev
open PySem PySem.Spec PyProof.Rows L2

section
variable {K : PySem.W.Frag} {mg : Str → Option Value} {base h : Heap} {w : World} {fa : List He.Fa} {fn : List He.DefD} {tf : List He.Defn} {ex : PySem.W.Frag → Bool} {F : Fx} {W : Wd} {G : List (Str × Gb)} {fns : Nat → List St × Nat}
theorem code_of {x qual : Str} {params : Arguments} {body : List Stmt} {scope : Scope} {dvs : List V} {kws : List (Str × V)} {p : He.Defn} {fd : FuncData} (Fd : FunD K x qual params body scope dvs kws (He.fAd K p) fd) : fd.code = .ref (He.codeOf K p) := by
  obtain ⟨oc, od, dV, kV, doc, pm, an, cdv, ct, osl, rfl, lk, hcd, _, _⟩ := Fd.ex
  obtain ⟨c, rfl⟩ := He.codeIn_ref hcd
  rw [He.codeOf_eq lk rfl]
/-- tables apart: those of generator expressions, those of lambdas -/
abbrev tabs (K : PySem.W.Frag) (l : List He.Defn) : List Addr := l.map fun p => (He.cT K p).2
abbrev lamN (q : Str) (scope : Scope) : Str := (envOfC q scope 0 0 .none).qual ++ "<lambda>"
structure Fits (F : Fx) (K : PySem.W.Frag) (tg : List He.Defn) (tl : List (He.Defn × Str)) : Prop where
  htg : F.TG = tabs K tg
  htl : F.TL = tl.map fun p => ((He.cT K p.1).2, p.2)
  nd : (tabs K (tg ++ tl.map (·.1))).Nodup
theorem nodup_sep {α β : Type} {f : α → β} : ∀ {l l' : List α}, ((l ++ l').map f).Nodup → ∀ a ∈ l, ∀ b ∈ l', f a ≠ f b
  | [], l', _, a, ha, _, _ => by cases ha
  | c :: l, l', h, a, ha, b, hb => by
    simp only [List.cons_append, List.map_cons, List.nodup_cons] at h
    rcases List.mem_cons.mp ha with rfl | ha
    · exact fun e => h.1 (by rw [e]; exact List.mem_map.mpr ⟨b, List.mem_append_right _ hb, rfl⟩)
    · exact nodup_sep h.2 a ha b hb
theorem nodup_inj {α β : Type} {f : α → β} : ∀ {l : List α}, (l.map f).Nodup → ∀ a ∈ l, ∀ b ∈ l, f a = f b → a = b
  | [], _, a, ha, _, _, _ => by cases ha
  | c :: l, h, a, ha, b, hb, e => by
    simp only [List.map_cons, List.nodup_cons] at h
    rcases List.mem_cons.mp ha with ha | ha
    · subst ha
      rcases List.mem_cons.mp hb with hb | hb
      · exact hb.symm
      · exact absurd (List.mem_map.mpr ⟨b, hb, e.symm⟩) h.1
    · rcases List.mem_cons.mp hb with hb | hb
      · rw [hb] at e
        exact (h.1 (List.mem_map.mpr ⟨a, ha, e⟩)).elim
      · exact nodup_inj h.2 a ha b hb e
variable {tg : List He.Defn} {tl : List (He.Defn × Str)}
theorem tabOf_of {x qual : Str} {params : Arguments} {body : List Stmt} {scope : Scope} {dvs : List V} {kws : List (Str × V)} {p : He.Defn} {fd : FuncData} (Fd : FunD K x qual params body scope dvs kws (He.fAd K p) fd) (Z : Fits F K tg tl) (hp : p ∈ tg) (TB : LamX.TabB base mg (He.cT K p).1 (He.cT K p).2) : TabOf F mg base fd := by
  refine ⟨_, (He.cT K p).2, code_of Fd, ⟨TB.code, TB.bm, TB.gP⟩, by rw [Z.htg]; exact List.mem_map.mpr ⟨p, hp, rfl⟩, fun q hq => ?_⟩
  rw [Z.htl] at hq
  obtain ⟨r, hr, rfl⟩ := List.mem_map.mp hq
  exact fun e => nodup_sep (f := fun p => (He.cT K p).2) Z.nd p hp r.1 (List.mem_map.mpr ⟨r, hr, rfl⟩) e.symm
theorem tabL_of {x qual : Str} {params : Arguments} {body : List Stmt} {scope : Scope} {dvs : List V} {kws : List (Str × V)} {p : He.Defn} {fd : FuncData} (Fd : FunD K x qual params body scope dvs kws (He.fAd K p) fd) (Z : Fits F K tg tl) (hp : (p, lamN qual scope) ∈ tl) (h1 : ∀ r ∈ tl, r.1 = p → r.2 = lamN qual scope) (TB : LamX.TabB base mg (He.cT K p).1 (He.cT K p).2) : TabL F mg base qual scope fd := by
  refine ⟨_, (He.cT K p).2, code_of Fd, TB, fun hq => ?_, by rw [Z.htl]; exact List.mem_map.mpr ⟨_, hp, rfl⟩, fun q hq e => ?_⟩
  · rw [Z.htg] at hq
    obtain ⟨r, hr, e⟩ := List.mem_map.mp hq
    exact nodup_sep (f := fun p => (He.cT K p).2) Z.nd r hr p (List.mem_map.mpr ⟨_, hp, rfl⟩) e
  · rw [Z.htl] at hq
    obtain ⟨r, hr, rfl⟩ := List.mem_map.mp hq
    have nd2 : ((tl.map (·.1)).map fun p => (He.cT K p).2).Nodup := by
      have : ((tg ++ tl.map (·.1)).map fun p => (He.cT K p).2).Nodup := Z.nd
      rw [List.map_append, List.nodup_append] at this
      exact this.2.1
    exact h1 r hr (nodup_inj nd2 r.1 (List.mem_map.mpr ⟨r, hr, rfl⟩) p (List.mem_map.mpr ⟨_, hp, rfl⟩) e)
/-- a def of the table -/
theorem defK_of (c : He.SaysD fa fn K) (KX : K.In h) (Gh : h.Ns mainGlobals mg) {d : He.DefD} {f : Nat} {ps N : List Str} {gd ld : Bool} (hd : d ∈ fn) (hat : d.at_ = (d.name, none)) (hq : d.qual = d.name) (h0 : d.dfl = [] ∧ d.kwd = []) (hg : He.Fa.glo d.name ∈ fa) (hm : mSts ⟨N, d.scope, fun _ => true, G, gd, ld⟩ (fns f).1 d.body = true) (hs : C8.scC N ps d.scope = true) (hn : ps.length ≤ N.length) (hN : (fns f).2 = N.length)
    (hb : ∀ (kV doc pm : Value) (an : Option Addr) (cdv ct : Value) (us : List Value), us.length = ps.length → bindArgs (PySem.W.fnOf d.name d.name d.params d.body d.scope .none kV doc pm an cdv ct) ⟨us, []⟩ = pure (ps.zip us))
    (Z : Fits F K tg tl) (hgd : gd = true → d.at_ ∈ tg) (hld : ld = true → (d.at_, lamN d.qual d.scope) ∈ tl ∧ ∀ r ∈ tl, r.1 = d.at_ → r.2 = lamN d.qual d.scope) (TB : ∀ p ∈ tg ++ tl.map (·.1), LamX.TabB base mg (He.cT K p).1 (He.cT K p).2) : DefK K mg base F G fns d.name f ps := by
  obtain ⟨fd, Fd⟩ := c.defs hd
  have e1 : d.dvs K = [] := by unfold He.DefD.dvs; rw [h0.1]; rfl
  have e2 : d.kws K = [] := by unfold He.DefD.kws; rw [h0.2]; rfl
  rw [e1, e2] at Fd
  have g := He.glo_ok KX Gh (c.facts hg)
  have ea : He.fAd K d.at_ = He.ga K d.name := by rw [hat]; rfl
  refine ⟨d.qual, d.params, d.body, d.scope, He.fAd K d.at_, fd, N, gd, ld, fun z => tabOf_of Fd Z (hgd z) (TB _ (List.mem_append_left _ (hgd z))), fun z => tabL_of Fd Z (hld z).1 (hld z).2 (TB _ (List.mem_append_right _ (List.mem_map.mpr ⟨_, (hld z).1, rfl⟩))), Fd, C8.fnScope_by hs, hn, hm, hN, by rw [ea]; exact g, ?_⟩
  rw [hq] at Fd
  exact Fd.bindsN hb
theorem exc_gb (c : He.SaysD fa fn K) (KX : K.In h) (Gh : h.Ns mainGlobals mg) {P : Program} {x : Str} {i : Nat} {k : Nat} (hx : F.xa i = He.ga K x) (h1 : He.Fa.glo x ∈ fa) (h2 : He.Fa.exc x ∈ fa) : GbOk P w K mg base F W k x (.exc i) := by
  obtain ⟨q1, q2, q3, q4⟩ := He.exc_ok (c.facts h2)
  refine ⟨_, _, _, _, PySem.F.excBase_ValueError, ?_, ?_, ?_, ?_, ?_⟩
  · rw [hx]; exact q1
  · rw [hx]; exact He.glo_ok KX Gh (c.facts h1)
  · rw [hx]; exact q2
  · rw [hx]; exact q3
  · rw [hx]; exact q4
theorem int_gb (c : He.SaysD fa fn K) (KX : K.In h) (Gh : h.Ns mainGlobals mg) {P : Program} {x : Str} {i : Int} {g k : Nat} (hg : W.glb g = .int i) (h1 : He.Fa.int x i ∈ fa) : GbOk P w K mg base F W k x (.cst g) := by
  obtain ⟨t, e⟩ := He.int_ok KX Gh (c.facts h1)
  exact ⟨_, .int i, e, ⟨t, rfl⟩, fun ω H => by rw [hg]; rfl⟩
theorem free_gb (c : He.SaysD fa fn K) (KX : K.In h) (Gh : h.Ns mainGlobals mg) {P : Program} {x : Str} {k : Nat} (h1 : He.Fa.free x ∈ fa) : GbOk P w K mg base F W k x .blt := He.free_ok KX Gh (c.facts h1)
theorem told_gb (c : He.SaysD fa fn K) (KX : K.In h) (Gh : h.Ns mainGlobals mg) {P : Program} {d : He.DefD} {e ret : Str} {i j k : Nat} {p1 p2 p3 p4 p5 p6 p7 p8 : Pos} (hd : d ∈ fn) (hat : d.at_ = (d.name, none)) (hq : d.qual = d.name) (h0 : d.dfl = [] ∧ d.kwd = []) (hg : He.Fa.glo d.name ∈ fa) (hx : F.xa i = He.ga K e) (he : He.Fa.glo e ∈ fa)
    (hbody : d.body = [.Try [.Return (some (.Call (.Name "what" p1) [] [] p2)) p3] [.ExceptHandler (some (.Name e p4)) none [.Return (some (.Constant (.str ret) j p5)) p6] p7] [] [] p8])
    (hs : C8.scC ["what"] ["what"] d.scope = true) (hv : d.scope.names.lookup ("what" : Str) = some .local) (hge : d.scope.names.lookup e = some .globalImplicit) (hdb : (e == ("__debug__" : Str)) = false)
    (hb : ∀ (kV doc pm : Value) (an : Option Addr) (cdv ct : Value) (us : List Value), us.length = 1 → bindArgs (PySem.W.fnOf d.name d.name d.params d.body d.scope .none kV doc pm an cdv ct) ⟨us, []⟩ = pure ((["what"] : List Str).zip us))
    (hsub : ∀ l, W.sub l i = true → PySem.W.exmOne K (.ref (F.xa l)) (.ref (F.xa i)) = some true) : GbOk P w K mg base F W k d.name (.told i ret) := by
  obtain ⟨fd, Fd⟩ := c.defs hd
  have e1 : d.dvs K = [] := by unfold He.DefD.dvs; rw [h0.1]; rfl
  have e2 : d.kws K = [] := by unfold He.DefD.kws; rw [h0.2]; rfl
  rw [e1, e2, hq] at Fd
  have B := Fd.bindsN (ps := ["what"]) hb
  have g := He.glo_ok KX Gh (c.facts hg)
  have ge := He.glo_ok KX Gh (c.facts he)
  have ea : He.fAd K d.at_ = He.ga K d.name := by rw [hat]; rfl
  rw [ea] at Fd
  obtain ⟨oc, od, dV, kV, doc, pm, an, cdv, ct, osl, rfl, lk, hcd, _, _⟩ := Fd.ex
  refine ⟨⟨_, d.params, d.body, d.scope, dV, kV, doc, pm, cdv, ct, oc, an, od, osl, ["what"], "what", e, j, p1, p2, p3, p4, p5, p6, p7, p8, g, Fd.kp, lk, hcd, B, C8.fnScope_by hs, rfl, .inl hv, hbody, hge, by rw [hx]; exact ge, hdb, by decide, by decide, fun f => rfl⟩, hsub⟩
end
/-- the end: the law's def, at the head's heap -/
theorem law_at {l : PySem.W.OpenLaw} {w : World} {K : PySem.W.Frag} {mg : Str → Option Value} {h : Heap} {F : Fx} {fa : List He.Fa} {fn : List He.DefD} {tf : List He.Defn} {ex : PySem.W.Frag → Bool} {k n : Nat} {a : Addr} {W : Wd} {tg : List He.Defn} {tl : List (He.Defn × Str)} {wr : Wr} {d : He.DefD} {G : List (Str × Gb)} {N : List Str} {gd ld : Bool} {sb : List St}
    (c : He.SaysX fa fn [] tf ex w h K) (KX : K.In h) (Gh : h.Ns mainGlobals mg) (hF : F.K = K) (Z : Fits F K tg tl) (htf : tf = tg ++ tl.map (·.1)) (hd : d ∈ fn) (hat : d.at_ = (d.name, none)) (hq : d.qual = d.name) (h0 : d.dfl = [] ∧ d.kwd = []) (hg : He.Fa.glo d.name ∈ fa) (ha : mg d.name = some (.ref a))
    (hb : ∀ (kV doc pm : Value) (an : Option Addr) (cdv ct : Value) (us : List Value), us.length = 1 → bindArgs (PySem.W.fnOf d.name d.name d.params d.body d.scope .none kV doc pm an cdv ct) ⟨us, []⟩ = pure ((["script"] : List Str).zip us))
    (hm : mSts ⟨N, d.scope, fun _ => true, G, gd, ld⟩ sb d.body = true) (hs : C8.scC N ["script"] d.scope = true) (hn : 1 ≤ N.length) (hgd : gd = true → d.at_ ∈ tg) (hld : ld = true → (d.at_, lamN d.name d.scope) ∈ tl ∧ ∀ r ∈ tl, r.1 = d.at_ → r.2 = lamN d.name d.scope)
    (sem : ∀ ns : List Int, ns.length ≤ n → (∀ z ∈ ns, Builtin.Int.intBits z ≤ 1048576) → ∃ m', semFn W sb N.length wr [scrD ns] [] = .ok (.bool true) m')
    (lv : ∀ base : Heap, K.In base → base.Ns mainGlobals mg → (∀ p ∈ tg ++ tl.map (·.1), LamX.TabB base mg (He.cT K p).1 (He.cT K p).2) → ∀ x gb, G.lookup x = some gb → GbOk l.prog w K mg base F W k x gb) :
    LamX.LawAtS l w K (L2.CX l.prog w) (k + 3) n "script" mg a h := by
  obtain ⟨fd, Fd⟩ := c.t.d.defs hd
  have e1 : d.dvs K = [] := by unfold He.DefD.dvs; rw [h0.1]; rfl
  have e2 : d.kws K = [] := by unfold He.DefD.kws; rw [h0.2]; rfl
  rw [e1, e2, hq] at Fd
  have ea : He.fAd K d.at_ = He.ga K d.name := by rw [hat]; rfl
  rw [ea] at Fd
  have g := He.glo_ok KX Gh (c.t.d.facts hg)
  have eg : He.ga K d.name = a := by
    rw [ha] at g
    cases g
    rfl
  rw [eg] at Fd
  have B := fun s u => FunD.bindsA (ps := ["script"]) Fd hb s [u] rfl
  refine ⟨fd, (tg ++ tl.map (·.1)).map (He.cT K), spOf F 1 (semFn W sb N.length), fun p hp => ?_, fun p hp => ?_, fun p hp => ?_, B, fun H b ns hl hbits hT hS => ?_, fun base hK hN hTB => ?_⟩
  · obtain ⟨q, hq2, rfl⟩ := List.mem_map.mp hp
    exact c.empty q (by rw [htf]; exact hq2)
  · obtain ⟨q, hq2, rfl⟩ := List.mem_map.mp hp
    exact c.out q (by rw [htf]; exact hq2)
  · obtain ⟨q, hq2, rfl⟩ := List.mem_map.mp hp
    exact PySem.W.codeHd_of_K KX (c.hd q (by rw [htf]; exact hq2))
  · obtain ⟨m', e⟩ := sem ns hl hbits
    have tb : ∀ q ∈ tg ++ tl.map (·.1), H (He.cT K q).2 = some (.tbl #[]) := fun q hq2 => hT _ (List.mem_map.mpr ⟨q, hq2, rfl⟩)
    refine ⟨rfl, ⟨fun _ => False, fun _ _ => 0, fun _ => 0, 0⟩, [], wr, [scrD ns], ⟨rfl, fun r c z => by simp at z, fun r f r' f' z => by obtain ⟨z, _⟩ := z; simp at z, fun r f z => by obtain ⟨z, _⟩ := z; simp at z, fun r c fs z => by simp at z⟩, ⟨fun P hP => ?_, fun p hp => ?_⟩, ⟨.ref b, [], rfl, ?_, rfl⟩, ?_⟩
    · rw [Z.htg] at hP
      obtain ⟨q, hq2, rfl⟩ := List.mem_map.mp hP
      exact ⟨#[], tb q (List.mem_append_left _ hq2), True.intro⟩
    · rw [Z.htl] at hp
      obtain ⟨q, hq2, rfl⟩ := List.mem_map.mp hp
      exact LamX.TabS.nil (tb q.1 (List.mem_append_right _ (List.mem_map.mpr ⟨q, hq2, rfl⟩)))
    · refine .inr (.inl ⟨b, ns, rfl, rfl, ?_⟩)
      rw [← hF] at hS
      rcases hS with hS | hS
      · exact .inl ⟨hS, fun z => z⟩
      · exact .inr hS
    · rw [e]
      intro ω' v H' p r
      rcases r with r | ⟨z, _⟩
      · exact r
      · cases z
  · have TB := fun p (hp : p ∈ tg ++ tl.map (·.1)) => hTB _ (List.mem_map.mpr ⟨p, hp, rfl⟩)
    have Fd2 : FunD K d.name d.name d.params d.body d.scope [] [] (He.fAd K d.at_) fd := by rw [ea, eg]; exact Fd
    exact def_ok Fd (C8.fnScope_by hs) hn (fun z => tabOf_of Fd2 Z (hgd z) (TB _ (List.mem_append_left _ (hgd z)))) (fun z => tabL_of Fd2 Z (hld z).1 (hld z).2 (TB _ (List.mem_append_right _ (List.mem_map.mpr ⟨_, (hld z).1, rfl⟩)))) hm hF.symm (lv base hK hN TB)
end Ev
end
section
set_option Elab.async false
set_option linter.all false
set_option autoImplicit false
set_option maxRecDepth 100000
/-! the texts of k05_claims_of_those_who_come, by wip/gen.py -/
namespace Ev.T_k05
open PySem L2 C8

def top (i : Nat) : Stmt := PySem.Challenge.pw_hotelstack_k05_claims_of_those_who_come.main.body.getD i (.Pass ⟨0, 0, 0, 0⟩)
def G : List (Str × Gb) := [("ratio", .fn 0 ["top", "bottom"]), ("comers", .fn 1 ["booked", "chance"]), ("turned_away", .fn 2 ["booked", "rooms", "chance"]), ("rooms_empty", .fn 3 ["booked", "rooms", "chance"]), ("earned", .fn 4 ["booked", "rooms", "chance", "pence", "amends"]), ("best_booked", .fn 5 ["rooms", "chance", "pence", "amends"]), ("chance_full", .fn 6 ["booked", "rooms", "chance"]), ("seen_chance", .fn 7 ["came", "booked"]), ("_law_dice", .fn 8 ["cell"]), ("_law_roll", .fn 9 ["dice", "many"]), ("_law_rounds", .fn 10 ["script", "most"]), ("_law_told", .told 1 "ClaimError"), ("_law_least", .fn 12 ["top", "bottom"]), ("_law_tops", .fn 13 ["booked", "top", "bottom"]), ("_law_plain", .fn 14 []), ("law", .fn 15 ["script"]), ("MOST_BOOKED", .cst 0), ("HotelError", .exc 0), ("ClaimError", .exc 1), ("abs", .blt), ("enumerate", .blt), ("int", .blt), ("len", .blt), ("max", .blt), ("min", .blt), ("range", .blt), ("sum", .blt), ("tuple", .blt)]
def N_ratio : List Str := ["top", "bottom", "one", "other"]
def b_ratio : List St := [.ifs (.cmp .lt (.nm 1) (.cst (.int 1))) [.rai 1] [], .par [2, 3] [.bi .abs [.nm 0], .nm 1], .whl (.cmp .ne (.nm 3) (.cst (.int 0))) [.par [2, 3] [.nm 3, .bin .mod (.nm 2) (.nm 3)]], .ret (.tup [.bin .fdiv (.nm 0) (.nm 2), .bin .fdiv (.nm 1) (.nm 2)])]
theorem m_ratio : mSts ⟨N_ratio, defScope (top 5), fun _ => true, G, false, false⟩ b_ratio (defBody (top 5)) = true := by decide +kernel
theorem s_ratio : scC N_ratio ["top", "bottom"] (defScope (top 5)) = true := by decide +kernel
def N_comers : List Str := ["booked", "chance", "one", "top", "bottom", "tops", "whole", "fresh", "many", "much"]
def b_comers : List St := [.unp (.tup [.nm 3, .nm 4]) (.nm 1), .ifs (.or (.not (.chn .le .le (.cst (.int 0)) (.nm 0) (.glb 0))) (.or (.not (.chn .le .le (.cst (.int 0)) (.nm 3) (.nm 4))) (.cmp .lt (.nm 4) (.cst (.int 1))))) [.rai 1] [], .par [5, 6] [.lst [.cst (.int 1)], .cst (.int 1)], .for (.nm 2) (.rng [.nm 0]) [.asgO 7 (.bin .mul (.lst [.cst (.int 0)]) (.bin .add (.bi .len [.nm 5]) (.cst (.int 1)))), .for (.tup [.nm 8, .nm 9]) (.enum (.e (.nm 5))) [.augi (.sl 7) (.nm 8) .add (.bin .mul (.nm 9) (.bin .sub (.nm 4) (.nm 3))), .augi (.sl 7) (.bin .add (.nm 8) (.cst (.int 1))) .add (.bin .mul (.nm 9) (.nm 3))], .frz 7, .par [5, 6] [.nm 7, .bin .mul (.nm 6) (.nm 4)]], .ret (.tup [.bi .tuple [.nm 5], .nm 6])]
theorem m_comers : mSts ⟨N_comers, defScope (top 6), fun _ => true, G, false, false⟩ b_comers (defBody (top 6)) = true := by decide +kernel
theorem s_comers : scC N_comers ["booked", "chance"] (defScope (top 6)) = true := by decide +kernel
def N_turned_away : List Str := ["booked", "rooms", "chance", "tops", "whole", "many", "much"]
def b_turned_away : List St := [.unp (.tup [.nm 3, .nm 4]) (.call 1 [.nm 0, .nm 2]), .ifs (.cmp .lt (.nm 1) (.cst (.int 0))) [.rai 1] [], .ret (.call 0 [.co .sum (.bin .mul (.bi .max2 [.cst (.int 0), .bin .sub (.nm 5) (.nm 1)]) (.nm 6)) (.tup [.nm 5, .nm 6]) (.enum (.e (.nm 3))) [], .nm 4])]
theorem m_turned_away : mSts ⟨N_turned_away, defScope (top 7), fun _ => true, G, true, false⟩ b_turned_away (defBody (top 7)) = true := by decide +kernel
theorem s_turned_away : scC N_turned_away ["booked", "rooms", "chance"] (defScope (top 7)) = true := by decide +kernel
def N_rooms_empty : List Str := ["booked", "rooms", "chance", "tops", "whole", "many", "much"]
def b_rooms_empty : List St := [.unp (.tup [.nm 3, .nm 4]) (.call 1 [.nm 0, .nm 2]), .ifs (.cmp .lt (.nm 1) (.cst (.int 0))) [.rai 1] [], .ret (.call 0 [.co .sum (.bin .mul (.bi .max2 [.cst (.int 0), .bin .sub (.nm 1) (.nm 5)]) (.nm 6)) (.tup [.nm 5, .nm 6]) (.enum (.e (.nm 3))) [], .nm 4])]
theorem m_rooms_empty : mSts ⟨N_rooms_empty, defScope (top 8), fun _ => true, G, true, false⟩ b_rooms_empty (defBody (top 8)) = true := by decide +kernel
theorem s_rooms_empty : scC N_rooms_empty ["booked", "rooms", "chance"] (defScope (top 8)) = true := by decide +kernel
def N_earned : List Str := ["booked", "rooms", "chance", "pence", "amends", "much", "tops", "whole", "many", "part"]
def b_earned : List St := [.ifs (.cmp .lt (.bi .min2 [.nm 3, .nm 4]) (.cst (.int 0))) [.rai 1] [], .unp (.tup [.nm 6, .nm 7]) (.call 1 [.nm 0, .nm 2]), .ifs (.cmp .lt (.nm 1) (.cst (.int 0))) [.rai 1] [], .asg 5 (.cst (.int 0)), .for (.tup [.nm 8, .nm 9]) (.enum (.e (.nm 6))) [.augn 5 .add (.bin .mul (.nm 9) (.bin .sub (.bin .mul (.bi .min2 [.nm 8, .nm 1]) (.nm 3)) (.bin .mul (.bi .max2 [.cst (.int 0), .bin .sub (.nm 8) (.nm 1)]) (.nm 4))))], .ret (.call 0 [.nm 5, .nm 7])]
theorem m_earned : mSts ⟨N_earned, defScope (top 9), fun _ => true, G, false, false⟩ b_earned (defBody (top 9)) = true := by decide +kernel
theorem s_earned : scC N_earned ["booked", "rooms", "chance", "pence", "amends"] (defScope (top 9)) = true := by decide +kernel
def N_best_booked : List Str := ["rooms", "chance", "pence", "amends", "booked", "best", "most", "much"]
def b_best_booked : List St := [.ifs (.cmp .gt (.nm 0) (.glb 0)) [.rai 1] [], .par [5, 6] [.nm 0, .call 4 [.nm 0, .nm 0, .nm 1, .nm 2, .nm 3]], .for (.nm 4) (.rng [.bin .add (.nm 0) (.cst (.int 1)), .bin .add (.glb 0) (.cst (.int 1))]) [.asg 7 (.call 4 [.nm 4, .nm 0, .nm 1, .nm 2, .nm 3]), .ifs (.cmp .lt (.bin .mul (.idx (.nm 6) (.cst (.int 0))) (.idx (.nm 7) (.cst (.int 1)))) (.bin .mul (.idx (.nm 7) (.cst (.int 0))) (.idx (.nm 6) (.cst (.int 1))))) [.par [5, 6] [.nm 4, .nm 7]] []], .ret (.nm 5)]
theorem m_best_booked : mSts ⟨N_best_booked, defScope (top 10), fun _ => true, G, false, false⟩ b_best_booked (defBody (top 10)) = true := by decide +kernel
theorem s_best_booked : scC N_best_booked ["rooms", "chance", "pence", "amends"] (defScope (top 10)) = true := by decide +kernel
def N_chance_full : List Str := ["booked", "rooms", "chance", "tops", "whole"]
def b_chance_full : List St := [.unp (.tup [.nm 3, .nm 4]) (.call 1 [.nm 0, .nm 2]), .ifs (.cmp .lt (.nm 1) (.cst (.int 0))) [.rai 1] [], .ret (.call 0 [.bi .sum1 [.slc (.nm 3) (some (.nm 1)) none], .nm 4])]
theorem m_chance_full : mSts ⟨N_chance_full, defScope (top 11), fun _ => true, G, false, false⟩ b_chance_full (defBody (top 11)) = true := by decide +kernel
theorem s_chance_full : scC N_chance_full ["booked", "rooms", "chance"] (defScope (top 11)) = true := by decide +kernel
def N_seen_chance : List Str := ["came", "booked"]
def b_seen_chance : List St := [.ifs (.not (.chn .le .le (.cst (.int 0)) (.nm 0) (.nm 1))) [.rai 1] [], .ret (.call 0 [.bin .add (.nm 0) (.cst (.int 1)), .bin .add (.nm 1) (.cst (.int 2))])]
theorem m_seen_chance : mSts ⟨N_seen_chance, defScope (top 12), fun _ => true, G, false, false⟩ b_seen_chance (defBody (top 12)) = true := by decide +kernel
theorem s_seen_chance : scC N_seen_chance ["came", "booked"] (defScope (top 12)) = true := by decide +kernel
def N_law_dice : List Str := ["cell"]
def b_law_dice : List St := [.ifs (.chn .lt .lt (.bin .sub (.cst (.int 0)) (.cst (.int 10))) (.nm 0) (.cst (.int 10))) [.ret (.lstC [.bi .abs [.nm 0], .cst (.int 0), .cst (.int 2)])] [], .ret (.lstC [.nm 0, .bin .add (.cst (.int 1)) (.bin .mod (.bi .int [.nm 0]) (.cst (.int 1009))), .bi .int [.cmp .ge (.nm 0) (.bin .pow (.cst (.int 10)) (.cst (.int 18)))]])]
theorem m_law_dice : mSts ⟨N_law_dice, defScope (top 14), fun _ => true, G, false, false⟩ b_law_dice (defBody (top 14)) = true := by decide +kernel
theorem s_law_dice : scC N_law_dice ["cell"] (defScope (top 14)) = true := by decide +kernel
def N_law_roll : List Str := ["dice", "many", "found"]
def b_law_roll : List St := [.ifs (.or (.cmp .eq (.idx (.nm 0) (.cst (.int 2))) (.cst (.int 2))) (.and (.cmp .eq (.idx (.nm 0) (.cst (.int 2))) (.cst (.int 1))) (.cmp .gt (.idx (.nm 0) (.cst (.int 0))) (.cst (.int 0))))) [.asg 2 (.bin .mod (.bi .int [.idx (.nm 0) (.cst (.int 0))]) (.nm 1)), .seti (.cl (.nm 0)) (.cst (.int 0)) (.bin .fdiv (.idx (.nm 0) (.cst (.int 0))) (.nm 1)), .ret (.nm 2)] [], .seti (.cl (.nm 0)) (.cst (.int 2)) (.cst (.int 0)), .ifs (.cmp .gt (.nm 1) (.cst (.int 100000000))) [.ret (.bin .mod (.bi .int [.bin .add (.bin .mul (.call 9 [.nm 0, .bin .add (.bin .fdiv (.nm 1) (.cst (.int 100000000))) (.cst (.int 1))]) (.cst (.int 100000000))) (.call 9 [.nm 0, .cst (.int 100000000)])]) (.nm 1))] [], .seti (.cl (.nm 0)) (.cst (.int 0)) (.bin .mod (.bi .int [.bin .add (.bin .add (.bin .mul (.idx (.nm 0) (.cst (.int 0))) (.cst (.int 48271))) (.bin .mul (.idx (.nm 0) (.cst (.int 1))) (.cst (.int 69621)))) (.cst (.int 11))]) (.cst (.int 2147483647))), .seti (.cl (.nm 0)) (.cst (.int 1)) (.bin .add (.idx (.nm 0) (.cst (.int 1))) (.cst (.int 1))), .ret (.bin .mod (.bi .int [.bin .fdiv (.idx (.nm 0) (.cst (.int 0))) (.cst (.int 7))]) (.nm 1))]
theorem m_law_roll : mSts ⟨N_law_roll, defScope (top 15), fun _ => true, G, false, false⟩ b_law_roll (defBody (top 15)) = true := by decide +kernel
theorem s_law_roll : scC N_law_roll ["dice", "many"] (defScope (top 15)) = true := by decide +kernel
def N_law_rounds : List Str := ["script", "most", "cells", "cell"]
def b_law_rounds : List St := [.asg 2 (.slc (.nm 0) none (some (.nm 1))), .ifs (.cmp .eq (.nm 2) (.lst [])) [.asg 2 (.lst [.cst (.int 0)])] [], .ret (.co .lc (.call 8 [.nm 3]) (.nm 3) (.seq (.e (.nm 2))) [])]
theorem m_law_rounds : mSts ⟨N_law_rounds, defScope (top 16), fun _ => true, G, false, false⟩ b_law_rounds (defBody (top 16)) = true := by decide +kernel
theorem s_law_rounds : scC N_law_rounds ["script", "most"] (defScope (top 16)) = true := by decide +kernel
def N_law_least : List Str := ["top", "bottom", "part", "one", "other", "k"]
def b_law_least : List St := [.asg 2 (.ite (.cmp .lt (.nm 1) (.cst (.int 200))) (.bi .max1 [.co .lc (.nm 5) (.nm 5) (.rng [.cst (.int 1), .bin .add (.nm 1) (.cst (.int 1))]) [.and (.cmp .eq (.bin .mod (.nm 0) (.nm 5)) (.cst (.int 0))) (.cmp .eq (.bin .mod (.nm 1) (.nm 5)) (.cst (.int 0)))]]) (.cst (.int 1))), .par [3, 4] [.bi .max2 [.nm 0, .neg (.nm 0)], .nm 1], .whl (.cmp .ne (.nm 4) (.cst (.int 0))) [.par [3, 4] [.nm 4, .bin .mod (.nm 3) (.nm 4)]], .ret (.ite (.cmp .gt (.nm 2) (.cst (.int 0))) (.tup [.bin .fdiv (.nm 0) (.nm 3), .bin .fdiv (.nm 1) (.nm 3)]) (.tup [.cst (.int 0), .cst (.int 1)]))]
theorem m_law_least : mSts ⟨N_law_least, defScope (top 18), fun _ => true, G, false, false⟩ b_law_least (defBody (top 18)) = true := by decide +kernel
theorem s_law_least : scC N_law_least ["top", "bottom"] (defScope (top 18)) = true := by decide +kernel
def N_law_tops : List Str := ["booked", "top", "bottom", "rows", "k", "j"]
def b_law_tops : List St := [.asg 3 (.lst [.cst (.int 1)]), .for (.nm 4) (.rng [.nm 0]) [.asg 3 (.co .lc (.bin .add (.bin .mul (.idx (.bin .add (.nm 3) (.lst [.cst (.int 0)])) (.nm 5)) (.bin .sub (.nm 2) (.nm 1))) (.bin .mul (.idx (.bin .add (.lst [.cst (.int 0)]) (.nm 3)) (.nm 5)) (.nm 1))) (.nm 5) (.rng [.bin .add (.bi .len [.nm 3]) (.cst (.int 1))]) [])], .ret (.nm 3)]
theorem m_law_tops : mSts ⟨N_law_tops, defScope (top 19), fun _ => true, G, false, false⟩ b_law_tops (defBody (top 19)) = true := by decide +kernel
theorem s_law_tops : scC N_law_tops ["booked", "top", "bottom"] (defScope (top 19)) = true := by decide +kernel
def N_law_plain : List Str := ["most", "bad", "f"]
def b_law_plain : List St := [.asg 0 (.tup [.cst (.int 9), .cst (.int 10)]), .bads 1 2 [.call 0 [.cst (.int 1), .cst (.int 0)], .call 1 [.neg (.cst (.int 1)), .nm 0], .call 1 [.cst (.int 31), .nm 0], .call 1 [.cst (.int 1), .tup [.cst (.int 2), .cst (.int 1)]], .call 1 [.cst (.int 1), .tup [.neg (.cst (.int 1)), .cst (.int 1)]], .call 1 [.cst (.int 1), .tup [.cst (.int 0), .cst (.int 0)]], .call 2 [.cst (.int 1), .neg (.cst (.int 1)), .nm 0], .call 2 [.cst (.int 31), .cst (.int 1), .nm 0], .call 3 [.cst (.int 1), .neg (.cst (.int 1)), .nm 0], .call 4 [.cst (.int 1), .neg (.cst (.int 1)), .nm 0, .cst (.int 1), .cst (.int 1)], .call 4 [.cst (.int 1), .cst (.int 1), .nm 0, .neg (.cst (.int 1)), .cst (.int 1)], .call 4 [.cst (.int 1), .cst (.int 1), .nm 0, .cst (.int 1), .neg (.cst (.int 1))], .call 5 [.cst (.int 31), .nm 0, .cst (.int 1), .cst (.int 1)], .call 5 [.neg (.cst (.int 1)), .nm 0, .cst (.int 1), .cst (.int 1)], .call 6 [.cst (.int 1), .neg (.cst (.int 1)), .nm 0], .call 7 [.cst (.int 2), .cst (.int 1)], .call 7 [.neg (.cst (.int 1)), .cst (.int 1)]] 1, .ifs (.or (.cmp .ne (.glb 0) (.cst (.int 30))) (.or (.cmp .ne (.call 1 [.cst (.int 3), .nm 0]) (.tup [.tup [.cst (.int 1), .cst (.int 27), .cst (.int 243), .cst (.int 729)], .cst (.int 1000)])) (.or (.cmp .ne (.call 2 [.cst (.int 3), .cst (.int 2), .nm 0]) (.tup [.cst (.int 729), .cst (.int 1000)])) (.cmp .ne (.call 3 [.cst (.int 3), .cst (.int 2), .nm 0]) (.tup [.cst (.int 29), .cst (.int 1000)]))))) [.ret (.cst (.bool false))] [], .ifs (.not (.and (.cmp .eq (.call 4 [.cst (.int 3), .cst (.int 2), .nm 0, .cst (.int 100), .cst (.int 150)]) (.tup [.cst (.int 351), .cst (.int 4)])) (.cmp .eq (.call 5 [.cst (.int 10), .nm 0, .cst (.int 100), .cst (.int 200)]) (.cst (.int 10))))) [.ret (.cst (.bool false))] [], .ret (.and (.cmp .gt (.call 5 [.cst (.int 10), .tup [.cst (.int 1), .cst (.int 2)], .cst (.int 100), .cst (.int 100)]) (.cst (.int 15))) (.and (.cmp .eq (.call 6 [.cst (.int 3), .cst (.int 2), .nm 0]) (.tup [.cst (.int 243), .cst (.int 250)])) (.and (.cmp .eq (.call 7 [.cst (.int 8), .cst (.int 10)]) (.tup [.cst (.int 3), .cst (.int 4)])) (.and (.cmp .eq (.call 0 [.neg (.cst (.int 4)), .cst (.int 6)]) (.tup [.neg (.cst (.int 2)), .cst (.int 3)])) (.cmp .eq (.call 1 [.cst (.int 0), .nm 0]) (.tup [.tup [.cst (.int 1)], .cst (.int 1)]))))))]
theorem m_law_plain : mSts ⟨N_law_plain, defScope (top 20), fun _ => true, G, false, true⟩ b_law_plain (defBody (top 20)) = true := by decide +kernel
theorem s_law_plain : scC N_law_plain [] (defScope (top 20)) = true := by decide +kernel
def N_law : List Str := ["script", "dice", "whole", "k", "away", "free", "much", "rows", "many", "best", "booked", "rooms", "bottom", "top", "pence", "amends", "tops", "one", "other", "part", "a", "b", "c"]
def b_law : List St := [.for (.nm 1) (.seq (.e (.call 10 [.nm 0, .cst (.int 1)]))) [.unp (.tup [.nm 10, .nm 11, .nm 12]) (.tup [.call 9 [.nm 1, .cst (.int 9)], .call 9 [.nm 1, .cst (.int 9)], .bin .add (.cst (.int 1)) (.call 9 [.nm 1, .cst (.int 10)])]), .unp (.tup [.nm 13, .nm 14, .nm 15]) (.tup [.call 9 [.nm 1, .bin .add (.nm 12) (.cst (.int 1))], .call 9 [.nm 1, .cst (.int 200)], .call 9 [.nm 1, .cst (.int 400)]]), .par [16, 2] [.call 13 [.nm 10, .nm 13, .nm 12], .nm 12], .asg 2 (.cst (.int 1)), .for (.nm 3) (.rng [.nm 10]) [.asg 2 (.bin .mul (.nm 2) (.nm 12))], .ifs (.or (.cmp .ne (.call 1 [.nm 10, .tup [.nm 13, .nm 12]]) (.tup [.bi .tuple [.nm 16], .nm 2])) (.cmp .ne (.bi .sum1 [.nm 16]) (.nm 2))) [.ret (.cst (.bool false))] [], .asg 4 (.bi .sum1 [.co .lc (.bin .mul (.bi .max2 [.cst (.int 0), .bin .sub (.nm 8) (.nm 11)]) (.nm 19)) (.tup [.nm 8, .nm 19]) (.enum (.e (.nm 16))) []]), .asg 5 (.bi .sum1 [.co .lc (.bin .mul (.bi .max2 [.cst (.int 0), .bin .sub (.nm 11) (.nm 8)]) (.nm 19)) (.tup [.nm 8, .nm 19]) (.enum (.e (.nm 16))) []]), .asg 6 (.bi .sum1 [.co .lc (.bin .mul (.nm 19) (.bin .sub (.bin .mul (.bi .min2 [.nm 8, .nm 11]) (.nm 14)) (.bin .mul (.bi .max2 [.cst (.int 0), .bin .sub (.nm 8) (.nm 11)]) (.nm 15)))) (.tup [.nm 8, .nm 19]) (.enum (.e (.nm 16))) []]), .ifs (.or (.cmp .ne (.call 2 [.nm 10, .nm 11, .tup [.nm 13, .nm 12]]) (.call 12 [.nm 4, .nm 2])) (.or (.cmp .ne (.call 3 [.nm 10, .nm 11, .tup [.nm 13, .nm 12]]) (.call 12 [.nm 5, .nm 2])) (.cmp .ne (.call 4 [.nm 10, .nm 11, .tup [.nm 13, .nm 12], .nm 14, .nm 15]) (.call 12 [.nm 6, .nm 2])))) [.ret (.cst (.bool false))] [], .ifs (.cmp .ne (.call 6 [.nm 10, .nm 11, .tup [.nm 13, .nm 12]]) (.call 12 [.bi .sum1 [.slc (.nm 16) (some (.nm 11)) none], .nm 2])) [.ret (.cst (.bool false))] [], .asg 7 (.lst []), .for (.nm 8) (.rng [.nm 11, .cst (.int 31)]) [.unp (.tup [.nm 17, .nm 18]) (.call 4 [.nm 8, .nm 11, .tup [.nm 13, .nm 12], .nm 14, .nm 15]), .asg 7 (.bin .add (.nm 7) (.lst [.tup [.nm 8, .nm 17, .nm 18]]))], .asg 9 (.idx (.co .lc (.nm 8) (.tup [.nm 8, .nm 17, .nm 18]) (.seq (.e (.nm 7))) [.cmp .eq (.co .lc (.cst (.int 1)) (.tup [.nm 20, .nm 21, .nm 22]) (.seq (.e (.nm 7))) [.cmp .gt (.bin .mul (.nm 21) (.nm 18)) (.bin .mul (.nm 17) (.nm 22))]) (.lst [])]) (.cst (.int 0))), .ifs (.cmp .ne (.call 5 [.nm 11, .tup [.nm 13, .nm 12], .nm 14, .nm 15]) (.nm 9)) [.ret (.cst (.bool false))] [], .ifs (.cmp .ne (.call 7 [.bi .min2 [.nm 10, .nm 11], .nm 11]) (.call 12 [.bin .add (.bi .min2 [.nm 10, .nm 11]) (.cst (.int 1)), .bin .add (.nm 11) (.cst (.int 2))])) [.ret (.cst (.bool false))] []], .ret (.call 14 [])]
theorem m_law : mSts ⟨N_law, defScope (top 21), fun _ => true, G, false, false⟩ b_law (defBody (top 21)) = true := by decide +kernel
theorem s_law : scC N_law ["script"] (defScope (top 21)) = true := by decide +kernel
def fns : Nat → List St × Nat
  | 0 => (b_ratio, 4)
  | 1 => (b_comers, 10)
  | 2 => (b_turned_away, 7)
  | 3 => (b_rooms_empty, 7)
  | 4 => (b_earned, 10)
  | 5 => (b_best_booked, 8)
  | 6 => (b_chance_full, 5)
  | 7 => (b_seen_chance, 2)
  | 8 => (b_law_dice, 1)
  | 9 => (b_law_roll, 3)
  | 10 => (b_law_rounds, 4)
  | 12 => (b_law_least, 6)
  | 13 => (b_law_tops, 6)
  | 14 => (b_law_plain, 3)
  | 15 => (b_law, 23)
  | _ => ([], 0)
end Ev.T_k05
end
section
set_option Elab.async false
set_option linter.all false
set_option autoImplicit false
set_option maxRecDepth 100000
set_option maxHeartbeats 1000000
/-! k05: what the defs compute. -/
namespace Ev.T_k05
open PySem L2

def fuel0 : Nat := 10000000000000000000000000000000000000000
def W0 : Wd := { call := fun _ _ _ _ => .stuck, glb := fun _ => .int 30, ini := fun _ => 0, cls := fun _ => 0, nam := fun _ => "", sub := fun a b => a == b || (a == 1 && b == 0), tol := fun _ => "ClaimError", fuel := fuel0 }
abbrev Wk (k : Nat) : Wd := lvW W0 fns k
@[simp] theorem wk_fuel (k : Nat) : (Wk k).fuel = fuel0 := by cases k <;> rfl
@[simp] theorem wk_glb (k g : Nat) : (Wk k).glb g = .int 30 := by cases k <;> rfl
@[simp] theorem wk_sub (k a b : Nat) : (Wk k).sub a b = (a == b || (a == 1 && b == 0)) := by cases k <;> rfl
theorem call_eq (k f : Nat) (wr : Wr) (xs : List D) (m : M) : (Wk (k + 1)).call f wr xs m = endF (execL (Wk k) (fns f).1 wr (ga0 (fns f).2 xs) m) := rfl

/-! ### ratio -/
def gg (a b : Int) : Int := ((Int.gcd b a : Nat) : Int)
def rat (a b : Int) : D := .tuple [.int (a / gg a b), .int (b / gg a b)]
theorem gg_pos {a b : Int} (hb : 1 ≤ b) : 0 < gg a b := by
  unfold gg
  have : 0 < Int.gcd b a := Int.gcd_pos_of_ne_zero_left _ (by omega)
  omega
theorem gg_le {a b : Int} (hb : 1 ≤ b) : gg a b ≤ b := by
  unfold gg
  have h := Int.gcd_le_natAbs_left (a := b) a (by omega)
  omega
theorem log_ok {b : Int} (h0 : 0 ≤ b) (h : b < 10 ^ 40) : b.natAbs.log2 < 9000 := by
  by_cases hz : b.natAbs = 0
  · rw [hz]; decide
  · exact (Nat.log2_lt hz).mpr (Nat.lt_of_lt_of_le (show b.natAbs < 10 ^ 40 by omega) (by decide +kernel))
def mu3 (i : Nat) (g : Ga) : Nat := match g[i]? with
  | some (some (_, .int o)) => o.natAbs
  | _ => 0
theorem abs_nat (a : Int) : (if a < 0 then -a else a) = (a.natAbs : Int) := by
  split <;> omega
theorem c_ratio (k : Nat) (wr : Wr) (m : M) (a b : Int) (hb : 1 ≤ b) (hs : b < 10 ^ 40) : (Wk (k + 1)).call 0 wr [.int a, .int b] m = .ok (rat a b) m := by
  obtain ⟨g', m', e, h1, h2⟩ := whlB_ind (W := Wk k) (t := .cmp .ne (.nm 3) (.cst (.int 0))) (body := [.par [2, 3] [.nm 3, .bin .mod (.nm 2) (.nm 3)]]) (wr := wr)
    (fun g m' => m' = m ∧ ∃ one other : Nat, g = [some (false, .int a), some (false, .int b), some (false, .int one), some (false, .int other)] ∧ Nat.gcd other one = Int.gcd b a)
    (fun g m' => m' = m ∧ g = [some (false, .int a), some (false, .int b), some (false, .int (gg a b)), some (false, .int 0)]) (fun g _ => mu3 3 g)
    (by
      rintro g m' ⟨rfl, one, other, rfl, hg⟩
      by_cases ho : (other : Int) = 0
      · refine .inl ⟨m', by simp -implicitDefEqProofs [isB, ho], rfl, ?_⟩
        have : other = 0 := by omega
        subst this
        rw [Nat.gcd_zero_left] at hg
        simp [gg, ← hg]
      · have hp : 0 < other := by omega
        refine .inr ⟨m', _, m', by simp -implicitDefEqProofs [isB]; omega, by simp -implicitDefEqProofs [isB, hp]; rfl, ⟨rfl, other, one % other, by simp, ?_⟩, ?_⟩
        · rw [← hg, Nat.gcd_rec other one]
        · have hlt := Nat.mod_lt one (show other > 0 by omega)
          show ((one : Int) % (other : Int)).natAbs < (other : Int).natAbs
          rw [← Int.natCast_emod]
          omega)
    fuel0 [some (false, .int a), some (false, .int b), some (false, .int (a.natAbs : Int)), some (false, .int b)] m ⟨rfl, a.natAbs, b.natAbs, by simp; omega, rfl⟩ (by show b.natAbs < fuel0; unfold fuel0; omega)
  subst h1 h2
  have hp := gg_pos (a := a) hb
  have hl : (gg a b).natAbs.log2 < 9000 := log_ok (by omega) (by have := gg_le (a := a) hb; omega)
  have hn : ¬ b < 1 := by omega
  rw [call_eq]
  simp -implicitDefEqProofs [fns, b_ratio, ga0, isB, hn, abs_nat, e, hp, hl, rat]

/-! ### comers -/
/-- one more who is booked -/
def stp (c t : Int) : Int → List Int → List Int
  | p, [] => [p * t]
  | p, x :: xs => (x * c + p * t) :: stp c t x xs
def tops (t b : Int) : Nat → List Int
  | 0 => [1]
  | n + 1 => stp (b - t) t 0 (tops t b n)
theorem stp_len (c t : Int) : ∀ (xs : List Int) (p : Int), (stp c t p xs).length = xs.length + 1
  | [], p => rfl
  | x :: xs, p => by rw [stp, List.length_cons, stp_len c t xs x, List.length_cons]
theorem tops_len (t b : Int) : ∀ n, (tops t b n).length = n + 1
  | 0 => rfl
  | n + 1 => by rw [tops, stp_len, tops_len t b n]
theorem comers_turn {k : Nat} {wr : Wr} {n t b : Int} {c : D} {s2 : Option (Bool × D)} {w : Int} (rows : List Int) (m : M) (s7 s8 s9 : Option (Bool × D)) (hb : b < 1000) (ht : 0 ≤ t) (htb : t ≤ b) (hlen : rows.length < 1000) :
    ∃ s8' s9', execL (Wk k) [.asgO 7 (.bin .mul (.lst [.cst (.int 0)]) (.bin .add (.bi .len [.nm 5]) (.cst (.int 1)))), .for (.tup [.nm 8, .nm 9]) (.enum (.e (.nm 5))) [.augi (.sl 7) (.nm 8) .add (.bin .mul (.nm 9) (.bin .sub (.nm 4) (.nm 3))), .augi (.sl 7) (.bin .add (.nm 8) (.cst (.int 1))) .add (.bin .mul (.nm 9) (.nm 3))], .frz 7, .par [5, 6] [.nm 7, .bin .mul (.nm 6) (.nm 4)]] wr
      [some (false, .int n), some (false, c), s2, some (false, .int t), some (false, .int b), some (false, .list (rows.map .int)), some (false, .int w), s7, s8, s9] m =
    .nx [some (false, .int n), some (false, c), s2, some (false, .int t), some (false, .int b), some (false, .list ((stp (b - t) t 0 rows).map .int)), some (false, .int (w * b)), some (false, .list ((stp (b - t) t 0 rows).map .int)), s8', s9'] m := by
  obtain ⟨g', m', e, rfl, s8', s9', don, p, rest, h1, h2, rfl⟩ := forB_ind (W := Wk k) (tg := .tup [.nm 8, .nm 9]) (body := [.augi (.sl 7) (.nm 8) .add (.bin .mul (.nm 9) (.bin .sub (.nm 4) (.nm 3))), .augi (.sl 7) (.bin .add (.nm 8) (.cst (.int 1))) .add (.bin .mul (.nm 9) (.nm 3))]) (wr := wr) (prD .int)
    (fun as g m' => m' = m ∧ ∃ s8 s9 don p rest, as = nums don.length rest ∧ don ++ stp (b - t) t p rest = stp (b - t) t 0 rows ∧ g = [some (false, .int n), some (false, c), s2, some (false, .int t), some (false, .int b), some (false, .list (rows.map .int)), some (false, .int w), some (true, .list ((don ++ p * t :: List.replicate rest.length 0).map .int)), s8, s9])
    (by
      rintro ⟨i, x⟩ as g m' ⟨rfl, s8, s9, don, p, rest, h1, h2, rfl⟩
      cases rest with
      | nil => simp [nums] at h1
      | cons y rest =>
        simp only [nums, List.cons.injEq, Prod.mk.injEq] at h1
        obtain ⟨⟨rfl, rfl⟩, h1⟩ := h1
        obtain ⟨L, hL⟩ : ∃ L, L = don ++ p * t :: List.replicate (x :: rest).length 0 := ⟨_, rfl⟩
        obtain ⟨L1, hL1⟩ : ∃ L1, L1 = don ++ (p * t + x * (b - t)) :: List.replicate (x :: rest).length 0 := ⟨_, rfl⟩
        obtain ⟨L2, hL2⟩ : ∃ L2, L2 = don ++ (p * t + x * (b - t)) :: (0 + x * t) :: List.replicate rest.length 0 := ⟨_, rfl⟩
        have q1 : getN (L.map .int) (.int (don.length : Int)) = some (.int (p * t)) := getN_ints rfl (by rw [hL]; simp)
        have q2 : setN (L.map .int) (.int (don.length : Int)) (.int (p * t + x * (b - t))) = some (L1.map .int) := setN_ints rfl (by rw [hL]; simp) (by rw [hL, hL1]; simp)
        have q3 : getN (L1.map .int) (.int ((don.length : Int) + 1)) = some (.int 0) := getN_ints (i := don.length + 1) (by omega) (by rw [hL1]; simp [List.replicate_succ])
        have q4 : setN (L1.map .int) (.int ((don.length : Int) + 1)) (.int (0 + x * t)) = some (L2.map .int) := setN_ints (i := don.length + 1) (by omega) (by rw [hL1]; simp) (by rw [hL1, hL2]; simp [List.replicate_succ])
        have k1 : mulOk x (b - t) = true := mulOk_r (by omega)
        have k2 : mulOk x t = true := mulOk_r (by omega)
        rw [← hL]
        refine ⟨_, _, m', by simp [prD]; rfl, by simp -implicitDefEqProofs [isB, q1, k1, q2, q3, k2]; rw [← Int.zero_add (x * t), q4]; rfl, rfl, some (false, .int (don.length : Int)), some (false, .int x), don ++ [p * t + x * (b - t)], x, rest, ?_, ?_, ?_⟩
        · rw [h1]; simp
        · rw [← h2, stp]; simp; omega
        · rw [hL2]; simp)
    (nums 0 rows) _ m ⟨rfl, s8, s9, [], 0, rows, rfl, rfl, rfl⟩
  have hz : (([] ++ 0 * t :: List.replicate rows.length 0 : List Int).map .int : List D) = List.replicate (rows.length + 1) (.int 0) := by simp [List.replicate_succ]
  rw [hz] at e
  have hr : rest = [] := by
    cases rest with
    | nil => rfl
    | cons _ _ => simp [nums] at h1
  subst hr
  have h3 : don ++ p * t :: List.replicate 0 0 = stp (b - t) t 0 rows := h2
  simp only [List.length_nil, h3] at e
  have hn := sb_rep (d := .int 0) (k := (rows.length : Int) + 1) (n := rows.length + 1) (by omega) (by omega)
  have hw : mulOk w b = true := mulOk_r (by omega)
  refine ⟨s8', s9', ?_⟩
  simp -implicitDefEqProofs [isB, hn, enumOf_map, e, hw]
theorem tops_sum (t b : Int) : ∀ n, (tops t b n).sum = b ^ n
  | 0 => by simp [tops]
  | n + 1 => by
    have h : ∀ (xs : List Int) (c t p : Int), (stp c t p xs).sum = p * t + xs.sum * (c + t) := by
      intro xs
      induction xs with
      | nil => intro c t p; simp [stp]
      | cons x xs ih =>
        intro c t p
        simp only [stp, List.sum_cons, ih, Int.add_mul, Int.mul_add]
        omega
    rw [tops, h, tops_sum t b n, Int.pow_succ]
    simp
theorem stp_nn {c t : Int} (hc : 0 ≤ c) (ht : 0 ≤ t) : ∀ (xs : List Int) (p : Int), 0 ≤ p → (∀ x ∈ xs, 0 ≤ x) → ∀ x ∈ stp c t p xs, 0 ≤ x
  | [], p, hp, h, x, hx => by
    rw [stp, List.mem_singleton] at hx
    subst hx
    exact Int.mul_nonneg hp ht
  | y :: xs, p, hp, h, x, hx => by
    rw [stp, List.mem_cons] at hx
    rcases hx with rfl | hx
    · exact Int.add_nonneg (Int.mul_nonneg (h y List.mem_cons_self) hc) (Int.mul_nonneg hp ht)
    · exact stp_nn hc ht xs y (h y List.mem_cons_self) (fun z hz => h z (List.mem_cons_of_mem _ hz)) x hx
theorem tops_nn {t b : Int} (ht : 0 ≤ t) (hb : t ≤ b) : ∀ n, ∀ x ∈ tops t b n, 0 ≤ x
  | 0, x, hx => by
    rw [tops, List.mem_singleton] at hx
    subst hx
    decide
  | n + 1, x, hx => stp_nn (by omega) ht (tops t b n) 0 (Int.le_refl _) (tops_nn ht hb n) x hx
theorem le_sum : ∀ {xs : List Int}, (∀ x ∈ xs, 0 ≤ x) → 0 ≤ xs.sum ∧ ∀ x ∈ xs, x ≤ xs.sum
  | [], h => ⟨Int.le_refl _, fun x hx => by cases hx⟩
  | y :: xs, h => by
    obtain ⟨h1, h2⟩ := le_sum (xs := xs) fun z hz => h z (List.mem_cons_of_mem _ hz)
    have hy := h y List.mem_cons_self
    rw [List.sum_cons]
    refine ⟨by omega, fun x hx => ?_⟩
    rcases List.mem_cons.mp hx with rfl | hx
    · omega
    · have := h2 x hx
      omega
theorem tops_le {t b : Int} (ht : 0 ≤ t) (hb : t ≤ b) (n : Nat) {x : Int} (hx : x ∈ tops t b n) : 0 ≤ x ∧ x ≤ b ^ n := by
  refine ⟨tops_nn ht hb n x hx, ?_⟩
  rw [← tops_sum t b n]
  exact (le_sum (tops_nn ht hb n)).2 x hx
def ratA (t b : Int) : D := .tuple [.int t, .int b]
def comD (t b : Int) (n : Nat) : D := .tuple [.tuple ((tops t b n).map .int), .int (b ^ n)]
theorem c_comers (k : Nat) (wr : Wr) (m : M) (n : Nat) (t b : Int) (hn : n ≤ 30) (ht : 0 ≤ t) (htb : t ≤ b) (h1 : 1 ≤ b) (hb : b < 1000) : (Wk (k + 1)).call 1 wr [.int n, ratA t b] m = .ok (comD t b n) m := by
  obtain ⟨g', m', e, rfl, s2, s7, s8, s9, j, h2, rfl⟩ := forB_ind (W := Wk k) (tg := .nm 2) (body := [.asgO 7 (.bin .mul (.lst [.cst (.int 0)]) (.bin .add (.bi .len [.nm 5]) (.cst (.int 1)))), .for (.tup [.nm 8, .nm 9]) (.enum (.e (.nm 5))) [.augi (.sl 7) (.nm 8) .add (.bin .mul (.nm 9) (.bin .sub (.nm 4) (.nm 3))), .augi (.sl 7) (.bin .add (.nm 8) (.cst (.int 1))) .add (.bin .mul (.nm 9) (.nm 3))], .frz 7, .par [5, 6] [.nm 7, .bin .mul (.nm 6) (.nm 4)]]) (wr := wr) PyData.int
    (fun as g m' => m' = m ∧ ∃ s2 s7 s8 s9 j, as.length + j = n ∧ g = [some (false, .int n), some (false, ratA t b), s2, some (false, .int t), some (false, .int b), some (false, .list ((tops t b j).map .int)), some (false, .int (b ^ j)), s7, s8, s9])
    (by
      rintro a as g m' ⟨rfl, s2, s7, s8, s9, j, h2, rfl⟩
      have h2 : as.length + 1 + j = n := h2
      obtain ⟨s8', s9', e⟩ := comers_turn (k := k) (wr := wr) (n := n) (t := t) (b := b) (c := ratA t b) (s2 := some (false, .int a)) (w := b ^ j) (tops t b j) m' s7 s8 s9 hb ht htb (by rw [tops_len]; omega)
      exact ⟨_, _, _, by simp, e, rfl, _, _, _, _, j + 1, by omega, by rw [tops, Int.pow_succ]⟩)
    (rngI 0 n) [some (false, .int n), some (false, ratA t b), none, some (false, .int t), some (false, .int b), some (false, .list [.int 1]), some (false, .int 1), none, none, none] m ⟨rfl, none, none, none, none, 0, by rw [rngI_len]; rfl, by simp [tops]⟩
  have h2 : 0 + j = n := h2
  obtain rfl : j = n := by omega
  have hr := rngOf1 (j := (j : Int)) (by omega)
  rw [Int.toNat_natCast] at hr
  rw [call_eq]
  have q1 : (0 : Int) ≤ j := by omega
  have q2 : (j : Int) ≤ 30 := by omega
  have q3 : ¬ b < 1 := by omega
  have e' := e
  unfold ratA at e'
  simp -implicitDefEqProofs [fns, b_comers, ga0, isB, ratA, q1, q2, q3, ht, htb, hr, e', comD]

/-! ### means -/
def awayF (rooms : Int) (p : Nat × Int) : Int := dMax 0 ((p.1 : Int) - rooms) * p.2
def freeF (rooms : Int) (p : Nat × Int) : Int := dMax 0 (rooms - (p.1 : Int)) * p.2
def earnF (rooms pence amends : Int) (p : Nat × Int) : Int := p.2 * (dMin (p.1 : Int) rooms * pence - dMax 0 ((p.1 : Int) - rooms) * amends)
def sumF (f : Nat × Int → Int) (t b : Int) (n : Nat) : Int := ((nums 0 (tops t b n)).map f).sum
theorem pow_ok {b : Int} {n : Nat} (h1 : 1 ≤ b) (hb : b ≤ 10) (hn : n ≤ 30) : 1 ≤ b ^ n ∧ b ^ n ≤ 10 ^ 30 := by
  constructor
  · have := Int.pow_pos (n := b) (m := n) (by omega)
    omega
  · have e : b = ((b.toNat : Nat) : Int) := by omega
    rw [e, ← Int.natCast_pow]
    have h2 : b.toNat ^ n ≤ 10 ^ n := Nat.pow_le_pow_left (by omega) n
    have h3 : 10 ^ n ≤ 10 ^ 30 := Nat.pow_le_pow_right (by omega) hn
    have h4 : b.toNat ^ n ≤ 10 ^ 30 := Nat.le_trans h2 h3
    exact_mod_cast h4
theorem dMax_bd {x y : Int} {n : Nat} (hx : x.natAbs ≤ n) (hy : y.natAbs ≤ n) : (dMax x y).natAbs ≤ n := by
  unfold dMax
  split <;> omega
theorem dMin_bd {x y : Int} {n : Nat} (hx : x.natAbs ≤ n) (hy : y.natAbs ≤ n) : (dMin x y).natAbs ≤ n := by
  unfold dMin
  split <;> omega
theorem nums_bd {t b : Int} {n : Nat} {p : Nat × Int} (hn : n ≤ 30) (h : p ∈ nums 0 (tops t b n)) : p.1 ≤ 30 := by
  obtain ⟨i, h1, h2⟩ := nums_mem h
  have := (List.getElem?_eq_some_iff.mp h2).1
  rw [tops_len] at this
  omega
theorem c_away (k : Nat) (wr : Wr) (m : M) (n : Nat) (rooms t b : Int) (hn : n ≤ 30) (hr : 0 ≤ rooms) (hr2 : rooms ≤ 30) (ht : 0 ≤ t) (htb : t ≤ b) (h1 : 1 ≤ b) (hb : b ≤ 10) :
    (Wk (k + 2)).call 2 wr [.int n, .int rooms, ratA t b] m = .ok (rat (sumF (awayF rooms) t b n) (b ^ n)) m := by
  have hc := c_comers k wr m n t b hn ht htb h1 (by omega)
  have hp := pow_ok h1 hb hn
  have hq := c_ratio k wr m (sumF (awayF rooms) t b n) (b ^ n) hp.1 (by omega)
  have hco : runCo .sum (cmB (Wk (k + 1)) (.bin .mul (.bi .max2 [.cst (.int 0), .bin .sub (.nm 5) (.nm 1)]) (.nm 6)) (.tup [.nm 5, .nm 6]) [] wr [some (false, .int n), some (false, .int rooms), some (false, ratA t b), some (false, .tuple ((tops t b n).map .int)), some (false, .int (b ^ n)), none, none])
      ((nums 0 (tops t b n)).map (prD .int)) m = .ok (.int (sumF (awayF rooms) t b n)) m := by
    refine co_sum (awayF rooms) (fun p hp => ?_) (by rw [nums_len, tops_len]; unfold sizeLine; omega)
    have hi := nums_bd hn hp
    have hm : mulOk (dMax 0 ((p.1 : Int) - rooms)) p.2 = true := mulOk_l (Nat.lt_of_le_of_lt (dMax_bd (n := 100) (by omega) (by omega)) (by decide))
    rw [cmB_eq _ _ _ _ _ _ _ _ _ (by simp [prD]; rfl)]
    simp -implicitDefEqProofs [isB, hm, awayF]
  have hr' : ¬ rooms < 0 := by omega
  rw [call_eq]
  simp -implicitDefEqProofs [fns, b_turned_away, ga0, isB, hc, comD, hr', e_co, enumOf_map, hco, hq]
theorem c_free (k : Nat) (wr : Wr) (m : M) (n : Nat) (rooms t b : Int) (hn : n ≤ 30) (hr : 0 ≤ rooms) (hr2 : rooms ≤ 30) (ht : 0 ≤ t) (htb : t ≤ b) (h1 : 1 ≤ b) (hb : b ≤ 10) :
    (Wk (k + 2)).call 3 wr [.int n, .int rooms, ratA t b] m = .ok (rat (sumF (freeF rooms) t b n) (b ^ n)) m := by
  have hc := c_comers k wr m n t b hn ht htb h1 (by omega)
  have hp := pow_ok h1 hb hn
  have hq := c_ratio k wr m (sumF (freeF rooms) t b n) (b ^ n) hp.1 (by omega)
  have hco : runCo .sum (cmB (Wk (k + 1)) (.bin .mul (.bi .max2 [.cst (.int 0), .bin .sub (.nm 1) (.nm 5)]) (.nm 6)) (.tup [.nm 5, .nm 6]) [] wr [some (false, .int n), some (false, .int rooms), some (false, ratA t b), some (false, .tuple ((tops t b n).map .int)), some (false, .int (b ^ n)), none, none])
      ((nums 0 (tops t b n)).map (prD .int)) m = .ok (.int (sumF (freeF rooms) t b n)) m := by
    refine co_sum (freeF rooms) (fun p hp => ?_) (by rw [nums_len, tops_len]; unfold sizeLine; omega)
    have hi := nums_bd hn hp
    have hm : mulOk (dMax 0 (rooms - (p.1 : Int))) p.2 = true := mulOk_l (Nat.lt_of_le_of_lt (dMax_bd (n := 100) (by omega) (by omega)) (by decide))
    rw [cmB_eq _ _ _ _ _ _ _ _ _ (by simp [prD]; rfl)]
    simp -implicitDefEqProofs [isB, hm, freeF]
  have hr' : ¬ rooms < 0 := by omega
  rw [call_eq]
  simp -implicitDefEqProofs [fns, b_rooms_empty, ga0, isB, hc, comD, hr', e_co, enumOf_map, hco, hq]
theorem fac_bd {i rooms pence amends : Int} (hi : 0 ≤ i) (hi2 : i ≤ 30) (hr : 0 ≤ rooms) (hr2 : rooms ≤ 30) (hp : 0 ≤ pence) (hp2 : pence ≤ 1000) (ha : 0 ≤ amends) (ha2 : amends ≤ 1000) :
    (dMin i rooms * pence - dMax 0 (i - rooms) * amends).natAbs ≤ 200000 := by
  have h1 := dMin_bd (x := i) (y := rooms) (n := 100) (by omega) (by omega)
  have h2 := dMax_bd (x := 0) (y := i - rooms) (n := 100) (by omega) (by omega)
  have h3 : (dMin i rooms * pence).natAbs ≤ 100 * 1000 := by rw [Int.natAbs_mul]; exact Nat.mul_le_mul h1 (by omega)
  have h4 : (dMax 0 (i - rooms) * amends).natAbs ≤ 100 * 1000 := by rw [Int.natAbs_mul]; exact Nat.mul_le_mul h2 (by omega)
  omega
theorem c_earn (k : Nat) (wr : Wr) (m : M) (n : Nat) (rooms t b pence amends : Int) (hn : n ≤ 30) (hr : 0 ≤ rooms) (hr2 : rooms ≤ 30) (ht : 0 ≤ t) (htb : t ≤ b) (h1 : 1 ≤ b) (hb : b ≤ 10) (hp0 : 0 ≤ pence) (hp2 : pence ≤ 1000) (ha : 0 ≤ amends) (ha2 : amends ≤ 1000) :
    (Wk (k + 2)).call 4 wr [.int n, .int rooms, ratA t b, .int pence, .int amends] m = .ok (rat (sumF (earnF rooms pence amends) t b n) (b ^ n)) m := by
  have hc := c_comers k wr m n t b hn ht htb h1 (by omega)
  have hp := pow_ok h1 hb hn
  have hq := c_ratio k wr m (sumF (earnF rooms pence amends) t b n) (b ^ n) hp.1 (by omega)
  obtain ⟨g', m', e, rfl, s8, s9, acc, h2, h3, rfl⟩ := forB_ind (W := Wk (k + 1)) (tg := .tup [.nm 8, .nm 9]) (body := [.augn 5 .add (.bin .mul (.nm 9) (.bin .sub (.bin .mul (.bi .min2 [.nm 8, .nm 1]) (.nm 3)) (.bin .mul (.bi .max2 [.cst (.int 0), .bin .sub (.nm 8) (.nm 1)]) (.nm 4))))]) (wr := wr) (prD .int)
    (fun as g m' => m' = m ∧ ∃ s8 s9 acc, acc + (as.map (earnF rooms pence amends)).sum = sumF (earnF rooms pence amends) t b n ∧ (∀ p ∈ as, p.1 ≤ 30) ∧ g = [some (false, .int n), some (false, .int rooms), some (false, ratA t b), some (false, .int pence), some (false, .int amends), some (false, .int acc), some (false, .tuple ((tops t b n).map .int)), some (false, .int (b ^ n)), s8, s9])
    (by
      rintro ⟨i, x⟩ as g m' ⟨rfl, s8, s9, acc, h2, h3, rfl⟩
      have hi : i ≤ 30 := h3 _ List.mem_cons_self
      have m1 : mulOk (dMin (i : Int) rooms) pence = true := mulOk_l (Nat.lt_of_le_of_lt (dMin_bd (n := 100) (by omega) (by omega)) (by decide))
      have m2 : mulOk (dMax 0 ((i : Int) - rooms)) amends = true := mulOk_l (Nat.lt_of_le_of_lt (dMax_bd (n := 100) (by omega) (by omega)) (by decide))
      have m3 : mulOk x (dMin (i : Int) rooms * pence - dMax 0 ((i : Int) - rooms) * amends) = true := mulOk_r (Nat.lt_of_le_of_lt (fac_bd (by omega) (by omega) hr hr2 hp0 hp2 ha ha2) (by decide))
      refine ⟨_, _, m', by simp [prD]; rfl, by simp -implicitDefEqProofs [isB, m1, m2, m3]; rfl, rfl, some (false, .int (i : Int)), some (false, .int x), acc + earnF rooms pence amends (i, x), ?_, fun p hp => h3 p (List.mem_cons_of_mem _ hp), by simp [earnF]⟩
      rw [← h2, List.map_cons, List.sum_cons, Int.add_assoc])
    (nums 0 (tops t b n)) [some (false, .int n), some (false, .int rooms), some (false, ratA t b), some (false, .int pence), some (false, .int amends), some (false, .int 0), some (false, .tuple ((tops t b n).map .int)), some (false, .int (b ^ n)), none, none] m ⟨rfl, none, none, 0, by rw [Int.zero_add]; rfl, fun p hp => nums_bd hn hp, rfl⟩
  have h2 : acc + 0 = sumF (earnF rooms pence amends) t b n := h2
  rw [Int.add_zero] at h2
  subst h2
  have hr' : ¬ rooms < 0 := by omega
  have hm : ¬ dMin pence amends < 0 := by unfold dMin; split <;> omega
  rw [call_eq]
  simp -implicitDefEqProofs [fns, b_earned, ga0, isB, hc, comD, hr', hm, enumOf_map, e, hq]
theorem c_full (k : Nat) (wr : Wr) (m : M) (n : Nat) (rooms t b : Int) (hn : n ≤ 30) (hr : 0 ≤ rooms) (ht : 0 ≤ t) (htb : t ≤ b) (h1 : 1 ≤ b) (hb : b ≤ 10) :
    (Wk (k + 2)).call 6 wr [.int n, .int rooms, ratA t b] m = .ok (rat (cutI (tops t b n) (some rooms) none).sum (b ^ n)) m := by
  have hc := c_comers k wr m n t b hn ht htb h1 (by omega)
  have hp := pow_ok h1 hb hn
  have hq := c_ratio k wr m (cutI (tops t b n) (some rooms) none).sum (b ^ n) hp.1 (by omega)
  have hr' : ¬ rooms < 0 := by omega
  rw [call_eq]
  simp -implicitDefEqProofs [fns, b_chance_full, ga0, isB, hc, comD, hr', hq]
theorem c_seen (k : Nat) (wr : Wr) (m : M) (c n : Int) (h0 : 0 ≤ c) (h1 : c ≤ n) (h2 : n ≤ 1000) : (Wk (k + 2)).call 7 wr [.int c, .int n] m = .ok (rat (c + 1) (n + 2)) m := by
  have hq := c_ratio k wr m (c + 1) (n + 2) (by omega) (by omega)
  rw [call_eq]
  simp -implicitDefEqProofs [fns, b_seen_chance, ga0, isB, h0, h1, hq]

/-! ### the best number -/
section
variable (e1 e2 : Nat → Int)
abbrev bet (i j : Nat) : Prop := e1 i * e2 j < e1 j * e2 i
def bst : Nat → List Nat → Nat
  | c, [] => c
  | c, k :: ks => if bet e1 e2 c k then bst k ks else bst c ks
variable {e1 e2}
theorem bet_trans (hp : ∀ i, 0 < e2 i) {i c k : Nat} (h1 : bet e1 e2 i c) (h2 : bet e1 e2 c k) : bet e1 e2 i k := by
  unfold bet at *
  have a := Int.mul_lt_mul_of_pos_right h1 (hp k)
  have b := Int.mul_lt_mul_of_pos_right h2 (hp i)
  refine Int.lt_of_mul_lt_mul_right (a := e2 c) ?_ (Int.le_of_lt (hp c))
  rw [show e1 i * e2 k * e2 c = e1 i * e2 c * e2 k by rw [Int.mul_assoc, Int.mul_comm (e2 k), ← Int.mul_assoc], show e1 k * e2 i * e2 c = e1 k * e2 c * e2 i by rw [Int.mul_assoc, Int.mul_comm (e2 i), ← Int.mul_assoc]]
  rw [show e1 c * e2 i * e2 k = e1 c * e2 k * e2 i by rw [Int.mul_assoc, Int.mul_comm (e2 i), ← Int.mul_assoc]] at a
  omega
theorem bet_nt (hp : ∀ i, 0 < e2 i) {j c k : Nat} (h1 : ¬ bet e1 e2 c j) (h2 : bet e1 e2 c k) : bet e1 e2 j k := by
  unfold bet at *
  have a := Int.mul_le_mul_of_nonneg_right (Int.not_lt.mp h1) (Int.le_of_lt (hp k))
  have b := Int.mul_lt_mul_of_pos_right h2 (hp j)
  refine Int.lt_of_mul_lt_mul_right (a := e2 c) ?_ (Int.le_of_lt (hp c))
  rw [show e1 j * e2 k * e2 c = e1 j * e2 c * e2 k by rw [Int.mul_assoc, Int.mul_comm (e2 k), ← Int.mul_assoc], show e1 k * e2 j * e2 c = e1 k * e2 c * e2 j by rw [Int.mul_assoc, Int.mul_comm (e2 j), ← Int.mul_assoc]]
  rw [show e1 c * e2 j * e2 k = e1 c * e2 k * e2 j by rw [Int.mul_assoc, Int.mul_comm (e2 j), ← Int.mul_assoc]] at a
  omega
theorem bst_spec (hp : ∀ i, 0 < e2 i) : ∀ (ks : List Nat) (c : Nat) (pre mid : List Nat), (∀ i ∈ pre, bet e1 e2 i c) → (∀ j ∈ mid, ¬ bet e1 e2 c j) →
    ∃ a x z, pre ++ c :: (mid ++ ks) = a ++ x :: z ∧ bst e1 e2 c ks = x ∧ (∀ i ∈ a, bet e1 e2 i x) ∧ ∀ j ∈ z, ¬ bet e1 e2 x j
  | [], c, pre, mid, h1, h2 => ⟨pre, c, mid, by simp, rfl, h1, h2⟩
  | k :: ks, c, pre, mid, h1, h2 => by
    rw [bst]
    by_cases h : bet e1 e2 c k
    · rw [if_pos h]
      obtain ⟨a, x, z, q1, q2⟩ := bst_spec hp ks k (pre ++ c :: mid) [] (fun i hi => by
        rcases List.mem_append.mp hi with hi | hi
        · exact bet_trans hp (h1 i hi) h
        · rcases List.mem_cons.mp hi with rfl | hi
          · exact h
          · exact bet_nt hp (h2 i hi) h) (fun j hj => by cases hj)
      exact ⟨a, x, z, by rw [← q1]; simp, q2⟩
    · rw [if_neg h]
      obtain ⟨a, x, z, q1, q2⟩ := bst_spec hp ks c pre (mid ++ [k]) h1 (fun j hj => by
        rcases List.mem_append.mp hj with hj | hj
        · exact h2 j hj
        · rw [List.mem_singleton.mp hj]; exact h)
      exact ⟨a, x, z, by rw [← q1]; simp, q2⟩
theorem bst_head (hp : ∀ i, 0 < e2 i) (c : Nat) (ks : List Nat) : ((c :: ks).filter fun i => ((c :: ks).filter fun j => decide (bet e1 e2 i j)).isEmpty)[0]? = some (bst e1 e2 c ks) := by
  obtain ⟨a, x, z, q1, q2, q3, q4⟩ := bst_spec hp ks c [] [] (fun i hi => by cases hi) fun j hj => by cases hj
  have q1 : c :: ks = a ++ x :: z := q1
  rw [q1, q2, List.filter_append]
  have e : a.filter (fun i => ((a ++ x :: z).filter fun j => decide (bet e1 e2 i j)).isEmpty) = [] := by
    rw [List.filter_eq_nil_iff]
    intro i hi h
    rw [List.isEmpty_iff, List.filter_eq_nil_iff] at h
    exact h x (by simp) (decide_eq_true (q3 i hi))
  have ex : ((a ++ x :: z).filter fun j => decide (bet e1 e2 x j)).isEmpty = true := by
    rw [List.isEmpty_iff, List.filter_eq_nil_iff]
    intro j hj h
    have h := of_decide_eq_true h
    rcases List.mem_append.mp hj with hj | hj
    · have h5 := q3 j hj
      unfold bet at h h5
      omega
    · rcases List.mem_cons.mp hj with rfl | hj
      · unfold bet at h
        omega
      · exact q4 j hj h
  rw [e, List.nil_append, List.filter_cons, if_pos ex]
  rfl
end
def eS (rooms pence amends t b : Int) (n : Nat) : Int := sumF (earnF rooms pence amends) t b n
def eA (rooms pence amends t b : Int) (n : Nat) : Int := eS rooms pence amends t b n / gg (eS rooms pence amends t b n) (b ^ n)
def eB (rooms pence amends t b : Int) (n : Nat) : Int := b ^ n / gg (eS rooms pence amends t b n) (b ^ n)
theorem sum_bd {α : Type} (f : α → Int) (B : Nat) : ∀ as : List α, (∀ a ∈ as, (f a).natAbs ≤ B) → ((as.map f).sum).natAbs ≤ as.length * B
  | [], h => by simp
  | a :: as, h => by
    have h1 := h a List.mem_cons_self
    have h2 := sum_bd f B as fun x hx => h x (List.mem_cons_of_mem _ hx)
    rw [List.map_cons, List.sum_cons, List.length_cons, Nat.add_mul]
    omega
section
variable {rooms pence amends t b : Int} (hr : 0 ≤ rooms) (hr2 : rooms ≤ 30) (ht : 0 ≤ t) (htb : t ≤ b) (h1 : 1 ≤ b) (hb : b ≤ 10) (hp0 : 0 ≤ pence) (hp2 : pence ≤ 1000) (ha : 0 ≤ amends) (ha2 : amends ≤ 1000)
include hr hr2 ht htb h1 hb hp0 hp2 ha ha2
theorem eS_bd {n : Nat} (hn : n ≤ 30) : (eS rooms pence amends t b n).natAbs < 2 ^ 200 := by
  have h := sum_bd (earnF rooms pence amends) (10 ^ 30 * 200000) (nums 0 (tops t b n)) fun p hp => by
    obtain ⟨i, e1, e2⟩ := nums_mem hp
    have hi := nums_bd hn hp
    have hx := tops_le ht htb n (List.mem_of_getElem? e2)
    have hw := pow_ok h1 hb hn
    unfold earnF
    rw [Int.natAbs_mul]
    exact Nat.mul_le_mul (by omega) (fac_bd (by omega) (by omega) hr hr2 hp0 hp2 ha ha2)
  rw [nums_len, tops_len] at h
  have h3 : (n + 1) * (10 ^ 30 * 200000) ≤ 31 * (10 ^ 30 * 200000) := Nat.mul_le_mul_right _ (by omega)
  exact Nat.lt_of_le_of_lt (Nat.le_trans h h3) (by decide)
theorem eA_bd {n : Nat} (hn : n ≤ 30) : (eA rooms pence amends t b n).natAbs < 2 ^ 200 := by
  have h := eS_bd hr hr2 ht htb h1 hb hp0 hp2 ha ha2 hn
  unfold eA
  exact Nat.lt_of_le_of_lt (Int.natAbs_ediv_le_natAbs _ _) h
theorem eB_bd {n : Nat} (hn : n ≤ 30) : (eB rooms pence amends t b n).natAbs < 2 ^ 200 := by
  have hw := pow_ok h1 hb hn
  unfold eB
  refine Nat.lt_of_le_of_lt (Int.natAbs_ediv_le_natAbs _ _) ?_
  omega
end
theorem eB_pos {rooms pence amends t b : Int} (h1 : 1 ≤ b) (n : Nat) : 0 < eB rooms pence amends t b n := by
  unfold eB
  have hw : 1 ≤ b ^ n := by
    have := Int.pow_pos (n := b) (m := n) (by omega)
    omega
  have h2 := gg_pos (a := eS rooms pence amends t b n) hw
  have h3 := gg_le (a := eS rooms pence amends t b n) hw
  exact Int.ediv_pos_of_pos_of_dvd (by omega) (by omega) (Int.gcd_dvd_left ..)
def earnD (rooms pence amends t b : Int) (n : Nat) : D := .tuple [.int (eA rooms pence amends t b n), .int (eB rooms pence amends t b n)]
theorem c_earnD (k : Nat) (wr : Wr) (m : M) (n : Nat) (rooms t b pence amends : Int) (hn : n ≤ 30) (hr : 0 ≤ rooms) (hr2 : rooms ≤ 30) (ht : 0 ≤ t) (htb : t ≤ b) (h1 : 1 ≤ b) (hb : b ≤ 10) (hp0 : 0 ≤ pence) (hp2 : pence ≤ 1000) (ha : 0 ≤ amends) (ha2 : amends ≤ 1000) :
    (Wk (k + 2)).call 4 wr [.int n, .int rooms, ratA t b, .int pence, .int amends] m = .ok (earnD rooms pence amends t b n) m := c_earn k wr m n rooms t b pence amends hn hr hr2 ht htb h1 hb hp0 hp2 ha ha2
def bestN (r : Nat) (pence amends t b : Int) : Nat := bst (eA r pence amends t b) (eB r pence amends t b) r (List.range' (r + 1) (30 - r))
theorem c_best (k : Nat) (wr : Wr) (m : M) (r : Nat) (t b pence amends : Int) (hr2 : r ≤ 30) (ht : 0 ≤ t) (htb : t ≤ b) (h1 : 1 ≤ b) (hb : b ≤ 10) (hp0 : 0 ≤ pence) (hp2 : pence ≤ 1000) (ha : 0 ≤ amends) (ha2 : amends ≤ 1000) :
    (Wk (k + 3)).call 5 wr [.int r, ratA t b, .int pence, .int amends] m = .ok (.int (bestN r pence amends t b)) m := by
  have hr0 : (0 : Int) ≤ r := by omega
  have hr1 : (r : Int) ≤ 30 := by omega
  have he : ∀ n : Nat, n ≤ 30 → (Wk (k + 2)).call 4 wr [.int n, .int r, ratA t b, .int pence, .int amends] m = .ok (earnD r pence amends t b n) m := fun n hn => c_earnD k wr m n r t b pence amends hn hr0 hr1 ht htb h1 hb hp0 hp2 ha ha2
  obtain ⟨g', m', e, rfl, s4, s7, c, h2, h3, h4, rfl⟩ := forB_ind (W := Wk (k + 2)) (tg := .nm 4) (body := [.asg 7 (.call 4 [.nm 4, .nm 0, .nm 1, .nm 2, .nm 3]), .ifs (.cmp .lt (.bin .mul (.idx (.nm 6) (.cst (.int 0))) (.idx (.nm 7) (.cst (.int 1)))) (.bin .mul (.idx (.nm 7) (.cst (.int 0))) (.idx (.nm 6) (.cst (.int 1))))) [.par [5, 6] [.nm 4, .nm 7]] []]) (wr := wr) natD
    (fun as g m' => m' = m ∧ ∃ s4 s7 c, bst (eA r pence amends t b) (eB r pence amends t b) c as = bestN r pence amends t b ∧ c ≤ 30 ∧ (∀ k ∈ as, k ≤ 30) ∧ g = [some (false, .int r), some (false, ratA t b), some (false, .int pence), some (false, .int amends), s4, some (false, .int c), some (false, earnD r pence amends t b c), s7])
    (by
      rintro i as g m' ⟨rfl, s4, s7, c, h2, h3, h4, rfl⟩
      have hi : i ≤ 30 := h4 i List.mem_cons_self
      have h5 := he i hi
      have m1 : mulOk (eA r pence amends t b c) (eB r pence amends t b i) = true := mulOk_b (n := 200) (eA_bd hr0 hr1 ht htb h1 hb hp0 hp2 ha ha2 h3) (eB_bd hr0 hr1 ht htb h1 hb hp0 hp2 ha ha2 hi) (by decide)
      have m2 : mulOk (eA r pence amends t b i) (eB r pence amends t b c) = true := mulOk_b (n := 200) (eA_bd hr0 hr1 ht htb h1 hb hp0 hp2 ha ha2 hi) (eB_bd hr0 hr1 ht htb h1 hb hp0 hp2 ha ha2 h3) (by decide)
      rw [bst] at h2
      by_cases h : bet (eA r pence amends t b) (eB r pence amends t b) c i
      · rw [if_pos h] at h2
        unfold bet at h
        exact ⟨_, _, m', by simp [natD] <;> rfl, by simp -implicitDefEqProofs [isB, h5, earnD, m1, m2, h]; rfl, rfl, some (false, .int i), some (false, earnD r pence amends t b i), i, h2, hi, fun k hk => h4 k (List.mem_cons_of_mem _ hk), by simp [earnD]⟩
      · rw [if_neg h] at h2
        unfold bet at h
        exact ⟨_, _, m', by simp [natD] <;> rfl, by simp -implicitDefEqProofs [isB, h5, earnD, m1, m2, h]; rfl, rfl, some (false, .int i), some (false, earnD r pence amends t b i), c, h2, h3, fun k hk => h4 k (List.mem_cons_of_mem _ hk), by simp [earnD]⟩)
    (List.range' (r + 1) (30 - r)) [some (false, .int r), some (false, ratA t b), some (false, .int pence), some (false, .int amends), none, some (false, .int r), some (false, earnD r pence amends t b r), none] m
    ⟨rfl, none, none, r, rfl, hr2, fun k hk => by have := List.mem_range'.mp hk; omega, rfl⟩
  have h2 : c = bestN r pence amends t b := h2
  subst h2
  have hg : ¬ (30 : Int) < r := by omega
  have hrng := rngOf2N (a := r + 1) (b := 31) (i := (r : Int) + 1) (j := 31) (by omega) rfl (by omega) (by omega)
  rw [show 31 - (r + 1) = 30 - r by omega] at hrng
  have h5 := he r hr2
  rw [call_eq]
  simp -implicitDefEqProofs [fns, b_best_booked, ga0, isB, hg, h5, hrng, e]

/-! ### the law's own -/
def dm (x y z : Int) : M := [.lst [.int x, .int y, .int z]]
@[simp] theorem dm_idx (x y z i : Int) : semIdx (dm x y z) (cellD 0) (.int i) = atI [.int x, .int y, .int z] i := rfl
theorem c_dice (k : Nat) (wr : Wr) (c : Int) : ∃ x y z, (Wk (k + 1)).call 8 wr [.int c] [] = .ok (cellD 0) (dm x y z) := by
  rw [call_eq]
  by_cases h1 : (-10 : Int) < c
  · by_cases h2 : c < 10
    · exact ⟨_, _, _, by simp -implicitDefEqProofs [fns, b_law_dice, ga0, isB, h1, h2] <;> rfl⟩
    · exact ⟨_, _, _, by simp -implicitDefEqProofs [fns, b_law_dice, ga0, isB, h1, h2] <;> rfl⟩
  · exact ⟨_, _, _, by simp -implicitDefEqProofs [fns, b_law_dice, ga0, isB, h1] <;> rfl⟩
abbrev wrT : Wr := fun _ => true
@[simp] theorem cel_dm (x y z : Int) (f : Nat → List D → RS) (t : Tk f) : celF (cellD 0) (dm x y z) f t = f 0 [.int x, .int y, .int z] := rfl
theorem dm_set (x y z a b c : Int) : (dm x y z).set 0 (.lst [.int a, .int b, .int c]) = dm a b c := rfl
@[simp] theorem set3_0 (x y z a : Int) : setN [.int x, .int y, .int z] (.int 0) (.int a) = some [.int a, .int y, .int z] := rfl
@[simp] theorem set3_1 (x y z a : Int) : setN [.int x, .int y, .int z] (.int 1) (.int a) = some [.int x, .int a, .int z] := rfl
@[simp] theorem set3_2 (x y z a : Int) : setN [.int x, .int y, .int z] (.int 2) (.int a) = some [.int x, .int y, .int a] := rfl
theorem c_roll (k : Nat) (n x y z : Int) (h1 : 1 ≤ n) (h2 : n ≤ 1000000) : ∃ v x' y' z', 0 ≤ v ∧ v < n ∧ (Wk (k + 1)).call 9 wrT [cellD 0, .int n] (dm x y z) = .ok (.int v) (dm x' y' z') := by
  have hn : 0 < n := by omega
  have hl : n.natAbs.log2 < 9000 := log_ok (by omega) (by omega)
  have hb : ¬ 100000000 < n := by omega
  have l7 : Nat.log2 7 < 9000 := by decide
  have q1 : mulOk x 48271 = true := mulOk_r (by decide)
  have q2 : mulOk y 69621 = true := mulOk_r (by decide)
  have md := fun (a : Int) => And.intro (Int.emod_nonneg a (by omega : n ≠ 0)) (Int.emod_lt_of_pos a hn)
  rw [call_eq]
  by_cases c1 : z = 2
  · exact ⟨_, _, _, _, (md _).1, (md _).2, by simp -implicitDefEqProofs [fns, b_law_roll, ga0, isB, c1, hn, hl, dm_set] <;> exact ⟨rfl, rfl⟩⟩
  · by_cases c2 : z = 1
    · by_cases c3 : 0 < x
      · exact ⟨_, _, _, _, (md _).1, (md _).2, by simp -implicitDefEqProofs [fns, b_law_roll, ga0, isB, c1, c2, c3, hn, hl, dm_set] <;> exact ⟨rfl, rfl⟩⟩
      · exact ⟨_, _, _, _, (md _).1, (md _).2, by simp -implicitDefEqProofs [fns, b_law_roll, ga0, isB, c1, c2, c3, hn, hl, dm_set, hb, q1, q2, l7] <;> exact ⟨rfl, rfl⟩⟩
    · exact ⟨_, _, _, _, (md _).1, (md _).2, by simp -implicitDefEqProofs [fns, b_law_roll, ga0, isB, c1, c2, hn, hl, dm_set, hb, q1, q2, l7] <;> exact ⟨rfl, rfl⟩⟩
theorem c_rounds (k : Nat) (ns : List Int) : ∃ x y z, (Wk (k + 2)).call 10 wrT [scrD ns, .int 1] [] = .ok (.list [cellD 0]) (dm x y z) := by
  obtain ⟨c, hc⟩ : ∃ c, (cutI ns none (some 1) = [] ∧ c = 0) ∨ cutI ns none (some 1) = [c] := by
    cases ns with
    | nil => exact ⟨0, .inl ⟨rfl, rfl⟩⟩
    | cons a r => exact ⟨a, .inr (by simp [cutI, HT.sIx])⟩
  obtain ⟨x, y, z, hd⟩ := c_dice k wrT c
  have hs : semSlc (scrD ns) none (some 1) = some (.list ((cutI ns none (some 1)).map .int)) := by
    show some (PyData.list (semSlc.cutV' (ns.map .int) none (some 1))) = _
    rw [cut_map]
  have he : semCmp .eq (.list ((cutI ns none (some 1)).map .int)) (.list []) = some (cutI ns none (some 1)).isEmpty := by
    show eqS (.list _) (.list []) = _
    rw [eqS_nil (shaped_lints _)]
    simp
  have hco : runCo .lc (cmB (Wk (k + 1)) (.call 8 [.nm 3]) (.nm 3) [] wrT [some (false, scrD ns), some (false, .int 1), some (false, .list [.int c]), none]) [.int c] [] = .ok (.list [cellD 0]) (dm x y z) := by
    show (turns _ [.int c] [] []).bind _ = _
    rw [turns, cmB_eq _ _ _ _ _ _ _ _ _ (by simp <;> rfl)]
    have z0 : 0 < sizeLine := by decide +kernel
    simp -implicitDefEqProofs [isB, hd, turns, endCo, z0]
  refine ⟨x, y, z, ?_⟩
  rw [call_eq]
  rcases hc with ⟨e, rfl⟩ | e
  · rw [e] at hs he
    simp at hs he
    simp -implicitDefEqProofs [fns, b_law_rounds, ga0, isB, hs, he, e_co, hco]
  · rw [e] at hs he
    simp at hs he
    simp -implicitDefEqProofs [fns, b_law_rounds, ga0, isB, hs, he, e_co, hco]
/-! least terms -/
theorem foldl_max (ns : List Int) : ∀ n : Int, n ≤ ns.foldl dMax n := by
  induction ns with
  | nil => intro n; exact Int.le_refl _
  | cons a r ih =>
    intro n
    rw [List.foldl_cons]
    refine Int.le_trans ?_ (ih (dMax n a))
    unfold dMax
    split <;> omega
theorem c_least (k : Nat) (wr : Wr) (m : M) (a b : Int) (hb : 1 ≤ b) (hs : b < 10 ^ 40) : (Wk (k + 1)).call 12 wr [.int a, .int b] m = .ok (rat a b) m := by
  obtain ⟨part, hpart, hp0⟩ : ∃ part : Int, ev (Wk k) (.ite (.cmp .lt (.nm 1) (.cst (.int 200))) (.bi .max1 [.co .lc (.nm 5) (.nm 5) (.rng [.cst (.int 1), .bin .add (.nm 1) (.cst (.int 1))]) [.and (.cmp .eq (.bin .mod (.nm 0) (.nm 5)) (.cst (.int 0))) (.cmp .eq (.bin .mod (.nm 1) (.nm 5)) (.cst (.int 0)))]]) (.cst (.int 1))) wr
      [some (false, .int a), some (false, .int b), none, none, none, none] m = .ok (.int part) m ∧ 0 < part := by
    by_cases h : b < 200
    · have hr := rngOf2 (i := 1) (j := b + 1) (by omega)
      rw [show (b + 1 - 1).toNat = b.toNat by omega] at hr
      have hco : runCo .lc (cmB (Wk k) (.nm 5) (.nm 5) [.and (.cmp .eq (.bin .mod (.nm 0) (.nm 5)) (.cst (.int 0))) (.cmp .eq (.bin .mod (.nm 1) (.nm 5)) (.cst (.int 0)))] wr [some (false, .int a), some (false, .int b), none, none, none, none]) ((rngI 1 b.toNat).map .int) m =
          .ok (.list (((rngI 1 b.toNat).filter (fun j => decide (a % j = 0 ∧ b % j = 0))).map .int)) m := by
        rw [← filterMap_p (fun j => a % j = 0 ∧ b % j = 0) PyData.int]
        refine co_lc _ (fun j hj => ?_) (by rw [rngI_len]; unfold sizeLine; omega)
        have hj := rngI_mem.mp hj
        have hj0 : 0 < j := by omega
        rw [cmB_eq _ _ _ _ _ _ _ _ _ (by simp <;> rfl)]
        by_cases z1 : a % j = 0
        · by_cases z2 : b % j = 0
          · simp -implicitDefEqProofs [isB, hj0, z1, z2]
          · simp -implicitDefEqProofs [isB, hj0, z1, z2]
        · simp -implicitDefEqProofs [isB, hj0, z1]
      obtain ⟨n, hn⟩ : ∃ n, b.toNat = n + 1 := ⟨b.toNat - 1, by omega⟩
      obtain ⟨rest, hf⟩ : ∃ rest, (rngI 1 b.toNat).filter (fun j => decide (a % j = 0 ∧ b % j = 0)) = 1 :: rest := by
        rw [hn, rngI_succ, List.filter_cons, if_pos (by simp [Int.emod_one])]
        exact ⟨_, rfl⟩
      rw [hf] at hco
      have hm : semBi .max1 [.list (.int 1 :: rest.map .int)] = some (.int (rest.foldl dMax 1)) := by
        show (intsOf ((1 :: rest).map .int)).bind _ = _
        rw [intsOf_mapI]
        rfl
      refine ⟨rest.foldl dMax 1, ?_, by have := foldl_max rest 1; omega⟩
      simp -implicitDefEqProofs [isB, h, e_co, hr, hco, hm]
    · exact ⟨1, by simp -implicitDefEqProofs [isB, h], by decide⟩
  obtain ⟨g', m', e, h1, h2⟩ := whlB_ind (W := Wk k) (t := .cmp .ne (.nm 4) (.cst (.int 0))) (body := [.par [3, 4] [.nm 4, .bin .mod (.nm 3) (.nm 4)]]) (wr := wr)
    (fun g m' => m' = m ∧ ∃ one other : Nat, g = [some (false, .int a), some (false, .int b), some (false, .int part), some (false, .int one), some (false, .int other), none] ∧ Nat.gcd other one = Int.gcd b a)
    (fun g m' => m' = m ∧ g = [some (false, .int a), some (false, .int b), some (false, .int part), some (false, .int (gg a b)), some (false, .int 0), none]) (fun g _ => mu3 4 g)
    (by
      rintro g m' ⟨rfl, one, other, rfl, hg⟩
      by_cases ho : (other : Int) = 0
      · refine .inl ⟨m', by simp [isB, ho], rfl, ?_⟩
        have : other = 0 := by omega
        subst this
        rw [Nat.gcd_zero_left] at hg
        simp [gg, ← hg]
      · have hp : 0 < other := by omega
        refine .inr ⟨m', _, m', by simp -implicitDefEqProofs [isB]; omega, by simp -implicitDefEqProofs [isB, hp]; rfl, ⟨rfl, other, one % other, by simp, ?_⟩, ?_⟩
        · rw [← hg, Nat.gcd_rec other one]
        · have hlt := Nat.mod_lt one (show other > 0 by omega)
          show ((one : Int) % (other : Int)).natAbs < (other : Int).natAbs
          rw [← Int.natCast_emod]
          omega)
    fuel0 [some (false, .int a), some (false, .int b), some (false, .int part), some (false, .int (dMax a (-a))), some (false, .int b), none] m ⟨rfl, a.natAbs, b.natAbs, by simp [dMax]; constructor <;> (try split) <;> omega, rfl⟩ (by show b.natAbs < fuel0; unfold fuel0; omega)
  subst h1 h2
  have hp := gg_pos (a := a) hb
  have hl : (gg a b).natAbs.log2 < 9000 := log_ok (by omega) (by have := gg_le (a := a) hb; omega)
  rw [call_eq]
  show endF (execL (Wk k) b_law_least wr (ga0 6 [.int a, .int b]) m') = _
  unfold b_law_least
  rw [x_cons, x_asg, show ga0 6 [.int a, .int b] = [some (false, .int a), some (false, .int b), none, none, none, none] from rfl, hpart]
  simp -implicitDefEqProofs [isB, e, hp, hl, hp0, rat]
theorem stp_get {c t : Int} : ∀ (rows : List Int) (p : Int) (j : Nat) (x y : Int), (rows ++ [0])[j]? = some x → (p :: rows)[j]? = some y → (stp c t p rows)[j]? = some (x * c + y * t)
  | [], p, 0, x, y, h1, h2 => by simp at h1 h2; subst h1 h2; simp [stp]
  | [], p, j + 1, x, y, h1, h2 => by simp at h1
  | r :: rows, p, 0, x, y, h1, h2 => by simp at h1 h2; subst h1 h2; simp [stp]
  | r :: rows, p, j + 1, x, y, h1, h2 => by
    simp at h1 h2
    rw [stp, List.getElem?_cons_succ]
    exact stp_get rows r j x y (by simpa using h1) h2
theorem tops_turn (k : Nat) (wr : Wr) (m : M) (n t b : Int) (rows : List Int) (s4 s5 : Option (Bool × D)) (ht : 0 ≤ t) (htb : t ≤ b) (hb : b < 1000) (hl : rows.length < 1000) :
    execL (Wk k) [.asg 3 (.co .lc (.bin .add (.bin .mul (.idx (.bin .add (.nm 3) (.lst [.cst (.int 0)])) (.nm 5)) (.bin .sub (.nm 2) (.nm 1))) (.bin .mul (.idx (.bin .add (.lst [.cst (.int 0)]) (.nm 3)) (.nm 5)) (.nm 1))) (.nm 5) (.rng [.bin .add (.bi .len [.nm 3]) (.cst (.int 1))]) [])] wr
      [some (false, .int n), some (false, .int t), some (false, .int b), some (false, .list (rows.map .int)), s4, s5] m =
    .nx [some (false, .int n), some (false, .int t), some (false, .int b), some (false, .list ((stp (b - t) t 0 rows).map .int)), s4, s5] m := by
  have hr := rngOf1N (n := rows.length + 1) (j := (rows.length : Int) + 1) (by omega) (by omega)
  have z0 : (1000000 : Nat) ≤ sizeLine := by decide +kernel
  have z1 : rows.length + 1 ≤ sizeLine := by omega
  have z2 : 1 + rows.length ≤ sizeLine := by omega
  have hco : runCo .lc (cmB (Wk k) (.bin .add (.bin .mul (.idx (.bin .add (.nm 3) (.lst [.cst (.int 0)])) (.nm 5)) (.bin .sub (.nm 2) (.nm 1))) (.bin .mul (.idx (.bin .add (.lst [.cst (.int 0)]) (.nm 3)) (.nm 5)) (.nm 1))) (.nm 5) [] wr
      [some (false, .int n), some (false, .int t), some (false, .int b), some (false, .list (rows.map .int)), s4, s5]) ((List.range (rows.length + 1)).map natD) m = .ok (.list ((stp (b - t) t 0 rows).map .int)) m := by
    rw [← map_getD (stp (b - t) t 0 rows), stp_len]
    refine co_lcS _ (fun j hj => ?_) (by rw [List.length_range]; omega)
    have hj := List.mem_range.mp hj
    obtain ⟨x, hx⟩ : ∃ x, (rows ++ [0])[j]? = some x := ⟨_, List.getElem?_eq_getElem (by simpa using hj)⟩
    obtain ⟨y, hy⟩ : ∃ y, ((0 : Int) :: rows)[j]? = some y := ⟨_, List.getElem?_eq_getElem (by simpa using hj)⟩
    have e := stp_get (c := b - t) (t := t) rows 0 j x y hx hy
    have e1 : atI (rows.map PyData.int ++ [.int 0]) (j : Int) = some (.int x) := atI_nat (by rw [show rows.map PyData.int ++ [PyData.int 0] = (rows ++ [0]).map .int by simp, List.getElem?_map, hx]; rfl)
    have e2 : atI (PyData.int 0 :: rows.map PyData.int) (j : Int) = some (.int y) := atI_nat (by rw [show PyData.int 0 :: rows.map PyData.int = ((0 : Int) :: rows).map .int from rfl, List.getElem?_map, hy]; rfl)
    have m1 : mulOk x (b - t) = true := mulOk_r (by omega)
    have m2 : mulOk y t = true := mulOk_r (by omega)
    rw [cmB_eq _ _ _ _ _ _ _ _ _ (by simp [natD] <;> rfl)]
    simp -implicitDefEqProofs [isB, z1, z2, e1, e2, m1, m2, List.getD, e]
  simp -implicitDefEqProofs [isB, e_co, hr, hco]
theorem c_tops (k : Nat) (wr : Wr) (m : M) (n : Nat) (t b : Int) (hn : n ≤ 30) (ht : 0 ≤ t) (htb : t ≤ b) (hb : b < 1000) : (Wk (k + 1)).call 13 wr [.int n, .int t, .int b] m = .ok (.list ((tops t b n).map .int)) m := by
  obtain ⟨g', m', e, rfl, s4, j, h2, rfl⟩ := forB_ind (W := Wk k) (tg := .nm 4) (body := [.asg 3 (.co .lc (.bin .add (.bin .mul (.idx (.bin .add (.nm 3) (.lst [.cst (.int 0)])) (.nm 5)) (.bin .sub (.nm 2) (.nm 1))) (.bin .mul (.idx (.bin .add (.lst [.cst (.int 0)]) (.nm 3)) (.nm 5)) (.nm 1))) (.nm 5) (.rng [.bin .add (.bi .len [.nm 3]) (.cst (.int 1))]) [])]) (wr := wr) natD
    (fun as g m' => m' = m ∧ ∃ s4 j, as.length + j = n ∧ g = [some (false, .int n), some (false, .int t), some (false, .int b), some (false, .list ((tops t b j).map .int)), s4, none])
    (by
      rintro a as g m' ⟨rfl, s4, j, h2, rfl⟩
      have h2 : as.length + 1 + j = n := h2
      exact ⟨_, _, m', by simp [natD] <;> rfl, tops_turn k wr m' n t b (tops t b j) (some (false, .int a)) none ht htb hb (by rw [tops_len]; omega), rfl, _, j + 1, by omega, by rw [tops]⟩)
    (List.range n) [some (false, .int n), some (false, .int t), some (false, .int b), some (false, .list [.int 1]), none, none] m ⟨rfl, none, 0, by simp, by simp [tops]⟩
  have h2 : 0 + j = n := h2
  obtain rfl : j = n := by omega
  have hr := rngOf1N (n := j) (j := (j : Int)) rfl (by omega)
  rw [call_eq]
  simp -implicitDefEqProofs [fns, b_law_tops, ga0, isB, hr, e]
/-! ### the written ones -/
theorem p_ne {d : D} (h : SeqAt.shaped d = true) : semCmp .ne d d = some false := sc_neS h
theorem k_c3 (wr : Wr) (m : M) : (Wk 4).call 1 wr [.int 3, .tuple [.int 9, .int 10]] m = .ok (.tuple [.tuple [.int 1, .int 27, .int 243, .int 729], .int 1000]) m := by kernel_rfl
theorem k_a3 (wr : Wr) (m : M) : (Wk 4).call 2 wr [.int 3, .int 2, .tuple [.int 9, .int 10]] m = .ok (.tuple [.int 729, .int 1000]) m := by kernel_rfl
theorem k_f3 (wr : Wr) (m : M) : (Wk 4).call 3 wr [.int 3, .int 2, .tuple [.int 9, .int 10]] m = .ok (.tuple [.int 29, .int 1000]) m := by kernel_rfl
theorem k_e3 (wr : Wr) (m : M) : (Wk 4).call 4 wr [.int 3, .int 2, .tuple [.int 9, .int 10], .int 100, .int 150] m = .ok (.tuple [.int 351, .int 4]) m := by kernel_rfl
theorem k_ful (wr : Wr) (m : M) : (Wk 4).call 6 wr [.int 3, .int 2, .tuple [.int 9, .int 10]] m = .ok (.tuple [.int 243, .int 250]) m := by kernel_rfl
theorem k_seen (wr : Wr) (m : M) : (Wk 4).call 7 wr [.int 8, .int 10] m = .ok (.tuple [.int 3, .int 4]) m := by kernel_rfl
theorem k_rat (wr : Wr) (m : M) : (Wk 4).call 0 wr [.int (-4), .int 6] m = .ok (.tuple [.int (-2), .int 3]) m := by kernel_rfl
theorem k_c0 (wr : Wr) (m : M) : (Wk 4).call 1 wr [.int 0, .tuple [.int 9, .int 10]] m = .ok (.tuple [.tuple [.int 1], .int 1]) m := by kernel_rfl
theorem k_bads (wr : Wr) (m : M) : badsR (Wk 4) 1 [.call 0 [.cst (.int 1), .cst (.int 0)], .call 1 [.neg (.cst (.int 1)), .nm 0], .call 1 [.cst (.int 31), .nm 0], .call 1 [.cst (.int 1), .tup [.cst (.int 2), .cst (.int 1)]], .call 1 [.cst (.int 1), .tup [.neg (.cst (.int 1)), .cst (.int 1)]], .call 1 [.cst (.int 1), .tup [.cst (.int 0), .cst (.int 0)]], .call 2 [.cst (.int 1), .neg (.cst (.int 1)), .nm 0], .call 2 [.cst (.int 31), .cst (.int 1), .nm 0], .call 3 [.cst (.int 1), .neg (.cst (.int 1)), .nm 0], .call 4 [.cst (.int 1), .neg (.cst (.int 1)), .nm 0, .cst (.int 1), .cst (.int 1)], .call 4 [.cst (.int 1), .cst (.int 1), .nm 0, .neg (.cst (.int 1)), .cst (.int 1)], .call 4 [.cst (.int 1), .cst (.int 1), .nm 0, .cst (.int 1), .neg (.cst (.int 1))], .call 5 [.cst (.int 31), .nm 0, .cst (.int 1), .cst (.int 1)], .call 5 [.neg (.cst (.int 1)), .nm 0, .cst (.int 1), .cst (.int 1)], .call 6 [.cst (.int 1), .neg (.cst (.int 1)), .nm 0], .call 7 [.cst (.int 2), .cst (.int 1)], .call 7 [.neg (.cst (.int 1)), .cst (.int 1)]] wr
    [some (false, .tuple [.int 9, .int 10]), none, none] m = some m := by kernel_rfl
theorem b_1 : bestN 10 100 200 9 10 = 10 := by kernel_rfl
theorem b_2 : bestN 10 100 100 1 2 = 19 := by kernel_rfl
theorem c_plain (wr : Wr) (m : M) : (Wk 5).call 14 wr [] m = .ok (.bool true) m := by
  have h1 := c_best 1 wr m 10 9 10 100 200 (by decide) (by decide) (by decide) (by decide) (by decide) (by decide) (by decide) (by decide) (by decide)
  rw [b_1] at h1
  have h2 := c_best 1 wr m 10 1 2 100 100 (by decide) (by decide) (by decide) (by decide) (by decide) (by decide) (by decide) (by decide) (by decide)
  rw [b_2] at h2
  have h1 : (Wk 4).call 5 wr [.int 10, .tuple [.int 9, .int 10], .int 100, .int 200] m = .ok (.int 10) m := h1
  have h2 : (Wk 4).call 5 wr [.int 10, .tuple [.int 1, .int 2], .int 100, .int 100] m = .ok (.int 19) m := h2
  have s1 := sc_neS (d := .tuple [.tuple [.int 1, .int 27, .int 243, .int 729], .int 1000]) (by decide)
  have s2 := sc_neS (d := .tuple [.int 729, .int 1000]) (by decide)
  have s3 := sc_neS (d := .tuple [.int 29, .int 1000]) (by decide)
  have s4 := sc_eqS (d := .tuple [.int 351, .int 4]) (by decide)
  have s5 := sc_eqS (d := .tuple [.int 243, .int 250]) (by decide)
  have s6 := sc_eqS (d := .tuple [.int 3, .int 4]) (by decide)
  have s7 := sc_eqS (d := .tuple [.int (-2), .int 3]) (by decide)
  have s8 := sc_eqS (d := .tuple [.tuple [.int 1], .int 1]) (by decide)
  rw [call_eq]
  show endF (execL (Wk 4) b_law_plain wr (ga0 3 []) m) = _
  unfold b_law_plain
  rw [x_cons, show exec (Wk 4) (.asg 0 (.tup [.cst (.int 9), .cst (.int 10)])) wr (ga0 3 []) m = .nx [some (false, .tuple [.int 9, .int 10]), none, none] m from rfl, RS.tF_nx, x_cons, x_bads]
  show endF ((bdF (badsR (Wk 4) 1 _ wr [some (false, .tuple [.int 9, .int 10]), none, none] m) [some (false, .tuple [.int 9, .int 10]), none, none]).tF _ _) = _
  rw [k_bads]
  simp -implicitDefEqProofs [isB, k_c3, k_a3, k_f3, k_e3, k_ful, k_seen, k_rat, k_c0, h1, h2, s1, s2, s3, s4, s5, s6, s7, s8]
end Ev.T_k05
end
section
set_option Elab.async false
set_option linter.all false
set_option autoImplicit false
set_option maxRecDepth 100000
set_option maxHeartbeats 1000000
/-! k05: the law's own def. -/
namespace Ev.T_k05
open PySem L2

theorem l_sum0 (m : M) (sc : D) (n r : Nat) (t b p a : Int) (s3 : Option (Bool × D)) (hr2 : r ≤ 8) (hn : n ≤ 8) (ht : 0 ≤ t) (htb : t ≤ b) (h1 : 1 ≤ b) (hb : b ≤ 10) (hp0 : 0 ≤ p) (hp2 : p ≤ 1000) (ha : 0 ≤ a) (ha2 : a ≤ 1000) : runCo .lc (cmB (Wk 5) (.bin .mul (.bi .max2 [.cst (.int 0), .bin .sub (.nm 8) (.nm 11)]) (.nm 19)) (.tup [.nm 8, .nm 19]) [] wrT [some (false, sc), some (false, cellD 0), some (false, .int (b ^ n)), s3, none, none, none, none, none, none, some (false, .int (n : Int)), some (false, .int (r : Int)), some (false, .int b), some (false, .int t), some (false, .int p), some (false, .int a), some (false, (.list ((tops t b n).map .int))), none, none, none, none, none, none]) ((nums 0 (tops t b n)).map (prD .int)) m = .ok (.list (((nums 0 (tops t b n)).map (awayF r)).map .int)) m := by
  rw [List.map_map]
  refine co_lcS _ (fun x hx => ?_) (by rw [nums_len, tops_len]; unfold sizeLine; omega)
  have hi := nums_bd (by omega) hx
  have m1 : mulOk (dMax 0 ((x.1 : Int) - r)) x.2 = true := mulOk_l (Nat.lt_of_le_of_lt (dMax_bd (n := 100) (by omega) (by omega)) (by decide))
  have m2 : mulOk (dMax 0 ((r : Int) - x.1)) x.2 = true := mulOk_l (Nat.lt_of_le_of_lt (dMax_bd (n := 100) (by omega) (by omega)) (by decide))
  have m3 : mulOk (dMin (x.1 : Int) r) p = true := mulOk_l (Nat.lt_of_le_of_lt (dMin_bd (n := 100) (by omega) (by omega)) (by decide))
  have m4 : mulOk (dMax 0 ((x.1 : Int) - r)) a = true := mulOk_l (Nat.lt_of_le_of_lt (dMax_bd (n := 100) (by omega) (by omega)) (by decide))
  have m5 : mulOk x.2 (dMin (x.1 : Int) r * p - dMax 0 ((x.1 : Int) - r) * a) = true := mulOk_r (Nat.lt_of_le_of_lt (fac_bd (by omega) (by omega) (by omega) (by omega) hp0 hp2 ha ha2) (by decide))
  rw [cmB_eq _ _ _ _ _ _ _ _ _ (by simp [prD] <;> rfl)]
  simp -implicitDefEqProofs [isB, m1, m2, m3, m4, m5, awayF, freeF, earnF]
theorem l_sum1 (m : M) (sc : D) (n r : Nat) (t b p a : Int) (s3 : Option (Bool × D)) (hr2 : r ≤ 8) (hn : n ≤ 8) (ht : 0 ≤ t) (htb : t ≤ b) (h1 : 1 ≤ b) (hb : b ≤ 10) (hp0 : 0 ≤ p) (hp2 : p ≤ 1000) (ha : 0 ≤ a) (ha2 : a ≤ 1000) : runCo .lc (cmB (Wk 5) (.bin .mul (.bi .max2 [.cst (.int 0), .bin .sub (.nm 11) (.nm 8)]) (.nm 19)) (.tup [.nm 8, .nm 19]) [] wrT [some (false, sc), some (false, cellD 0), some (false, .int (b ^ n)), s3, some (false, .int (sumF (awayF r) t b n)), none, none, none, none, none, some (false, .int (n : Int)), some (false, .int (r : Int)), some (false, .int b), some (false, .int t), some (false, .int p), some (false, .int a), some (false, (.list ((tops t b n).map .int))), none, none, none, none, none, none]) ((nums 0 (tops t b n)).map (prD .int)) m = .ok (.list (((nums 0 (tops t b n)).map (freeF r)).map .int)) m := by
  rw [List.map_map]
  refine co_lcS _ (fun x hx => ?_) (by rw [nums_len, tops_len]; unfold sizeLine; omega)
  have hi := nums_bd (by omega) hx
  have m1 : mulOk (dMax 0 ((x.1 : Int) - r)) x.2 = true := mulOk_l (Nat.lt_of_le_of_lt (dMax_bd (n := 100) (by omega) (by omega)) (by decide))
  have m2 : mulOk (dMax 0 ((r : Int) - x.1)) x.2 = true := mulOk_l (Nat.lt_of_le_of_lt (dMax_bd (n := 100) (by omega) (by omega)) (by decide))
  have m3 : mulOk (dMin (x.1 : Int) r) p = true := mulOk_l (Nat.lt_of_le_of_lt (dMin_bd (n := 100) (by omega) (by omega)) (by decide))
  have m4 : mulOk (dMax 0 ((x.1 : Int) - r)) a = true := mulOk_l (Nat.lt_of_le_of_lt (dMax_bd (n := 100) (by omega) (by omega)) (by decide))
  have m5 : mulOk x.2 (dMin (x.1 : Int) r * p - dMax 0 ((x.1 : Int) - r) * a) = true := mulOk_r (Nat.lt_of_le_of_lt (fac_bd (by omega) (by omega) (by omega) (by omega) hp0 hp2 ha ha2) (by decide))
  rw [cmB_eq _ _ _ _ _ _ _ _ _ (by simp [prD] <;> rfl)]
  simp -implicitDefEqProofs [isB, m1, m2, m3, m4, m5, awayF, freeF, earnF]
theorem l_sum2 (m : M) (sc : D) (n r : Nat) (t b p a : Int) (s3 : Option (Bool × D)) (hr2 : r ≤ 8) (hn : n ≤ 8) (ht : 0 ≤ t) (htb : t ≤ b) (h1 : 1 ≤ b) (hb : b ≤ 10) (hp0 : 0 ≤ p) (hp2 : p ≤ 1000) (ha : 0 ≤ a) (ha2 : a ≤ 1000) : runCo .lc (cmB (Wk 5) (.bin .mul (.nm 19) (.bin .sub (.bin .mul (.bi .min2 [.nm 8, .nm 11]) (.nm 14)) (.bin .mul (.bi .max2 [.cst (.int 0), .bin .sub (.nm 8) (.nm 11)]) (.nm 15)))) (.tup [.nm 8, .nm 19]) [] wrT [some (false, sc), some (false, cellD 0), some (false, .int (b ^ n)), s3, some (false, .int (sumF (awayF r) t b n)), some (false, .int (sumF (freeF r) t b n)), none, none, none, none, some (false, .int (n : Int)), some (false, .int (r : Int)), some (false, .int b), some (false, .int t), some (false, .int p), some (false, .int a), some (false, (.list ((tops t b n).map .int))), none, none, none, none, none, none]) ((nums 0 (tops t b n)).map (prD .int)) m = .ok (.list (((nums 0 (tops t b n)).map (earnF r p a)).map .int)) m := by
  rw [List.map_map]
  refine co_lcS _ (fun x hx => ?_) (by rw [nums_len, tops_len]; unfold sizeLine; omega)
  have hi := nums_bd (by omega) hx
  have m1 : mulOk (dMax 0 ((x.1 : Int) - r)) x.2 = true := mulOk_l (Nat.lt_of_le_of_lt (dMax_bd (n := 100) (by omega) (by omega)) (by decide))
  have m2 : mulOk (dMax 0 ((r : Int) - x.1)) x.2 = true := mulOk_l (Nat.lt_of_le_of_lt (dMax_bd (n := 100) (by omega) (by omega)) (by decide))
  have m3 : mulOk (dMin (x.1 : Int) r) p = true := mulOk_l (Nat.lt_of_le_of_lt (dMin_bd (n := 100) (by omega) (by omega)) (by decide))
  have m4 : mulOk (dMax 0 ((x.1 : Int) - r)) a = true := mulOk_l (Nat.lt_of_le_of_lt (dMax_bd (n := 100) (by omega) (by omega)) (by decide))
  have m5 : mulOk x.2 (dMin (x.1 : Int) r * p - dMax 0 ((x.1 : Int) - r) * a) = true := mulOk_r (Nat.lt_of_le_of_lt (fac_bd (by omega) (by omega) (by omega) (by omega) hp0 hp2 ha ha2) (by decide))
  rw [cmB_eq _ _ _ _ _ _ _ _ _ (by simp [prD] <;> rfl)]
  simp -implicitDefEqProofs [isB, m1, m2, m3, m4, m5, awayF, freeF, earnF]
theorem l_seg2 (m : M) (sc : D) (n r : Nat) (t b p a : Int) (s3 : Option (Bool × D)) (rest : List St) (hr2 : r ≤ 8) (hn : n ≤ 8) (ht : 0 ≤ t) (htb : t ≤ b) (h1 : 1 ≤ b) (hb : b ≤ 10) (hp0 : 0 ≤ p) (hp2 : p ≤ 1000) (ha : 0 ≤ a) (ha2 : a ≤ 1000) : execL (Wk 5) (.ifs (.or (.cmp .ne (.call 1 [.nm 10, .tup [.nm 13, .nm 12]]) (.tup [.bi .tuple [.nm 16], .nm 2])) (.cmp .ne (.bi .sum1 [.nm 16]) (.nm 2))) [.ret (.cst (.bool false))] [] :: .asg 4 (.bi .sum1 [.co .lc (.bin .mul (.bi .max2 [.cst (.int 0), .bin .sub (.nm 8) (.nm 11)]) (.nm 19)) (.tup [.nm 8, .nm 19]) (.enum (.e (.nm 16))) []]) :: .asg 5 (.bi .sum1 [.co .lc (.bin .mul (.bi .max2 [.cst (.int 0), .bin .sub (.nm 11) (.nm 8)]) (.nm 19)) (.tup [.nm 8, .nm 19]) (.enum (.e (.nm 16))) []]) :: .asg 6 (.bi .sum1 [.co .lc (.bin .mul (.nm 19) (.bin .sub (.bin .mul (.bi .min2 [.nm 8, .nm 11]) (.nm 14)) (.bin .mul (.bi .max2 [.cst (.int 0), .bin .sub (.nm 8) (.nm 11)]) (.nm 15)))) (.tup [.nm 8, .nm 19]) (.enum (.e (.nm 16))) []]) :: .ifs (.or (.cmp .ne (.call 2 [.nm 10, .nm 11, .tup [.nm 13, .nm 12]]) (.call 12 [.nm 4, .nm 2])) (.or (.cmp .ne (.call 3 [.nm 10, .nm 11, .tup [.nm 13, .nm 12]]) (.call 12 [.nm 5, .nm 2])) (.cmp .ne (.call 4 [.nm 10, .nm 11, .tup [.nm 13, .nm 12], .nm 14, .nm 15]) (.call 12 [.nm 6, .nm 2])))) [.ret (.cst (.bool false))] [] :: .ifs (.cmp .ne (.call 6 [.nm 10, .nm 11, .tup [.nm 13, .nm 12]]) (.call 12 [.bi .sum1 [.slc (.nm 16) (some (.nm 11)) none], .nm 2])) [.ret (.cst (.bool false))] [] :: rest) wrT [some (false, sc), some (false, cellD 0), some (false, .int (b ^ n)), s3, none, none, none, none, none, none, some (false, .int (n : Int)), some (false, .int (r : Int)), some (false, .int b), some (false, .int t), some (false, .int p), some (false, .int a), some (false, (.list ((tops t b n).map .int))), none, none, none, none, none, none] m = execL (Wk 5) rest wrT [some (false, sc), some (false, cellD 0), some (false, .int (b ^ n)), s3, some (false, .int (sumF (awayF r) t b n)), some (false, .int (sumF (freeF r) t b n)), some (false, .int (sumF (earnF r p a) t b n)), none, none, none, some (false, .int (n : Int)), some (false, .int (r : Int)), some (false, .int b), some (false, .int t), some (false, .int p), some (false, .int a), some (false, (.list ((tops t b n).map .int))), none, none, none, none, none, none] m := by
  have hw := pow_ok (b := b) (n := n) h1 hb (by omega)
  have e0 := l_sum0 m sc n r t b p a s3 hr2 hn ht htb h1 hb hp0 hp2 ha ha2
  have e1 := l_sum1 m sc n r t b p a s3 hr2 hn ht htb h1 hb hp0 hp2 ha ha2
  have e2 := l_sum2 m sc n r t b p a s3 hr2 hn ht htb h1 hb hp0 hp2 ha ha2
  have c1 : (Wk 5).call 1 wrT [.int n, .tuple [.int t, .int b]] m = .ok (.tuple [.tuple ((tops t b n).map .int), .int (b ^ n)]) m := c_comers 4 wrT m n t b (by omega) ht htb h1 (by omega)
  have c2 : (Wk 5).call 2 wrT [.int n, .int r, .tuple [.int t, .int b]] m = .ok (rat (sumF (awayF r) t b n) (b ^ n)) m := c_away 3 wrT m n r t b (by omega) (by omega) (by omega) ht htb h1 hb
  have c3 : (Wk 5).call 3 wrT [.int n, .int r, .tuple [.int t, .int b]] m = .ok (rat (sumF (freeF r) t b n) (b ^ n)) m := c_free 3 wrT m n r t b (by omega) (by omega) (by omega) ht htb h1 hb
  have c4 : (Wk 5).call 4 wrT [.int n, .int r, .tuple [.int t, .int b], .int p, .int a] m = .ok (rat (sumF (earnF r p a) t b n) (b ^ n)) m := c_earn 3 wrT m n r t b p a (by omega) (by omega) (by omega) ht htb h1 hb hp0 hp2 ha ha2
  have c6 : (Wk 5).call 6 wrT [.int n, .int r, .tuple [.int t, .int b]] m = .ok (rat (cutI (tops t b n) (some (r : Int)) none).sum (b ^ n)) m := c_full 3 wrT m n r t b (by omega) (by omega) ht htb h1 hb
  have d1 : ∀ x : Int, (Wk 5).call 12 wrT [.int x, .int (b ^ n)] m = .ok (rat x (b ^ n)) m := fun x => c_least 4 wrT m x (b ^ n) hw.1 (by omega)
  have sr : ∀ x : Int, semCmp .ne (rat x (b ^ n)) (rat x (b ^ n)) = some false := fun x => sc_neS (shaped_int2 _ _)
  have st : semCmp .ne (.tuple [.tuple ((tops t b n).map .int), .int (b ^ n)]) (.tuple [.tuple ((tops t b n).map .int), .int (b ^ n)]) = some false := sc_neS (shaped_t (n := 1) (by simp [PyData.canLayAll0, PyData.canLay0, canLay_ints]) (by simp [PyData.depthAll, PyData.depth, depth_ints]) (by decide))
  have hsum := tops_sum t b n
  have f0 : ((nums 0 (tops t b n)).map (awayF r)).sum = sumF (awayF r) t b n := rfl
  have f1 : ((nums 0 (tops t b n)).map (freeF r)).sum = sumF (freeF r) t b n := rfl
  have f2 : ((nums 0 (tops t b n)).map (earnF r p a)).sum = sumF (earnF r p a) t b n := rfl
  simp -implicitDefEqProofs [-List.map_map, isB, c1, st, hsum, e_co, enumOf_map, e0, e1, e2, f0, f1, f2, c2, c3, c4, c6, d1, sr]
theorem l_loop (m : M) (sc : D) (n r : Nat) (t b p a : Int) (hr2 : r ≤ 8) (hn : n ≤ 8) (ht : 0 ≤ t) (htb : t ≤ b) (h1 : 1 ≤ b) (hb : b ≤ 10) (hp0 : 0 ≤ p) (hp2 : p ≤ 1000) (ha : 0 ≤ a) (ha2 : a ≤ 1000) : ∃ s3, forB (Wk 5) (.nm 3) [.asg 2 (.bin .mul (.nm 2) (.nm 12))] wrT ((List.range n).map natD) [some (false, sc), some (false, cellD 0), some (false, .int 1), none, none, none, none, none, none, none, some (false, .int (n : Int)), some (false, .int (r : Int)), some (false, .int b), some (false, .int t), some (false, .int p), some (false, .int a), some (false, (.list ((tops t b n).map .int))), none, none, none, none, none, none] m = .nx [some (false, sc), some (false, cellD 0), some (false, .int (b ^ n)), s3, none, none, none, none, none, none, some (false, .int (n : Int)), some (false, .int (r : Int)), some (false, .int b), some (false, .int t), some (false, .int p), some (false, .int a), some (false, (.list ((tops t b n).map .int))), none, none, none, none, none, none] m := by
  obtain ⟨g', m', e, rfl, s3, j, h2, rfl⟩ := forB_ind (W := Wk 5) (tg := .nm 3) (body := [.asg 2 (.bin .mul (.nm 2) (.nm 12))]) (wr := wrT) natD
    (fun as g m' => m' = m ∧ ∃ s3 j, as.length + j = n ∧ g = [some (false, sc), some (false, cellD 0), some (false, .int (b ^ j)), s3, none, none, none, none, none, none, some (false, .int (n : Int)), some (false, .int (r : Int)), some (false, .int b), some (false, .int t), some (false, .int p), some (false, .int a), some (false, (.list ((tops t b n).map .int))), none, none, none, none, none, none])
    (by
      rintro c as g m' ⟨rfl, s3, j, h2, rfl⟩
      have h2 : as.length + 1 + j = n := h2
      have hm : mulOk (b ^ j) b = true := mulOk_r (by omega)
      exact ⟨_, _, m', by simp [natD] <;> rfl, by simp -implicitDefEqProofs [isB, hm] <;> rfl, rfl, some (false, .int (c : Int)), j + 1, by omega, by simp [Int.pow_succ]⟩)
    (List.range n) [some (false, sc), some (false, cellD 0), some (false, .int 1), none, none, none, none, none, none, none, some (false, .int (n : Int)), some (false, .int (r : Int)), some (false, .int b), some (false, .int t), some (false, .int p), some (false, .int a), some (false, (.list ((tops t b n).map .int))), none, none, none, none, none, none] m ⟨rfl, none, 0, by simp, by simp⟩
  have h2 : 0 + j = n := h2
  obtain rfl : j = n := by omega
  exact ⟨s3, e⟩
theorem l_seg1 (x y z : Int) (sc : D) (rest : List St) : ∃ (n r : Nat) (t b p a x2 y2 z2 : Int) (s3 : Option (Bool × D)), r ≤ 8 ∧ n ≤ 8 ∧ 0 ≤ t ∧ t ≤ b ∧ 1 ≤ b ∧ b ≤ 10 ∧ 0 ≤ p ∧ p ≤ 1000 ∧ 0 ≤ a ∧ a ≤ 1000 ∧ execL (Wk 5) (.unp (.tup [.nm 10, .nm 11, .nm 12]) (.tup [.call 9 [.nm 1, .cst (.int 9)], .call 9 [.nm 1, .cst (.int 9)], .bin .add (.cst (.int 1)) (.call 9 [.nm 1, .cst (.int 10)])]) :: .unp (.tup [.nm 13, .nm 14, .nm 15]) (.tup [.call 9 [.nm 1, .bin .add (.nm 12) (.cst (.int 1))], .call 9 [.nm 1, .cst (.int 200)], .call 9 [.nm 1, .cst (.int 400)]]) :: .par [16, 2] [.call 13 [.nm 10, .nm 13, .nm 12], .nm 12] :: .asg 2 (.cst (.int 1)) :: .for (.nm 3) (.rng [.nm 10]) [.asg 2 (.bin .mul (.nm 2) (.nm 12))] :: rest) wrT [some (false, sc), some (false, cellD 0), none, none, none, none, none, none, none, none, none, none, none, none, none, none, none, none, none, none, none, none, none] (dm x y z) = execL (Wk 5) rest wrT [some (false, sc), some (false, cellD 0), some (false, .int (b ^ n)), s3, none, none, none, none, none, none, some (false, .int (n : Int)), some (false, .int (r : Int)), some (false, .int b), some (false, .int t), some (false, .int p), some (false, .int a), some (false, (.list ((tops t b n).map .int))), none, none, none, none, none, none] (dm x2 y2 z2) := by
  obtain ⟨v1, xa, ya, za, a1, b1, e1⟩ := c_roll 4 9 x y z (by decide) (by decide)
  obtain ⟨v2, xb, yb, zb, a2, b2, e2⟩ := c_roll 4 9 xa ya za (by decide) (by decide)
  obtain ⟨v3, xc, yc, zc, a3, b3, e3⟩ := c_roll 4 10 xb yb zb (by decide) (by decide)
  obtain ⟨v4, xd, yd, zd, a4, b4, e4⟩ := c_roll 4 (1 + v3 + 1) xc yc zc (by omega) (by omega)
  obtain ⟨v5, xe, ye, ze, a5, b5, e5⟩ := c_roll 4 200 xd yd zd (by decide) (by decide)
  obtain ⟨v6, xf, yf, zf, a6, b6, e6⟩ := c_roll 4 400 xe ye ze (by decide) (by decide)
  obtain ⟨n, rfl⟩ := Int.eq_ofNat_of_zero_le a1
  obtain ⟨r, rfl⟩ := Int.eq_ofNat_of_zero_le a2
  obtain ⟨b, rfl⟩ : ∃ b, v3 = b - 1 := ⟨v3 + 1, by omega⟩
  have hb : 1 + (b - 1) = b := by omega
  rw [hb] at e4 b4
  have q1 : n ≤ 8 := by omega
  have q2 : r ≤ 8 := by omega
  have q3 : v4 ≤ b := by omega
  have q4 : 1 ≤ b := by omega
  have q5 : b ≤ 10 := by omega
  have q6 : v5 ≤ 1000 := by omega
  have q7 : v6 ≤ 1000 := by omega
  have ht := c_tops 4 wrT (dm xf yf zf) n v4 b (by omega) a4 q3 (by omega)
  have hr := rngOf1N (n := n) (j := (n : Int)) rfl (by omega)
  obtain ⟨s3, hl⟩ := l_loop (dm xf yf zf) sc n r v4 b v5 v6 q2 q1 a4 q3 q4 q5 a5 q6 a6 q7
  refine ⟨n, r, v4, b, v5, v6, xf, yf, zf, s3, q2, q1, a4, q3, q4, q5, a5, q6, a6, q7, ?_⟩
  simp -implicitDefEqProofs [isB, e1, e2, e3, e4, e5, e6, hb, ht, hr, hl]
def rowD (r : Nat) (p a t b : Int) (k : Nat) : D := .tuple [.int k, .int (eA r p a t b k), .int (eB r p a t b k)]
theorem l_seg3 (m : M) (sc : D) (n r : Nat) (t b p a : Int) (s3 : Option (Bool × D)) (rest : List St) (hr2 : r ≤ 8) (hn : n ≤ 8) (ht : 0 ≤ t) (htb : t ≤ b) (h1 : 1 ≤ b) (hb : b ≤ 10) (hp0 : 0 ≤ p) (hp2 : p ≤ 1000) (ha : 0 ≤ a) (ha2 : a ≤ 1000) : ∃ s8 s17 s18, execL (Wk 5) (.asg 7 (.lst []) :: .for (.nm 8) (.rng [.nm 11, .cst (.int 31)]) [.unp (.tup [.nm 17, .nm 18]) (.call 4 [.nm 8, .nm 11, .tup [.nm 13, .nm 12], .nm 14, .nm 15]), .asg 7 (.bin .add (.nm 7) (.lst [.tup [.nm 8, .nm 17, .nm 18]]))] :: rest) wrT [some (false, sc), some (false, cellD 0), some (false, .int (b ^ n)), s3, some (false, .int (sumF (awayF r) t b n)), some (false, .int (sumF (freeF r) t b n)), some (false, .int (sumF (earnF r p a) t b n)), none, none, none, some (false, .int (n : Int)), some (false, .int (r : Int)), some (false, .int b), some (false, .int t), some (false, .int p), some (false, .int a), some (false, (.list ((tops t b n).map .int))), none, none, none, none, none, none] m = execL (Wk 5) rest wrT [some (false, sc), some (false, cellD 0), some (false, .int (b ^ n)), s3, some (false, .int (sumF (awayF r) t b n)), some (false, .int (sumF (freeF r) t b n)), some (false, .int (sumF (earnF r p a) t b n)), some (false, (.list ((List.range' r (31 - r)).map (rowD r p a t b)))), s8, none, some (false, .int (n : Int)), some (false, .int (r : Int)), some (false, .int b), some (false, .int t), some (false, .int p), some (false, .int a), some (false, (.list ((tops t b n).map .int))), s17, s18, none, none, none, none] m := by
  have z0 : (1000000 : Nat) ≤ sizeLine := by decide +kernel
  have he : ∀ k : Nat, k ≤ 30 → (Wk 5).call 4 wrT [.int k, .int r, .tuple [.int t, .int b], .int p, .int a] m = .ok (earnD r p a t b k) m := fun k hk => c_earnD 3 wrT m k r t b p a hk (by omega) (by omega) ht htb h1 hb hp0 hp2 ha ha2
  obtain ⟨g', m', e, rfl, s8, s17, s18, pre, h2, rfl⟩ := forB_ind (W := Wk 5) (tg := .nm 8) (body := [.unp (.tup [.nm 17, .nm 18]) (.call 4 [.nm 8, .nm 11, .tup [.nm 13, .nm 12], .nm 14, .nm 15]), .asg 7 (.bin .add (.nm 7) (.lst [.tup [.nm 8, .nm 17, .nm 18]]))]) (wr := wrT) natD
    (fun as g m' => m' = m ∧ ∃ s8 s17 s18 pre, pre ++ as = List.range' r (31 - r) ∧ g = [some (false, sc), some (false, cellD 0), some (false, .int (b ^ n)), s3, some (false, .int (sumF (awayF r) t b n)), some (false, .int (sumF (freeF r) t b n)), some (false, .int (sumF (earnF r p a) t b n)), some (false, (.list (pre.map (rowD r p a t b)))), s8, none, some (false, .int (n : Int)), some (false, .int (r : Int)), some (false, .int b), some (false, .int t), some (false, .int p), some (false, .int a), some (false, (.list ((tops t b n).map .int))), s17, s18, none, none, none, none])
    (by
      rintro c as g m' ⟨rfl, s8, s17, s18, pre, h2, rfl⟩
      have hc : c ∈ List.range' r (31 - r) := by rw [← h2]; simp
      have hc := List.mem_range'.mp hc
      have hl : (pre ++ c :: as).length = 31 - r := by rw [h2, List.length_range']
      have h5 := he c (by omega)
      have z1 : pre.length + 1 ≤ sizeLine := by rw [List.length_append] at hl; omega
      exact ⟨_, _, m', by simp [natD] <;> rfl, by simp -implicitDefEqProofs [isB, h5, earnD, z1] <;> rfl, rfl, some (false, .int (c : Int)), some (false, .int (eA r p a t b c)), some (false, .int (eB r p a t b c)), pre ++ [c], by rw [← h2]; simp, by simp [rowD]⟩)
    (List.range' r (31 - r)) [some (false, sc), some (false, cellD 0), some (false, .int (b ^ n)), s3, some (false, .int (sumF (awayF r) t b n)), some (false, .int (sumF (freeF r) t b n)), some (false, .int (sumF (earnF r p a) t b n)), some (false, (.list [])), none, none, some (false, .int (n : Int)), some (false, .int (r : Int)), some (false, .int b), some (false, .int t), some (false, .int p), some (false, .int a), some (false, (.list ((tops t b n).map .int))), none, none, none, none, none, none] m ⟨rfl, none, none, none, [], rfl, rfl⟩
  rw [List.append_nil] at h2
  subst h2
  have hr := rngOf2N (a := r) (b := 31) (i := (r : Int)) (j := 31) rfl rfl (by omega) (by omega)
  refine ⟨s8, s17, s18, ?_⟩
  simp -implicitDefEqProofs [isB, hr, e]
theorem l_inner (m : M) (sc : D) (n r : Nat) (t b p a : Int) (s3 : Option (Bool × D)) (i : Nat) (hi : i ≤ 30) (hr2 : r ≤ 8) (hn : n ≤ 8) (ht : 0 ≤ t) (htb : t ≤ b) (h1 : 1 ≤ b) (hb : b ≤ 10) (hp0 : 0 ≤ p) (hp2 : p ≤ 1000) (ha : 0 ≤ a) (ha2 : a ≤ 1000) : runCo .lc (cmB (Wk 5) (.cst (.int 1)) (.tup [.nm 20, .nm 21, .nm 22]) [.cmp .gt (.bin .mul (.nm 21) (.nm 18)) (.bin .mul (.nm 17) (.nm 22))] wrT [some (false, sc), some (false, cellD 0), some (false, .int (b ^ n)), s3, some (false, .int (sumF (awayF r) t b n)), some (false, .int (sumF (freeF r) t b n)), some (false, .int (sumF (earnF r p a) t b n)), some (false, (.list ((List.range' r (31 - r)).map (rowD r p a t b)))), some (false, .int (i : Int)), none, some (false, .int (n : Int)), some (false, .int (r : Int)), some (false, .int b), some (false, .int t), some (false, .int p), some (false, .int a), some (false, (.list ((tops t b n).map .int))), some (false, .int (eA r p a t b i)), some (false, .int (eB r p a t b i)), none, none, none, none]) ((List.range' r (31 - r)).map (rowD r p a t b)) m = .ok (.list ((((List.range' r (31 - r)).filter fun j => decide (bet (eA r p a t b) (eB r p a t b) i j)).map fun _ => (1 : Int)).map .int)) m := by
  have hr0 : (0 : Int) ≤ r := by omega
  have hr1 : (r : Int) ≤ 30 := by omega
  rw [List.map_map, ← filterMap_p (fun j => bet (eA r p a t b) (eB r p a t b) i j) (PyData.int ∘ fun _ => (1 : Int))]
  refine co_lc _ (fun j hj => ?_) (by rw [List.length_range']; unfold sizeLine; omega)
  have hj := List.mem_range'.mp hj
  have m1 : mulOk (eA r p a t b i) (eB r p a t b j) = true := mulOk_b (n := 200) (eA_bd hr0 hr1 ht htb h1 hb hp0 hp2 ha ha2 hi) (eB_bd hr0 hr1 ht htb h1 hb hp0 hp2 ha ha2 (by omega)) (by decide)
  have m2 : mulOk (eA r p a t b j) (eB r p a t b i) = true := mulOk_b (n := 200) (eA_bd hr0 hr1 ht htb h1 hb hp0 hp2 ha ha2 (by omega)) (eB_bd hr0 hr1 ht htb h1 hb hp0 hp2 ha ha2 hi) (by decide)
  rw [cmB_eq _ _ _ _ _ _ _ _ _ (by simp [rowD] <;> rfl)]
  by_cases h : bet (eA r p a t b) (eB r p a t b) i j
  · have h' := h
    unfold bet at h'
    simp -implicitDefEqProofs [isB, m1, m2, h, h']
  · have h' := h
    unfold bet at h'
    simp -implicitDefEqProofs [isB, m1, m2, h, h']
theorem l_outer (m : M) (sc : D) (n r : Nat) (t b p a : Int) (s3 s8 s17 s18 : Option (Bool × D)) (hr2 : r ≤ 8) (hn : n ≤ 8) (ht : 0 ≤ t) (htb : t ≤ b) (h1 : 1 ≤ b) (hb : b ≤ 10) (hp0 : 0 ≤ p) (hp2 : p ≤ 1000) (ha : 0 ≤ a) (ha2 : a ≤ 1000) : runCo .lc (cmB (Wk 5) (.nm 8) (.tup [.nm 8, .nm 17, .nm 18]) [.cmp .eq (.co .lc (.cst (.int 1)) (.tup [.nm 20, .nm 21, .nm 22]) (.seq (.e (.nm 7))) [.cmp .gt (.bin .mul (.nm 21) (.nm 18)) (.bin .mul (.nm 17) (.nm 22))]) (.lst [])] wrT [some (false, sc), some (false, cellD 0), some (false, .int (b ^ n)), s3, some (false, .int (sumF (awayF r) t b n)), some (false, .int (sumF (freeF r) t b n)), some (false, .int (sumF (earnF r p a) t b n)), some (false, (.list ((List.range' r (31 - r)).map (rowD r p a t b)))), s8, none, some (false, .int (n : Int)), some (false, .int (r : Int)), some (false, .int b), some (false, .int t), some (false, .int p), some (false, .int a), some (false, (.list ((tops t b n).map .int))), s17, s18, none, none, none, none]) ((List.range' r (31 - r)).map (rowD r p a t b)) m = .ok (.list (((List.range' r (31 - r)).filter fun i => decide ((((List.range' r (31 - r)).filter fun j => decide (bet (eA r p a t b) (eB r p a t b) i j)).isEmpty) = true)).map natD)) m := by
  rw [← filterMap_p (fun i => (((List.range' r (31 - r)).filter fun j => decide (bet (eA r p a t b) (eB r p a t b) i j)).isEmpty) = true) natD]
  refine co_lc _ (fun i hi => ?_) (by rw [List.length_range']; unfold sizeLine; omega)
  have hi := List.mem_range'.mp hi
  have e := l_inner m sc n r t b p a s3 i (by omega) hr2 hn ht htb h1 hb hp0 hp2 ha ha2
  have e2 := eqS_nil (shaped_lints (((List.range' r (31 - r)).filter fun j => decide (bet (eA r p a t b) (eB r p a t b) i j)).map fun _ => (1 : Int)))
  rw [List.isEmpty_map, List.isEmpty_map] at e2
  have e3 : semCmp .eq (.list ((((List.range' r (31 - r)).filter fun j => decide (bet (eA r p a t b) (eB r p a t b) i j)).map fun _ => (1 : Int)).map .int)) (.list []) = some (((List.range' r (31 - r)).filter fun j => decide (bet (eA r p a t b) (eB r p a t b) i j)).isEmpty) := e2
  generalize (((List.range' r (31 - r)).filter fun j => decide (bet (eA r p a t b) (eB r p a t b) i j)).map fun _ => (1 : Int)).map PyData.int = LL at e e3
  generalize (((List.range' r (31 - r)).filter fun j => decide (bet (eA r p a t b) (eB r p a t b) i j)).isEmpty) = bb at e3 ⊢
  rw [cmB_eq _ _ _ _ _ _ _ _ _ (by simp [rowD] <;> rfl)]
  cases bb with
  | true => simp -implicitDefEqProofs [isB, e_co, e, e3, natD]
  | false => simp -implicitDefEqProofs [isB, e_co, e, e3]
theorem l_seg4 (m : M) (sc : D) (n r : Nat) (t b p a : Int) (s3 s8 s17 s18 : Option (Bool × D)) (rest : List St) (hr2 : r ≤ 8) (hn : n ≤ 8) (ht : 0 ≤ t) (htb : t ≤ b) (h1 : 1 ≤ b) (hb : b ≤ 10) (hp0 : 0 ≤ p) (hp2 : p ≤ 1000) (ha : 0 ≤ a) (ha2 : a ≤ 1000) : execL (Wk 5) (.asg 9 (.idx (.co .lc (.nm 8) (.tup [.nm 8, .nm 17, .nm 18]) (.seq (.e (.nm 7))) [.cmp .eq (.co .lc (.cst (.int 1)) (.tup [.nm 20, .nm 21, .nm 22]) (.seq (.e (.nm 7))) [.cmp .gt (.bin .mul (.nm 21) (.nm 18)) (.bin .mul (.nm 17) (.nm 22))]) (.lst [])]) (.cst (.int 0))) :: rest) wrT [some (false, sc), some (false, cellD 0), some (false, .int (b ^ n)), s3, some (false, .int (sumF (awayF r) t b n)), some (false, .int (sumF (freeF r) t b n)), some (false, .int (sumF (earnF r p a) t b n)), some (false, (.list ((List.range' r (31 - r)).map (rowD r p a t b)))), s8, none, some (false, .int (n : Int)), some (false, .int (r : Int)), some (false, .int b), some (false, .int t), some (false, .int p), some (false, .int a), some (false, (.list ((tops t b n).map .int))), s17, s18, none, none, none, none] m = execL (Wk 5) rest wrT [some (false, sc), some (false, cellD 0), some (false, .int (b ^ n)), s3, some (false, .int (sumF (awayF r) t b n)), some (false, .int (sumF (freeF r) t b n)), some (false, .int (sumF (earnF r p a) t b n)), some (false, (.list ((List.range' r (31 - r)).map (rowD r p a t b)))), s8, some (false, .int (bestN r p a t b : Int)), some (false, .int (n : Int)), some (false, .int (r : Int)), some (false, .int b), some (false, .int t), some (false, .int p), some (false, .int a), some (false, (.list ((tops t b n).map .int))), s17, s18, none, none, none, none] m := by
  have e := l_outer m sc n r t b p a s3 s8 s17 s18 hr2 hn ht htb h1 hb hp0 hp2 ha ha2
  have hh := bst_head (e1 := eA r p a t b) (e2 := eB r p a t b) (fun i => eB_pos h1 i) r (List.range' (r + 1) (30 - r))
  have hl : List.range' r (31 - r) = r :: List.range' (r + 1) (30 - r) := by
    rw [show 31 - r = (30 - r) + 1 by omega, List.range'_succ]
  rw [← hl] at hh
  have hx : atI (((List.range' r (31 - r)).filter fun i => decide ((((List.range' r (31 - r)).filter fun j => decide (bet (eA r p a t b) (eB r p a t b) i j)).isEmpty) = true)).map natD) 0 = some (.int (bestN r p a t b : Int)) := by
    refine atI_nat (j := 0) ?_
    rw [List.getElem?_map]
    simp only [Bool.decide_eq_true]
    rw [hh]
    rfl
  generalize (((List.range' r (31 - r)).filter fun i => decide ((((List.range' r (31 - r)).filter fun j => decide (bet (eA r p a t b) (eB r p a t b) i j)).isEmpty) = true)).map natD) = LL at e hx
  simp -implicitDefEqProofs [isB, e_co, e, hx]
theorem l_seg5 (m : M) (sc : D) (n r : Nat) (t b p a : Int) (s3 s8 s17 s18 : Option (Bool × D)) (hr2 : r ≤ 8) (hn : n ≤ 8) (ht : 0 ≤ t) (htb : t ≤ b) (h1 : 1 ≤ b) (hb : b ≤ 10) (hp0 : 0 ≤ p) (hp2 : p ≤ 1000) (ha : 0 ≤ a) (ha2 : a ≤ 1000) : execL (Wk 5) [.ifs (.cmp .ne (.call 5 [.nm 11, .tup [.nm 13, .nm 12], .nm 14, .nm 15]) (.nm 9)) [.ret (.cst (.bool false))] [], .ifs (.cmp .ne (.call 7 [.bi .min2 [.nm 10, .nm 11], .nm 11]) (.call 12 [.bin .add (.bi .min2 [.nm 10, .nm 11]) (.cst (.int 1)), .bin .add (.nm 11) (.cst (.int 2))])) [.ret (.cst (.bool false))] []] wrT [some (false, sc), some (false, cellD 0), some (false, .int (b ^ n)), s3, some (false, .int (sumF (awayF r) t b n)), some (false, .int (sumF (freeF r) t b n)), some (false, .int (sumF (earnF r p a) t b n)), some (false, (.list ((List.range' r (31 - r)).map (rowD r p a t b)))), s8, some (false, .int (bestN r p a t b : Int)), some (false, .int (n : Int)), some (false, .int (r : Int)), some (false, .int b), some (false, .int t), some (false, .int p), some (false, .int a), some (false, (.list ((tops t b n).map .int))), s17, s18, none, none, none, none] m = .nx [some (false, sc), some (false, cellD 0), some (false, .int (b ^ n)), s3, some (false, .int (sumF (awayF r) t b n)), some (false, .int (sumF (freeF r) t b n)), some (false, .int (sumF (earnF r p a) t b n)), some (false, (.list ((List.range' r (31 - r)).map (rowD r p a t b)))), s8, some (false, .int (bestN r p a t b : Int)), some (false, .int (n : Int)), some (false, .int (r : Int)), some (false, .int b), some (false, .int t), some (false, .int p), some (false, .int a), some (false, (.list ((tops t b n).map .int))), s17, s18, none, none, none, none] m := by
  have e := c_best 2 wrT m r t b p a (by omega) ht htb h1 hb hp0 hp2 ha ha2
  have e : (Wk 5).call 5 wrT [.int r, .tuple [.int t, .int b], .int p, .int a] m = .ok (.int (bestN r p a t b)) m := e
  have hd : 0 ≤ dMin (n : Int) r ∧ dMin (n : Int) r ≤ r := by unfold dMin; split <;> omega
  have e2 : (Wk 5).call 7 wrT [.int (dMin (n : Int) r), .int r] m = .ok (rat (dMin (n : Int) r + 1) ((r : Int) + 2)) m := c_seen 3 wrT m _ _ hd.1 hd.2 (by omega)
  have e3 : (Wk 5).call 12 wrT [.int (dMin (n : Int) r + 1), .int ((r : Int) + 2)] m = .ok (rat (dMin (n : Int) r + 1) ((r : Int) + 2)) m := c_least 4 wrT m _ _ (by omega) (by omega)
  have sr : semCmp .ne (rat (dMin (n : Int) r + 1) ((r : Int) + 2)) (rat (dMin (n : Int) r + 1) ((r : Int) + 2)) = some false := sc_neS (shaped_int2 _ _)
  simp -implicitDefEqProofs [isB, e, e2, e3, sr]
theorem law_true (ns : List Int) : ∃ m', semFn (Wk 5) b_law 23 wrT [scrD ns] [] = .ok (.bool true) m' := by
  obtain ⟨x, y, z, e0⟩ := c_rounds 3 ns
  have e0 : (Wk 5).call 10 wrT [scrD ns, .int 1] [] = .ok (.list [cellD 0]) (dm x y z) := e0
  have turn : ∃ m' g', execL (Wk 5) [.unp (.tup [.nm 10, .nm 11, .nm 12]) (.tup [.call 9 [.nm 1, .cst (.int 9)], .call 9 [.nm 1, .cst (.int 9)], .bin .add (.cst (.int 1)) (.call 9 [.nm 1, .cst (.int 10)])]), .unp (.tup [.nm 13, .nm 14, .nm 15]) (.tup [.call 9 [.nm 1, .bin .add (.nm 12) (.cst (.int 1))], .call 9 [.nm 1, .cst (.int 200)], .call 9 [.nm 1, .cst (.int 400)]]), .par [16, 2] [.call 13 [.nm 10, .nm 13, .nm 12], .nm 12], .asg 2 (.cst (.int 1)), .for (.nm 3) (.rng [.nm 10]) [.asg 2 (.bin .mul (.nm 2) (.nm 12))], .ifs (.or (.cmp .ne (.call 1 [.nm 10, .tup [.nm 13, .nm 12]]) (.tup [.bi .tuple [.nm 16], .nm 2])) (.cmp .ne (.bi .sum1 [.nm 16]) (.nm 2))) [.ret (.cst (.bool false))] [], .asg 4 (.bi .sum1 [.co .lc (.bin .mul (.bi .max2 [.cst (.int 0), .bin .sub (.nm 8) (.nm 11)]) (.nm 19)) (.tup [.nm 8, .nm 19]) (.enum (.e (.nm 16))) []]), .asg 5 (.bi .sum1 [.co .lc (.bin .mul (.bi .max2 [.cst (.int 0), .bin .sub (.nm 11) (.nm 8)]) (.nm 19)) (.tup [.nm 8, .nm 19]) (.enum (.e (.nm 16))) []]), .asg 6 (.bi .sum1 [.co .lc (.bin .mul (.nm 19) (.bin .sub (.bin .mul (.bi .min2 [.nm 8, .nm 11]) (.nm 14)) (.bin .mul (.bi .max2 [.cst (.int 0), .bin .sub (.nm 8) (.nm 11)]) (.nm 15)))) (.tup [.nm 8, .nm 19]) (.enum (.e (.nm 16))) []]), .ifs (.or (.cmp .ne (.call 2 [.nm 10, .nm 11, .tup [.nm 13, .nm 12]]) (.call 12 [.nm 4, .nm 2])) (.or (.cmp .ne (.call 3 [.nm 10, .nm 11, .tup [.nm 13, .nm 12]]) (.call 12 [.nm 5, .nm 2])) (.cmp .ne (.call 4 [.nm 10, .nm 11, .tup [.nm 13, .nm 12], .nm 14, .nm 15]) (.call 12 [.nm 6, .nm 2])))) [.ret (.cst (.bool false))] [], .ifs (.cmp .ne (.call 6 [.nm 10, .nm 11, .tup [.nm 13, .nm 12]]) (.call 12 [.bi .sum1 [.slc (.nm 16) (some (.nm 11)) none], .nm 2])) [.ret (.cst (.bool false))] [], .asg 7 (.lst []), .for (.nm 8) (.rng [.nm 11, .cst (.int 31)]) [.unp (.tup [.nm 17, .nm 18]) (.call 4 [.nm 8, .nm 11, .tup [.nm 13, .nm 12], .nm 14, .nm 15]), .asg 7 (.bin .add (.nm 7) (.lst [.tup [.nm 8, .nm 17, .nm 18]]))], .asg 9 (.idx (.co .lc (.nm 8) (.tup [.nm 8, .nm 17, .nm 18]) (.seq (.e (.nm 7))) [.cmp .eq (.co .lc (.cst (.int 1)) (.tup [.nm 20, .nm 21, .nm 22]) (.seq (.e (.nm 7))) [.cmp .gt (.bin .mul (.nm 21) (.nm 18)) (.bin .mul (.nm 17) (.nm 22))]) (.lst [])]) (.cst (.int 0))), .ifs (.cmp .ne (.call 5 [.nm 11, .tup [.nm 13, .nm 12], .nm 14, .nm 15]) (.nm 9)) [.ret (.cst (.bool false))] [], .ifs (.cmp .ne (.call 7 [.bi .min2 [.nm 10, .nm 11], .nm 11]) (.call 12 [.bin .add (.bi .min2 [.nm 10, .nm 11]) (.cst (.int 1)), .bin .add (.nm 11) (.cst (.int 2))])) [.ret (.cst (.bool false))] []] wrT [some (false, scrD ns), some (false, cellD 0), none, none, none, none, none, none, none, none, none, none, none, none, none, none, none, none, none, none, none, none, none] (dm x y z) = .nx g' m' := by
    obtain ⟨n, r, t, b, p, a, x2, y2, z2, s3, q2, q1, ht, htb, h1, hb, hp0, hp2, ha, ha2, e1⟩ := l_seg1 x y z (scrD ns) [.ifs (.or (.cmp .ne (.call 1 [.nm 10, .tup [.nm 13, .nm 12]]) (.tup [.bi .tuple [.nm 16], .nm 2])) (.cmp .ne (.bi .sum1 [.nm 16]) (.nm 2))) [.ret (.cst (.bool false))] [], .asg 4 (.bi .sum1 [.co .lc (.bin .mul (.bi .max2 [.cst (.int 0), .bin .sub (.nm 8) (.nm 11)]) (.nm 19)) (.tup [.nm 8, .nm 19]) (.enum (.e (.nm 16))) []]), .asg 5 (.bi .sum1 [.co .lc (.bin .mul (.bi .max2 [.cst (.int 0), .bin .sub (.nm 11) (.nm 8)]) (.nm 19)) (.tup [.nm 8, .nm 19]) (.enum (.e (.nm 16))) []]), .asg 6 (.bi .sum1 [.co .lc (.bin .mul (.nm 19) (.bin .sub (.bin .mul (.bi .min2 [.nm 8, .nm 11]) (.nm 14)) (.bin .mul (.bi .max2 [.cst (.int 0), .bin .sub (.nm 8) (.nm 11)]) (.nm 15)))) (.tup [.nm 8, .nm 19]) (.enum (.e (.nm 16))) []]), .ifs (.or (.cmp .ne (.call 2 [.nm 10, .nm 11, .tup [.nm 13, .nm 12]]) (.call 12 [.nm 4, .nm 2])) (.or (.cmp .ne (.call 3 [.nm 10, .nm 11, .tup [.nm 13, .nm 12]]) (.call 12 [.nm 5, .nm 2])) (.cmp .ne (.call 4 [.nm 10, .nm 11, .tup [.nm 13, .nm 12], .nm 14, .nm 15]) (.call 12 [.nm 6, .nm 2])))) [.ret (.cst (.bool false))] [], .ifs (.cmp .ne (.call 6 [.nm 10, .nm 11, .tup [.nm 13, .nm 12]]) (.call 12 [.bi .sum1 [.slc (.nm 16) (some (.nm 11)) none], .nm 2])) [.ret (.cst (.bool false))] [], .asg 7 (.lst []), .for (.nm 8) (.rng [.nm 11, .cst (.int 31)]) [.unp (.tup [.nm 17, .nm 18]) (.call 4 [.nm 8, .nm 11, .tup [.nm 13, .nm 12], .nm 14, .nm 15]), .asg 7 (.bin .add (.nm 7) (.lst [.tup [.nm 8, .nm 17, .nm 18]]))], .asg 9 (.idx (.co .lc (.nm 8) (.tup [.nm 8, .nm 17, .nm 18]) (.seq (.e (.nm 7))) [.cmp .eq (.co .lc (.cst (.int 1)) (.tup [.nm 20, .nm 21, .nm 22]) (.seq (.e (.nm 7))) [.cmp .gt (.bin .mul (.nm 21) (.nm 18)) (.bin .mul (.nm 17) (.nm 22))]) (.lst [])]) (.cst (.int 0))), .ifs (.cmp .ne (.call 5 [.nm 11, .tup [.nm 13, .nm 12], .nm 14, .nm 15]) (.nm 9)) [.ret (.cst (.bool false))] [], .ifs (.cmp .ne (.call 7 [.bi .min2 [.nm 10, .nm 11], .nm 11]) (.call 12 [.bin .add (.bi .min2 [.nm 10, .nm 11]) (.cst (.int 1)), .bin .add (.nm 11) (.cst (.int 2))])) [.ret (.cst (.bool false))] []]
    obtain ⟨s8, s17, s18, e3⟩ := l_seg3 (dm x2 y2 z2) (scrD ns) n r t b p a s3 [.asg 9 (.idx (.co .lc (.nm 8) (.tup [.nm 8, .nm 17, .nm 18]) (.seq (.e (.nm 7))) [.cmp .eq (.co .lc (.cst (.int 1)) (.tup [.nm 20, .nm 21, .nm 22]) (.seq (.e (.nm 7))) [.cmp .gt (.bin .mul (.nm 21) (.nm 18)) (.bin .mul (.nm 17) (.nm 22))]) (.lst [])]) (.cst (.int 0))), .ifs (.cmp .ne (.call 5 [.nm 11, .tup [.nm 13, .nm 12], .nm 14, .nm 15]) (.nm 9)) [.ret (.cst (.bool false))] [], .ifs (.cmp .ne (.call 7 [.bi .min2 [.nm 10, .nm 11], .nm 11]) (.call 12 [.bin .add (.bi .min2 [.nm 10, .nm 11]) (.cst (.int 1)), .bin .add (.nm 11) (.cst (.int 2))])) [.ret (.cst (.bool false))] []] q2 q1 ht htb h1 hb hp0 hp2 ha ha2
    exact ⟨_, _, (e1.trans (l_seg2 _ _ _ _ _ _ _ _ _ _ q2 q1 ht htb h1 hb hp0 hp2 ha ha2)).trans (e3.trans ((l_seg4 _ _ _ _ _ _ _ _ _ _ _ _ _ q2 q1 ht htb h1 hb hp0 hp2 ha ha2).trans (l_seg5 _ _ _ _ _ _ _ _ _ _ _ _ q2 q1 ht htb h1 hb hp0 hp2 ha ha2)))⟩
  obtain ⟨m', g', e⟩ := turn
  refine ⟨m', ?_⟩
  have hp := c_plain wrT m'
  have es : evS (Wk 5) (.seq (.e (.call 10 [.nm 0, .cst (.int 1)]))) wrT (ga0 23 [scrD ns]) [] = .ok ([cellD 0], none) (dm x y z) := by
    simp -implicitDefEqProofs [isB, ga0, e0]
  have eb : bindT (.nm 1) (cellD 0) (ga0 23 [scrD ns]) = some [some (false, scrD ns), some (false, cellD 0), none, none, none, none, none, none, none, none, none, none, none, none, none, none, none, none, none, none, none, none, none] := rfl
  rw [sem_eq]
  unfold b_law
  rw [x_cons, x_for, es, R.oF_ok, forS_none, forB_cons, eb, fbF_some, e, RS.tF_nx, forB_nil, RS.tF_nx]
  simp -implicitDefEqProofs [isB, hp]
end Ev.T_k05
end
set_option Elab.async false
set_option linter.all false
set_option autoImplicit false
set_option maxRecDepth 100000
set_option maxHeartbeats 0
/-! k05: the head, the end (by wip/head.py). -/
namespace Ev.T_k05
open PySem PySem.Spec PyProof.Rows L2

def dd (x : Str) (i : Nat) : He.DefD := ⟨(x, none), x, x, defArgs (top i), defBody (top i), defScope (top i), [], []⟩
def fn : List He.DefD := [dd "ratio" 5, dd "comers" 6, dd "turned_away" 7, dd "rooms_empty" 8, dd "earned" 9, dd "best_booked" 10, dd "chance_full" 11, dd "seen_chance" 12, dd "_law_dice" 14, dd "_law_roll" 15, dd "_law_rounds" 16, dd "_law_told" 17, dd "_law_least" 18, dd "_law_tops" 19, dd "_law_plain" 20, dd "law" 21]
def fa : List He.Fa := [.glo "ratio", .glo "comers", .glo "turned_away", .glo "rooms_empty", .glo "earned", .glo "best_booked", .glo "chance_full", .glo "seen_chance", .glo "_law_dice", .glo "_law_roll", .glo "_law_rounds", .glo "_law_told", .glo "_law_least", .glo "_law_tops", .glo "_law_plain", .glo "law", .glo "HotelError", .glo "ClaimError", .exc "HotelError", .exc "ClaimError", .exm "HotelError" "HotelError" true, .exm "ClaimError" "ClaimError" true, .exm "ClaimError" "HotelError" true, .int "MOST_BOOKED" 30, .free "abs", .free "enumerate", .free "int", .free "len", .free "max", .free "min", .free "range", .free "sum", .free "tuple"]
def tg : List He.Defn := [("turned_away", none), ("rooms_empty", none)]
def tl : List (He.Defn × Str) := [(("_law_plain", none), lamN "_law_plain" (defScope (top 20)))]
def tf : List He.Defn := tg ++ tl.map (·.1)
def ex (K : PySem.W.Frag) : Bool := decide (tabs K tf).Nodup
abbrev R : PySem.W.OpenRow := PySem.W.OpenLaw.row PySem.Challenge.rw_hotelstack_k05_claims_of_those_who_come
abbrev hk : PySem.W.Hook := He.hookX 4 fa fn [] tf ex
def ob (s : PySem.W.SharedT) : He.AlX := He.obsX 4 fa fn [] tf ex (HandSHeadRun.getT s)
theorem ob_eq (s : PySem.W.SharedT) : ob s = hk.obs s.abs := He.obsX_eq (HandSHeadRun.getT_eq s)
def loose0 : List Str := ["HotelError", "ClaimError", "MOST_BOOKED", "ratio", "comers", "turned_away", "rooms_empty", "earned", "best_booked", "chance_full", "seen_chance", "_law_dice", "_law_roll", "_law_rounds", "_law_told", "_law_least", "_law_tops", "_law_plain"]
def loose : List Str := loose0
theorem run (w : World) : HandSHeadRun.RunEq R (PySem.W.view R.prog [21]) hk ob 2000 loose w := by
  intro os
  kernel_rfl
def xn : Nat → Str
  | 0 => "HotelError"
  | 1 => "ClaimError"
  | _ => ""
def F0 (K : PySem.W.Frag) : Fx := ⟨K, fun _ => 0, fun c => He.ga K (xn c), tabs K tg, tl.map fun p => ((He.cT K p.1).2, p.2)⟩
section
variable {w : World} {K : PySem.W.Frag} {mg : Str → Option Value} {base h : Heap}
theorem fits (c : He.SaysX fa fn [] tf ex w h K) : Fits (F0 K) K tg tl := ⟨rfl, rfl, of_decide_eq_true c.more⟩
theorem fmem (i : Nat) {x : He.Fa} (h : fa[i]? = some x := by rfl) : x ∈ fa := List.mem_of_getElem? h
theorem dmem (i : Nat) {x : He.DefD} (h : fn[i]? = some x := by rfl) : x ∈ fn := List.mem_of_getElem? h
def Good (P : Program) (w : World) (K : PySem.W.Frag) (mg : Str → Option Value) (base : Heap) (p : Str × Gb) : Prop := match p.2 with
  | .fn f ps => DefK K mg base (F0 K) G fns p.1 f ps
  | gb => GbOk P w K mg base (F0 K) W0 0 p.1 gb
theorem g_ratio (c : He.SaysX fa fn [] tf ex w h K) (KX : K.In h) (Gh : h.Ns mainGlobals mg) (TB : ∀ p ∈ tg ++ tl.map (·.1), LamX.TabB base mg (He.cT K p).1 (He.cT K p).2) {P : Program} : Good P w K mg base ("ratio", .fn 0 ["top", "bottom"]) := defK_of (d := dd "ratio" 5) (f := 0) (N := N_ratio) (gd := false) (ld := false) c.t.d KX Gh (dmem 0) rfl rfl ⟨rfl, rfl⟩ (fmem 0) m_ratio s_ratio (by decide) rfl (fun _ _ _ _ _ _ us hl => match us, hl with | [_, _], _ => rfl) (fits c) (fun z => by cases z) (fun z => by cases z) TB
theorem g_comers (c : He.SaysX fa fn [] tf ex w h K) (KX : K.In h) (Gh : h.Ns mainGlobals mg) (TB : ∀ p ∈ tg ++ tl.map (·.1), LamX.TabB base mg (He.cT K p).1 (He.cT K p).2) {P : Program} : Good P w K mg base ("comers", .fn 1 ["booked", "chance"]) := defK_of (d := dd "comers" 6) (f := 1) (N := N_comers) (gd := false) (ld := false) c.t.d KX Gh (dmem 1) rfl rfl ⟨rfl, rfl⟩ (fmem 1) m_comers s_comers (by decide) rfl (fun _ _ _ _ _ _ us hl => match us, hl with | [_, _], _ => rfl) (fits c) (fun z => by cases z) (fun z => by cases z) TB
theorem g_turned_away (c : He.SaysX fa fn [] tf ex w h K) (KX : K.In h) (Gh : h.Ns mainGlobals mg) (TB : ∀ p ∈ tg ++ tl.map (·.1), LamX.TabB base mg (He.cT K p).1 (He.cT K p).2) {P : Program} : Good P w K mg base ("turned_away", .fn 2 ["booked", "rooms", "chance"]) := defK_of (d := dd "turned_away" 7) (f := 2) (N := N_turned_away) (gd := true) (ld := false) c.t.d KX Gh (dmem 2) rfl rfl ⟨rfl, rfl⟩ (fmem 2) m_turned_away s_turned_away (by decide) rfl (fun _ _ _ _ _ _ us hl => match us, hl with | [_, _, _], _ => rfl) (fits c) (fun _ => List.mem_of_getElem? (l := tg) (i := 0) rfl) (fun z => by cases z) TB
theorem g_rooms_empty (c : He.SaysX fa fn [] tf ex w h K) (KX : K.In h) (Gh : h.Ns mainGlobals mg) (TB : ∀ p ∈ tg ++ tl.map (·.1), LamX.TabB base mg (He.cT K p).1 (He.cT K p).2) {P : Program} : Good P w K mg base ("rooms_empty", .fn 3 ["booked", "rooms", "chance"]) := defK_of (d := dd "rooms_empty" 8) (f := 3) (N := N_rooms_empty) (gd := true) (ld := false) c.t.d KX Gh (dmem 3) rfl rfl ⟨rfl, rfl⟩ (fmem 3) m_rooms_empty s_rooms_empty (by decide) rfl (fun _ _ _ _ _ _ us hl => match us, hl with | [_, _, _], _ => rfl) (fits c) (fun _ => List.mem_of_getElem? (l := tg) (i := 1) rfl) (fun z => by cases z) TB
theorem g_earned (c : He.SaysX fa fn [] tf ex w h K) (KX : K.In h) (Gh : h.Ns mainGlobals mg) (TB : ∀ p ∈ tg ++ tl.map (·.1), LamX.TabB base mg (He.cT K p).1 (He.cT K p).2) {P : Program} : Good P w K mg base ("earned", .fn 4 ["booked", "rooms", "chance", "pence", "amends"]) := defK_of (d := dd "earned" 9) (f := 4) (N := N_earned) (gd := false) (ld := false) c.t.d KX Gh (dmem 4) rfl rfl ⟨rfl, rfl⟩ (fmem 4) m_earned s_earned (by decide) rfl (fun _ _ _ _ _ _ us hl => match us, hl with | [_, _, _, _, _], _ => rfl) (fits c) (fun z => by cases z) (fun z => by cases z) TB
theorem g_best_booked (c : He.SaysX fa fn [] tf ex w h K) (KX : K.In h) (Gh : h.Ns mainGlobals mg) (TB : ∀ p ∈ tg ++ tl.map (·.1), LamX.TabB base mg (He.cT K p).1 (He.cT K p).2) {P : Program} : Good P w K mg base ("best_booked", .fn 5 ["rooms", "chance", "pence", "amends"]) := defK_of (d := dd "best_booked" 10) (f := 5) (N := N_best_booked) (gd := false) (ld := false) c.t.d KX Gh (dmem 5) rfl rfl ⟨rfl, rfl⟩ (fmem 5) m_best_booked s_best_booked (by decide) rfl (fun _ _ _ _ _ _ us hl => match us, hl with | [_, _, _, _], _ => rfl) (fits c) (fun z => by cases z) (fun z => by cases z) TB
theorem g_chance_full (c : He.SaysX fa fn [] tf ex w h K) (KX : K.In h) (Gh : h.Ns mainGlobals mg) (TB : ∀ p ∈ tg ++ tl.map (·.1), LamX.TabB base mg (He.cT K p).1 (He.cT K p).2) {P : Program} : Good P w K mg base ("chance_full", .fn 6 ["booked", "rooms", "chance"]) := defK_of (d := dd "chance_full" 11) (f := 6) (N := N_chance_full) (gd := false) (ld := false) c.t.d KX Gh (dmem 6) rfl rfl ⟨rfl, rfl⟩ (fmem 6) m_chance_full s_chance_full (by decide) rfl (fun _ _ _ _ _ _ us hl => match us, hl with | [_, _, _], _ => rfl) (fits c) (fun z => by cases z) (fun z => by cases z) TB
theorem g_seen_chance (c : He.SaysX fa fn [] tf ex w h K) (KX : K.In h) (Gh : h.Ns mainGlobals mg) (TB : ∀ p ∈ tg ++ tl.map (·.1), LamX.TabB base mg (He.cT K p).1 (He.cT K p).2) {P : Program} : Good P w K mg base ("seen_chance", .fn 7 ["came", "booked"]) := defK_of (d := dd "seen_chance" 12) (f := 7) (N := N_seen_chance) (gd := false) (ld := false) c.t.d KX Gh (dmem 7) rfl rfl ⟨rfl, rfl⟩ (fmem 7) m_seen_chance s_seen_chance (by decide) rfl (fun _ _ _ _ _ _ us hl => match us, hl with | [_, _], _ => rfl) (fits c) (fun z => by cases z) (fun z => by cases z) TB
theorem g_law_dice (c : He.SaysX fa fn [] tf ex w h K) (KX : K.In h) (Gh : h.Ns mainGlobals mg) (TB : ∀ p ∈ tg ++ tl.map (·.1), LamX.TabB base mg (He.cT K p).1 (He.cT K p).2) {P : Program} : Good P w K mg base ("_law_dice", .fn 8 ["cell"]) := defK_of (d := dd "_law_dice" 14) (f := 8) (N := N_law_dice) (gd := false) (ld := false) c.t.d KX Gh (dmem 8) rfl rfl ⟨rfl, rfl⟩ (fmem 8) m_law_dice s_law_dice (by decide) rfl (fun _ _ _ _ _ _ us hl => match us, hl with | [_], _ => rfl) (fits c) (fun z => by cases z) (fun z => by cases z) TB
theorem g_law_roll (c : He.SaysX fa fn [] tf ex w h K) (KX : K.In h) (Gh : h.Ns mainGlobals mg) (TB : ∀ p ∈ tg ++ tl.map (·.1), LamX.TabB base mg (He.cT K p).1 (He.cT K p).2) {P : Program} : Good P w K mg base ("_law_roll", .fn 9 ["dice", "many"]) := defK_of (d := dd "_law_roll" 15) (f := 9) (N := N_law_roll) (gd := false) (ld := false) c.t.d KX Gh (dmem 9) rfl rfl ⟨rfl, rfl⟩ (fmem 9) m_law_roll s_law_roll (by decide) rfl (fun _ _ _ _ _ _ us hl => match us, hl with | [_, _], _ => rfl) (fits c) (fun z => by cases z) (fun z => by cases z) TB
theorem g_law_rounds (c : He.SaysX fa fn [] tf ex w h K) (KX : K.In h) (Gh : h.Ns mainGlobals mg) (TB : ∀ p ∈ tg ++ tl.map (·.1), LamX.TabB base mg (He.cT K p).1 (He.cT K p).2) {P : Program} : Good P w K mg base ("_law_rounds", .fn 10 ["script", "most"]) := defK_of (d := dd "_law_rounds" 16) (f := 10) (N := N_law_rounds) (gd := false) (ld := false) c.t.d KX Gh (dmem 10) rfl rfl ⟨rfl, rfl⟩ (fmem 10) m_law_rounds s_law_rounds (by decide) rfl (fun _ _ _ _ _ _ us hl => match us, hl with | [_, _], _ => rfl) (fits c) (fun z => by cases z) (fun z => by cases z) TB
theorem told_sub (l : Nat) (h : W0.sub l 1 = true) : l = 1 := by
  have h : (_ : Bool) = true := h
  simp [W0] at h
  omega
theorem g_law_told (c : He.SaysX fa fn [] tf ex w h K) (KX : K.In h) (Gh : h.Ns mainGlobals mg) (TB : ∀ p ∈ tg ++ tl.map (·.1), LamX.TabB base mg (He.cT K p).1 (He.cT K p).2) {P : Program} : Good P w K mg base ("_law_told", .told 1 "ClaimError") := by
  show GbOk P w K mg base (F0 K) W0 0 "_law_told" (.told 1 "ClaimError")
  refine told_gb (d := dd "_law_told" 17) c.t.d KX Gh (dmem 11) rfl rfl ⟨rfl, rfl⟩ (fmem 11) (i := 1) (e := "ClaimError") rfl (fmem 17) rfl (by decide +kernel) rfl rfl (by decide) (fun _ _ _ _ _ _ us hl => match us, hl with | [_], _ => rfl) fun l hl => ?_
  have hl := told_sub l hl
  rcases hl with rfl
  · exact He.exm_ok (c.t.d.facts (fmem 21))
theorem g_law_least (c : He.SaysX fa fn [] tf ex w h K) (KX : K.In h) (Gh : h.Ns mainGlobals mg) (TB : ∀ p ∈ tg ++ tl.map (·.1), LamX.TabB base mg (He.cT K p).1 (He.cT K p).2) {P : Program} : Good P w K mg base ("_law_least", .fn 12 ["top", "bottom"]) := defK_of (d := dd "_law_least" 18) (f := 12) (N := N_law_least) (gd := false) (ld := false) c.t.d KX Gh (dmem 12) rfl rfl ⟨rfl, rfl⟩ (fmem 12) m_law_least s_law_least (by decide) rfl (fun _ _ _ _ _ _ us hl => match us, hl with | [_, _], _ => rfl) (fits c) (fun z => by cases z) (fun z => by cases z) TB
theorem g_law_tops (c : He.SaysX fa fn [] tf ex w h K) (KX : K.In h) (Gh : h.Ns mainGlobals mg) (TB : ∀ p ∈ tg ++ tl.map (·.1), LamX.TabB base mg (He.cT K p).1 (He.cT K p).2) {P : Program} : Good P w K mg base ("_law_tops", .fn 13 ["booked", "top", "bottom"]) := defK_of (d := dd "_law_tops" 19) (f := 13) (N := N_law_tops) (gd := false) (ld := false) c.t.d KX Gh (dmem 13) rfl rfl ⟨rfl, rfl⟩ (fmem 13) m_law_tops s_law_tops (by decide) rfl (fun _ _ _ _ _ _ us hl => match us, hl with | [_, _, _], _ => rfl) (fits c) (fun z => by cases z) (fun z => by cases z) TB
theorem g_law_plain (c : He.SaysX fa fn [] tf ex w h K) (KX : K.In h) (Gh : h.Ns mainGlobals mg) (TB : ∀ p ∈ tg ++ tl.map (·.1), LamX.TabB base mg (He.cT K p).1 (He.cT K p).2) {P : Program} : Good P w K mg base ("_law_plain", .fn 14 []) := defK_of (d := dd "_law_plain" 20) (f := 14) (N := N_law_plain) (gd := false) (ld := true) c.t.d KX Gh (dmem 14) rfl rfl ⟨rfl, rfl⟩ (fmem 14) m_law_plain s_law_plain (by decide) rfl (fun _ _ _ _ _ _ us hl => match us, hl with | [], _ => rfl) (fits c) (fun z => by cases z) (fun _ => ⟨List.mem_of_getElem? (l := tl) (i := 0) rfl, fun r hr e => by simp only [tl, List.mem_singleton] at hr; subst hr; rfl⟩) TB
theorem g_law (c : He.SaysX fa fn [] tf ex w h K) (KX : K.In h) (Gh : h.Ns mainGlobals mg) (TB : ∀ p ∈ tg ++ tl.map (·.1), LamX.TabB base mg (He.cT K p).1 (He.cT K p).2) {P : Program} : Good P w K mg base ("law", .fn 15 ["script"]) := defK_of (d := dd "law" 21) (f := 15) (N := N_law) (gd := false) (ld := false) c.t.d KX Gh (dmem 15) rfl rfl ⟨rfl, rfl⟩ (fmem 15) m_law s_law (by decide) rfl (fun _ _ _ _ _ _ us hl => match us, hl with | [_], _ => rfl) (fits c) (fun z => by cases z) (fun z => by cases z) TB
theorem goods (c : He.SaysX fa fn [] tf ex w h K) (KX : K.In h) (Gh : h.Ns mainGlobals mg) (TB : ∀ p ∈ tg ++ tl.map (·.1), LamX.TabB base mg (He.cT K p).1 (He.cT K p).2) {P : Program} : ∀ p ∈ G, Good P w K mg base p :=
  List.forall_mem_cons.mpr ⟨g_ratio c KX Gh TB, List.forall_mem_cons.mpr ⟨g_comers c KX Gh TB, List.forall_mem_cons.mpr ⟨g_turned_away c KX Gh TB, List.forall_mem_cons.mpr ⟨g_rooms_empty c KX Gh TB, List.forall_mem_cons.mpr ⟨g_earned c KX Gh TB, List.forall_mem_cons.mpr ⟨g_best_booked c KX Gh TB, List.forall_mem_cons.mpr ⟨g_chance_full c KX Gh TB, List.forall_mem_cons.mpr ⟨g_seen_chance c KX Gh TB, List.forall_mem_cons.mpr ⟨g_law_dice c KX Gh TB, List.forall_mem_cons.mpr ⟨g_law_roll c KX Gh TB, List.forall_mem_cons.mpr ⟨g_law_rounds c KX Gh TB, List.forall_mem_cons.mpr ⟨g_law_told c KX Gh TB, List.forall_mem_cons.mpr ⟨g_law_least c KX Gh TB, List.forall_mem_cons.mpr ⟨g_law_tops c KX Gh TB, List.forall_mem_cons.mpr ⟨g_law_plain c KX Gh TB, List.forall_mem_cons.mpr ⟨g_law c KX Gh TB, List.forall_mem_cons.mpr ⟨(show Good P w K mg base ("MOST_BOOKED", .cst 0) from int_gb (P := P) (k := 0) (W := W0) (F := F0 K) (base := base) (w := w) c.t.d KX Gh rfl (fmem 23)), List.forall_mem_cons.mpr ⟨(show Good P w K mg base ("HotelError", .exc 0) from exc_gb (P := P) (k := 0) (W := W0) (F := F0 K) (base := base) (w := w) c.t.d KX Gh rfl (fmem 16) (fmem 18)), List.forall_mem_cons.mpr ⟨(show Good P w K mg base ("ClaimError", .exc 1) from exc_gb (P := P) (k := 0) (W := W0) (F := F0 K) (base := base) (w := w) c.t.d KX Gh rfl (fmem 17) (fmem 19)), List.forall_mem_cons.mpr ⟨(show Good P w K mg base ("abs", .blt) from free_gb (P := P) (k := 0) (W := W0) (F := F0 K) (base := base) (w := w) c.t.d KX Gh (fmem 24)), List.forall_mem_cons.mpr ⟨(show Good P w K mg base ("enumerate", .blt) from free_gb (P := P) (k := 0) (W := W0) (F := F0 K) (base := base) (w := w) c.t.d KX Gh (fmem 25)), List.forall_mem_cons.mpr ⟨(show Good P w K mg base ("int", .blt) from free_gb (P := P) (k := 0) (W := W0) (F := F0 K) (base := base) (w := w) c.t.d KX Gh (fmem 26)), List.forall_mem_cons.mpr ⟨(show Good P w K mg base ("len", .blt) from free_gb (P := P) (k := 0) (W := W0) (F := F0 K) (base := base) (w := w) c.t.d KX Gh (fmem 27)), List.forall_mem_cons.mpr ⟨(show Good P w K mg base ("max", .blt) from free_gb (P := P) (k := 0) (W := W0) (F := F0 K) (base := base) (w := w) c.t.d KX Gh (fmem 28)), List.forall_mem_cons.mpr ⟨(show Good P w K mg base ("min", .blt) from free_gb (P := P) (k := 0) (W := W0) (F := F0 K) (base := base) (w := w) c.t.d KX Gh (fmem 29)), List.forall_mem_cons.mpr ⟨(show Good P w K mg base ("range", .blt) from free_gb (P := P) (k := 0) (W := W0) (F := F0 K) (base := base) (w := w) c.t.d KX Gh (fmem 30)), List.forall_mem_cons.mpr ⟨(show Good P w K mg base ("sum", .blt) from free_gb (P := P) (k := 0) (W := W0) (F := F0 K) (base := base) (w := w) c.t.d KX Gh (fmem 31)), List.forall_mem_cons.mpr ⟨(show Good P w K mg base ("tuple", .blt) from free_gb (P := P) (k := 0) (W := W0) (F := F0 K) (base := base) (w := w) c.t.d KX Gh (fmem 32)), fun _ z => nomatch z⟩⟩⟩⟩⟩⟩⟩⟩⟩⟩⟩⟩⟩⟩⟩⟩⟩⟩⟩⟩⟩⟩⟩⟩⟩⟩⟩⟩
theorem lev (c : He.SaysX fa fn [] tf ex w h K) (KX : K.In h) (Gh : h.Ns mainGlobals mg) (TB : ∀ p ∈ tg ++ tl.map (·.1), LamX.TabB base mg (He.cT K p).1 (He.cT K p).2) {P : Program} : ∀ k x gb, G.lookup x = some gb → GbOk P w K mg base (F0 K) (Wk k) (3 * k) x gb :=
  all_lv rfl (fun x f ps e => goods c KX Gh TB (P := P) (x, .fn f ps) (PySem.mem_of_lookup e)) fun x gb e hn => by
    have z := goods c KX Gh TB (P := P) (x, gb) (PySem.mem_of_lookup e)
    cases gb with
    | fn f ps => exact absurd rfl (hn f ps)
    | _ => exact z
theorem lawAt {a : Addr} (c : He.SaysX fa fn [] tf ex w h K) (KX : K.In h) (Gh : h.Ns mainGlobals mg) (ha : mg ("law" : Str) = some (.ref a)) : LamX.LawAtS PySem.Challenge.rw_hotelstack_k05_claims_of_those_who_come w K (L2.CX (PySem.Challenge.rw_hotelstack_k05_claims_of_those_who_come).prog w) (3 * 5 + 3) 63 "script" mg a h :=
  law_at (d := dd "law" 21) (N := N_law) (gd := false) (ld := false) (F := F0 K) (W := Wk 5) (k := 3 * 5) (wr := wrT) c KX Gh rfl (fits c) rfl (dmem 15) rfl rfl ⟨rfl, rfl⟩ (fmem 15) ha (fun _ _ _ _ _ _ us hl => match us, hl with | [_], _ => rfl) m_law s_law (by decide) (fun z => by cases z) (fun z => by cases z) (fun ns hl hb => law_true ns) fun base hK hN TB => lev c KX Gh TB 5
end
end Ev.T_k05
open PySem PySem.W PySem.Calls PyProof.Rows
theorem PySem.Challenge.cw_hotelstack_k05_claims_of_those_who_come_holds : PySem.Challenge.rw_hotelstack_k05_claims_of_those_who_come.Holds := by
  w_on; o_law
  refine HandSHeadRun.head_any (r := OpenLaw.row PySem.Challenge.rw_hotelstack_k05_claims_of_those_who_come) (q := view (OpenLaw.row PySem.Challenge.rw_hotelstack_k05_claims_of_those_who_come).prog [21]) (H := Ev.T_k05.hk) (ob := Ev.T_k05.ob) (M := 2000) (loose := Ev.T_k05.loose) (d := HandSHeadRun.topDef (OpenLaw.row PySem.Challenge.rw_hotelstack_k05_claims_of_those_who_come).prog 21) (kwd := []) Ev.T_k05.ob_eq
    (by kernel_rfl) (fun s => by kernel_rfl) Ev.T_k05.run (by kernel_rfl) (by kernel_rfl) (by kernel_rfl) (by rfl) (by first | assumption | decide +kernel) (by decide +kernel) ⟨rfl, rfl, rfl, rfl, rfl, by decide +kernel⟩ ?hw ?hc
  case hw => w_witness2
  case hc =>
    refine LamX.walk_ofTsE (l := PySem.Challenge.rw_hotelstack_k05_claims_of_those_who_come) (n := 63) (k := 3 * 5 + 3) (x := "script") (CX := fun w => L2.CX (PySem.Challenge.rw_hotelstack_k05_claims_of_those_who_come).prog w) rfl (by decide) (by kernel_rfl) ⟨rfl, by decide, by decide⟩ ?F ?hCX
    case F =>
      intro w mg fa h Y Gh hmg0
      obtain ⟨K, KX, c⟩ := Y
      have hmg : mg ("law" : PySem.Str) = some (.ref fa) := by
        have e : (HandSHeadRun.topDef (OpenLaw.row PySem.Challenge.rw_hotelstack_k05_claims_of_those_who_come).prog 21).name = ("law" : PySem.Str) := by kernel_rfl
        rw [← e]
        exact hmg0
      exact ⟨K, KX, Ev.T_k05.lawAt c KX Gh hmg⟩
    case hCX =>
      rintro w H s e s' ⟨a, B, H', cls, d, _, _, _, _, _, _, _, z⟩
      exact z
