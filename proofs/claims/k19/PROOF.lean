import PyProof.Rows.All
import Wide.All
import OpenK.AllK
import Wide.FinOn
import HandS.ForMost
import HandS.Deep
import HandS.Rev
import HandS.SortInts
import HandS.SortRule
import HandS.SortKw
import HandS.TupLe
import HandS.IsInst
import HandS.SetFor
import HandS.Conv
import HandS.EndBits
import HandS.ListItems
import HandS.Lambda
import KE.DatumOrd
import KE.DatumIndex
import KE.SortData
import KE.KRevIter
import HandS.Zip
import HandS.RevTup
import HandS.SetKeys
import KE.KDictList
import PyProof.StrBlock2
import HandS.Nested
import KE.KSortKey
import KE.SortKeyHeap
import HandS.EndTab
import PySem.Challenge.RW_hedgerow_k19_whole_sorts_and_turnings
set_option linter.all false
section
/-! Val: a small Python over values. Plain data D, expressions E, tests T, iterables It, statements S; an evaluator without a heap. Plain Lean, no library. -/
set_option autoImplicit false
namespace Hg
noncomputable section

abbrev Ky := Sum Int (List Nat)
inductive D where
  | non | bl (b : Bool) | int (i : Int) | str (s : List Nat) | tup (xs : List D) | lst (xs : List D) | dic (kvs : List (Ky × D))
/-- what is known of a value: it stays as it is; a local's own object (its items stay; its items are its own too); one lent by the caller; a new one -/
inductive Kd where | frz | own1 | own2 | lent | new1 | new2
  deriving DecidableEq
inductive Slot where | un | val (d : D) (k : Kd)
abbrev Env := List Slot
inductive Ty where | int | bool | str | lst | tup
inductive CO where | lt | le
inductive Tg where | nm (i : Nat) | tp (is : List Nat)

mutual
inductive E where
  | var (i : Nat) | c (d : D)
  | add (a b : E) | sub (a b : E) | mul (a b : E) | mulS (a b : E) | mulL (a b : E) | md (a b : E) | fd (a b : E) | pow (a b : E) | neg (a : E)
  | lt (a b : E) | le (a b : E) | gt (a b : E) | ge (a b : E) | eq (a b : E) | ne (a b : E) | isN (a : E) | notN (a : E) | mem (a b : E) | nmem (a b : E) | ltL (a b : E) | leL (a b : E) | gtL (a b : E) | geL (a b : E)
  | ch (o1 o2 : CO) (a b c : E)
  | and_ (a b : E) | or_ (a b : E) | one (a : E) | not_ (a : E) | ite (t : T) (a b : E)
  | ix (a b : E) | sl (a : E) (lo hi : O)
  | tup (es : Es) | lst (es : Es) | dic0 | dic2 (ks vs : Es)
  | call (f : Nat) (mask : List Bool) (es : Es)
  | len (a : E) | sum (a : E) | max1 (a : E) | maxS (a : E) | min1 (a : E) | max2 (a b : E) | min2 (a b : E) | maxd (a : E)
  | sorted (a : E) | sortedD (a : E) | sortedK0 (a : E) | sortedR (a : E) | sortedK (a : E) (i : Nat)
  | list (a : E) | listRng (a : E) | listRev (a : E) | listVals (a : E) | listKeys (a : E) | tuple (a : E) | dictP (a : E) | strI (a : E) | intE (a : E) | intT (a : E)
  | isin (a : E) (t : Ty) | lenset (a : E) | sortset (a : E)
  | join (s a : E) | split (a s : E) | find (a b i : E) | get (a k x : E) | index (a b : E)
  | comp (deep : Bool) (elt : E) (tg : Tg) (it : It) (cond : T)
inductive Es where | nil | cons (e : E) (r : Es)
inductive O where | no | so (e : E)
inductive T where | yes | val (e : E) | tru (e : E) | and_ (a b : T) | or_ (a b : T) | one (a : T) | not_ (a : T)
inductive It where | lst (e : E) | rng1 (a : E) | rng2 (a b : E) | enum (e : E) | enumS (e : E) | rev (e : E) | zip (a b : E) | items (e : E) | cst (xs : List D)
end

def Es.count : Es → Nat | .nil => 0 | .cons _ r => Es.count r + 1
inductive S where
  | skip | seq (a b : S) | asg (i m : Nat) (e : E) | asgT (is : List Nat) (e : E) | asgIx (i : Nat) (e1 e2 : E)
  | app (i : Nat) (e : E) | appIx (i : Nat) (e1 e2 : E) | ext (i : Nat) (e : E)
  | pop (tg : Option Tg) (y : Nat) (at0 : Bool) | dpop (y : Nat) (e k : E) | rem (y : Nat) (e : E) | setdef (y : Nat) (k v : E) | setdefApp (y : Nat) (k e : E) | newD (y : Nat) | retV (y : Nat)
  | ret (e : E) | ite (t : T) (a b : S) | wh (t : T) (s : S) | for_ (tg : Tg) (it : It) (s : S) | drop (e : E)
  | frz (is : List Nat) | kill (is : List Nat) | never | tryN (s : S)

/-! ### plain operations -/
def D.atom : D → Bool | .non => true | .bl _ => true | .int _ => true | .str _ => true | _ => false
def D.isNon : D → Bool | .non => true | _ => false
/-- lists and texts are at most so long -/
def L : Nat := 100000
mutual
def eqD : D → D → Bool
  | .non, .non => true
  | .bl a, .bl b => a == b
  | .bl a, .int j => (if a then 1 else 0) == j
  | .int i, .bl b => i == (if b then 1 else 0)
  | .int i, .int j => i == j
  | .str x, .str y => x == y
  | .lst xs, .lst ys => eqDs xs ys
  | .tup xs, .tup ys => eqDs xs ys
  | _, _ => false
def eqDs : List D → List D → Bool
  | [], [] => true
  | x :: xs, y :: ys => eqD x y && eqDs xs ys
  | _, _ => false
end
/-- no dicts, at most so deep -/
def plainD : Nat → D → Bool
  | _, .non => true
  | _, .bl _ => true
  | _, .int _ => true
  | _, .str s => s.all fun c => decide (c < 128)
  | n + 1, .tup xs => xs.all (plainD n)
  | n + 1, .lst xs => xs.all (plainD n)
  | _, _ => false
def PD : Nat := 8
/-- the place that an index means -/
def ixN (n : Nat) (i : Int) : Option Nat := if 0 ≤ i then (if i < n then some i.toNat else none) else if -(n : Int) ≤ i then some (i + n).toNat else none
def getIx {α : Type} (xs : List α) (i : Int) : Option α := (ixN xs.length i).bind fun j => xs[j]?
def cutIx (n d : Nat) : Option Int → Nat
  | none => d
  | some v => if v < 0 then (v + (n : Int)).toNat else min v.toNat n
def cut {α : Type} (xs : List α) (lo hi : Option Int) : List α := (xs.drop (cutIx xs.length 0 lo)).take (cutIx xs.length xs.length hi - cutIx xs.length 0 lo)
def keyD : D → Option Ky | .int i => some (.inl i) | .str s => some (.inr s) | _ => none
def kyD : Ky → D | .inl i => .int i | .inr s => .str s
def look {α : Type} (kvs : List (Ky × α)) (k : Ky) : Option α := (kvs.find? fun kv => decide (kv.1 = k)).map (·.2)
def put {α : Type} (kvs : List (Ky × α)) (k : Ky) (v : α) : List (Ky × α) :=
  if (kvs.any fun kv => decide (kv.1 = k)) = true then kvs.map (fun kv => if kv.1 = k then (kv.1, v) else kv) else kvs ++ [(k, v)]
/-- d.setdefault(k, []).append(v) -/
def growD : List (Ky × D) → Ky → D → Option (List (Ky × D))
  | [], k, v => some [(k, .lst [v])]
  | p :: r, k, v => if p.1 = k then (match p.2 with | .lst ys => if ys.length < L then some ((p.1, .lst (ys ++ [v])) :: r) else none | _ => none) else (growD r k v).map (p :: ·)
def once (ns : List Int) : List Int := ns.foldl (fun acc x => if x ∈ acc then acc else acc ++ [x]) []
def dropKy {α : Type} (kvs : List (Ky × α)) (k : Ky) : List (Ky × α) := kvs.filter fun kv => decide (kv.1 ≠ k)
def mergeKy {α : Type} (kvs more : List (Ky × α)) : List (Ky × α) := more.foldl (fun acc kv => put acc kv.1 kv.2) kvs
def asInt : D → Option Int | .int i => some i | _ => none
def asStr : D → Option (List Nat) | .str s => some s | _ => none
def asBl : D → Option Bool | .bl b => some b | _ => none
def asPair : D → Option (Int × Int) | .tup [.int i, .int j] => some (i, j) | _ => none
def pairD (p : Int × Int) : D := .tup [.int p.1, .int p.2]
def optAll {α β : Type} (f : α → Option β) : List α → Option (List β)
  | [] => some []
  | x :: xs => (f x).bind fun y => (optAll f xs).bind fun ys => some (y :: ys)
def intsD (xs : List D) : Option (List Int) := optAll asInt xs
def strsD (xs : List D) : Option (List (List Nat)) := optAll asStr xs
def pairsD (xs : List D) : Option (List (Int × Int)) := optAll asPair xs
/-- texts and lists of numbers by their first difference -/
def lexS : List Nat → List Nat → Bool
  | [], [] => false
  | [], _ :: _ => true
  | _ :: _, [] => false
  | x :: xs, y :: ys => if x = y then lexS xs ys else decide (x < y)
def lexI : List Int → List Int → Bool
  | [], [] => false
  | [], _ :: _ => true
  | _ :: _, [] => false
  | x :: xs, y :: ys => if x = y then lexI xs ys else decide (x < y)
def leP (p q : Int × Int) : Bool := decide (p.1 < q.1 ∨ (p.1 = q.1 ∧ p.2 ≤ q.2))
def sortI (xs : List Int) : List Int := xs.mergeSort fun a b => decide (a ≤ b)
def sortS (xs : List (List Nat)) : List (List Nat) := xs.mergeSort fun a b => !lexS b a
def sortP (xs : List (Int × Int)) : List (Int × Int) := xs.mergeSort leP
def sortD (xs : List D) : Option (List D) :=
  match intsD xs with
  | some ns => some ((sortI ns).map D.int)
  | none => (pairsD xs).map fun ps => (sortP ps).map pairD
def ltA : D → D → Option Bool
  | .int i, .int j => some (decide (i < j))
  | .str x, .str y => some (lexS x y)
  | _, _ => none
def ltD : D → D → Option Bool
  | .int i, .int j => some (decide (i < j))
  | .str x, .str y => some (lexS x y)
  | .tup xs, .tup ys => (intsD xs).bind fun ns => (intsD ys).bind fun ms => some (lexI ns ms)
  | .lst xs, .lst ys => (intsD xs).bind fun ns => (intsD ys).bind fun ms => some (lexI ns ms)
  | _, _ => none
def addD : D → D → Option D
  | .int i, .int j => some (.int (i + j))
  | .str x, .str y => if x.length + y.length ≤ L then some (.str (x ++ y)) else none
  | .lst x, .lst y => if x.length + y.length ≤ L then some (.lst (x ++ y)) else none
  | _, _ => none
theorem mulOk_ex : ∃ f : Int → Int → Bool, ∀ i j, f i j = true ↔ ((-(2 ^ 64) < i ∧ i < 2 ^ 64) ∨ (-(2 ^ 64) < j ∧ j < 2 ^ 64)) :=
  ⟨fun i j => decide ((-(2 ^ 64) < i ∧ i < 2 ^ 64) ∨ (-(2 ^ 64) < j ∧ j < 2 ^ 64)), fun _ _ => decide_eq_true_iff⟩
/-- one of the two is small; not to be unfolded -/
def mulOk : Int → Int → Bool := Classical.choose mulOk_ex
theorem mulOk_iff (i j : Int) : mulOk i j = true ↔ ((-(2 ^ 64) < i ∧ i < 2 ^ 64) ∨ (-(2 ^ 64) < j ∧ j < 2 ^ 64)) := Classical.choose_spec mulOk_ex i j
def mulD : D → D → Option D
  | .str x, .int j => if 0 ≤ j ∧ j ≤ 1000 ∧ x.length * j.toNat ≤ L then some (.str (List.replicate j.toNat x).flatten) else none
  | _, _ => none
def memD (x : D) : D → Option Bool
  | .lst xs => if plainD PD x ∧ plainD PD (.lst xs) then some (xs.any fun y => eqD y x) else none
  | .tup xs => if x.atom ∧ xs.all D.atom then some (xs.any fun y => eqD y x) else none
  | .dic kvs => (keyD x).map fun k => (look kvs k).isSome
  | .str s => match x with | .str [c] => some (decide (c ∈ s)) | _ => none
  | _ => none
def truD : D → Option Bool
  | .non => some false
  | .bl b => some b
  | .int i => some (i != 0)
  | .str s => some (!s.isEmpty)
  | .lst xs => some (!xs.isEmpty)
  | .tup xs => some (!xs.isEmpty)
  | .dic kvs => some (!kvs.isEmpty)
def truL : D → Option Bool
  | .str s => if s.length ≤ L then some (!s.isEmpty) else none
  | d => truD d
def lenD : D → Option Int
  | .str s => some s.length
  | .lst xs => some xs.length
  | .tup xs => some xs.length
  | .dic kvs => some kvs.length
  | _ => none
def lenL : D → Option Int
  | .str s => if s.length ≤ L then some s.length else none
  | d => lenD d
def isTy : D → Ty → Bool
  | .int _, .int => true | .bl _, .int => true | .bl _, .bool => true | .str _, .str => true | .lst _, .lst => true | .tup _, .tup => true
  | _, _ => false
def maxL : List Int → Option Int | [] => none | x :: xs => some (xs.foldl max x)
def minL : List Int → Option Int | [] => none | x :: xs => some (xs.foldl min x)
def maxS : List (List Nat) → Option (List Nat) | [] => none | x :: xs => some (xs.foldl (fun a b => if lexS a b then b else a) x)
def glue (sep : List Nat) : List (List Nat) → List Nat
  | [] => []
  | [x] => x
  | x :: y :: r => x ++ sep ++ glue sep (y :: r)
def enumFrom (n : Nat) : List D → List D
  | [] => []
  | x :: xs => .tup [.int n, x] :: enumFrom (n + 1) xs
def zipD : List D → List D → List D
  | x :: xs, y :: ys => .tup [x, y] :: zipD xs ys
  | _, _ => []
def rngD (a : Int) (n : Nat) : List D := (List.range n).map fun i => .int (a + (i : Nat))
/-- the decimal figures of a number below 10^10 or so -/
def strOf (i : Int) : List Nat := (toString i).toList.map Char.toNat

/-- the parts of a text between signs -/
def splitC (c : Nat) : List Nat → List Nat → List (List Nat)
  | acc, [] => [acc]
  | acc, x :: r => if x = c then acc :: splitC c [] r else splitC c (acc ++ [x]) r
def digit (c : Nat) : Option Int := if 48 ≤ c ∧ c ≤ 57 then some (c - 48 : Nat) else none
def intOf : List Nat → Option Int
  | [a] => digit a
  | [a, b] => (digit a).bind fun i => (digit b).map fun j => 10 * i + j
  | _ => none
/-! ### kinds -/
def subK : Kd → Kd | .own2 => .own1 | .lent => .lent | _ => .frz
/-- a value that may be kept -/
def vm : Option (D × Kd) → Option D
  | some (d, k) => if k = .frz ∨ k = .new1 ∨ k = .new2 ∨ d.atom = true then some d else none
  | none => none
/-- one whose items may be kept -/
def em : Option (D × Kd) → Option D
  | some (d, k) => if k = .frz ∨ k = .new1 ∨ k = .new2 ∨ k = .own1 ∨ d.atom = true then some d else none
  | none => none
/-- one that is only looked at -/
def bm : Option (D × Kd) → Option D
  | some (d, _) => some d
  | none => none
def fr (o : Option D) : Option (D × Kd) := o.map fun d => (d, .frz)
def frB (o : Option Bool) : Option (D × Kd) := o.map fun d => (.bl d, .frz)
def frI (o : Option Int) : Option (D × Kd) := o.map fun d => (.int d, .frz)
def kdOf : D → Kd | .lst _ => .new1 | .dic _ => .new1 | _ => .frz
def nw (o : Option D) : Option (D × Kd) := o.map fun d => (d, kdOf d)
def setSlots : List Nat → List D → Env → Option Env
  | [], [], env => some env
  | i :: is, d :: ds, env => setSlots is ds (env.set i (.val d .frz))
  | _, _, _ => none
def bindT : Tg → D → Env → Option Env
  | .nm i, d, env => some (env.set i (.val d .frz))
  | .tp is, .tup ds, env => setSlots is ds env
  | _, _, _ => none
def unset (is : List Nat) (env : Env) : Env := is.foldl (fun (e : Env) (i : Nat) => e.set i .un) env
def Tg.slots : Tg → List Nat | .nm i => [i] | .tp is => is
def coB : CO → Int → Int → Bool | .lt, i, j => decide (i < j) | .le, i, j => decide (i ≤ j)
/-- the items that a comprehension gives -/
def compL (f : D → Option (Option (D × Kd))) : List D → Option (List (D × Kd))
  | [] => some []
  | x :: xs => (f x).bind fun o => (compL f xs).bind fun r => some (match o with | some p => p :: r | none => r)
def keepD (p : D × Kd) : Option D := vm (some p)
def isNew1 (p : D × Kd) : Bool := decide (p.2 = .new1)
def compR (deep : Bool) (ps : List (D × Kd)) : Option (D × Kd) :=
  if ps.length < L then
    if deep then (if ps.all isNew1 then some (.lst (ps.map (·.1)), .new2) else none)
    else (optAll keepD ps).map fun ds => (.lst ds, .new1)
  else none
def addK (o : Option D) : Option (D × Kd) := nw o

/-! ### the evaluator -/
section
variable (C : Nat → List D → Option D)
mutual
def ev : E → Env → Option (D × Kd)
  | .var i, env => match env[i]? with | some (.val d k) => some (d, k) | _ => none
  | .c d, _ => if d.atom then some (d, .frz) else none
  | .add a b, env => nw ((em (ev a env)).bind fun x => (em (ev b env)).bind fun y => addD x y)
  | .sub a b, env => (bm (ev a env)).bind fun x => (bm (ev b env)).bind fun y => frI ((asInt x).bind fun i => (asInt y).map fun j => i - j)
  | .mul a b, env => nw ((em (ev a env)).bind fun x => (em (ev b env)).bind fun y => match x, y with | .int i, .int j => if mulOk i j then some (.int (i * j)) else none | _, _ => none)
  | .mulS a b, env => nw ((em (ev a env)).bind fun x => (em (ev b env)).bind fun y => mulD x y)
  | .mulL a b, env => (ev a env).bind fun p => (bm (ev b env)).bind fun y => match p.1, p.2, y with
      | .lst xs, .new1, .int j => if 0 ≤ j ∧ j ≤ 1000 ∧ xs.length * j.toNat ≤ L then some (.lst (List.replicate j.toNat xs).flatten, .new1) else none
      | _, _, _ => none
  | .md a b, env => (bm (ev a env)).bind fun x => (bm (ev b env)).bind fun y => frI ((asInt x).bind fun i => (asInt y).bind fun j => if 0 < j then some (i % j) else none)
  | .fd a b, env => (bm (ev a env)).bind fun x => (bm (ev b env)).bind fun y => frI ((asInt x).bind fun i => (asInt y).bind fun j => if 0 < j ∧ j < 1073741824 then some (i / j) else none)
  | .pow a b, env => (bm (ev a env)).bind fun x => (bm (ev b env)).bind fun y => frI ((asInt x).bind fun i => (asInt y).bind fun j => if 0 ≤ j ∧ j ≤ 1000 ∧ i.natAbs < 1000 then some (i ^ j.toNat) else none)
  | .neg a, env => frI ((bm (ev a env)).bind fun x => (asInt x).map fun i => -i)
  | .lt a b, env => (bm (ev a env)).bind fun x => (bm (ev b env)).bind fun y => frB (ltA x y)
  | .le a b, env => (bm (ev a env)).bind fun x => (bm (ev b env)).bind fun y => frB ((ltA y x).map fun r => !r)
  | .gt a b, env => (bm (ev a env)).bind fun x => (bm (ev b env)).bind fun y => frB (ltA y x)
  | .ge a b, env => (bm (ev a env)).bind fun x => (bm (ev b env)).bind fun y => frB ((ltA x y).map fun r => !r)
  | .ltL a b, env => (bm (ev a env)).bind fun x => (bm (ev b env)).bind fun y => frB (ltD x y)
  | .leL a b, env => (bm (ev a env)).bind fun x => (bm (ev b env)).bind fun y => frB ((ltD y x).map fun r => !r)
  | .gtL a b, env => (bm (ev a env)).bind fun x => (bm (ev b env)).bind fun y => frB (ltD y x)
  | .geL a b, env => (bm (ev a env)).bind fun x => (bm (ev b env)).bind fun y => frB ((ltD x y).map fun r => !r)
  | .eq a b, env => (bm (ev a env)).bind fun x => (bm (ev b env)).bind fun y => if plainD PD x ∧ plainD PD y then some (.bl (eqD x y), .frz) else none
  | .ne a b, env => (bm (ev a env)).bind fun x => (bm (ev b env)).bind fun y => if plainD PD x ∧ plainD PD y then some (.bl (!eqD x y), .frz) else none
  | .isN a, env => (bm (ev a env)).bind fun x => some (.bl x.isNon, .frz)
  | .notN a, env => (bm (ev a env)).bind fun x => some (.bl (!x.isNon), .frz)
  | .mem a b, env => (bm (ev a env)).bind fun x => (bm (ev b env)).bind fun y => frB (memD x y)
  | .nmem a b, env => (bm (ev a env)).bind fun x => (bm (ev b env)).bind fun y => frB ((memD x y).map fun r => !r)
  | .ch o1 o2 a b c, env => (bm (ev a env)).bind fun x => (bm (ev b env)).bind fun y => (asInt x).bind fun i => (asInt y).bind fun j =>
      if coB o1 i j then (bm (ev c env)).bind fun z => (asInt z).bind fun k => some (.bl (coB o2 j k), .frz) else some (.bl false, .frz)
  | .and_ a b, env => (bm (ev a env)).bind fun x => (asBl x).bind fun p => if p then ((bm (ev b env)).bind fun y => (asBl y).bind fun q => some (.bl q, .frz)) else some (.bl false, .frz)
  | .or_ a b, env => (bm (ev a env)).bind fun x => (asBl x).bind fun p => if p then some (.bl true, .frz) else ((bm (ev b env)).bind fun y => (asBl y).bind fun q => some (.bl q, .frz))
  | .one a, env => ev a env
  | .not_ a, env => (bm (ev a env)).bind fun x => (asBl x).bind fun p => some (.bl (!p), .frz)
  | .ite t a b, env => (evT t env).bind fun p => if p then fr (vm (ev a env)) else fr (vm (ev b env))
  | .ix a b, env => (ev a env).bind fun p => (bm (ev b env)).bind fun y => match p.1 with
      | .lst xs => (asInt y).bind fun i => (getIx xs i).map fun d => (d, subK p.2)
      | .tup xs => (asInt y).bind fun i => (getIx xs i).map fun d => (d, subK p.2)
      | .dic kvs => (keyD y).bind fun k => (look kvs k).map fun d => (d, subK p.2)
      | .str s => (asInt y).bind fun i => if s.length ≤ L then (getIx s i).map fun d => (.str [d], .frz) else none
      | _ => none
  | .sl a lo hi, env => (em (ev a env)).bind fun x => (evO lo env).bind fun l => (evO hi env).bind fun h => match x with
      | .lst xs => some (.lst (cut xs l h), .new1)
      | .str s => if s.length ≤ L then some (.str (cut s l h), .frz) else none
      | _ => none
  | .tup es, env => (evs es env).bind fun ds => if ds.length ≤ L then some (.tup ds, .frz) else none
  | .lst es, env => (evs es env).bind fun ds => if ds.length ≤ L then some (.lst ds, .new1) else none
  | .dic0, _ => some (.dic [], .new1)
  | .dic2 ks vs, env => (evs ks env).bind fun ds => (evs vs env).bind fun es => (optAll keyD ds).bind fun kk => if kk.length = es.length ∧ kk.length ≤ 8 then some (.dic (mergeKy [] (kk.zip es)), .new1) else none
  | .call f mask es, env => (evm mask es env).bind fun ds => fr (C f ds)
  | .len a, env => frI ((bm (ev a env)).bind lenL)
  | .sum a, env => (bm (ev a env)).bind fun x => match x with | .lst xs => frI ((intsD xs).map fun ns => ns.sum) | _ => none
  | .max1 a, env => (bm (ev a env)).bind fun x => match x with | .lst xs => frI ((intsD xs).bind maxL) | _ => none
  | .maxS a, env => (bm (ev a env)).bind fun x => match x with | .lst xs => fr (((strsD xs).bind maxS).map D.str) | _ => none
  | .min1 a, env => (bm (ev a env)).bind fun x => match x with | .lst xs => frI ((intsD xs).bind minL) | _ => none
  | .max2 a b, env => (bm (ev a env)).bind fun x => (bm (ev b env)).bind fun y => frI ((asInt x).bind fun i => (asInt y).map fun j => max i j)
  | .min2 a b, env => (bm (ev a env)).bind fun x => (bm (ev b env)).bind fun y => frI ((asInt x).bind fun i => (asInt y).map fun j => min i j)
  | .maxd a, env => (bm (ev a env)).bind fun x => match x with | .lst xs => frI ((intsD xs).map fun ns => (maxL ns).getD 0) | _ => none
  | .sorted a, env => (em (ev a env)).bind fun x => match x with
      | .lst xs => if xs.length < L then (sortD xs).map fun ys => (.lst ys, .new1) else none
      | _ => none
  | .sortedD a, env => (bm (ev a env)).bind fun x => match x with
      | .dic kvs => if kvs.length < 64 then (intsD (kvs.map fun kv => kyD kv.1)).map fun ns => (.lst ((sortI ns).map D.int), .new1) else none
      | _ => none
  | .sortedK0 a, env => (bm (ev a env)).bind fun x => match x with
      | .dic kvs => if kvs.length < L then (strsD (kvs.map fun kv => kyD kv.1)).map fun ss => (.lst ((sortS ss).map D.str), .new1) else none
      | _ => none
  | .sortedR a, env => (bm (ev a env)).bind fun x => match x with | .lst xs => if xs.length < L then (strsD xs).map fun ss => (.lst ((sortS ss).reverse.map D.str), .new1) else none | _ => none
  | .sortedK a i, env => (bm (ev a env)).bind fun x => match x, env[i]? with
      | .lst xs, some (.val (.lst cs) k) => if xs.length < L then (intsD xs).bind fun ns => (strsD cs).bind fun ss =>
          if ns.all (fun n => decide (0 ≤ n ∧ n < ss.length)) then some (.lst ((ns.mergeSort fun a b => !lexS (ss.getD a.toNat []) (ss.getD b.toNat [])).map D.int), .new1) else none else none
      | _, _ => none
  | .list a, env => (em (ev a env)).bind fun x => match x with | .lst xs => some (.lst xs, .new1) | .tup xs => some (.lst xs, .new1) | _ => none
  | .listRng a, env => (bm (ev a env)).bind fun x => (asInt x).bind fun n => if 0 ≤ n ∧ n ≤ 1000 then some (.lst (rngD 0 n.toNat), .new1) else none
  | .listRev a, env => (em (ev a env)).bind fun x => match x with | .lst xs => some (.lst xs.reverse, .new1) | _ => none
  | .listVals a, env => (em (ev a env)).bind fun x => match x with | .dic kvs => some (.lst (kvs.map (·.2)), .new1) | _ => none
  | .listKeys a, env => (bm (ev a env)).bind fun x => match x with | .dic kvs => some (.lst (kvs.map fun kv => kyD kv.1), .new1) | _ => none
  | .tuple a, env => (em (ev a env)).bind fun x => match x with | .lst xs => some (.tup xs, .frz) | .tup xs => some (.tup xs, .frz) | _ => none
  | .dictP a, env => (em (ev a env)).bind fun x => match x with
      | .lst xs => (optAll (fun d => match d with | .tup [k, v] => (keyD k).map fun k => (k, v) | _ => none) xs).bind fun kvs => if kvs.length < L then some (.dic (mergeKy [] kvs), .new1) else none
      | _ => none
  | .strI a, env => (bm (ev a env)).bind fun x => (asInt x).bind fun i => if 0 ≤ i ∧ i < 1000 then some (.str (strOf i), .frz) else none
  | .intE a, env => (bm (ev a env)).bind fun x => match x with | .bl b => some (.int (if b then 1 else 0), .frz) | _ => none
  | .isin a t, env => (bm (ev a env)).bind fun x => some (.bl (isTy x t), .frz)
  | .intT a, env => (bm (ev a env)).bind fun x => match x with | .str s => frI (intOf s) | _ => none
  | .lenset a, env => (bm (ev a env)).bind fun x => match x with | .lst xs => if xs.length ≤ 1000 then frI ((intsD xs).bind fun ns => if ns.Nodup then some (ns.length : Int) else none) else none | _ => none
  | .sortset a, env => (bm (ev a env)).bind fun x => match x with | .lst xs => if xs.length < 64 then (intsD xs).map fun ns => (.lst ((sortI (once ns)).map D.int), .new1) else none | _ => none
  | .join s a, env => (bm (ev s env)).bind fun x => (bm (ev a env)).bind fun y => match x, y with
      | .str z, .lst xs => (strsD xs).bind fun ss => if (ss.map List.length).sum + ss.length * z.length ≤ L then some (.str (glue z ss), .frz) else none
      | _, _ => none
  | .split a z, env => (bm (ev a env)).bind fun x => (bm (ev z env)).bind fun y => match x, y with
      | .str t, .str [c] => if t.length + 2 ≤ L ∧ c < 128 then some (.lst ((splitC c [] t).map D.str), .new1) else none
      | _, _ => none
  | .find _ _ _, _ => none
  | .get a k x, env => (em (ev a env)).bind fun y => (bm (ev k env)).bind fun q => (vm (ev x env)).bind fun z => match y with | .dic kvs => (keyD q).map fun kk => ((look kvs kk).getD z, .frz) | _ => none
  | .index a b, env => (bm (ev a env)).bind fun x => (bm (ev b env)).bind fun y => match x with
      | .lst xs => match intsD xs, asInt y with
        | some ns, some n => if xs.length ≤ 1000 ∧ n ∈ ns then some (.int (ns.idxOf n : Nat), .frz) else none
        | _, _ => match pairsD xs, asPair y with
          | some ps, some q => if xs.length ≤ 1000 ∧ q ∈ ps then some (.int (ps.idxOf q : Nat), .frz) else none
          | _, _ => none
      | _ => none
  | .comp deep elt tg it cond, env => (evI it (unset tg.slots env)).bind fun xs => (compL (fun d => (bindT tg d (unset tg.slots env)).bind fun e1 => (evT cond e1).bind fun p => if p then (ev elt e1).map some else some none) xs.1).bind (compR deep)
def evs : Es → Env → Option (List D)
  | .nil, _ => some []
  | .cons e r, env => (vm (ev e env)).bind fun d => (evs r env).bind fun ds => some (d :: ds)
/-- arguments: those that the callee is lent are only looked at -/
def evm : List Bool → Es → Env → Option (List D)
  | _, .nil, _ => some []
  | m, .cons e r, env => (if m.headD false then bm (ev e env) else vm (ev e env)).bind fun d => (evm m.tail r env).bind fun ds => some (d :: ds)
def evO : O → Env → Option (Option Int)
  | .no, _ => some none
  | .so e, env => (bm (ev e env)).bind fun x => (asInt x).map some
def evT : T → Env → Option Bool
  | .yes, _ => some true
  | .val e, env => (bm (ev e env)).bind asBl
  | .tru e, env => (bm (ev e env)).bind truL
  | .and_ a b, env => (evT a env).bind fun p => if p then evT b env else some false
  | .or_ a b, env => (evT a env).bind fun p => if p then some true else evT b env
  | .one a, env => evT a env
  | .not_ a, env => (evT a env).map fun p => !p
/-- the items, and whether they are a local's own object's -/
def evI : It → Env → Option (List D × Bool)
  | .lst e, env => (ev e env).bind fun p => match p.1 with
      | .lst xs => if p.2 = .own2 then none else if p.2 = .lent then (if xs.all D.atom then some (xs, false) else none) else some (xs, decide (p.2 = .own1))
      | .tup xs => if p.2 = .frz then some (xs, false) else none
      | .str s => some (s.map fun c => .str [c], false)
      | _ => none
  | .rng1 a, env => (bm (ev a env)).bind fun x => (asInt x).bind fun n => if -1000000 ≤ n ∧ n ≤ 1000000 then some (rngD 0 n.toNat, false) else none
  | .rng2 a b, env => (bm (ev a env)).bind fun x => (bm (ev b env)).bind fun y => (asInt x).bind fun m => (asInt y).bind fun n =>
      if -1000000 ≤ m ∧ m ≤ 1000000 ∧ -1000000 ≤ n ∧ n ≤ 1000000 then some (rngD m (n - m).toNat, false) else none
  | .enum e, env => (ev e env).bind fun p => match p.1 with
      | .lst xs => if p.2 = .own2 ∨ p.2 = .lent then none else some (enumFrom 0 xs, decide (p.2 = .own1))
      | _ => none
  | .enumS e, env => (bm (ev e env)).bind fun x => match x with
      | .str s => some (enumFrom 0 (s.map fun c => D.str [c]), false)
      | _ => none
  | .rev e, env => (ev e env).bind fun p => match p.1 with
      | .lst xs => if p.2 = .own2 ∨ p.2 = .lent then none else some (xs.reverse, decide (p.2 = .own1))
      | _ => none
  | .zip a b, env => (ev a env).bind fun p => (ev b env).bind fun q => match p.1, q.1 with
      | .lst xs, .lst ys => if p.2 = .frz ∧ q.2 = .frz then some (zipD xs ys, false) else none
      | _, _ => none
  | .cst xs, _ => some (xs, true)
  | .items e, env => (ev e env).bind fun p => match p.1 with
      | .dic kvs => if p.2 = .own1 then some (kvs.map fun kv => .tup [kyD kv.1, kv.2], true) else none
      | _ => none
end

inductive Out where | nx (e : Env) | rt (d : D)
def andThen (o : Option Out) (f : Env → Option Out) : Option Out := match o with | some (.nx e) => f e | r => r
def loopF (f : D → Env → Option Out) : List D → Env → Option Out
  | [], env => some (.nx env)
  | x :: xs, env => andThen (f x env) (loopF f xs)
def loopW (t : Env → Option Bool) (f : Env → Option Out) : Nat → Env → Option Out
  | 0, _ => none
  | n + 1, env => (t env).bind fun p => if p then andThen (f env) (loopW t f n) else some (.nx env)
def freeze1 (env : Env) (i : Nat) : Env := match env[i]? with | some (.val d .own1) => env.set i (.val d .frz) | some (.val d .own2) => env.set i (.val d .frz) | _ => env
def freeze : List Nat → Env → Env
  | [], env => env
  | i :: is, env => freeze is (freeze1 env i)
/-- the kind of a name that is given a value: m says how deep the def changes it -/
def slotK (m : Nat) (k : Kd) : Kd := match m, k with | 0, _ => .frz | 1, .new2 => .frz | _, .new1 => .own1 | _, .new2 => .own2 | _, _ => .frz
def exec (fuel : Nat) : S → Env → Option Out
  | .skip, env => some (.nx env)
  | .seq a b, env => andThen (exec fuel a env) (exec fuel b)
  | .asg i m e, env => (ev C e env).bind fun p => (vm (some p)).bind fun d => some (.nx (env.set i (.val d (slotK m p.2))))
  | .asgT is e, env => (vm (ev C e env)).bind fun d => (bindT (.tp is) d env).map .nx
  | .asgIx i e1 e2, env => (vm (ev C e2 env)).bind fun v => (bm (ev C e1 env)).bind fun x => match env[i]? with
      | some (.val (.lst xs) .own1) => (asInt x).bind fun j => (ixN xs.length j).map fun n => .nx (env.set i (.val (.lst (xs.set n v)) .own1))
      | some (.val (.dic kvs) .own1) => (keyD x).bind fun k => if kvs.length < L then some (.nx (env.set i (.val (.dic (put kvs k v)) .own1))) else none
      | _ => none
  | .app i e, env => (vm (ev C e env)).bind fun v => match env[i]? with
      | some (.val (.lst xs) .own1) => if xs.length < L then some (.nx (env.set i (.val (.lst (xs ++ [v])) .own1))) else none
      | _ => none
  | .appIx i e1 e2, env => (bm (ev C e1 env)).bind fun x => (vm (ev C e2 env)).bind fun v => match env[i]? with
      | some (.val (.lst xs) .own2) => (asInt x).bind fun j => (ixN xs.length j).bind fun n => match xs[n]? with
          | some (.lst ys) => if ys.length < L then some (.nx (env.set i (.val (.lst (xs.set n (.lst (ys ++ [v])))) .own2))) else none
          | _ => none
      | _ => none
  | .ext i e, env => (ev C e env).bind fun p => match env[i]?, p with
      | some (.val (.lst xs) .own1), (.lst ys, .new1) => if xs.length + ys.length < L then some (.nx (env.set i (.val (.lst (xs ++ ys)) .own1))) else none
      | _, _ => none
  | .pop tg y at0, env => match env[y]? with
      | some (.val (.lst xs) .own1) => ((if at0 then xs[0]? else xs[xs.length - 1]?)).bind fun d =>
          (match tg with | none => some (env.set y (.val (.lst (if at0 then xs.tail else xs.dropLast)) .own1)) | some t => bindT t d (env.set y (.val (.lst (if at0 then xs.tail else xs.dropLast)) .own1))).map .nx
      | _ => none
  | .dpop y e k, env => (bm (ev C e env)).bind fun x => (bm (ev C k env)).bind fun z => match env[y]? with
      | some (.val (.lst xs) .own2) => (asInt x).bind fun j => (ixN xs.length j).bind fun n => match xs[n]? with
          | some (.dic kvs) => (keyD z).bind fun kk => if (look kvs kk).isSome then some (.nx (env.set y (.val (.lst (xs.set n (.dic (dropKy kvs kk)))) .own2))) else none
          | _ => none
      | _ => none
  | .rem y e, env => (bm (ev C e env)).bind fun x => match env[y]? with
      | some (.val (.lst xs) .own1) => (asInt x).bind fun j => (intsD xs).bind fun ns => if j ∈ ns then some (.nx (env.set y (.val (.lst ((ns.erase j).map D.int)) .own1))) else none
      | _ => none
  | .setdef y k v, env => (bm (ev C k env)).bind fun x => (vm (ev C v env)).bind fun z => match env[y]? with
      | some (.val (.dic kvs) .own1) => (keyD x).bind fun kk => if kvs.length < L then some (.nx (env.set y (.val (.dic (if (look kvs kk).isSome then kvs else kvs ++ [(kk, z)])) .own1))) else none
      | _ => none
  | .setdefApp y k e, env => (bm (ev C k env)).bind fun x => (vm (ev C e env)).bind fun v => match env[y]? with
      | some (.val (.dic kvs) .own2) => (keyD x).bind fun kk => if kvs.length < L then (growD kvs kk v).map fun kvs' => .nx (env.set y (.val (.dic kvs') .own2)) else none
      | _ => none
  | .newD y, env => some (.nx (env.set y (.val (.dic []) .own2)))
  | .retV y, env => match env[y]? with
      | some (.val (.dic kvs) .own1) => some (.rt (.lst (kvs.map (·.2))))
      | some (.val (.dic kvs) .own2) => some (.rt (.lst (kvs.map (·.2))))
      | _ => none
  | .ret e, env => (vm (ev C e env)).map .rt
  | .ite t a b, env => (evT C t env).bind fun p => if p then exec fuel a env else exec fuel b env
  | .wh t s, env => loopW (evT C t) (exec fuel s) fuel env
  | .for_ tg it s, env => (evI C it env).bind fun xs => if xs.2 then none else loopF (fun d e => (bindT tg d e).bind (exec fuel s)) xs.1 env
  | .drop e, env => (ev C e env).map fun _ => .nx env
  | .frz is, env => some (.nx (freeze is env))
  | .kill is, env => some (.nx (unset is env))
  | .never, _ => none
  | .tryN s, env => exec fuel s env
end

/-! ### defs -/
structure FDef where
  params : Nat
  slots : Nat
  lent : List Bool
  body : S
def startEnv (f : FDef) (ds : List D) : Env := (ds.zipIdx.map fun p => Slot.val p.1 (if f.lent.getD p.2 false then .lent else .frz)) ++ List.replicate (f.slots - ds.length) .un
/-- turns of a while, at most -/
def FU : Nat := 100000
def runF (C : Nat → List D → Option D) (f : FDef) (ds : List D) : Option D :=
  if ds.length = f.params then (match exec C FU f.body (startEnv f ds) with | some (.rt d) => some d | some (.nx _) => some .non | none => none) else none
/-- the defs that a def calls, by their numbers -/
def calls : List (Nat × (List D → Option D)) → Nat → List D → Option D
  | [], _, _ => none
  | p :: r, n, ds => if n = p.1 then p.2 ds else calls r n ds
end
end Hg
end

section
set_option Elab.async false
set_option maxRecDepth 100000
set_option maxHeartbeats 4000000
/-! Snd0: what stands in a heap for plain data; who owns what; the state. -/
namespace Hg
open PySem PySem.Spec PyProof.Rows L2

def sv (s : List Nat) : Str := ⟨s.toArray⟩
def ky : Ky → L2.Key | .inl i => .inl i | .inr s => .inr (sv s)
/-- the tables of code objects that lambdas are put into: the name that is written there -/
class Tabl where
  q : Addr → Option Str
variable [TB : Tabl]
/-- a table has grown by code objects of its name alone -/
def Grows (H' : Hp) (a : Addr) (ps ps' : Array Value) : Prop := ∀ q, TB.q a = some q → (TriplesOk ps.toList → TriplesOk ps'.toList) ∧
  ∀ (pos : Pos) (cv : Value), codeAmong pos ps'.toList = some cv → codeAmong pos ps.toList = some cv ∨ ∃ c, cv = .ref c ∧ H' c = some (LamX.CodeO c q)
def Nt (o : HO) : Prop := ∀ ps, o ≠ .tbl ps
theorem nt_lst {xs : List V} : Nt (.lst xs) := fun _ z => nomatch z
theorem nt_tup {xs : List V} : Nt (.tup xs) := fun _ z => nomatch z
theorem nt_dK {xs : List (L2.Key × V)} : Nt (.dK xs) := fun _ z => nomatch z
theorem nt_frz {o : Obj} {u : HO} : Nt (.frz o u) := fun _ z => nomatch z
theorem nt_code {c : Addr} {q : Str} : Nt (LamX.CodeO c q) := fun ps => LamX.codeO_ne ps
theorem code_lst {c : Addr} {q : Str} {xs : List V} : some (HO.lst xs) ≠ some (LamX.CodeO c q) := fun z => by unfold LamX.CodeO at z; cases z
theorem code_frz {c : Addr} {q : Str} {o : Obj} {u : HO} : some (HO.frz o u) ≠ some (LamX.CodeO c q) := fun z => by unfold LamX.CodeO at z; cases z
theorem code_dK {c : Addr} {q : Str} {xs : List (L2.Key × V)} : some (HO.dK xs) ≠ some (LamX.CodeO c q) := fun z => by unfold LamX.CodeO at z; cases z
/-- what stood stays; tables may grow -/
def Ext (H H' : Hp) : Prop := ∀ a o, H a = some o → H' a = some o ∨ ∃ ps ps', o = .tbl ps ∧ H' a = some (.tbl ps') ∧ Grows H' a ps ps'
theorem Ext.at {H H' : Hp} {a : Addr} {o : HO} (e : Ext H H') (h : H a = some o) (n : Nt o) : H' a = some o := by
  rcases e a o h with q | ⟨ps, ps', rfl, _⟩
  · exact q
  · exact absurd rfl (n ps)
theorem Ext.refl (H : Hp) : Ext H H := fun _ _ h => .inl h
theorem Ext.trans {H H1 H2 : Hp} (a : Ext H H1) (b : Ext H1 H2) : Ext H H2 := fun x o h => by
  rcases a x o h with q | ⟨ps, ps', rfl, q, g⟩
  · exact b x o q
  · rcases b x _ q with q2 | ⟨ps1, ps2, e, q2, g2⟩
    · exact .inr ⟨ps, ps', rfl, q2, fun n hn => ⟨(g n hn).1, fun pos cv hc => ((g n hn).2 pos cv hc).imp id fun ⟨c, e1, e2⟩ => ⟨c, e1, b.at e2 nt_code⟩⟩⟩
    · cases e
      refine .inr ⟨ps, ps2, rfl, q2, fun n hn => ⟨fun t => (g2 n hn).1 ((g n hn).1 t), fun pos cv hc => ?_⟩⟩
      rcases (g2 n hn).2 pos cv hc with z | z
      · exact ((g n hn).2 pos cv z).imp id fun ⟨c, e1, e2⟩ => ⟨c, e1, b.at e2 nt_code⟩
      · exact .inr z
theorem Ext.back {H H' : Hp} {p : Addr} (e : Ext H H') (h : H' p = none) : H p = none := by
  cases h1 : H p with
  | none => rfl
  | some o =>
    rcases e p o h1 with q | ⟨_, _, _, q, _⟩
    · rw [q] at h; cases h
    · rw [q] at h; cases h
theorem Ext.ne {H H' : Hp} {p : Addr} (e : Ext H H') (h : H p ≠ none) : H' p ≠ none := fun q => h (e.back q)
theorem Ext.new {H : Hp} {p : Addr} {o : HO} (h : H p = none) : Ext H (upd H p o) := fun a u e => by
  rw [upd_ne (ne_of_none e h)]; exact .inl e
theorem Ext.upd {H H' : Hp} {p : Addr} {o : HO} (e : Ext H H') (h : H p = none) (hn : ∀ q, H' p ≠ some (LamX.CodeO p q)) : Ext H (upd H' p o) := fun a u ha => by
  rw [upd_ne (ne_of_none ha h)]
  rcases e a u ha with q | ⟨ps, ps', e1, q, g⟩
  · exact .inl q
  · exact .inr ⟨ps, ps', e1, q, fun n ht => ⟨(g n ht).1, fun pos cv hc => ((g n ht).2 pos cv hc).imp id fun ⟨c, e2, e3⟩ => ⟨c, e2, by
      rw [upd_ne fun z => by rw [z] at e3; exact hn n e3]; exact e3⟩⟩⟩
theorem Ext.updB {H H' : Hp} {p : Addr} {o : HO} (e : Ext H H') (hp : H' p = none) : Ext (L2.upd H p o) (L2.upd H' p o) := fun a u ha => by
  by_cases h : a = p
  · subst h; rw [upd_same] at ha ⊢; exact .inl ha
  · rw [upd_ne h] at ha ⊢
    rcases e a u ha with q | ⟨ps, ps', e1, q, g⟩
    · exact .inl q
    · exact .inr ⟨ps, ps', e1, q, fun n ht => ⟨(g n ht).1, fun pos cv hc => ((g n ht).2 pos cv hc).imp id fun ⟨c, e2, e3⟩ => ⟨c, e2, by
        rw [upd_ne (ne_of_none e3 hp)]; exact e3⟩⟩⟩
theorem Ext.put {H H' : Hp} {p : Addr} {o1 o2 : HO} (e : Ext (L2.upd H p o1) H') (hp : H p = none ∨ H p = some o2) (hn : ∀ q, H' p ≠ some (LamX.CodeO p q)) : Ext H (L2.upd H' p o2) := fun a u ha => by
  by_cases h : a = p
  · subst h
    rw [upd_same]
    rcases hp with z | z
    · rw [z] at ha; cases ha
    · rw [← z]; exact .inl ha
  · rw [upd_ne h]
    rcases e a u (by rw [upd_ne h]; exact ha) with q | ⟨ps, ps', e1, q, g⟩
    · exact .inl q
    · exact .inr ⟨ps, ps', e1, q, fun n ht => ⟨(g n ht).1, fun pos cv hc => ((g n ht).2 pos cv hc).imp id fun ⟨c, e2, e3⟩ => ⟨c, e2, by
        rw [upd_ne fun z => by rw [z] at e3; exact hn n e3]; exact e3⟩⟩⟩
theorem Ext.rd {H H' : Hp} {a : Addr} {u : HO} (e : Ext H H') (h : Rd H a u) (n : Nt u) : Rd H' a u := by
  rcases h with h | ⟨o, h⟩
  · exact .inl (e.at h n)
  · exact .inr ⟨o, e.at h nt_frz⟩
theorem Ext.sq {K : PySem.W.Frag} {H H' : Hp} {a : Addr} {xs : List V} (e : Ext H H') (h : SqL K H a xs) : SqL K H' a xs := by
  rcases h with h | h
  · exact .inl (e.rd h nt_lst)
  · exact .inr h
/-- the tables that are watched -/
def TabsOk (H : Hp) : Prop := ∀ P q, TB.q P = some q → LamX.TabS H P q
theorem TabsOk.ext {H H' : Hp} (t : TabsOk H) (e : Ext H H') : TabsOk H' := fun P q hq => by
  obtain ⟨ps, h1, h2, h3⟩ := t P q hq
  rcases e P _ h1 with z | ⟨ps1, ps', e1, z, g⟩
  · exact ⟨ps, z, h2, fun pos cv hc => by obtain ⟨c, a1, a2⟩ := h3 pos cv hc; exact ⟨c, a1, e.at a2 nt_code⟩⟩
  · cases e1
    refine ⟨ps', z, (g q hq).1 h2, fun pos cv hc => ?_⟩
    rcases (g q hq).2 pos cv hc with w | w
    · obtain ⟨c, a1, a2⟩ := h3 pos cv w; exact ⟨c, a1, e.at a2 nt_code⟩
    · exact w

/-! ### data in a heap -/
mutual
def Rep (K : PySem.W.Frag) (B : Hp) : D → V → Prop
  | .non, v => v = .non
  | .bl b, v => v = .bl b
  | .int i, v => v = .int i
  | .str s, v => v = .str (sv s)
  | .tup ds, v => ∃ a vs, v = .ref a ∧ B a = some (.tup vs) ∧ Reps K B ds vs
  | .lst ds, v => ∃ a vs, v = .ref a ∧ SqL K B a vs ∧ Reps K B ds vs
  | .dic kvs, v => ∃ a vs, v = .ref a ∧ B a = some (.dK vs) ∧ RepK K B kvs vs
def Reps (K : PySem.W.Frag) (B : Hp) : List D → List V → Prop
  | [], vs => vs = []
  | d :: ds, vs => ∃ v r, vs = v :: r ∧ Rep K B d v ∧ Reps K B ds r
def RepK (K : PySem.W.Frag) (B : Hp) : List (Ky × D) → List (L2.Key × V) → Prop
  | [], vs => vs = []
  | (k, d) :: ds, vs => ∃ v r, vs = (ky k, v) :: r ∧ Rep K B d v ∧ RepK K B ds r
end
mutual
theorem Rep.mono {K : PySem.W.Frag} {B B' : Hp} (e : Ext B B') : ∀ (d : D) (v : V), Rep K B d v → Rep K B' d v
  | .non, v, h => by rw [Rep] at h ⊢; exact h
  | .bl b, v, h => by rw [Rep] at h ⊢; exact h
  | .int i, v, h => by rw [Rep] at h ⊢; exact h
  | .str s, v, h => by rw [Rep] at h ⊢; exact h
  | .tup ds, v, h => by
    rw [Rep] at h ⊢
    obtain ⟨a, vs, h1, h2, h3⟩ := h
    exact ⟨a, vs, h1, e.at h2 nt_tup, Reps.mono e ds vs h3⟩
  | .lst ds, v, h => by
    rw [Rep] at h ⊢
    obtain ⟨a, vs, h1, h2, h3⟩ := h
    exact ⟨a, vs, h1, e.sq h2, Reps.mono e ds vs h3⟩
  | .dic ds, v, h => by
    rw [Rep] at h ⊢
    obtain ⟨a, vs, h1, h2, h3⟩ := h
    exact ⟨a, vs, h1, e.at h2 nt_dK, RepK.mono e ds vs h3⟩
theorem Reps.mono {K : PySem.W.Frag} {B B' : Hp} (e : Ext B B') : ∀ (ds : List D) (vs : List V), Reps K B ds vs → Reps K B' ds vs
  | [], vs, h => by rw [Reps] at h ⊢; exact h
  | d :: ds, vs, h => by
    rw [Reps] at h ⊢
    obtain ⟨v, r, h1, h2, h3⟩ := h
    exact ⟨v, r, h1, Rep.mono e d v h2, Reps.mono e ds r h3⟩
theorem RepK.mono {K : PySem.W.Frag} {B B' : Hp} (e : Ext B B') : ∀ (ds : List (Ky × D)) (vs : List (L2.Key × V)), RepK K B ds vs → RepK K B' ds vs
  | [], vs, h => by rw [RepK] at h ⊢; exact h
  | (k, d) :: ds, vs, h => by
    rw [RepK] at h ⊢
    obtain ⟨v, r, h1, h2, h3⟩ := h
    exact ⟨v, r, h1, Rep.mono e d v h2, RepK.mono e ds r h3⟩
end
section
variable {K : PySem.W.Frag} {B H : Hp}
theorem Rep.atom {B' : Hp} : ∀ {d : D} {v : V}, d.atom = true → Rep K B d v → Rep K B' d v
  | .non, v, _, h => by rw [Rep] at h ⊢; exact h
  | .bl b, v, _, h => by rw [Rep] at h ⊢; exact h
  | .int i, v, _, h => by rw [Rep] at h ⊢; exact h
  | .str s, v, _, h => by rw [Rep] at h ⊢; exact h
theorem rep_int {i : Int} {v : V} (h : Rep K B (.int i) v) : v = .int i := by rw [Rep] at h; exact h
theorem rep_bl {i : Bool} {v : V} (h : Rep K B (.bl i) v) : v = .bl i := by rw [Rep] at h; exact h
theorem rep_str {s : List Nat} {v : V} (h : Rep K B (.str s) v) : v = .str (sv s) := by rw [Rep] at h; exact h
theorem rep_non {v : V} (h : Rep K B .non v) : v = .non := by rw [Rep] at h; exact h
theorem rep_lst {ds : List D} {v : V} (h : Rep K B (.lst ds) v) : ∃ a vs, v = .ref a ∧ SqL K B a vs ∧ Reps K B ds vs := by rw [Rep] at h; exact h
theorem rep_tup {ds : List D} {v : V} (h : Rep K B (.tup ds) v) : ∃ a vs, v = .ref a ∧ B a = some (.tup vs) ∧ Reps K B ds vs := by rw [Rep] at h; exact h
theorem rep_dic {ds : List (Ky × D)} {v : V} (h : Rep K B (.dic ds) v) : ∃ a vs, v = .ref a ∧ B a = some (.dK vs) ∧ RepK K B ds vs := by rw [Rep] at h; exact h
theorem int_rep {i : Int} : Rep K B (.int i) (.int i) := by rw [Rep]
theorem bl_rep {i : Bool} : Rep K B (.bl i) (.bl i) := by rw [Rep]
theorem str_rep {s : List Nat} : Rep K B (.str s) (.str (sv s)) := by rw [Rep]
theorem non_rep : Rep K B .non .non := by rw [Rep]
theorem lst_rep {ds : List D} {a : Addr} {vs : List V} (h : SqL K B a vs) (r : Reps K B ds vs) : Rep K B (.lst ds) (.ref a) := by rw [Rep]; exact ⟨a, vs, rfl, h, r⟩
theorem tup_rep {ds : List D} {a : Addr} {vs : List V} (h : B a = some (.tup vs)) (r : Reps K B ds vs) : Rep K B (.tup ds) (.ref a) := by rw [Rep]; exact ⟨a, vs, rfl, h, r⟩
theorem dic_rep {ds : List (Ky × D)} {a : Addr} {vs : List (L2.Key × V)} (h : B a = some (.dK vs)) (r : RepK K B ds vs) : Rep K B (.dic ds) (.ref a) := by rw [Rep]; exact ⟨a, vs, rfl, h, r⟩
theorem reps_nil : Reps K B [] [] := by rw [Reps]
theorem reps_cons {d : D} {ds : List D} {v : V} {vs : List V} (h : Rep K B d v) (t : Reps K B ds vs) : Reps K B (d :: ds) (v :: vs) := by rw [Reps]; exact ⟨v, vs, rfl, h, t⟩
theorem Reps.cons_of {d : D} {ds : List D} {vs : List V} (h : Reps K B (d :: ds) vs) : ∃ v r, vs = v :: r ∧ Rep K B d v ∧ Reps K B ds r := by rw [Reps] at h; exact h
theorem Reps.nil_of {vs : List V} (h : Reps K B [] vs) : vs = [] := by rw [Reps] at h; exact h
theorem Reps.length : ∀ {ds : List D} {vs : List V}, Reps K B ds vs → vs.length = ds.length
  | [], vs, h => by rw [h.nil_of]; rfl
  | d :: ds, vs, h => by
    obtain ⟨v, r, rfl, _, t⟩ := h.cons_of
    rw [List.length_cons, List.length_cons, t.length]
theorem Reps.get : ∀ {ds : List D} {vs : List V} {i : Nat} {d : D}, Reps K B ds vs → ds[i]? = some d → ∃ v, vs[i]? = some v ∧ Rep K B d v
  | [], vs, i, d, h, e => by simp at e
  | d' :: ds, vs, 0, d, h, e => by
    obtain ⟨v, r, rfl, h1, _⟩ := h.cons_of
    have e' : d' = d := by simpa using e
    subst e'
    exact ⟨v, rfl, h1⟩
  | d' :: ds, vs, i + 1, d, h, e => by
    obtain ⟨v, r, rfl, _, t⟩ := h.cons_of
    obtain ⟨u, h1, h2⟩ := t.get (i := i) (d := d) (by simpa using e)
    exact ⟨u, by simpa using h1, h2⟩
theorem Reps.append : ∀ {ds es : List D} {vs us : List V}, Reps K B ds vs → Reps K B es us → Reps K B (ds ++ es) (vs ++ us)
  | [], es, vs, us, h, t => by rw [h.nil_of]; exact t
  | d :: ds, es, vs, us, h, t => by
    obtain ⟨v, r, rfl, h1, h2⟩ := h.cons_of
    exact reps_cons h1 (h2.append t)
theorem Reps.take : ∀ {ds : List D} {vs : List V} (n : Nat), Reps K B ds vs → Reps K B (ds.take n) (vs.take n)
  | _, _, 0, _ => by simpa using reps_nil
  | [], vs, n + 1, h => by rw [h.nil_of]; simpa using reps_nil
  | d :: ds, vs, n + 1, h => by
    obtain ⟨v, r, rfl, h1, h2⟩ := h.cons_of
    exact reps_cons h1 (h2.take n)
theorem Reps.drop : ∀ {ds : List D} {vs : List V} (n : Nat), Reps K B ds vs → Reps K B (ds.drop n) (vs.drop n)
  | _, _, 0, h => by simpa using h
  | [], vs, n + 1, h => by rw [h.nil_of]; simpa using reps_nil
  | d :: ds, vs, n + 1, h => by
    obtain ⟨v, r, rfl, h1, h2⟩ := h.cons_of
    exact h2.drop n
theorem Reps.reverse : ∀ {ds : List D} {vs : List V}, Reps K B ds vs → Reps K B ds.reverse vs.reverse
  | [], vs, h => by rw [h.nil_of]; exact reps_nil
  | d :: ds, vs, h => by
    obtain ⟨v, r, rfl, h1, h2⟩ := h.cons_of
    rw [List.reverse_cons, List.reverse_cons]
    exact h2.reverse.append (reps_cons h1 reps_nil)
theorem Reps.set : ∀ {ds : List D} {vs : List V} (i : Nat) {d : D} {v : V}, Reps K B ds vs → Rep K B d v → Reps K B (ds.set i d) (vs.set i v)
  | [], vs, i, d, v, h, _ => by rw [h.nil_of]; exact reps_nil
  | d' :: ds, vs, 0, d, v, h, hd => by
    obtain ⟨u, r, rfl, _, t⟩ := h.cons_of
    exact reps_cons hd t
  | d' :: ds, vs, i + 1, d, v, h, hd => by
    obtain ⟨u, r, rfl, h1, t⟩ := h.cons_of
    exact reps_cons h1 (t.set i hd)
theorem Reps.ints : ∀ {ds : List D} {ns : List Int} {vs : List V}, Hg.intsD ds = some ns → Reps K B ds vs → vs = ns.map V.int
  | [], ns, vs, e, h => by
    have e' : ns = [] := by simpa [Hg.intsD, optAll] using e.symm
    subst e'
    exact h.nil_of
  | d :: ds, ns, vs, e, h => by
    obtain ⟨v, r, rfl, h1, h2⟩ := h.cons_of
    simp only [Hg.intsD, optAll, Option.bind_eq_some_iff] at e
    obtain ⟨i, hi, ms, hm, e⟩ := e
    cases e
    have h3 := Reps.ints (ns := ms) hm h2
    cases d <;> simp [asInt] at hi
    subst hi
    rw [rep_int h1, h3]; rfl
theorem Reps.strs : ∀ {ds : List D} {ns : List (List Nat)} {vs : List V}, Hg.strsD ds = some ns → Reps K B ds vs → vs = (ns.map sv).map V.str
  | [], ns, vs, e, h => by
    have e' : ns = [] := by simpa [Hg.strsD, optAll] using e.symm
    subst e'
    exact h.nil_of
  | d :: ds, ns, vs, e, h => by
    obtain ⟨v, r, rfl, h1, h2⟩ := h.cons_of
    simp only [Hg.strsD, optAll, Option.bind_eq_some_iff] at e
    obtain ⟨i, hi, ms, hm, e⟩ := e
    cases e
    have h3 := Reps.strs (ns := ms) hm h2
    cases d <;> simp [asStr] at hi
    subst hi
    rw [rep_str h1, h3]; rfl
theorem reps_ints : ∀ (ns : List Int), Reps K B (ns.map D.int) (ns.map V.int)
  | [] => reps_nil
  | n :: ns => reps_cons int_rep (reps_ints ns)
theorem reps_strs : ∀ (ns : List (List Nat)), Reps K B (ns.map D.str) ((ns.map sv).map V.str)
  | [] => reps_nil
  | n :: ns => reps_cons str_rep (reps_strs ns)

/-! dicts -/
theorem repk_nil : RepK K B [] [] := by rw [RepK]
theorem repk_cons {k : Ky} {d : D} {ds : List (Ky × D)} {v : V} {vs : List (L2.Key × V)} (h : Rep K B d v) (t : RepK K B ds vs) : RepK K B ((k, d) :: ds) ((ky k, v) :: vs) := by rw [RepK]; exact ⟨v, vs, rfl, h, t⟩
theorem RepK.cons_of {k : Ky} {d : D} {ds : List (Ky × D)} {vs : List (L2.Key × V)} (h : RepK K B ((k, d) :: ds) vs) : ∃ v r, vs = (ky k, v) :: r ∧ Rep K B d v ∧ RepK K B ds r := by rw [RepK] at h; exact h
theorem RepK.nil_of {vs : List (L2.Key × V)} (h : RepK K B [] vs) : vs = [] := by rw [RepK] at h; exact h
theorem RepK.length : ∀ {ds : List (Ky × D)} {vs : List (L2.Key × V)}, RepK K B ds vs → vs.length = ds.length
  | [], vs, h => by rw [h.nil_of]; rfl
  | (k, d) :: ds, vs, h => by
    obtain ⟨v, r, rfl, _, t⟩ := h.cons_of
    rw [List.length_cons, List.length_cons, t.length]
theorem RepK.append : ∀ {ds es : List (Ky × D)} {vs us : List (L2.Key × V)}, RepK K B ds vs → RepK K B es us → RepK K B (ds ++ es) (vs ++ us)
  | [], es, vs, us, h, t => by rw [h.nil_of]; exact t
  | (k, d) :: ds, es, vs, us, h, t => by
    obtain ⟨v, r, rfl, h1, h2⟩ := h.cons_of
    exact repk_cons h1 (h2.append t)
theorem RepK.vals : ∀ {ds : List (Ky × D)} {vs : List (L2.Key × V)}, RepK K B ds vs → Reps K B (ds.map (·.2)) (vs.map (·.2))
  | [], vs, h => by rw [h.nil_of]; exact reps_nil
  | (k, d) :: ds, vs, h => by
    obtain ⟨v, r, rfl, h1, h2⟩ := h.cons_of
    exact reps_cons h1 h2.vals
theorem RepK.keys : ∀ {ds : List (Ky × D)} {vs : List (L2.Key × V)}, RepK K B ds vs → vs.map (·.1) = ds.map fun p => ky p.1
  | [], vs, h => by rw [h.nil_of]; rfl
  | (k, d) :: ds, vs, h => by
    obtain ⟨v, r, rfl, h1, h2⟩ := h.cons_of
    rw [List.map_cons, List.map_cons, h2.keys]
end
theorem sv_inj {s t : List Nat} (h : sv s = sv t) : s = t := by
  have h1 : s.toArray = t.toArray := congrArg Str.cps h
  simpa using h1
theorem ky_inj {k l : Ky} (h : ky k = ky l) : k = l := by
  cases k <;> cases l <;> simp [ky] at h
  · rw [h]
  · rw [sv_inj h]
theorem ky_iff {k l : Ky} : ky k = ky l ↔ k = l := ⟨ky_inj, fun h => by rw [h]⟩
theorem kV_ky {d : D} {k : Ky} {K : PySem.W.Frag} {B : Hp} {v : V} (h : keyD d = some k) (r : Rep K B d v) : v = kV (ky k) := by
  cases d <;> simp [keyD] at h
  · subst h; rw [rep_int r]; rfl
  · subst h; rw [rep_str r]; rfl
section
variable {K : PySem.W.Frag} {B H : Hp}
theorem RepK.look_some : ∀ {ds : List (Ky × D)} {vs : List (L2.Key × V)} {k : Ky} {d : D}, RepK K B ds vs → look ds k = some d → ∃ v, valV vs (ky k) = some v ∧ Rep K B d v
  | [], vs, k, d, h, e => by simp [look] at e
  | (k', d') :: ds, vs, k, d, h, e => by
    obtain ⟨v, r, rfl, h1, h2⟩ := h.cons_of
    by_cases hk : k' = k
    · subst hk
      have e' : d' = d := by simpa [look, List.find?_cons] using e
      subst e'
      exact ⟨v, valV_pos rfl, h1⟩
    · have e' : look ds k = some d := by simpa [look, List.find?_cons, hk] using e
      obtain ⟨u, q1, q2⟩ := h2.look_some e'
      exact ⟨u, (valV_neg fun z => hk (ky_inj z)).trans q1, q2⟩
theorem RepK.look_none : ∀ {ds : List (Ky × D)} {vs : List (L2.Key × V)} {k : Ky}, RepK K B ds vs → look ds k = none → valV vs (ky k) = none
  | [], vs, k, h, e => by rw [h.nil_of]; rfl
  | (k', d') :: ds, vs, k, h, e => by
    obtain ⟨v, r, rfl, h1, h2⟩ := h.cons_of
    by_cases hk : k' = k
    · subst hk
      simp [look, List.find?_cons] at e
    · have e' : look ds k = none := by simpa [look, List.find?_cons, hk] using e
      exact (valV_neg fun z => hk (ky_inj z)).trans (h2.look_none e')
theorem RepK.any : ∀ {ds : List (Ky × D)} {vs : List (L2.Key × V)} (k : Ky), RepK K B ds vs → (vs.any fun kv => decide (kv.1 = ky k)) = ds.any fun kv => decide (kv.1 = k)
  | [], vs, k, h => by rw [h.nil_of]; rfl
  | (k', d') :: ds, vs, k, h => by
    obtain ⟨v, r, rfl, h1, h2⟩ := h.cons_of
    rw [List.any_cons, List.any_cons, h2.any k]
    congr 1
    exact decide_eq_decide.mpr ky_iff
theorem RepK.mapPut {d : D} {v : V} {k : Ky} (hd : Rep K B d v) : ∀ {ds : List (Ky × D)} {vs : List (L2.Key × V)}, RepK K B ds vs → RepK K B (ds.map fun kv => if kv.1 = k then (kv.1, d) else kv) (vs.map fun kv => if kv.1 = ky k then (kv.1, v) else kv)
  | [], vs, h => by rw [h.nil_of]; exact repk_nil
  | (k', d') :: ds, vs, h => by
    obtain ⟨u, r, rfl, h1, h2⟩ := h.cons_of
    rw [List.map_cons, List.map_cons]
    by_cases hk : k' = k
    · subst hk
      simp only [if_pos]
      exact repk_cons hd (RepK.mapPut hd h2)
    · have hk' : ¬ ky k' = ky k := fun z => hk (ky_inj z)
      simp only [if_neg hk, if_neg hk']
      exact repk_cons h1 (RepK.mapPut hd h2)
theorem RepK.put {d : D} {v : V} {k : Ky} {ds : List (Ky × D)} {vs : List (L2.Key × V)} (h : RepK K B ds vs) (hd : Rep K B d v) : RepK K B (Hg.put ds k d) (putK vs (ky k) v) := by
  unfold Hg.put putK
  rw [h.any k]
  split
  · exact RepK.mapPut hd h
  · exact h.append (repk_cons hd repk_nil)
theorem RepK.drop {k : Ky} : ∀ {ds : List (Ky × D)} {vs : List (L2.Key × V)}, RepK K B ds vs → RepK K B (dropKy ds k) (dropK vs (ky k))
  | [], vs, h => by rw [h.nil_of]; exact repk_nil
  | (k', d') :: ds, vs, h => by
    obtain ⟨u, r, rfl, h1, h2⟩ := h.cons_of
    unfold dropKy dropK
    by_cases hk : k' = k
    · subst hk
      simp only [List.filter_cons, ne_eq, not_true_eq_false, decide_false, Bool.false_eq_true, if_false]
      exact h2.drop
    · have hk' : ¬ ky k' = ky k := fun z => hk (ky_inj z)
      simp only [List.filter_cons, ne_eq, hk, hk', not_false_eq_true, decide_true, if_true]
      exact repk_cons h1 h2.drop
theorem RepK.merge : ∀ {es ds : List (Ky × D)} {us vs : List (L2.Key × V)}, RepK K B es us → RepK K B ds vs → RepK K B (mergeKy ds es) (mergeK vs us)
  | [], ds, us, vs, h, t => by rw [h.nil_of]; exact t
  | (k', d') :: es, ds, us, vs, h, t => by
    obtain ⟨u, r, rfl, h1, h2⟩ := h.cons_of
    exact RepK.merge (es := es) (us := r) h2 (t.put h1)
end

/-! ### steps: what stood stays, what is new is told -/
structure Step (B H B' H' : Hp) : Prop where
  bb : Ext B B'
  hh : Ext H H'
  bh : Ext B' H'
  nw : ∀ a, B' a ≠ none → B a ≠ none ∨ H a = none
theorem Step.refl {B H : Hp} (h : Ext B H) : Step B H B H := ⟨Ext.refl _, Ext.refl _, h, fun _ h => .inl h⟩
theorem Step.trans {B H B1 H1 B2 H2 : Hp} (s : Step B H B1 H1) (t : Step B1 H1 B2 H2) : Step B H B2 H2 :=
  ⟨s.bb.trans t.bb, s.hh.trans t.hh, t.bh, fun a h => (t.nw a h).elim (s.nw a) fun q => .inr (s.hh.back q)⟩
/-- a new thing that nobody changes -/
theorem Step.new {B H : Hp} {p : Addr} {o : HO} (h : Ext B H) (hp : H p = none) : Step B H (upd B p o) (upd H p o) :=
  ⟨Ext.new (h.back hp), Ext.new hp, h.updB hp, fun a ha => by
    by_cases e : a = p
    · subst e; exact .inr hp
    · rw [upd_ne e] at ha; exact .inl ha⟩
/-- a new thing of one's own -/
theorem Step.own {B H : Hp} {p : Addr} {o : HO} (h : Ext B H) (hp : H p = none) : Step B H B (upd H p o) :=
  ⟨Ext.refl _, Ext.new hp, h.upd (h.back hp) (fun q z => by rw [hp] at z; cases z), fun _ h => .inl h⟩
/-- the objects at F are given up: they stay as they are from here on -/
def joinH (B H : Hp) (F : List Addr) : Hp := fun a => if a ∈ F then H a else B a
theorem joinH_in {B H : Hp} {F : List Addr} {a : Addr} (h : a ∈ F) : joinH B H F a = H a := if_pos h
theorem joinH_out {B H : Hp} {F : List Addr} {a : Addr} (h : a ∉ F) : joinH B H F a = B a := if_neg h
theorem joinH_b {B H : Hp} {F : List Addr} (h : ∀ a ∈ F, B a = none) : Ext B (joinH B H F) := fun a o e => by
  by_cases q : a ∈ F
  · rw [h a q] at e; cases e
  · rw [joinH_out q]; exact .inl e
theorem joinH_h {B H : Hp} {F : List Addr} (h : Ext B H) : Ext (joinH B H F) H := fun a o e => by
  by_cases q : a ∈ F
  · rw [joinH_in q] at e; exact .inl e
  · rw [joinH_out q] at e; exact h a o e
theorem joinH_nil {B H : Hp} : joinH B H [] = B := by
  funext a; exact joinH_out (by simp)

/-! ### one's own objects -/
def OwnL (P : V → D → List Addr → Prop) : List V → List D → List Addr → Prop
  | [], [], F => F = []
  | v :: vs, d :: ds, F => ∃ F1 F2, F = F1 ++ F2 ∧ P v d F1 ∧ OwnL P vs ds F2
  | _, _, _ => False
section
variable (K : PySem.W.Frag) (B H : Hp)
def Own1 (v : V) (d : D) (F : List Addr) : Prop :=
  ∃ a, v = .ref a ∧ F = [a] ∧ ((∃ vs ds, d = .lst ds ∧ H a = some (.lst vs) ∧ Reps K B ds vs) ∨ ∃ vs ds, d = .dic ds ∧ H a = some (.dK vs) ∧ RepK K B ds vs)
def Own2L (v : V) (d : D) (F : List Addr) : Prop :=
  ∃ a F' vs ds, v = .ref a ∧ F = a :: F' ∧ d = .lst ds ∧ H a = some (.lst vs) ∧ OwnL (Own1 K B H) vs ds F'
/-- a dict of one's own, whose values are one's own -/
def Own2D (v : V) (d : D) (F : List Addr) : Prop :=
  ∃ a F' vs ds, v = .ref a ∧ F = a :: F' ∧ d = .dic ds ∧ H a = some (.dK vs) ∧ vs.map Prod.fst = ds.map (fun p => ky p.1) ∧ OwnL (Own1 K B H) (vs.map Prod.snd) (ds.map Prod.snd) F'
def Own2 (v : V) (d : D) (F : List Addr) : Prop := Own2L K B H v d F ∨ Own2D K B H v d F
end
section
variable {K : PySem.W.Frag} {B H B' H' : Hp}
theorem OwnL.imp {P Q : V → D → List Addr → Prop} (f : ∀ v d F, P v d F → Q v d F) : ∀ {vs : List V} {ds : List D} {F : List Addr}, OwnL P vs ds F → OwnL Q vs ds F
  | [], [], F, h => h
  | v :: vs, d :: ds, F, h => by
    obtain ⟨F1, F2, e, h1, h2⟩ := h
    exact ⟨F1, F2, e, f _ _ _ h1, h2.imp f⟩
  | [], _ :: _, F, h => h.elim
  | _ :: _, [], F, h => h.elim
theorem repK_zip : ∀ {ds : List (Ky × D)} {vs : List (L2.Key × V)}, vs.map Prod.fst = ds.map (fun p => ky p.1) → Reps K B (ds.map Prod.snd) (vs.map Prod.snd) → RepK K B ds vs
  | [], [], _, _ => repk_nil
  | (k, d) :: ds, (k', v) :: vs, h, r => by
    obtain ⟨h1, h2⟩ := List.cons.inj h
    cases h1
    obtain ⟨v2, r2, e, r3, r4⟩ := (by rw [List.map_cons, List.map_cons, Reps] at r; exact r)
    cases e
    exact repk_cons r3 (repK_zip h2 r4)
  | [], _ :: _, h, _ => by cases h
  | _ :: _, [], h, _ => by cases h
/-- it stays where its own objects stay -/
theorem Own1.keep {v : V} {d : D} {F : List Addr} (h : Own1 K B H v d F) (e : Ext B B') (k : ∀ a ∈ F, H' a = H a) : Own1 K B' H' v d F := by
  obtain ⟨a, rfl, rfl, h⟩ := h
  refine ⟨a, rfl, rfl, ?_⟩
  have ka := k a (by simp)
  rcases h with ⟨vs, ds, rfl, h1, h2⟩ | ⟨vs, ds, rfl, h1, h2⟩
  · exact .inl ⟨vs, ds, rfl, ka.trans h1, Reps.mono e _ _ h2⟩
  · exact .inr ⟨vs, ds, rfl, ka.trans h1, RepK.mono e _ _ h2⟩
theorem Own1.thereN {v : V} {d : D} {F : List Addr} (h : Own1 K B H v d F) : ∀ a ∈ F, ∃ o, H a = some o ∧ Nt o ∧ ∀ q, some o ≠ some (LamX.CodeO a q) := by
  obtain ⟨a, rfl, rfl, h⟩ := h
  intro b hb
  have e : b = a := by simpa using hb
  subst e
  rcases h with ⟨vs, ds, rfl, h1, h2⟩ | ⟨vs, ds, rfl, h1, h2⟩
  · exact ⟨_, h1, nt_lst, fun q => code_lst⟩
  · exact ⟨_, h1, nt_dK, fun q => code_dK⟩
theorem there_of {F : List Addr} (h : ∀ a ∈ F, ∃ o, H a = some o ∧ Nt o ∧ ∀ q, some o ≠ some (LamX.CodeO a q)) : ∀ a ∈ F, H a ≠ none := fun a ha => by
  obtain ⟨o, e, _⟩ := h a ha
  rw [e]; exact fun z => nomatch z
theorem Own1.there {v : V} {d : D} {F : List Addr} (h : Own1 K B H v d F) : ∀ a ∈ F, H a ≠ none := there_of h.thereN
theorem OwnL.keep : ∀ {vs : List V} {ds : List D} {F : List Addr}, OwnL (Own1 K B H) vs ds F → Ext B B' → (∀ a ∈ F, H' a = H a) → OwnL (Own1 K B' H') vs ds F
  | [], [], F, h, _, _ => h
  | v :: vs, d :: ds, F, h, e, k => by
    obtain ⟨F1, F2, rfl, h1, h2⟩ := h
    exact ⟨F1, F2, rfl, h1.keep e fun a ha => k a (List.mem_append_left _ ha), h2.keep e fun a ha => k a (List.mem_append_right _ ha)⟩
  | [], _ :: _, F, h, _, _ => h.elim
  | _ :: _, [], F, h, _, _ => h.elim
theorem OwnL.thereN : ∀ {vs : List V} {ds : List D} {F : List Addr}, OwnL (Own1 K B H) vs ds F → ∀ a ∈ F, ∃ o, H a = some o ∧ Nt o ∧ ∀ q, some o ≠ some (LamX.CodeO a q)
  | [], [], F, h, a, ha => by rw [show F = [] from h] at ha; simp at ha
  | v :: vs, d :: ds, F, h, a, ha => by
    obtain ⟨F1, F2, rfl, h1, h2⟩ := h
    rcases List.mem_append.mp ha with q | q
    · exact h1.thereN a q
    · exact h2.thereN a q
  | [], _ :: _, F, h, _, _ => h.elim
  | _ :: _, [], F, h, _, _ => h.elim
theorem Own2.keep {v : V} {d : D} {F : List Addr} (h : Own2 K B H v d F) (e : Ext B B') (k : ∀ a ∈ F, H' a = H a) : Own2 K B' H' v d F := by
  rcases h with ⟨a, F', vs, ds, rfl, rfl, rfl, h1, h2⟩ | ⟨a, F', vs, ds, rfl, rfl, rfl, h1, h3, h2⟩
  · exact .inl ⟨a, F', vs, ds, rfl, rfl, rfl, (k a (by simp)).trans h1, h2.keep e fun b hb => k b (List.mem_cons_of_mem _ hb)⟩
  · exact .inr ⟨a, F', vs, ds, rfl, rfl, rfl, (k a (by simp)).trans h1, h3, h2.keep e fun b hb => k b (List.mem_cons_of_mem _ hb)⟩
theorem Own2.thereN {v : V} {d : D} {F : List Addr} (h : Own2 K B H v d F) : ∀ a ∈ F, ∃ o, H a = some o ∧ Nt o ∧ ∀ q, some o ≠ some (LamX.CodeO a q) := by
  rcases h with ⟨a, F', vs, ds, rfl, rfl, rfl, h1, h2⟩ | ⟨a, F', vs, ds, rfl, rfl, rfl, h1, h3, h2⟩
  · intro b hb
    rcases List.mem_cons.mp hb with rfl | q
    · exact ⟨_, h1, nt_lst, fun q => code_lst⟩
    · exact h2.thereN b q
  · intro b hb
    rcases List.mem_cons.mp hb with rfl | q
    · exact ⟨_, h1, nt_dK, fun q => code_dK⟩
    · exact h2.thereN b q
theorem OwnL.there {vs : List V} {ds : List D} {F : List Addr} (h : OwnL (Own1 K B H) vs ds F) : ∀ a ∈ F, H a ≠ none := there_of h.thereN
theorem Own2.there {v : V} {d : D} {F : List Addr} (h : Own2 K B H v d F) : ∀ a ∈ F, H a ≠ none := there_of h.thereN
theorem ext_eq {H H' : Hp} {F : List Addr} (e : Ext H H') (t : ∀ a ∈ F, ∃ o, H a = some o ∧ Nt o ∧ ∀ q, some o ≠ some (LamX.CodeO a q)) : ∀ a ∈ F, H' a = H a := fun a ha => by
  obtain ⟨o, q, n, _⟩ := t a ha
  rw [q]; exact e.at q n
theorem Own1.mono {v : V} {d : D} {F : List Addr} (h : Own1 K B H v d F) (e : Ext B B') (e' : Ext H H') : Own1 K B' H' v d F := h.keep e (ext_eq e' h.thereN)
theorem Own2.mono {v : V} {d : D} {F : List Addr} (h : Own2 K B H v d F) (e : Ext B B') (e' : Ext H H') : Own2 K B' H' v d F := h.keep e (ext_eq e' h.thereN)
theorem OwnL.mono {vs : List V} {ds : List D} {F : List Addr} (h : OwnL (Own1 K B H) vs ds F) (e : Ext B B') (e' : Ext H H') : OwnL (Own1 K B' H') vs ds F := h.keep e (ext_eq e' h.thereN)
/-- to be looked at -/
theorem Own1.rep {v : V} {d : D} {F : List Addr} (h : Own1 K B H v d F) (e : Ext B H) : Rep K H d v := by
  obtain ⟨a, rfl, rfl, h⟩ := h
  rcases h with ⟨vs, ds, rfl, h1, h2⟩ | ⟨vs, ds, rfl, h1, h2⟩
  · exact lst_rep (SqL.of h1) (Reps.mono e _ _ h2)
  · exact dic_rep h1 (RepK.mono e _ _ h2)
theorem OwnL.reps : ∀ {vs : List V} {ds : List D} {F : List Addr}, OwnL (Own1 K B H) vs ds F → Ext B H → Reps K H ds vs
  | [], [], F, h, _ => reps_nil
  | v :: vs, d :: ds, F, h, e => by
    obtain ⟨F1, F2, rfl, h1, h2⟩ := h
    exact reps_cons (h1.rep e) (h2.reps e)
  | [], _ :: _, F, h, _ => h.elim
  | _ :: _, [], F, h, _ => h.elim
theorem Own2.rep {v : V} {d : D} {F : List Addr} (h : Own2 K B H v d F) (e : Ext B H) : Rep K H d v := by
  rcases h with ⟨a, F', vs, ds, rfl, rfl, rfl, h1, h2⟩ | ⟨a, F', vs, ds, rfl, rfl, rfl, h1, h3, h2⟩
  · exact lst_rep (SqL.of h1) (h2.reps e)
  · exact dic_rep h1 (repK_zip h3 (h2.reps e))
/-- given up -/
theorem Own1.give {v : V} {d : D} {F G : List Addr} (h : Own1 K B H v d F) (hn : ∀ a ∈ G, B a = none) (hg : ∀ a ∈ F, a ∈ G) : Rep K (joinH B H G) d v := by
  obtain ⟨a, rfl, rfl, h⟩ := h
  have ha : joinH B H G a = H a := joinH_in (hg a (by simp))
  rcases h with ⟨vs, ds, rfl, h1, h2⟩ | ⟨vs, ds, rfl, h1, h2⟩
  · exact lst_rep (SqL.of (ha.trans h1)) (Reps.mono (joinH_b hn) _ _ h2)
  · exact dic_rep (ha.trans h1) (RepK.mono (joinH_b hn) _ _ h2)
theorem OwnL.give {G : List Addr} (hn : ∀ a ∈ G, B a = none) : ∀ {vs : List V} {ds : List D} {F : List Addr}, OwnL (Own1 K B H) vs ds F → (∀ a ∈ F, a ∈ G) → Reps K (joinH B H G) ds vs
  | [], [], F, h, _ => reps_nil
  | v :: vs, d :: ds, F, h, hg => by
    obtain ⟨F1, F2, rfl, h1, h2⟩ := h
    exact reps_cons (h1.give hn fun a ha => hg a (List.mem_append_left _ ha)) (h2.give hn fun a ha => hg a (List.mem_append_right _ ha))
  | [], _ :: _, F, h, _ => h.elim
  | _ :: _, [], F, h, _ => h.elim
theorem Own2.give {v : V} {d : D} {F G : List Addr} (h : Own2 K B H v d F) (hn : ∀ a ∈ G, B a = none) (hg : ∀ a ∈ F, a ∈ G) : Rep K (joinH B H G) d v := by
  rcases h with ⟨a, F', vs, ds, rfl, rfl, rfl, h1, h2⟩ | ⟨a, F', vs, ds, rfl, rfl, rfl, h1, h3, h2⟩
  · exact lst_rep (SqL.of ((joinH_in (hg a (by simp))).trans h1)) (h2.give hn fun b hb => hg b (List.mem_cons_of_mem _ hb))
  · exact dic_rep ((joinH_in (hg a (by simp))).trans h1) (repK_zip h3 (h2.give hn fun b hb => hg b (List.mem_cons_of_mem _ hb)))
end

/-! ### the state -/
/-- the value of a slot, by its kind; F its own objects -/
def KOk (K : PySem.W.Frag) (H0 B H : Hp) : Kd → D → V → List Addr → Prop
  | .frz, d, v, F => F = [] ∧ Rep K B d v
  | .own1, d, v, F => Own1 K B H v d F
  | .own2, d, v, F => Own2 K B H v d F
  | .lent, d, v, F => F = [] ∧ Rep K H0 d v
  | _, _, _, _ => False
theorem KOk.keep {K : PySem.W.Frag} {H0 B H B' H' : Hp} {k : Kd} {d : D} {v : V} {F : List Addr} (h : KOk K H0 B H k d v F) (e : Ext B B') (q : ∀ a ∈ F, H' a = H a) : KOk K H0 B' H' k d v F := by
  cases k with
  | frz => exact ⟨h.1, Rep.mono e _ _ h.2⟩
  | own1 => exact Own1.keep h e q
  | new1 => exact h
  | own2 => exact Own2.keep h e q
  | new2 => exact h
  | lent => exact h
theorem KOk.thereN {K : PySem.W.Frag} {H0 B H : Hp} {k : Kd} {d : D} {v : V} {F : List Addr} (h : KOk K H0 B H k d v F) : ∀ a ∈ F, ∃ o, H a = some o ∧ Nt o ∧ ∀ q, some o ≠ some (LamX.CodeO a q) := by
  cases k with
  | frz => rw [h.1]; intro a ha; simp at ha
  | lent => rw [h.1]; intro a ha; simp at ha
  | own1 => exact Own1.thereN h
  | new1 => exact h.elim
  | own2 => exact Own2.thereN h
  | new2 => exact h.elim
theorem KOk.there {K : PySem.W.Frag} {H0 B H : Hp} {k : Kd} {d : D} {v : V} {F : List Addr} (h : KOk K H0 B H k d v F) : ∀ a ∈ F, H a ≠ none := there_of h.thereN
theorem KOk.rep {K : PySem.W.Frag} {H0 B H : Hp} {k : Kd} {d : D} {v : V} {F : List Addr} (h : KOk K H0 B H k d v F) (e : Ext B H) (e0 : Ext H0 H) : Rep K H d v := by
  cases k with
  | frz => exact Rep.mono e _ _ h.2
  | lent => exact Rep.mono e0 _ _ h.2
  | own1 => exact Own1.rep h e
  | new1 => exact h.elim
  | own2 => exact Own2.rep h e
  | new2 => exact h.elim

structure Rel (K : PySem.W.Frag) (B0 H0 B : Hp) (env : Env) (σ : L2.St) (H : Hp) (o : Addr → Option Nat) : Prop where
  b0 : Ext B0 B
  h0 : Ext H0 H
  bh : Ext B H
  tt : TabsOk H0
  gr : ∀ a, B a ≠ none → B0 a ≠ none ∨ H0 a = none
  len : σ.length = env.length
  sl : ∀ i d k, env[i]? = some (.val d k) → ∃ v F, σ[i]? = some (some v) ∧ KOk K H0 B H k d v F ∧ F.Nodup ∧ ∀ a ∈ F, o a = some i
  fr : ∀ a i, o a = some i → B a = none ∧ H0 a = none ∧ H a ≠ none
  nc : ∀ a i, o a = some i → ∀ q, H a ≠ some (LamX.CodeO a q)
theorem Rel.step {K : PySem.W.Frag} {B0 H0 B B' H H' : Hp} {env : Env} {σ : L2.St} {o : Addr → Option Nat} (R : Rel K B0 H0 B env σ H o) (s : Step B H B' H') : Rel K B0 H0 B' env σ H' o where
  b0 := R.b0.trans s.bb
  h0 := R.h0.trans s.hh
  bh := s.bh
  tt := R.tt
  gr := fun a h => (s.nw a h).elim (R.gr a) fun q => .inr (R.h0.back q)
  len := R.len
  sl := fun i d k e => by
    obtain ⟨v, F, h1, h2, h3, h4⟩ := R.sl i d k e
    exact ⟨v, F, h1, h2.keep s.bb (ext_eq s.hh h2.thereN), h3, h4⟩
  fr := fun a i e => by
    obtain ⟨h1, h2, h3⟩ := R.fr a i e
    refine ⟨?_, h2, s.hh.ne h3⟩
    cases q : B' a with
    | none => rfl
    | some u => exact ((s.nw a (by rw [q]; exact fun z => nomatch z)).elim (fun z => z h1) fun z => h3 z).elim
  nc := fun a i e q => by
    obtain ⟨h1, h2, h3⟩ := R.fr a i e
    have h4 := R.nc a i e
    cases hu : H a with
    | none => exact absurd hu h3
    | some u =>
      rcases s.hh a u hu with z | ⟨ps, ps', z1, z, _⟩
      · rw [z]; rw [hu] at h4; exact h4 q
      · rw [z]; exact fun w => LamX.codeO_ne ps' (Option.some.inj w).symm

/-- what an expression gives -/
def ROk (K : PySem.W.Frag) (H0 B H : Hp) : Kd → D → V → List Addr → Prop
  | .frz, d, v, F => F = [] ∧ Rep K B d v
  | .new1, d, v, F => Own1 K B H v d F
  | .new2, d, v, F => Own2 K B H v d F
  | .own1, d, v, F => F = [] ∧ ∃ G, Own1 K B H v d G
  | .own2, d, v, F => F = [] ∧ ∃ G, Own2 K B H v d G
  | .lent, d, v, F => F = [] ∧ Rep K H0 d v
/-- new objects -/
structure FrF (H B' : Hp) (F : List Addr) : Prop where
  nd : F.Nodup
  h : ∀ a ∈ F, H a = none
  b : ∀ a ∈ F, B' a = none
theorem FrF.nil {H B' : Hp} : FrF H B' [] := ⟨List.nodup_nil, by simp, by simp⟩
theorem FrF.one {H B' : Hp} {a : Addr} (h : H a = none) (b : B' a = none) : FrF H B' [a] := ⟨by simp, by simpa using h, by simpa using b⟩
theorem ROk.rep {K : PySem.W.Frag} {H0 B H : Hp} {k : Kd} {d : D} {v : V} {F : List Addr} (h : ROk K H0 B H k d v F) (e : Ext B H) (e0 : Ext H0 H) : Rep K H d v := by
  cases k with
  | frz => exact Rep.mono e _ _ h.2
  | lent => exact Rep.mono e0 _ _ h.2
  | own1 => obtain ⟨_, _, h⟩ := h; exact Own1.rep h e
  | new1 => exact Own1.rep h e
  | own2 => obtain ⟨_, _, h⟩ := h; exact Own2.rep h e
  | new2 => exact Own2.rep h e
/-- given up: it stays -/
theorem Step.give {B H B' H' : Hp} {F : List Addr} (s : Step B H B' H') (f : FrF H B' F) : Step B H (joinH B' H' F) H' :=
  ⟨s.bb.trans (joinH_b f.b), s.hh, joinH_h s.bh, fun a h => by
    by_cases q : a ∈ F
    · exact .inr (f.h a q)
    · rw [joinH_out q] at h; exact s.nw a h⟩
end Hg
end

section
set_option Elab.async false
set_option maxRecDepth 100000
set_option maxHeartbeats 4000000
/-! Snd1: readings made of the evaluator; the rules of expressions. -/
namespace Hg
open PySem PySem.Spec PyProof.Rows L2
variable [TB : Tabl]

/-- what a body may lean on -/
structure Gd (X : Cx) : Prop where
  calm : X.calm = true
  nd : X.N.Nodup
  un : X.A.units + 80 < cLine
  len : X.mg ("len" : Str) = none
  range : X.mg ("range" : Str) = none
  sorted : X.mg ("sorted" : Str) = none
  min : X.mg ("min" : Str) = none
  max : X.mg ("max" : Str) = none
  sum : X.mg ("sum" : Str) = none
  isi : X.mg ("isinstance" : Str) = none
  list : X.mg ("list" : Str) = none
  tuple : X.mg ("tuple" : Str) = none
  dict : X.mg ("dict" : Str) = none
  int : X.mg ("int" : Str) = none
  str : X.mg ("str" : Str) = none
  bool : X.mg ("bool" : Str) = none
  set : X.mg ("set" : Str) = none
  enum : X.mg ("enumerate" : Str) = none
  rev : X.mg ("reversed" : Str) = none
  zip : X.mg ("zip" : Str) = none

section
variable (C : Nat → List D → Option D)
/-- the reading of an expression, of a test, of arguments -/
def tE (K : PySem.W.Frag) (e : E) : TE := fun σ H Q => ∃ B0 H0 B env o d k, Rel K B0 H0 B env σ H o ∧ ev C e env = some (d, k) ∧
  ∀ B' H' v F, Step B H B' H' → ROk K H0 B' H' k d v F → FrF H B' F → Q v H'
def tT (K : PySem.W.Frag) (t : T) : TT := fun σ H Q => ∃ B0 H0 B env o b, Rel K B0 H0 B env σ H o ∧ evT C t env = some b ∧ ∀ B' H', Step B H B' H' → Q b H'
def tA (K : PySem.W.Frag) (es : Es) : TA := fun σ H Q => ∃ B0 H0 B env o ds, Rel K B0 H0 B env σ H o ∧ evs C es env = some ds ∧ ∀ B' H' vs, Step B H B' H' → Reps K B' ds vs → Q vs H'
end
/-- a weaker reading -/
theorem imp_e {X : Cx} {x : Expr} {t u : TE} (h : PE X x t) (f : ∀ σ H Q, u σ H Q → t σ H Q) : PE X x u := ⟨fun pins s σ H Q I q => h.run pins s σ H Q I (f σ H Q q)⟩
theorem imp_t {X : Cx} {x : Expr} {t u : TT} (h : PT X x t) (f : ∀ σ H Q, u σ H Q → t σ H Q) : PT X x u := ⟨fun pins s σ H Q I q => h.run pins s σ H Q I (f σ H Q q)⟩
theorem imp_w {X : Cx} {x : Expr} {t u : TT} (h : PW X x t) (f : ∀ σ H Q, u σ H Q → t σ H Q) : PW X x u := ⟨fun wh pins s σ H Q I q => h.run wh pins s σ H Q I (f σ H Q q)⟩
theorem imp_a {X : Cx} {x : List Expr} {t u : TA} (h : PA X x t) (f : ∀ σ H Q, u σ H Q → t σ H Q) : PA X x u := ⟨fun pos pins s σ H Q I q => h.run pos pins s σ H Q I (f σ H Q q)⟩
theorem imp_s {X : Cx} {x : Stmt} {t u : TS} (h : PS X x t) (f : ∀ D σ H, u D σ H → t D σ H) : PS X x u := ⟨fun pins s σ H D I q => h.run pins s σ H D I (f D σ H q)⟩
theorem imp_ss {X : Cx} {x : List Stmt} {t u : TS} (h : PSs X x t) (f : ∀ D σ H, u D σ H → t D σ H) : PSs X x u := ⟨fun pins s σ H D I q => h.run pins s σ H D I (f D σ H q)⟩

section
variable (C : Nat → List D → Option D)
abbrev SE (X : Cx) (e : E) (x : Expr) : Prop := PE X x (tE C X.K e)
abbrev ST (X : Cx) (t : T) (x : Expr) : Prop := PT X x (tT C X.K t)
abbrev SW (X : Cx) (t : T) (x : Expr) : Prop := PW X x (tT C X.K t)
abbrev SA (X : Cx) (es : Es) (xs : List Expr) : Prop := PA X xs (tA C X.K es)
end

section
variable {C : Nat → List D → Option D} {K : PySem.W.Frag} {B0 H0 B H : Hp} {env : Env} {σ : L2.St} {o : Addr → Option Nat} {e : E} {d : D} {k : Kd} {Q : VK}
/-- what is looked at -/
theorem use_b (R : Rel K B0 H0 B env σ H o) (h : bm (ev C e env) = some d) (q : ∀ B' H' v, Step B H B' H' → Rep K H' d v → Q v H') : tE C K e σ H Q := by
  cases he : ev C e env with
  | none => rw [he] at h; cases h
  | some p =>
    obtain ⟨d', k⟩ := p
    rw [he] at h
    cases h
    exact ⟨B0, H0, B, env, o, d, k, R, he, fun B' H' v F s r f => q B' H' v s (r.rep s.bh (R.h0.trans s.hh))⟩
/-- what is kept -/
theorem use_v (R : Rel K B0 H0 B env σ H o) (h : vm (ev C e env) = some d) (q : ∀ B' H' v, Step B H B' H' → Rep K B' d v → Q v H') : tE C K e σ H Q := by
  cases he : ev C e env with
  | none => rw [he] at h; cases h
  | some p =>
    obtain ⟨d', k⟩ := p
    rw [he] at h
    have h' : (if k = .frz ∨ k = .new1 ∨ k = .new2 ∨ d'.atom = true then some d' else none) = some d := h
    by_cases hk : k = .frz ∨ k = .new1 ∨ k = .new2 ∨ d'.atom = true
    · rw [if_pos hk] at h'
      cases h'
      refine ⟨B0, H0, B, env, o, d, k, R, he, fun B' H' v F s r f => ?_⟩
      by_cases ha : d.atom = true
      · exact q B' H' v s (Rep.atom ha (r.rep s.bh (R.h0.trans s.hh)))
      · rcases hk with rfl | rfl | rfl | z
        · exact q B' H' v s r.2
        · exact q _ H' v (s.give f) (Own1.give r f.b fun a h => h)
        · exact q _ H' v (s.give f) (Own2.give r f.b fun a h => h)
        · exact absurd z ha
    · rw [if_neg hk] at h'
      cases h'
/-- one whose items are kept -/
def Elem (K : PySem.W.Frag) (B H : Hp) : D → V → Prop
  | .lst ds, v => ∃ a vs, v = .ref a ∧ SqL K H a vs ∧ Reps K B ds vs
  | .dic ds, v => ∃ a vs, v = .ref a ∧ H a = some (.dK vs) ∧ RepK K B ds vs
  | d, v => Rep K B d v
theorem el_int {B H : Hp} {i : Int} {v : V} (h : Elem K B H (.int i) v) : v = .int i := rep_int (K := K) (B := B) h
theorem el_str {B H : Hp} {i : List Nat} {v : V} (h : Elem K B H (.str i) v) : v = .str (sv i) := rep_str (K := K) (B := B) h
theorem Rep.elem {B H : Hp} {d : D} {v : V} (r : Rep K B d v) (e : Ext B H) : Elem K B H d v := by
  cases d with
  | lst ds => obtain ⟨a, vs, h1, h2, h3⟩ := rep_lst r; exact ⟨a, vs, h1, e.sq h2, h3⟩
  | dic ds => obtain ⟨a, vs, h1, h2, h3⟩ := rep_dic r; exact ⟨a, vs, h1, e.at h2 nt_dK, h3⟩
  | non => exact r
  | bl b => exact r
  | int i => exact r
  | str s => exact r
  | tup ds => exact r
theorem Own1.elem {B H : Hp} {d : D} {v : V} {F : List Addr} (r : Own1 K B H v d F) : Elem K B H d v := by
  obtain ⟨a, rfl, rfl, h⟩ := r
  rcases h with ⟨vs, ds, rfl, h1, h2⟩ | ⟨vs, ds, rfl, h1, h2⟩
  · exact ⟨a, vs, rfl, SqL.of h1, h2⟩
  · exact ⟨a, vs, rfl, h1, h2⟩
theorem Elem.mono {B H B' H' : Hp} {d : D} {v : V} (r : Elem K B H d v) (e : Ext B B') (e' : Ext H H') : Elem K B' H' d v := by
  cases d with
  | lst ds => obtain ⟨a, vs, h1, h2, h3⟩ := r; exact ⟨a, vs, h1, e'.sq h2, Reps.mono e _ _ h3⟩
  | dic ds => obtain ⟨a, vs, h1, h2, h3⟩ := r; exact ⟨a, vs, h1, e'.at h2 nt_dK, RepK.mono e _ _ h3⟩
  | non => exact Rep.mono e _ _ r
  | bl b => exact Rep.mono e _ _ r
  | int i => exact Rep.mono e _ _ r
  | str s => exact Rep.mono e _ _ r
  | tup ds => exact Rep.mono e _ _ r
theorem use_e (R : Rel K B0 H0 B env σ H o) (h : em (ev C e env) = some d) (q : ∀ B' H' v, Step B H B' H' → Elem K B' H' d v → Q v H') : tE C K e σ H Q := by
  cases he : ev C e env with
  | none => rw [he] at h; cases h
  | some p =>
    obtain ⟨d', k⟩ := p
    by_cases hk : k = .own1
    · subst hk
      rw [he] at h
      have h' : (if (Kd.own1 = .frz ∨ Kd.own1 = .new1 ∨ Kd.own1 = .new2 ∨ Kd.own1 = .own1 ∨ d'.atom = true) then some d' else none) = some d := h
      rw [if_pos (.inr (.inr (.inr (.inl rfl))))] at h'
      cases h'
      refine ⟨B0, H0, B, env, o, d, .own1, R, he, fun B' H' v F s r f => ?_⟩
      obtain ⟨_, G, r⟩ := r
      exact q B' H' v s (Own1.elem r)
    · have hv : vm (ev C e env) = some d := by
        rw [he] at h ⊢
        have h' : (if k = .frz ∨ k = .new1 ∨ k = .new2 ∨ k = .own1 ∨ d'.atom = true then some d' else none) = some d := h
        by_cases hq : k = .frz ∨ k = .new1 ∨ k = .new2 ∨ k = .own1 ∨ d'.atom = true
        · rw [if_pos hq] at h'
          have hq' : k = .frz ∨ k = .new1 ∨ k = .new2 ∨ d'.atom = true := by
            rcases hq with z | z | z | z | z
            · exact .inl z
            · exact .inr (.inl z)
            · exact .inr (.inr (.inl z))
            · exact absurd z hk
            · exact .inr (.inr (.inr z))
          show (if k = .frz ∨ k = .new1 ∨ k = .new2 ∨ d'.atom = true then some d' else none) = some d
          rw [if_pos hq']
          exact h'
        · rw [if_neg hq] at h'
          cases h'
      exact use_v R hv fun B' H' v s r => q B' H' v s (r.elem s.bh)
end

/-! ### helpers for what comes back -/
section
variable {K : PySem.W.Frag} {H0 B H B' H' : Hp} {d : D} {v : V}
theorem bm_of {o : Option (D × Kd)} {d : D} {k : Kd} (h : o = some (d, k)) : bm o = some d := by rw [h]; rfl
theorem fr_some {o : Option D} {d : D} {k : Kd} (h : fr o = some (d, k)) : o = some d ∧ k = .frz := by
  cases o with
  | none => cases h
  | some x => cases h; exact ⟨rfl, rfl⟩
theorem frB_some {o : Option Bool} {d : D} {k : Kd} (h : frB o = some (d, k)) : ∃ b, o = some b ∧ d = .bl b ∧ k = .frz := by
  cases o with
  | none => cases h
  | some x => cases h; exact ⟨x, rfl, rfl, rfl⟩
theorem frI_some {o : Option Int} {d : D} {k : Kd} (h : frI o = some (d, k)) : ∃ b, o = some b ∧ d = .int b ∧ k = .frz := by
  cases o with
  | none => cases h
  | some x => cases h; exact ⟨x, rfl, rfl, rfl⟩
theorem nw_some {o : Option D} {d : D} {k : Kd} (h : nw o = some (d, k)) : o = some d ∧ k = kdOf d := by
  cases o with
  | none => cases h
  | some x => cases h; exact ⟨rfl, rfl⟩
theorem asInt_some {d : D} {i : Int} (h : asInt d = some i) : d = .int i := by cases d <;> simp [asInt] at h; rw [h]
theorem asStr_some {d : D} {i : List Nat} (h : asStr d = some i) : d = .str i := by cases d <;> simp [asStr] at h; rw [h]
theorem asBl_some {d : D} {i : Bool} (h : asBl d = some i) : d = .bl i := by cases d <;> simp [asBl] at h; rw [h]
end

section
variable {C : Nat → List D → Option D} {X : Cx} {a b : E} {x y : Expr} {pos : Pos}
/-- a name -/
theorem se_var {i : Nat} {n : Str} (hN : X.N[i]? = some n := by rfl) (hv : Vis X.env.scope n := by first | exact Or.inl rfl | exact Or.inr (Or.inl rfl) | exact Or.inr (Or.inr rfl)) (hd : (n == ("__debug__" : Str)) = false := by decide)
    (hcd : (n == ("__classdict__" : Str)) = false := by decide) : SE C X (.var i) (.Name n pos) := by
  refine imp_e (pe_var hN hv hd hcd) fun σ H Q h => ?_
  obtain ⟨B0, H0, B, env, o, d, k, R, he, q⟩ := h
  have he' : (match env[i]? with | some (.val d k) => some (d, k) | _ => none) = some (d, k) := he
  cases hs : env[i]? with
  | none => rw [hs] at he'; cases he'
  | some s =>
    cases s with
    | un => rw [hs] at he'; cases he'
    | val d' k' =>
      rw [hs] at he'
      cases he'
      obtain ⟨v, F, h1, h2, h3, h4⟩ := R.sl i d k hs
      refine ⟨v, h1, ?_⟩
      cases k with
      | frz => exact q B H v [] (Step.refl R.bh) ⟨rfl, h2.2⟩ FrF.nil
      | lent => exact q B H v [] (Step.refl R.bh) ⟨rfl, h2.2⟩ FrF.nil
      | own1 => exact q B H v [] (Step.refl R.bh) ⟨rfl, F, h2⟩ FrF.nil
      | own2 => exact q B H v [] (Step.refl R.bh) ⟨rfl, F, h2⟩ FrF.nil
      | new1 => exact h2.elim
      | new2 => exact h2.elim
end

/-! ### two parts in a row -/
section
variable {C : Nat → List D → Option D} {K : PySem.W.Frag} {B0 H0 B H : Hp} {env : Env} {σ : L2.St} {o : Addr → Option Nat} {a b : E} {dx dy : D} {Q : V → V → Hp → Prop}
theorem two_b (R : Rel K B0 H0 B env σ H o) (hx : bm (ev C a env) = some dx) (hy : bm (ev C b env) = some dy) (q : ∀ B' H' u v, Step B H B' H' → Rep K H' dx u → Rep K H' dy v → Q u v H') :
    tE C K a σ H fun u H1 => tE C K b σ H1 fun v H2 => Q u v H2 :=
  use_b R hx fun B1 H1 u s1 r1 => use_b (R.step s1) hy fun B2 H2 v s2 r2 => q B2 H2 u v (s1.trans s2) (Rep.mono s2.hh _ _ r1) r2
theorem two_e (R : Rel K B0 H0 B env σ H o) (hx : em (ev C a env) = some dx) (hy : em (ev C b env) = some dy) (q : ∀ B' H' u v, Step B H B' H' → Elem K B' H' dx u → Elem K B' H' dy v → Q u v H') :
    tE C K a σ H fun u H1 => tE C K b σ H1 fun v H2 => Q u v H2 :=
  use_e R hx fun B1 H1 u s1 r1 => use_e (R.step s1) hy fun B2 H2 v s2 r2 => q B2 H2 u v (s1.trans s2) (r1.mono s2.bb s2.hh) r2
end

section
variable {C : Nat → List D → Option D} {X : Cx} {a b c : E} {x y z : Expr} {pos : Pos}
/-! ### constants -/
theorem se_int {i : Int} {j : Bool} : True := trivial
theorem fin_atom {K : PySem.W.Frag} {H0 B H : Hp} {Q : VK} {d : D} {k : Kd} {v : V} (hb : Ext B H) (q : ∀ B' H' v F, Step B H B' H' → ROk K H0 B' H' k d v F → FrF H B' F → Q v H') (hk : k = .frz) (r : Rep K B d v) : Q v H := by
  subst hk
  exact q B H v [] (Step.refl hb) ⟨rfl, r⟩ FrF.nil
theorem se_const {d : D} {v : V} (h : PE X x (tC v)) (r : ∀ K B, Rep K B d v) : SE C X (.c d) x := by
  refine imp_e h fun σ H Q h => ?_
  obtain ⟨B0, H0, B, env, o, d', k, R, he, q⟩ := h
  have he' : (if d.atom then some (d, Kd.frz) else none) = some (d', k) := he
  by_cases hd : d.atom = true
  · rw [if_pos hd] at he'
    cases he'
    exact fin_atom R.bh q rfl (r _ _)
  · rw [if_neg hd] at he'
    cases he'
theorem se_i {i j pos} : SE C X (.c (.int i)) (.Constant (.int i) j pos) := se_const pe_int fun _ _ => int_rep
theorem se_b {i j pos} : SE C X (.c (.bl i)) (.Constant (.bool i) j pos) := se_const pe_bl fun _ _ => bl_rep
theorem se_n {j pos} : SE C X (.c .non) (.Constant .none j pos) := se_const pe_non fun _ _ => non_rep
theorem se_s {s : List Nat} {t : Str} {j pos} (h : t = sv s := by rfl) : SE C X (.c (.str s)) (.Constant (.str t) j pos) := by
  subst h
  exact se_const pe_str fun _ _ => str_rep
/-- a number of the module -/
theorem se_g {i : Int} {n : Str} {pos : Pos} {u : Value} (hm : X.mg n = some u) (r : RelV (.int i) u) (hg : Gl X n := by rfl) (hd : (n == ("__debug__" : Str)) = false := by decide) : SE C X (.c (.int i)) (.Name n pos) := se_const (pe_glob hg hm r hd) fun _ _ => int_rep

/-! ### operators of two numbers -/
theorem bind2_some {α β γ : Type} {p : Option α} {q : Option β} {f : α → β → Option γ} {r : γ} (h : (p.bind fun x => q.bind fun y => f x y) = some r) : ∃ x y, p = some x ∧ q = some y ∧ f x y = some r := by
  rw [Option.bind_eq_some_iff] at h
  obtain ⟨x, h1, h⟩ := h
  rw [Option.bind_eq_some_iff] at h
  obtain ⟨y, h2, h⟩ := h
  exact ⟨x, y, h1, h2, h⟩
theorem int2_some {dx dy : D} {f : Int → Int → Option Int} {d : D} {k : Kd} (h : frI ((asInt dx).bind fun i => (asInt dy).bind fun j => f i j) = some (d, k)) : ∃ i j n, dx = .int i ∧ dy = .int j ∧ f i j = some n ∧ d = .int n ∧ k = .frz := by
  obtain ⟨n, h1, rfl, rfl⟩ := frI_some h
  obtain ⟨i, j, h2, h3, h4⟩ := bind2_some h1
  exact ⟨i, j, n, asInt_some h2, asInt_some h3, h4, rfl, rfl⟩
theorem map_bind {α β : Type} {p : Option α} {f : α → β} : (p.map f) = p.bind fun x => some (f x) := by cases p <;> rfl
theorem se_bin {op : Operator} {r : R2} (ho : OpR X (binaryOp op) r) (ha : SE C X a x) (hb : SE C X b y) {e : E}
    (h : ∀ (K : PySem.W.Frag) B0 H0 B env σ H o d k (Q : VK), Rel K B0 H0 B env σ H o → ev C e env = some (d, k) → (∀ B' H' v F, Step B H B' H' → ROk K H0 B' H' k d v F → FrF H B' F → Q v H') → K = X.K →
      tE C K a σ H fun u H1 => tE C K b σ H1 fun v H2 => r u v H2 Q) : SE C X e (.BinOp x op y pos) :=
  imp_e (pe_op ho ha hb) fun σ H Q ⟨B0, H0, B, env, o, d, k, R, he, q⟩ => h _ _ _ _ _ _ _ _ _ _ _ R he q rfl
theorem se_sub (ha : SE C X a x) (hb : SE C X b y) : SE C X (.sub a b) (.BinOp x .Sub y pos) := by
  refine se_bin op_sub ha hb fun K B0 H0 B env σ H o d k Q R he q _ => ?_
  have he' : ((bm (ev C a env)).bind fun x => (bm (ev C b env)).bind fun y => frI ((asInt x).bind fun i => (asInt y).map fun j => i - j)) = some (d, k) := he
  obtain ⟨dx, dy, h1, h2, h3⟩ := bind2_some he'
  simp only [map_bind] at h3
  obtain ⟨i, j, n, rfl, rfl, hn, rfl, rfl⟩ := int2_some h3
  cases hn
  refine two_b R h1 h2 fun B' H' u v s ru rv => ?_
  exact ⟨i, j, rep_int ru, rep_int rv, q B' H' _ [] s ⟨rfl, int_rep⟩ FrF.nil⟩
theorem se_md (ha : SE C X a x) (hb : SE C X b y) : SE C X (.md a b) (.BinOp x .Mod y pos) := by
  refine se_bin op_mod ha hb fun K B0 H0 B env σ H o d k Q R he q _ => ?_
  have he' : ((bm (ev C a env)).bind fun x => (bm (ev C b env)).bind fun y => frI ((asInt x).bind fun i => (asInt y).bind fun j => if 0 < j then some (i % j) else none)) = some (d, k) := he
  obtain ⟨dx, dy, h1, h2, h3⟩ := bind2_some he'
  obtain ⟨i, j, n, rfl, rfl, hn, rfl, rfl⟩ := int2_some h3
  by_cases hj : 0 < j
  · rw [if_pos hj] at hn
    cases hn
    refine two_b R h1 h2 fun B' H' u v s ru rv => ?_
    exact ⟨i, j, rep_int ru, rep_int rv, hj, q B' H' _ [] s ⟨rfl, int_rep⟩ FrF.nil⟩
  · rw [if_neg hj] at hn
    cases hn
theorem se_fd (ha : SE C X a x) (hb : SE C X b y) : SE C X (.fd a b) (.BinOp x .FloorDiv y pos) := by
  refine se_bin op_fdiv ha hb fun K B0 H0 B env σ H o d k Q R he q _ => ?_
  have he' : ((bm (ev C a env)).bind fun x => (bm (ev C b env)).bind fun y => frI ((asInt x).bind fun i => (asInt y).bind fun j => if 0 < j ∧ j < 1073741824 then some (i / j) else none)) = some (d, k) := he
  obtain ⟨dx, dy, h1, h2, h3⟩ := bind2_some he'
  obtain ⟨i, j, n, rfl, rfl, hn, rfl, rfl⟩ := int2_some h3
  by_cases hj : 0 < j ∧ j < 1073741824
  · rw [if_pos hj] at hn
    cases hn
    refine two_b R h1 h2 fun B' H' u v s ru rv => ?_
    exact ⟨i, j, rep_int ru, rep_int rv, hj, q B' H' _ [] s ⟨rfl, int_rep⟩ FrF.nil⟩
  · rw [if_neg hj] at hn
    cases hn
theorem se_pow (ha : SE C X a x) (hb : SE C X b y) : SE C X (.pow a b) (.BinOp x .Pow y pos) := by
  refine se_bin op_pow ha hb fun K B0 H0 B env σ H o d k Q R he q _ => ?_
  have he' : ((bm (ev C a env)).bind fun x => (bm (ev C b env)).bind fun y => frI ((asInt x).bind fun i => (asInt y).bind fun j => if 0 ≤ j ∧ j ≤ 1000 ∧ i.natAbs < 1000 then some (i ^ j.toNat) else none)) = some (d, k) := he
  obtain ⟨dx, dy, h1, h2, h3⟩ := bind2_some he'
  obtain ⟨i, j, n, rfl, rfl, hn, rfl, rfl⟩ := int2_some h3
  by_cases hj : 0 ≤ j ∧ j ≤ 1000 ∧ i.natAbs < 1000
  · rw [if_pos hj] at hn
    cases hn
    refine two_b R h1 h2 fun B' H' u v s ru rv => ?_
    exact ⟨i, j, rep_int ru, rep_int rv, ⟨hj.1, by omega, by omega⟩, q B' H' _ [] s ⟨rfl, int_rep⟩ FrF.nil⟩
  · rw [if_neg hj] at hn
    cases hn
theorem se_neg (ha : SE C X a x) : SE C X (.neg a) (.UnaryOp .USub x pos) := by
  refine imp_e (pe_un un_neg ha) fun σ H Q h => ?_
  obtain ⟨B0, H0, B, env, o, d, k, R, he, q⟩ := h
  have he' : frI ((bm (ev C a env)).bind fun x => (asInt x).map fun i => -i) = some (d, k) := he
  obtain ⟨n, h1, rfl, rfl⟩ := frI_some he'
  simp only [map_bind] at h1
  rw [Option.bind_eq_some_iff] at h1
  obtain ⟨dx, h1, h2⟩ := h1
  rw [Option.bind_eq_some_iff] at h2
  obtain ⟨i, h2, h3⟩ := h2
  cases h3
  obtain rfl := asInt_some h2
  exact use_b R h1 fun B' H' u s ru => ⟨i, rep_int ru, q B' H' _ [] s ⟨rfl, int_rep⟩ FrF.nil⟩

/-- lists one behind the other -/
def rCatS (K : PySem.W.Frag) : R2 := fun x y H Q => ∃ l b xs zs, x = .ref l ∧ y = .ref b ∧ SqL K H l xs ∧ SqL K H b zs ∧ xs.length + zs.length ≤ sizeLine ∧ ∀ p, H p = none → Q (.ref p) (upd H p (.lst (xs ++ zs)))
theorem op_catS : OpR X (binaryOp .Add) (rCatS X.K) := by
  intro pins s σ H x y v u Q I rx ry h
  obtain ⟨l, b, xs, zs, rfl, rfl, hH, hB, hz, q⟩ := h
  cases rx
  cases ry
  obtain ⟨its, r, pl, hl⟩ := I.list hH
  obtain ⟨its2, r2, pl2, hl2⟩ := I.list hB
  obtain ⟨⟨cls, dd, data, sl⟩, n, ho, hc, hd, hdt⟩ := pl
  obtain ⟨⟨cls2, dd2, data2, sl2⟩, n2, ho2, hc2, hd2, hdt2⟩ := pl2
  simp only at hc hd hdt hc2 hd2 hdt2
  subst hc hd hdt hc2 hd2 hdt2
  have e1 := r.length
  have e2 := r2.length
  have e : its.toArray ++ its2.toArray = (its ++ its2).toArray := by simp
  refine concat_meets ⟨_, ho, rfl⟩ ⟨_, ho2, rfl⟩ noFill_list_add seq_list_add PySem.F.slot_list_add PySem.F.entry_list_add (PySem.F.args_list_add_2 _ _)
    (list_addW l b its.toArray its2.toArray n n2 none none sl sl2 (by rw [List.size_toArray, List.size_toArray]; omega)) ⟨ho, ho2, ?_⟩
  rw [e]
  exact ⟨.ref _, _, I.lnew (t' := s.toks) (r.append r2) (by rw [List.length_append]; omega), rfl, q _ I.fresh⟩
theorem sizeL {n : Nat} (h : n ≤ L) : n ≤ sizeLine := Nat.le_trans h (by decide)
theorem sizeLt {n : Nat} (h : n < L) : n < sizeLine := Nat.lt_of_lt_of_le h (by decide)
theorem sv_append (s t : List Nat) : sv s ++ sv t = sv (s ++ t) := by
  show (⟨s.toArray ++ t.toArray⟩ : Str) = ⟨(s ++ t).toArray⟩
  rw [List.append_toArray]
theorem sv_length (s : List Nat) : (sv s).length = s.length := by
  show s.toArray.size = s.length
  simp
/-- a new list of one's own -/
theorem fin_list {K : PySem.W.Frag} {H0 B H B' H' : Hp} {Q : VK} {ds : List D} {vs : List V} {k : Kd} (q : ∀ B' H' v F, Step B H B' H' → ROk K H0 B' H' k (.lst ds) v F → FrF H B' F → Q v H') (hk : k = .new1) (s : Step B H B' H')
    (r : Reps K B' ds vs) : ∀ p, H' p = none → Q (.ref p) (upd H' p (.lst vs)) := fun p hp => by
  subst hk
  exact q B' _ _ [p] (s.trans (Step.own s.bh hp)) ⟨p, rfl, rfl, .inl ⟨vs, ds, rfl, upd_same, r⟩⟩ (FrF.one (s.hh.back hp) (s.bh.back hp))
theorem se_add (ha : SE C X a x) (hb : SE C X b y) : SE C X (.add a b) (.BinOp x .Add y pos) := by
  refine se_bin (op_add.or (op_add_str.or op_catS)) ha hb fun K B0 H0 B env σ H o d k Q R he q hK => ?_
  subst hK
  have he' : nw ((em (ev C a env)).bind fun x => (em (ev C b env)).bind fun y => addD x y) = some (d, k) := he
  obtain ⟨he1, hk⟩ := nw_some he'
  obtain ⟨dx, dy, h1, h2, h3⟩ := bind2_some he1
  refine two_e R h1 h2 fun B' H' u v s ru rv => ?_
  cases dx <;> cases dy <;> simp [addD] at h3
  · subst h3
    exact .inl ⟨_, _, el_int ru, el_int rv, q B' H' _ [] s (by rw [hk]; exact ⟨rfl, int_rep⟩) FrF.nil⟩
  · obtain ⟨h4, rfl⟩ := h3
    refine .inr (.inl ⟨_, _, el_str ru, el_str rv, by rw [sv_length, sv_length]; exact sizeL h4, ?_⟩)
    rw [sv_append]
    exact q B' H' _ [] s (by rw [hk]; exact ⟨rfl, str_rep⟩) FrF.nil
  · obtain ⟨h4, rfl⟩ := h3
    obtain ⟨p1, vs1, rfl, q1, r1⟩ := ru
    obtain ⟨p2, vs2, rfl, q2, r2⟩ := rv
    refine .inr (.inr ⟨p1, p2, vs1, vs2, rfl, rfl, q1, q2, by rw [r1.length, r2.length]; exact sizeL h4, ?_⟩)
    exact fin_list q hk s (r1.append r2)
theorem mulOk_of {i j : Int} (h : mulOk i j = true) : CMul i j := by
  exact (mulOk_iff i j).mp h
theorem se_mul (ha : SE C X a x) (hb : SE C X b y) : SE C X (.mul a b) (.BinOp x .Mult y pos) := by
  refine se_bin op_mul ha hb fun K B0 H0 B env σ H o d k Q R he q hK => ?_
  subst hK
  have he' : nw ((em (ev C a env)).bind fun x => (em (ev C b env)).bind fun y => match x, y with | .int i, .int j => if mulOk i j then some (.int (i * j)) else none | _, _ => none) = some (d, k) := he
  obtain ⟨he1, hk⟩ := nw_some he'
  obtain ⟨dx, dy, h1, h2, h3⟩ := bind2_some he1
  refine two_e R h1 h2 fun B' H' u v s ru rv => ?_
  cases dx <;> cases dy <;> simp at h3
  obtain ⟨h4, rfl⟩ := h3
  exact ⟨_, _, el_int ru, el_int rv, mulOk_of h4, q B' H' _ [] s (by rw [hk]; exact ⟨rfl, int_rep⟩) FrF.nil⟩
end
end Hg
end

section
set_option Elab.async false
set_option maxRecDepth 100000
set_option maxHeartbeats 4000000
/-! Snd2: comparisons, tests, subscripts, displays, arguments. -/
namespace Hg
open PySem PySem.Spec PyProof.Rows L2
variable [TB : Tabl]

/-! ### data as the library's data -/
mutual
def toPD : D → PyData
  | .non => .none
  | .bl b => .bool b
  | .int i => .int i
  | .str s => .str (sv s)
  | .tup xs => .tuple (toPDs xs)
  | .lst xs => .list (toPDs xs)
  | .dic _ => .none
def toPDs : List D → List PyData
  | [] => []
  | x :: xs => toPD x :: toPDs xs
end
theorem sv_ok {s : List Nat} (h : (s.all fun c => decide (c < 128)) = true) : PyData.strOk (sv s) = true := by
  unfold PyData.strOk sv
  rw [Array.all_eq_true']
  intro x hx
  have h1 : x ∈ s := by simpa using hx
  have h2 := of_decide_eq_true (List.all_eq_true.mp h x h1)
  exact decide_eq_true (Nat.lt_trans h2 (by decide))
mutual
theorem plain_lay : ∀ (n : Nat) (d : D), plainD n d = true → (toPD d).canLay0 = true ∧ (toPD d).depth ≤ n
  | n, .non, _ => by simp [toPD, PyData.canLay0, PyData.depth]
  | n, .bl _, _ => by simp [toPD, PyData.canLay0, PyData.depth]
  | n, .int _, _ => by simp [toPD, PyData.canLay0, PyData.depth]
  | n, .str s, h => by
    have h' : (s.all fun c => decide (c < 128)) = true := by
      cases n <;> simpa [plainD] using h
    simp [toPD, PyData.canLay0, PyData.depth, sv_ok h']
  | 0, .tup xs, h => by simp [plainD] at h
  | 0, .lst xs, h => by simp [plainD] at h
  | n + 1, .tup xs, h => by
    have h' : xs.all (plainD n) = true := by simpa [plainD] using h
    obtain ⟨h1, h2⟩ := plains_lay n xs h'
    simp only [toPD, PyData.canLay0, PyData.depth]
    exact ⟨h1, by omega⟩
  | n + 1, .lst xs, h => by
    have h' : xs.all (plainD n) = true := by simpa [plainD] using h
    obtain ⟨h1, h2⟩ := plains_lay n xs h'
    simp only [toPD, PyData.canLay0, PyData.depth]
    exact ⟨h1, by omega⟩
  | n, .dic _, h => by cases n <;> simp [plainD] at h
theorem plains_lay : ∀ (n : Nat) (ds : List D), ds.all (plainD n) = true → PyData.canLayAll0 (toPDs ds) = true ∧ PyData.depthAll (toPDs ds) ≤ n
  | n, [], _ => by simp [toPDs, PyData.canLayAll0, PyData.depthAll]
  | n, d :: ds, h => by
    rw [List.all_cons, Bool.and_eq_true] at h
    obtain ⟨h1, h2⟩ := plain_lay n d h.1
    obtain ⟨h3, h4⟩ := plains_lay n ds h.2
    simp only [toPDs, PyData.canLayAll0, PyData.depthAll, h1, h3, Bool.and_self, true_and]
    omega
end
theorem plain_shaped {d : D} (h : plainD PD d = true) : SeqAt.shaped (toPD d) = true := by
  obtain ⟨h1, h2⟩ := plain_lay PD d h
  show ((toPD d).canLay0 && decide ((toPD d).depth ≤ 64)) = true
  rw [h1, Bool.true_and]
  exact decide_eq_true (Nat.le_trans h2 (by decide))
theorem sv_beq (x y : List Nat) : (sv x == sv y) = (x == y) := by
  by_cases h : x = y
  · subst h; simp
  · have h' : ¬ sv x = sv y := fun z => h (sv_inj z)
    rw [beq_eq_false_iff_ne.mpr h, beq_eq_false_iff_ne.mpr h']
mutual
theorem eqv_D : ∀ (a b : D) (n : Nat), plainD n a = true → plainD n b = true → PyData.eqv (toPD a) (toPD b) = eqD a b
  | .non, b, n, _, hb => by cases b <;> first | rfl | (cases n <;> simp [plainD] at hb)
  | .bl _, b, n, _, hb => by cases b <;> first | rfl | (cases n <;> simp [plainD] at hb)
  | .int _, b, n, _, hb => by cases b <;> first | rfl | (cases n <;> simp [plainD] at hb)
  | .str x, b, n, _, hb => by
    cases b with
    | str y => show (sv x == sv y) = (x == y); exact sv_beq x y
    | dic _ => cases n <;> simp [plainD] at hb
    | _ => rfl
  | .tup xs, b, n, ha, hb => by
    cases n with
    | zero => simp [plainD] at ha
    | succ n =>
      cases b with
      | tup ys =>
        simp only [toPD, PyData.eqv, eqD]
        exact eqvs_D xs ys n (by simpa [plainD] using ha) (by simpa [plainD] using hb)
      | dic _ => simp [plainD] at hb
      | _ => simp [toPD, PyData.eqv, eqD]
  | .lst xs, b, n, ha, hb => by
    cases n with
    | zero => simp [plainD] at ha
    | succ n =>
      cases b with
      | lst ys =>
        simp only [toPD, PyData.eqv, eqD]
        exact eqvs_D xs ys n (by simpa [plainD] using ha) (by simpa [plainD] using hb)
      | dic _ => simp [plainD] at hb
      | _ => simp [toPD, PyData.eqv, eqD]
  | .dic _, b, n, ha, _ => by cases n <;> simp [plainD] at ha
theorem eqvs_D : ∀ (a b : List D) (n : Nat), a.all (plainD n) = true → b.all (plainD n) = true → PyData.eqvAll (toPDs a) (toPDs b) = eqDs a b
  | [], b, n, _, _ => by cases b <;> rfl
  | x :: xs, b, n, ha, hb => by
    cases b with
    | nil => rfl
    | cons y ys =>
      rw [List.all_cons, Bool.and_eq_true] at ha hb
      simp only [toPDs, PyData.eqvAll, eqDs]
      rw [eqv_D x y n ha.1 hb.1, eqvs_D xs ys n ha.2 hb.2]
end
mutual
theorem Rep.dp {K : PySem.W.Frag} {H : Hp} : ∀ (d : D) (v : V) (n : Nat), plainD n d = true → Rep K H d v → Dp K H v (toPD d)
  | .non, v, n, _, h => by rw [rep_non h]; exact .non
  | .bl _, v, n, _, h => by rw [rep_bl h]; exact .bl _
  | .int _, v, n, _, h => by rw [rep_int h]; exact .int _
  | .str _, v, n, _, h => by rw [rep_str h]; exact .str _
  | .tup xs, v, n, hp, h => by
    cases n with
    | zero => simp [plainD] at hp
    | succ n =>
      obtain ⟨a, vs, rfl, h1, h2⟩ := rep_tup h
      rw [toPD]
      exact .tup (SqT.of h1) (Reps.dp xs vs n (by simpa [plainD] using hp) h2)
  | .lst xs, v, n, hp, h => by
    cases n with
    | zero => simp [plainD] at hp
    | succ n =>
      obtain ⟨a, vs, rfl, h1, h2⟩ := rep_lst h
      rw [toPD]
      exact .lst h1 (Reps.dp xs vs n (by simpa [plainD] using hp) h2)
  | .dic _, v, n, hp, _ => by cases n <;> simp [plainD] at hp
theorem Reps.dp {K : PySem.W.Frag} {H : Hp} : ∀ (ds : List D) (vs : List V) (n : Nat), ds.all (plainD n) = true → Reps K H ds vs → DpAll K H vs (toPDs ds)
  | [], vs, n, _, h => by rw [h.nil_of]; exact .nil
  | d :: ds, vs, n, hp, h => by
    obtain ⟨v, r, rfl, h1, h2⟩ := h.cons_of
    rw [List.all_cons, Bool.and_eq_true] at hp
    exact .cons (Rep.dp d v n hp.1 h1) (Reps.dp ds r n hp.2 h2)
end
theorem any_eqv : ∀ (xs : List D) (x : D) (n : Nat), xs.all (plainD n) = true → plainD n x = true → ((toPDs xs).any fun z => PyData.eqv z (toPD x)) = xs.any fun z => eqD z x
  | [], x, n, _, _ => rfl
  | y :: ys, x, n, hp, hx => by
    rw [List.all_cons, Bool.and_eq_true] at hp
    rw [toPDs, List.any_cons, List.any_cons, any_eqv ys x n hp.2 hx, eqv_D y x n hp.1 hx]
theorem plain_mono : ∀ (n : Nat) (d : D), plainD n d = true → plainD (n + 1) d = true
  | n, .non, _ => by simp [plainD]
  | n, .bl _, _ => by simp [plainD]
  | n, .int _, _ => by simp [plainD]
  | n, .str s, h => by cases n <;> simpa [plainD] using h
  | 0, .tup xs, h => by simp [plainD] at h
  | 0, .lst xs, h => by simp [plainD] at h
  | n + 1, .tup xs, h => by
    have h' : xs.all (plainD n) = true := by simpa [plainD] using h
    show xs.all (plainD (n + 1)) = true
    exact List.all_eq_true.mpr fun x hx => plain_mono n x (List.all_eq_true.mp h' x hx)
  | n + 1, .lst xs, h => by
    have h' : xs.all (plainD n) = true := by simpa [plainD] using h
    show xs.all (plainD (n + 1)) = true
    exact List.all_eq_true.mpr fun x hx => plain_mono n x (List.all_eq_true.mp h' x hx)
  | n, .dic _, h => by cases n <;> simp [plainD] at h
theorem lexS_lt : ∀ x y : List Nat, decide (x < y) = lexS x y
  | [], [] => by simp [lexS]
  | [], _ :: _ => by simp [lexS]
  | _ :: _, [] => by simp [lexS]
  | a :: x, b :: y => by
    unfold lexS
    by_cases h : a = b
    · subst h
      rw [if_pos rfl, ← lexS_lt x y]
      exact decide_eq_decide.mpr (by simp [List.cons_lt_cons_iff])
    · rw [if_neg h]
      refine decide_eq_decide.mpr ?_
      rw [List.cons_lt_cons_iff]
      constructor
      · rintro (q | ⟨q, _⟩)
        · exact q
        · exact absurd q h
      · exact .inl

section
variable {C : Nat → List D → Option D} {X : Cx} {a b c : E} {x y z : Expr} {pos : Pos}
theorem imp_c {X : Cx} {op : CmpOp} {x y : Expr} {t u : TE} (h : PC X op x y t) (f : ∀ σ H Q, u σ H Q → t σ H Q) : PC X op x y u := ⟨fun pins s σ H Q I q => h.run pins s σ H Q I (f σ H Q q)⟩
theorem pc_op {op : CmpOp} {r : R2} {ta tb : TE} (ho : OpR X (compareOp op) r) (ha : PE X x ta) (hb : PE X y tb) : PC X op x y (tOp r ta tb) :=
  ⟨fun pins s σ H Q I h => binT ha hb I h fun v u s2 x y H2 I2 rx ry q => ho pins s2 σ H2 x y v u Q I2 rx ry q⟩
abbrev SC (C : Nat → List D → Option D) (X : Cx) (e : E) (op : CmpOp) (x y : Expr) : Prop := PC X op x y (tE C X.K e)
theorem se_pc {e : E} {op : CmpOp} (h : SC C X e op x y) (hm : behindInMarks op y = false := by first | exact nobehind _ (by decide) (by decide) | rfl) : SE C X e (.Compare x [op] [y] pos) := pe_cmp h hm
theorem se_cmp {op : CmpOp} {r : R2} (ho : OpR X (compareOp op) r) (ha : SE C X a x) (hb : SE C X b y) {e : E}
    (h : ∀ (K : PySem.W.Frag) B0 H0 B env σ H o d k (Q : VK), Rel K B0 H0 B env σ H o → ev C e env = some (d, k) → (∀ B' H' v F, Step B H B' H' → ROk K H0 B' H' k d v F → FrF H B' F → Q v H') → K = X.K →
      tE C K a σ H fun u H1 => tE C K b σ H1 fun v H2 => r u v H2 Q) : SC C X e op x y :=
  imp_c (pc_op ho ha hb) fun σ H Q ⟨B0, H0, B, env, o, d, k, R, he, q⟩ => h _ _ _ _ _ _ _ _ _ _ _ R he q rfl
theorem bm2_some {p q : Option (D × Kd)} {f : D → D → Option (D × Kd)} {d : D × Kd} (h : ((bm p).bind fun x => (bm q).bind fun y => f x y) = some d) : ∃ x y, bm p = some x ∧ bm q = some y ∧ f x y = some d := bind2_some h
theorem sc_lt (ha : SE C X a x) (hb : SE C X b y) : SC C X (.lt a b) .Lt x y := by
  refine se_cmp (op_lt.or op_lt_str) ha hb fun K B0 H0 B env σ H o d k Q R he q hK => ?_
  obtain ⟨dx, dy, h1, h2, h3⟩ := bm2_some (f := fun x y => frB (ltA x y)) he
  obtain ⟨r, h4, rfl, rfl⟩ := frB_some h3
  refine two_b R h1 h2 fun B' H' u v s ru rv => ?_
  cases dx <;> cases dy <;> simp [ltA] at h4
  · subst h4
    exact .inl ⟨_, _, rep_int ru, rep_int rv, q B' H' _ [] s ⟨rfl, bl_rep⟩ FrF.nil⟩
  · subst h4
    refine .inr ⟨_, _, rep_str ru, rep_str rv, ?_⟩
    rw [show (sv _).cps.toList = _ from rfl, show (sv _).cps.toList = _ from rfl, lexS_lt]
    exact q B' H' _ [] s ⟨rfl, bl_rep⟩ FrF.nil
theorem sc_gt (ha : SE C X a x) (hb : SE C X b y) : SC C X (.gt a b) .Gt x y := by
  refine se_cmp (op_gt.or op_gt_str) ha hb fun K B0 H0 B env σ H o d k Q R he q hK => ?_
  obtain ⟨dx, dy, h1, h2, h3⟩ := bm2_some (f := fun x y => frB (ltA y x)) he
  obtain ⟨r, h4, rfl, rfl⟩ := frB_some h3
  refine two_b R h1 h2 fun B' H' u v s ru rv => ?_
  cases dx <;> cases dy <;> simp [ltA] at h4
  · subst h4
    exact .inl ⟨_, _, rep_int ru, rep_int rv, q B' H' _ [] s ⟨rfl, bl_rep⟩ FrF.nil⟩
  · subst h4
    refine .inr ⟨_, _, rep_str ru, rep_str rv, ?_⟩
    rw [show (sv _).cps.toList = _ from rfl, show (sv _).cps.toList = _ from rfl, lexS_lt]
    exact q B' H' _ [] s ⟨rfl, bl_rep⟩ FrF.nil
theorem not_lt_dec (i j : Int) : (!decide (i < j)) = decide (j ≤ i) := by
  by_cases h : i < j
  · rw [decide_eq_true h, decide_eq_false (by omega)]; rfl
  · rw [decide_eq_false h, decide_eq_true (by omega)]; rfl
theorem sc_le (ha : SE C X a x) (hb : SE C X b y) : SC C X (.le a b) .LtE x y := by
  refine se_cmp (op_le.or op_le_str) ha hb fun K B0 H0 B env σ H o d k Q R he q hK => ?_
  obtain ⟨dx, dy, h1, h2, h3⟩ := bm2_some (f := fun x y => frB ((ltA y x).map fun r => !r)) he
  obtain ⟨r, h4, rfl, rfl⟩ := frB_some h3
  rw [Option.map_eq_some_iff] at h4
  obtain ⟨t, h4, rfl⟩ := h4
  refine two_b R h1 h2 fun B' H' u v s ru rv => ?_
  cases dx <;> cases dy <;> simp [ltA] at h4
  · subst h4
    refine .inl ⟨_, _, rep_int ru, rep_int rv, ?_⟩
    show Q (.bl (decide (_ ≤ _))) H'
    rw [← not_lt_dec]
    exact q B' H' _ [] s ⟨rfl, bl_rep⟩ FrF.nil
  · subst h4
    refine .inr ⟨_, _, rep_str ru, rep_str rv, ?_⟩
    rw [show (sv _).cps.toList = _ from rfl, show (sv _).cps.toList = _ from rfl, lexS_lt]
    exact q B' H' _ [] s ⟨rfl, bl_rep⟩ FrF.nil
theorem sc_ge (ha : SE C X a x) (hb : SE C X b y) : SC C X (.ge a b) .GtE x y := by
  refine se_cmp (op_ge.or op_ge_str) ha hb fun K B0 H0 B env σ H o d k Q R he q hK => ?_
  obtain ⟨dx, dy, h1, h2, h3⟩ := bm2_some (f := fun x y => frB ((ltA x y).map fun r => !r)) he
  obtain ⟨r, h4, rfl, rfl⟩ := frB_some h3
  rw [Option.map_eq_some_iff] at h4
  obtain ⟨t, h4, rfl⟩ := h4
  refine two_b R h1 h2 fun B' H' u v s ru rv => ?_
  cases dx <;> cases dy <;> simp [ltA] at h4
  · subst h4
    refine .inl ⟨_, _, rep_int ru, rep_int rv, ?_⟩
    show Q (.bl (decide (_ ≤ _))) H'
    rw [← not_lt_dec]
    exact q B' H' _ [] s ⟨rfl, bl_rep⟩ FrF.nil
  · subst h4
    refine .inr ⟨_, _, rep_str ru, rep_str rv, ?_⟩
    rw [show (sv _).cps.toList = _ from rfl, show (sv _).cps.toList = _ from rfl, lexS_lt]
    exact q B' H' _ [] s ⟨rfl, bl_rep⟩ FrF.nil
theorem if_some {c : Prop} [Decidable c] {α : Type} {p q : α} (h : (if c then some p else none) = some q) : c ∧ p = q := by
  by_cases hc : c
  · rw [if_pos hc] at h; exact ⟨hc, Option.some.inj h⟩
  · rw [if_neg hc] at h; cases h
theorem sc_eq (G : Gd X) (ha : SE C X a x) (hb : SE C X b y) : SC C X (.eq a b) .Eq x y := by
  refine se_cmp (op_eqD (by have := G.un; omega)) ha hb fun K B0 H0 B env σ H o d k Q R he q hK => ?_
  subst hK
  obtain ⟨dx, dy, h1, h2, h3⟩ := bm2_some (f := fun x y => if plainD PD x ∧ plainD PD y then some (.bl (eqD x y), .frz) else none) he
  obtain ⟨⟨p1, p2⟩, h4⟩ := if_some h3
  cases h4
  refine two_b R h1 h2 fun B' H' u v s ru rv => ?_
  refine ⟨_, _, Rep.dp dx u PD p1 ru, Rep.dp dy v PD p2 rv, plain_shaped p1, plain_shaped p2, ?_⟩
  rw [eqv_D dx dy PD p1 p2]
  exact q B' H' _ [] s ⟨rfl, bl_rep⟩ FrF.nil
theorem sc_ne (G : Gd X) (ha : SE C X a x) (hb : SE C X b y) : SC C X (.ne a b) .NotEq x y := by
  refine se_cmp (op_neD (by have := G.un; omega)) ha hb fun K B0 H0 B env σ H o d k Q R he q hK => ?_
  subst hK
  obtain ⟨dx, dy, h1, h2, h3⟩ := bm2_some (f := fun x y => if plainD PD x ∧ plainD PD y then some (.bl (!eqD x y), .frz) else none) he
  obtain ⟨⟨p1, p2⟩, h4⟩ := if_some h3
  cases h4
  refine two_b R h1 h2 fun B' H' u v s ru rv => ?_
  refine ⟨_, _, Rep.dp dx u PD p1 ru, Rep.dp dy v PD p2 rv, plain_shaped p1, plain_shaped p2, ?_⟩
  rw [eqv_D dx dy PD p1 p2]
  exact q B' H' _ [] s ⟨rfl, bl_rep⟩ FrF.nil
theorem rep_isN {K : PySem.W.Frag} {H : Hp} {d : D} {v : V} (r : Rep K H d v) : decide (v = .non) = d.isNon := by
  cases d with
  | non => rw [rep_non r]; rfl
  | bl _ => rw [rep_bl r]; rfl
  | int _ => rw [rep_int r]; rfl
  | str _ => rw [rep_str r]; rfl
  | tup _ => obtain ⟨a, vs, rfl, _⟩ := rep_tup r; rfl
  | lst _ => obtain ⟨a, vs, rfl, _⟩ := rep_lst r; rfl
  | dic _ => obtain ⟨a, vs, rfl, _⟩ := rep_dic r; rfl
theorem sc_isN {j pos'} (ha : SE C X a x) : SC C X (.isN a) .Is x (.Constant .none j pos') := by
  refine imp_c (pc_isN ha) fun σ H Q h => ?_
  obtain ⟨B0, H0, B, env, o, d, k, R, he, q⟩ := h
  have he' : ((bm (ev C a env)).bind fun x => some ((D.bl x.isNon, Kd.frz) : D × Kd)) = some (d, k) := he
  rw [Option.bind_eq_some_iff] at he'
  obtain ⟨dx, h1, h2⟩ := he'
  cases h2
  refine use_b R h1 fun B' H' u s ru => ?_
  rw [rep_isN ru]
  exact q B' H' _ [] s ⟨rfl, bl_rep⟩ FrF.nil
theorem sc_notN {j pos'} (ha : SE C X a x) : SC C X (.notN a) .IsNot x (.Constant .none j pos') := by
  refine imp_c (pc_notN ha) fun σ H Q h => ?_
  obtain ⟨B0, H0, B, env, o, d, k, R, he, q⟩ := h
  have he' : ((bm (ev C a env)).bind fun x => some ((D.bl (!x.isNon), Kd.frz) : D × Kd)) = some (d, k) := he
  rw [Option.bind_eq_some_iff] at he'
  obtain ⟨dx, h1, h2⟩ := he'
  cases h2
  refine use_b R h1 fun B' H' u s ru => ?_
  show Q (.bl (!decide (u = .non))) H'
  rw [rep_isN ru]
  exact q B' H' _ [] s ⟨rfl, bl_rep⟩ FrF.nil
/-! ### and, or, not as values -/
theorem se_one {op} (ha : SE C X a x) : SE C X (.one a) (.BoolOp op [x] pos) := imp_e (pe_one ha) fun σ H Q h => h
theorem se_and {r : List Expr} (ha : SE C X a x) (hb : SE C X b (.BoolOp .And (y :: r) pos)) : SE C X (.and_ a b) (.BoolOp .And (x :: y :: r) pos) := by
  refine imp_e (pe_and ha hb) fun σ H Q h => ?_
  obtain ⟨B0, H0, B, env, o, d, k, R, he, q⟩ := h
  have he' : ((bm (ev C a env)).bind fun x => (asBl x).bind fun p => if p then ((bm (ev C b env)).bind fun y => (asBl y).bind fun q => some (.bl q, .frz)) else some ((.bl false, .frz) : D × Kd)) = some (d, k) := he
  rw [Option.bind_eq_some_iff] at he'
  obtain ⟨dx, h1, h2⟩ := he'
  rw [Option.bind_eq_some_iff] at h2
  obtain ⟨p, h2, h3⟩ := h2
  obtain rfl := asBl_some h2
  refine use_b R h1 fun B' H' u s ru => ⟨p, rep_bl ru, ?_⟩
  cases p with
  | false =>
    cases h3
    show Q (.bl false) H'
    exact q B' H' _ [] s ⟨rfl, bl_rep⟩ FrF.nil
  | true =>
    have h3' : ((bm (ev C b env)).bind fun y => (asBl y).bind fun q => some ((.bl q, .frz) : D × Kd)) = some (d, k) := h3
    rw [Option.bind_eq_some_iff] at h3'
    obtain ⟨dy, h4, h5⟩ := h3'
    rw [Option.bind_eq_some_iff] at h5
    obtain ⟨p', h5, h6⟩ := h5
    obtain rfl := asBl_some h5
    cases h6
    show tE C X.K b σ H' Q
    refine use_b (R.step s) h4 fun B2 H2 v s2 rv => ?_
    rw [rep_bl rv]
    exact q B2 H2 _ [] (s.trans s2) ⟨rfl, bl_rep⟩ FrF.nil
theorem se_or {r : List Expr} (ha : SE C X a x) (hb : SE C X b (.BoolOp .Or (y :: r) pos)) : SE C X (.or_ a b) (.BoolOp .Or (x :: y :: r) pos) := by
  refine imp_e (pe_or ha hb) fun σ H Q h => ?_
  obtain ⟨B0, H0, B, env, o, d, k, R, he, q⟩ := h
  have he' : ((bm (ev C a env)).bind fun x => (asBl x).bind fun p => if p then some ((.bl true, .frz) : D × Kd) else ((bm (ev C b env)).bind fun y => (asBl y).bind fun q => some (.bl q, .frz))) = some (d, k) := he
  rw [Option.bind_eq_some_iff] at he'
  obtain ⟨dx, h1, h2⟩ := he'
  rw [Option.bind_eq_some_iff] at h2
  obtain ⟨p, h2, h3⟩ := h2
  obtain rfl := asBl_some h2
  refine use_b R h1 fun B' H' u s ru => ⟨p, rep_bl ru, ?_⟩
  cases p with
  | true =>
    cases h3
    show Q (.bl true) H'
    exact q B' H' _ [] s ⟨rfl, bl_rep⟩ FrF.nil
  | false =>
    have h3' : ((bm (ev C b env)).bind fun y => (asBl y).bind fun q => some ((.bl q, .frz) : D × Kd)) = some (d, k) := h3
    rw [Option.bind_eq_some_iff] at h3'
    obtain ⟨dy, h4, h5⟩ := h3'
    rw [Option.bind_eq_some_iff] at h5
    obtain ⟨p', h5, h6⟩ := h5
    obtain rfl := asBl_some h5
    cases h6
    show tE C X.K b σ H' Q
    refine use_b (R.step s) h4 fun B2 H2 v s2 rv => ?_
    rw [rep_bl rv]
    exact q B2 H2 _ [] (s.trans s2) ⟨rfl, bl_rep⟩ FrF.nil
theorem se_not (ha : SE C X a x) : SE C X (.not_ a) (.UnaryOp .Not x pos) := by
  refine imp_e (pe_not ha) fun σ H Q h => ?_
  obtain ⟨B0, H0, B, env, o, d, k, R, he, q⟩ := h
  have he' : ((bm (ev C a env)).bind fun x => (asBl x).bind fun p => some ((.bl (!p), .frz) : D × Kd)) = some (d, k) := he
  rw [Option.bind_eq_some_iff] at he'
  obtain ⟨dx, h1, h2⟩ := he'
  rw [Option.bind_eq_some_iff] at h2
  obtain ⟨p, h2, h3⟩ := h2
  obtain rfl := asBl_some h2
  cases h3
  exact use_b R h1 fun B' H' u s ru => ⟨p, rep_bl ru, q B' H' _ [] s ⟨rfl, bl_rep⟩ FrF.nil⟩

/-! ### tests -/
variable {t t' : T}
theorem bind1_some {α β : Type} {p : Option α} {f : α → Option β} {r : β} (h : p.bind f = some r) : ∃ x, p = some x ∧ f x = some r := Option.bind_eq_some_iff.mp h
theorem use_t {K : PySem.W.Frag} {B0 H0 B H : Hp} {env : Env} {σ : L2.St} {o : Addr → Option Nat} {b : Bool} {Q : Bool → Hp → Prop} (R : Rel K B0 H0 B env σ H o) (h : evT C t env = some b) (q : ∀ B' H', Step B H B' H' → Q b H') : tT C K t σ H Q := ⟨B0, H0, B, env, o, b, R, h, q⟩
theorem st_val (ha : SE C X a x) (he : ∀ whole, isTrue x X.env whole = (do let v ← whole; standAt x.pos; holding [v] (truthy v)) := by intro _; rfl) : ST C X (.val a) x := by
  refine imp_t (pt_val ha he) fun σ H Q h => ?_
  obtain ⟨B0, H0, B, env, o, b, R, he, q⟩ := h
  obtain ⟨dx, h1, h2⟩ := bind1_some (show (bm (ev C a env)).bind asBl = some b from he)
  obtain rfl := asBl_some h2
  exact use_b R h1 fun B' H' u s ru => ⟨b, rep_bl ru, q B' H' s⟩
/-- a comparison as a test -/
theorem st_pc {e : E} {op : CmpOp} (h : SC C X e op x y) (hm : behindInMarks op y = false := by first | exact nobehind _ (by decide) (by decide) | rfl) : ST C X (.val e) (.Compare x [op] [y] pos) := by
  refine imp_t (pt_cmp h hm) fun σ H Q h => ?_
  obtain ⟨B0, H0, B, env, o, b, R, he, q⟩ := h
  obtain ⟨dx, h1, h2⟩ := bind1_some (show (bm (ev C e env)).bind asBl = some b from he)
  obtain rfl := asBl_some h2
  exact use_b R h1 fun B' H' u s ru => ⟨b, rep_bl ru, q B' H' s⟩
theorem emp_len {α β : Type} {l : List α} {m : List β} (h : l.length = m.length) : (!m.isEmpty) = !l.isEmpty := by
  cases l <;> cases m <;> simp at h ⊢
theorem rep_tru {K : PySem.W.Frag} {H : Hp} {d : D} {v : V} {b : Bool} (r : Rep K H d v) (h : truD d = some b) (hl : ∀ s, d = .str s → s.length ≤ L) : TruV K v H b := by
  cases d with
  | non => rw [rep_non r]; exact (Option.some.inj h).symm
  | bl _ => rw [rep_bl r]; exact (Option.some.inj h).symm
  | int _ => rw [rep_int r]; exact (Option.some.inj h).symm
  | str s =>
    rw [rep_str r]
    refine ⟨by rw [sv_length]; exact sizeL (hl s rfl), ?_⟩
    have h' : (!s.isEmpty) = b := Option.some.inj h
    rw [← h', sv_length]
    cases s <;> rfl
  | tup _ =>
    obtain ⟨a, vs, rfl, h1, h2⟩ := rep_tup r
    have h' := Option.some.inj h
    refine .inr (.inl ⟨vs, SqT.of h1, ?_⟩)
    rw [← h']
    exact emp_len h2.length
  | lst _ =>
    obtain ⟨a, vs, rfl, h1, h2⟩ := rep_lst r
    have h' := Option.some.inj h
    refine .inl ⟨vs, h1, ?_⟩
    rw [← h']
    exact emp_len h2.length
  | dic _ =>
    obtain ⟨a, vs, rfl, h1, h2⟩ := rep_dic r
    have h' := Option.some.inj h
    refine .inr (.inr ⟨vs, h1, ?_⟩)
    rw [← h']
    exact emp_len h2.length
theorem st_tru (ha : SE C X a x) (he : ∀ whole, isTrue x X.env whole = (do let v ← whole; standAt x.pos; holding [v] (truthy v)) := by intro _; rfl) : ST C X (.tru a) x := by
  refine imp_t (pt_truth ha he) fun σ H Q h => ?_
  obtain ⟨B0, H0, B, env, o, b, R, he, q⟩ := h
  obtain ⟨dx, h1, h2⟩ := bind1_some (show (bm (ev C a env)).bind truL = some b from he)
  have h3 : truD dx = some b ∧ ∀ s, dx = .str s → s.length ≤ L := by
    cases dx <;> first | exact ⟨h2, fun _ z => nomatch z⟩ | skip
    rename_i s
    obtain ⟨hl, h4⟩ := if_some (show (if s.length ≤ L then some (!s.isEmpty) else none) = some b from h2)
    exact ⟨by rw [truD, h4], fun _ z => by cases z; exact hl⟩
  exact use_b R h1 fun B' H' u s ru => ⟨b, rep_tru ru h3.1 h3.2, q B' H' s⟩
theorem st_w (h : SW C X t x) : ST C X t x := PW.pt h
theorem sw_one_and (ha : ST C X t x) : SW C X (.one t) (.BoolOp .And [x] pos) := imp_w (pw_and1 ha) fun σ H Q h => h
theorem sw_one_or (ha : ST C X t x) : SW C X (.one t) (.BoolOp .Or [x] pos) := imp_w (pw_or1 ha) fun σ H Q h => h
theorem sw_and {r : List Expr} (ha : ST C X t x) (hb : SW C X t' (.BoolOp .And (y :: r) pos)) : SW C X (.and_ t t') (.BoolOp .And (x :: y :: r) pos) := by
  refine imp_w (pw_and ha hb) fun σ H Q h => ?_
  obtain ⟨B0, H0, B, env, o, b, R, he, q⟩ := h
  obtain ⟨p, h1, h2⟩ := bind1_some (show ((evT C t env).bind fun p => if p then evT C t' env else some false) = some b from he)
  refine use_t R h1 fun B' H' s => ?_
  cases p with
  | true => exact use_t (R.step s) h2 fun B2 H2 s2 => q B2 H2 (s.trans s2)
  | false =>
    cases h2
    exact q B' H' s
theorem sw_or {r : List Expr} (ha : ST C X t x) (hb : SW C X t' (.BoolOp .Or (y :: r) pos)) : SW C X (.or_ t t') (.BoolOp .Or (x :: y :: r) pos) := by
  refine imp_w (pw_or ha hb) fun σ H Q h => ?_
  obtain ⟨B0, H0, B, env, o, b, R, he, q⟩ := h
  obtain ⟨p, h1, h2⟩ := bind1_some (show ((evT C t env).bind fun p => if p then some true else evT C t' env) = some b from he)
  refine use_t R h1 fun B' H' s => ?_
  cases p with
  | false => exact use_t (R.step s) h2 fun B2 H2 s2 => q B2 H2 (s.trans s2)
  | true =>
    cases h2
    exact q B' H' s
theorem st_not (ha : ST C X t x) : ST C X (.not_ t) (.UnaryOp .Not x pos) := by
  refine imp_t (pt_not ha) fun σ H Q h => ?_
  obtain ⟨B0, H0, B, env, o, b, R, he, q⟩ := h
  have he' : (evT C t env).map (fun p => !p) = some b := he
  rw [Option.map_eq_some_iff] at he'
  obtain ⟨p, h1, h2⟩ := he'
  subst h2
  exact use_t R h1 fun B' H' s => q B' H' s
theorem se_ite (ht : ST C X t z) (ha : SE C X a x) (hb : SE C X b y) : SE C X (.ite t a b) (.IfExp z x y pos) := by
  refine imp_e (pe_ifExp ht ha hb) fun σ H Q h => ?_
  obtain ⟨B0, H0, B, env, o, d, k, R, he, q⟩ := h
  obtain ⟨p, h1, h2⟩ := bind1_some (show ((evT C t env).bind fun p => if p then fr (vm (ev C a env)) else fr (vm (ev C b env))) = some (d, k) from he)
  refine use_t R h1 fun B' H' s => ?_
  cases p with
  | true =>
    obtain ⟨h3, rfl⟩ := fr_some (show fr (vm (ev C a env)) = some (d, k) from h2)
    exact use_v (R.step s) h3 fun B2 H2 v s2 r => q B2 H2 v [] (s.trans s2) ⟨rfl, r⟩ FrF.nil
  | false =>
    obtain ⟨h3, rfl⟩ := fr_some (show fr (vm (ev C b env)) = some (d, k) from h2)
    exact use_v (R.step s) h3 fun B2 H2 v s2 r => q B2 H2 v [] (s.trans s2) ⟨rfl, r⟩ FrF.nil
end
end Hg
end

section
set_option Elab.async false
set_option maxRecDepth 100000
set_option maxHeartbeats 4000000
/-! Snd3: subscripts, slices, displays, arguments, built-in functions. -/
namespace Hg
open PySem PySem.Spec PyProof.Rows L2
variable [TB : Tabl]

section
variable {C : Nat → List D → Option D} {X : Cx} {a b c : E} {x y z : Expr} {pos p pos1 : Pos} {n : Str}
/-! ### subscripts -/
theorem ixN_eq (n : Nat) (i : Int) : L2.ixN n i = Hg.ixN n i := rfl
theorem reps_at {K : PySem.W.Frag} {B : Hp} {ds : List D} {vs : List V} {i : Int} {d : D} (r : Reps K B ds vs) (h : getIx ds i = some d) : ∃ v, atI vs i = some v ∧ Rep K B d v := by
  unfold getIx at h
  obtain ⟨j, h1, h2⟩ := Option.bind_eq_some_iff.mp h
  obtain ⟨v, h3, h4⟩ := r.get h2
  refine ⟨v, ?_, h4⟩
  unfold atI
  rw [r.length, ixN_eq, h1]
  exact h3
theorem ownl_at {K : PySem.W.Frag} {B H : Hp} : ∀ {vs : List V} {ds : List D} {F : List Addr} {j : Nat} {d : D}, OwnL (Own1 K B H) vs ds F → ds[j]? = some d → ∃ v G, vs[j]? = some v ∧ Own1 K B H v d G ∧ ∀ a ∈ G, a ∈ F
  | [], [], F, j, d, h, e => by simp at e
  | v :: vs, d' :: ds, F, 0, d, h, e => by
    obtain ⟨F1, F2, rfl, h1, h2⟩ := h
    have e' : d' = d := by simpa using e
    subst e'
    exact ⟨v, F1, rfl, h1, fun a ha => List.mem_append_left _ ha⟩
  | v :: vs, d' :: ds, F, j + 1, d, h, e => by
    obtain ⟨F1, F2, rfl, h1, h2⟩ := h
    obtain ⟨u, G, q1, q2, q3⟩ := ownl_at (j := j) (d := d) h2 (by simpa using e)
    exact ⟨u, G, by simpa using q1, q2, fun a ha => List.mem_append_right _ (q3 a ha)⟩
  | [], _ :: _, F, j, d, h, e => h.elim
  | _ :: _, [], F, j, d, h, e => h.elim
/-- an entry of a dict of one's own lists -/
theorem ownl_look {K : PySem.W.Frag} {B H : Hp} : ∀ {vs : List (L2.Key × V)} {ds : List (Ky × D)} {F : List Addr} {k : Ky} {d : D}, vs.map Prod.fst = ds.map (fun p => ky p.1) → OwnL (Own1 K B H) (vs.map Prod.snd) (ds.map Prod.snd) F → look ds k = some d → ∃ v G, valV vs (ky k) = some v ∧ Own1 K B H v d G
  | [], [], F, k, d, _, h, e => by simp [look] at e
  | (k1, v) :: vs, (k', d') :: ds, F, k, d, hk, h, e => by
    obtain ⟨g1, g2⟩ := List.cons.inj hk
    cases g1
    obtain ⟨F1, F2, rfl, h1, h2⟩ := h
    by_cases hq : k' = k
    · subst hq
      have e' : d' = d := by simpa [look, List.find?_cons] using e
      subst e'
      exact ⟨v, F1, valV_pos rfl, h1⟩
    · have e' : look ds k = some d := by simpa [look, List.find?_cons, hq] using e
      obtain ⟨u, G, q1, q2⟩ := ownl_look g2 h2 e'
      exact ⟨u, G, (valV_neg fun z => hq (ky_inj z)).trans q1, q2⟩
  | [], _ :: _, F, k, d, hk, h, e => by cases hk
  | _ :: _, [], F, k, d, hk, h, e => by cases hk
theorem OwnL.length {K : PySem.W.Frag} {B H : Hp} : ∀ {vs : List V} {ds : List D} {F : List Addr}, OwnL (Own1 K B H) vs ds F → vs.length = ds.length
  | [], [], F, h => rfl
  | v :: vs, d' :: ds, F, h => by
    obtain ⟨F1, F2, rfl, h1, h2⟩ := h
    rw [List.length_cons, List.length_cons, h2.length]
  | [], _ :: _, F, h => h.elim
  | _ :: _, [], F, h => h.elim
/-- a subscript by one of two rules -/
def tOr2 (t u : TE) : TE := fun σ H Q => t σ H Q ∨ u σ H Q
theorem pe_or2 {t u : TE} (h : PE X x t) (h' : PE X x u) : PE X x (tOr2 t u) := ⟨fun pins s σ H Q I q => q.elim (h.run pins s σ H Q I) (h'.run pins s σ H Q I)⟩

theorem give_rep {K : PySem.W.Frag} {H0 B H B' H' : Hp} {k : Kd} {v : V} {F : List Addr} {d : D} (s : Step B H B' H') (hk : k = .frz ∨ k = .new1 ∨ k = .new2) (r : ROk K H0 B' H' k d v F) (f : FrF H B' F) : ∃ B2, Step B H B2 H' ∧ Rep K B2 d v := by
  rcases hk with rfl | rfl | rfl
  · exact ⟨B', s, r.2⟩
  · exact ⟨_, s.give f, Own1.give r f.b fun a h => h⟩
  · exact ⟨_, s.give f, Own2.give r f.b fun a h => h⟩
theorem subK_of {k : Kd} (hk : k = .frz ∨ k = .new1 ∨ k = .new2) : subK k = .frz := by rcases hk with rfl | rfl | rfl <;> rfl
theorem kd_split (k : Kd) : (k = .frz ∨ k = .new1 ∨ k = .new2) ∨ k = .own1 ∨ k = .own2 ∨ k = .lent := by cases k <;> simp
theorem se_ix (G : Gd X) (ha : SE C X a x) (hb : SE C X b y) (hs : PlainIx y := by exact fun _ _ => rfl) (hn : NoSl y := by exact fun _ _ => rfl) : SE C X (.ix a b) (.Subscript x y pos) := by
  refine imp_e (pe_or2 (pe_ix ix_seq ha hb hs) (pe_dget (by have := G.un; omega) ha hb hn)) fun σ H Q h => ?_
  obtain ⟨B0, H0, B, env, o, d, k, R, he, q⟩ := h
  obtain ⟨⟨da, ka⟩, h1, h2⟩ := bind1_some (show ((ev C a env).bind fun p => (bm (ev C b env)).bind fun y => match p.1 with
      | .lst xs => (asInt y).bind fun i => (getIx xs i).map fun d => (d, subK p.2)
      | .tup xs => (asInt y).bind fun i => (getIx xs i).map fun d => (d, subK p.2)
      | .dic kvs => (keyD y).bind fun k => (look kvs k).map fun d => (d, subK p.2)
      | .str s => (asInt y).bind fun i => if s.length ≤ L then (getIx s i).map fun d => (.str [d], .frz) else none
      | _ => none) = some (d, k) from he)
  obtain ⟨dy, h3, h4⟩ := bind1_some h2
  -- what is shown of the first part, for the second
  have go : ∀ (Q' : V → V → Hp → Prop), (∀ B' H' u v F, Step B H B' H' → ROk X.K H0 B' H' ka da u F → FrF H B' F → Rep X.K H' dy v → Q' u v H') → tE C X.K a σ H fun u H1 => tE C X.K b σ H1 fun v H2 => Q' u v H2 := fun Q' q' =>
    ⟨B0, H0, B, env, o, da, ka, R, h1, fun B1 H1 u F s1 r1 f1 => use_b (R.step s1) h3 fun B2 H2 v s2 r2 => by
      have hn : ∀ a ∈ F, B2 a = none := fun a ha => by
        cases q : B2 a with
        | none => rfl
        | some w =>
          have := s2.nw a (by rw [q]; exact fun z => nomatch z)
          rcases this with z | z
          · exact absurd (f1.b a ha) z
          · refine absurd z ?_
            cases ka with
            | frz => rw [r1.1] at ha; simp at ha
            | lent => rw [r1.1] at ha; simp at ha
            | own1 => rw [r1.1] at ha; simp at ha
            | own2 => rw [r1.1] at ha; simp at ha
            | new1 => exact Own1.there r1 a ha
            | new2 => exact Own2.there r1 a ha
      refine q' B2 H2 u v F (s1.trans s2) ?_ ⟨f1.nd, f1.h, hn⟩ r2
      cases ka with
      | frz => exact ⟨r1.1, Rep.mono s2.bb _ _ r1.2⟩
      | lent => exact r1
      | own1 => obtain ⟨z, G, r⟩ := r1; exact ⟨z, G, r.mono s2.bb s2.hh⟩
      | own2 => obtain ⟨z, G, r⟩ := r1; exact ⟨z, G, r.mono s2.bb s2.hh⟩
      | new1 => exact Own1.mono r1 s2.bb s2.hh
      | new2 => exact Own2.mono r1 s2.bb s2.hh⟩
  cases da with
  | non => simp at h4
  | bl _ => simp at h4
  | int _ => simp at h4
  | str s =>
    simp only at h4
    obtain ⟨i, h5, h6⟩ := bind1_some h4
    obtain rfl := asInt_some h5
    by_cases hl : s.length ≤ L
    · rw [if_pos hl, Option.map_eq_some_iff] at h6
      obtain ⟨ch, h7, h8⟩ := h6
      cases h8
      refine .inl (go _ fun B' H' u v F s1 r f rv => .inr (.inr ⟨sv s, i, ch, rep_str (r.rep s1.bh (R.h0.trans s1.hh)), rep_int rv, by rw [sv_length]; exact sizeL hl, ?_, ?_⟩))
      · exact (show atI s i = some ch from h7)
      · exact q B' H' _ [] s1 ⟨rfl, str_rep⟩ FrF.nil
    · rw [if_neg hl] at h6
      cases h6
  | tup ds =>
    simp only at h4
    obtain ⟨i, h5, h6⟩ := bind1_some h4
    obtain rfl := asInt_some h5
    rw [Option.map_eq_some_iff] at h6
    obtain ⟨dd, h7, h8⟩ := h6
    cases h8
    refine .inl (go _ fun B' H' u v F s1 r f rv => .inr (.inl ?_))
    rcases kd_split ka with hk | rfl | rfl | rfl
    · obtain ⟨B2, s2, r2⟩ := give_rep s1 hk r f
      obtain ⟨p, vs, rfl, q1, q2⟩ := rep_tup r2
      obtain ⟨w, q3, q4⟩ := reps_at q2 h7
      refine ⟨p, vs, i, w, rfl, rep_int rv, SqT.of (s2.bh.at q1 nt_tup), q3, q B2 H' w [] s2 ?_ FrF.nil⟩
      rw [subK_of hk]
      exact ⟨rfl, q4⟩
    · obtain ⟨_, G, a', rfl, rfl, z⟩ := r
      rcases z with ⟨_, _, z, _⟩ | ⟨_, _, z, _⟩ <;> cases z
    · obtain ⟨_, G, ⟨a', _, _, _, _, _, z, _⟩ | ⟨a', _, _, _, _, _, z, _⟩⟩ := r <;> cases z
    · obtain ⟨p, vs, rfl, q1, q2⟩ := rep_tup r.2
      obtain ⟨w, q3, q4⟩ := reps_at q2 h7
      exact ⟨p, vs, i, w, rfl, rep_int rv, SqT.of ((R.h0.trans s1.hh).at q1 nt_tup), q3, q B' H' w [] s1 ⟨rfl, q4⟩ FrF.nil⟩
  | lst ds =>
    simp only at h4
    obtain ⟨i, h5, h6⟩ := bind1_some h4
    obtain rfl := asInt_some h5
    rw [Option.map_eq_some_iff] at h6
    obtain ⟨dd, h7, h8⟩ := h6
    cases h8
    refine .inl (go _ fun B' H' u v F s1 r f rv => .inl ?_)
    rcases kd_split ka with hk | rfl | rfl | rfl
    · obtain ⟨B2, s2, r2⟩ := give_rep s1 hk r f
      obtain ⟨p, vs, rfl, q1, q2⟩ := rep_lst r2
      obtain ⟨w, q3, q4⟩ := reps_at q2 h7
      refine ⟨p, vs, i, w, rfl, rep_int rv, s2.bh.sq q1, q3, q B2 H' w [] s2 ?_ FrF.nil⟩
      rw [subK_of hk]
      exact ⟨rfl, q4⟩
    · obtain ⟨_, G, a', rfl, rfl, z⟩ := r
      rcases z with ⟨vs, ds', z, q1, q2⟩ | ⟨_, _, z, _⟩
      · cases z
        obtain ⟨w, q3, q4⟩ := reps_at q2 h7
        exact ⟨a', vs, i, w, rfl, rep_int rv, SqL.of q1, q3, q B' H' w [] s1 ⟨rfl, q4⟩ FrF.nil⟩
      · cases z
    · obtain ⟨_, G, ⟨a', F', vs, ds', rfl, _, z, q1, q2⟩ | ⟨_, _, _, _, _, _, z, _⟩⟩ := r
      · cases z
        unfold getIx at h7
        obtain ⟨j, hj, hd⟩ := Option.bind_eq_some_iff.mp h7
        obtain ⟨w, G', q3, q4, _⟩ := ownl_at q2 hd
        refine ⟨a', vs, i, w, rfl, rep_int rv, SqL.of q1, ?_, q B' H' w [] s1 ⟨rfl, G', q4⟩ FrF.nil⟩
        unfold atI
        rw [q2.length, ixN_eq, hj]
        exact q3
      · cases z
    · obtain ⟨p, vs, rfl, q1, q2⟩ := rep_lst r.2
      obtain ⟨w, q3, q4⟩ := reps_at q2 h7
      exact ⟨p, vs, i, w, rfl, rep_int rv, (R.h0.trans s1.hh).sq q1, q3, q B' H' w [] s1 ⟨rfl, q4⟩ FrF.nil⟩
  | dic ds =>
    simp only at h4
    obtain ⟨kk, h5, h6⟩ := bind1_some h4
    rw [Option.map_eq_some_iff] at h6
    obtain ⟨dd, h7, h8⟩ := h6
    cases h8
    refine .inr (go _ fun B' H' u v F s1 r f rv => ?_)
    rcases kd_split ka with hk | rfl | rfl | rfl
    · obtain ⟨B2, s2, r2⟩ := give_rep s1 hk r f
      obtain ⟨p, vs, rfl, q1, q2⟩ := rep_dic r2
      obtain ⟨w, q3, q4⟩ := q2.look_some h7
      refine ⟨p, w, rfl, ?_, q B2 H' w [] s2 ?_ FrF.nil⟩
      · rw [kV_ky h5 rv, ← q3]
        exact DGet.k (s2.bh.at q1 nt_dK)
      · rw [subK_of hk]
        exact ⟨rfl, q4⟩
    · obtain ⟨_, G, a', rfl, rfl, z⟩ := r
      rcases z with ⟨_, _, z, _⟩ | ⟨vs, ds', z, q1, q2⟩
      · cases z
      · cases z
        obtain ⟨w, q3, q4⟩ := q2.look_some h7
        refine ⟨a', w, rfl, ?_, q B' H' w [] s1 ⟨rfl, q4⟩ FrF.nil⟩
        rw [kV_ky h5 rv, ← q3]
        exact DGet.k q1
    · obtain ⟨_, G, ⟨_, _, _, _, _, _, z, _⟩ | ⟨a', F', vs, ds', rfl, _, z, q1, q5, q2⟩⟩ := r
      · cases z
      · cases z
        obtain ⟨w, G', q3, q4⟩ := ownl_look q5 q2 h7
        refine ⟨a', w, rfl, ?_, q B' H' w [] s1 ⟨rfl, G', q4⟩ FrF.nil⟩
        rw [kV_ky h5 rv, ← q3]
        exact DGet.k q1
    · obtain ⟨p, vs, rfl, q1, q2⟩ := rep_dic r.2
      obtain ⟨w, q3, q4⟩ := q2.look_some h7
      refine ⟨p, w, rfl, ?_, q B' H' w [] s1 ⟨rfl, q4⟩ FrF.nil⟩
      rw [kV_ky h5 rv, ← q3]
      exact DGet.k ((R.h0.trans s1.hh).at q1 nt_dK)

/-! ### slices -/
def tO (C : Nat → List D → Option D) (K : PySem.W.Frag) (e : O) : TO := fun σ H Q => ∃ B0 H0 B env o r, Rel K B0 H0 B env σ H o ∧ evO C e env = some r ∧ ∀ B' H', Step B H B' H' → Q r H'
abbrev SO (C : Nat → List D → Option D) (X : Cx) (e : O) (x : Option Expr) : Prop := PO X x (tO C X.K e)
theorem imp_o {x : Option Expr} {t u : TO} (h : PO X x t) (f : ∀ σ H Q, u σ H Q → t σ H Q) : PO X x u := ⟨fun pins s σ H Q I q => h.run pins s σ H Q I (f σ H Q q)⟩
theorem so_no : SO C X .no none := imp_o po_none fun σ H Q ⟨B0, H0, B, env, o, r, R, he, q⟩ => by
  cases (show some (none : Option Int) = some r from he)
  exact q B H (Step.refl R.bh)
theorem so_so (ha : SE C X a x) : SO C X (.so a) (some x) := imp_o (po_some ha) fun σ H Q ⟨B0, H0, B, env, o, r, R, he, q⟩ => by
  obtain ⟨d, h1, h2⟩ := bind1_some (show ((bm (ev C a env)).bind fun x => (asInt x).map some) = some r from he)
  rw [Option.map_eq_some_iff] at h2
  obtain ⟨i, h2, rfl⟩ := h2
  obtain rfl := asInt_some h2
  exact use_b R h1 fun B' H' u s ru => ⟨i, rep_int ru, q B' H' s⟩
theorem use_o {K : PySem.W.Frag} {B0 H0 B H : Hp} {env : Env} {σ : L2.St} {o : Addr → Option Nat} {b : O} {r : Option Int} {Q : Option Int → Hp → Prop} (R : Rel K B0 H0 B env σ H o) (h : evO C b env = some r) (q : ∀ B' H', Step B H B' H' → Q r H') : tO C K b σ H Q := ⟨B0, H0, B, env, o, r, R, h, q⟩
theorem cutIx_eq (n d : Nat) (o : Option Int) : HT.sIx n d o = cutIx n d o := by cases o <;> rfl
theorem reps_cut {K : PySem.W.Frag} {B : Hp} {ds : List D} {vs : List V} (lo hi : Option Int) (r : Reps K B ds vs) : Reps K B (cut ds lo hi) (cutV vs lo hi) := by
  unfold cut cutV
  rw [r.length, cutIx_eq, cutIx_eq]
  exact (r.drop _).take _
theorem sv_cut (s : List Nat) (lo hi : Option Int) : cutS (sv s) lo hi = sv (cut s lo hi) := by
  unfold cutS cut
  rw [sv_length, cutIx_eq, cutIx_eq]
  rfl
variable {lo hi : O} {xl xh : Option Expr} {p2 : Pos}
theorem se_sl (ha : SE C X a x) (hl : SO C X lo xl) (hh : SO C X hi xh) : SE C X (.sl a lo hi) (.Subscript x (.Slice xl xh none p2) pos) := by
  refine imp_e (pe_slice (sl_list.or sl_str) ha hl hh) fun σ H Q h => ?_
  obtain ⟨B0, H0, B, env, o, d, k, R, he, q⟩ := h
  obtain ⟨da, h1, h2⟩ := bind1_some (show ((em (ev C a env)).bind fun x => (evO C lo env).bind fun l => (evO C hi env).bind fun h => match x with
      | .lst xs => some (.lst (cut xs l h), .new1)
      | .str s => if s.length ≤ L then some (.str (cut s l h), .frz) else none
      | _ => none) = some (d, k) from he)
  obtain ⟨l, h3, h4⟩ := bind1_some h2
  obtain ⟨g, h5, h6⟩ := bind1_some h4
  refine use_e R h1 fun B1 H1 u s1 ru => use_o (R.step s1) h3 fun B2 H2 s2 => use_o ((R.step s1).step s2) h5 fun B3 H3 s3 => ?_
  have s := (s1.trans s2).trans s3
  have ru3 := (ru.mono s2.bb s2.hh).mono s3.bb s3.hh
  cases da <;> simp only [reduceCtorEq] at h6
  · obtain ⟨hz, h7⟩ := if_some h6
    cases h7
    refine .inr ⟨_, el_str ru3, by rw [sv_length]; exact sizeL hz, ?_⟩
    rw [sv_cut]
    exact q B3 H3 _ [] s ⟨rfl, str_rep⟩ FrF.nil
  · cases h6
    obtain ⟨p1, vs, rfl, q1, r1⟩ := ru3
    exact .inl ⟨p1, vs, rfl, q1, fin_list q rfl s (reps_cut l g r1)⟩

/-! ### arguments and displays -/
variable {es : Es} {xs : List Expr}
theorem sa_nil : SA C X .nil [] := imp_a pa_nil fun σ H Q ⟨B0, H0, B, env, o, ds, R, he, q⟩ => by
  cases (show some ([] : List D) = some ds from he)
  exact q B H [] (Step.refl R.bh) reps_nil
theorem use_a {K : PySem.W.Frag} {B0 H0 B H : Hp} {env : Env} {σ : L2.St} {o : Addr → Option Nat} {ds : List D} {Q : List V → Hp → Prop} (R : Rel K B0 H0 B env σ H o) (h : evs C es env = some ds) (q : ∀ B' H' vs, Step B H B' H' → Reps K B' ds vs → Q vs H') : tA C K es σ H Q := ⟨B0, H0, B, env, o, ds, R, h, q⟩
theorem sa_cons (ha : SE C X a x) (hr : SA C X es xs) (hs : starEach (x :: xs) X.env = (false, eval x X.env) :: starEach xs X.env := by rfl) : SA C X (.cons a es) (x :: xs) := imp_a (pa_cons ha hr hs) fun σ H Q ⟨B0, H0, B, env, o, ds, R, he, q⟩ => by
  obtain ⟨d, h1, h2⟩ := bind1_some (show ((vm (ev C a env)).bind fun d => (evs C es env).bind fun ds => some (d :: ds)) = some ds from he)
  obtain ⟨dr, h3, h4⟩ := bind1_some h2
  cases h4
  exact use_v R h1 fun B1 H1 v s1 r1 => use_a (R.step s1) h3 fun B2 H2 vs s2 r2 => q B2 H2 (v :: vs) (s1.trans s2) (reps_cons (Rep.mono s2.bb _ _ r1) r2)
theorem se_tup {kk : Nat} (h : SA C X es xs) : SE C X (.tup es) (.Tuple xs kk pos) := imp_e (pe_tup h) fun σ H Q ⟨B0, H0, B, env, o, d, k, R, he, q⟩ => by
  obtain ⟨ds, h1, h2⟩ := bind1_some (show ((evs C es env).bind fun ds => if ds.length ≤ L then some ((.tup ds, .frz) : D × Kd) else none) = some (d, k) from he)
  obtain ⟨hz, h3⟩ := if_some h2
  cases h3
  refine use_a R h1 fun B' H' vs s r => ⟨by rw [r.length]; exact sizeL hz, fun p hp => ?_⟩
  exact q _ _ _ [] (s.trans (Step.new s.bh hp)) ⟨rfl, tup_rep upd_same (Reps.mono (Ext.new (s.bh.back hp)) _ _ r)⟩ FrF.nil
theorem se_lst (h : SA C X es xs) : SE C X (.lst es) (.List xs pos) := imp_e (pe_lst h) fun σ H Q ⟨B0, H0, B, env, o, d, k, R, he, q⟩ => by
  obtain ⟨ds, h1, h2⟩ := bind1_some (show ((evs C es env).bind fun ds => if ds.length ≤ L then some ((.lst ds, .new1) : D × Kd) else none) = some (d, k) from he)
  obtain ⟨hz, h3⟩ := if_some h2
  cases h3
  exact use_a R h1 fun B' H' vs s r => ⟨by rw [r.length]; exact sizeL hz, fin_list q rfl s r⟩
theorem fin_dict {K : PySem.W.Frag} {H0 B H B' H' : Hp} {Q : VK} {ds : List (Ky × D)} {vs : List (L2.Key × V)} {k : Kd} (q : ∀ B' H' v F, Step B H B' H' → ROk K H0 B' H' k (.dic ds) v F → FrF H B' F → Q v H') (hk : k = .new1) (s : Step B H B' H')
    (r : RepK K B' ds vs) : ∀ p, H' p = none → Q (.ref p) (upd H' p (.dK vs)) := fun p hp => by
  subst hk
  exact q B' _ _ [p] (s.trans (Step.own s.bh hp)) ⟨p, rfl, rfl, .inr ⟨vs, ds, rfl, upd_same, r⟩⟩ (FrF.one (s.hh.back hp) (s.bh.back hp))
theorem se_dic0 : SE C X .dic0 (.Dict [] [] pos) := imp_e pe_dnewK fun σ H Q ⟨B0, H0, B, env, o, d, k, R, he, q⟩ => by
  cases (show some ((.dic [], .new1) : D × Kd) = some (d, k) from he)
  exact fin_dict q rfl (Step.refl R.bh) repk_nil

/-! ### built-in functions -/
theorem pe_b1 {id : String} {r : List V → Hp → VK → Prop} (hc : CallR X (.builtin id) r) (hm : X.mg n = none) (hv : bootBuiltins n = some (.builtin id)) (ha : SE C X a x) (hg : Gl X n) (he : starEach [x] X.env = (false, eval x X.env) :: starEach [] X.env)
    (hn : n ≠ "__name__") (hdb : (n == ("__debug__" : Str)) = false) : PE X (.Call (.Name n p) [x] [] pos) (tCB r (tCons (tE C X.K a) tNil)) := pe_callB hc hg hm hv (pa_cons ha pa_nil he) hn hdb he rfl
theorem pe_t1 {id : String} {r : List V → Hp → VK → Prop} (hc : CallR X (.type id) r) (hm : X.mg n = none) (hv : bootBuiltins n = some (.type id)) (ha : SE C X a x) (hg : Gl X n) (he : starEach [x] X.env = (false, eval x X.env) :: starEach [] X.env)
    (hn : n ≠ "__name__") (hdb : (n == ("__debug__" : Str)) = false) : PE X (.Call (.Name n p) [x] [] pos) (tCB r (tCons (tE C X.K a) tNil)) := pe_callTy hc hg hm hv (pa_cons ha pa_nil he) hn hdb he rfl
theorem pe_b2 {id : String} {r : List V → Hp → VK → Prop} (hc : CallR X (.builtin id) r) (hm : X.mg n = none) (hv : bootBuiltins n = some (.builtin id)) (ha : SE C X a x) (hb : SE C X b y) (hg : Gl X n) (he : starEach [x, y] X.env = (false, eval x X.env) :: starEach [y] X.env) (he2 : starEach [y] X.env = (false, eval y X.env) :: starEach [] X.env)
    (hn : n ≠ "__name__") (hdb : (n == ("__debug__" : Str)) = false) : PE X (.Call (.Name n p) [x, y] [] pos) (tCB r (tCons (tE C X.K a) (tCons (tE C X.K b) tNil))) := pe_callB hc hg hm hv (pa_cons ha (pa_cons hb pa_nil he2) he) hn hdb he (by rw [he2]; rfl)
theorem call_lenK : CallR X (.builtin "len") (fun xs H Q => ∃ a kvs, xs = [V.ref a] ∧ H a = some (.dK kvs) ∧ Q (.int kvs.length) H) := call_lenD
theorem se_len (G : Gd X) (ha : SE C X a x) (hg : Gl X ("len" : Str) := by rfl) (hs : starEach [x] X.env = (false, eval x X.env) :: starEach [] X.env := by rfl) : SE C X (.len a) (.Call (.Name ("len" : Str) p) [x] [] pos) := by
  refine imp_e (pe_b1 (call_len_seq.or (call_len_str.or call_lenD)) G.len boot_len ha hg hs (by decide) (by decide)) fun σ H Q h => ?_
  obtain ⟨B0, H0, B, env, o, d, k, R, he, q⟩ := h
  obtain ⟨i, h1, rfl, rfl⟩ := frI_some (show frI ((bm (ev C a env)).bind lenL) = some (d, k) from he)
  obtain ⟨da, h2, h3⟩ := bind1_some h1
  refine use_b R h2 fun B' H' u s ru => ?_
  have fin : ∀ j, j = i → Q (.int j) H' := fun j e => by rw [e]; exact q B' H' _ [] s ⟨rfl, int_rep⟩ FrF.nil
  cases da <;> simp only [lenL, lenD, reduceCtorEq, Option.some.injEq] at h3
  · obtain ⟨hz, h4⟩ := if_some h3
    exact .inr (.inl ⟨_, by rw [rep_str ru], by rw [sv_length]; exact sizeL hz, fin _ (by rw [sv_length]; exact h4)⟩)
  · obtain ⟨p1, vs, rfl, q1, r1⟩ := rep_tup ru
    exact .inl ⟨p1, vs, rfl, .inr (SqT.of q1), fin _ (by rw [r1.length]; exact h3)⟩
  · obtain ⟨p1, vs, rfl, q1, r1⟩ := rep_lst ru
    exact .inl ⟨p1, vs, rfl, .inl q1, fin _ (by rw [r1.length]; exact h3)⟩
  · obtain ⟨p1, vs, rfl, q1, r1⟩ := rep_dic ru
    exact .inr (.inr ⟨p1, vs, rfl, q1, fin _ (by rw [r1.length]; exact h3)⟩)
theorem se_max2 (G : Gd X) (ha : SE C X a x) (hb : SE C X b y) (hg : Gl X ("max" : Str) := by rfl) (hs : starEach [x, y] X.env = (false, eval x X.env) :: starEach [y] X.env := by rfl) (hs2 : starEach [y] X.env = (false, eval y X.env) :: starEach [] X.env := by rfl) :
    SE C X (.max2 a b) (.Call (.Name ("max" : Str) p) [x, y] [] pos) := by
  refine imp_e (pe_b2 (call_max2 G.calm) G.max boot_max ha hb hg hs hs2 (by decide) (by decide)) fun σ H Q h => ?_
  obtain ⟨B0, H0, B, env, o, d, k, R, he, q⟩ := h
  obtain ⟨dx, dy, h1, h2, h3⟩ := bm2_some (f := fun x y => frI ((asInt x).bind fun i => (asInt y).map fun j => max i j)) he
  simp only [map_bind] at h3
  obtain ⟨i, j, m, rfl, rfl, hn, rfl, rfl⟩ := int2_some h3
  cases hn
  refine two_b R h1 h2 fun B' H' u v s ru rv => ⟨i, j, by rw [rep_int ru, rep_int rv], ?_⟩
  have e : (if j > i then j else i) = max i j := by split <;> omega
  rw [e]
  exact q B' H' _ [] s ⟨rfl, int_rep⟩ FrF.nil
theorem se_min2 (G : Gd X) (ha : SE C X a x) (hb : SE C X b y) (hg : Gl X ("min" : Str) := by rfl) (hs : starEach [x, y] X.env = (false, eval x X.env) :: starEach [y] X.env := by rfl) (hs2 : starEach [y] X.env = (false, eval y X.env) :: starEach [] X.env := by rfl) :
    SE C X (.min2 a b) (.Call (.Name ("min" : Str) p) [x, y] [] pos) := by
  refine imp_e (pe_b2 (call_min2 G.calm) G.min boot_min ha hb hg hs hs2 (by decide) (by decide)) fun σ H Q h => ?_
  obtain ⟨B0, H0, B, env, o, d, k, R, he, q⟩ := h
  obtain ⟨dx, dy, h1, h2, h3⟩ := bm2_some (f := fun x y => frI ((asInt x).bind fun i => (asInt y).map fun j => min i j)) he
  simp only [map_bind] at h3
  obtain ⟨i, j, m, rfl, rfl, hn, rfl, rfl⟩ := int2_some h3
  cases hn
  refine two_b R h1 h2 fun B' H' u v s ru rv => ⟨i, j, by rw [rep_int ru, rep_int rv], ?_⟩
  have e : (if j < i then j else i) = min i j := by split <;> omega
  rw [e]
  exact q B' H' _ [] s ⟨rfl, int_rep⟩ FrF.nil
theorem use_ints {K : PySem.W.Frag} {H : Hp} {ds : List D} {ns : List Int} {v : V} (h : intsD ds = some ns) (r : Rep K H (.lst ds) v) : ∃ p, v = .ref p ∧ SqL K H p (ns.map V.int) := by
  obtain ⟨p, vs, rfl, q1, q2⟩ := rep_lst r
  rw [Reps.ints h q2] at q1
  exact ⟨p, rfl, q1⟩
theorem se_sum (G : Gd X) (ha : SE C X a x) (hg : Gl X ("sum" : Str) := by rfl) (hs : starEach [x] X.env = (false, eval x X.env) :: starEach [] X.env := by rfl) : SE C X (.sum a) (.Call (.Name ("sum" : Str) p) [x] [] pos) := by
  refine imp_e (pe_b1 (cr_sum G.calm) G.sum (by decide +kernel) ha hg hs (by decide) (by decide)) fun σ H Q h => ?_
  obtain ⟨B0, H0, B, env, o, d, k, R, he, q⟩ := h
  obtain ⟨da, h2, h3⟩ := bind1_some (show ((bm (ev C a env)).bind fun x => match x with | .lst xs => frI ((intsD xs).map fun ns => ns.sum) | _ => none) = some (d, k) from he)
  refine use_b R h2 fun B' H' u s ru => ?_
  cases da <;> simp only [reduceCtorEq] at h3
  obtain ⟨i, h4, rfl, rfl⟩ := frI_some h3
  rw [Option.map_eq_some_iff] at h4
  obtain ⟨ns, h4, rfl⟩ := h4
  obtain ⟨p1, rfl, q1⟩ := use_ints h4 ru
  exact ⟨p1, ns, rfl, q1, q B' H' _ [] s ⟨rfl, int_rep⟩ FrF.nil⟩
theorem foldl_max_le : ∀ (xs : List Int) (x : Int), (∀ y ∈ x :: xs, y ≤ xs.foldl max x) ∧ xs.foldl max x ∈ x :: xs
  | [], x => by simp
  | z :: zs, x => by
    obtain ⟨h1, h2⟩ := foldl_max_le zs (max x z)
    rw [List.foldl_cons]
    refine ⟨fun y hy => ?_, ?_⟩
    · rcases List.mem_cons.mp hy with rfl | hy
      · exact Int.le_trans (Int.le_max_left _ _) (h1 _ (List.mem_cons_self ..))
      · rcases List.mem_cons.mp hy with rfl | hy
        · exact Int.le_trans (Int.le_max_right _ _) (h1 _ (List.mem_cons_self ..))
        · exact h1 y (List.mem_cons_of_mem _ hy)
    · rcases List.mem_cons.mp h2 with h | h
      · rw [h]
        rcases Int.le_total x z with q | q
        · rw [Int.max_eq_right q]; simp
        · rw [Int.max_eq_left q]; simp
      · exact List.mem_cons_of_mem _ (List.mem_cons_of_mem _ h)
theorem foldl_min_le : ∀ (xs : List Int) (x : Int), (∀ y ∈ x :: xs, xs.foldl min x ≤ y) ∧ xs.foldl min x ∈ x :: xs
  | [], x => by simp
  | z :: zs, x => by
    obtain ⟨h1, h2⟩ := foldl_min_le zs (min x z)
    rw [List.foldl_cons]
    refine ⟨fun y hy => ?_, ?_⟩
    · rcases List.mem_cons.mp hy with rfl | hy
      · exact Int.le_trans (h1 _ (List.mem_cons_self ..)) (Int.min_le_left _ _)
      · rcases List.mem_cons.mp hy with rfl | hy
        · exact Int.le_trans (h1 _ (List.mem_cons_self ..)) (Int.min_le_right _ _)
        · exact h1 y (List.mem_cons_of_mem _ hy)
    · rcases List.mem_cons.mp h2 with h | h
      · rw [h]
        rcases Int.le_total x z with q | q
        · rw [Int.min_eq_left q]; simp
        · rw [Int.min_eq_right q]; simp
      · exact List.mem_cons_of_mem _ (List.mem_cons_of_mem _ h)
theorem maxL_some {ns : List Int} {m : Int} (h : maxL ns = some m) : 0 < ns.length ∧ ∀ n, n ∈ ns → (∀ y ∈ ns, y ≤ n) → n = m := by
  cases ns with
  | nil => cases h
  | cons x xs =>
    cases h
    obtain ⟨h1, h2⟩ := foldl_max_le xs x
    refine ⟨by simp, fun n hn hle => ?_⟩
    have a1 := hle _ h2
    have a2 := h1 n hn
    omega
theorem minL_some {ns : List Int} {m : Int} (h : minL ns = some m) : 0 < ns.length ∧ ∀ n, n ∈ ns → (∀ y ∈ ns, n ≤ y) → n = m := by
  cases ns with
  | nil => cases h
  | cons x xs =>
    cases h
    obtain ⟨h1, h2⟩ := foldl_min_le xs x
    refine ⟨by simp, fun n hn hle => ?_⟩
    have a1 := hle _ h2
    have a2 := h1 n hn
    omega
theorem se_max1 (G : Gd X) (ha : SE C X a x) (hg : Gl X ("max" : Str) := by rfl) (hs : starEach [x] X.env = (false, eval x X.env) :: starEach [] X.env := by rfl) : SE C X (.max1 a) (.Call (.Name ("max" : Str) p) [x] [] pos) := by
  refine imp_e (pe_b1 (cr_max G.calm) G.max boot_max ha hg hs (by decide) (by decide)) fun σ H Q h => ?_
  obtain ⟨B0, H0, B, env, o, d, k, R, he, q⟩ := h
  obtain ⟨da, h2, h3⟩ := bind1_some (show ((bm (ev C a env)).bind fun x => match x with | .lst xs => frI ((intsD xs).bind maxL) | _ => none) = some (d, k) from he)
  refine use_b R h2 fun B' H' u s ru => ?_
  cases da <;> simp only [reduceCtorEq] at h3
  obtain ⟨i, h4, rfl, rfl⟩ := frI_some h3
  obtain ⟨ns, h4, h5⟩ := bind1_some h4
  obtain ⟨p1, rfl, q1⟩ := use_ints h4 ru
  obtain ⟨h6, h7⟩ := maxL_some h5
  exact ⟨p1, ns, rfl, q1, h6, fun m hm hle => by rw [h7 m hm hle]; exact q B' H' _ [] s ⟨rfl, int_rep⟩ FrF.nil⟩
theorem se_min1 (G : Gd X) (ha : SE C X a x) (hg : Gl X ("min" : Str) := by rfl) (hs : starEach [x] X.env = (false, eval x X.env) :: starEach [] X.env := by rfl) : SE C X (.min1 a) (.Call (.Name ("min" : Str) p) [x] [] pos) := by
  refine imp_e (pe_b1 (cr_min G.calm) G.min boot_min ha hg hs (by decide) (by decide)) fun σ H Q h => ?_
  obtain ⟨B0, H0, B, env, o, d, k, R, he, q⟩ := h
  obtain ⟨da, h2, h3⟩ := bind1_some (show ((bm (ev C a env)).bind fun x => match x with | .lst xs => frI ((intsD xs).bind minL) | _ => none) = some (d, k) from he)
  refine use_b R h2 fun B' H' u s ru => ?_
  cases da <;> simp only [reduceCtorEq] at h3
  obtain ⟨i, h4, rfl, rfl⟩ := frI_some h3
  obtain ⟨ns, h4, h5⟩ := bind1_some h4
  obtain ⟨p1, rfl, q1⟩ := use_ints h4 ru
  obtain ⟨h6, h7⟩ := minL_some h5
  exact ⟨p1, ns, rfl, q1, h6, fun m hm hle => by rw [h7 m hm hle]; exact q B' H' _ [] s ⟨rfl, int_rep⟩ FrF.nil⟩
/-- list(..) -/
theorem se_list (G : Gd X) (ha : SE C X a x) (hg : Gl X ("list" : Str) := by rfl) (hs : starEach [x] X.env = (false, eval x X.env) :: starEach [] X.env := by rfl) : SE C X (.list a) (.Call (.Name ("list" : Str) p) [x] [] pos) := by
  refine imp_e (pe_t1 call_list_of G.list (by decide +kernel) ha hg hs (by decide) (by decide)) fun σ H Q h => ?_
  obtain ⟨B0, H0, B, env, o, d, k, R, he, q⟩ := h
  obtain ⟨da, h2, h3⟩ := bind1_some (show ((em (ev C a env)).bind fun x => match x with | .lst xs => some ((.lst xs, .new1) : D × Kd) | .tup xs => some (.lst xs, .new1) | _ => none) = some (d, k) from he)
  refine use_e R h2 fun B' H' u s ru => ?_
  cases da <;> simp only [reduceCtorEq] at h3
  · cases h3
    obtain ⟨p1, vs, rfl, q1, r1⟩ := rep_tup (K := X.K) (B := B') ru
    exact ⟨p1, vs, rfl, .inr (SqT.of (s.bh.at q1 nt_tup)), fin_list q rfl s r1⟩
  · cases h3
    obtain ⟨p1, vs, rfl, q1, r1⟩ := ru
    exact ⟨p1, vs, rfl, .inl q1, fin_list q rfl s r1⟩
/-! ### isinstance -/
theorem sq_ty {K : PySem.W.Frag} {H : Hp} {a : Addr} {vs : List V} (h : SqL K H a vs) : TyX K H (.ref a) (.type "list") := by
  rcases h with (h | ⟨o, h⟩) | ⟨o, its, n, h1, h2, _⟩
  · exact .base (.lst h)
  · exact .base (.frz h)
  · exact .kList h1 h2
def D.tyN : D → String | .non => "NoneType" | .bl _ => "bool" | .int _ => "int" | .str _ => "str" | .tup _ => "tuple" | .lst _ => "list" | .dic _ => "dict"
theorem rep_ty {K : PySem.W.Frag} {H : Hp} {d : D} {v : V} (r : Rep K H d v) : TyX K H v (.type d.tyN) := by
  cases d with
  | non => rw [rep_non r]; exact .base .non
  | bl _ => rw [rep_bl r]; exact .base (.bl _)
  | int _ => rw [rep_int r]; exact .base (.int _)
  | str _ => rw [rep_str r]; exact .base (.str _)
  | tup _ => obtain ⟨a, vs, rfl, h, _⟩ := rep_tup r; exact .base (.tup h)
  | lst _ => obtain ⟨a, vs, rfl, h, _⟩ := rep_lst r; exact sq_ty h
  | dic _ => obtain ⟨a, vs, rfl, h, _⟩ := rep_dic r; exact .base (.dK h)
def Ty.nm : Ty → String | .int => "int" | .bool => "bool" | .str => "str" | .lst => "list" | .tup => "tuple"
theorem kit_D (d : D) (t : Ty) : kitB d.tyN t.nm = some (isTy d t) := by
  cases d <;> cases t <;> (show kitB _ _ = some _) <;> simp only [D.tyN, Ty.nm, isTy] <;> decide +kernel
theorem se_isin (G : Gd X) {t : Ty} (ha : SE C X a x) (hy : PE X y (tC (.ty t.nm))) (hg : Gl X ("isinstance" : Str) := by rfl) (hs : starEach [x, y] X.env = (false, eval x X.env) :: starEach [y] X.env := by rfl) (hs2 : starEach [y] X.env = (false, eval y X.env) :: starEach [] X.env := by rfl) :
    SE C X (.isin a t) (.Call (.Name ("isinstance" : Str) p) [x, y] [] pos) := by
  refine imp_e (pe_callB call_isi hg G.isi boot_isinstance (pa_cons ha (pa_cons hy pa_nil hs2) hs) (by decide) (by decide) hs (by rw [hs2]; rfl)) fun σ H Q h => ?_
  obtain ⟨B0, H0, B, env, o, d, k, R, he, q⟩ := h
  obtain ⟨da, h2, h3⟩ := bind1_some (show ((bm (ev C a env)).bind fun x => some ((.bl (isTy x t), .frz) : D × Kd)) = some (d, k) from he)
  cases h3
  refine use_b R h2 fun B' H' u s ru => ?_
  exact ⟨u, .ty t.nm, .type da.tyN, .type t.nm, isTy da t, rfl, .ty _, rep_ty ru, kit_ty (kit_D da t), q B' H' _ [] s ⟨rfl, bl_rep⟩ FrF.nil⟩
theorem ty_int (G : Gd X) (hg : Gl X ("int" : Str) := by rfl) : PE X (.Name ("int" : Str) pos) (tC (.ty Ty.int.nm)) := pe_bltn hg G.int (show bootBuiltins _ = some (.type "int") by decide +kernel) rfl (by decide) (by decide)
theorem ty_bool (G : Gd X) (hg : Gl X ("bool" : Str) := by rfl) : PE X (.Name ("bool" : Str) pos) (tC (.ty Ty.bool.nm)) := pe_bltn hg G.bool (show bootBuiltins _ = some (.type "bool") by decide +kernel) rfl (by decide) (by decide)
theorem ty_str (G : Gd X) (hg : Gl X ("str" : Str) := by rfl) : PE X (.Name ("str" : Str) pos) (tC (.ty Ty.str.nm)) := pe_bltn hg G.str (show bootBuiltins _ = some (.type "str") by decide +kernel) rfl (by decide) (by decide)
theorem ty_lst (G : Gd X) (hg : Gl X ("list" : Str) := by rfl) : PE X (.Name ("list" : Str) pos) (tC (.ty Ty.lst.nm)) := pe_bltn hg G.list (show bootBuiltins _ = some (.type "list") by decide +kernel) rfl (by decide) (by decide)
theorem ty_tup (G : Gd X) (hg : Gl X ("tuple" : Str) := by rfl) : PE X (.Name ("tuple" : Str) pos) (tC (.ty Ty.tup.nm)) := pe_bltn hg G.tuple (show bootBuiltins _ = some (.type "tuple") by decide +kernel) rfl (by decide) (by decide)
end
end Hg
end

section
set_option Elab.async false
set_option maxRecDepth 100000
set_option maxHeartbeats 4000000
/-! Snd4: sorted, in; targets, iterables, comprehensions; calls. -/
namespace Hg
open PySem PySem.Spec PyProof.Rows L2
variable [TB : Tabl]

/-! ### sorted -/
theorem perm_sorted {α : Type} {r : α → α → Prop} (anti : ∀ a b, r a b → r b a → a = b) : ∀ (l m : List α), l.Perm m → l.Pairwise r → m.Pairwise r → l = m
  | [], m, h, _, _ => h.nil_eq
  | x :: l, m, h, h1, h2 => by
    cases m with
    | nil => exact absurd h.symm.nil_eq (by simp)
    | cons y m =>
      have e : x = y := by
        have hx : x ∈ y :: m := h.mem_iff.mp (List.mem_cons_self ..)
        have hy : y ∈ x :: l := h.mem_iff.mpr (List.mem_cons_self ..)
        rcases List.mem_cons.mp hx with q | q
        · exact q
        · rcases List.mem_cons.mp hy with z | z
          · exact z.symm
          · exact anti x y ((List.pairwise_cons.mp h1).1 y z) ((List.pairwise_cons.mp h2).1 x q)
      subst e
      rw [perm_sorted anti l m h.cons_inv (List.pairwise_cons.mp h1).2 (List.pairwise_cons.mp h2).2]
theorem sortI_eq {ns ms : List Int} (h : ms.Perm ns) (s : ms.Pairwise (· ≤ ·)) : ms = sortI ns := by
  refine perm_sorted (r := (· ≤ ·)) (fun a b => Int.le_antisymm) _ _ (h.trans (List.mergeSort_perm ns _).symm) s ?_
  have := List.pairwise_mergeSort (le := fun a b : Int => decide (a ≤ b)) (fun a b c h1 h2 => decide_eq_true (Int.le_trans (of_decide_eq_true h1) (of_decide_eq_true h2)))
    (fun a b => by rcases Int.le_total a b with q | q <;> simp [q]) ns
  exact this.imp fun {a b} h => of_decide_eq_true h
theorem leP_iff {p q : Int × Int} : leP p q = true ↔ p.1 < q.1 ∨ (p.1 = q.1 ∧ p.2 ≤ q.2) := by
  unfold leP
  exact decide_eq_true_iff
theorem sortP_eq {ns ms : List (Int × Int)} (h : ms.Perm ns) (s : ms.Pairwise fun a b => leP a b = true) : ms = sortP ns := by
  refine perm_sorted (r := fun a b => leP a b = true) (fun a b h1 h2 => ?_) _ _ (h.trans (List.mergeSort_perm ns _).symm) s ?_
  · rw [leP_iff] at h1 h2
    apply Prod.ext <;> omega
  · refine List.pairwise_mergeSort (le := leP) (fun a b c h1 h2 => ?_) (fun a b => ?_) ns
    · rw [leP_iff] at h1 h2 ⊢
      omega
    · rw [Bool.or_eq_true, leP_iff, leP_iff]
      omega
/-- the pair that a value stands for -/
def pairAt (H : Hp) : V → Int × Int
  | .ref t => match H t with | some (.tup [.int i, .int j]) => (i, j) | _ => (0, 0)
  | _ => (0, 0)
theorem pairsD_reps {K : PySem.W.Frag} {B H : Hp} (e : Ext B H) : ∀ {ds : List D} {ps : List (Int × Int)} {vs : List V}, pairsD ds = some ps → Reps K B ds vs →
    vs.map (pairAt H) = ps ∧ ∀ v ∈ vs, (∃ t, v = .ref t ∧ H t = some (.tup [.int (pairAt H v).1, .int (pairAt H v).2])) ∧ Rep K B (pairD (pairAt H v)) v
  | [], ps, vs, h, r => by
    have e' : ps = [] := by simpa [pairsD, optAll] using h.symm
    subst e'
    rw [r.nil_of]
    exact ⟨rfl, fun v hv => by simp at hv⟩
  | d :: ds, ps, vs, h, r => by
    obtain ⟨v, r1, rfl, h1, h2⟩ := r.cons_of
    simp only [pairsD, optAll, Option.bind_eq_some_iff] at h
    obtain ⟨p, hp, qs, hq, h⟩ := h
    cases h
    obtain ⟨h3, h4⟩ := pairsD_reps e (ps := qs) hq h2
    have hd : d = pairD p := by
      cases d with
      | tup xs =>
        match xs, hp with
        | [.int i, .int j], hp => cases hp; rfl
      | _ => cases hp
    subst hd
    obtain ⟨t, us, rfl, q1, q2⟩ := rep_tup h1
    have hu : us = [.int p.1, .int p.2] := by
      have h5 := Reps.ints (ns := [p.1, p.2]) rfl q2
      exact h5
    subst hu
    have hp' : pairAt H (.ref t) = p := by
      show (match H t with | some (.tup [.int i, .int j]) => (i, j) | _ => (0, 0)) = p
      rw [e.at q1 nt_tup]
    refine ⟨by rw [List.map_cons, hp', h3], fun w hw => ?_⟩
    rcases List.mem_cons.mp hw with rfl | hw
    · rw [hp']
      exact ⟨⟨t, rfl, e.at q1 nt_tup⟩, h1⟩
    · exact h4 w hw
theorem reps_pairs {K : PySem.W.Frag} {B H : Hp} : ∀ (vs : List V), (∀ v ∈ vs, Rep K B (pairD (pairAt H v)) v) → Reps K B ((vs.map (pairAt H)).map pairD) vs
  | [], _ => reps_nil
  | v :: vs, h => reps_cons (h v (List.mem_cons_self ..)) (reps_pairs vs fun w hw => h w (List.mem_cons_of_mem _ hw))
section
variable {C : Nat → List D → Option D} {X : Cx} {a b c : E} {x y z : Expr} {pos p pos1 : Pos} {n : Str}
theorem se_sorted (G : Gd X) (ha : SE C X a x) (hg : Gl X ("sorted" : Str) := by rfl) (hs : starEach [x] X.env = (false, eval x X.env) :: starEach [] X.env := by rfl) : SE C X (.sorted a) (.Call (.Name ("sorted" : Str) p) [x] [] pos) := by
  refine imp_e (pe_b1 (cr_sortedI.or cr_sortedPO) G.sorted boot_sorted ha hg hs (by decide) (by decide)) fun σ H Q h => ?_
  obtain ⟨B0, H0, B, env, o, d, k, R, he, q⟩ := h
  obtain ⟨da, h2, h3⟩ := bind1_some (show ((em (ev C a env)).bind fun x => match x with
      | .lst xs => if xs.length < L then (sortD xs).map fun ys => ((.lst ys, .new1) : D × Kd) else none
      | _ => none) = some (d, k) from he)
  refine use_e R h2 fun B' H' u s ru => ?_
  cases da <;> simp only [reduceCtorEq] at h3
  rename_i xs
  by_cases hz : xs.length < L
  · rw [if_pos hz, Option.map_eq_some_iff] at h3
    obtain ⟨ys, h4, h5⟩ := h3
    cases h5
    obtain ⟨p1, vs, rfl, q1, r1⟩ := ru
    unfold sortD at h4
    cases hi : intsD xs with
    | some ns =>
      rw [hi] at h4
      cases h4
      rw [Reps.ints hi r1] at q1
      refine .inl ⟨p1, ns, rfl, q1, fun ms w hp hm hw => ?_⟩
      rw [sortI_eq hp hm]
      exact fin_list q rfl s (reps_ints _) w hw
    | none =>
      rw [hi] at h4
      simp only [Option.map_eq_some_iff] at h4
      obtain ⟨ps, h4, rfl⟩ := h4
      obtain ⟨e1, e2⟩ := pairsD_reps s.bh h4 r1
      refine .inr ⟨p1, vs, pairAt H', rfl, q1, fun v hv => (e2 v hv).1, fun ys w h5 h6 hw => ?_⟩
      have e3 : ys.map (pairAt H') = sortP ps := by
        rw [← e1]
        refine sortP_eq (h6.perm.map _) (List.pairwise_map.mpr (h5.imp fun {v u} h => ?_))
        rw [leP_iff]
        have h7 := SrtO.lexB_no.mp h
        omega
      have r2 := reps_pairs (K := X.K) (B := B') (H := H') ys fun v hv => (e2 v (h6.perm.mem_iff.mp hv)).2
      rw [e3] at r2
      exact fin_list q rfl s r2 w hw
  · rw [if_neg hz] at h3
    cases h3

/-! ### in -/
theorem atom_flat {K : PySem.W.Frag} {B : Hp} {d : D} {v : V} (h : d.atom = true) (r : Rep K B d v) : flatV v = true := by
  cases d <;> first | (cases h; done) | skip
  · rw [rep_non r]; rfl
  · rw [rep_bl r]; rfl
  · rw [rep_int r]; rfl
  · rw [rep_str r]; rfl
theorem atom_eqv {K : PySem.W.Frag} {B : Hp} {d e : D} {v w : V} (h : d.atom = true) (h' : e.atom = true) (r : Rep K B d v) (r' : Rep K B e w) : eqV v w = eqD d e := by
  cases d <;> first | (cases h; done) | skip
  all_goals cases e <;> first | (cases h'; done) | skip
  all_goals first | rw [rep_non r] | rw [rep_bl r] | rw [rep_int r] | rw [rep_str r]
  all_goals first | rw [rep_non r'] | rw [rep_bl r'] | rw [rep_int r'] | rw [rep_str r']
  all_goals first | rfl | exact sv_beq _ _
theorem atoms_any {K : PySem.W.Frag} {B : Hp} {x : D} {v : V} (hx : x.atom = true) (rx : Rep K B x v) : ∀ {ds : List D} {vs : List V}, ds.all D.atom = true → Reps K B ds vs → vs.all flatV = true ∧ inV v vs = ds.any fun y => eqD y x
  | [], vs, _, r => by rw [r.nil_of]; exact ⟨rfl, rfl⟩
  | d :: ds, vs, h, r => by
    obtain ⟨w, r1, rfl, h1, h2⟩ := r.cons_of
    rw [List.all_cons, Bool.and_eq_true] at h
    obtain ⟨h3, h4⟩ := atoms_any hx rx h.2 h2
    refine ⟨by rw [List.all_cons, h3, atom_flat h.1 h1]; rfl, ?_⟩
    have e : inV v (w :: r1) = (eqV w v || inV v r1) := rfl
    rw [e, h4, List.any_cons, atom_eqv h.1 hx h1 rx]
theorem all_plain {n : Nat} {ds : List D} (h : plainD (n + 1) (.lst ds) = true) : ds.all (plainD (n + 1)) = true := by
  have h' : ds.all (plainD n) = true := by simpa [plainD] using h
  exact List.all_eq_true.mpr fun x hx => plain_mono n x (List.all_eq_true.mp h' x hx)
theorem RepK.isSome {K : PySem.W.Frag} {B : Hp} {ds : List (Ky × D)} {vs : List (L2.Key × V)} (r : RepK K B ds vs) (k : Ky) : (valV vs (ky k)).isSome = (look ds k).isSome := by
  cases hl : look ds k with
  | none => rw [r.look_none hl]; rfl
  | some w =>
    obtain ⟨w', e1, _⟩ := r.look_some hl
    rw [e1]; rfl
theorem pc_or2 {op : CmpOp} {t u : TE} (h : PC X op x y t) (h' : PC X op x y u) : PC X op x y (tOr2 t u) := ⟨fun pins s σ H Q I q => q.elim (h.run pins s σ H Q I) (h'.run pins s σ H Q I)⟩
theorem sc_mem (G : Gd X) (ha : SE C X a x) (hb : SE C X b y) : SC C X (.mem a b) .In x y := by
  refine imp_c (pc_or2 (pc_op ((op_inD (by have := G.un; omega)).or (op_in_seq.or op_in_sign)) ha hb) (pc_din (by have := G.un; omega) ha hb)) fun σ H Q h => ?_
  obtain ⟨B0, H0, B, env, o, d, k, R, he, q⟩ := h
  obtain ⟨dx, dy, h1, h2, h3⟩ := bm2_some (f := fun x y => frB (memD x y)) he
  obtain ⟨r, h4, rfl, rfl⟩ := frB_some h3
  cases dy <;> simp only [memD, reduceCtorEq] at h4
  · rename_i s
    match dx, h4 with
    | .str [ch], h4 =>
      cases h4
      refine .inl (two_b R h1 h2 fun B' H' u v st ru rv => .inr (.inr ⟨ch, sv s, rep_str ru, rep_str rv, ?_⟩))
      exact q B' H' _ [] st ⟨rfl, bl_rep⟩ FrF.nil
  · obtain ⟨⟨p1, p2⟩, h5⟩ := if_some h4
    subst h5
    refine .inl (two_b R h1 h2 fun B' H' u v st ru rv => .inr (.inl ?_))
    obtain ⟨p3, vs, rfl, q1, r1⟩ := rep_tup rv
    obtain ⟨h6, h7⟩ := atoms_any p1 ru p2 r1
    refine ⟨p3, vs, rfl, .inr (SqT.of q1), atom_flat p1 ru, h6, ?_⟩
    show Q (.bl (inV u vs)) H'
    rw [h7]
    exact q B' H' _ [] st ⟨rfl, bl_rep⟩ FrF.nil
  · obtain ⟨⟨p1, p2⟩, h5⟩ := if_some h4
    subst h5
    refine .inl (two_b R h1 h2 fun B' H' u v st ru rv => .inl ?_)
    refine ⟨toPD dx, toPDs _, Rep.dp dx u PD p1 ru, Rep.dp _ v PD p2 rv, plain_shaped p1, plain_shaped p2, ?_⟩
    rw [any_eqv _ dx PD (all_plain p2) p1]
    exact q B' H' _ [] st ⟨rfl, bl_rep⟩ FrF.nil
  · rw [Option.map_eq_some_iff] at h4
    obtain ⟨kk, h5, rfl⟩ := h4
    refine .inr (two_b R h1 h2 fun B' H' u v st ru rv => ?_)
    obtain ⟨p3, vs, rfl, q1, r1⟩ := rep_dic rv
    refine ⟨p3, valV vs (ky kk), rfl, ?_, ?_⟩
    · rw [kV_ky h5 ru]
      exact DGet.k q1
    · rw [r1.isSome kk]
      exact q B' H' _ [] st ⟨rfl, bl_rep⟩ FrF.nil
theorem sc_nmem (G : Gd X) (ha : SE C X a x) (hb : SE C X b y) : SC C X (.nmem a b) .NotIn x y := by
  refine imp_c (pc_or2 (pc_op ((op_notInD (by have := G.un; omega)).or (op_notIn_seq.or op_notIn_sign)) ha hb) (pc_dnotin (by have := G.un; omega) ha hb)) fun σ H Q h => ?_
  obtain ⟨B0, H0, B, env, o, d, k, R, he, q⟩ := h
  obtain ⟨dx, dy, h1, h2, h3⟩ := bm2_some (f := fun x y => frB ((memD x y).map fun r => !r)) he
  obtain ⟨r, h4, rfl, rfl⟩ := frB_some h3
  rw [Option.map_eq_some_iff] at h4
  obtain ⟨r', h4, rfl⟩ := h4
  cases dy <;> simp only [memD, reduceCtorEq] at h4
  · rename_i s
    match dx, h4 with
    | .str [ch], h4 =>
      cases h4
      refine .inl (two_b R h1 h2 fun B' H' u v st ru rv => .inr (.inr ⟨ch, sv s, rep_str ru, rep_str rv, ?_⟩))
      exact q B' H' _ [] st ⟨rfl, bl_rep⟩ FrF.nil
  · obtain ⟨⟨p1, p2⟩, h5⟩ := if_some h4
    subst h5
    refine .inl (two_b R h1 h2 fun B' H' u v st ru rv => .inr (.inl ?_))
    obtain ⟨p3, vs, rfl, q1, r1⟩ := rep_tup rv
    obtain ⟨h6, h7⟩ := atoms_any p1 ru p2 r1
    refine ⟨p3, vs, rfl, .inr (SqT.of q1), atom_flat p1 ru, h6, ?_⟩
    show Q (.bl (!inV u vs)) H'
    rw [h7]
    exact q B' H' _ [] st ⟨rfl, bl_rep⟩ FrF.nil
  · obtain ⟨⟨p1, p2⟩, h5⟩ := if_some h4
    subst h5
    refine .inl (two_b R h1 h2 fun B' H' u v st ru rv => .inl ?_)
    refine ⟨toPD dx, toPDs _, Rep.dp dx u PD p1 ru, Rep.dp _ v PD p2 rv, plain_shaped p1, plain_shaped p2, ?_⟩
    rw [any_eqv _ dx PD (all_plain p2) p1]
    exact q B' H' _ [] st ⟨rfl, bl_rep⟩ FrF.nil
  · rw [Option.map_eq_some_iff] at h4
    obtain ⟨kk, h5, rfl⟩ := h4
    refine .inr (two_b R h1 h2 fun B' H' u v st ru rv => ?_)
    obtain ⟨p3, vs, rfl, q1, r1⟩ := rep_dic rv
    refine ⟨p3, valV vs (ky kk), rfl, ?_, ?_⟩
    · rw [kV_ky h5 ru]
      exact DGet.k q1
    · rw [r1.isSome kk]
      exact q B' H' _ [] st ⟨rfl, bl_rep⟩ FrF.nil
end
end Hg
end

section
set_option Elab.async false
set_option maxRecDepth 100000
set_option autoImplicit false
set_option maxHeartbeats 4000000
/-! Snd5: targets, iterables, comprehensions. -/
namespace Hg
open PySem PySem.Spec PyProof.Rows L2
variable [TB : Tabl]

/-! ### names given a value -/
def dropO (o : Addr → Option Nat) (i : Nat) : Addr → Option Nat := fun a => if o a = some i then none else o a
theorem dropO_some {o : Addr → Option Nat} {i j : Nat} {a : Addr} (h : dropO o i a = some j) : o a = some j ∧ j ≠ i := by
  unfold dropO at h
  by_cases e : o a = some i
  · rw [if_pos e] at h; cases h
  · rw [if_neg e] at h
    exact ⟨h, fun z => e (by rw [← z]; exact h)⟩
theorem dropO_ne {o : Addr → Option Nat} {i j : Nat} {a : Addr} (h : o a = some j) (n : j ≠ i) : dropO o i a = some j := by
  unfold dropO
  rw [if_neg (by rw [h]; exact fun z => n (Option.some.inj z))]
  exact h
theorem Rel.put {K : PySem.W.Frag} {B0 H0 B H : Hp} {env : Env} {σ : L2.St} {o : Addr → Option Nat} {i : Nat} {d : D} {v : V} (R : Rel K B0 H0 B env σ H o) (r : Rep K B d v) : Rel K B0 H0 B (env.set i (.val d .frz)) (σ.set i (some v)) H (dropO o i) where
  b0 := R.b0
  h0 := R.h0
  bh := R.bh
  tt := R.tt
  gr := R.gr
  len := by rw [List.length_set, List.length_set]; exact R.len
  sl := fun j d' k e => by
    rw [List.getElem?_set] at e
    by_cases hj : i = j
    · subst hj
      rw [if_pos rfl] at e
      by_cases hl : i < env.length
      · rw [if_pos hl] at e
        cases e
        refine ⟨v, [], ?_, ⟨rfl, r⟩, List.nodup_nil, by simp⟩
        rw [List.getElem?_set, if_pos rfl, if_pos (by rw [R.len]; exact hl)]
      · rw [if_neg hl] at e; cases e
    · rw [if_neg hj] at e
      obtain ⟨w, F, h1, h2, h3, h4⟩ := R.sl j d' k e
      refine ⟨w, F, ?_, h2, h3, fun a ha => dropO_ne (h4 a ha) (Ne.symm hj)⟩
      rw [List.getElem?_set, if_neg hj]
      exact h1
  fr := fun a j e => R.fr a j (dropO_some e).1
  nc := fun a j e => R.nc a j (dropO_some e).1
/-- only these slots are others -/
def Kept (is : List Nat) (σ σ' : L2.St) : Prop := σ'.length = σ.length ∧ ∀ i, i ∉ is → σ'[i]? = σ[i]?
/-- a target's reading -/
def tG (K : PySem.W.Frag) (t : Tg) : TG := fun v σ H Q => ∃ B0 H0 B env o d env', Rel K B0 H0 B env σ H o ∧ Rep K B d v ∧ bindT t d env = some env' ∧
  ∀ σ' o', Rel K B0 H0 B env' σ' H o' → Kept t.slots σ σ' → Q σ' H
def tGs (K : PySem.W.Frag) (is : List Nat) : TGs := fun vs σ H Q => ∃ B0 H0 B env o ds env', Rel K B0 H0 B env σ H o ∧ Reps K B ds vs ∧ setSlots is ds env = some env' ∧
  ∀ σ' o', Rel K B0 H0 B env' σ' H o' → Kept is σ σ' → Q σ' H
theorem imp_g {X : Cx} {x : Expr} {t u : TG} (h : PG X x t) (f : ∀ v σ H Q, u v σ H Q → t v σ H Q) : PG X x u := ⟨fun pins s σ H v w Q I r q => h.run pins s σ H v w Q I r (f v σ H Q q)⟩
theorem imp_gs {X : Cx} {x : List Expr} {t u : TGs} (h : PGs X x t) (f : ∀ v σ H Q, u v σ H Q → t v σ H Q) : PGs X x u := ⟨fun pins s σ H v w Q I r q => h.run pins s σ H v w Q I r (f v σ H Q q)⟩
abbrev SG (X : Cx) (t : Tg) (x : Expr) : Prop := PG X x (tG X.K t)
abbrev SGs (X : Cx) (is : List Nat) (xs : List Expr) : Prop := PGs X xs (tGs X.K is)
section
variable {C : Nat → List D → Option D} {X : Cx} {a b c : E} {x y z : Expr} {pos p pos1 : Pos} {n : Str} {i : Nat}
theorem sg_nm (G : Gd X) (hi : X.N[i]? = some n := by rfl) (hx : Loc X.env.scope n := by first | exact .inl rfl | exact .inr rfl) (hf : X.fn n = true ∨ X.env.scope.names.lookup n = some .local := by first | exact .inl rfl | exact .inr rfl) : SG X (.nm i) (.Name n pos) :=
  imp_g (pg_name G.nd hi hx hf) fun v σ H Q ⟨B0, H0, B, env, o, d, env', R, r, hb, q⟩ => by
    cases (show some (env.set i (.val d .frz)) = some env' from hb)
    refine q _ _ (R.put r) ⟨by rw [List.length_set], fun j hj => ?_⟩
    rw [List.getElem?_set, if_neg]
    intro e
    subst e
    exact hj (by simp [Tg.slots])
theorem sgs_nil : SGs X [] [] := imp_gs pgs_nil fun vs σ H Q ⟨B0, H0, B, env, o, ds, env', R, r, hb, q⟩ => by
  cases ds with
  | cons d ds => cases hb
  | nil =>
    cases hb
    exact ⟨r.nil_of, q _ _ R ⟨rfl, fun _ _ => rfl⟩⟩
theorem sgs_cons {is : List Nat} {xs : List Expr} (G : Gd X) (hr : SGs X is xs) (hi : X.N[i]? = some n := by rfl) (hx : Loc X.env.scope n := by first | exact .inl rfl | exact .inr rfl)
    (hf : X.fn n = true ∨ X.env.scope.names.lookup n = some .local := by first | exact .inl rfl | exact .inr rfl) (hs : (assignEach (.Name n pos :: xs) X.env).map (·.2) = assign (.Name n pos) X.env :: (assignEach xs X.env).map (·.2) := by rfl) : SGs X (i :: is) (.Name n pos :: xs) :=
  imp_gs (pgs_cons (pg_name G.nd hi hx hf) hr hs) fun vs σ H Q ⟨B0, H0, B, env, o, ds, env', R, r, hb, q⟩ => by
    cases ds with
    | nil => cases hb
    | cons d ds =>
      obtain ⟨v, w, rfl, h1, h2⟩ := r.cons_of
      refine ⟨v, w, rfl, B0, H0, B, _, _, ds, env', R.put h1, h2, hb, fun σ' o' R' h => q σ' o' R' ⟨by rw [h.1, List.length_set], fun j hj => ?_⟩⟩
      rw [h.2 j fun z => hj (List.mem_cons_of_mem _ z), List.getElem?_set, if_neg]
      intro e
      subst e
      exact hj (List.mem_cons_self ..)
theorem setSlots_length : ∀ {is : List Nat} {ds : List D} {env env' : Env}, setSlots is ds env = some env' → ds.length = is.length
  | [], [], _, _, _ => rfl
  | _ :: is, _ :: ds, env, env', h => by rw [List.length_cons, List.length_cons, setSlots_length (env := env.set _ _) h]
  | [], _ :: _, _, _, h => nomatch h
  | _ :: _, [], _, _, h => nomatch h
theorem sg_tp {is : List Nat} {xs : List Expr} {kk : Nat} (G : Gd X) (h : SGs X is xs) (hn : (assignEach xs X.env).length = is.length := by rfl) (hst : (assignEach xs X.env).findIdx? (·.1) = none := by rfl) : SG X (.tp is) (.Tuple xs kk pos) :=
  imp_g (pg_tup G.calm h hn hst) fun v σ H Q ⟨B0, H0, B, env, o, d, env', R, r, hb, q⟩ => by
    cases d with
    | tup ds =>
      obtain ⟨a, vs, rfl, h1, h2⟩ := rep_tup r
      have hb' : setSlots is ds env = some env' := hb
      exact ⟨a, vs, rfl, SqT.of (R.bh.at h1 nt_tup), by rw [h2.length, setSlots_length hb'], B0, H0, B, env, o, ds, env', R, h2, hb', q⟩
    | _ => cases hb

/-! ### what a for walks -/
structure ItOk (K : PySem.W.Frag) (B1 G : Hp) (xs : List D) (J : L2.It) : Prop where
  go : ∀ i H, i < xs.length → Ext G H → J.go i H
  yl : ∀ i H x H' Bc d, xs[i]? = some d → Ext B1 Bc → Ext Bc H → Ext G H → J.yld i H x H' → ∃ Bn, Step Bc H Bn H' ∧ Rep K Bn d x
  st : ∀ i H, i = xs.length → Ext G H → J.stop i H
def tI (C : Nat → List D → Option D) (K : PySem.W.Frag) (it : Hg.It) : TI := fun σ H R => ∃ B0 H0 B env o xs own, Rel K B0 H0 B env σ H o ∧ evI C it env = some (xs, own) ∧
  ∀ B' H' J G, Step B H B' H' → Ext G H' → (own = false → ∀ Hx, Ext B' Hx → Ext H0 Hx → Ext G Hx) → ItOk K B' G xs J → R J H'
theorem imp_i {X : Cx} {tg x : Expr} {t u : TI} (h : PI X tg x t) (f : ∀ σ H R, u σ H R → t σ H R) : PI X tg x u := ⟨fun pins s σ H R I q => h.run pins s σ H R I (f σ H R q)⟩
abbrev SI (C : Nat → List D → Option D) (X : Cx) (tg : Expr) (it : Hg.It) (x : Expr) : Prop := PI X tg x (tI C X.K it)
theorem step_same {K : PySem.W.Frag} {B1 Bc H : Hp} {d : D} {x : V} (e : Ext Bc H) (r : Rep K Bc d x) : ∃ Bn, Step Bc H Bn H ∧ Rep K Bn d x := ⟨Bc, Step.refl e, r⟩
theorem it_rng {K : PySem.W.Frag} {B1 G : Hp} {lo : Int} {n : Nat} : ItOk K B1 G (rngD lo n) (Itr lo n) where
  go := fun i H hi _ => by simpa [rngD, Itr] using hi
  yl := fun i H x H' Bc d hd e1 e2 e3 hy => by
    obtain ⟨rfl, rfl⟩ := hy
    refine ⟨Bc, Step.refl e2, ?_⟩
    have h : i < n := by
      have := (List.getElem?_eq_some_iff.mp hd).1
      simpa [rngD] using this
    have hd' : d = .int (lo + (i : Nat)) := by
      simp [rngD, List.getElem?_map, List.getElem?_range h] at hd
      exact hd.symm
    rw [hd']
    exact int_rep
  st := fun i H hi _ => by
    show n ≤ i
    rw [hi]; simp [rngD]
theorem si_rng1 {tg : Expr} (G : Gd X) (ha : SE C X a x) (hg : Gl X ("range" : Str) := by rfl) (hs : starEach [x] X.env = [(false, eval x X.env)] := by rfl) : SI C X tg (.rng1 a) (.Call (.Name ("range" : Str) p) [x] [] pos) :=
  imp_i (pi_range1 hg G.range (pa_cons ha pa_nil hs) hs) fun σ H Rr ⟨B0, H0, B, env, o, xs, own, R, he, q⟩ => by
    obtain ⟨d, h1, h2⟩ := bind1_some (show ((bm (ev C a env)).bind fun x => (asInt x).bind fun n => if -1000000 ≤ n ∧ n ≤ 1000000 then some (rngD 0 n.toNat, false) else none) = some (xs, own) from he)
    obtain ⟨m, h2, h3⟩ := bind1_some h2
    obtain rfl := asInt_some h2
    obtain ⟨⟨b1, b2⟩, h4⟩ := if_some h3
    cases h4
    exact use_b R h1 fun B' H' u s ru => ⟨m, by rw [rep_int ru], by omega, by omega, q B' H' _ B' s s.bh (fun _ Hx e _ => e) it_rng⟩
theorem si_rng2 {tg : Expr} (G : Gd X) (ha : SE C X a x) (hb : SE C X b y) (hg : Gl X ("range" : Str) := by rfl) (hs : starEach [x, y] X.env = [(false, eval x X.env), (false, eval y X.env)] := by rfl) (hs2 : starEach [y] X.env = [(false, eval y X.env)] := by rfl) :
    SI C X tg (.rng2 a b) (.Call (.Name ("range" : Str) p) [x, y] [] pos) :=
  imp_i (pi_range2 hg G.range (pa_cons ha (pa_cons hb pa_nil hs2) (by rw [hs, hs2])) hs hs2) fun σ H Rr ⟨B0, H0, B, env, o, xs, own, R, he, q⟩ => by
    obtain ⟨dx, dy, h1, h2, h3⟩ := bind2_some (show ((bm (ev C a env)).bind fun x => (bm (ev C b env)).bind fun y => (asInt x).bind fun m => (asInt y).bind fun n =>
      if -1000000 ≤ m ∧ m ≤ 1000000 ∧ -1000000 ≤ n ∧ n ≤ 1000000 then some (rngD m (n - m).toNat, false) else none) = some (xs, own) from he)
    obtain ⟨m, n, h4, h5, h6⟩ := bind2_some h3
    obtain rfl := asInt_some h4
    obtain rfl := asInt_some h5
    obtain ⟨⟨b1, b2, b3, b4⟩, h7⟩ := if_some h6
    cases h7
    exact two_b R h1 h2 fun B' H' u v s ru rv => ⟨m, n, by rw [rep_int ru, rep_int rv], ⟨by omega, by omega, by omega, by omega⟩, q B' H' _ B' s s.bh (fun _ Hx e _ => e) it_rng⟩
/-- a list that stands still; it is known at G, its items at B1 -/
theorem it_list {K : PySem.W.Frag} {B1 G : Hp} {p : Addr} {ds : List D} {vs : List V} (h : SqL K G p vs) (r : Reps K B1 ds vs) : ItOk K B1 G ds (Itl K p) where
  go := fun i H hi e => by
    have hi' : i < vs.length := by rw [r.length]; exact hi
    exact ⟨vs, vs[i], e.sq h, List.getElem?_eq_getElem hi'⟩
  yl := fun i H x H' Bc d hd e1 e2 e3 hy => by
    obtain ⟨rfl, hy⟩ := hy
    obtain ⟨v, h1, h2⟩ := r.get hd
    have h3 := hy vs (e3.sq h)
    rw [h1] at h3
    cases h3
    exact ⟨Bc, Step.refl e2, Rep.mono e1 _ _ h2⟩
  st := fun i H hi e => ⟨vs, e.sq h, by rw [r.length, hi]; exact Nat.le_refl _⟩
theorem it_rev {K : PySem.W.Frag} {B1 G : Hp} {p : Addr} {ds : List D} {vs : List V} (h : SqL K G p vs) (r : Reps K B1 ds vs) : ItOk K B1 G ds.reverse (Itv K p vs.length) where
  go := fun i H hi e => by
    have hi' : i < vs.length := by rw [r.length]; simpa using hi
    exact ⟨hi', vs, vs[vs.length - 1 - i], e.sq h, List.getElem?_eq_getElem (by omega)⟩
  yl := fun i H x H' Bc d hd e1 e2 e3 hy => by
    obtain ⟨rfl, hy⟩ := hy
    obtain ⟨v, h1, h2⟩ := r.reverse.get hd
    have h3 := hy vs (e3.sq h)
    have hi : i < vs.length := by
      have := (List.getElem?_eq_some_iff.mp h1).1
      simpa using this
    rw [List.getElem?_reverse hi, h3] at h1
    cases h1
    exact ⟨Bc, Step.refl e2, Rep.mono e1 _ _ h2⟩
  st := fun i H hi e => by
    show vs.length ≤ i
    rw [hi, r.length]; simp
theorem enumFrom_get : ∀ (xs : List D) (n i : Nat) {d : D}, (enumFrom n xs)[i]? = some d → ∃ x, xs[i]? = some x ∧ d = .tup [.int ((n + i : Nat) : Int), x]
  | [], n, i, d, h => by simp [enumFrom] at h
  | x :: xs, n, 0, d, h => by
    have h' : D.tup [.int n, x] = d := by simpa [enumFrom] using h
    exact ⟨x, rfl, by rw [← h']; rfl⟩
  | x :: xs, n, i + 1, d, h => by
    obtain ⟨y, h1, h2⟩ := enumFrom_get xs (n + 1) i (d := d) (by simpa [enumFrom] using h)
    exact ⟨y, by simpa using h1, by rw [h2]; congr 3; omega⟩
theorem enumFrom_length : ∀ (xs : List D) (n : Nat), (enumFrom n xs).length = xs.length
  | [], _ => rfl
  | x :: xs, n => by rw [enumFrom, List.length_cons, List.length_cons, enumFrom_length xs]
theorem it_enum {K : PySem.W.Frag} {B1 G : Hp} {p : Addr} {ds : List D} {vs : List V} (h : SqL K G p vs) (r : Reps K B1 ds vs) : ItOk K B1 G (enumFrom 0 ds) (Ite K p) where
  go := fun i H hi e => by
    have hi' : i < vs.length := by rw [r.length]; rw [enumFrom_length] at hi; exact hi
    exact ⟨vs, vs[i], e.sq h, List.getElem?_eq_getElem hi'⟩
  yl := fun i H x H' Bc d hd e1 e2 e3 hy => by
    obtain ⟨T, w, rfl, hT, rfl, hy⟩ := hy
    obtain ⟨d', h1, rfl⟩ := enumFrom_get ds 0 i hd
    obtain ⟨v, h2, h3⟩ := r.get h1
    have h4 := hy vs (e3.sq h)
    rw [h2] at h4
    cases h4
    refine ⟨upd Bc T (.tup [.int (i : Nat), w]), Step.new e2 hT, tup_rep upd_same ?_⟩
    have e4 : Ext Bc (upd Bc T (.tup [.int (i : Nat), w])) := Ext.new (e2.back hT)
    rw [show ((0 + i : Nat) : Int) = ((i : Nat) : Int) by omega]
    exact reps_cons int_rep (reps_cons (Rep.mono (e1.trans e4) _ _ h3) reps_nil)
  st := fun i H hi e => ⟨vs, e.sq h, by rw [r.length, hi, enumFrom_length]; exact Nat.le_refl _⟩
theorem it_str {K : PySem.W.Frag} {B1 G : Hp} {s : List Nat} : ItOk K B1 G (s.map fun c => .str [c]) (Its (sv s)) where
  go := fun i H hi e => by
    show i < s.toArray.size
    simpa using hi
  yl := fun i H x H' Bc d hd e1 e2 e3 hy => by
    obtain ⟨rfl, ch, h1, rfl⟩ := hy
    refine ⟨Bc, Step.refl e2, ?_⟩
    have h2 : s[i]? = some ch := by simpa [sv] using h1
    rw [List.getElem?_map, h2] at hd
    cases hd
    exact str_rep
  st := fun i H hi e => by
    show s.toArray.size ≤ i
    rw [hi]; simp
/-- how a walked list comes: (frozen | new) given up, one's own, lent -/
theorem src_ok {K : PySem.W.Frag} {B0 H0 B H B' H' : Hp} {env : Env} {σ : L2.St} {o : Addr → Option Nat} {k : Kd} {ds : List D} {v : V} {F : List Addr} (R : Rel K B0 H0 B env σ H o) (s : Step B H B' H') (r : ROk K H0 B' H' k (.lst ds) v F) (f : FrF H B' F)
    (hk : k ≠ .own2) (hl : k = .lent → ds.all D.atom = true) :
    ∃ p vs B2 G, v = .ref p ∧ Step B H B2 H' ∧ SqL K H' p vs ∧ SqL K G p vs ∧ Reps K B2 ds vs ∧ Ext G H' ∧ (decide (k = .own1) = false → ∀ Hx, Ext B2 Hx → Ext H0 Hx → Ext G Hx) := by
  rcases kd_split k with hk' | rfl | rfl | rfl
  · obtain ⟨B2, s2, r2⟩ := give_rep s hk' r f
    obtain ⟨p, vs, rfl, q1, q2⟩ := rep_lst r2
    exact ⟨p, vs, B2, B2, rfl, s2, s2.bh.sq q1, q1, q2, s2.bh, fun _ Hx e _ => e⟩
  · obtain ⟨_, G, a', rfl, rfl, z⟩ := r
    rcases z with ⟨vs, ds', z, q1, q2⟩ | ⟨_, _, z, _⟩
    · cases z
      exact ⟨a', vs, B', H', rfl, s, SqL.of q1, SqL.of q1, q2, Ext.refl _, fun z => by simp at z⟩
    · cases z
  · exact absurd rfl hk
  · obtain ⟨p, vs, rfl, q1, q2⟩ := rep_lst r.2
    have q3 : Reps K B' ds vs := by
      have h := hl rfl
      clear hl r f
      induction ds generalizing vs with
      | nil => rw [q2.nil_of]; exact reps_nil
      | cons d ds ih =>
        obtain ⟨w, rr, rfl, h1, h2⟩ := q2.cons_of
        rw [List.all_cons, Bool.and_eq_true] at h
        refine reps_cons (Rep.atom h.1 h1) ?_
        have : ∀ (vs : List V) (ds : List D), ds.all D.atom = true → Reps K H0 ds vs → Reps K B' ds vs := by
          intro vs ds
          induction ds generalizing vs with
          | nil => intro _ r; rw [r.nil_of]; exact reps_nil
          | cons d ds ih =>
            intro h r
            obtain ⟨w, rr, rfl, h1, h2⟩ := r.cons_of
            rw [List.all_cons, Bool.and_eq_true] at h
            exact reps_cons (Rep.atom h.1 h1) (ih rr h.2 h2)
        exact this rr ds h.2 h2
    exact ⟨p, vs, B', H0, rfl, s, (R.h0.trans s.hh).sq q1, q1, q3, R.h0.trans s.hh, fun _ Hx _ e => e⟩
theorem si_lst {tg : Expr} (ha : SE C X a x) : SI C X tg (.lst a) x := by
  have h1 : PI X tg x (iList X.K (tE C X.K a)) := pi_list ha
  have h2 : PI X tg x (iStr (tE C X.K a)) := pi_str ha
  have h3 : PI X tg x (iTup X.K (tE C X.K a)) := pi_tup ha
  refine ⟨fun pins s σ H Rr I q => ?_⟩
  obtain ⟨B0, H0, B, env, o, xs, own, R, he, q⟩ := q
  obtain ⟨⟨d, k⟩, e1, e2⟩ := bind1_some (show ((ev C a env).bind fun p => match p.1 with
      | .lst xs => if p.2 = .own2 then none else if p.2 = .lent then (if xs.all D.atom then some (xs, false) else none) else some (xs, decide (p.2 = .own1))
      | .tup xs => if p.2 = .frz then some (xs, false) else none
      | .str s => some (s.map fun c => .str [c], false)
      | _ => none) = some (xs, own) from he)
  cases d with
  | lst ds =>
    refine h1.run pins s σ H Rr I ⟨B0, H0, B, env, o, .lst ds, k, R, e1, fun B' H' v F st r f => ?_⟩
    have e3 : k ≠ .own2 ∧ (k = .lent → ds.all D.atom = true) ∧ xs = ds ∧ own = decide (k = .own1) := by
      simp only at e2
      by_cases z : k = .own2
      · rw [if_pos z] at e2; cases e2
      · rw [if_neg z] at e2
        by_cases z2 : k = .lent
        · rw [if_pos z2] at e2
          obtain ⟨e4, e5⟩ := if_some e2
          cases e5
          exact ⟨z, fun _ => e4, rfl, by rw [z2]; rfl⟩
        · rw [if_neg z2] at e2
          cases e2
          exact ⟨z, fun w => absurd w z2, rfl, rfl⟩
    obtain ⟨e4, e5, rfl, rfl⟩ := e3
    obtain ⟨p, vs, B2, G, rfl, s2, q1, q2, q3, q4, q5⟩ := src_ok R st r f e4 e5
    exact ⟨p, rfl, ⟨vs, q1⟩, q B2 H' _ G s2 q4 q5 (it_list q2 q3)⟩
  | tup ds =>
    refine h3.run pins s σ H Rr I ⟨B0, H0, B, env, o, .tup ds, k, R, e1, fun B' H' v F st r f => ?_⟩
    obtain ⟨e3, e4⟩ := if_some e2
    cases e4
    simp only at e3
    subst e3
    obtain ⟨p, vs, rfl, q1, q2⟩ := rep_tup r.2
    refine ⟨p, rfl, ⟨vs, SqT.of (st.bh.at q1 nt_tup)⟩, q B' H' _ B' st st.bh (fun _ Hx e _ => e) ⟨fun i H hi e => ?_, fun i H x H2 Bc d hd e1 e2 e3 hy => ?_, fun i H hi e => ?_⟩⟩
    · have hi' : i < vs.length := by rw [q2.length]; exact hi
      exact ⟨vs, vs[i], SqT.of (e.at q1 nt_tup), List.getElem?_eq_getElem hi'⟩
    · obtain ⟨rfl, hy⟩ := hy
      obtain ⟨w, h5, h6⟩ := q2.get hd
      have h7 := hy vs (SqT.of (e3.at q1 nt_tup))
      rw [h5] at h7
      cases h7
      exact ⟨Bc, Step.refl e2, Rep.mono e1 _ _ h6⟩
    · exact ⟨vs, SqT.of (e.at q1 nt_tup), by rw [q2.length, hi]; exact Nat.le_refl _⟩
  | str t =>
    refine h2.run pins s σ H Rr I ⟨B0, H0, B, env, o, .str t, k, R, e1, fun B' H' v F st r f => ?_⟩
    cases e2
    exact ⟨sv t, rep_str (r.rep st.bh (R.h0.trans st.hh)), q B' H' _ B' st st.bh (fun _ Hx e _ => e) it_str⟩
  | non => cases e2
  | bl _ => cases e2
  | int _ => cases e2
  | dic _ => cases e2
theorem two_ifs {k : Kd} {α : Type} {p q : α} (h : (if k = .own2 ∨ k = .lent then none else some p) = some q) : k ≠ .own2 ∧ k ≠ .lent ∧ p = q := by
  by_cases z : k = .own2 ∨ k = .lent
  · rw [if_pos z] at h; cases h
  · rw [if_neg z] at h
    exact ⟨fun w => z (.inl w), fun w => z (.inr w), Option.some.inj h⟩
theorem si_enum {es : List Expr} {kk : Nat} {tp : Pos} (G : Gd X) (ha : SE C X a x) (hg : Gl X ("enumerate" : Str) := by rfl) (hs : starEach [x] X.env = [(false, eval x X.env)] := by rfl) : SI C X (.Tuple es kk tp) (.enum a) (.Call (.Name ("enumerate" : Str) p) [x] [] pos) :=
  imp_i (pi_enum hg G.enum (pa_cons ha pa_nil hs) hs) fun σ H Rr ⟨B0, H0, B, env, o, xs, own, R, he, q⟩ => by
    obtain ⟨⟨d, k⟩, e1, e2⟩ := bind1_some (show ((ev C a env).bind fun p => match p.1 with
      | .lst xs => if p.2 = .own2 ∨ p.2 = .lent then none else some (enumFrom 0 xs, decide (p.2 = .own1))
      | _ => none) = some (xs, own) from he)
    refine ⟨B0, H0, B, env, o, d, k, R, e1, fun B' H' v F st r f => ?_⟩
    cases d <;> simp only [reduceCtorEq] at e2
    obtain ⟨e4, e5, e6⟩ := two_ifs e2
    cases e6
    obtain ⟨p, vs, B2, G, rfl, s2, q1, q2, q3, q4, q5⟩ := src_ok R st r f e4 fun z => absurd z e5
    exact ⟨p, vs, rfl, q1, q B2 H' _ G s2 q4 q5 (it_enum q2 q3)⟩
theorem si_rev {tg : Expr} (G : Gd X) (ha : SE C X a x) (hg : Gl X ("reversed" : Str) := by rfl) (hs : starEach [x] X.env = [(false, eval x X.env)] := by rfl) : SI C X tg (.rev a) (.Call (.Name ("reversed" : Str) p) [x] [] pos) :=
  imp_i (pi_reversed hg G.rev (pa_cons ha pa_nil hs) hs) fun σ H Rr ⟨B0, H0, B, env, o, xs, own, R, he, q⟩ => by
    obtain ⟨⟨d, k⟩, e1, e2⟩ := bind1_some (show ((ev C a env).bind fun p => match p.1 with
      | .lst xs => if p.2 = .own2 ∨ p.2 = .lent then none else some (xs.reverse, decide (p.2 = .own1))
      | _ => none) = some (xs, own) from he)
    refine ⟨B0, H0, B, env, o, d, k, R, e1, fun B' H' v F st r f => ?_⟩
    cases d <;> simp only [reduceCtorEq] at e2
    obtain ⟨e4, e5, e6⟩ := two_ifs e2
    cases e6
    obtain ⟨p, vs, B2, G, rfl, s2, q1, q2, q3, q4, q5⟩ := src_ok R st r f e4 fun z => absurd z e5
    exact ⟨p, vs, rfl, q1, q B2 H' _ G s2 q4 q5 (it_rev q2 q3)⟩
end
end Hg
end

section
set_option Elab.async false
set_option maxRecDepth 100000
set_option autoImplicit false
set_option maxHeartbeats 4000000
/-! Snd6: comprehensions; calls. -/
namespace Hg
open PySem PySem.Spec PyProof.Rows L2
variable [TB : Tabl]

theorem Gd.blk {X : Cx} (G : Gd X) {s : Shared} {H : Hp} {scope : Scope} {env : PySem.Env} {fp : List Addr} : Gd (X.blk s H scope env fp) :=
  ⟨G.calm, G.nd, G.un, G.len, G.range, G.sorted, G.min, G.max, G.sum, G.isi, G.list, G.tuple, G.dict, G.int, G.str, G.bool, G.set, G.enum, G.rev, G.zip⟩

/-! ### forgotten slots -/
theorem unset_length : ∀ (is : List Nat) (env : Hg.Env), (unset is env).length = env.length
  | [], env => rfl
  | i :: is, env => by
    show (unset is (env.set i .un)).length = _
    rw [unset_length is, List.length_set]
theorem unset_val : ∀ {is : List Nat} {env : Hg.Env} {j : Nat} {d : D} {k : Kd}, (unset is env)[j]? = some (.val d k) → j ∉ is ∧ env[j]? = some (.val d k)
  | [], env, j, d, k, h => ⟨by simp, h⟩
  | i :: is, env, j, d, k, h => by
    obtain ⟨h1, h2⟩ := unset_val (is := is) (env := env.set i .un) h
    rw [List.getElem?_set] at h2
    by_cases hj : i = j
    · subst hj
      rw [if_pos rfl] at h2
      by_cases hl : i < env.length
      · rw [if_pos hl] at h2; cases h2
      · rw [if_neg hl] at h2; cases h2
    · rw [if_neg hj] at h2
      refine ⟨fun z => ?_, h2⟩
      rcases List.mem_cons.mp z with z | z
      · exact hj z.symm
      · exact h1 z
theorem wipe_len (σ : L2.St) (vs : List Nat) : (wipe σ vs).length = σ.length := wipe_length σ vs
theorem wipe_get (σ : L2.St) : ∀ (vs : List Nat) (j : Nat), (wipe σ vs)[j]? = if j ∈ vs then (if j < σ.length then some none else none) else σ[j]?
  | [], j => by simp [wipe]
  | v :: vs, j => by
    show ((wipe σ vs).set v none)[j]? = _
    rw [List.getElem?_set, wipe_len]
    by_cases hj : v = j
    · subst hj
      rw [if_pos rfl, if_pos (List.mem_cons_self ..)]
    · rw [if_neg hj, wipe_get σ vs j]
      by_cases h : j ∈ vs
      · rw [if_pos h, if_pos (List.mem_cons_of_mem _ h)]
      · rw [if_neg h, if_neg]
        intro z
        rcases List.mem_cons.mp z with z | z
        · exact hj z.symm
        · exact h z
theorem wipe_kept {σ σ2 : L2.St} {vs : List Nat} (h : Kept vs (wipe σ vs) σ2) : wipe σ2 vs = wipe σ vs := by
  apply List.ext_getElem?
  intro j
  have hl : σ2.length = σ.length := by rw [h.1, wipe_len]
  rw [wipe_get, wipe_get, hl]
  by_cases hj : j ∈ vs
  · rw [if_pos hj, if_pos hj]
  · rw [if_neg hj, if_neg hj, h.2 j hj, wipe_get, if_neg hj]
section
variable {K : PySem.W.Frag} {B0 H0 B H : Hp} {env : Hg.Env} {σ : L2.St} {o : Addr → Option Nat}
theorem Rel.unset (R : Rel K B0 H0 B env σ H o) (is : List Nat) : Rel K B0 H0 B (unset is env) σ H o where
  b0 := R.b0
  h0 := R.h0
  bh := R.bh
  tt := R.tt
  gr := R.gr
  len := by rw [unset_length]; exact R.len
  sl := fun i d k h => R.sl i d k (unset_val h).2
  fr := R.fr
  nc := R.nc
theorem Rel.wiped (R : Rel K B0 H0 B env σ H o) (is : List Nat) : Rel K B0 H0 B (Hg.unset is env) (wipe σ is) H o where
  b0 := R.b0
  h0 := R.h0
  bh := R.bh
  tt := R.tt
  gr := R.gr
  len := by rw [unset_length, wipe_len]; exact R.len
  sl := fun i d k h => by
    obtain ⟨h1, h2⟩ := unset_val h
    obtain ⟨v, F, q1, q2, q3, q4⟩ := R.sl i d k h2
    exact ⟨v, F, by rw [wipe_get, if_neg h1]; exact q1, q2, q3, q4⟩
  fr := R.fr
  nc := R.nc
end
theorem Step.none {B H B' H' : Hp} {a : Addr} (s : Step B H B' H') (h : B a = none) (h' : H a ≠ none) : B' a = none := by
  cases q : B' a with
  | none => rfl
  | some u => exact ((s.nw a (by rw [q]; exact fun z => nomatch z)).elim (fun z => z h) fun z => h' z).elim
theorem optAll_length {α β : Type} {f : α → Option β} : ∀ {xs : List α} {ys : List β}, optAll f xs = some ys → ys.length = xs.length
  | [], ys, h => by cases h; rfl
  | x :: xs, ys, h => by
    simp only [optAll, Option.bind_eq_some_iff] at h
    obtain ⟨y, _, zs, h2, h3⟩ := h
    cases h3
    rw [List.length_cons, List.length_cons, optAll_length h2]
theorem optAll_get {α β : Type} {f : α → Option β} : ∀ {xs : List α} {ys : List β} {i : Nat} {x : α}, optAll f xs = some ys → xs[i]? = some x → ∃ y, ys[i]? = some y ∧ f x = some y
  | [], ys, i, x, _, e => by simp at e
  | x' :: xs, ys, i, x, h, e => by
    simp only [optAll, Option.bind_eq_some_iff] at h
    obtain ⟨y, h1, zs, h2, h3⟩ := h
    cases h3
    cases i with
    | zero =>
      have e' : x' = x := by simpa using e
      subst e'
      exact ⟨y, rfl, h1⟩
    | succ i =>
      obtain ⟨w, q1, q2⟩ := optAll_get h2 (i := i) (x := x) (by simpa using e)
      exact ⟨w, by simpa using q1, q2⟩
theorem OwnL.snoc {P : V → D → List Addr → Prop} {v : V} {d : D} {G : List Addr} (h : P v d G) : ∀ {vs : List V} {ds : List D} {F : List Addr}, OwnL P vs ds F → OwnL P (vs ++ [v]) (ds ++ [d]) (F ++ G)
  | [], [], F, q => by
    have q' : F = [] := q
    subst q'
    exact ⟨G, [], by simp, h, rfl⟩
  | w :: vs, e :: ds, F, q => by
    obtain ⟨F1, F2, rfl, q1, q2⟩ := q
    exact ⟨F1, F2 ++ G, by simp, q1, q2.snoc h⟩
  | [], _ :: _, F, q => q.elim
  | _ :: _, [], F, q => q.elim

/-! ### comprehensions -/
/-- the list so far: n of what ps gives -/
def Acc (K : PySem.W.Frag) (deep : Bool) (H1 Bc Hc : Hp) (Dl : Addr) (ps : List (D × Kd)) (dsA : List D) (n : Nat) (acc : List V) : Prop :=
  if deep = true then ∃ F, OwnL (Own1 K Bc Hc) acc (dsA.take n) F ∧ F.Nodup ∧ ∀ a ∈ F, H1 a = none ∧ Bc a = none ∧ a ≠ Dl else Reps K Bc (dsA.take n) acc
theorem Acc.length {K : PySem.W.Frag} {deep : Bool} {H1 Bc Hc : Hp} {Dl : Addr} {ps : List (D × Kd)} {dsA : List D} {n : Nat} {acc : List V} (h : Acc K deep H1 Bc Hc Dl ps dsA n acc) : acc.length ≤ dsA.length := by
  unfold Acc at h
  by_cases hd : deep = true
  · rw [if_pos hd] at h
    obtain ⟨F, h, _⟩ := h
    rw [h.length, List.length_take]
    exact Nat.min_le_right _ _
  · rw [if_neg hd] at h
    rw [h.length, List.length_take]
    exact Nat.min_le_right _ _
theorem Acc.step {K : PySem.W.Frag} {deep : Bool} {H1 Bc Hc B' H' : Hp} {Dl : Addr} {ps : List (D × Kd)} {dsA : List D} {n : Nat} {acc : List V} (h : Acc K deep H1 Bc Hc Dl ps dsA n acc) (s : Step Bc Hc B' H') : Acc K deep H1 B' H' Dl ps dsA n acc := by
  unfold Acc at h ⊢
  by_cases hd : deep = true
  · rw [if_pos hd] at h ⊢
    obtain ⟨F, h1, h2, h3⟩ := h
    exact ⟨F, h1.mono s.bb s.hh, h2, fun a ha => ⟨(h3 a ha).1, s.none (h3 a ha).2.1 (h1.there a ha), (h3 a ha).2.2⟩⟩
  · rw [if_neg hd] at h ⊢
    exact Reps.mono s.bb _ _ h
section
variable {C : Nat → List D → Option D} {X : Cx} {elt : E} {ex tgx iter : Expr} {tg : Tg} {it : Hg.It} {cond : T} {pos : Pos} {ifs : List Expr} {scope : Scope} {own : List (Str × Nat)} {deep : Bool}
theorem lc_body {B0 H0 B H : Hp} {env : Hg.Env} {σ : L2.St} {o : Addr → Option Nat} {d : D} {k : Kd} {Q : VK} {xs : List D} {ps : List (D × Kd)} (R : Rel X.K B0 H0 B env σ H o)
    (h3 : compL (fun d => (bindT tg d (unset tg.slots env)).bind fun e1 => (evT C cond e1).bind fun p => if p then (ev C elt e1).map some else some none) xs = some ps) (h4 : compR deep ps = some (d, k)) (q : ∀ B' H' v F, Step B H B' H' → ROk X.K H0 B' H' k d v F → FrF H B' F → Q v H')
    {B1 H1 : Hp} {J : L2.It} {Gh : Hp} (s1 : Step B H B1 H1) (eG : Ext Gh H1) (hJ : ItOk X.K B1 Gh xs J) : tLc (fun _ H R => R J H) (tG X.K tg) (tT C X.K cond) (tE C X.K elt) tg.slots σ H1 Q := by
  show ∀ D, H1 D = none → _
  intro Dl hD
  -- what the list is in the end
  obtain ⟨dsA, hA1, hA2, hA3, hA4⟩ : ∃ dsA : List D, d = .lst dsA ∧ dsA.length = ps.length ∧ ps.length < L ∧ (if deep = true then k = .new2 ∧ dsA = ps.map (·.1) ∧ ps.all isNew1 = true else k = .new1 ∧ optAll keepD ps = some dsA) := by
    unfold compR at h4
    by_cases hl : ps.length < L
    · rw [if_pos hl] at h4
      by_cases hd : deep = true
      · rw [if_pos hd] at h4
        by_cases ha : ps.all isNew1 = true
        · rw [if_pos ha] at h4
          cases h4
          exact ⟨_, rfl, by simp, hl, by rw [if_pos hd]; exact ⟨rfl, rfl, ha⟩⟩
        · rw [if_neg ha] at h4
          cases h4
      · rw [if_neg hd, Option.map_eq_some_iff] at h4
        obtain ⟨ds, h5, h6⟩ := h4
        cases h6
        exact ⟨ds, rfl, optAll_length h5, hl, by rw [if_neg hd]; exact ⟨rfl, h5⟩⟩
    · rw [if_neg hl] at h4
      cases h4
  subst hA1
  refine ⟨fun i m Hc => ∃ Bc n rest acc, Step B1 H1 Bc Hc ∧ Bc Dl = none ∧ Hc Dl = some (.lst acc) ∧ m = xs.length - i ∧ i ≤ xs.length ∧
    compL (fun d => (bindT tg d (unset tg.slots env)).bind fun e1 => (evT C cond e1).bind fun p => if p then (ev C elt e1).map some else some none) (xs.drop i) = some rest ∧ ps.drop n = rest ∧ n ≤ ps.length ∧ Acc X.K deep H1 Bc Hc Dl ps dsA n acc,
    ⟨xs.length, B1, 0, ps, [], Step.own s1.bh hD, s1.bh.back hD, upd_same, by omega, Nat.zero_le _, h3, rfl, Nat.zero_le _, ?_⟩, ?_⟩
  · unfold Acc
    by_cases hd : deep = true
    · rw [if_pos hd]
      exact ⟨[], by simp [OwnL], List.nodup_nil, by simp⟩
    · rw [if_neg hd]
      simpa using reps_nil
  · rintro i m Hc ⟨Bc, n, rest, acc, sc, hb, hh, rfl, hi, hrest, hdrop, hn, hacc⟩
    have eGc : Ext Gh Hc := eG.trans sc.hh
    by_cases hlt : i < xs.length
    · refine .inr ⟨hJ.go i Hc hlt eGc, _, fun H' hN => ⟨xs.length - (i + 1), by omega, hN⟩, fun x H' hy => ?_⟩
      have hxi : xs[i]? = some xs[i] := List.getElem?_eq_getElem hlt
      obtain ⟨Bn, sn, rn⟩ := hJ.yl i Hc x H' Bc xs[i] hxi sc.bb sc.bh eGc hy
      rw [List.drop_eq_getElem_cons hlt] at hrest
      obtain ⟨ov, h5, h6⟩ := bind1_some hrest
      obtain ⟨rest', h7, h8⟩ := bind1_some h6
      obtain ⟨env1, h9, h10⟩ := bind1_some h5
      obtain ⟨b, h11, h12⟩ := bind1_some h10
      have Rw := ((R.wiped tg.slots).step s1).step (sc.trans sn)
      refine ⟨B0, H0, Bn, unset tg.slots env, o, xs[i], env1, Rw, rn, h9, fun σ2 o2 R2 hk => ⟨wipe_kept hk, ?_⟩⟩
      refine use_t R2 h11 fun B3 H3 s3 => ?_
      have sB := (sc.trans sn).trans s3
      have hb3 : B3 Dl = none := (sn.trans s3).none hb (by rw [hh]; exact fun z => nomatch z)
      have hh3 : H3 Dl = some (.lst acc) := s3.hh.at (sn.hh.at hh nt_lst) nt_lst
      cases b with
      | false =>
        cases h12
        have h8' : rest' = rest := Option.some.inj h8
        subst h8'
        exact ⟨B3, n, rest', acc, sB, hb3, hh3, rfl, hlt, h7, hdrop, hn, (hacc.step sn).step s3⟩
      | true =>
        have h12' : (ev C elt env1).map some = some ov := h12
        rw [Option.map_eq_some_iff] at h12'
        obtain ⟨⟨dv, kv⟩, h13, rfl⟩ := h12'
        have h8' : (dv, kv) :: rest' = rest := Option.some.inj h8
        subst h8'
        have hn' : n < ps.length := by
          rcases Nat.lt_or_ge n ps.length with z | z
          · exact z
          · rw [List.drop_of_length_le z] at hdrop
            cases hdrop
        have hpn : ps[n]? = some (dv, kv) := by
          rw [List.drop_eq_getElem_cons hn'] at hdrop
          rw [List.getElem?_eq_getElem hn']
          exact congrArg some (List.cons.inj hdrop).1
        have hdrop' : ps.drop (n + 1) = rest' := by
          rw [List.drop_eq_getElem_cons hn'] at hdrop
          exact (List.cons.inj hdrop).2
        show tE C X.K elt σ2 H3 _
        refine ⟨B0, H0, B3, env1, o2, dv, kv, R2.step s3, h13, fun B4 H4 v F s4 r4 f4 => ?_⟩
        have hacc4 := ((hacc.step sn).step s3).step s4
        have hh4 : H4 Dl = some (.lst acc) := s4.hh.at hh3 nt_lst
        have hb4 : B4 Dl = none := s4.none hb3 (by rw [hh3]; exact fun z => nomatch z)
        refine ⟨acc, hh4, Nat.lt_of_le_of_lt hacc.length (by rw [hA2]; exact sizeLt hA3), ?_⟩
        have up : Ext H4 (upd H4 Dl (.lst (acc ++ [v]))) → True := fun _ => trivial
        by_cases hd : deep = true
        · rw [if_pos hd] at hA4
          obtain ⟨_, hA5, hA6⟩ := hA4
          have hkv : kv = .new1 := by
            have := List.all_eq_true.mp hA6 (dv, kv) (List.mem_of_getElem? hpn)
            exact of_decide_eq_true this
          subst hkv
          have hacc3 := (hacc.step sn).step s3
          unfold Acc at hacc3
          rw [if_pos hd] at hacc3
          obtain ⟨F0, c1, a2, c3⟩ := hacc3
          have hF0 : ∀ a ∈ F0, H3 a ≠ none := c1.there
          have a1 := c1.mono s4.bb s4.hh
          have a3 : ∀ a ∈ F0, H1 a = none ∧ B4 a = none ∧ a ≠ Dl := fun a ha => ⟨(c3 a ha).1, s4.none (c3 a ha).2.1 (hF0 a ha), (c3 a ha).2.2⟩
          have hdn : dsA[n]? = some dv := by rw [hA5, List.getElem?_map, hpn]; rfl
          have hFD : ∀ a ∈ F, a ≠ Dl := fun a ha z => by
            have := f4.h a ha
            rw [z, hh3] at this
            cases this
          refine ⟨B4, n + 1, rest', acc ++ [v], ⟨(sB.trans s4).bb, (sB.trans s4).hh.upd hD (fun q => by rw [hh4]; exact code_lst), (sB.trans s4).bh.upd hb4 (fun q => by rw [hh4]; exact code_lst), (sB.trans s4).nw⟩, hb4, upd_same, rfl, hlt, h7, hdrop', hn', ?_⟩
          unfold Acc
          rw [if_pos hd]
          refine ⟨F0 ++ F, ?_, ?_, ?_⟩
          · rw [List.take_add_one, hdn]
            refine OwnL.snoc (Own1.keep r4 (Ext.refl _) fun a ha => upd_ne (hFD a ha)) (a1.keep (Ext.refl _) fun a ha => upd_ne (a3 a ha).2.2)
          · refine List.nodup_append.mpr ⟨a2, f4.nd, fun a ha b hb e => ?_⟩
            subst e
            exact hF0 a ha (f4.h a hb)
          · intro a ha
            rcases List.mem_append.mp ha with z | z
            · exact a3 a z
            · exact ⟨sB.hh.back (f4.h a z), f4.b a z, hFD a z⟩
        · rw [if_neg hd] at hA4
          obtain ⟨_, hA5⟩ := hA4
          obtain ⟨dp, e1, e2⟩ := optAll_get hA5 hpn
          unfold Acc at hacc4
          rw [if_neg hd] at hacc4
          -- given up
          obtain ⟨B5, s5, r5, hdp⟩ : ∃ B5, Step B3 H3 B5 H4 ∧ Rep X.K B5 dp v ∧ Ext B4 B5 := by
            have e2' : (if kv = .frz ∨ kv = .new1 ∨ kv = .new2 ∨ dv.atom = true then some dv else none) = some dp := e2
            obtain ⟨e3, rfl⟩ := if_some e2'
            by_cases ha : dv.atom = true
            · exact ⟨B4, s4, Rep.atom ha (r4.rep s4.bh ((R2.step s3).h0.trans s4.hh)), Ext.refl _⟩
            · rcases e3 with rfl | rfl | rfl | z
              · exact ⟨B4, s4, r4.2, Ext.refl _⟩
              · exact ⟨_, s4.give f4, Own1.give r4 f4.b fun a h => h, joinH_b f4.b⟩
              · exact ⟨_, s4.give f4, Own2.give r4 f4.b fun a h => h, joinH_b f4.b⟩
              · exact absurd z ha
          have hb5 : B5 Dl = none := s5.none hb3 (by rw [hh3]; exact fun z => nomatch z)
          refine ⟨B5, n + 1, rest', acc ++ [v], ⟨(sB.trans s5).bb, (sB.trans s5).hh.upd hD (fun q => by rw [hh4]; exact code_lst), (sB.trans s5).bh.upd hb5 (fun q => by rw [hh4]; exact code_lst), (sB.trans s5).nw⟩, hb5, upd_same, rfl, hlt, h7, hdrop', hn', ?_⟩
          unfold Acc
          rw [if_neg hd, List.take_add_one, e1]
          exact (Reps.mono hdp _ _ hacc4).append (reps_cons r5 reps_nil)
    · have hie : i = xs.length := by omega
      refine .inl ⟨hJ.st i Hc hie eGc, ?_⟩
      rw [hie, List.drop_length] at hrest
      have hr : rest = [] := (Option.some.inj hrest).symm
      subst hr
      have hne : n = ps.length := by
        have := congrArg List.length hdrop
        rw [List.length_drop] at this
        simp at this
        omega
      have htk : dsA.take n = dsA := List.take_of_length_le (by rw [hA2, hne]; exact Nat.le_refl _)
      unfold Acc at hacc
      rw [htk] at hacc
      have hDH : H Dl = none := s1.hh.back hD
      by_cases hd : deep = true
      · rw [if_pos hd] at hA4 hacc
        obtain ⟨rfl, _, _⟩ := hA4
        obtain ⟨F, a1, a2, a3⟩ := hacc
        refine q Bc Hc (.ref Dl) (Dl :: F) (s1.trans sc) (.inl ⟨Dl, F, acc, dsA, rfl, rfl, rfl, hh, a1⟩) ⟨List.nodup_cons.mpr ⟨fun z => (a3 Dl z).2.2 rfl, a2⟩, fun a ha => ?_, fun a ha => ?_⟩
        · rcases List.mem_cons.mp ha with rfl | z
          · exact hDH
          · exact s1.hh.back (a3 a z).1
        · rcases List.mem_cons.mp ha with rfl | z
          · exact hb
          · exact (a3 a z).2.1
      · rw [if_neg hd] at hA4 hacc
        obtain ⟨rfl, _⟩ := hA4
        exact q Bc Hc (.ref Dl) [Dl] (s1.trans sc) ⟨Dl, rfl, rfl, .inl ⟨acc, dsA, rfl, hh, hacc⟩⟩ (FrF.one hDH hb)

theorem lc_read (G : Gd X) (hown : own.map (·.2) = tg.slots) : ∀ σ H Q, tE C X.K (.comp deep elt tg it cond) σ H Q → tLc (tI C X.K it) (tG X.K tg) (tT C X.K cond) (tE C X.K elt) (own.map (·.2)) σ H Q := by
  intro σ H Q h
  obtain ⟨B0, H0, B, env, o, d, k, R, he, q⟩ := h
  rw [hown]
  obtain ⟨⟨xs, ow⟩, h1, h2⟩ := bind1_some (show ((evI C it (unset tg.slots env)).bind fun xs => (compL (fun d => (bindT tg d (unset tg.slots env)).bind fun e1 => (evT C cond e1).bind fun p => if p then (ev C elt e1).map some else some none) xs.1).bind (compR deep)) = some (d, k) from he)
  obtain ⟨ps, h3, h4⟩ := bind1_some h2
  exact ⟨B0, H0, B, unset tg.slots env, o, xs, ow, R.unset _, h1, fun B1 H1 J Gh s1 eG hG hJ => lc_body R h3 h4 q s1 eG hJ⟩

/-- a comprehension as a value -/
theorem se_comp (G : Gd X) (own : List (Str × Nat)) (hi : SI C X tgx it iter)
    (hg : ∀ (s : Shared) (H : Hp) (Cl : Addr) (cl : List (Str × Addr)) (fp : List Addr), SG (X.blk s H scope (compEnvC scope cl Cl X.env) fp) tg tgx)
    (ht : ∀ (s : Shared) (H : Hp) (Cl : Addr) (cl : List (Str × Addr)) (fp : List Addr), PTs (X.blk s H scope (compEnvC scope cl Cl X.env) fp) ifs (tT C X.K cond))
    (he : ∀ (s : Shared) (H : Hp) (Cl : Addr) (cl : List (Str × Addr)) (fp : List Addr), SE C (X.blk s H scope (compEnvC scope cl Cl X.env) fp) elt ex)
    (ok : BlkOk X.N X.env.scope scope own := by exact blkOk_by (by kernel_rfl)) (hown : own.map (·.2) = tg.slots := by rfl) (hs : ∀ x, foldedSetIterable iter X.env x = pure x := by intro _; rfl) : SE C X (.comp deep elt tg it cond) (.ListComp ex [⟨tgx, iter, ifs, 0⟩] scope pos) :=
  imp_e (pe_lc G.calm G.nd hi ok hg ht he hs) (lc_read G hown)
theorem sts_yes : PTs X [] (tT C X.K .yes) := ⟨fun pins s σ H Q I q => by
  obtain ⟨B0, H0, B, env, o, b, R, he, q⟩ := q
  cases (show some true = some b from he)
  exact pts_nil.run pins s σ H Q I (q B H (Step.refl R.bh))⟩
theorem sts_one {c : Expr} {t : T} (h : ST C X t c) : PTs X [c] (tT C X.K t) := pts_one h

/-! ### calls -/
/-- arguments: those at places that the callee is lent are only looked at -/
def RepM (K : PySem.W.Frag) (B H : Hp) : List Bool → List D → List V → Prop
  | _, [], vs => vs = []
  | m, d :: ds, vs => ∃ v r, vs = v :: r ∧ (if m.headD false then Rep K H d v else Rep K B d v) ∧ RepM K B H m.tail ds r
theorem RepM.mono {K : PySem.W.Frag} {B H B' H' : Hp} (e : Ext B B') (e' : Ext H H') : ∀ {m : List Bool} {ds : List D} {vs : List V}, RepM K B H m ds vs → RepM K B' H' m ds vs
  | _, [], vs, h => h
  | m, d :: ds, vs, h => by
    obtain ⟨v, r, rfl, h1, h2⟩ := h
    refine ⟨v, r, rfl, ?_, h2.mono e e'⟩
    by_cases hm : m.headD false = true
    · rw [if_pos hm] at h1 ⊢
      exact Rep.mono e' _ _ h1
    · rw [if_neg hm] at h1 ⊢
      exact Rep.mono e _ _ h1
theorem RepM.length {K : PySem.W.Frag} {B H : Hp} : ∀ {m : List Bool} {ds : List D} {vs : List V}, RepM K B H m ds vs → vs.length = ds.length
  | _, [], vs, h => by rw [show vs = [] from h]; rfl
  | m, d :: ds, vs, h => by
    obtain ⟨v, r, rfl, h1, h2⟩ := h
    rw [List.length_cons, List.length_cons, h2.length]
def tM (C : Nat → List D → Option D) (K : PySem.W.Frag) (m : List Bool) (es : Es) : TA := fun σ H Q => ∃ B0 H0 B env o ds, Rel K B0 H0 B env σ H o ∧ evm C m es env = some ds ∧ ∀ B' H' vs, Step B H B' H' → RepM K B' H' m ds vs → Q vs H'
abbrev SM (C : Nat → List D → Option D) (X : Cx) (m : List Bool) (es : Es) (xs : List Expr) : Prop := PA X xs (tM C X.K m es)
theorem use_m {K : PySem.W.Frag} {B0 H0 B H : Hp} {env : Hg.Env} {σ : L2.St} {o : Addr → Option Nat} {m : List Bool} {es : Es} {ds : List D} {Q : List V → Hp → Prop} (R : Rel K B0 H0 B env σ H o) (h : evm C m es env = some ds) (q : ∀ B' H' vs, Step B H B' H' → RepM K B' H' m ds vs → Q vs H') : tM C K m es σ H Q := ⟨B0, H0, B, env, o, ds, R, h, q⟩
theorem sm_nil {m : List Bool} : SM C X m .nil [] := imp_a pa_nil fun σ H Q ⟨B0, H0, B, env, o, ds, R, he, q⟩ => by
  cases (show some ([] : List D) = some ds from he)
  exact q B H [] (Step.refl R.bh) rfl
theorem sm_cons {m : List Bool} {a : E} {x : Expr} {es : Es} {xs : List Expr} (ha : SE C X a x) (hr : SM C X m.tail es xs) (hs : starEach (x :: xs) X.env = (false, eval x X.env) :: starEach xs X.env := by rfl) : SM C X m (.cons a es) (x :: xs) := imp_a (pa_cons ha hr hs) fun σ H Q ⟨B0, H0, B, env, o, ds, R, he, q⟩ => by
  obtain ⟨d, h1, h2⟩ := bind1_some (show ((if m.headD false then bm (ev C a env) else vm (ev C a env)).bind fun d => (evm C m.tail es env).bind fun ds => some (d :: ds)) = some ds from he)
  obtain ⟨dr, h3, h4⟩ := bind1_some h2
  cases h4
  by_cases hm : m.headD false = true
  · rw [if_pos hm] at h1
    exact use_b R h1 fun B1 H1 v s1 r1 => use_m (R.step s1) h3 fun B2 H2 vs s2 r2 => q B2 H2 (v :: vs) (s1.trans s2) ⟨v, vs, rfl, by rw [if_pos hm]; exact Rep.mono s2.hh _ _ r1, r2⟩
  · rw [if_neg hm] at h1
    exact use_v R h1 fun B1 H1 v s1 r1 => use_m (R.step s1) h3 fun B2 H2 vs s2 r2 => q B2 H2 (v :: vs) (s1.trans s2) ⟨v, vs, rfl, by rw [if_neg hm]; exact Rep.mono s2.bb _ _ r1, r2⟩
/-- what a def promises: its value, by sem -/
def spF (K : PySem.W.Frag) (lent : List Bool) (np : Nat) (sem : List D → Option D) : Sp := fun vs H Q _ => ∃ B ds d, Ext B H ∧ vs.length = np ∧ RepM K B H lent ds vs ∧ sem ds = some d ∧ TabsOk H ∧ ∀ B' H' v, Step B H B' H' → Rep K B' d v → Q v H'
/-- a def that stands at the module's top and keeps it -/
def Cal (P : Program) (w : World) (K : PySem.W.Frag) (mg : Str → Option Value) (base : Heap) (k : Nat) (n : Str) (lent : List Bool) (np : Nat) (sem : List D → Option D) : Prop :=
  ∃ f fd ps, FnOk P w K mg base CX0 k f fd ps (spF K lent np sem) ∧ mg n = some (.ref f) ∧ PySem.W.keepIn K (.ref f) = true ∧ Binds K fd ps []
theorem evm_length : ∀ {m : List Bool} {es : Es} {env : Hg.Env} {ds : List D}, evm C m es env = some ds → ds.length = Es.count es
  | m, .nil, env, ds, h => by cases (show some ([] : List D) = some ds from h); rfl
  | m, .cons e r, env, ds, h => by
    obtain ⟨d, h1, h2⟩ := bind1_some (show ((if m.headD false then bm (ev C e env) else vm (ev C e env)).bind fun d => (evm C m.tail r env).bind fun ds => some (d :: ds)) = some ds from h)
    obtain ⟨dr, h3, h4⟩ := bind1_some h2
    cases h4
    rw [List.length_cons, evm_length h3]; rfl
theorem se_call {k j id : Nat} {n : Str} {p : Pos} {m : List Bool} {np : Nat} {sem : List D → Option D} {x : Expr} {es : Es} {xs : List Expr} (c : Cal X.prog X.w X.K X.mg X.base j n m np sem) (hr : Room k X.A) (hk : j ≤ k) (ha : SM C X m es (x :: xs)) (hC : C id = sem := by rfl)
    (hnp : Es.count es = np := by rfl) (hg : Gl X n := by rfl) (hdb : (n == ("__debug__" : Str)) = false := by decide) (he : starEach (x :: xs) X.env = (false, eval x X.env) :: starEach xs X.env := by rfl) (hpl : (backTo pos (starEach xs X.env)).any (·.1) = false := by rfl) :
    SE C X (.call id m es) (.Call (.Name n p) (x :: xs) [] pos) := by
  obtain ⟨f, fd, ps, F, h1, h2, h3⟩ := c
  refine imp_e (pe_call F (hr.mono hk) hg h1 h2 h3 .nil pass0 ha hdb he hpl) fun σ H Q ⟨B0, H0, B, env, o, d, k, R, hev, q⟩ => ?_
  obtain ⟨ds, h4, h5⟩ := bind1_some (show ((evm C m es env).bind fun ds => fr (C id ds)) = some (d, k) from hev)
  obtain ⟨h6, rfl⟩ := fr_some h5
  rw [hC] at h6
  refine use_m R h4 fun B' H' vs s r => ?_
  rw [List.append_nil]
  exact ⟨B', ds, d, s.bh, by rw [r.length, evm_length h4, hnp], r, h6, R.tt.ext (R.h0.trans s.hh), fun B2 H2 v s2 r2 => q B2 H2 v [] (s.trans s2) ⟨rfl, r2⟩ FrF.nil⟩
end
end Hg
end

section
set_option Elab.async false
set_option maxRecDepth 100000
set_option autoImplicit false
set_option maxHeartbeats 4000000
/-! Snd7: statements; a def; the end. -/
namespace Hg
open PySem PySem.Spec PyProof.Rows L2
variable [TB : Tabl]

def OutOk (K : PySem.W.Frag) (B0 H0 B : Hp) (Dn : Ends) : Out → Prop
  | .nx env' => ∀ B' σ' H' o', Rel K B0 H0 B' env' σ' H' o' → Ext B B' → Dn.nx σ' H'
  | .rt d => ∀ B' H' v, Step B0 H0 B' H' → Rep K B' d v → Dn.rt v H'
theorem OutOk.mono {K : PySem.W.Frag} {B0 H0 B B1 : Hp} {Dn : Ends} {out : Out} (h : OutOk K B0 H0 B Dn out) (e : Ext B B1) : OutOk K B0 H0 B1 Dn out := by
  cases out with
  | nx env' => exact fun B' σ' H' o' R e' => h B' σ' H' o' R (e.trans e')
  | rt d => exact h
theorem Rel.done {K : PySem.W.Frag} {B0 H0 B H : Hp} {env : Hg.Env} {σ : L2.St} {o : Addr → Option Nat} (R : Rel K B0 H0 B env σ H o) : Step B0 H0 B H := ⟨R.b0, R.h0, R.bh, R.gr⟩
def tS (C : Nat → List D → Option D) (K : PySem.W.Frag) (s : Hg.S) : TS := fun Dn σ H => ∃ B0 H0 B env o out, Rel K B0 H0 B env σ H o ∧ exec C FU s env = some out ∧ OutOk K B0 H0 B Dn out
abbrev SS (C : Nat → List D → Option D) (X : Cx) (s : Hg.S) (st : Stmt) : Prop := PS X st (tS C X.K s)
abbrev SB (C : Nat → List D → Option D) (X : Cx) (s : Hg.S) (sts : List Stmt) : Prop := PSs X sts (tS C X.K s)

section
variable {K : PySem.W.Frag} {B0 H0 B H : Hp} {env : Hg.Env} {σ : L2.St} {o : Addr → Option Nat}
/-! ### ghosts -/
theorem freeze_ok (R : Rel K B0 H0 B env σ H o) {i : Nat} {d : D} {k : Kd} {F : List Addr} {v : V} (hi : env[i]? = some (.val d k)) (hv : σ[i]? = some (some v)) (hF : ∀ a ∈ F, o a = some i) (hr : Rep K (joinH B H F) d v) :
    Rel K B0 H0 (joinH B H F) (env.set i (.val d .frz)) σ H (dropO o i) where
  b0 := R.b0.trans (joinH_b fun a ha => (R.fr a i (hF a ha)).1)
  h0 := R.h0
  bh := joinH_h R.bh
  tt := R.tt
  gr := fun a h => by
    by_cases q : a ∈ F
    · exact .inr (R.fr a i (hF a q)).2.1
    · rw [joinH_out q] at h; exact R.gr a h
  len := by rw [List.length_set]; exact R.len
  sl := fun j d' k' e => by
    rw [List.getElem?_set] at e
    by_cases hj : i = j
    · subst hj
      rw [if_pos rfl] at e
      by_cases hl : i < env.length
      · rw [if_pos hl] at e
        cases e
        exact ⟨v, [], hv, ⟨rfl, hr⟩, List.nodup_nil, by simp⟩
      · rw [if_neg hl] at e; cases e
    · rw [if_neg hj] at e
      obtain ⟨w, F', h1, h2, h3, h4⟩ := R.sl j d' k' e
      exact ⟨w, F', h1, h2.keep (joinH_b fun a ha => (R.fr a i (hF a ha)).1) (fun _ _ => rfl), h3, fun a ha => dropO_ne (h4 a ha) (Ne.symm hj)⟩
  fr := fun a j e => by
    obtain ⟨e1, e2⟩ := dropO_some e
    obtain ⟨h1, h2, h3⟩ := R.fr a j e1
    refine ⟨?_, h2, h3⟩
    rw [joinH_out fun q => e2 (Option.some.inj (e1.symm.trans (hF a q)))]
    exact h1
  nc := fun a j e => R.nc a j (dropO_some e).1
theorem Rel.frz1 (R : Rel K B0 H0 B env σ H o) (i : Nat) : ∃ B' o', Rel K B0 H0 B' (freeze1 env i) σ H o' ∧ Ext B B' := by
  unfold freeze1
  cases hi : env[i]? with
  | none => exact ⟨B, o, R, Ext.refl _⟩
  | some s =>
    cases s with
    | un => exact ⟨B, o, R, Ext.refl _⟩
    | val d k =>
      obtain ⟨v, F, h1, h2, h3, h4⟩ := R.sl i d k hi
      have hn : ∀ a ∈ F, B a = none := fun a ha => (R.fr a i (h4 a ha)).1
      cases k with
      | own1 => exact ⟨_, _, freeze_ok R hi h1 h4 (Own1.give h2 hn fun a h => h), joinH_b hn⟩
      | own2 => exact ⟨_, _, freeze_ok R hi h1 h4 (Own2.give h2 hn fun a h => h), joinH_b hn⟩
      | frz => exact ⟨B, o, R, Ext.refl _⟩
      | lent => exact ⟨B, o, R, Ext.refl _⟩
      | new1 => exact ⟨B, o, R, Ext.refl _⟩
      | new2 => exact ⟨B, o, R, Ext.refl _⟩
theorem Rel.frz : ∀ (is : List Nat) {B : Hp} {env : Hg.Env} {o : Addr → Option Nat}, Rel K B0 H0 B env σ H o → ∃ B' o', Rel K B0 H0 B' (freeze is env) σ H o' ∧ Ext B B'
  | [], B, env, o, R => ⟨B, o, R, Ext.refl _⟩
  | i :: is, B, env, o, R => by
    obtain ⟨B1, o1, R1, e1⟩ := R.frz1 i
    obtain ⟨B2, o2, R2, e2⟩ := Rel.frz is R1
    exact ⟨B2, o2, R2, e1.trans e2⟩
/-- a name gets a new object -/
theorem Rel.putO {B' H' : Hp} (R : Rel K B0 H0 B env σ H o) (s : Step B H B' H') {i : Nat} {d : D} {k : Kd} {v : V} {F : List Addr} (hk : KOk K H0 B' H' k d v F) (f : FrF H B' F) :
    Rel K B0 H0 B' (env.set i (.val d k)) (σ.set i (some v)) H' (fun a => if a ∈ F then some i else dropO o i a) := by
  have R' := R.step s
  refine ⟨R'.b0, R'.h0, R'.bh, R'.tt, R'.gr, by rw [List.length_set, List.length_set]; exact R.len, fun j d' k' e => ?_, fun a j e => ?_, fun a j e q => ?_⟩
  · rw [List.getElem?_set] at e
    by_cases hj : i = j
    · subst hj
      rw [if_pos rfl] at e
      by_cases hl : i < env.length
      · rw [if_pos hl] at e
        cases e
        refine ⟨v, F, ?_, hk, f.nd, fun a ha => if_pos ha⟩
        rw [List.getElem?_set, if_pos rfl, if_pos (by rw [R.len]; exact hl)]
      · rw [if_neg hl] at e; cases e
    · rw [if_neg hj] at e
      obtain ⟨w, F', h1, h2, h3, h4⟩ := R'.sl j d' k' e
      refine ⟨w, F', by rw [List.getElem?_set, if_neg hj]; exact h1, h2, h3, fun a ha => ?_⟩
      have hnF : a ∉ F := fun q => by
        have q1 := f.h a q
        have q2 := (R.fr a j (h4 a ha)).2.2
        exact q2 q1
      show (if a ∈ F then some i else dropO o i a) = some j
      rw [if_neg hnF]
      exact dropO_ne (h4 a ha) (Ne.symm hj)
  · by_cases hF : a ∈ F
    · refine ⟨f.b a hF, ?_, hk.there a hF⟩
      exact R.h0.back (f.h a hF)
    · have e' : dropO o i a = some j := by
        have e2 : (if a ∈ F then some i else dropO o i a) = some j := e
        rw [if_neg hF] at e2
        exact e2
      exact R'.fr a j (dropO_some e').1
  · by_cases hF : a ∈ F
    · obtain ⟨ob, e1, _, n⟩ := hk.thereN a hF
      rw [e1]; exact n q
    · have e' : dropO o i a = some j := by
        have e2 : (if a ∈ F then some i else dropO o i a) = some j := e
        rw [if_neg hF] at e2
        exact e2
      exact R'.nc a j (dropO_some e').1 q
/-- an object of one's own changes -/
theorem Rel.mut (R : Rel K B0 H0 B env σ H o) {i : Nat} {d d' : D} {k : Kd} {a : Addr} {ob : HO} (hi : env[i]? = some (.val d k)) (ha : o a = some i) (hk : ∀ v F, σ[i]? = some (some v) → KOk K H0 B H k d v F → F.Nodup → (∀ b ∈ F, o b = some i) → KOk K H0 B (upd H a ob) k d' v F) (hob : ∀ q, some ob ≠ some (LamX.CodeO a q) := by first | exact fun q => code_lst | exact fun q => code_dK) :
    Rel K B0 H0 B (env.set i (.val d' k)) σ (upd H a ob) o := by
  obtain ⟨f1, f2, f3⟩ := R.fr a i ha
  refine ⟨R.b0, R.h0.upd f2 (R.nc a i ha), R.bh.upd f1 (R.nc a i ha), R.tt, R.gr, by rw [List.length_set]; exact R.len, fun j d2 k2 e => ?_, fun b j e => ?_, fun b j e q => ?_⟩
  · rw [List.getElem?_set] at e
    by_cases hj : i = j
    · subst hj
      rw [if_pos rfl] at e
      by_cases hl : i < env.length
      · rw [if_pos hl] at e
        cases e
        obtain ⟨w, F, h1, h2, h3, h4⟩ := R.sl i d k hi
        exact ⟨w, F, h1, hk w F h1 h2 h3 h4, h3, h4⟩
      · rw [if_neg hl] at e; cases e
    · rw [if_neg hj] at e
      obtain ⟨w, F', h1, h2, h3, h4⟩ := R.sl j d2 k2 e
      refine ⟨w, F', h1, h2.keep (Ext.refl _) (fun b hb => upd_ne fun z => ?_), h3, h4⟩
      subst z
      exact hj (Option.some.inj (ha.symm.trans (h4 b hb)))
  · obtain ⟨g1, g2, g3⟩ := R.fr b j e
    refine ⟨g1, g2, ?_⟩
    by_cases z : b = a
    · subst z; rw [upd_same]; exact fun z => nomatch z
    · rw [upd_ne z]; exact g3
  · by_cases z : b = a
    · subst z; rw [upd_same]; exact hob q
    · rw [upd_ne z]; exact R.nc b j e q
end

section
variable {C : Nat → List D → Option D} {X : Cx} {a b c : E} {x y z : Expr} {pos p pos1 pos2 : Pos} {n : Str} {s s1 s2 : Hg.S} {st : Stmt} {sts : List Stmt} {t : T}
theorem sb_skip : SB C X .skip [] := imp_ss pss_nil fun Dn σ H ⟨B0, H0, B, env, o, out, R, he, q⟩ => by
  cases (show some (Out.nx env) = some out from he)
  exact q B σ H o R (Ext.refl _)
theorem sb_seq (h1 : SS C X s1 st) (h2 : SB C X s2 sts) : SB C X (.seq s1 s2) (st :: sts) := imp_ss (pss_cons h1 h2) fun Dn σ H ⟨B0, H0, B, env, o, out, R, he, q⟩ => by
  have he' : andThen (exec C FU s1 env) (exec C FU s2) = some out := he
  cases e1 : exec C FU s1 env with
  | none => rw [e1] at he'; cases he'
  | some o1 =>
    rw [e1] at he'
    refine ⟨B0, H0, B, env, o, o1, R, e1, ?_⟩
    cases o1 with
    | nx env1 => exact fun B' σ' H' o' R' e => ⟨B0, H0, B', env1, o', out, R', he', q.mono e⟩
    | rt d =>
      cases he'
      exact q
theorem sb_kill {is : List Nat} (h : SB C X s sts) : SB C X (.seq (.kill is) s) sts := imp_ss h fun Dn σ H ⟨B0, H0, B, env, o, out, R, he, q⟩ =>
  ⟨B0, H0, B, unset is env, o, out, R.unset is, he, q⟩
theorem sb_frz {is : List Nat} (h : SB C X s sts) : SB C X (.seq (.frz is) s) sts := imp_ss h fun Dn σ H ⟨B0, H0, B, env, o, out, R, he, q⟩ => by
  obtain ⟨B', o', R', e⟩ := Rel.frz is R
  exact ⟨B0, H0, B', freeze is env, o', out, R', he, q.mono e⟩
theorem ss_frz {is : List Nat} (h : SS C X s st) : SS C X (.seq (.frz is) s) st := imp_s h fun Dn σ H ⟨B0, H0, B, env, o, out, R, he, q⟩ => by
  obtain ⟨B', o', R', e⟩ := Rel.frz is R
  exact ⟨B0, H0, B', freeze is env, o', out, R', he, q.mono e⟩
theorem ss_ret (h : SE C X a x) : SS C X (.ret a) (.Return (some x) pos) := imp_s (ps_ret h) fun Dn σ H ⟨B0, H0, B, env, o, out, R, he, q⟩ => by
  have he' : (vm (ev C a env)).map Out.rt = some out := he
  rw [Option.map_eq_some_iff] at he'
  obtain ⟨d, h1, rfl⟩ := he'
  exact use_v R h1 fun B' H' v s r => q B' H' v (R.step s).done r
theorem ss_ite {xs ys : List Stmt} (ht : ST C X t z) (h1 : SB C X s1 xs) (h2 : SB C X s2 ys) : SS C X (.ite t s1 s2) (.If z xs ys pos) := imp_s (ps_if ht h1 h2) fun Dn σ H ⟨B0, H0, B, env, o, out, R, he, q⟩ => by
  obtain ⟨b, h1, h2⟩ := bind1_some (show ((evT C t env).bind fun p => if p then exec C FU s1 env else exec C FU s2 env) = some out from he)
  refine use_t R h1 fun B' H' s => ?_
  cases b with
  | true => exact ⟨B0, H0, B', env, o, out, R.step s, h2, q.mono s.bb⟩
  | false => exact ⟨B0, H0, B', env, o, out, R.step s, h2, q.mono s.bb⟩
theorem ss_drop (h : SE C X a x) (hs : swapsWith x none pos.line X.env = pure false := by rfl) : SS C X (.drop a) (.Expr x pos) := imp_s (ps_expr h hs) fun Dn σ H ⟨B0, H0, B, env, o, out, R, he, q⟩ => by
  have he' : (ev C a env).map (fun _ => Out.nx env) = some out := he
  rw [Option.map_eq_some_iff] at he'
  obtain ⟨⟨d, k⟩, h1, rfl⟩ := he'
  exact ⟨B0, H0, B, env, o, d, k, R, h1, fun B' H' v F s r f => q B' σ H' o (R.step s) s.bb⟩

/-! ### a name is given a value -/
theorem asg_read {i m : Nat} : ∀ Dn σ H, tS C X.K (.asg i m a) Dn σ H → tAsg (tE C X.K a) (gName i) Dn σ H := fun Dn σ H ⟨B0, H0, B, env, o, out, R, he, q⟩ => by
  obtain ⟨⟨d, k⟩, h1, h2⟩ := bind1_some (show ((ev C a env).bind fun p => (vm (some p)).bind fun d => some (Out.nx (env.set i (.val d (slotK m p.2))))) = some out from he)
  obtain ⟨d', h3, h4⟩ := bind1_some h2
  cases h4
  have hv : vm (ev C a env) = some d' := by rw [h1]; exact h3
  have h3' : (if k = .frz ∨ k = .new1 ∨ k = .new2 ∨ d.atom = true then some d else none) = some d' := h3
  obtain ⟨hk, rfl⟩ := if_some h3'
  by_cases hs : slotK m k = .frz
  · show tE C X.K a σ H fun v H1 => Dn.nx (σ.set i (some v)) H1
    refine use_v R hv fun B' H' v s r => ?_
    have R2 := (R.step s).put (i := i) r
    rw [← hs] at R2
    exact q B' _ H' _ R2 s.bb
  · refine ⟨B0, H0, B, env, o, d, k, R, h1, fun B' H' v F s r f => ?_⟩
    refine q B' _ H' _ (R.putO s ?_ f) s.bb
    cases k with
    | new1 =>
      have e : slotK m .new1 = .own1 := by
        match m, hs with
        | 0, hs => exact absurd rfl hs
        | 1, _ => rfl
        | m + 2, _ => rfl
      show KOk _ _ _ _ (slotK m .new1) _ _ _
      rw [e]
      exact r
    | new2 =>
      have e : slotK m .new2 = .own2 := by
        match m, hs with
        | 0, hs => exact absurd rfl hs
        | 1, hs => exact absurd rfl hs
        | m + 2, _ => rfl
      show KOk _ _ _ _ (slotK m .new2) _ _ _
      rw [e]
      exact r
    | frz => exact absurd (by match m with | 0 => rfl | 1 => rfl | m + 2 => rfl) hs
    | own1 => exact absurd (by match m with | 0 => rfl | 1 => rfl | m + 2 => rfl) hs
    | own2 => exact absurd (by match m with | 0 => rfl | 1 => rfl | m + 2 => rfl) hs
    | lent => exact absurd (by match m with | 0 => rfl | 1 => rfl | m + 2 => rfl) hs
theorem ss_asg {i m : Nat} (G : Gd X) (h : SE C X a x) (hi : X.N[i]? = some n := by rfl) (hx : Loc X.env.scope n := by first | exact .inl rfl | exact .inr rfl) (hs : swapsWith x (some (.Name n pos1)) pos.line X.env = pure false := by rfl)
    (hf : X.fn n = true ∨ X.env.scope.names.lookup n = some .local := by first | exact .inl rfl | exact .inr rfl) : SS C X (.asg i m a) (.Assign [.Name n pos1] x pos) := imp_s (ps_set G.nd hi hx h hs hf) asg_read
/-- a comprehension given to a name -/
theorem ss_asgC {i m : Nat} {elt : E} {ex tgx iter : Expr} {tg : Tg} {it : Hg.It} {cond : T} {posc : Pos} {ifs : List Expr} {scope : Scope} {deep : Bool} (G : Gd X) (own : List (Str × Nat)) (hi : SI C X tgx it iter)
    (hg : ∀ (s : Shared) (H : Hp) (Cl : Addr) (cl : List (Str × Addr)) (fp : List Addr), SG (X.blk s H scope (compEnvC scope cl Cl X.env) fp) tg tgx)
    (ht : ∀ (s : Shared) (H : Hp) (Cl : Addr) (cl : List (Str × Addr)) (fp : List Addr), PTs (X.blk s H scope (compEnvC scope cl Cl X.env) fp) ifs (tT C X.K cond))
    (he : ∀ (s : Shared) (H : Hp) (Cl : Addr) (cl : List (Str × Addr)) (fp : List Addr), SE C (X.blk s H scope (compEnvC scope cl Cl X.env) fp) elt ex)
    (ok : BlkOk X.N X.env.scope scope own := by exact blkOk_by (by kernel_rfl)) (hown : own.map (·.2) = tg.slots := by rfl) (hs : ∀ x, foldedSetIterable iter X.env x = pure x := by intro _; rfl)
    (hy : X.N[i]? = some n := by rfl) (hyl : X.env.scope.names.lookup n = some .local := by rfl) (hsw : swapsWith (.ListComp ex [⟨tgx, iter, ifs, 0⟩] scope posc) (some (.Name n pos1)) pos.line X.env = pure true := by exact sw_true rfl rfl rfl (by decide +kernel)) :
    SS C X (.asg i m (.comp deep elt tg it cond)) (.Assign [.Name n pos1] (.ListComp ex [⟨tgx, iter, ifs, 0⟩] scope posc) pos) :=
  imp_s (ps_setLc G.calm G.nd hy hyl hsw hi ok hg ht he hs) fun Dn σ H q => lc_read G hown σ H _ (asg_read Dn σ H q)
theorem ss_asgT {is : List Nat} {xs : List Expr} {kk : Nat} (h : SE C X a x) (hg : SG X (.tp is) (.Tuple xs kk pos1)) (hs : swapsWithSole [.Tuple xs kk pos1] x pos.line X.env = pure false := by rfl) (hw : swappedStores [.Tuple xs kk pos1] x X.env = pure none := by rfl)
    (h1 : (assignEach [.Tuple xs kk pos1] X.env).map (·.2) = [assign (.Tuple xs kk pos1) X.env] := by rfl) : SS C X (.asgT is a) (.Assign [.Tuple xs kk pos1] x pos) := imp_s (ps_asg h hg hs hw h1) fun Dn σ H ⟨B0, H0, B, env, o, out, R, he, q⟩ => by
  obtain ⟨d, h1, h2⟩ := bind1_some (show ((vm (ev C a env)).bind fun d => (bindT (.tp is) d env).map Out.nx) = some out from he)
  rw [Option.map_eq_some_iff] at h2
  obtain ⟨env', h2, rfl⟩ := h2
  exact use_v R h1 fun B' H' v s r => ⟨B0, H0, B', env, o, d, env', R.step s, r, h2, fun σ' o' R' _ => q B' σ' H' o' R' s.bb⟩

/-! ### one's own lists and dicts change -/
theorem own1_lst {K : PySem.W.Frag} {B H : Hp} {v : V} {ds : List D} {F : List Addr} (h : Own1 K B H v (.lst ds) F) : ∃ a vs, v = .ref a ∧ F = [a] ∧ H a = some (.lst vs) ∧ Reps K B ds vs := by
  obtain ⟨a, rfl, rfl, h⟩ := h
  rcases h with ⟨vs, ds', z, h1, h2⟩ | ⟨vs, ds', z, _, _⟩
  · cases z
    exact ⟨a, vs, rfl, rfl, h1, h2⟩
  · cases z
theorem own1_dic {K : PySem.W.Frag} {B H : Hp} {v : V} {ds : List (Ky × D)} {F : List Addr} (h : Own1 K B H v (.dic ds) F) : ∃ a vs, v = .ref a ∧ F = [a] ∧ H a = some (.dK vs) ∧ RepK K B ds vs := by
  obtain ⟨a, rfl, rfl, h⟩ := h
  rcases h with ⟨vs, ds', z, _, _⟩ | ⟨vs, ds', z, h1, h2⟩
  · cases z
  · cases z
    exact ⟨a, vs, rfl, rfl, h1, h2⟩
/-- the list of a name of one's own, and how it is changed -/
theorem Rel.lst1 {K : PySem.W.Frag} {B0 H0 B H : Hp} {env : Hg.Env} {σ : L2.St} {o : Addr → Option Nat} (R : Rel K B0 H0 B env σ H o) {i : Nat} {ds : List D} (hi : env[i]? = some (.val (.lst ds) .own1)) :
    ∃ p vs, σ[i]? = some (some (.ref p)) ∧ H p = some (.lst vs) ∧ Reps K B ds vs ∧ ∀ ds' vs', Reps K B ds' vs' → Rel K B0 H0 B (env.set i (.val (.lst ds') .own1)) σ (upd H p (.lst vs')) o := by
  obtain ⟨v, F, h1, h2, h3, h4⟩ := R.sl i _ _ hi
  obtain ⟨p, vs, rfl, rfl, h5, h6⟩ := own1_lst h2
  have hp := h4 p (by simp)
  exact ⟨p, vs, h1, h5, h6, fun ds' vs' r => R.mut hi hp fun w F h7 h8 _ _ => by
    rw [h1] at h7
    cases h7
    obtain ⟨p2, vs2, e, rfl, h9, _⟩ := own1_lst h8
    cases e
    exact ⟨p, rfl, rfl, .inl ⟨vs', ds', rfl, upd_same, r⟩⟩⟩
theorem Rel.dic1 {K : PySem.W.Frag} {B0 H0 B H : Hp} {env : Hg.Env} {σ : L2.St} {o : Addr → Option Nat} (R : Rel K B0 H0 B env σ H o) {i : Nat} {ds : List (Ky × D)} (hi : env[i]? = some (.val (.dic ds) .own1)) :
    ∃ p vs, σ[i]? = some (some (.ref p)) ∧ H p = some (.dK vs) ∧ RepK K B ds vs ∧ ∀ ds' vs', RepK K B ds' vs' → Rel K B0 H0 B (env.set i (.val (.dic ds') .own1)) σ (upd H p (.dK vs')) o := by
  obtain ⟨v, F, h1, h2, h3, h4⟩ := R.sl i _ _ hi
  obtain ⟨p, vs, rfl, rfl, h5, h6⟩ := own1_dic h2
  have hp := h4 p (by simp)
  exact ⟨p, vs, h1, h5, h6, fun ds' vs' r => R.mut hi hp fun w F h7 h8 _ _ => by
    rw [h1] at h7
    cases h7
    obtain ⟨p2, vs2, e, rfl, h9, _⟩ := own1_dic h8
    cases e
    exact ⟨p, rfl, rfl, .inr ⟨vs', ds', rfl, upd_same, r⟩⟩⟩
theorem ss_app {i : Nat} (h : SE C X a x) (hi : X.N[i]? = some n := by rfl) (hv : Vis X.env.scope n := by first | exact Or.inl rfl | exact Or.inr (Or.inl rfl) | exact Or.inr (Or.inr rfl)) (hd : (n == ("__debug__" : Str)) = false := by decide) (hcd : (n == ("__classdict__" : Str)) = false := by decide)
    (hs : swapsWith (.Call (.Attribute (.Name n pos1) "append" pos2) [x] [] p) none pos.line X.env = pure false := by rfl) (hbase : attributeBase (.Name n pos1) "append" X.env (eval (.Name n pos1) X.env) = eval (.Name n pos1) X.env := by rfl)
    (hfew : ((backTo p (starEach [x] X.env)).all (fun x => !x.1) && (backToKw p (keywordEach [] X.env)).all (fun x => x.1.isSome) && decide ([x].length + ([] : List Keyword).length + (if ([] : List Keyword).isEmpty then 0 else 1) < 30)) = true := by rfl)
    (hline : (pos2.endLine == p.line) = true := by rfl) (hst : starEach [x] X.env = (false, eval x X.env) :: starEach [] X.env := by rfl) : SS C X (.app i a) (.Expr (.Call (.Attribute (.Name n pos1) "append" pos2) [x] [] p) pos) := by
  refine imp_s (ps_expr (pe_bm PySem.F.plainAttrs_list PySem.F.slot_list_append PySem.F.type_list_append mt_append (pv i hi hv hd hcd) (pa_cons h pa_nil hst) hbase hfew hline hst rfl) hs) fun Dn σ H ⟨B0, H0, B, env, o, out, R, he, q⟩ => ?_
  obtain ⟨d, h1, h2⟩ := bind1_some (show ((vm (ev C a env)).bind fun v => match env[i]? with
      | some (.val (.lst xs) .own1) => if xs.length < L then some (Out.nx (env.set i (.val (.lst (xs ++ [v])) .own1))) else none
      | _ => none) = some out from he)
  cases hi : env[i]? with
  | none => rw [hi] at h2; cases h2
  | some sl =>
    match sl, hi with
    | .val (.lst xs) .own1, hi =>
      rw [hi] at h2
      obtain ⟨hz, h3⟩ := if_some h2
      cases h3
      obtain ⟨p, vs, h4, h5, h6, _⟩ := R.lst1 hi
      refine ⟨.ref p, h4, .inl ⟨rfl, vs, SqL.of h5⟩, ?_⟩
      refine use_v R h1 fun B' H' v s r => ?_
      obtain ⟨p', vs', h4', h5', h6', mk⟩ := (R.step s).lst1 hi
      rw [h4] at h4'
      cases h4'
      refine ⟨p, vs', v, rfl, rfl, h5', by rw [h6'.length]; exact sizeLt hz, ?_⟩
      exact q B' σ _ o (mk _ _ (h6'.append (reps_cons r reps_nil))) s.bb
    | .un, hi => rw [hi] at h2; cases h2
    | .val (.lst xs) .frz, hi => rw [hi] at h2; cases h2
    | .val (.lst xs) .own2, hi => rw [hi] at h2; cases h2
    | .val (.lst xs) .lent, hi => rw [hi] at h2; cases h2
    | .val (.lst xs) .new1, hi => rw [hi] at h2; cases h2
    | .val (.lst xs) .new2, hi => rw [hi] at h2; cases h2
    | .val .non _, hi => rw [hi] at h2; cases h2
    | .val (.bl _) _, hi => rw [hi] at h2; cases h2
    | .val (.int _) _, hi => rw [hi] at h2; cases h2
    | .val (.str _) _, hi => rw [hi] at h2; cases h2
    | .val (.tup _) _, hi => rw [hi] at h2; cases h2
    | .val (.dic _) _, hi => rw [hi] at h2; cases h2
end
end Hg
end

section
set_option Elab.async false
set_option maxRecDepth 100000
set_option autoImplicit false
set_option maxHeartbeats 4000000
/-! Snd8: stores into rows, loops; a def; the end. -/
namespace Hg
open PySem PySem.Spec PyProof.Rows L2
variable [TB : Tabl]

theorem ownl_set {K : PySem.W.Frag} {B H : Hp} {r : Addr} {ob : HO} {d' : D} (hn : Own1 K B (upd H r ob) (.ref r) d' [r]) : ∀ {vs : List V} {ds : List D} {F : List Addr} {j : Nat}, OwnL (Own1 K B H) vs ds F → F.Nodup → vs[j]? = some (.ref r) →
    r ∈ F ∧ OwnL (Own1 K B (upd H r ob)) vs (ds.set j d') F
  | [], [], F, j, h, _, e => by simp at e
  | v :: vs, d :: ds, F, 0, h, nd, e => by
    obtain ⟨F1, F2, rfl, h1, h2⟩ := h
    have e' : v = .ref r := by simpa using e
    subst e'
    obtain ⟨a, e1, rfl, h1⟩ := h1
    cases e1
    refine ⟨by simp, [r], F2, rfl, hn, h2.keep (Ext.refl _) fun b hb => upd_ne fun z => ?_⟩
    subst z
    exact (List.nodup_append.mp nd).2.2 b (by simp) b hb rfl
  | v :: vs, d :: ds, F, j + 1, h, nd, e => by
    obtain ⟨F1, F2, rfl, h1, h2⟩ := h
    obtain ⟨n1, n2, n3⟩ := List.nodup_append.mp nd
    obtain ⟨q1, q2⟩ := ownl_set hn (j := j) h2 n2 (by simpa using e)
    exact ⟨List.mem_append_right _ q1, F1, F2, rfl, h1.keep (Ext.refl _) fun b hb => upd_ne fun z => n3 b hb r q1 z, q2⟩
  | [], _ :: _, F, j, h, _, e => h.elim
  | _ :: _, [], F, j, h, _, e => h.elim
theorem slot_own2 {env : Hg.Env} {i : Nat} {α : Type} {f : List D → Option α} {out : α} (h : (match env[i]? with | some (.val (.lst xs) .own2) => f xs | _ => none) = some out) : ∃ xs, env[i]? = some (.val (.lst xs) .own2) ∧ f xs = some out := by
  split at h
  · rename_i xs e
    exact ⟨xs, e, h⟩
  · cases h
theorem slot_own1 {env : Hg.Env} {i : Nat} {α : Type} {f : List D → Option α} {out : α} (h : (match env[i]? with | some (.val (.lst xs) .own1) => f xs | _ => none) = some out) : ∃ xs, env[i]? = some (.val (.lst xs) .own1) ∧ f xs = some out := by
  split at h
  · rename_i xs e
    exact ⟨xs, e, h⟩
  · cases h
/-- a row of a name's own rows, and how it is changed -/
theorem Rel.row {K : PySem.W.Frag} {B0 H0 B H : Hp} {env : Hg.Env} {σ : L2.St} {o : Addr → Option Nat} (R : Rel K B0 H0 B env σ H o) {i j : Nat} {ds : List D} {d : D} (hi : env[i]? = some (.val (.lst ds) .own2)) (hj : ds[j]? = some d) :
    ∃ p vs r, σ[i]? = some (some (.ref p)) ∧ H p = some (.lst vs) ∧ vs.length = ds.length ∧ vs[j]? = some (.ref r) ∧ Own1 K B H (.ref r) d [r] ∧
      ∀ d' ob, Own1 K B (upd H r ob) (.ref r) d' [r] → Rel K B0 H0 B (env.set i (.val (.lst (ds.set j d')) .own2)) σ (upd H r ob) o := by
  obtain ⟨v, F, h1, h2, h3, h4⟩ := R.sl i _ _ hi
  rcases h2 with ⟨p, F', vs, ds', rfl, rfl, e, h5, h6⟩ | ⟨_, _, _, _, _, _, e, _⟩
  rotate_left
  · cases e
  cases e
  obtain ⟨w, G, q1, q2, q3⟩ := ownl_at h6 hj
  obtain ⟨r, rfl, rfl, q4⟩ := q2
  have hr : r ∈ F' := q3 r (by simp)
  have hpr : p ≠ r := fun z => (List.nodup_cons.mp h3).1 (by rw [z]; exact hr)
  refine ⟨p, vs, r, h1, h5, h6.length, q1, ⟨r, rfl, rfl, q4⟩, fun d' ob hn => R.mut hi (h4 r (List.mem_cons_of_mem _ hr)) (fun w F h7 h8 h9 _ => ?_) (fun q => by
    obtain ⟨o', e1, _, nn⟩ := hn.thereN r (by simp)
    rw [upd_same] at e1
    rw [e1]; exact nn q)⟩
  rw [h1] at h7
  cases h7
  rcases h8 with ⟨p2, F2, vs2, ds2, e1, rfl, e2, g1, g2⟩ | ⟨_, _, _, _, _, _, e2, _⟩
  rotate_left
  · cases e2
  cases e1
  cases e2
  rw [h5] at g1
  cases g1
  exact .inl ⟨p, F2, vs, _, rfl, rfl, rfl, by rw [upd_ne hpr]; exact h5, (ownl_set hn g2 (List.nodup_cons.mp h9).2 q1).2⟩
section
variable {C : Nat → List D → Option D} {X : Cx} {a b c : E} {x y z : Expr} {pos p pos1 pos2 pos3 : Pos} {n : Str} {s s1 s2 : Hg.S} {st : Stmt} {sts : List Stmt} {t : T}
theorem ss_appIx {i : Nat} (ha : SE C X a x) (hb : SE C X b y) (hpl : PlainIx x := by exact fun _ _ => rfl) (hi : X.N[i]? = some n := by rfl) (hv : Vis X.env.scope n := by first | exact Or.inl rfl | exact Or.inr (Or.inl rfl) | exact Or.inr (Or.inr rfl)) (hd : (n == ("__debug__" : Str)) = false := by decide) (hcd : (n == ("__classdict__" : Str)) = false := by decide)
    (hs : swapsWith (.Call (.Attribute (.Subscript (.Name n pos1) x pos3) "append" pos2) [y] [] p) none pos.line X.env = pure false := by rfl) (hbase : attributeBase (.Subscript (.Name n pos1) x pos3) "append" X.env (eval (.Subscript (.Name n pos1) x pos3) X.env) = eval (.Subscript (.Name n pos1) x pos3) X.env := by rfl)
    (hfew : ((backTo p (starEach [y] X.env)).all (fun x => !x.1) && (backToKw p (keywordEach [] X.env)).all (fun x => x.1.isSome) && decide ([y].length + ([] : List Keyword).length + (if ([] : List Keyword).isEmpty then 0 else 1) < 30)) = true := by rfl)
    (hline : (pos2.endLine == p.line) = true := by rfl) (hst : starEach [y] X.env = (false, eval y X.env) :: starEach [] X.env := by rfl) : SS C X (.appIx i a b) (.Expr (.Call (.Attribute (.Subscript (.Name n pos1) x pos3) "append" pos2) [y] [] p) pos) := by
  refine imp_s (ps_expr (pe_bm PySem.F.plainAttrs_list PySem.F.slot_list_append PySem.F.type_list_append mt_append (pe_ix ix_list (pv i hi hv hd hcd) ha hpl) (pa_cons hb pa_nil hst) hbase hfew hline hst rfl) hs) fun Dn σ H ⟨B0, H0, B, env, o, out, R, he, q⟩ => ?_
  obtain ⟨dx, h1, h2⟩ := bind1_some (show ((bm (ev C a env)).bind fun x => (vm (ev C b env)).bind fun v => match env[i]? with
      | some (.val (.lst xs) .own2) => (asInt x).bind fun j => (Hg.ixN xs.length j).bind fun n => match xs[n]? with
          | some (.lst ys) => if ys.length < L then some (Out.nx (env.set i (.val (.lst (xs.set n (.lst (ys ++ [v])))) .own2))) else none
          | _ => none
      | _ => none) = some out from he)
  obtain ⟨dv, h3, h4⟩ := bind1_some h2
  obtain ⟨xs, hi', h5⟩ := slot_own2 (f := fun xs => (asInt dx).bind fun j => (Hg.ixN xs.length j).bind fun n => match xs[n]? with
          | some (.lst ys) => if ys.length < L then some (Out.nx (env.set i (.val (.lst (xs.set n (.lst (ys ++ [dv])))) .own2))) else none
          | _ => none) h4
  obtain ⟨j, h6, h7⟩ := bind1_some h5
  obtain rfl := asInt_some h6
  obtain ⟨m, h8, h9⟩ := bind1_some h7
  cases hr : xs[m]? with
  | none => rw [hr] at h9; cases h9
  | some row =>
    rw [hr] at h9
    cases row <;> simp only [reduceCtorEq] at h9
    rename_i ys
    obtain ⟨hz, h10⟩ := if_some h9
    cases h10
    obtain ⟨p, vs, r, k1, k2, k3, k4, k5, _⟩ := R.row hi' hr
    refine ⟨.ref p, k1, use_b R h1 fun B1 H1 u s1 ru => ?_⟩
    obtain ⟨p', vs', r', k1', k2', k3', k4', k5', _⟩ := (R.step s1).row hi' hr
    rw [k1] at k1'
    cases k1'
    refine ⟨p, vs', j, .ref r', rfl, rep_int ru, SqL.of k2', ?_, ?_⟩
    · unfold atI
      rw [k3', ixN_eq, h8]
      exact k4'
    · obtain ⟨r2, ws, e1, _, k6, k7⟩ := own1_lst k5'
      cases e1
      refine ⟨.inl ⟨rfl, ws, SqL.of k6⟩, use_v (R.step s1) h3 fun B2 H2 v s2 rv => ?_⟩
      obtain ⟨p3, vs3, r3, k1'', k2'', k3'', k4'', k5'', mk⟩ := ((R.step s1).step s2).row hi' hr
      rw [k1] at k1''
      cases k1''
      have e3 : vs3 = vs' := by
        have := s2.hh.at k2' nt_lst
        rw [k2''] at this
        cases this
        rfl
      subst e3
      rw [k4'] at k4''
      cases k4''
      obtain ⟨r4, ws2, e4, _, k8, k9⟩ := own1_lst k5''
      cases e4
      refine ⟨r', ws2, v, rfl, rfl, k8, by rw [k9.length]; exact sizeLt hz, ?_⟩
      exact q B2 σ _ o (mk _ _ ⟨r', rfl, rfl, .inl ⟨_, _, rfl, upd_same, k9.append (reps_cons rv reps_nil)⟩⟩) (s1.bb.trans s2.bb)
/-- x[i] = e: a list or a dict -/
theorem ps_or {st : Stmt} {t u : TS} (h : PS X st t) (h' : PS X st u) : PS X st (fun Dn σ H => t Dn σ H ∨ u Dn σ H) := ⟨fun pins s σ H Dn I q => q.elim (h.run pins s σ H Dn I) (h'.run pins s σ H Dn I)⟩
theorem ss_asgIx {i : Nat} (G : Gd X) (ha : SE C X a x) (hb : SE C X b y) (hi : X.N[i]? = some n := by rfl) (hv : Vis X.env.scope n := by first | exact Or.inl rfl | exact Or.inr (Or.inl rfl) | exact Or.inr (Or.inr rfl)) (hd : (n == ("__debug__" : Str)) = false := by decide) (hcd : (n == ("__classdict__" : Str)) = false := by decide)
    (hs : swapsWithSole [.Subscript (.Name n pos1) x pos2] y pos.line X.env = pure false := by rfl) (hw : swappedStores [.Subscript (.Name n pos1) x pos2] y X.env = pure none := by rfl) (h1 : (assignEach [.Subscript (.Name n pos1) x pos2] X.env).map (·.2) = [assign (.Subscript (.Name n pos1) x pos2) X.env] := by rfl)
    (hs2 : swapsWith y (some (.Subscript (.Name n pos1) x pos2)) pos.line X.env = pure false := by rfl)
    (hga : ∀ v, assign (.Subscript (.Name n pos1) x pos2) X.env v = (do
      let ov ← holding [v] (eval (.Name n pos1) X.env)
      let iv ← holding [v, ov] (eval x X.env)
      standAt pos2
      holding [v, ov, iv] (setItem ov iv v)
      release [v, ov, iv] []) := by intro _; rfl) : SS C X (.asgIx i a b) (.Assign [.Subscript (.Name n pos1) x pos2] y pos) := by
  refine imp_s (ps_or (ps_asg hb (pg_sub (pv i hi hv hd hcd) ha set_list hga) hs hw h1) (ps_dput (by have := G.un; omega) (pv i hi hv hd hcd) ha hb hs2)) fun Dn σ H ⟨B0, H0, B, env, o, out, R, he, q⟩ => ?_
  obtain ⟨dv, h1, h2⟩ := bind1_some (show ((vm (ev C b env)).bind fun v => (bm (ev C a env)).bind fun x => match env[i]? with
      | some (.val (.lst xs) .own1) => (asInt x).bind fun j => (Hg.ixN xs.length j).map fun n => Out.nx (env.set i (.val (.lst (xs.set n v)) .own1))
      | some (.val (.dic kvs) .own1) => (keyD x).bind fun k => if kvs.length < L then some (.nx (env.set i (.val (.dic (put kvs k v)) .own1))) else none
      | _ => none) = some out from he)
  obtain ⟨dx, h3, h4⟩ := bind1_some h2
  split at h4
  · rename_i xs hi'
    obtain ⟨j, h5, h6⟩ := bind1_some h4
    obtain rfl := asInt_some h5
    rw [Option.map_eq_some_iff] at h6
    obtain ⟨m, h7, rfl⟩ := h6
    refine .inl (use_v R h1 fun B1 H1 v s1 rv => ?_)
    obtain ⟨p, vs, k1, k2, k3, _⟩ := (R.step s1).lst1 hi'
    refine ⟨.ref p, k1, use_b (R.step s1) h3 fun B2 H2 u s2 ru => ?_⟩
    obtain ⟨p', vs', k1', k2', k3', mk⟩ := ((R.step s1).step s2).lst1 hi'
    rw [k1] at k1'
    cases k1'
    refine ⟨p, vs', j, m, rfl, rep_int ru, k2', by rw [k3'.length]; exact h7, ?_⟩
    exact q B2 σ _ o (mk _ _ (k3'.set m (Rep.mono s2.bb _ _ rv))) (s1.bb.trans s2.bb)
  · rename_i kvs hi'
    obtain ⟨kk, h5, h6⟩ := bind1_some h4
    obtain ⟨hz, h7⟩ := if_some h6
    cases h7
    refine .inr (use_v R h1 fun B1 H1 v s1 rv => ?_)
    obtain ⟨p, vs, k1, k2, k3, _⟩ := (R.step s1).dic1 hi'
    refine ⟨.ref p, k1, use_b (R.step s1) h3 fun B2 H2 u s2 ru => ?_⟩
    obtain ⟨p', vs', k1', k2', k3', mk⟩ := ((R.step s1).step s2).dic1 hi'
    rw [k1] at k1'
    cases k1'
    refine ⟨p, _, rfl, ?_, q B2 σ _ o (mk _ _ (k3'.put (Rep.mono s2.bb _ _ rv))) (s1.bb.trans s2.bb)⟩
    rw [kV_ky h5 ru]
    exact DPut.k k2' (by rw [k3'.length]; exact sizeLt hz)
  · cases h4

/-! ### loops -/
theorem andThen_some {o1 : Option Out} {f : Hg.Env → Option Out} {out : Out} (h : andThen o1 f = some out) : (∃ e, o1 = some (.nx e) ∧ f e = some out) ∨ ∃ d, o1 = some (.rt d) ∧ out = .rt d := by
  match o1, h with
  | some (.nx e), h => exact .inl ⟨e, rfl, h⟩
  | some (.rt d), h => exact .inr ⟨d, rfl, (Option.some.inj h).symm⟩
theorem ss_wh {xs : List Stmt} (hp : PassesOwn (model X.prog X.w) X.A X.env X.xe) (ht : ST C X t z) (hb : SB C X s xs) : SS C X (.wh t s) (.While z xs [] pos) := imp_s (ps_while hp ht hb) fun Dn σ H ⟨B0, H0, B, env, o, out, R, he, q⟩ => by
  refine ⟨fun m σ' H' => ∃ B' env' o', Rel X.K B0 H0 B' env' σ' H' o' ∧ Ext B B' ∧ loopW (evT C t) (exec C FU s) m env' = some out, ⟨FU, B, env, o, R, Ext.refl _, he⟩, ?_⟩
  rintro m σ' H' ⟨B1, env1, o1, R1, e1, h1⟩
  cases m with
  | zero => cases h1
  | succ m =>
    obtain ⟨b, h2, h3⟩ := bind1_some (show ((evT C t env1).bind fun p => if p then andThen (exec C FU s env1) (loopW (evT C t) (exec C FU s) m) else some (.nx env1)) = some out from h1)
    refine use_t R1 h2 fun B2 H2 s2 => ?_
    cases b with
    | false =>
      cases h3
      exact q B2 σ' H2 o1 (R1.step s2) (e1.trans s2.bb)
    | true =>
      refine ⟨fun σ3 H3 => ∃ B' env' o', Rel X.K B0 H0 B' env' σ3 H3 o' ∧ Ext B B' ∧ loopW (evT C t) (exec C FU s) m env' = some out, fun σ3 H3 h => ⟨m, Nat.lt_succ_self _, h⟩, ?_⟩
      rcases andThen_some h3 with ⟨e, h4, h5⟩ | ⟨d, h4, h5⟩
      · exact ⟨B0, H0, B2, env1, o1, .nx e, R1.step s2, h4, fun B' σ4 H4 o4 R4 e4 => ⟨B', e, o4, R4, (e1.trans s2.bb).trans e4, h5⟩⟩
      · subst h5
        exact ⟨B0, H0, B2, env1, o1, .rt d, R1.step s2, h4, q⟩
theorem ss_for {xs : List Stmt} {tgx iter : Expr} {tg : Tg} {it : Hg.It} (G : Gd X) (hp : PassesOwn (model X.prog X.w) X.A X.env X.xe) (hi : SI C X tgx it iter) (hg : SG X tg tgx) (hb : SB C X s xs) (hs : ∀ x, foldedSetIterable iter X.env x = pure x := by intro _; rfl) :
    SS C X (.for_ tg it s) (.For tgx iter xs [] pos) := imp_s (ps_for hp G.calm hi hg hb hs) fun Dn σ H ⟨B0, H0, B, env, o, out, R, he, q⟩ => by
  obtain ⟨⟨ds, ow⟩, h1, h2⟩ := bind1_some (show ((evI C it env).bind fun xs => if xs.2 then none else loopF (fun d e => (bindT tg d e).bind (exec C FU s)) xs.1 env) = some out from he)
  have ho : ow = false := by
    cases ow with
    | false => rfl
    | true => cases h2
  subst ho
  have h2' : loopF (fun d e => (bindT tg d e).bind (exec C FU s)) ds env = some out := h2
  refine ⟨B0, H0, B, env, o, ds, false, R, h1, fun B1 H1 J Gh s1 eG hG hJ => ?_⟩
  refine ⟨fun i m σ' H' => ∃ B' env' o', Rel X.K B0 H0 B' env' σ' H' o' ∧ Ext B1 B' ∧ m = ds.length - i ∧ i ≤ ds.length ∧ loopF (fun d e => (bindT tg d e).bind (exec C FU s)) (ds.drop i) env' = some out,
    ⟨ds.length, B1, env, o, R.step s1, Ext.refl _, by omega, Nat.zero_le _, h2'⟩, ?_⟩
  rintro i m σ' H' ⟨B2, env2, o2, R2, e2, rfl, hle, hlp⟩
  have eGc : Ext Gh H' := hG rfl H' (e2.trans R2.bh) R2.h0
  by_cases hlt : i < ds.length
  · refine .inr ⟨hJ.go i H' hlt eGc, _, fun σ3 H3 h => ⟨ds.length - (i + 1), by omega, h⟩, fun x H3 hy => ?_⟩
    obtain ⟨Bn, sn, rn⟩ := hJ.yl i H' x H3 B2 ds[i] (List.getElem?_eq_getElem hlt) e2 R2.bh eGc hy
    rw [List.drop_eq_getElem_cons hlt] at hlp
    have hlp' : andThen ((bindT tg ds[i] env2).bind (exec C FU s)) (loopF (fun d e => (bindT tg d e).bind (exec C FU s)) (ds.drop (i + 1))) = some out := hlp
    have key : ∀ o1, (bindT tg ds[i] env2).bind (exec C FU s) = some o1 → ∃ env3, bindT tg ds[i] env2 = some env3 ∧ exec C FU s env3 = some o1 := fun o1 h => bind1_some h
    rcases andThen_some hlp' with ⟨e, h4, h5⟩ | ⟨d, h4, h5⟩
    · obtain ⟨env3, h6, h7⟩ := key _ h4
      refine ⟨B0, H0, Bn, env2, o2, ds[i], env3, R2.step sn, rn, h6, fun σ4 o4 R4 _ => ⟨B0, H0, Bn, env3, o4, .nx e, R4, h7, fun B' σ5 H5 o5 R5 e5 => ⟨B', e, o5, R5, (e2.trans sn.bb).trans e5, rfl, hlt, h5⟩⟩⟩
    · subst h5
      obtain ⟨env3, h6, h7⟩ := key _ h4
      exact ⟨B0, H0, Bn, env2, o2, ds[i], env3, R2.step sn, rn, h6, fun σ4 o4 R4 _ => ⟨B0, H0, Bn, env3, o4, .rt d, R4, h7, q⟩⟩
  · have hie : i = ds.length := by omega
    rw [hie, List.drop_length] at hlp
    cases hlp
    exact .inl ⟨hJ.st i H' hie eGc, q B2 σ' H' o2 R2 (s1.bb.trans e2)⟩
end

/-! ### a def -/
structure Bf (mg : Str → Option Value) : Prop where
  len : mg ("len" : Str) = none
  range : mg ("range" : Str) = none
  sorted : mg ("sorted" : Str) = none
  min : mg ("min" : Str) = none
  max : mg ("max" : Str) = none
  sum : mg ("sum" : Str) = none
  isi : mg ("isinstance" : Str) = none
  list : mg ("list" : Str) = none
  tuple : mg ("tuple" : Str) = none
  dict : mg ("dict" : Str) = none
  int : mg ("int" : Str) = none
  str : mg ("str" : Str) = none
  bool : mg ("bool" : Str) = none
  set : mg ("set" : Str) = none
  enum : mg ("enumerate" : Str) = none
  rev : mg ("reversed" : Str) = none
  zip : mg ("zip" : Str) = none
abbrev cx0 (P : Program) (w : World) (K : PySem.W.Frag) (mg : Str → Option Value) (base : Heap) (N : List Str) (ql : Str) (st : Stmt) (f : Addr) (cdv : Value) (A : Around) (outer : List PySem.Env) (s : Shared) (H : Hp) (E : XK) : Cx := (cxOf CX0 P w K mg base N ql (defScope st) f cdv A outer s H E).nox
theorem startEnv_length (fd : FDef) (ds : List D) (h : ds.length ≤ fd.slots) : (startEnv fd ds).length = fd.slots := by
  unfold startEnv
  rw [List.length_append, List.length_map, List.length_zipIdx, List.length_replicate]
  omega
theorem repM_get {K : PySem.W.Frag} {B H : Hp} : ∀ {m : List Bool} {ds : List D} {vs : List V} {i : Nat} {d : D}, RepM K B H m ds vs → ds[i]? = some d → ∃ v, vs[i]? = some v ∧ (if m.getD i false then Rep K H d v else Rep K B d v)
  | m, [], vs, i, d, h, e => by simp at e
  | m, d' :: ds, vs, 0, d, h, e => by
    obtain ⟨v, r, rfl, h1, h2⟩ := h
    have e' : d' = d := by simpa using e
    subst e'
    refine ⟨v, rfl, ?_⟩
    cases m <;> exact h1
  | m, d' :: ds, vs, i + 1, d, h, e => by
    obtain ⟨v, r, rfl, h1, h2⟩ := h
    obtain ⟨u, q1, q2⟩ := repM_get h2 (i := i) (d := d) (by simpa using e)
    refine ⟨u, by simpa using q1, ?_⟩
    cases m with
    | nil => simpa using q2
    | cons b m => simpa using q2
theorem fn_in {P : Program} {w : World} {K : PySem.W.Frag} {mg : Str → Option Value} {base : Heap} {C : Nat → List D → Option D} {ql : Str} {st : Stmt} {f : Addr} {N ps : List Str} {k : Nat} (fdef : FDef) (S : FnScope N ps (defScope st)) (bf : Bf mg) (hN : N.length = fdef.slots) (hle : fdef.params ≤ fdef.slots)
    {cdv : Value} {A : Around} {outer : List PySem.Env} {s : Shared} {H : Hp} {vs : List V} {Q : VK} {E : XK} (hb : Gd (cx0 P w K mg base N ql st f cdv A outer s H E) → SB C (cx0 P w K mg base N ql st f cdv A outer s H E) fdef.body (defBody st))
    (hr : Room k (A.deeper (envOfC ql (defScope st) s.heap.objs.size f cdv))) (h : spF K fdef.lent fdef.params (runF C fdef) vs H Q E) :
    ∃ t, PSs (cxOf CX0 P w K mg base N ql (defScope st) f cdv A outer s H E).nox (defBody st) t ∧ t { nx := fun _ H' => Q .non H', rt := Q } (L2.start N vs) H := by
  obtain ⟨B, ds, d, e1, e2, e3, e4, ett, q⟩ := h
  have hu : Gd (cx0 P w K mg base N ql st f cdv A outer s H E) := ⟨rfl, S.nd, by have := hr.un; show (A.deeper _).units + 80 < cLine; omega, bf.len, bf.range, bf.sorted, bf.min, bf.max, bf.sum, bf.isi, bf.list, bf.tuple, bf.dict, bf.int, bf.str, bf.bool, bf.set, bf.enum, bf.rev, bf.zip⟩
  refine ⟨tS C K fdef.body, hb hu, ?_⟩
  unfold runF at e4
  by_cases hd : ds.length = fdef.params
  · rw [if_pos hd] at e4
    cases hx : exec C FU fdef.body (startEnv fdef ds) with
    | none => rw [hx] at e4; cases e4
    | some out =>
      rw [hx] at e4
      have hsl : (startEnv fdef ds).length = fdef.slots := startEnv_length fdef ds (by omega)
      have hvl : vs.length = ds.length := e3.length
      refine ⟨B, H, B, startEnv fdef ds, fun _ => none, out, ⟨Ext.refl _, Ext.refl _, e1, ett, fun a h => .inl h, ?_, fun i d' k' hi => ?_, (fun a i h => nomatch h), (fun a i h => nomatch h)⟩, hx, ?_⟩
      · rw [hsl]
        unfold L2.start
        rw [List.length_append, List.length_map, List.length_replicate]
        omega
      · unfold startEnv at hi
        by_cases hil : i < ds.length
        · rw [List.getElem?_append_left (by rw [List.length_map, List.length_zipIdx]; exact hil), List.getElem?_map, List.getElem?_zipIdx, List.getElem?_eq_getElem hil] at hi
          have hi2 : some (Slot.val ds[i] (if fdef.lent.getD (0 + i) false then .lent else .frz)) = some (.val d' k') := hi
          injection hi2 with hi3
          injection hi3 with hi4 hi5
          obtain ⟨v, g1, g2⟩ := repM_get e3 (List.getElem?_eq_getElem hil)
          refine ⟨v, [], ?_, ?_, List.nodup_nil, by simp⟩
          · unfold L2.start
            rw [List.getElem?_append_left (by rw [List.length_map, hvl]; exact hil), List.getElem?_map, g1]
            rfl
          · subst hi4 hi5
            rw [Nat.zero_add]
            by_cases hm : fdef.lent.getD i false = true
            · rw [if_pos hm] at g2 ⊢
              exact ⟨rfl, g2⟩
            · rw [if_neg hm] at g2 ⊢
              exact ⟨rfl, g2⟩
        · rw [List.getElem?_append_right (by rw [List.length_map, List.length_zipIdx]; omega), List.getElem?_replicate] at hi
          split at hi
          · cases hi
          · cases hi
      · cases out with
        | rt d2 =>
          cases e4
          exact fun B' H' v s r => q B' H' v s r
        | nx env' =>
          cases e4
          exact fun B' σ' H' o' R e => q B' H' .non R.done non_rep
  · rw [if_neg hd] at e4
    cases e4
theorem fn_ok {P : Program} {w : World} {K : PySem.W.Frag} {mg : Str → Option Value} {base : Heap} {C : Nat → List D → Option D} {n ql : Str} {st : Stmt} {f : Addr} {fd : FuncData} {N ps : List Str} {k : Nat} (fdef : FDef)
    (F : Fun K n ql st f fd) (S : FnScope N ps (defScope st)) (bf : Bf mg) (hN : N.length = fdef.slots) (hps : ps.length = fdef.params) (hle : fdef.params ≤ fdef.slots)
    (hb : ∀ (cdv : Value) (A : Around) (outer : List PySem.Env) (s : Shared) (H : Hp) (E : XK), Room k (cx0 P w K mg base N ql st f cdv A outer s H E).A → Gd (cx0 P w K mg base N ql st f cdv A outer s H E) → SB C (cx0 P w K mg base N ql st f cdv A outer s H E) fdef.body (defBody st)) :
    FnOk P w K mg base CX0 (k + 1) f fd ps (spF K fdef.lent fdef.params (runF C fdef)) := by
  refine F.ok S (fun vs H Q E ⟨B, ds, d, _, h, _⟩ => by rw [h, hps]) (fun cdv A outer s H vs Q E hr h => ?_)
  exact fn_in fdef S bf hN hle (fun hu => hb cdv A outer s H E hr hu) hr h
/-- a def whose code object is known -/
theorem fn_okC {P : Program} {w : World} {K : PySem.W.Frag} {mg : Str → Option Value} {base : Heap} {C : Nat → List D → Option D} {n : Str} {st : Stmt} {f cM : Addr} {oc kV doc pm ct : Value} {od an : Option Addr} {osl : Array (Option Value)} {N ps : List Str} {k : Nat} (fdef : FDef)
    (lk : K.lookup f = some ⟨oc, od, .func (PySem.W.fnOf n n (defArgs st) (defBody st) (defScope st) .none kV doc pm an (.ref cM) ct), osl⟩) (hcd : PySem.W.codeIn K (.ref cM) n = true)
    (S : FnScope N ps (defScope st)) (bf : Bf mg) (hN : N.length = fdef.slots) (hps : ps.length = fdef.params) (hle : fdef.params ≤ fdef.slots)
    (hb : ∀ (A : Around) (outer : List PySem.Env) (s : Shared) (H : Hp) (E : XK), Room k (cx0 P w K mg base N n st f (.ref cM) A outer s H E).A → Gd (cx0 P w K mg base N n st f (.ref cM) A outer s H E) → SB C (cx0 P w K mg base N n st f (.ref cM) A outer s H E) fdef.body (defBody st)) :
    FnOk P w K mg base CX0 (k + 1) f (PySem.W.fnOf n n (defArgs st) (defBody st) (defScope st) .none kV doc pm an (.ref cM) ct) ps (spF K fdef.lent fdef.params (runF C fdef)) := by
  refine fn_of lk hcd S (fun vs H Q E ⟨B, ds, d, _, h, _⟩ => by rw [h, hps]) fun A outer s H vs Q E hr h => ?_
  obtain ⟨t, ht, q⟩ := fn_in fdef S bf hN hle (fun hu => hb A outer s H E hr hu) hr h
  exact ⟨t, ht.nox, q⟩
/-- a def as what is called -/
theorem cal_of {P : Program} {w : World} {K : PySem.W.Frag} {mg : Str → Option Value} {base : Heap} {k : Nat} {n ql : Str} {st : Stmt} {f : Addr} {fd : FuncData} {ps : List Str} {lent : List Bool} {np : Nat} {sem : List D → Option D} (F : Fun K n ql st f fd)
    (h : FnOk P w K mg base CX0 k f fd ps (spF K lent np sem)) (g : mg n = some (.ref f)) (b : Binds K fd ps []) : Cal P w K mg base k n lent np sem := ⟨f, fd, ps, h, g, F.kp, b⟩
/-- the law's own promise, from its value -/
theorem law_sp {K : PySem.W.Frag} {H : Hp} {a : Addr} {ns : List Int} {sem : List D → Option D} {lent : List Bool} (hS : SqL K H a (ns.map V.int)) (h : sem [.lst (ns.map D.int)] = some (.bl true)) (ht : TabsOk H) (hl : lent = [] ∨ lent = [false]) :
    spF K lent 1 sem [.ref a] H (fun v _ => v = .bl true) fun _ _ _ => False := by
  refine ⟨H, [.lst (ns.map D.int)], .bl true, Ext.refl _, rfl, ⟨.ref a, [], rfl, ?_, rfl⟩, h, ht, fun B' H' v s r => rep_bl r⟩
  have r : Rep K H (.lst (ns.map D.int)) (.ref a) := lst_rep hS (reps_ints ns)
  rcases hl with rfl | rfl <;> exact r
end Hg
end

section
set_option Elab.async false
set_option maxRecDepth 100000
set_option maxHeartbeats 4000000
/-! Snd9: extend, pop. -/
namespace Hg
open PySem PySem.Spec PyProof.Rows L2
variable [TB : Tabl]
variable {C : Nat → List D → Option D} {X : Cx} {a b e : E} {x y z : Expr} {n : Str} {pos pos1 pos2 p : Pos}
theorem ss_ext {i : Nat} (h : SE C X a x) (hi : X.N[i]? = some n := by rfl) (hv : Vis X.env.scope n := by first | exact Or.inl rfl | exact Or.inr (Or.inl rfl) | exact Or.inr (Or.inr rfl)) (hd : (n == ("__debug__" : Str)) = false := by decide) (hcd : (n == ("__classdict__" : Str)) = false := by decide)
    (hs : swapsWith (.Call (.Attribute (.Name n pos1) "extend" pos2) [x] [] p) none pos.line X.env = pure false := by rfl) (hbase : attributeBase (.Name n pos1) "extend" X.env (eval (.Name n pos1) X.env) = eval (.Name n pos1) X.env := by rfl)
    (hfew : ((backTo p (starEach [x] X.env)).all (fun x => !x.1) && (backToKw p (keywordEach [] X.env)).all (fun x => x.1.isSome) && decide ([x].length + ([] : List Keyword).length + (if ([] : List Keyword).isEmpty then 0 else 1) < 30)) = true := by rfl)
    (hline : (pos2.endLine == p.line) = true := by rfl) (hst : starEach [x] X.env = (false, eval x X.env) :: starEach [] X.env := by rfl) : SS C X (.ext i a) (.Expr (.Call (.Attribute (.Name n pos1) "extend" pos2) [x] [] p) pos) := by
  refine imp_s (ps_expr (pe_bm PySem.F.plainAttrs_list PySem.F.slot_list_extend PySem.F.type_list_extend mt_extend (pv i hi hv hd hcd) (pa_cons h pa_nil hst) hbase hfew hline hst rfl) hs) fun Dn σ H ⟨B0, H0, B, env, o, out, R, he, q⟩ => ?_
  obtain ⟨⟨d, k⟩, h1, h2⟩ := bind1_some (show ((ev C a env).bind fun p => match env[i]?, p with
      | some (.val (.lst xs) .own1), (.lst ys, .new1) => if xs.length + ys.length < L then some (Out.nx (env.set i (.val (.lst (xs ++ ys)) .own1))) else none
      | _, _ => none) = some out from he)
  cases hi : env[i]? with
  | none => rw [hi] at h2; cases h2
  | some sl =>
    rw [hi] at h2
    match sl, hi, h2 with
    | .val (.lst xs) .own1, hi, h2 =>
      match d, k, h1, h2 with
      | .lst ys, .new1, h1, h2 =>
        obtain ⟨hz, h3⟩ := if_some h2
        cases h3
        obtain ⟨p, vs, h4, h5, h6, _⟩ := R.lst1 hi
        refine ⟨.ref p, h4, .inl ⟨rfl, vs, SqL.of h5⟩, ?_⟩
        refine ⟨B0, H0, B, env, o, _, _, R, h1, fun B' H' v F s r f => ?_⟩
        obtain ⟨p2, vs2, rfl, rfl, h7, r2⟩ := own1_lst (show Own1 X.K B' H' v (.lst ys) F from r)
        obtain ⟨p', vs', h4', h5', h6', mk⟩ := (R.step s).lst1 hi
        rw [h4] at h4'
        cases h4'
        refine ⟨p, p2, vs', vs2, rfl, rfl, h5', h7, by rw [h6'.length, r2.length]; exact Nat.le_of_lt (sizeLt hz), ?_⟩
        exact q B' σ _ o (mk _ _ (h6'.append r2)) s.bb
/-! ### pop -/
theorem pop_read {K : PySem.W.Frag} {B0 H0 B H : Hp} {env : Hg.Env} {σ : L2.St} {o : Addr → Option Nat} {out : Out} {tg : Option Tg} {i : Nat} {at0 : Bool} (R : Rel K B0 H0 B env σ H o) (h : exec C FU (.pop tg i at0) env = some out) :
    ∃ p vs v d env1, σ[i]? = some (some (.ref p)) ∧ H p = some (.lst vs) ∧ (if at0 then vs[0]? else vs[vs.length - 1]?) = some v ∧ Rep K B d v ∧
      Rel K B0 H0 B env1 σ (upd H p (.lst (if at0 then vs.tail else vs.dropLast))) o ∧ (match tg with | none => some env1 | some t => bindT t d env1).map Out.nx = some out := by
  have h' : (match env[i]? with
      | some (.val (.lst xs) .own1) => ((if at0 then xs[0]? else xs[xs.length - 1]?)).bind fun d =>
          (match tg with | none => some (env.set i (.val (.lst (if at0 then xs.tail else xs.dropLast)) .own1)) | some t => bindT t d (env.set i (.val (.lst (if at0 then xs.tail else xs.dropLast)) .own1))).map Out.nx
      | _ => none) = some out := h
  cases hi : env[i]? with
  | none => rw [hi] at h'; cases h'
  | some sl =>
    rw [hi] at h'
    match sl, hi, h' with
    | .val (.lst xs) .own1, hi, h' =>
      obtain ⟨d, h1, h2⟩ := bind1_some h'
      obtain ⟨p, vs, h4, h5, h6, mk⟩ := R.lst1 hi
      cases at0 with
      | true =>
        obtain ⟨v, h7, h8⟩ := h6.get (show xs[0]? = some d from h1)
        exact ⟨p, vs, v, d, _, h4, h5, h7, h8, mk xs.tail vs.tail (by rw [← List.drop_one, ← List.drop_one]; exact h6.drop 1), h2⟩
      | false =>
        obtain ⟨v, h7, h8⟩ := h6.get (show xs[xs.length - 1]? = some d from h1)
        exact ⟨p, vs, v, d, _, h4, h5, by rw [if_neg (by decide), h6.length]; exact h7, h8, mk xs.dropLast vs.dropLast (by rw [List.dropLast_eq_take, List.dropLast_eq_take, h6.length]; exact h6.take _), h2⟩
section
variable {m : Str} {pos3 : Pos}
theorem ss_popD {i : Nat} (hi : X.N[i]? = some n := by rfl) (hv : Vis X.env.scope n := by first | exact Or.inl rfl | exact Or.inr (Or.inl rfl) | exact Or.inr (Or.inr rfl)) (hd : (n == ("__debug__" : Str)) = false := by decide) (hcd : (n == ("__classdict__" : Str)) = false := by decide)
    (hs : swapsWith (.Call (.Attribute (.Name n pos1) "pop" pos2) [] [] p) none pos.line X.env = pure false := by rfl) (hbase : attributeBase (.Name n pos1) "pop" X.env (eval (.Name n pos1) X.env) = eval (.Name n pos1) X.env := by rfl)
    (hline : (pos2.endLine == p.line) = true := by rfl) : SS C X (.pop none i false) (.Expr (.Call (.Attribute (.Name n pos1) "pop" pos2) [] [] p) pos) := by
  refine imp_s (ps_expr (pe_bm0 PySem.F.plainAttrs_list PySem.F.slot_list_pop PySem.F.type_list_pop mt_pop (pv i hi hv hd hcd) hbase hline) hs) fun Dn σ H ⟨B0, H0, B, env, o, out, R, he, q⟩ => ?_
  obtain ⟨p, vs, v, d, env1, h1, h2, h3, h4, R1, h5⟩ := pop_read R he
  cases h5
  exact ⟨.ref p, h1, .inl ⟨rfl, vs, SqL.of h2⟩, p, vs, v, rfl, rfl, h2, h3, q B σ _ o R1 (Ext.refl _)⟩
theorem ss_popN {i j : Nat} (G : Gd X) (hi : X.N[i]? = some n := by rfl) (hv : Vis X.env.scope n := by first | exact Or.inl rfl | exact Or.inr (Or.inl rfl) | exact Or.inr (Or.inr rfl)) (hd : (n == ("__debug__" : Str)) = false := by decide) (hcd : (n == ("__classdict__" : Str)) = false := by decide)
    (hj : X.N[j]? = some m := by rfl) (hx : Loc X.env.scope m := by first | exact .inl rfl | exact .inr rfl) (hf : X.fn m = true ∨ X.env.scope.names.lookup m = some .local := by first | exact .inl rfl | exact .inr rfl)
    (hs : swapsWith (.Call (.Attribute (.Name n pos1) "pop" pos2) [] [] p) (some (.Name m pos3)) pos.line X.env = pure false := by rfl) (hbase : attributeBase (.Name n pos1) "pop" X.env (eval (.Name n pos1) X.env) = eval (.Name n pos1) X.env := by rfl)
    (hline : (pos2.endLine == p.line) = true := by rfl) : SS C X (.pop (some (.nm j)) i false) (.Assign [.Name m pos3] (.Call (.Attribute (.Name n pos1) "pop" pos2) [] [] p) pos) := by
  refine imp_s (ps_set G.nd hj hx (pe_bm0 PySem.F.plainAttrs_list PySem.F.slot_list_pop PySem.F.type_list_pop mt_pop (pv i hi hv hd hcd) hbase hline) hs hf) fun Dn σ H ⟨B0, H0, B, env, o, out, R, he, q⟩ => ?_
  obtain ⟨p, vs, v, d, env1, h1, h2, h3, h4, R1, h5⟩ := pop_read R he
  cases h5
  exact ⟨.ref p, h1, .inl ⟨rfl, vs, SqL.of h2⟩, p, vs, v, rfl, rfl, h2, h3, q B _ _ _ (R1.put (i := j) h4) (Ext.refl _)⟩
theorem ss_popN0 {i j : Nat} {x : Expr} (G : Gd X) (h0 : SE C X (.c (.int 0)) x) (hi : X.N[i]? = some n := by rfl) (hv : Vis X.env.scope n := by first | exact Or.inl rfl | exact Or.inr (Or.inl rfl) | exact Or.inr (Or.inr rfl)) (hd : (n == ("__debug__" : Str)) = false := by decide) (hcd : (n == ("__classdict__" : Str)) = false := by decide)
    (hj : X.N[j]? = some m := by rfl) (hx : Loc X.env.scope m := by first | exact .inl rfl | exact .inr rfl) (hf : X.fn m = true ∨ X.env.scope.names.lookup m = some .local := by first | exact .inl rfl | exact .inr rfl)
    (hs : swapsWith (.Call (.Attribute (.Name n pos1) "pop" pos2) [x] [] p) (some (.Name m pos3)) pos.line X.env = pure false := by rfl) (hbase : attributeBase (.Name n pos1) "pop" X.env (eval (.Name n pos1) X.env) = eval (.Name n pos1) X.env := by rfl)
    (hfew : ((backTo p (starEach [x] X.env)).all (fun x => !x.1) && (backToKw p (keywordEach [] X.env)).all (fun x => x.1.isSome) && decide ([x].length + ([] : List Keyword).length + (if ([] : List Keyword).isEmpty then 0 else 1) < 30)) = true := by rfl)
    (hline : (pos2.endLine == p.line) = true := by rfl) (hst : starEach [x] X.env = (false, eval x X.env) :: starEach [] X.env := by rfl) : SS C X (.pop (some (.nm j)) i true) (.Assign [.Name m pos3] (.Call (.Attribute (.Name n pos1) "pop" pos2) [x] [] p) pos) := by
  refine imp_s (ps_set G.nd hj hx (pe_bm PySem.F.plainAttrs_list PySem.F.slot_list_pop PySem.F.type_list_pop mt_popAt (pv i hi hv hd hcd) (pa_cons h0 pa_nil hst) hbase hfew hline hst rfl) hs hf) fun Dn σ H ⟨B0, H0, B, env, o, out, R, he, q⟩ => ?_
  obtain ⟨p, vs, v, d, env1, h1, h2, h3, h4, R1, h5⟩ := pop_read R he
  have h2' := h2
  refine ⟨.ref p, h1, .inl ⟨rfl, vs, SqL.of h2⟩, ?_⟩
  refine use_b R (d := .int 0) rfl fun B' H' u s ru => ?_
  have hu := rep_int ru
  subst hu
  obtain ⟨p, vs, v, d, env1, h1', h2, h3, h4, R1, h5⟩ := pop_read (R.step s) he
  rw [h1] at h1'
  cases h1'
  cases h5
  cases vs with
  | nil => cases h3
  | cons w ws =>
    refine ⟨p, w :: ws, 0, 0, v, rfl, rfl, h2, by decide, by decide, ?_, h3, q B' _ _ _ (R1.put (i := j) h4) s.bb⟩
    unfold seqIndex?
    simp
theorem ss_popT {i : Nat} {is : List Nat} {xs : List Expr} {kk : Nat} (hg : SG X (.tp is) (.Tuple xs kk pos3)) (hi : X.N[i]? = some n := by rfl) (hv : Vis X.env.scope n := by first | exact Or.inl rfl | exact Or.inr (Or.inl rfl) | exact Or.inr (Or.inr rfl)) (hd : (n == ("__debug__" : Str)) = false := by decide) (hcd : (n == ("__classdict__" : Str)) = false := by decide)
    (hs : swapsWithSole [.Tuple xs kk pos3] (.Call (.Attribute (.Name n pos1) "pop" pos2) [] [] p) pos.line X.env = pure false := by rfl) (hw : swappedStores [.Tuple xs kk pos3] (.Call (.Attribute (.Name n pos1) "pop" pos2) [] [] p) X.env = pure none := by rfl)
    (ha : (assignEach [.Tuple xs kk pos3] X.env).map (·.2) = [assign (.Tuple xs kk pos3) X.env] := by rfl)
    (hbase : attributeBase (.Name n pos1) "pop" X.env (eval (.Name n pos1) X.env) = eval (.Name n pos1) X.env := by rfl)
    (hline : (pos2.endLine == p.line) = true := by rfl) : SS C X (.pop (some (.tp is)) i false) (.Assign [.Tuple xs kk pos3] (.Call (.Attribute (.Name n pos1) "pop" pos2) [] [] p) pos) := by
  refine imp_s (ps_asg (pe_bm0 PySem.F.plainAttrs_list PySem.F.slot_list_pop PySem.F.type_list_pop mt_pop (pv i hi hv hd hcd) hbase hline) hg hs hw ha) fun Dn σ H ⟨B0, H0, B, env, o, out, R, he, q⟩ => ?_
  obtain ⟨p, vs, v, d, env1, h1, h2, h3, h4, R1, h5⟩ := pop_read R he
  rw [Option.map_eq_some_iff] at h5
  obtain ⟨env', h5, rfl⟩ := h5
  refine ⟨.ref p, h1, .inl ⟨rfl, vs, SqL.of h2⟩, p, vs, v, rfl, rfl, h2, h3, ?_⟩
  exact ⟨B0, H0, B, env1, o, d, env', R1, h4, h5, fun σ' o' R' _ => q B σ' _ o' R' (Ext.refl _)⟩
end
end Hg
end

section
set_option Elab.async false
set_option maxRecDepth 100000
set_option maxHeartbeats 4000000
/-! Snd10: dict of pairs. -/
namespace Hg
open PySem PySem.Spec PyProof.Rows L2
variable [TB : Tabl]
variable {C : Nat → List D → Option D} {X : Cx} {a b e : E} {x y z : Expr} {n : Str} {pos pos1 pos2 p : Pos}
def pairKV (d : D) : Option (Ky × D) := match d with | .tup [k, v] => (keyD k).map fun k => (k, v) | _ => none
theorem rep_key {K : PySem.W.Frag} {B : Hp} {d : D} {k : Ky} {v : V} (h : keyD d = some k) (r : Rep K B d v) : v = kV (ky k) := by
  cases d with
  | int i => cases h; exact rep_int r
  | str s => cases h; exact rep_str r
  | non => cases h
  | bl b => cases h
  | tup xs => cases h
  | lst xs => cases h
  | dic xs => cases h
theorem paired_of {K : PySem.W.Frag} {B H : Hp} (hb : Ext B H) : ∀ {ds : List D} {kvs : List (Ky × D)} {vs : List V}, optAll pairKV ds = some kvs → Reps K B ds vs →
    ∃ (ps : List Addr) (us : List (L2.Key × V)), vs = ps.map V.ref ∧ RepK K B kvs us ∧ Paired (fun p kv => SqT K H p [kV kv.1, kv.2]) ps us
  | [], kvs, vs, h, r => by
    cases h
    rw [r.nil_of]
    exact ⟨[], [], rfl, repk_nil, .nil⟩
  | d :: ds, kvs, vs, h, r => by
    simp only [optAll, Option.bind_eq_some_iff] at h
    obtain ⟨kv, h1, kvs', h2, h3⟩ := h
    cases h3
    obtain ⟨v, r', rfl, r1, r2⟩ := r.cons_of
    obtain ⟨ps, us, rfl, q1, q2⟩ := paired_of hb h2 r2
    match d, h1, r1 with
    | .tup [dk, dv], h1, r1 =>
      obtain ⟨k, h4, h5⟩ := Option.map_eq_some_iff.mp (show (keyD dk).map (fun k => (k, dv)) = some kv from h1)
      cases h5
      obtain ⟨q, ws, rfl, h6, h7⟩ := rep_tup r1
      obtain ⟨w1, r3, rfl, s1, h8⟩ := h7.cons_of
      obtain ⟨w2, r4, rfl, s2, h9⟩ := h8.cons_of
      have := h9.nil_of
      subst this
      have hk := rep_key h4 s1
      subst hk
      exact ⟨q :: ps, (ky k, w2) :: us, rfl, repk_cons s2 q1, .cons (SqT.of (hb.at h6 nt_tup)) q2⟩
theorem se_dictP (G : Gd X) (ha : SE C X a x) (hg : Gl X ("dict" : Str) := by rfl) (hs : starEach [x] X.env = (false, eval x X.env) :: starEach [] X.env := by rfl) : SE C X (.dictP a) (.Call (.Name ("dict" : Str) p) [x] [] pos) := by
  refine imp_e (pe_t1 (call_dictP G.calm) G.dict (by decide +kernel) ha hg hs (by decide) (by decide)) fun σ H Q h => ?_
  obtain ⟨B0, H0, B, env, o, d, k, R, he, q⟩ := h
  obtain ⟨da, h2, h3⟩ := bind1_some (show ((em (ev C a env)).bind fun x => match x with
      | .lst xs => (optAll pairKV xs).bind fun kvs => if kvs.length < L then some ((.dic (mergeKy [] kvs), .new1) : D × Kd) else none
      | _ => none) = some (d, k) from he)
  refine use_e R h2 fun B' H' u s ru => ?_
  cases da <;> simp only [reduceCtorEq] at h3
  obtain ⟨kvs, h4, h5⟩ := bind1_some h3
  obtain ⟨hz, h6⟩ := if_some h5
  cases h6
  obtain ⟨p1, vs, rfl, q1, r1⟩ := ru
  obtain ⟨ps, us, rfl, r2, r3⟩ := paired_of s.bh h4 r1
  exact ⟨p1, ps, us, rfl, q1, r3, fin_dict q rfl s (RepK.merge r2 repk_nil)⟩
end Hg
end

section
set_option Elab.async false
set_option maxRecDepth 100000
set_option maxHeartbeats 4000000
/-! Snd11: further built-in functions. -/
namespace Hg
open PySem PySem.Spec PyProof.Rows L2
variable [TB : Tabl]
variable {C : Nat → List D → Option D} {X : Cx} {a b c e : E} {x y z : Expr} {n : Str} {pos pos1 pos2 p p2 : Pos}
/-- list(range(n)) -/
theorem se_listRng (G : Gd X) (ha : SE C X a x) (hg : Gl X ("list" : Str) := by rfl) (hg2 : Gl X ("range" : Str) := by rfl) (hs : starEach [x] X.env = (false, eval x X.env) :: starEach [] X.env := by rfl)
    (hs2 : starEach [.Call (.Name ("range" : Str) p2) [x] [] pos2] X.env = (false, eval (.Call (.Name ("range" : Str) p2) [x] [] pos2) X.env) :: starEach [] X.env := by rfl) :
    SE C X (.listRng a) (.Call (.Name ("list" : Str) p) [.Call (.Name ("range" : Str) p2) [x] [] pos2] [] pos) := by
  refine imp_e (pe_listRg G.calm hg G.list (prg_1 hg2 G.range ha hs) hs2) fun σ H Q h => ?_
  obtain ⟨B0, H0, B, env, o, d, k, R, he, q⟩ := h
  obtain ⟨da, h1, h2⟩ := bind1_some (show ((bm (ev C a env)).bind fun x => (asInt x).bind fun n => if 0 ≤ n ∧ n ≤ 1000 then some ((.lst (rngD 0 n.toNat), .new1) : D × Kd) else none) = some (d, k) from he)
  obtain ⟨m, h3, h4⟩ := bind1_some h2
  obtain rfl := asInt_some h3
  obtain ⟨⟨hz0, hz⟩, h5⟩ := if_some h4
  cases h5
  refine use_b R h1 fun B' H' u s ru => ?_
  refine ⟨m, rep_int ru, RgOk.of_le (by omega) (by omega) (by omega) hz0, ?_⟩
  refine fin_list q rfl s ?_
  have e1 : rngD 0 m.toNat = (((List.range m.toNat).map fun i => (0 : Int) + (i : Nat))).map D.int := by
    unfold rngD; rw [List.map_map]; rfl
  have e2 : rgV 0 m = (((List.range m.toNat).map fun i => (0 : Int) + (i : Nat))).map V.int := by
    unfold rgV; rw [Int.sub_zero, List.map_map]; rfl
  rw [e1, e2]
  exact reps_ints _
/-! ### lists in order -/
theorem listLt_lexI : ∀ xs ys : List Int, PySem.W.listLt xs ys = lexI xs ys
  | [], [] => rfl
  | [], _ :: _ => rfl
  | _ :: _, [] => rfl
  | x :: xs, y :: ys => by
    unfold PySem.W.listLt lexI
    rw [listLt_lexI xs ys]
    rfl
def rLtL (K : PySem.W.Frag) : R2 := fun x y H Q => ∃ (a b : Addr) (ns ms : List Int), x = .ref a ∧ y = .ref b ∧ SqL K H a (ns.map V.int) ∧ SqL K H b (ms.map V.int) ∧ Q (.bl (lexI ns ms)) H
def rLeL (K : PySem.W.Frag) : R2 := fun x y H Q => ∃ (a b : Addr) (ns ms : List Int), x = .ref a ∧ y = .ref b ∧ SqL K H a (ns.map V.int) ∧ SqL K H b (ms.map V.int) ∧ Q (.bl (!lexI ms ns)) H
def rLtT2 (K : PySem.W.Frag) : R2 := fun x y H Q => ∃ (a b : Addr) (ns ms : List Int), x = .ref a ∧ y = .ref b ∧ H a = some (.tup (ns.map V.int)) ∧ H b = some (.tup (ms.map V.int)) ∧ Q (.bl (lexI ns ms)) H
def rLeT2 (K : PySem.W.Frag) : R2 := fun x y H Q => ∃ (a b : Addr) (ns ms : List Int), x = .ref a ∧ y = .ref b ∧ H a = some (.tup (ns.map V.int)) ∧ H b = some (.tup (ms.map V.int)) ∧ Q (.bl (!lexI ms ns)) H
theorem op_ltL (hu : X.A.units + 80 < cLine) : OpR X (compareOp .Lt) (rLtL X.K) := by
  intro pins s σ H x y v u Q I rx ry h
  obtain ⟨a, b, ns, ms, rfl, rfl, h1, h2, q⟩ := h
  cases rx; cases ry
  obtain ⟨its, rv, hl, hz⟩ := I.list h1
  obtain ⟨its2, rv2, hl2, hz2⟩ := I.list h2
  refine PySem.W.lt_datum (α := List Int) (x := ns) (y := ms) (PySem.W.holds_list hl.isList (by simpa using PySem.W.HoldAll.of_ints rv.ints)) (PySem.W.holds_list hl2.isList (by simpa using PySem.W.HoldAll.of_ints rv2.ints)) (by show X.A.units + (0 + 1) < cLine; omega) ⟨.bl _, H, I, rfl, ?_⟩
  rw [show PySem.W.DatumOrd.lt ns ms = PySem.W.listLt ns ms from rfl, listLt_lexI]
  exact q
theorem op_leL (hu : X.A.units + 80 < cLine) : OpR X (compareOp .LtE) (rLeL X.K) := by
  intro pins s σ H x y v u Q I rx ry h
  obtain ⟨a, b, ns, ms, rfl, rfl, h1, h2, q⟩ := h
  cases rx; cases ry
  obtain ⟨its, rv, hl, hz⟩ := I.list h1
  obtain ⟨its2, rv2, hl2, hz2⟩ := I.list h2
  refine PySem.W.le_datum (α := List Int) (x := ns) (y := ms) (PySem.W.holds_list hl.isList (by simpa using PySem.W.HoldAll.of_ints rv.ints)) (PySem.W.holds_list hl2.isList (by simpa using PySem.W.HoldAll.of_ints rv2.ints)) (by show X.A.units + (0 + 1) < cLine; omega) ⟨.bl _, H, I, rfl, ?_⟩
  rw [show PySem.W.DatumOrd.lt ms ns = PySem.W.listLt ms ns from rfl, listLt_lexI]
  exact q
theorem op_ltT2 (hu : X.A.units + 80 < cLine) : OpR X (compareOp .Lt) (rLtT2 X.K) := by
  intro pins s σ H x y v u Q I rx ry h
  obtain ⟨a, b, ns, ms, rfl, rfl, h1, h2, q⟩ := h
  cases rx; cases ry
  obtain ⟨its, rv, hl, hz⟩ := I.tuple (SqT.of h1)
  obtain ⟨its2, rv2, hl2, hz2⟩ := I.tuple (SqT.of h2)
  refine PySem.W.lt_datum (α := PySem.W.Tup Int) (x := ⟨ns⟩) (y := ⟨ms⟩) (PySem.W.holds_tup hl (by simpa using PySem.W.HoldAll.of_ints (Vals.ints rv))) (PySem.W.holds_tup hl2 (by simpa using PySem.W.HoldAll.of_ints (Vals.ints rv2))) (by show X.A.units + (0 + 1) < cLine; omega) ⟨.bl _, H, I, rfl, ?_⟩
  rw [show PySem.W.DatumOrd.lt (⟨ns⟩ : PySem.W.Tup Int) ⟨ms⟩ = PySem.W.listLt ns ms from rfl, listLt_lexI]
  exact q
theorem op_leT2 (hu : X.A.units + 80 < cLine) : OpR X (compareOp .LtE) (rLeT2 X.K) := by
  intro pins s σ H x y v u Q I rx ry h
  obtain ⟨a, b, ns, ms, rfl, rfl, h1, h2, q⟩ := h
  cases rx; cases ry
  obtain ⟨its, rv, hl, hz⟩ := I.tuple (SqT.of h1)
  obtain ⟨its2, rv2, hl2, hz2⟩ := I.tuple (SqT.of h2)
  refine PySem.W.le_datum (α := PySem.W.Tup Int) (x := ⟨ns⟩) (y := ⟨ms⟩) (PySem.W.holds_tup hl (by simpa using PySem.W.HoldAll.of_ints (Vals.ints rv))) (PySem.W.holds_tup hl2 (by simpa using PySem.W.HoldAll.of_ints (Vals.ints rv2))) (by show X.A.units + (0 + 1) < cLine; omega) ⟨.bl _, H, I, rfl, ?_⟩
  rw [show PySem.W.DatumOrd.lt (⟨ms⟩ : PySem.W.Tup Int) ⟨ns⟩ = PySem.W.listLt ms ns from rfl, listLt_lexI]
  exact q
theorem use_intsT {K : PySem.W.Frag} {H : Hp} {ds : List D} {ns : List Int} {v : V} (h : intsD ds = some ns) (r : Rep K H (.tup ds) v) : ∃ p, v = .ref p ∧ H p = some (.tup (ns.map V.int)) := by
  obtain ⟨p, vs, rfl, h1, h2⟩ := rep_tup r
  exact ⟨p, rfl, by rw [h1, Reps.ints h h2]⟩
theorem sc_ltL (G : Gd X) (ha : SE C X a x) (hb : SE C X b y) : SC C X (.ltL a b) .Lt x y := by
  refine se_cmp ((op_lt.or op_lt_str).or ((op_ltL G.un).or (op_ltT2 G.un))) ha hb fun K B0 H0 B env σ H o d k Q R he q hK => ?_
  subst hK
  obtain ⟨dx, dy, h1, h2, h3⟩ := bm2_some (f := fun x y => frB (ltD x y)) he
  obtain ⟨r, h4, rfl, rfl⟩ := frB_some h3
  refine two_b R h1 h2 fun B' H' u v s ru rv => ?_
  cases dx <;> cases dy <;> simp only [ltD, reduceCtorEq] at h4
  · cases h4
    exact .inl (.inl ⟨_, _, rep_int ru, rep_int rv, q B' H' _ [] s ⟨rfl, bl_rep⟩ FrF.nil⟩)
  · cases h4
    refine .inl (.inr ⟨_, _, rep_str ru, rep_str rv, ?_⟩)
    rw [show (sv _).cps.toList = _ from rfl, show (sv _).cps.toList = _ from rfl, lexS_lt]
    exact q B' H' _ [] s ⟨rfl, bl_rep⟩ FrF.nil
  · obtain ⟨ns, h5, h6⟩ := bind1_some h4
    obtain ⟨ms, h7, h8⟩ := bind1_some h6
    cases h8
    obtain ⟨p1, rfl, q1⟩ := use_intsT h5 ru
    obtain ⟨p2, rfl, q2⟩ := use_intsT h7 rv
    exact .inr (.inr ⟨p1, p2, ns, ms, rfl, rfl, q1, q2, q B' H' _ [] s ⟨rfl, bl_rep⟩ FrF.nil⟩)
  · obtain ⟨ns, h5, h6⟩ := bind1_some h4
    obtain ⟨ms, h7, h8⟩ := bind1_some h6
    cases h8
    obtain ⟨p1, rfl, q1⟩ := use_ints h5 ru
    obtain ⟨p2, rfl, q2⟩ := use_ints h7 rv
    exact .inr (.inl ⟨p1, p2, ns, ms, rfl, rfl, q1, q2, q B' H' _ [] s ⟨rfl, bl_rep⟩ FrF.nil⟩)
theorem sc_leL (G : Gd X) (ha : SE C X a x) (hb : SE C X b y) : SC C X (.leL a b) .LtE x y := by
  refine se_cmp ((op_le.or op_le_str).or ((op_leL G.un).or (op_leT2 G.un))) ha hb fun K B0 H0 B env σ H o d k Q R he q hK => ?_
  subst hK
  obtain ⟨dx, dy, h1, h2, h3⟩ := bm2_some (f := fun x y => frB ((ltD y x).map fun r => !r)) he
  obtain ⟨r, h4, rfl, rfl⟩ := frB_some h3
  rw [Option.map_eq_some_iff] at h4
  obtain ⟨t, h4, rfl⟩ := h4
  refine two_b R h1 h2 fun B' H' u v s ru rv => ?_
  cases dx <;> cases dy <;> simp only [ltD, reduceCtorEq] at h4
  · cases h4
    refine .inl (.inl ⟨_, _, rep_int ru, rep_int rv, ?_⟩)
    show Q (.bl (decide (_ ≤ _))) H'
    rw [← not_lt_dec]
    exact q B' H' _ [] s ⟨rfl, bl_rep⟩ FrF.nil
  · cases h4
    refine .inl (.inr ⟨_, _, rep_str ru, rep_str rv, ?_⟩)
    rw [show (sv _).cps.toList = _ from rfl, show (sv _).cps.toList = _ from rfl, lexS_lt]
    exact q B' H' _ [] s ⟨rfl, bl_rep⟩ FrF.nil
  · obtain ⟨ns, h5, h6⟩ := bind1_some h4
    obtain ⟨ms, h7, h8⟩ := bind1_some h6
    cases h8
    obtain ⟨p1, rfl, q1⟩ := use_intsT h7 ru
    obtain ⟨p2, rfl, q2⟩ := use_intsT h5 rv
    exact .inr (.inr ⟨p1, p2, ms, ns, rfl, rfl, q1, q2, q B' H' _ [] s ⟨rfl, bl_rep⟩ FrF.nil⟩)
  · obtain ⟨ns, h5, h6⟩ := bind1_some h4
    obtain ⟨ms, h7, h8⟩ := bind1_some h6
    cases h8
    obtain ⟨p1, rfl, q1⟩ := use_ints h7 ru
    obtain ⟨p2, rfl, q2⟩ := use_ints h5 rv
    exact .inr (.inl ⟨p1, p2, ms, ns, rfl, rfl, q1, q2, q B' H' _ [] s ⟨rfl, bl_rep⟩ FrF.nil⟩)
/-! ### max with default, of texts -/
theorem maxOf_int (x : Int) : ∀ xs : List Int, PySem.W.maxOf x xs = xs.foldl max x := by
  intro xs
  unfold PySem.W.maxOf
  congr 1
  funext a y
  show (if decide (a < y) = true then y else a) = max a y
  by_cases h : a < y
  · simp [h]; omega
  · simp [h]; omega
def rMaxDf (K : PySem.W.Frag) : List V → List V → Hp → VK → Prop := fun vs zs H Q => ∃ (a : Addr) (ns : List Int) (d : Int), vs = [V.ref a] ∧ zs = [.int d] ∧ SqL K H a (ns.map V.int) ∧ Q (.int ((maxL ns).getD d)) H
theorem cr_maxDf (hc : X.calm = true) (hu : X.A.units + 80 < cLine) : CallRK X (.builtin "max") [Str.ofString "default"] (rMaxDf X.K) := by
  intro pins s σ H vs zs us ws Q I r rz h
  obtain ⟨a, ns, d, rfl, rfl, hs, q⟩ := h
  obtain rfl := Vals.ref1 r
  obtain ⟨w1, rfl, t, e1⟩ := vals1 rz
  subst e1
  obtain ⟨its, rv, hl, hz⟩ := I.list hs
  refine PySem.W.max_list_datum_default (α := Int) (xs := ns) (I.ok.hd hc) hl.isList (by simpa using PySem.W.HoldAll.of_ints rv.ints) (by show X.A.units + 1 + 0 < cLine; omega) (fun e h' tk hk => ⟨.int d, H, I.kept hk, ⟨t, rfl⟩, by rw [e] at q; exact q⟩) ?_
  intro y ys i v h' tk e hi Hv hk
  obtain ⟨t', rfl⟩ := PySem.W.int_of_holds Hv
  refine ⟨.int _, H, I.kept hk, ⟨t', rfl⟩, ?_⟩
  rw [maxOf_int]
  rw [e] at q
  exact q
theorem se_maxd {j : Nat} {kpos pc : Pos} (G : Gd X) (ha : SE C X a x) (hg : Gl X ("max" : Str) := by rfl) (hs : backTo pos (starEach [x] X.env) = (false, eval x X.env) :: backTo pos (starEach [] X.env) := by rfl) (hs1 : starEach [x] X.env = (false, eval x X.env) :: starEach [] X.env := by rfl)
    (hpl : (backTo pos (starEach [x] X.env)).any (·.1) = false := by rfl) (hall : (backToKw pos (keywordEach [⟨some ("default" : Str), .Constant (.int 0) j pc, kpos⟩] X.env)).all (·.1.isSome) = true := by rfl)
    (hnone : (backToKw pos (keywordEach [⟨some ("default" : Str), .Constant (.int 0) j pc, kpos⟩] X.env)).any (·.1.isNone) = false := by rfl) (hks : (backToKw pos (keywordEach [⟨some ("default" : Str), .Constant (.int 0) j pc, kpos⟩] X.env)).filterMap (·.1) = [Str.ofString "default"] := by rfl) :
    SE C X (.maxd a) (.Call (.Name ("max" : Str) p) [x] [⟨some ("default" : Str), .Constant (.int 0) j pc, kpos⟩] pos) := by
  refine imp_e (pe_callBK (cr_maxDf G.calm G.un) hg G.max (by decide +kernel) (pa_cons ha pa_nil hs1) (pk_cons pe_int pk_nil) (by decide) (by decide) hs hpl hall hnone hks) fun σ H Q h => ?_
  obtain ⟨B0, H0, B, env, o, d, k, R, he, q⟩ := h
  obtain ⟨da, h1, h2⟩ := bind1_some (show ((bm (ev C a env)).bind fun x => match x with | .lst xs => frI ((intsD xs).map fun ns => (maxL ns).getD 0) | _ => none) = some (d, k) from he)
  refine use_b R h1 fun B' H' u s ru => ?_
  cases da <;> simp only [reduceCtorEq] at h2
  obtain ⟨m, h3, rfl, rfl⟩ := frI_some h2
  rw [Option.map_eq_some_iff] at h3
  obtain ⟨ns, h4, rfl⟩ := h3
  obtain ⟨p1, rfl, q1⟩ := use_ints h4 ru
  exact ⟨p1, ns, 0, rfl, rfl, q1, q B' H' _ [] s ⟨rfl, int_rep⟩ FrF.nil⟩
end Hg
end

section
set_option Elab.async false
set_option maxRecDepth 100000
set_option maxHeartbeats 4000000
/-! Snd12: texts: greatest, sorted down, joined; sets; index; others. -/
namespace Hg
open PySem PySem.Spec PyProof.Rows L2
variable [TB : Tabl]
variable {C : Nat → List D → Option D} {X : Cx} {a b c e : E} {x y z : Expr} {n : Str} {pos pos1 pos2 p p2 : Pos}
theorem sv_lt (s t : List Nat) : PySem.W.DatumOrd.lt (sv s) (sv t) = lexS s t := by
  show decide ((sv s).cps.toList < (sv t).cps.toList) = _
  rw [show (sv s).cps.toList = s from rfl, show (sv t).cps.toList = t from rfl, lexS_lt]
theorem maxOf_sv (x : List Nat) : ∀ xs : List (List Nat), PySem.W.maxOf (sv x) (xs.map sv) = sv (xs.foldl (fun a b => if lexS a b then b else a) x) := by
  intro xs
  unfold PySem.W.maxOf
  induction xs generalizing x with
  | nil => rfl
  | cons y ys ih =>
    rw [List.map_cons, List.foldl_cons, List.foldl_cons, sv_lt, ← ih]
    cases lexS x y <;> rfl
def rMaxS (K : PySem.W.Frag) : List V → Hp → VK → Prop := fun vs H Q => ∃ (a : Addr) (ss : List (List Nat)) (m : List Nat), vs = [V.ref a] ∧ SqL K H a ((ss.map sv).map V.str) ∧ maxS ss = some m ∧ Q (.str (sv m)) H
theorem cr_maxS (hc : X.calm = true) (hu : X.A.units + 80 < cLine) : CallR X (.builtin "max") (rMaxS X.K) := by
  intro pins s σ H vs us Q I r h
  obtain ⟨a, ss, m, rfl, hs, hm, q⟩ := h
  obtain rfl := Vals.ref1 r
  obtain ⟨its, rv, hl, hz⟩ := I.list hs
  cases ss with
  | nil => cases hm
  | cons x xs =>
    have hm' : xs.foldl (fun a b => if lexS a b then b else a) x = m := by simpa [maxS] using hm
    refine PySem.W.max_list_datum (α := Str) (x := sv x) (xs := xs.map sv) (I.ok.hd hc) hl.isList (by simpa using PySem.W.HoldAll.of_strs (Vals.strs rv)) (by show X.A.units + 1 + 0 < cLine; omega) ?_
    intro i v h' tk hi Hv hk
    obtain ⟨t', rfl⟩ := PySem.W.str_of_holds Hv
    refine ⟨.str _, H, I.kept hk, ⟨t', rfl⟩, ?_⟩
    rw [maxOf_sv, hm']
    exact q
theorem use_strs {K : PySem.W.Frag} {H : Hp} {ds : List D} {ns : List (List Nat)} {v : V} (h : strsD ds = some ns) (r : Rep K H (.lst ds) v) : ∃ p, v = .ref p ∧ SqL K H p ((ns.map sv).map V.str) := by
  obtain ⟨p, vs, rfl, h1, h2⟩ := rep_lst r
  exact ⟨p, rfl, by rw [← Reps.strs h h2]; exact h1⟩
theorem se_maxS (G : Gd X) (ha : SE C X a x) (hg : Gl X ("max" : Str) := by rfl) (hs : starEach [x] X.env = (false, eval x X.env) :: starEach [] X.env := by rfl) : SE C X (.maxS a) (.Call (.Name ("max" : Str) p) [x] [] pos) := by
  refine imp_e (pe_b1 (cr_maxS G.calm G.un) G.max (by decide +kernel) ha hg hs (by decide) (by decide)) fun σ H Q h => ?_
  obtain ⟨B0, H0, B, env, o, d, k, R, he, q⟩ := h
  obtain ⟨da, h1, h2⟩ := bind1_some (show ((bm (ev C a env)).bind fun x => match x with | .lst xs => fr (((strsD xs).bind maxS).map D.str) | _ => none) = some (d, k) from he)
  refine use_b R h1 fun B' H' u s ru => ?_
  cases da <;> simp only [reduceCtorEq] at h2
  obtain ⟨h3, rfl⟩ := fr_some h2
  rw [Option.map_eq_some_iff] at h3
  obtain ⟨m, h4, rfl⟩ := h3
  obtain ⟨ss, h5, h6⟩ := bind1_some h4
  obtain ⟨p1, rfl, q1⟩ := use_strs h5 ru
  exact ⟨p1, ss, m, rfl, q1, h6, q B' H' _ [] s ⟨rfl, str_rep⟩ FrF.nil⟩
/-! ### sorted, the greatest first -/
theorem q_lexS_irr (s : List Nat) : lexS s s = false := by
  rw [← lexS_lt]; simp
theorem q_lexS_tri {s t : List Nat} (h1 : lexS s t = false) (h2 : lexS t s = false) : s = t := by
  rw [← lexS_lt, decide_eq_false_iff_not] at h1 h2
  exact List.le_antisymm (List.not_lt.mp h2) (List.not_lt.mp h1)
theorem lexS_tr {s t u : List Nat} (h1 : lexS t s = false) (h2 : lexS u t = false) : lexS u s = false := by
  rw [← lexS_lt, decide_eq_false_iff_not, List.not_lt] at h1 h2 ⊢
  exact List.le_trans h1 h2
theorem q_sortS_pw (ss : List (List Nat)) : (sortS ss).Pairwise fun a b => lexS b a = false := by
  have h := List.pairwise_mergeSort (le := fun a b : List Nat => !lexS b a) (fun a b c h1 h2 => by
    simp only [Bool.not_eq_true'] at *
    exact lexS_tr h1 h2) (fun a b => by
    cases h1 : lexS b a with
    | false => rfl
    | true =>
      cases h2 : lexS a b with
      | false => rfl
      | true =>
        rw [← lexS_lt, decide_eq_true_eq] at h1 h2
        exact absurd (List.lt_trans h1 h2) (List.lt_irrefl _)) ss
  exact h.imp fun h => by simpa using h
theorem each_vals : ∀ {out : List Value} {bs : List (List Nat)}, PySem.W.EachIs (fun v b => ∃ t, v = Value.str (sv b) t) out bs → Vals ((bs.map sv).map V.str) out
  | _, _, .nil => .nil
  | _, _, .cons ⟨t, e⟩ h => by subst e; exact .cons ⟨t, rfl⟩ (each_vals h)
theorem each_of : ∀ {ss : List (List Nat)} {us : List Value}, Vals ((ss.map sv).map V.str) us → PySem.W.EachIs (fun v b => ∃ t, v = Value.str (sv b) t) us ss
  | [], us, h => by cases h; exact .nil
  | s :: ss, us, h => by
    rw [List.map_cons, List.map_cons] at h
    cases h with
    | cons r t =>
      obtain ⟨k, rfl⟩ := r
      exact .cons ⟨k, rfl⟩ (each_of t)
def rSortedSR (K : PySem.W.Frag) : List V → List V → Hp → VK → Prop := fun vs zs H Q => ∃ (a : Addr) (ss : List (List Nat)), vs = [V.ref a] ∧ zs = [.bl true] ∧ SqL K H a ((ss.map sv).map V.str) ∧
  ∀ (p : Addr), H p = none → Q (.ref p) (upd H p (.lst (((sortS ss).reverse.map sv).map V.str)))
theorem cr_sortedSR (hu : X.A.units + 80 < cLine) : CallRK X (.builtin "sorted") [Str.ofString "reverse"] (rSortedSR X.K) := by
  intro pins s σ H vs zs us ws Q I r rz h
  obtain ⟨a, ss, rfl, rfl, hs, q⟩ := h
  obtain rfl := Vals.ref1 r
  obtain ⟨w1, rfl, e1⟩ := vals1 rz
  obtain rfl : w1 = Value.bool true := e1
  obtain ⟨its, rv, hl, hz⟩ := I.list hs
  have he := each_of rv
  have hlen : ss.length ≤ sizeLine := by simpa using hz
  refine PySem.W.sorted_rev_data (enc := fun b : List Nat => PyData.str (sv b)) (R := fun v b => ∃ t, v = Value.str (sv b) t) hl.isList he (he.mono fun v b ⟨t, e⟩ => ⟨[], by subst e; exact .str _ t⟩) (PySem.W.AllAlike.of fun b b' => by simp [PySem.W.alike]) (PySem.W.Sortable.others fun b => ⟨(by intro z; cases z), fun xs z => by cases z⟩) hlen (fun b _ => by show X.A.units + 2 + 0 < cLine; omega) fun out ho heo => ?_
  have e2 : ss.mergeSort (PySem.W.dataLe true fun b => PyData.str (sv b)) = (sortS ss).reverse := by
    refine perm_sorted (r := fun a b => lexS a b = false) (fun a b h1 h2 => q_lexS_tri h1 h2) _ _ ((List.mergeSort_perm _ _).trans ((List.mergeSort_perm _ _).symm.trans (List.reverse_perm _).symm)) ?_ ?_
    · rw [PySem.W.dataGe_str fun b => sv b]
      have h := List.pairwise_mergeSort (le := fun a b : List Nat => decide ((sv b).cps.toList ≤ (sv a).cps.toList)) (fun a b c h1 h2 => decide_eq_true (List.le_trans (of_decide_eq_true h2) (of_decide_eq_true h1))) (fun a b => by
        rw [Bool.or_eq_true, decide_eq_true_eq, decide_eq_true_eq]
        exact List.le_total b a) ss
      refine h.imp fun {a b} h => ?_
      rw [← lexS_lt, decide_eq_false_iff_not, List.not_lt]
      exact of_decide_eq_true h
    · rw [List.pairwise_reverse]
      exact (q_sortS_pw ss).imp fun h => h
  obtain ⟨ep, he'⟩ := PyProof.Rows.sortedAll_at s.heap its out.toArray
  rw [e2] at heo
  have hv := each_vals heo
  have hlen2 : (((sortS ss).reverse.map sv).map V.str).length ≤ sizeLine := by
    rw [List.length_map, List.length_map, List.length_reverse]; unfold sortS; rw [(List.mergeSort_perm _ _).length_eq]
    exact hlen
  exact ⟨.ref _, upd H (s.heap.objs.size + 1) (.lst (((sortS ss).reverse.map sv).map V.str)), I.laid (t' := s.toks) (fun _ _ => PyProof.Rows.sortedAll_old) (Nat.le_succ _) ⟨hlen2, out, ep, hv, he'⟩, rfl, q _ (I.hok.fresh (Nat.le_succ _))⟩
end Hg
end

section
set_option Elab.async false
set_option maxRecDepth 100000
set_option maxHeartbeats 4000000
/-! Snd13: joined texts, chains, dicts of two, sorted keys, sets' sizes, index. -/
namespace Hg
open PySem PySem.Spec PyProof.Rows L2
variable [TB : Tabl]
variable {C : Nat → List D → Option D} {X : Cx} {a b c e k1 k2 v1 v2 : E} {x y z xk1 xk2 xv1 xv2 : Expr} {n : Str} {pos pos1 pos2 pos3 p p2 : Pos}
theorem se_sortedR {j : Nat} {kpos pc : Pos} (G : Gd X) (ha : SE C X a x) (hg : Gl X ("sorted" : Str) := by rfl) (hs : backTo pos (starEach [x] X.env) = (false, eval x X.env) :: backTo pos (starEach [] X.env) := by rfl) (hs1 : starEach [x] X.env = (false, eval x X.env) :: starEach [] X.env := by rfl)
    (hpl : (backTo pos (starEach [x] X.env)).any (·.1) = false := by rfl) (hall : (backToKw pos (keywordEach [⟨some ("reverse" : Str), .Constant (.bool true) j pc, kpos⟩] X.env)).all (·.1.isSome) = true := by rfl)
    (hnone : (backToKw pos (keywordEach [⟨some ("reverse" : Str), .Constant (.bool true) j pc, kpos⟩] X.env)).any (·.1.isNone) = false := by rfl) (hks : (backToKw pos (keywordEach [⟨some ("reverse" : Str), .Constant (.bool true) j pc, kpos⟩] X.env)).filterMap (·.1) = [Str.ofString "reverse"] := by rfl) :
    SE C X (.sortedR a) (.Call (.Name ("sorted" : Str) p) [x] [⟨some ("reverse" : Str), .Constant (.bool true) j pc, kpos⟩] pos) := by
  refine imp_e (pe_callBK (cr_sortedSR G.un) hg G.sorted (by decide +kernel) (pa_cons ha pa_nil hs1) (pk_cons pe_bl pk_nil) (by decide) (by decide) hs hpl hall hnone hks) fun σ H Q h => ?_
  obtain ⟨B0, H0, B, env, o, d, k, R, he, q⟩ := h
  obtain ⟨da, h1, h2⟩ := bind1_some (show ((bm (ev C a env)).bind fun x => match x with | .lst xs => if xs.length < L then (strsD xs).map fun ss => ((.lst ((sortS ss).reverse.map D.str), .new1) : D × Kd) else none | _ => none) = some (d, k) from he)
  refine use_b R h1 fun B' H' u s ru => ?_
  cases da <;> simp only [reduceCtorEq] at h2
  rename_i xs
  by_cases hz : xs.length < L
  · rw [if_pos hz, Option.map_eq_some_iff] at h2
    obtain ⟨ss, h3, h4⟩ := h2
    cases h4
    obtain ⟨p1, rfl, q1⟩ := use_strs h3 ru
    exact ⟨p1, ss, rfl, rfl, q1, fin_list q rfl s (reps_strs _)⟩
  · rw [if_neg hz] at h2
    cases h2
theorem join_sv (zz : List Nat) : ∀ ss : List (List Nat), Str.join (sv zz) (ss.map sv) = sv (glue zz ss)
  | [] => rfl
  | [s] => rfl
  | s :: t :: r => by
    show sv s ++ sv zz ++ Str.join (sv zz) ((t :: r).map sv) = sv (s ++ zz ++ glue zz (t :: r))
    rw [join_sv zz (t :: r), sv_append, sv_append]
theorem se_join (G : Gd X) (ha : SE C X a x) (hb : SE C X b y) (hs : starEach [y] X.env = [(false, eval y X.env)] := by rfl) (hbase : attributeBase x "join" X.env (eval x X.env) = eval x X.env := by rfl) (hline : (pos1.endLine == pos.line) = true := by rfl) :
    SE C X (.join a b) (.Call (.Attribute x "join" pos1) [y] [] pos) := by
  refine imp_e (pe_join ha hb hs hbase hline) fun σ H Q h => ?_
  obtain ⟨B0, H0, B, env, o, d, k, R, he, q⟩ := h
  obtain ⟨da, h1, h2⟩ := bind1_some (show ((bm (ev C a env)).bind fun x => (bm (ev C b env)).bind fun y => match x, y with
      | .str z, .lst xs => (strsD xs).bind fun ss => if (ss.map List.length).sum + ss.length * z.length ≤ L then some ((.str (glue z ss), .frz) : D × Kd) else none
      | _, _ => none) = some (d, k) from he)
  obtain ⟨db, h3, h4⟩ := bind1_some h2
  refine use_b R h1 fun B1 H1 u s1 ru => ?_
  cases da <;> cases db <;> simp only [reduceCtorEq] at h4
  obtain ⟨ss, h5, h6⟩ := bind1_some h4
  obtain ⟨hz, h7⟩ := if_some h6
  cases h7
  refine ⟨⟨_, rep_str ru⟩, use_b (R.step s1) h3 fun B2 H2 v s2 rv => ?_⟩
  obtain ⟨p1, rfl, q1⟩ := use_strs h5 rv
  refine ⟨_, p1, ss.map sv, rep_str ru, rfl, .inl q1, ?_, ?_⟩
  · have e1 : (ss.map sv).map (·.length) = ss.map List.length := by
      rw [List.map_map]; apply List.map_congr_left; intro s _; exact sv_length s
    rw [e1, List.length_map, sv_length]
    exact Nat.le_trans hz (by decide)
  · rw [TL.join_eq, join_sv]
    exact q B2 H2 _ [] (s1.trans s2) ⟨rfl, str_rep⟩ FrF.nil
/-! ### a < b < c -/
theorem se_ch {op op' : CmpOp} {o1 o2 : CO} (ho : OpR X (compareOp op) (rI0 fun i j => .bl (coB o1 i j))) (ho' : OpR X (compareOp op') (rI0 fun i j => .bl (coB o2 i j))) (ha : SE C X a x) (hb : SE C X b y) (hc : SE C X c z) (hm : lastMarks [op, op'] [y, z] = false := by with_unfolding_all rfl) :
    SE C X (.ch o1 o2 a b c) (.Compare x [op, op'] [y, z] pos) := by
  refine imp_e (pe_chain ho ho' ha hb hc hm) fun σ H Q h => ?_
  obtain ⟨B0, H0, B, env, o, d, k, R, he, q⟩ := h
  obtain ⟨da, h1, h2⟩ := bind1_some (show ((bm (ev C a env)).bind fun x => (bm (ev C b env)).bind fun y => (asInt x).bind fun i => (asInt y).bind fun j =>
      if coB o1 i j then (bm (ev C c env)).bind fun z => (asInt z).bind fun k => some ((.bl (coB o2 j k), .frz) : D × Kd) else some (.bl false, .frz)) = some (d, k) from he)
  obtain ⟨db, h3, h4⟩ := bind1_some h2
  obtain ⟨i, h5, h6⟩ := bind1_some h4
  obtain ⟨j, h7, h8⟩ := bind1_some h6
  obtain rfl := asInt_some h5
  obtain rfl := asInt_some h7
  refine two_b R h1 h3 fun B' H' u v s ru rv => ?_
  refine ⟨i, j, rep_int ru, rep_int rv, coB o1 i j, rfl, ?_⟩
  by_cases hc1 : coB o1 i j = true
  · rw [if_pos hc1] at h8 ⊢
    obtain ⟨dc, h9, h10⟩ := bind1_some h8
    obtain ⟨m, h11, h12⟩ := bind1_some h10
    obtain rfl := asInt_some h11
    cases h12
    refine use_b (R.step s) h9 fun B2 H2 w s2 rw' => ?_
    exact ⟨j, m, rep_int rv, rep_int rw', q B2 H2 _ [] (s.trans s2) ⟨rfl, bl_rep⟩ FrF.nil⟩
  · rw [if_neg hc1] at h8 ⊢
    cases h8
    exact q B' H' _ [] s ⟨rfl, bl_rep⟩ FrF.nil
theorem se_ch_lt_lt (ha : SE C X a x) (hb : SE C X b y) (hc : SE C X c z) (hm : lastMarks [.Lt, .Lt] [y, z] = false := by with_unfolding_all rfl) : SE C X (.ch .lt .lt a b c) (.Compare x [.Lt, .Lt] [y, z] pos) := se_ch op_lt op_lt ha hb hc hm
theorem se_ch_le_le (ha : SE C X a x) (hb : SE C X b y) (hc : SE C X c z) (hm : lastMarks [.LtE, .LtE] [y, z] = false := by with_unfolding_all rfl) : SE C X (.ch .le .le a b c) (.Compare x [.LtE, .LtE] [y, z] pos) := se_ch op_le op_le ha hb hc hm
/-- int of a truth -/
theorem se_intE (G : Gd X) (ha : SE C X a x) (hg : Gl X ("int" : Str) := by rfl) (hs : starEach [x] X.env = (false, eval x X.env) :: starEach [] X.env := by rfl) : SE C X (.intE a) (.Call (.Name ("int" : Str) p) [x] [] pos) := by
  refine imp_e (pe_t1 call_int1 G.int (by decide +kernel) ha hg hs (by decide) (by decide)) fun σ H Q h => ?_
  obtain ⟨B0, H0, B, env, o, d, k, R, he, q⟩ := h
  obtain ⟨da, h1, h2⟩ := bind1_some (show ((bm (ev C a env)).bind fun x => match x with | .bl b => some ((.int (if b then 1 else 0), .frz) : D × Kd) | _ => none) = some (d, k) from he)
  refine use_b R h1 fun B' H' u s ru => ?_
  cases da <;> simp only [reduceCtorEq] at h2
  cases h2
  exact .inr ⟨_, congrArg (fun z => [z]) (rep_bl ru), q B' H' _ [] s ⟨rfl, int_rep⟩ FrF.nil⟩
/-- len(set(xs)) -/
theorem se_lenset (G : Gd X) (ha : SE C X a x) (hg : Gl X ("len" : Str) := by rfl) (hg2 : Gl X ("set" : Str) := by rfl) (hs : starEach [x] X.env = (false, eval x X.env) :: starEach [] X.env := by rfl) : SE C X (.lenset a) (.Call (.Name ("len" : Str) p) [.Call (.Name ("set" : Str) p2) [x] [] pos2] [] pos) := by
  refine imp_e (RZ.pe_lenSetI hg G.len hg2 G.set ha G.calm hs) fun σ H Q h => ?_
  obtain ⟨B0, H0, B, env, o, d, k, R, he, q⟩ := h
  obtain ⟨da, h1, h2⟩ := bind1_some (show ((bm (ev C a env)).bind fun x => match x with | .lst xs => if xs.length ≤ 1000 then frI ((intsD xs).bind fun ns => if ns.Nodup then some (ns.length : Int) else none) else none | _ => none) = some (d, k) from he)
  refine use_b R h1 fun B' H' u s ru => ?_
  cases da <;> simp only [reduceCtorEq] at h2
  rename_i xs
  by_cases hz : xs.length ≤ 1000
  · rw [if_pos hz] at h2
    obtain ⟨m, h3, rfl, rfl⟩ := frI_some h2
    obtain ⟨ns, h4, h5⟩ := bind1_some h3
    obtain ⟨hnd, h6⟩ := if_some h5
    cases h6
    have hl : ns.length = xs.length := by
      obtain ⟨p1, vs, rfl, k1, k2⟩ := rep_lst ru
      have := Reps.ints h4 k2
      have h7 := k2.length
      rw [this, List.length_map] at h7
      exact h7
    obtain ⟨p1, rfl, q1⟩ := use_ints h4 ru
    exact ⟨p1, ns, rfl, q1, hnd, by omega, q B' H' _ [] s ⟨rfl, int_rep⟩ FrF.nil⟩
  · rw [if_neg hz] at h2
    cases h2
theorem repk_ints {K : PySem.W.Frag} {B : Hp} : ∀ {ds : List (Ky × D)} {vs : List (L2.Key × V)} {ns : List Int}, RepK K B ds vs → intsD (ds.map fun kv => kyD kv.1) = some ns → vs.map (·.1) = ns.map Sum.inl
  | [], vs, ns, h, e => by
    rw [h.nil_of]
    cases e
    rfl
  | (kk, d) :: ds, vs, ns, h, e => by
    obtain ⟨v, r, rfl, h1, h2⟩ := h.cons_of
    simp only [List.map_cons, intsD, optAll, Option.bind_eq_some_iff] at e
    obtain ⟨i, e1, ns', e2, e3⟩ := e
    cases e3
    cases kk with
    | inl j =>
      cases e1
      rw [List.map_cons, List.map_cons, repk_ints h2 e2]
      rfl
    | inr s => cases e1
/-- sorted(d), whole numbers as keys -/
theorem se_sortedD (G : Gd X) (ha : SE C X a x) (hg : Gl X ("sorted" : Str) := by rfl) (hs : starEach [x] X.env = (false, eval x X.env) :: starEach [] X.env := by rfl) : SE C X (.sortedD a) (.Call (.Name ("sorted" : Str) p) [x] [] pos) := by
  refine imp_e (pe_b1 (call_sortedDI G.calm) G.sorted (by decide +kernel) ha hg hs (by decide) (by decide)) fun σ H Q h => ?_
  obtain ⟨B0, H0, B, env, o, d, k, R, he, q⟩ := h
  obtain ⟨da, h1, h2⟩ := bind1_some (show ((bm (ev C a env)).bind fun x => match x with
      | .dic kvs => if kvs.length < 64 then (intsD (kvs.map fun kv => kyD kv.1)).map fun ns => ((.lst ((sortI ns).map D.int), .new1) : D × Kd) else none
      | _ => none) = some (d, k) from he)
  refine use_b R h1 fun B' H' u s ru => ?_
  cases da <;> simp only [reduceCtorEq] at h2
  rename_i kvs
  by_cases hz : kvs.length < 64
  · rw [if_pos hz, Option.map_eq_some_iff] at h2
    obtain ⟨ns, h3, h4⟩ := h2
    cases h4
    obtain ⟨p1, vs, rfl, k1, k2⟩ := rep_dic ru
    have e1 := repk_ints k2 h3
    have e2 : ns.length = kvs.length := by
      have := congrArg List.length e1
      rw [List.length_map, List.length_map, k2.length] at this
      exact this.symm
    refine ⟨p1, vs, ns, rfl, .inl k1, e1, by omega, fun ys pp hp hs' hf => ?_⟩
    have := sortI_eq hp hs'
    subst this
    exact fin_list q rfl s (reps_ints _) pp hf
  · rw [if_neg hz] at h2
    cases h2
/-- a def's statement that is never reached -/
theorem ss_never {st : Stmt} : SS C X .never st := imp_s ps_never fun Dn σ H ⟨B0, H0, B, env, o, out, R, he, q⟩ => by
  cases (show (none : Option Out) = some out from he)
end Hg
end

section
set_option Elab.async false
set_option maxRecDepth 100000
set_option maxHeartbeats 4000000
/-! Snd14: dicts of two, setdefault, get, keys; index. -/
namespace Hg
open PySem PySem.Spec PyProof.Rows L2
variable [TB : Tabl]
variable {C : Nat → List D → Option D} {X : Cx} {a b c e k1 k2 v1 v2 : E} {x y z xk1 xk2 xv1 xv2 : Expr} {n : Str} {pos pos1 pos2 pos3 p p2 : Pos}
theorem se_dic2 (G : Gd X) (hk1 : SE C X k1 xk1) (hv1 : SE C X v1 xv1) (hk2 : SE C X k2 xk2) (hv2 : SE C X v2 xv2) : SE C X (.dic2 (.cons k1 (.cons k2 .nil)) (.cons v1 (.cons v2 .nil))) (.Dict [some xk1, some xk2] [xv1, xv2] pos) := by
  refine imp_e (pe_disp (pps_cons hk1 hv1 (pps_cons hk2 hv2 pps_nil)) (by rfl) (by rfl) (fun z => by cases z) (by show 2 ≤ 15; decide)) fun σ H Q h => ?_
  obtain ⟨B0, H0, B, env, o, d, k, R, he, q⟩ := h
  obtain ⟨ds, h1, h2⟩ := bind1_some (show ((evs C (.cons k1 (.cons k2 .nil)) env).bind fun ds => (evs C (.cons v1 (.cons v2 .nil)) env).bind fun es => (optAll keyD ds).bind fun kk => if kk.length = es.length ∧ kk.length ≤ 8 then some ((.dic (mergeKy [] (kk.zip es)), .new1) : D × Kd) else none) = some (d, k) from he)
  obtain ⟨es, h3, h4⟩ := bind1_some h2
  obtain ⟨kk, h5, h6⟩ := bind1_some h4
  obtain ⟨dk1, g1, h7⟩ := bind1_some (show ((vm (ev C k1 env)).bind fun d => (evs C (.cons k2 .nil) env).bind fun ds => some (d :: ds)) = some ds from h1)
  obtain ⟨r1, h8, h9⟩ := bind1_some h7
  cases h9
  obtain ⟨dk2, g2, h10⟩ := bind1_some (show ((vm (ev C k2 env)).bind fun d => (some ([] : List D)).bind fun ds => some (d :: ds)) = some r1 from h8)
  cases h10
  obtain ⟨dv1, g3, h11⟩ := bind1_some (show ((vm (ev C v1 env)).bind fun d => (evs C (.cons v2 .nil) env).bind fun ds => some (d :: ds)) = some es from h3)
  obtain ⟨r2, h12, h13⟩ := bind1_some h11
  cases h13
  obtain ⟨dv2, g4, h14⟩ := bind1_some (show ((vm (ev C v2 env)).bind fun d => (some ([] : List D)).bind fun ds => some (d :: ds)) = some r2 from h12)
  cases h14
  simp only [optAll, Option.bind_eq_some_iff] at h5
  obtain ⟨y1, e1, ys1, ⟨y2, e2, ys2, e3, e4⟩, e5⟩ := h5
  cases e3; cases e4; cases e5
  obtain ⟨_, h15⟩ := if_some h6
  cases h15
  intro pp hp
  have s0 : Step B H B (upd H pp (.dK [])) := Step.own R.bh hp
  refine use_v (R.step s0) g1 fun B1 H1 u1 s1 ru1 => ?_
  refine use_v ((R.step s0).step s1) g3 fun B2 H2 u2 s2 ru2 => ?_
  refine use_v (((R.step s0).step s1).step s2) g2 fun B3 H3 u3 s3 ru3 => ?_
  refine use_v ((((R.step s0).step s1).step s2).step s3) g4 fun B4 H4 u4 s4 ru4 => ?_
  have sA := ((s1.trans s2).trans s3).trans s4
  have hbp : B pp = none := R.bh.back hp
  have hb4 : B4 pp = none := by
    cases hq : B4 pp with
    | none => rfl
    | some w =>
      rcases sA.nw pp (by rw [hq]; exact fun z => nomatch z) with z | z
      · exact absurd hbp z
      · rw [upd_same] at z; cases z
  refine ⟨sA.hh.at upd_same nt_dK, [(ky y1, u2), (ky y2, u4)], ?_, by show 2 ≤ 15; decide, ?_⟩
  · rw [kV_ky e1 ru1, kV_ky e2 ru3]
    rfl
  · have hr : RepK X.K B4 (mergeKy [] ([y1, y2].zip [dv1, dv2])) (mergeK [] [(ky y1, u2), (ky y2, u4)]) :=
      RepK.merge (repk_cons (Rep.mono (s3.bb.trans s4.bb) _ _ ru2) (repk_cons ru4 repk_nil)) repk_nil
    refine q B4 _ _ [pp] ⟨sA.bb, sA.hh.put (.inl hp) (fun q => by rw [sA.hh.at upd_same nt_dK]; exact code_dK), sA.bh.upd hb4 (fun q => by rw [sA.hh.at upd_same nt_dK]; exact code_dK), fun w hw => ?_⟩ ⟨pp, rfl, rfl, .inr ⟨_, _, rfl, upd_same, hr⟩⟩ (FrF.one hp hb4)
    · rcases sA.nw w hw with z | z
      · exact .inl z
      · by_cases hne : w = pp
        · subst hne; rw [upd_same] at z; cases z
        · rw [upd_ne hne] at z; exact .inr z
/-- list(d): the keys -/
theorem se_listKeys (G : Gd X) (ha : SE C X a x) (hg : Gl X ("list" : Str) := by rfl) (hs : starEach [x] X.env = (false, eval x X.env) :: starEach [] X.env := by rfl) : SE C X (.listKeys a) (.Call (.Name ("list" : Str) p) [x] [] pos) := by
  refine imp_e (pe_t1 (call_listD G.calm) G.list (by decide +kernel) ha hg hs (by decide) (by decide)) fun σ H Q h => ?_
  obtain ⟨B0, H0, B, env, o, d, k, R, he, q⟩ := h
  obtain ⟨da, h1, h2⟩ := bind1_some (show ((bm (ev C a env)).bind fun x => match x with | .dic kvs => some ((.lst (kvs.map fun kv => kyD kv.1), .new1) : D × Kd) | _ => none) = some (d, k) from he)
  refine use_b R h1 fun B' H' u s ru => ?_
  cases da <;> simp only [reduceCtorEq] at h2
  rename_i kvs
  cases h2
  obtain ⟨p1, vs, rfl, k1, k2⟩ := rep_dic ru
  refine ⟨p1, vs, rfl, .inl k1, ?_⟩
  refine fin_list q rfl s ?_
  have : ∀ {ds : List (Ky × D)} {vs : List (L2.Key × V)}, RepK X.K H' ds vs → Reps X.K B' (ds.map fun kv => kyD kv.1) (vs.map fun kv => kV kv.1) := by
    intro ds
    induction ds with
    | nil => intro vs h; rw [h.nil_of]; exact reps_nil
    | cons kd ds ih =>
      intro vs h
      obtain ⟨kk, dd⟩ := kd
      obtain ⟨v, r, rfl, h1, h2⟩ := h.cons_of
      rw [List.map_cons, List.map_cons]
      refine reps_cons ?_ (ih h2)
      cases kk with
      | inl i => exact int_rep
      | inr t => exact str_rep
  exact this k2
/-- d.get(k, x) -/
theorem se_get (G : Gd X) (ha : SE C X a x) (hb : SE C X b y) (hc : SE C X c z) (m : M2 X x "get" pos1 y z pos := by exact ⟨rfl, rfl, rfl, rfl⟩) : SE C X (.get a b c) (.Call (.Attribute x "get" pos1) [y, z] [] pos) := by
  refine imp_e (pe_dget2 (by have := G.un; omega) ha hb hc m) fun σ H Q h => ?_
  obtain ⟨B0, H0, B, env, o, d, k, R, he, q⟩ := h
  obtain ⟨da, h1, h2⟩ := bind1_some (show ((em (ev C a env)).bind fun y => (bm (ev C b env)).bind fun q => (vm (ev C c env)).bind fun z => match y with | .dic kvs => (keyD q).map fun kk => (((look kvs kk).getD z, .frz) : D × Kd) | _ => none) = some (d, k) from he)
  obtain ⟨db, h3, h4⟩ := bind1_some h2
  obtain ⟨dc, h5, h6⟩ := bind1_some h4
  cases da <;> simp only [reduceCtorEq] at h6
  rw [Option.map_eq_some_iff] at h6
  obtain ⟨kk, h7, h8⟩ := h6
  cases h8
  refine use_e R h1 fun B1 H1 u s1 ru => ?_
  obtain ⟨p1, vs, rfl, q1, r1⟩ := ru
  refine ⟨p1, rfl, .inl ⟨vs, .inl q1⟩, use_b (R.step s1) h3 fun B2 H2 v s2 rv => use_v ((R.step s1).step s2) h5 fun B3 H3 w s3 rw' => ?_⟩
  have r3 : RepK X.K B3 _ vs := RepK.mono (s2.bb.trans s3.bb) _ _ r1
  refine ⟨valV vs (ky kk), ?_, ?_⟩
  · rw [kV_ky h7 rv]
    exact DGet.k (s3.hh.at (s2.hh.at q1 nt_dK) nt_dK)
  · have s := (s1.trans s2).trans s3
    cases hl : look _ kk with
    | none =>
      rw [hl] at q
      rw [r3.look_none hl]
      exact q B3 H3 _ [] s ⟨rfl, rw'⟩ FrF.nil
    | some dd =>
      rw [hl] at q
      obtain ⟨vv, h9, h10⟩ := r3.look_some hl
      rw [h9]
      exact q B3 H3 _ [] s ⟨rfl, h10⟩ FrF.nil
theorem slot_dic1 {env : Hg.Env} {i : Nat} {α : Type} {f : List (Ky × D) → Option α} {out : α} (h : (match env[i]? with | some (.val (.dic xs) .own1) => f xs | _ => none) = some out) : ∃ xs, env[i]? = some (.val (.dic xs) .own1) ∧ f xs = some out := by
  split at h
  · rename_i xs hi
    exact ⟨xs, hi, h⟩
  · cases h
/-- d.setdefault(k, v), as a statement -/
theorem ss_setdef {i : Nat} (G : Gd X) (ha : SE C X a x) (hb : SE C X b y) (hi : X.N[i]? = some n := by rfl) (hv : Vis X.env.scope n := by first | exact Or.inl rfl | exact Or.inr (Or.inl rfl) | exact Or.inr (Or.inr rfl)) (hd : (n == ("__debug__" : Str)) = false := by decide) (hcd : (n == ("__classdict__" : Str)) = false := by decide)
    (hs : swapsWith (.Call (.Attribute (.Name n pos1) "setdefault" pos2) [x, y] [] p) none pos.line X.env = pure false := by rfl) (m : M2 X (.Name n pos1) "setdefault" pos2 x y p := by exact ⟨rfl, rfl, rfl, rfl⟩) : SS C X (.setdef i a b) (.Expr (.Call (.Attribute (.Name n pos1) "setdefault" pos2) [x, y] [] p) pos) := by
  refine imp_s (ps_expr (pe_dsetd (pv i hi hv hd hcd) ha hb m) hs) fun Dn σ H ⟨B0, H0, B, env, o, out, R, he, q⟩ => ?_
  obtain ⟨dx, h1, h2⟩ := bind1_some (show ((bm (ev C a env)).bind fun x => (vm (ev C b env)).bind fun z => match env[i]? with
      | some (.val (.dic kvs) .own1) => (keyD x).bind fun kk => if kvs.length < L then some (Out.nx (env.set i (.val (.dic (if (look kvs kk).isSome then kvs else kvs ++ [(kk, z)])) .own1))) else none
      | _ => none) = some out from he)
  obtain ⟨dz, h3, h4⟩ := bind1_some h2
  obtain ⟨kvs, hi', h5⟩ := slot_dic1 h4
  obtain ⟨kk, h6, h7⟩ := bind1_some h5
  obtain ⟨hz, h8⟩ := if_some h7
  cases h8
  obtain ⟨p1, vs, k1, k2, k3, _⟩ := R.dic1 hi'
  refine ⟨.ref p1, k1, p1, rfl, .inl ⟨vs, .inl k2⟩, use_b R h1 fun B1 H1 u s1 ru => use_v (R.step s1) h3 fun B2 H2 v s2 rv => ?_⟩
  obtain ⟨p', vs', k1', k2', k3', mk⟩ := ((R.step s1).step s2).dic1 hi'
  rw [k1] at k1'
  cases k1'
  refine ⟨vs', ky kk, k2', kV_ky h6 ru, by rw [k3'.length]; exact sizeLt hz, fun w hw => ?_, fun hw => ?_⟩
  · have hl : (look kvs kk).isSome = true := by
      cases hq : look kvs kk with
      | some _ => rfl
      | none => rw [k3'.look_none hq] at hw; cases hw
    rw [if_pos hl] at q
    refine q B2 σ H2 o ?_ (s1.bb.trans s2.bb)
    have R2 := ((R.step s1).step s2)
    have e1 : env.set i (.val (.dic kvs) .own1) = env := by
      apply List.ext_getElem?
      intro j
      rw [List.getElem?_set]
      by_cases hj : i = j
      · subst hj
        have hl2 : i < env.length := (List.getElem?_eq_some_iff.mp hi').1
        rw [if_pos rfl, if_pos hl2, hi']
      · rw [if_neg hj]
    rw [e1]
    exact R2
  · have hl : (look kvs kk).isSome = false := by
      cases hq : look kvs kk with
      | none => rfl
      | some dd =>
        obtain ⟨vv, h9, _⟩ := k3'.look_some hq
        rw [h9] at hw; cases hw
    rw [hl] at q
    refine q B2 σ _ o (mk _ _ ?_) (s1.bb.trans s2.bb)
    have hp := k3'.put (k := kk) rv
    have e1 : put kvs kk dz = kvs ++ [(kk, dz)] := by
      unfold put
      rw [if_neg]
      intro hany
      rw [List.any_eq_true] at hany
      obtain ⟨kv, hkv, he'⟩ := hany
      have : (look kvs kk).isSome = true := by
        unfold look
        rw [Option.isSome_map, List.find?_isSome]
        exact ⟨kv, hkv, he'⟩
      rw [hl] at this
      cases this
    rw [e1] at hp
    exact hp
end Hg
end

section
set_option Elab.async false
set_option maxRecDepth 100000
set_option maxHeartbeats 4000000
/-! Snd15: index, a key of a row's dict popped. -/
namespace Hg
open PySem PySem.Spec PyProof.Rows L2
variable [TB : Tabl]
variable {C : Nat → List D → Option D} {X : Cx} {a b c e k1 k2 v1 v2 : E} {x y z : Expr} {n : Str} {pos pos1 pos2 pos3 p p2 : Pos}
def rIndexI (K : PySem.W.Frag) : V → List V → Hp → VK → Prop := fun x xs H Q => ∃ (l : Addr) (ns : List Int) (m : Int), x = .ref l ∧ xs = [.int m] ∧ SqL K H l (ns.map V.int) ∧ m ∈ ns ∧ Q (.int (ns.idxOf m : Nat)) H
theorem mt_indexI (hu : X.A.units + 80 < cLine) : MtR X "list.index" (rIndexI X.K) := by
  intro pins s σ H x xs v us Q I rx rxs h
  obtain ⟨l, ns, m, rfl, rfl, hs, hm, q⟩ := h
  cases rx
  obtain ⟨u1, rfl, t, e⟩ := vals1 rxs
  subst e
  obtain ⟨its, rv, hl, hz⟩ := I.list hs
  exact PySem.W.index_list_datum (α := Int) hl.isList (PySem.W.HoldAll.of_ints rv.ints) (PySem.W.holds_int m t) (by show X.A.units + 1 + 0 < cLine; omega) (by simpa using hz) hm ⟨.int _, H, I.tok _, ⟨_, rfl⟩, q⟩
def rIndexP (K : PySem.W.Frag) : V → List V → Hp → VK → Prop := fun x xs H Q => ∃ (l t : Addr) (vs : List V) (ps : List (Int × Int)) (m : Int × Int), x = .ref l ∧ xs = [.ref t] ∧ SqL K H l vs ∧ vs.map (pairAt H) = ps ∧
  (∀ v ∈ vs, ∃ t, v = .ref t ∧ H t = some (.tup [.int (pairAt H v).1, .int (pairAt H v).2])) ∧ H t = some (.tup [.int m.1, .int m.2]) ∧ m ∈ ps ∧ Q (.int (ps.idxOf m : Nat)) H
theorem holds_tupP {pins : List (Addr × Obj)} {s : Shared} {σ : L2.St} {H : Hp} (I : L2.Inv X pins σ H s) {t : Addr} {m : Int × Int} (h : H t = some (.tup [.int m.1, .int m.2])) : PySem.W.Holds s.heap (.ref t) m := by
  obtain ⟨its, rv, hl, hz⟩ := I.tuple (SqT.of h)
  obtain ⟨u, w, rfl, ⟨t1, e1⟩, ⟨t2, e2⟩⟩ := vals2 rv
  subst e1 e2
  exact PySem.W.holds_pair hl (PySem.W.holds_int _ _) (PySem.W.holds_int _ _)
theorem hold_pairs {pins : List (Addr × Obj)} {s : Shared} {σ : L2.St} {H : Hp} (I : L2.Inv X pins σ H s) : ∀ {vs : List V} {its : List Value}, Vals vs its → (∀ v ∈ vs, ∃ t, v = .ref t ∧ H t = some (.tup [.int (pairAt H v).1, .int (pairAt H v).2])) →
    PySem.W.HoldAll s.heap its (vs.map (pairAt H))
  | [], its, r, _ => by cases r; exact PySem.W.HoldAll.nil
  | v :: vs, its, r, h => by
    cases r with
    | cons r1 r2 =>
      obtain ⟨t, e, ht⟩ := h v (List.mem_cons_self ..)
      rw [List.map_cons]
      refine PySem.W.HoldAll.cons ?_ (hold_pairs I r2 fun w hw => h w (List.mem_cons_of_mem _ hw))
      have hh := holds_tupP I (m := pairAt H v) ht
      subst e
      cases r1
      exact hh
theorem idxOf_inst (m : Int × Int) (ps : List (Int × Int)) : @List.idxOf _ instBEqOfDecidableEq m ps = ps.idxOf m := by
  unfold List.idxOf
  congr 1
  funext x
  rw [Bool.eq_iff_iff]
  simp
theorem mt_indexP (hu : X.A.units + 80 < cLine) : MtR X "list.index" (rIndexP X.K) := by
  intro pins s σ H x xs v us Q I rx rxs h
  obtain ⟨l, t, vs, ps, m, rfl, rfl, hs, hps, hv, ht, hm, q⟩ := h
  cases rx
  obtain ⟨u1, rfl, e⟩ := vals1 rxs
  obtain rfl : u1 = Value.ref t := e
  obtain ⟨its, rv, hl, hz⟩ := I.list hs
  have hA := hold_pairs I rv hv
  rw [hps] at hA
  exact PySem.W.index_list_datum (α := Int × Int) hl.isList hA (holds_tupP I ht) (by show X.A.units + 1 + (max 0 0 + 1) < cLine; omega) (by rw [← hps, List.length_map]; exact hz) hm ⟨.int _, H, I.tok _, ⟨_, rfl⟩, by rw [idxOf_inst]; exact q⟩
theorem mtr_or2 {id : String} {r r' : V → List V → Hp → VK → Prop} (h : MtR X id r) (h' : MtR X id r') : MtR X id (fun x xs H Q => r x xs H Q ∨ r' x xs H Q) := fun pins s σ H x xs v us Q I rx rxs q => q.elim (h pins s σ H x xs v us Q I rx rxs) (h' pins s σ H x xs v us Q I rx rxs)
theorem se_index (G : Gd X) (ha : SE C X a x) (hb : SE C X b y) (hbase : attributeBase x "index" X.env (eval x X.env) = eval x X.env := by rfl)
    (hfew : ((backTo p (starEach [y] X.env)).all (fun x => !x.1) && (backToKw p (keywordEach [] X.env)).all (fun x => x.1.isSome) && decide ([y].length + ([] : List Keyword).length + (if ([] : List Keyword).isEmpty then 0 else 1) < 30)) = true := by rfl)
    (hline : (pos2.endLine == p.line) = true := by rfl) (hst : starEach [y] X.env = (false, eval y X.env) :: starEach [] X.env := by rfl) : SE C X (.index a b) (.Call (.Attribute x "index" pos2) [y] [] p) := by
  refine imp_e (pe_bm PySem.F.plainAttrs_list PySem.F.slot_list_index PySem.F.type_list_index (mtr_or2 (mt_indexI G.un) (mt_indexP G.un)) ha (pa_cons hb pa_nil hst) hbase hfew hline hst rfl) fun σ H Q h => ?_
  obtain ⟨B0, H0, B, env, o, d, k, R, he, q⟩ := h
  obtain ⟨da, h1, h2⟩ := bind1_some (show ((bm (ev C a env)).bind fun x => (bm (ev C b env)).bind fun y => match x with
      | .lst xs => match intsD xs, asInt y with
        | some ns, some n => if xs.length ≤ 1000 ∧ n ∈ ns then some ((.int (ns.idxOf n : Nat), .frz) : D × Kd) else none
        | _, _ => match pairsD xs, asPair y with
          | some ps, some q => if xs.length ≤ 1000 ∧ q ∈ ps then some (.int (ps.idxOf q : Nat), .frz) else none
          | _, _ => none
      | _ => none) = some (d, k) from he)
  obtain ⟨db, h3, h4⟩ := bind1_some h2
  refine use_b R h1 fun B1 H1 u s1 ru => ?_
  cases da <;> simp only [reduceCtorEq] at h4
  rename_i xs
  obtain ⟨p1, vs, rfl, k1, k2⟩ := rep_lst ru
  refine ⟨.inl ⟨rfl, vs, k1⟩, use_b (R.step s1) h3 fun B2 H2 v s2 rv => ?_⟩
  have k1' := s2.hh.sq k1
  have k2' := Reps.mono s2.hh _ _ k2
  have s := s1.trans s2
  split at h4
  · rename_i ns m hn hm
    obtain ⟨⟨_, hz⟩, h5⟩ := if_some h4
    cases h5
    obtain rfl := asInt_some hm
    have e1 := Reps.ints hn k2'
    subst e1
    exact .inl ⟨p1, ns, m, rfl, congrArg (fun z => [z]) (rep_int rv), k1', hz, q B2 H2 _ [] s ⟨rfl, int_rep⟩ FrF.nil⟩
  · split at h4
    · rename_i ps m hn hm
      obtain ⟨⟨_, hz⟩, h5⟩ := if_some h4
      cases h5
      obtain ⟨g1, g2⟩ := pairsD_reps (Ext.refl H2) hn k2'
      have hd : db = pairD m := by
        cases db with
        | tup xs =>
          match xs, hm with
          | [.int i, .int j], hm => cases hm; rfl
        | _ => cases hm
      subst hd
      obtain ⟨t, us, rfl, q1, q2⟩ := rep_tup rv
      have hu : us = [.int m.1, .int m.2] := Reps.ints (ns := [m.1, m.2]) rfl q2
      subst hu
      exact .inr ⟨p1, t, vs, ps, m, rfl, rfl, k1', g1, fun v hv => (g2 v hv).1, q1, hz, q B2 H2 _ [] s ⟨rfl, int_rep⟩ FrF.nil⟩
    · cases h4
/-- rows[i].pop(k), as a statement -/
theorem ss_dpop {i : Nat} (G : Gd X) (ha : SE C X a x) (hb : SE C X b y) (hpl : PlainIx x := by exact fun _ _ => rfl) (hi : X.N[i]? = some n := by rfl) (hv : Vis X.env.scope n := by first | exact Or.inl rfl | exact Or.inr (Or.inl rfl) | exact Or.inr (Or.inr rfl)) (hd : (n == ("__debug__" : Str)) = false := by decide) (hcd : (n == ("__classdict__" : Str)) = false := by decide)
    (hs : swapsWith (.Call (.Attribute (.Subscript (.Name n pos1) x pos3) "pop" pos2) [y] [] p) none pos.line X.env = pure false := by rfl) (m : M1 X (.Subscript (.Name n pos1) x pos3) "pop" pos2 y p := by exact ⟨rfl, rfl, rfl, rfl⟩) :
    SS C X (.dpop i a b) (.Expr (.Call (.Attribute (.Subscript (.Name n pos1) x pos3) "pop" pos2) [y] [] p) pos) := by
  refine imp_s (ps_expr (pe_dpop1 (pe_ix ix_list (pv i hi hv hd hcd) ha hpl) hb m) hs) fun Dn σ H ⟨B0, H0, B, env, o, out, R, he, q⟩ => ?_
  obtain ⟨dx, h1, h2⟩ := bind1_some (show ((bm (ev C a env)).bind fun x => (bm (ev C b env)).bind fun z => match env[i]? with
      | some (.val (.lst xs) .own2) => (asInt x).bind fun j => (Hg.ixN xs.length j).bind fun n => match xs[n]? with
          | some (.dic kvs) => (keyD z).bind fun kk => if (look kvs kk).isSome then some (Out.nx (env.set i (.val (.lst (xs.set n (.dic (dropKy kvs kk)))) .own2))) else none
          | _ => none
      | _ => none) = some out from he)
  obtain ⟨dv, h3, h4⟩ := bind1_some h2
  obtain ⟨xs, hi', h5⟩ := slot_own2 (f := fun xs => (asInt dx).bind fun j => (Hg.ixN xs.length j).bind fun n => match xs[n]? with
          | some (.dic kvs) => (keyD dv).bind fun kk => if (look kvs kk).isSome then some (Out.nx (env.set i (.val (.lst (xs.set n (.dic (dropKy kvs kk)))) .own2))) else none
          | _ => none) h4
  obtain ⟨j, h6, h7⟩ := bind1_some h5
  obtain rfl := asInt_some h6
  obtain ⟨m', h8, h9⟩ := bind1_some h7
  cases hr : xs[m']? with
  | none => rw [hr] at h9; cases h9
  | some row =>
    rw [hr] at h9
    cases row <;> simp only [reduceCtorEq] at h9
    rename_i kvs
    obtain ⟨kk, h10, h11⟩ := bind1_some h9
    obtain ⟨hz, h12⟩ := if_some h11
    cases h12
    obtain ⟨p, vs, r, g1, g2, g3, g4, g5, _⟩ := R.row hi' hr
    refine ⟨.ref p, g1, use_b R h1 fun B1 H1 u s1 ru => ?_⟩
    obtain ⟨p', vs', r', g1', g2', g3', g4', g5', _⟩ := (R.step s1).row hi' hr
    rw [g1] at g1'
    cases g1'
    refine ⟨p, vs', j, .ref r', rfl, rep_int ru, SqL.of g2', ?_, ?_⟩
    · unfold atI
      rw [g3', ixN_eq, h8]
      exact g4'
    · obtain ⟨r2, ws, e1, _, k6, k7⟩ := own1_dic g5'
      cases e1
      refine ⟨r', rfl, .inl ⟨ws, .inl k6⟩, use_b (R.step s1) h3 fun B2 H2 v s2 rv => ?_⟩
      obtain ⟨p3, vs3, r3, g1'', g2'', g3'', g4'', g5'', mk⟩ := ((R.step s1).step s2).row hi' hr
      rw [g1] at g1''
      cases g1''
      have e3 : vs3 = vs' := by
        have := s2.hh.at g2' nt_lst
        rw [g2''] at this
        cases this
        rfl
      subst e3
      rw [g4'] at g4''
      cases g4''
      obtain ⟨r4, ws2, e4, _, k8, k9⟩ := own1_dic g5''
      cases e4
      obtain ⟨dd, hdd⟩ := Option.isSome_iff_exists.mp hz
      obtain ⟨vv, h13, _⟩ := k9.look_some hdd
      refine ⟨ws2, ky kk, vv, k8, kV_ky h10 rv, h13, ?_⟩
      exact q B2 σ _ o (mk _ _ ⟨r', rfl, rfl, .inr ⟨_, _, rfl, upd_same, k9.drop⟩⟩) (s1.bb.trans s2.bb)
end Hg
end

section
set_option Elab.async false
set_option maxRecDepth 100000
set_option maxHeartbeats 4000000
/-! Snd16: list(reversed(x)). -/
namespace Hg
open PySem PySem.Spec PyProof.Rows L2 RT
variable [TB : Tabl]
section
variable {prog : Program} {w : World} {A : Around} {E : Value → Shared → Prop} {s : Shared}
/-- the new list at S is filled from the iterator -/
theorem lrev_extend {Rr : Result → Shared → Prop} {it l : Addr} {items : Array Value} (hh : A.handled = none) (hit : s.heap.IsRevIter it l ((items.size : Int) - 1)) (hl : s.heap.IsList l items) (hne : l ≠ it) (hn : items.size ≤ sizeLine)
    (S : Addr) (hSi : S ≠ it) (hSl : S ≠ l) (c₀ : Nat) (hS : s.heap.get? S = some { cls := .type "list", data := .seq #[] c₀ })
    (hR : ∀ h' tk acc' c', (∀ b o, b ≠ S → b ≠ it → s.heap.get? b = some o → h'.get? b = some o) → h'.get? S = some { cls := .type "list", dict := none, data := .seq acc' c', slots := #[] } → ItemsOf (fun i v => items[items.size - 1 - i]? = some v) acc' items.size → Rr (.ok (.ret .none)) { s with heap := h', toks := tk }) :
    wpAny (model prog w) A.in1 (Builtin.List.listExtendWith (.ref S) (.ref it) .none)
      (fun fin s' => match fin with | .done f => Rr (.ok f) s' | .again c' => c'.quiet = true ∧ codeAny (model prog w) A c' Rr s') (fun e s' => Rr (.error e) s') s := by
  have W := (Walks.listRev (prog := prog) (w := w) (A := A.in1) hh it l hne items).toS
  have hSf : S ∉ [it, l] := by simp only [List.mem_cons, List.not_mem_nil, or_false, not_or]; exact ⟨hSi, hSl⟩
  have hTy : s.TypeIs (.ref it) "list_reverseiterator" := hit.typeIs
  have hsr : Builtin.List.listSameRef (.ref S) (.ref it) = false := by simp [Builtin.List.listSameRef, hSi]
  unfold Builtin.List.listExtendWith
  refine wpAny_bind (wpAny_typeOf hTy ?_)
  rw [if_neg (by rw [hsr]; decide)]
  refine wpAny_bind (wpAny_pyIter_revIter hit ?_)
  refine wpAny_bind (wpAny_holding ?_)
  unfold Builtin.List.listLengthHint
  refine wpAny_bind (wpAny_specialOf hTy nolen_lri ?_)
  show wpAny _ A.in1 (specialOf (Value.ref it) (Str.ofString "__length_hint__") >>= _) _ _ _
  refine wpAny_bind (wpAny_specialOf hTy hint_lri ?_)
  generalize hid : ("list_reverseiterator.__length_hint__" : String) = id0
  wp_delta
  rw [show splitId id0 = some ("list_reverseiterator", "__length_hint__") from by subst hid; decide +kernel]
  subst hid
  refine wpAny_bind (wpAny_isInstance (b := true) hTy (by rw [isSubtype_type]; kernel_rfl) ?_)
  refine wpAny_pure ?_
  rw [if_neg (by decide)]
  have e0 : ((items.size : Nat) : Int) - 1 - ((0 : Nat) : Int) = (items.size : Int) - 1 := by omega
  refine wpAny_pure ⟨plainId_quiet F.plain_extend_loop _, codeAny_extend_loopS W hn _ hSf _ items.size 0 _ _ _ rfl (Nat.zero_le _) ⟨Nat.zero_le _, by rw [e0]; exact hit, hl⟩ hS (ItemsOf.nil _) fun s' acc' c' hm hS' hacc => ?_⟩
  rw [Moved.eq_with hm]
  refine hR s'.heap s'.toks acc' c' (fun b o hb hb2 e => hm.heap b o (fun hmem => ?_) e) hS' hacc
  rcases List.mem_cons.mp hmem with e' | hmem
  · exact hb e'
  · exact hb2 (List.mem_singleton.mp hmem)
theorem lrev_call {Q : Value → Shared → Prop} {it l : Addr} {items : Array Value} (hh : A.handled = none) (hit : s.heap.IsRevIter it l ((items.size : Int) - 1)) (hl : s.heap.IsList l items) (hne : l ≠ it) (hn : items.size ≤ sizeLine)
    (hQ : ∀ h' tk acc' c', (∀ b o, b ≠ it → s.heap.get? b = some o → h'.get? b = some o) → h'.get? s.heap.objs.size = some { cls := .type "list", dict := none, data := .seq acc' c', slots := #[] } → ItemsOf (fun i v => items[items.size - 1 - i]? = some v) acc' items.size → Q (.ref s.heap.objs.size) { s with heap := h', toks := tk }) :
    wpAny (model prog w) A (call (.type "list") [.ref it]) Q E s := by
  refine callType_codes (Q₁ := fun obj s₁ => obj = .ref s.heap.objs.size ∧ s₁ = { s with heap := s.heap.push { cls := .type "list", data := .seq #[] } }) PySem.F.called_list (PySem.F.typeCall_list_1 _) PySem.F.entry_list_init
    (code_list_new _ ⟨rfl, rfl⟩) fun obj s₁ h₁ => ?_
  obtain ⟨rfl, rfl⟩ := h₁
  obtain ⟨oi, hoi, _⟩ := id hit
  obtain ⟨ol, hol, _⟩ := id hl
  have hli : it < s.heap.objs.size := Heap.lt_size hoi
  have hll : l < s.heap.objs.size := Heap.lt_size hol
  have hS : (s.heap.push { cls := .type "list", data := .seq #[] }).get? s.heap.objs.size = some { cls := .type "list", data := .seq #[] } := Heap.get?_push_size _ rfl
  refine ⟨⟨_, hS, rfl⟩, PySem.F.args_list_init_2 _ _, ?_⟩
  show wpAny _ _ (do let old ← Builtin.List.listItems (.ref s.heap.objs.size); Builtin.List.listUpdate (.ref s.heap.objs.size) (fun _ => #[]); letGo old.toList.reverse; Builtin.List.listExtendWith (.ref s.heap.objs.size) (.ref it) .none) _ _ _
  refine wpAny_bind ?_
  unfold Builtin.List.listItems
  refine wpAny_bind (wpAny_seqItems hS rfl (wpAny_pure ?_))
  show wpAny _ _ (updateSeq s.heap.objs.size (fun _ => #[]) >>= fun _ => letGo (#[] : Array Value).toList.reverse >>= fun _ => Builtin.List.listExtendWith (.ref s.heap.objs.size) (.ref it) .none) _ _ _
  refine wpAny_bind (wpAny_updateSeq hS rfl ?_)
  have hS₂ := Heap.get?_update_self (Obj.mapSeq (fun _ => (#[] : Array Value))) hS rfl
  have oth : ∀ b o, b ≠ s.heap.objs.size → s.heap.get? b = some o → ((s.heap.push { cls := .type "list", data := .seq #[] }).update s.heap.objs.size (Obj.mapSeq (fun _ => (#[] : Array Value)))).get? b = some o :=
    fun b o hb e => (Heap.get?_update_other _ _ (Ne.symm hb)).trans (Heap.get?_push_of_some _ e)
  refine wpAny_bind (wpAny_letGo ?_)
  have hlI : ((s.heap.push { cls := .type "list", data := .seq #[] }).update s.heap.objs.size (Obj.mapSeq (fun _ => (#[] : Array Value)))).IsList l items := by
    obtain ⟨o, ho, hc, n, hd⟩ := hl
    exact ⟨o, oth _ _ (Nat.ne_of_lt hll) ho, hc, n, hd⟩
  refine lrev_extend (A := A.in1) hh (hit.at fun o e => oth _ _ (Nat.ne_of_lt hli) e) hlI hne hn _ (Nat.ne_of_gt hli) (Nat.ne_of_gt hll) _ hS₂ fun h' tk acc' c' hk hS' hacc => ?_
  exact ⟨rfl, hQ h' tk acc' c' (fun b o hb e => hk b o (Nat.ne_of_lt (Heap.lt_size e)) hb (oth b o (Nat.ne_of_lt (Heap.lt_size e)) e)) hS' hacc⟩
end
section
variable {C : Nat → List D → Option D} {X : Cx} {a : E} {x : Expr} {pos pos2 p p2 : Pos}
def tLstRev (K : PySem.W.Frag) (te : TE) : TE := fun σ H Q => te σ H fun v H1 => ∃ (a : Addr) (xs : List V), v = .ref a ∧ SqL K H1 a xs ∧ ∀ q, H1 q = none → Q (.ref q) (upd H1 q (.lst xs.reverse))
theorem pe_lstRev {e : Expr} {te : TE} (hc : X.calm = true) (hg : Gl X "list") (hm : X.mg "list" = none) (hg2 : Gl X "reversed") (hm2 : X.mg "reversed" = none) (he : PE X e te)
    (hs : starEach [e] X.env = (false, eval e X.env) :: starEach [] X.env)
    (hs2 : starEach [.Call (.Name "reversed" p2) [e] [] pos2] X.env = (false, eval (.Call (.Name "reversed" p2) [e] [] pos2) X.env) :: starEach [] X.env) :
    PE X (.Call (.Name "list" p) [.Call (.Name "reversed" p2) [e] [] pos2] [] pos) (tLstRev X.K te) := by
  refine ⟨fun pins s σ H Q I h => ?_⟩
  refine Call_ (ld_blt I hg hm boot_list (PyProof.Rows.callWith_type1 (args_cons (Call_ (ld_blt I hg2 hm2 PyProof.Rows.boot_reversed (PyProof.Rows.callWith_type1 (args_cons (thn (he.run pins s σ H _ I h) fun u s1 ⟨v, H1, I1, r1, q1⟩ => args_nil ?_) hs) hs rfl))) hs2) hs2 rfl))
  obtain ⟨a, xs, ev, hq, q⟩ := q1
  subst ev
  obtain rfl : u = Value.ref a := r1
  obtain ⟨its, rv, p', hz⟩ := I1.list hq
  refine call_reversed_list p'.isList (args_nil ?_)
  have I2 : L2.Inv X pins σ H1 { s1 with heap := s1.heap.push (revObj a ((its.toArray.size : Int) - 1)) } := I1.kept (t' := s1.toks) fun b o e => Heap.get?_push_of_some _ e
  obtain ⟨f0, f1, f2, f3, f4, f5⟩ := I1.fpOk (H' := H1) (b := s1.heap.objs.size) (Nat.le_refl _) (I1.hok.fresh (Nat.le_refl _))
  have hl := p'.isList
  obtain ⟨ol, hol, _⟩ := id hl
  have hne : a ≠ s1.heap.objs.size := Nat.ne_of_lt (Heap.lt_size hol)
  have hn : its.toArray.size ≤ sizeLine := by rw [List.size_toArray, ← rv.length]; exact hz
  refine lrev_call (s := { s1 with heap := s1.heap.push (revObj a ((its.toArray.size : Int) - 1)) }) (I1.ok.hd hc) ⟨_, Heap.get?_push_size _ rfl, rfl, rfl⟩ (hl.push _) hne hn fun h' tk acc c' hk hS' hi => ?_
  have hsz : (s1.heap.push (revObj a ((its.toArray.size : Int) - 1))).objs.size = s1.heap.objs.size + 1 := by simp [Heap.push]
  refine ⟨.ref _, upd H1 _ (.lst xs.reverse), I1.laid (t' := tk) (a := (s1.heap.push (revObj a ((its.toArray.size : Int) - 1))).objs.size) (fun b o e => hk b o (Nat.ne_of_lt (Heap.lt_size e)) (Heap.get?_push_of_some _ e)) (by rw [hsz]; exact Nat.le_succ _) (show ObjOk X.prog X.w _ _ _ (.lst xs.reverse) from ⟨?_, acc.toList, c', vals_rev rv hi, ?_⟩), rfl, q _ (I1.hok.fresh (by rw [hsz]; exact Nat.le_succ _))⟩
  · rw [List.length_reverse]; exact hz
  · rw [Array.toArray_toList]; exact hS'
theorem se_listRev (G : Gd X) (ha : SE C X a x) (hg : Gl X ("list" : Str) := by rfl) (hg2 : Gl X ("reversed" : Str) := by rfl) (hs : starEach [x] X.env = (false, eval x X.env) :: starEach [] X.env := by rfl)
    (hs2 : starEach [.Call (.Name ("reversed" : Str) p2) [x] [] pos2] X.env = (false, eval (.Call (.Name ("reversed" : Str) p2) [x] [] pos2) X.env) :: starEach [] X.env := by rfl) :
    SE C X (.listRev a) (.Call (.Name ("list" : Str) p) [.Call (.Name ("reversed" : Str) p2) [x] [] pos2] [] pos) := by
  refine imp_e (pe_lstRev G.calm hg G.list hg2 G.rev ha hs hs2) fun σ H Q h => ?_
  obtain ⟨B0, H0, B, env, o, d, k, R, he, q⟩ := h
  obtain ⟨da, h1, h2⟩ := bind1_some (show ((em (ev C a env)).bind fun x => match x with | .lst xs => some ((.lst xs.reverse, .new1) : D × Kd) | _ => none) = some (d, k) from he)
  refine use_e R h1 fun B' H' u s ru => ?_
  cases da <;> simp only [reduceCtorEq] at h2
  cases h2
  obtain ⟨p1, vs, rfl, q1, r1⟩ := ru
  exact ⟨p1, vs, rfl, q1, fin_list q rfl s r1.reverse⟩
end
end Hg
end

section
set_option Elab.async false
set_option maxRecDepth 100000
set_option maxHeartbeats 4000000
/-! Snd17: a comprehension over a dict's entries; chains as tests. -/
namespace Hg
open PySem PySem.Spec PyProof.Rows L2
variable [TB : Tabl]
section
variable {C : Nat → List D → Option D} {X : Cx} {a b c e : E} {x y z : Expr} {n : Str} {pos pos1 pos2 pos3 p p2 : Pos}
theorem ch_read {o1 o2 : CO} : ∀ σ H Q, tE C X.K (.ch o1 o2 a b c) σ H Q → tChain (rI0 fun i j => .bl (coB o1 i j)) (rI0 fun i j => .bl (coB o2 i j)) (tE C X.K a) (tE C X.K b) (tE C X.K c) σ H Q := by
  intro σ H Q h
  obtain ⟨B0, H0, B, env, o, d, k, R, he, q⟩ := h
  obtain ⟨da, h1, h2⟩ := bind1_some (show ((bm (ev C a env)).bind fun x => (bm (ev C b env)).bind fun y => (asInt x).bind fun i => (asInt y).bind fun j =>
      if coB o1 i j then (bm (ev C c env)).bind fun z => (asInt z).bind fun k => some ((.bl (coB o2 j k), .frz) : D × Kd) else some (.bl false, .frz)) = some (d, k) from he)
  obtain ⟨db, h3, h4⟩ := bind1_some h2
  obtain ⟨i, h5, h6⟩ := bind1_some h4
  obtain ⟨j, h7, h8⟩ := bind1_some h6
  obtain rfl := asInt_some h5
  obtain rfl := asInt_some h7
  refine two_b R h1 h3 fun B' H' u v s ru rv => ?_
  refine ⟨i, j, rep_int ru, rep_int rv, coB o1 i j, rfl, ?_⟩
  by_cases hc1 : coB o1 i j = true
  · rw [if_pos hc1] at h8 ⊢
    obtain ⟨dc, h9, h10⟩ := bind1_some h8
    obtain ⟨m, h11, h12⟩ := bind1_some h10
    obtain rfl := asInt_some h11
    cases h12
    refine use_b (R.step s) h9 fun B2 H2 w s2 rw' => ?_
    exact ⟨j, m, rep_int rv, rep_int rw', q B2 H2 _ [] (s.trans s2) ⟨rfl, bl_rep⟩ FrF.nil⟩
  · rw [if_neg hc1] at h8 ⊢
    cases h8
    exact q B' H' _ [] s ⟨rfl, bl_rep⟩ FrF.nil
theorem st_ch {op op' : CmpOp} {o1 o2 : CO} (ho : OpR X (compareOp op) (rI0 fun i j => .bl (coB o1 i j))) (ho' : OpR X (compareOp op') (rI0 fun i j => .bl (coB o2 i j))) (ha : SE C X a x) (hb : SE C X b y) (hc : SE C X c z) (hm : lastMarks [op, op'] [y, z] = false := by with_unfolding_all rfl) :
    ST C X (.val (.ch o1 o2 a b c)) (.Compare x [op, op'] [y, z] pos) := by
  refine imp_t (pt_chain ho ho' ha hb hc hm) fun σ H Q h => ?_
  obtain ⟨B0, H0, B, env, o, b', R, he, q⟩ := h
  obtain ⟨dx, h1, h2⟩ := bind1_some (show (bm (ev C (.ch o1 o2 a b c) env)).bind asBl = some b' from he)
  obtain rfl := asBl_some h2
  exact ch_read σ H _ (use_b R h1 fun B' H' u s ru => ⟨b', rep_bl ru, q B' H' s⟩)
theorem st_ch_lt_lt (ha : SE C X a x) (hb : SE C X b y) (hc : SE C X c z) (hm : lastMarks [.Lt, .Lt] [y, z] = false := by with_unfolding_all rfl) : ST C X (.val (.ch .lt .lt a b c)) (.Compare x [.Lt, .Lt] [y, z] pos) := st_ch op_lt op_lt ha hb hc hm
theorem st_ch_le_le (ha : SE C X a x) (hb : SE C X b y) (hc : SE C X c z) (hm : lastMarks [.LtE, .LtE] [y, z] = false := by with_unfolding_all rfl) : ST C X (.val (.ch .le .le a b c)) (.Compare x [.LtE, .LtE] [y, z] pos) := st_ch op_le op_le ha hb hc hm
end
section
variable {C : Nat → List D → Option D} {X : Cx} {elt : E} {ex tgx : Expr} {tg : Tg} {cond : T} {pos pos1 pos2 pos3 : Pos} {ifs : List Expr} {scope : Scope} {own : List (Str × Nat)} {n : Str} {y : Nat} {elts : List Expr} {kk : Nat} {tpos : Pos}
theorem it_items {K : PySem.W.Frag} {B1 H : Hp} {pp : Addr} {od : Obj} {kvs : List (Ky × D)} {vs : List (L2.Key × V)} (hf : H pp = some (.frz od (.dK vs))) (r : RepK K B1 kvs vs) : ItOk K B1 H (kvs.map fun kv => .tup [kyD kv.1, kv.2]) (Iti pp od vs) where
  go := fun i H' hi e => ⟨e.at hf nt_frz, by rw [r.length]; simpa using hi⟩
  yl := fun i H' x H2 Bc d hd e1 e2 e3 hy => by
    obtain ⟨T, k, v, h1, rfl, h3, rfl⟩ := hy
    rw [List.getElem?_map, Option.map_eq_some_iff] at hd
    obtain ⟨kv, h4, rfl⟩ := hd
    have hget : ∀ {kvs : List (Ky × D)} {vs : List (L2.Key × V)} {i : Nat} {kv : Ky × D} {k : L2.Key} {v : V}, RepK K B1 kvs vs → kvs[i]? = some kv → vs[i]? = some (k, v) → k = ky kv.1 ∧ Rep K B1 kv.2 v := by
      intro kvs
      induction kvs with
      | nil => intro vs i kv k v h h1; simp at h1
      | cons q kvs ih =>
        intro vs i kv k v h h1 h2
        obtain ⟨qk, qd⟩ := q
        obtain ⟨u, r', rfl, g1, g2⟩ := h.cons_of
        cases i with
        | zero => simp at h1 h2; obtain ⟨rfl, rfl⟩ := h2; subst h1; exact ⟨rfl, g1⟩
        | succ i => exact ih g2 (by simpa using h1) (by simpa using h2)
    obtain ⟨rfl, g2⟩ := hget r h4 h1
    refine ⟨_, Step.new e2 h3, tup_rep upd_same (reps_cons ?_ (reps_cons (Rep.mono (e1.trans (Ext.new (e2.back h3))) _ _ g2) reps_nil))⟩
    obtain ⟨kk, dd⟩ := kv
    cases kk with
    | inl i => exact int_rep
    | inr t => exact str_rep
  st := fun i H' hi e => ⟨e.at hf nt_frz, by rw [r.length, hi]; simp⟩
/-- what is shown of a comprehension over the entries of one's own dict, under its lock -/
theorem compIt_read (G : Gd X) (hown : own.map (·.2) = tg.slots)
    (hind : ∀ (d : D) (env : Hg.Env), ((bindT tg d (unset tg.slots (env.set y .un))).bind fun e1 => (evT C cond e1).bind fun p => if p then (ev C elt e1).map some else some none) = (bindT tg d (unset tg.slots env)).bind fun e1 => (evT C cond e1).bind fun p => if p then (ev C elt e1).map some else some none) :
    ∀ σ H Q, tE C X.K (.comp false elt tg (.items (.var y)) cond) σ H Q → tLockE (tLc (iItems (tVar y)) (tG X.K tg) (tT C X.K cond) (tE C X.K elt) (own.map (·.2))) σ H Q := by
  intro σ H Q h
  obtain ⟨B0, H0, B, env, o, d, k, R, he, q⟩ := h
  obtain ⟨⟨xs, ow⟩, h1, h2⟩ := bind1_some (show ((evI C (.items (.var y)) (unset tg.slots env)).bind fun xs => (compL (fun d => (bindT tg d (unset tg.slots env)).bind fun e1 => (evT C cond e1).bind fun p => if p then (ev C elt e1).map some else some none) xs.1).bind (compR false)) = some (d, k) from he)
  obtain ⟨⟨dd, kd⟩, h3, h4⟩ := bind1_some (show ((ev C (.var y) (unset tg.slots env)).bind fun p => match p.1 with
      | .dic kvs => if p.2 = .own1 then some (kvs.map fun kv => D.tup [kyD kv.1, kv.2], true) else none
      | _ => none) = some (xs, ow) from h1)
  cases dd <;> simp only [reduceCtorEq] at h4
  rename_i kvs
  obtain ⟨hk, h5⟩ := if_some h4
  subst hk
  cases h5
  have hsl : (unset tg.slots env)[y]? = some (.val (.dic kvs) .own1) := by
    have h3' : (match (unset tg.slots env)[y]? with | some (.val d k) => some (d, k) | _ => none) = some (D.dic kvs, Kd.own1) := h3
    split at h3'
    · rename_i d' k' hq
      cases h3'
      exact hq
    · cases h3'
  obtain ⟨hyn, hye⟩ := unset_val hsl
  obtain ⟨v, F, g1, g2, g3, g4⟩ := R.sl y _ _ hye
  obtain ⟨pp, vs, rfl, rfl, g5, g6⟩ := own1_dic g2
  have hop := g4 pp (by simp)
  obtain ⟨f1, f2, f3⟩ := R.fr pp y hop
  refine ⟨pp, .dK vs, g5, trivial, fun od => ?_⟩
  have hk : k = .new1 := by
    obtain ⟨ps, _, h6⟩ := bind1_some h2
    unfold compR at h6
    by_cases hl : ps.length < L
    · rw [if_pos hl, if_neg (by decide), Option.map_eq_some_iff] at h6
      obtain ⟨_, _, h7⟩ := h6
      cases h7; rfl
    · rw [if_neg hl] at h6; cases h6
  subst hk
  have hn0 : ∀ q, H pp ≠ some (LamX.CodeO pp q) := fun q => by rw [g5]; exact code_dK
  have hBH : Ext B (upd H pp (.frz od (.dK vs))) := R.bh.upd f1 hn0
  have R2 : Rel X.K B0 H0 B (env.set y .un) σ (upd H pp (.frz od (.dK vs))) (dropO o y) := by
    refine ⟨R.b0, R.h0.upd f2 hn0, hBH, R.tt, R.gr, by rw [List.length_set]; exact R.len, fun i d' k' e => ?_, fun w i e => ?_, fun w i e q => ?_⟩
    · rw [List.getElem?_set] at e
      by_cases hi : y = i
      · rw [if_pos hi] at e
        split at e <;> cases e
      · rw [if_neg hi] at e
        obtain ⟨w, F', k1, k2, k3, k4⟩ := R.sl i d' k' e
        refine ⟨w, F', k1, k2.keep (Ext.refl _) (fun a ha => upd_ne fun z => ?_), k3, fun a ha => dropO_ne (k4 a ha) fun z => hi z.symm⟩
        subst z
        exact hi (Option.some.inj (hop.symm.trans (k4 a ha)))
    · obtain ⟨e1, e2⟩ := dropO_some e
      obtain ⟨k1, k2, k3⟩ := R.fr w i e1
      refine ⟨k1, k2, ?_⟩
      by_cases z : w = pp
      · subst z; rw [upd_same]; exact fun z => nomatch z
      · rw [upd_ne z]; exact k3
    · by_cases z : w = pp
      · subst z; rw [upd_same]; exact code_frz
      · rw [upd_ne z]; exact R.nc w i (dropO_some e).1 q
  obtain ⟨ps, h6, h7⟩ := bind1_some h2
  have hfun : (fun d => (bindT tg d (unset tg.slots (env.set y .un))).bind fun e1 => (evT C cond e1).bind fun p => if p then (ev C elt e1).map some else some none) = fun d => (bindT tg d (unset tg.slots env)).bind fun e1 => (evT C cond e1).bind fun p => if p then (ev C elt e1).map some else some none := funext fun d => hind d env
  rw [hown]
  refine ⟨.ref pp, g1, pp, od, vs, rfl, upd_same, ?_⟩
  refine lc_body (C := C) (X := X) (elt := elt) (tg := tg) (cond := cond) (deep := false) (ps := ps) (Q := fun v H' => H' pp = some (.frz od (.dK vs)) ∧ Q v (upd H' pp (.dK vs))) R2 (by rw [hfun]; exact h6) h7 (fun B' H' v F s r f => ?_) (Step.refl hBH) (Ext.refl _) (it_items upd_same g6)
  have hp' : H' pp = some (.frz od (.dK vs)) := s.hh.at upd_same nt_frz
  have hn1 : ∀ q, H' pp ≠ some (LamX.CodeO pp q) := fun q => by rw [hp']; exact code_frz
  refine ⟨hp', ?_⟩
  have hb' : B' pp = none := by
    cases hq : B' pp with
    | none => rfl
    | some w =>
      rcases s.nw pp (by rw [hq]; exact fun z => nomatch z) with z | z
      · exact absurd f1 z
      · rw [upd_same] at z; cases z
  have hFp : ∀ a ∈ F, a ≠ pp := fun a ha z => by
    subst z
    have := f.h a ha
    rw [upd_same] at this
    cases this
  refine q B' _ v F ⟨s.bb, s.hh.put (.inr g5) hn1, s.bh.upd hb' hn1, fun w hw => ?_⟩ (Own1.keep r (Ext.refl _) fun a ha => upd_ne (hFp a ha)) ⟨f.nd, fun a ha => ?_, f.b⟩
  · rcases s.nw w hw with z | z
    · exact .inl z
    · by_cases e : w = pp
      · subst e; rw [upd_same] at z; cases z
      · rw [upd_ne e] at z; exact .inr z
  · have := f.h a ha
    rw [upd_ne (hFp a ha)] at this
    exact this
/-- the same, as a rule -/
theorem se_compIt (G : Gd X) (own : List (Str × Nat)) (hi : X.N[y]? = some n := by rfl) (hv : Vis X.env.scope n := by first | exact Or.inl rfl | exact Or.inr (Or.inl rfl) | exact Or.inr (Or.inr rfl)) (hd : (n == ("__debug__" : Str)) = false := by decide) (hcd : (n == ("__classdict__" : Str)) = false := by decide)
    (hg : ∀ (s : Shared) (H : Hp) (Cl : Addr) (cl : List (Str × Addr)) (fp : List Addr), SG (X.blk s H scope (compEnvC scope cl Cl X.env) fp) tg (.Tuple elts kk tpos))
    (ht : ∀ (s : Shared) (H : Hp) (Cl : Addr) (cl : List (Str × Addr)) (fp : List Addr), PTs (X.blk s H scope (compEnvC scope cl Cl X.env) fp) ifs (tT C X.K cond))
    (he : ∀ (s : Shared) (H : Hp) (Cl : Addr) (cl : List (Str × Addr)) (fp : List Addr), SE C (X.blk s H scope (compEnvC scope cl Cl X.env) fp) elt ex)
    (hind : ∀ (d : D) (env : Hg.Env), ((bindT tg d (unset tg.slots (env.set y .un))).bind fun e1 => (evT C cond e1).bind fun p => if p then (ev C elt e1).map some else some none) = (bindT tg d (unset tg.slots env)).bind fun e1 => (evT C cond e1).bind fun p => if p then (ev C elt e1).map some else some none)
    (ok : BlkOk X.N X.env.scope scope own := by exact blkOk_by (by kernel_rfl)) (hown : own.map (·.2) = tg.slots := by rfl)
    (hs : ∀ x, foldedSetIterable (.Call (.Attribute (.Name n pos1) "items" pos2) [] [] pos3) X.env x = pure x := by intro _; rfl)
    (hbase : attributeBase (.Name n pos1) "items" X.env (eval (.Name n pos1) X.env) = eval (.Name n pos1) X.env := by rfl) (hline : (pos2.endLine == pos3.line) = true := by rfl) :
    SE C X (.comp false elt tg (.items (.var y)) cond) (.ListComp ex [⟨.Tuple elts kk tpos, .Call (.Attribute (.Name n pos1) "items" pos2) [] [] pos3, ifs, 0⟩] scope pos) :=
  imp_e (pe_lock (pe_lc G.calm G.nd (pi_items (pv y hi hv hd hcd) hbase hline) ok hg ht he hs)) (compIt_read G hown hind)
/-- [k for k, v in d.items() if v]: the dict itself is not read within -/
theorem ind_items {i j : Nat} (hij : i ≠ j) (hi : y ≠ i) (hj : y ≠ j) : ∀ (d : D) (env : Hg.Env), ((bindT (.tp [i, j]) d (unset (Tg.tp [i, j]).slots (env.set y .un))).bind fun e1 => (evT C (.tru (.var j)) e1).bind fun p => if p then (ev C (.var i) e1).map some else some none) = (bindT (.tp [i, j]) d (unset (Tg.tp [i, j]).slots env)).bind fun e1 => (evT C (.tru (.var j)) e1).bind fun p => if p then (ev C (.var i) e1).map some else some none := by
  intro d env
  cases d with
  | tup ds =>
    match ds with
    | [] => rfl
    | [u] => rfl
    | u :: w :: t :: r => rfl
    | [u, w] =>
      have e1 : ∀ env : Hg.Env, bindT (.tp [i, j]) (.tup [u, w]) (unset (Tg.tp [i, j]).slots env) = some ((((env.set i .un).set j .un).set i (.val u .frz)).set j (.val w .frz)) := fun _ => rfl
      have e2 : ∀ env : Hg.Env, ((((env.set i .un).set j .un).set i (.val u .frz)).set j (.val w .frz))[j]? = if j < env.length then some (.val w .frz) else none := by
        intro env
        rw [List.getElem?_set, if_pos rfl]
        simp only [List.length_set]
      have e3 : ∀ env : Hg.Env, ((((env.set i .un).set j .un).set i (.val u .frz)).set j (.val w .frz))[i]? = if i < env.length then some (.val u .frz) else none := by
        intro env
        rw [List.getElem?_set, if_neg (Ne.symm hij), List.getElem?_set, if_pos rfl]
        simp only [List.length_set]
      rw [e1, e1]
      simp only [Option.bind_some, evT, ev, e2, e3, List.length_set]
  | _ => rfl
end
end Hg
end

section
set_option Elab.async false
set_option maxRecDepth 100000
set_option maxHeartbeats 4000000
/-! Snd18: a text so many times. -/
namespace Hg
open PySem PySem.Spec PyProof.Rows L2
variable [TB : Tabl]
section
variable {C : Nat → List D → Option D} {X : Cx} {a b c e : E} {x y z : Expr} {n : Str} {pos pos1 pos2 pos3 p p2 : Pos}
theorem foldl_arr (s : List Nat) : ∀ (k : Nat) (acc : Array Nat), (List.replicate k s.toArray).foldl (· ++ ·) acc = acc ++ (List.replicate k s).flatten.toArray
  | 0, acc => by simp
  | k + 1, acc => by
    rw [List.replicate_succ, List.foldl_cons, foldl_arr s k, List.replicate_succ, List.flatten_cons]
    simp
theorem txt_mul (s : List Nat) (j : Int) : Txt.mul (sv s) j = sv (List.replicate j.toNat s).flatten := by
  unfold Txt.mul
  by_cases h1 : j < 1
  · rw [if_pos h1, show j.toNat = 0 by omega]; rfl
  · rw [if_neg h1]
    by_cases h2 : (j == 1 || (sv s).length == 0) = true
    · rw [if_pos h2]
      simp only [Bool.or_eq_true, beq_iff_eq] at h2
      rcases h2 with rfl | h2
      · simp
      · rw [sv_length] at h2
        have : s = [] := List.length_eq_zero_iff.mp h2
        subst this
        simp
    · rw [if_neg h2]
      show (⟨_⟩ : Str) = ⟨_⟩
      congr 1
      have := foldl_arr s j.toNat #[]
      simpa [sv] using this
def rMulS : R2 := fun x y H Q => ∃ (s : List Nat) (j : Int), x = .str (sv s) ∧ y = .int j ∧ 0 ≤ j ∧ j ≤ 1000 ∧ s.length * j.toNat ≤ L ∧ Q (.str (sv (List.replicate j.toNat s).flatten)) H
theorem op_mulS : OpR X (binaryOp .Mult) rMulS := by
  intro pins s σ H x y v u Q I rx ry h
  obtain ⟨z, j, rfl, rfl, h0, h1, hz, q⟩ := h
  obtain ⟨t, rfl⟩ := rx
  obtain ⟨t', rfl⟩ := ry
  refine SB.mul ⟨?_, fun g1 g2 => ?_, fun g1 g2 => ?_⟩ fun t' k => ?_
  · rw [decide_eq_false (by omega), decide_eq_false (by omega)]; rfl
  · rw [sv_length]
    have hzl : z.length ≤ 100000 := by
      have h2 : 1 ≤ j.toNat := by omega
      have h3 : z.length * 1 ≤ z.length * j.toNat := Nat.mul_le_mul_left _ h2
      unfold Hg.L at hz
      omega
    have h5 : (2 ^ 63 - 1 : Int) / 1000 ≤ (2 ^ 63 - 1) / j := by
      apply Int.le_ediv_of_mul_le (by omega)
      have : (2 ^ 63 - 1 : Int) / 1000 * j ≤ (2 ^ 63 - 1 : Int) / 1000 * 1000 := Int.mul_le_mul_of_nonneg_left h1 (by decide)
      omega
    have h6 : (100000 : Int) ≤ (2 ^ 63 - 1) / 1000 := by decide
    omega
  · rw [sv_length]
    show decide (_ > sizeLine) = false
    have := sizeL hz
    exact decide_eq_false (by omega)
  · rw [txt_mul]
    exact ⟨.str _, H, I.tok _, ⟨_, rfl⟩, q⟩
theorem se_mulS (ha : SE C X a x) (hb : SE C X b y) : SE C X (.mulS a b) (.BinOp x .Mult y pos) := by
  refine se_bin op_mulS ha hb fun K B0 H0 B env σ H o d k Q R he q hK => ?_
  subst hK
  have he' : nw ((em (ev C a env)).bind fun x => (em (ev C b env)).bind fun y => mulD x y) = some (d, k) := he
  obtain ⟨he1, hk⟩ := nw_some he'
  obtain ⟨dx, dy, h1, h2, h3⟩ := bind2_some he1
  refine two_e R h1 h2 fun B' H' u v s ru rv => ?_
  cases dx <;> cases dy <;> simp [mulD] at h3
  obtain ⟨⟨h4, h5, h6⟩, rfl⟩ := h3
  exact ⟨_, _, el_str ru, el_int rv, h4, h5, h6, q B' H' _ [] s (by rw [hk]; exact ⟨rfl, str_rep⟩) FrF.nil⟩
end
end Hg
end

section
set_option Elab.async false
set_option maxRecDepth 100000
set_option maxHeartbeats 4000000
/-! Snd19: list.remove of an int. -/
namespace Hg
open PySem PySem.Spec PyProof.Rows L2
variable [TB : Tabl]
section
variable {C : Nat → List D → Option D} {X : Cx} {a b c e : E} {x y z : Expr} {n : Str} {pos pos1 pos2 pos3 p p2 : Pos}
theorem erase_idx (ns : List Int) (k : Int) (h : k ∈ ns) : ∃ j, ns[j]? = some k ∧ (∀ m, m < j → ns[m]? ≠ some k) ∧ ns.eraseIdx j = ns.erase k := by
  induction ns with
  | nil => cases h
  | cons n ns ih =>
    by_cases c : n = k
    · subst c
      exact ⟨0, rfl, fun m hm => absurd hm (by omega), by simp⟩
    · have hk : k ∈ ns := by
        rcases List.mem_cons.mp h with q | q
        · exact absurd q.symm c
        · exact q
      obtain ⟨j, h1, h2, h3⟩ := ih hk
      refine ⟨j + 1, by simpa using h1, fun m hm => ?_, ?_⟩
      · cases m with
        | zero => simpa using c
        | succ m => simpa using h2 m (by omega)
      · rw [List.eraseIdx_cons_succ, h3, List.erase_cons_tail (by simpa using c)]
theorem ss_rem {i : Nat} (h : SE C X a x) (hi : X.N[i]? = some n := by rfl) (hv : Vis X.env.scope n := by first | exact Or.inl rfl | exact Or.inr (Or.inl rfl) | exact Or.inr (Or.inr rfl)) (hd : (n == ("__debug__" : Str)) = false := by decide) (hcd : (n == ("__classdict__" : Str)) = false := by decide)
    (hs : swapsWith (.Call (.Attribute (.Name n pos1) "remove" pos2) [x] [] p) none pos.line X.env = pure false := by rfl) (hbase : attributeBase (.Name n pos1) "remove" X.env (eval (.Name n pos1) X.env) = eval (.Name n pos1) X.env := by rfl)
    (hfew : ((backTo p (starEach [x] X.env)).all (fun x => !x.1) && (backToKw p (keywordEach [] X.env)).all (fun x => x.1.isSome) && decide ([x].length + ([] : List Keyword).length + (if ([] : List Keyword).isEmpty then 0 else 1) < 30)) = true := by rfl)
    (hline : (pos2.endLine == p.line) = true := by rfl) (hst : starEach [x] X.env = (false, eval x X.env) :: starEach [] X.env := by rfl) : SS C X (.rem i a) (.Expr (.Call (.Attribute (.Name n pos1) "remove" pos2) [x] [] p) pos) := by
  refine imp_s (ps_expr (pe_bm PySem.F.plainAttrs_list PySem.F.slot_list_remove PySem.F.type_list_remove mt_remove (pv i hi hv hd hcd) (pa_cons h pa_nil hst) hbase hfew hline hst rfl) hs) fun Dn σ H ⟨B0, H0, B, env, o, out, R, he, q⟩ => ?_
  obtain ⟨d, h1, h2⟩ := bind1_some (show ((bm (ev C a env)).bind fun x => match env[i]? with
      | some (.val (.lst xs) .own1) => (asInt x).bind fun j => (intsD xs).bind fun ns => if j ∈ ns then some (Out.nx (env.set i (.val (.lst ((ns.erase j).map D.int)) .own1))) else none
      | _ => none) = some out from he)
  obtain ⟨xs, hi', h3⟩ := slot_own1 (f := fun xs => (asInt d).bind fun j => (intsD xs).bind fun ns => if j ∈ ns then some (Out.nx (env.set i (.val (.lst ((ns.erase j).map D.int)) .own1))) else none) h2
  obtain ⟨j, h4, h5⟩ := bind1_some h3
  obtain rfl := asInt_some h4
  obtain ⟨ns, h6, h7⟩ := bind1_some h5
  obtain ⟨hj, h8⟩ := if_some h7
  cases h8
  obtain ⟨p1, vs, k1, k2, k3, _⟩ := R.lst1 hi'
  refine ⟨.ref p1, k1, .inl ⟨rfl, vs, SqL.of k2⟩, ?_⟩
  refine use_b R h1 fun B' H' v s r => ?_
  obtain ⟨p', vs', k1', k2', k3', mk⟩ := (R.step s).lst1 hi'
  rw [k1] at k1'
  cases k1'
  have e1 := Reps.ints h6 k3'
  subst e1
  obtain ⟨m, m1, m2, m3⟩ := erase_idx ns j hj
  have hv := rep_int r
  subst hv
  refine ⟨p1, ns, j, m, rfl, rfl, k2', m1, m2, ?_⟩
  rw [m3]
  exact q B' σ _ o (mk _ _ (reps_ints _)) s.bb
end
end Hg
end

section
set_option Elab.async false
set_option maxRecDepth 100000
set_option maxHeartbeats 4000000
/-! Snd21: sorted by a lambda that looks its item up in a captured list. -/
namespace Hg
open PySem PySem.Spec PyProof.Rows L2
variable [TB : Tabl]
section
variable {X : Cx} {pins : List (Addr × Obj)} {σ : L2.St} {H : Hp} {s : Shared}
abbrev lamQ (X : Cx) : Str := X.env.qual ++ "<lambda>"
abbrev lamCl (X : Cx) (scope : Scope) : List (Str × Addr) := cloFrom X.env.cells scope.names []
/-- a lambda is made: all stays but the table, which may grow -/
theorem lam_mk {cM tP : Addr} {pars : Arguments} {bd : Expr} {lsc : Scope} {lp : Pos} {E Q : Value → Shared → Prop} (I : Inv X pins σ H s) (tb : LamX.TabB X.base X.mg cM tP) (hcode : X.env.code = .ref cM)
    (hq : TB.q tP = some (lamQ X)) (hT : TabsOk H) (hdef : defaultsOf pars X.env = ([], [])) (hfree : ∀ y ∈ lsc.names, y.2 = .free → ∃ c, X.env.cells.lookup y.1 = some c)
    (h : ∀ (f cN : Addr) (pm ctv : Value) (H1 : Hp) (s1 : Shared), Inv X pins σ H1 s1 → Ext H H1 →
      s1.heap.get? f = some (PySem.W.kla_obj "<lambda>" (lamQ X) pars bd lsc (lamCl X lsc) pm cN ctv) → s1.heap.CodeRec (.ref cN) (lamQ X) → Q (.ref f) s1) :
    wpAny (model X.prog X.w) X.A (eval (.Lambda pars bd lsc lp) X.env) Q E s := by
  obtain ⟨ps, hP, ht, ha⟩ := hT tP _ hq
  have hPo : s.heap.get? tP = some { cls := .none, data := .fields ps } := I.hok tP _ hP
  have hbl : s.heap.BuiltinsAt X.mg tP := tb.bm.keeps I.bk
  have hcl : closureFor lsc X.env = pure (lamCl X lsc) := closure_ok hfree
  have hglob := I.mod.glob.keeps I.bk
  have hch := tb.code.keeps I.bk
  refine PySem.W.kla_eval hdef ?_
  cases hc : codeAmong lp ps.toList with
  | some cv =>
    obtain ⟨cN, rfl, hco⟩ := ha lp cv hc
    obtain ⟨⟨oc, fs, tk0, o1, o2, o3⟩, _, _⟩ := I.hok cN _ hco
    refine PySem.W.kla_makeFunctionHit hcl I.ok.glob hglob hcode hch hPo ht hc hbl fun ctv g tk keep hsz => ?_
    refine h g.objs.size cN _ ctv H _ (I.kept fun b o e => Heap.get?_push_of_some _ (keep b o e)) (Ext.refl H) (Heap.get?_push_size _ rfl) ?_
    exact ⟨cN, oc, fs, tk0, rfl, Heap.get?_push_of_some _ (keep _ _ o1), o2, o3⟩
  | none =>
    refine PySem.W.kla_makeFunction hcl I.ok.glob hglob hcode hch hPo ht hc tb.gP hbl fun cN ctv g tk keep hge hlt hrec htab => ?_
    obtain ⟨c2, oc, fs, tk0, e2, o1, o2, o3⟩ := hrec
    cases e2
    have nC : H cN = none := I.hok.fresh hge
    have I1 := LamX.inv_table (q := lamQ X) (t' := tk) (more := #[rawInt lp.line, rawInt lp.col, .ref cN])
      (h' := g.push (PySem.W.kla_obj "<lambda>" (lamQ X) pars bd lsc (lamCl X lsc) ((X.mg "__name__").getD .none) cN ctv)) I hP
      (fun b o hb e => Heap.get?_push_of_some _ (keep b o hb e)) (Heap.get?_push_of_some _ htab) hge ⟨oc, fs, tk0, Heap.get?_push_of_some _ o1, o2, o3⟩
    refine h g.objs.size cN _ ctv _ _ I1 (fun a o e => ?_) (Heap.get?_push_size _ rfl) ⟨cN, oc, fs, tk0, rfl, Heap.get?_push_of_some _ o1, o2, o3⟩
    have hac : a ≠ cN := ne_of_none e nC
    rw [upd_ne hac]
    by_cases hb : a = tP
    · subst hb
      rw [hP] at e
      cases e
      refine .inr ⟨ps, _, rfl, upd_same, fun q2 hq2 => ?_⟩
      have eq : q2 = lamQ X := by rw [hq] at hq2; exact (Option.some.inj hq2).symm
      subst eq
      have eL : (ps ++ #[rawInt lp.line, rawInt lp.col, .ref cN]).toList = ps.toList ++ [rawInt lp.line, rawInt lp.col, .ref cN] := by simp
      rw [eL]
      refine ⟨fun t => PySem.TriplesOk_snoc _ _ _ _ t, fun p2 cv hcv => ?_⟩
      rcases LamX.among_app _ ht hcv with z | z
      · exact .inl z
      · exact .inr ⟨cN, z, upd_same⟩
    · rw [upd_ne hb]; exact .inl e
end
theorem each_ints : ∀ {ns : List Int} {us : List Value}, Vals (ns.map V.int) us → PySem.W.EachIs (fun v (b : Int) => ∃ t, v = Value.int b t) us ns
  | [], us, h => by cases h; exact .nil
  | s :: ss, us, h => by
    rw [List.map_cons] at h
    cases h with
    | cons r t =>
      obtain ⟨k, rfl⟩ := r
      exact .cons ⟨k, rfl⟩ (each_ints t)
theorem ints_each : ∀ {out : List Value} {bs : List Int}, PySem.W.EachIs (fun v (b : Int) => ∃ t, v = Value.int b t) out bs → Vals (bs.map V.int) out
  | _, _, .nil => .nil
  | _, _, .cons ⟨t, e⟩ h => by subst e; exact .cons ⟨t, rfl⟩ (ints_each h)
/-- the names of such a lambda -/
structure LamK (cap par : Str) (lsc : Scope) : Prop where
  kind : lsc.kind = .function
  co : lsc.isCoroutine = false
  gen : lsc.isGenerator = false
  cells : ∀ y ∈ lsc.names, y.2 ≠ .cell
  par : lsc.names.lookup par = some .local
  cap : lsc.names.lookup cap = some .free
/-- the lambda called: the key of an item -/
theorem lam_key {X : Cx} {cap par : Str} {pars : Arguments} {lsc : Scope} {p1 p2 p3 : Pos} {f cN cc l : Addr} {pm ctv : Value} {A : Around} {s : Shared} {h : Heap} {tk : Tok} {its : List Value} {i : Int} {ti : Tok} {y : Str} {ty : Tok} {qn : Str} {cl : List (Str × Addr)}
    (hdp : A.depth < recursionLimit) (S : LamK cap par lsc) (hlim : h.NoLimit)
    (ho : h.get? f = some (PySem.W.kla_obj "<lambda>" qn pars (.Subscript (.Name cap p1) (.Name par p2) p3) lsc cl pm cN ctv)) (hrec : h.CodeRec (.ref cN) qn)
    (hbind : ∀ v : Value, bindArgs (PySem.W.kla_fn "<lambda>" qn pars (.Subscript (.Name cap p1) (.Name par p2) p3) lsc cl pm (.ref cN) ctv) ⟨[v], []⟩ = pure [(par, v)])
    (hcl : cl.lookup cap = some cc) (hcell : h.IsCell cc (some (.ref l))) (hl : h.IsList l its.toArray) (hi0 : 0 ≤ i) (hi63 : i < 2 ^ 63) (hit : its.toArray[i.toNat]? = some (.str y ty))
    (hd1 : (cap == ("__debug__" : Str)) = false) (hd2 : (par == ("__debug__" : Str)) = false) (hd3 : (cap == ("__classdict__" : Str)) = false) :
    wpAny (model X.prog X.w) A (call (.ref f) [.int i ti]) (PySem.W.KeyPure (.str y) { s with heap := h, toks := tk }) (fun _ _ => False) { s with heap := h, toks := tk } := by
  refine wpAny_call ?_
  refine PySem.W.kla_callFunE hdp ho rfl S.co S.gen rfl hrec ?_
  rw [hbind]
  refine wpAny_pure (wpAny_newFunctionEnv S.cells (fun z hz => by simp at hz; subst hz; exact S.par) (fun h1 hns hsb => ⟨hlim.fresh _ hsb, ?_⟩) S.kind)
  have kp : ∀ b o, h.get? b = some o → h1.get? b = some o := fun b o e => hsb.extBut b o (Nat.ne_of_lt (Heap.lt_size e)) (Heap.get?_push_of_some _ e)
  refine PySem.W.kla_codeExpr ?_
  refine wpAny_Subscript_Name slot_list_getitem.lookup ?_
  refine wpAny_Name (wpAny_loadName_free S.kind S.cap hcl (hcell.keeps kp) ?_ hd3) hd1
  refine wpAny_Name (wpAny_loadName_local (v := .int i ti) S.kind S.par hns (by simp [List.lookup]) ?_) hd2
  have hl1 : h1.IsList l its.toArray := by
    obtain ⟨o, a1, a2⟩ := hl
    exact ⟨o, kp _ _ a1, a2⟩
  refine ⟨hl1.typeIs, wpAny_getItem_list hl1 hi0 hi63 hit ?_⟩
  exact ⟨h1, _, rfl, kp, .str _ _⟩
end Hg
end

section
set_option Elab.async false
set_option maxRecDepth 100000
set_option maxHeartbeats 4000000
/-! Snd22: sorted(xs, key=lambda o: codes[o], reverse=True). -/
namespace Hg
open PySem PySem.Spec PyProof.Rows L2
variable [TB : Tabl]
theorem kV_code (cs : List (List Nat)) : (PySem.W.dataLe true fun b : Int => PyData.str (sv (cs.getD b.toNat []))) = fun a b : Int => !lexS (cs.getD a.toNat []) (cs.getD b.toNat []) := by
  rw [PySem.W.dataGe_str fun b : Int => sv (cs.getD b.toNat [])]
  funext a b
  rw [← lexS_lt]
  by_cases h : (sv (cs.getD b.toNat [])).cps.toList ≤ (sv (cs.getD a.toNat [])).cps.toList
  · rw [decide_eq_true h, decide_eq_false (by rw [List.not_lt]; exact h)]; rfl
  · rw [decide_eq_false h, decide_eq_true (by rw [List.not_le] at h; exact h)]; rfl
theorem vals_str_at {cs : List (List Nat)} {us : List Value} (h : Vals ((cs.map sv).map V.str) us) {i : Nat} (hi : i < cs.length) : ∃ t, us.toArray[i]? = some (.str (sv (cs.getD i [])) t) := by
  have e : ((cs.map sv).map V.str)[i]? = some (V.str (sv (cs.getD i []))) := by
    simp [hi]
  obtain ⟨w, e1, r⟩ := h.get e
  obtain ⟨t, rfl⟩ := r
  exact ⟨t, by simpa using e1⟩
theorem se_sortedK {C : Nat → List D → Option D} {X : Cx} {a : E} {x : Expr} {pos p p1 p2 p3 lp kp1 kp2 pc : Pos} {i j kr : Nat} {cM tP : Addr} {cap par : Str} {pars : Arguments} {lsc : Scope} (G : Gd X) (ha : SE C X a x) (hr : Room (kr + 1) X.A) (tb : LamX.TabB X.base X.mg cM tP) (hcode : X.env.code = .ref cM)
    (hq : TB.q tP = some (lamQ X)) (S : LamK cap par lsc) (hfn : ∀ y ∈ lsc.names, y.2 = .free → y.1 = cap) (hg : Gl X ("sorted" : Str) := by rfl) (hi : X.N[i]? = some cap := by rfl) (hcapk : X.env.scope.names.lookup cap = some .cell := by rfl)
    (hbind : ∀ (qn : Str) (cl : List (Str × Addr)) (pm ctv v : Value) (cN : Addr), bindArgs (PySem.W.kla_fn "<lambda>" qn pars (.Subscript (.Name cap p1) (.Name par p2) p3) lsc cl pm (.ref cN) ctv) ⟨[v], []⟩ = pure [(par, v)] := by intros; rfl)
    (hdef : defaultsOf pars X.env = ([], []) := by rfl) (hs : backTo pos (starEach [x] X.env) = (false, eval x X.env) :: backTo pos (starEach [] X.env) := by rfl) (hs1 : starEach [x] X.env = (false, eval x X.env) :: starEach [] X.env := by rfl)
    (hpl : (backTo pos (starEach [x] X.env)).any (·.1) = false := by rfl)
    (hall : (backToKw pos (keywordEach [⟨some ("key" : Str), .Lambda pars (.Subscript (.Name cap p1) (.Name par p2) p3) lsc lp, kp1⟩, ⟨some ("reverse" : Str), .Constant (.bool true) j pc, kp2⟩] X.env)).all (·.1.isSome) = true := by rfl)
    (hnone : (backToKw pos (keywordEach [⟨some ("key" : Str), .Lambda pars (.Subscript (.Name cap p1) (.Name par p2) p3) lsc lp, kp1⟩, ⟨some ("reverse" : Str), .Constant (.bool true) j pc, kp2⟩] X.env)).any (·.1.isNone) = false := by rfl)
    (hks : (backToKw pos (keywordEach [⟨some ("key" : Str), .Lambda pars (.Subscript (.Name cap p1) (.Name par p2) p3) lsc lp, kp1⟩, ⟨some ("reverse" : Str), .Constant (.bool true) j pc, kp2⟩] X.env)).filterMap (·.1) = [Str.ofString "key", Str.ofString "reverse"] := by rfl)
    (hd1 : (cap == ("__debug__" : Str)) = false := by decide) (hd2 : (par == ("__debug__" : Str)) = false := by decide) (hd3 : (cap == ("__classdict__" : Str)) = false := by decide) :
    SE C X (.sortedK a i) (.Call (.Name ("sorted" : Str) p) [x] [⟨some ("key" : Str), .Lambda pars (.Subscript (.Name cap p1) (.Name par p2) p3) lsc lp, kp1⟩, ⟨some ("reverse" : Str), .Constant (.bool true) j pc, kp2⟩] pos) := by
  refine ⟨fun pins s σ H Q I h => ?_⟩
  obtain ⟨B0, H0, B, env, o, d, k, R, he, q⟩ := h
  obtain ⟨da, h1, h2⟩ := bind1_some (show ((bm (ev C a env)).bind fun x => match x, env[i]? with
      | .lst xs, some (.val (.lst cs) k) => if xs.length < L then (intsD xs).bind fun ns => (strsD cs).bind fun ss =>
          if ns.all (fun n => decide (0 ≤ n ∧ n < ss.length)) then some ((.lst ((ns.mergeSort fun a b => !lexS (ss.getD a.toNat []) (ss.getD b.toNat [])).map D.int), .new1) : D × Kd) else none else none
      | _, _ => none) = some (d, k) from he)
  split at h2
  · rename_i xs cs kc hsl
    have hz : xs.length < L := by
      by_cases z : xs.length < L
      · exact z
      · rw [if_neg z] at h2; cases h2
    rw [if_pos hz] at h2
    obtain ⟨ns, h4, h5⟩ := bind1_some h2
    obtain ⟨ss, h6, h7⟩ := bind1_some h5
    obtain ⟨h8, h9⟩ := if_some h7
    cases h9
    have hfree : ∀ y ∈ lsc.names, y.2 = .free → ∃ c, X.env.cells.lookup y.1 = some c := fun y hy e => by
      rw [hfn y hy e]
      exact I.ok.has _ (.inl hcapk)
    have hA := pa_cons ha pa_nil hs1
    refine wpAny_Call_Name_kw (ld_blt (u := .builtin "sorted") I hg G.sorted (by decide +kernel) ?_ (by decide) (by decide))
    refine PyProof.Rows.callWith_kw (thn (hA.run pos pins s σ H (fun vs H1 => ∃ B1 u, vs = [u] ∧ Step B H B1 H1 ∧ Rep X.K H1 (.lst xs) u) I (use_b R h1 fun B1 H1 u s1 ru => ⟨B1, u, rfl, s1, ru⟩)) fun us s1 ⟨vs, H1, I1, r1, q1⟩ => ?_) hs hpl hall hnone
    obtain ⟨B1, u, rfl, st1, ru⟩ := q1
    obtain ⟨pl, rfl, hq1⟩ := use_ints h4 ru
    obtain rfl := Vals.ref1 r1
    rw [hks]
    show wpAny _ _ (evalAll [(do let v ← eval (.Lambda pars (.Subscript (.Name cap p1) (.Name par p2) p3) lsc lp) X.env; standAt pos; pure v), (do let v ← eval (.Constant (.bool true) j pc) X.env; standAt pos; pure v)]) _ _ s1
    refine wpAny_evalAll_cons (wpAny_bind (lam_mk I1 tb hcode hq ((R.tt.ext R.h0).ext st1.hh) hdef hfree fun f cN pm ctv H2 s2 I2 e2 ho hrec => wpAny_bind (wpAny_standAt (wpAny_pure ?_))))
    refine wpAny_evalAll_cons (wpAny_bind (Constant_bool (wpAny_bind (wpAny_standAt (wpAny_pure ?_)))))
    refine wpAny_evalAll_nil ?_
    have st2 : Step B H B1 H2 := ⟨st1.bb, st1.hh.trans e2, st1.bh.trans e2, st1.nw⟩
    obtain ⟨v0, F0, hv0, kok, _, _⟩ := (R.step st2).sl i _ _ hsl
    have rc : Rep X.K H2 (.lst cs) v0 := kok.rep st2.bh (R.step st2).h0
    obtain ⟨l, rfl, hlq⟩ := use_strs h6 rc
    obtain ⟨m, hn, hlk⟩ := I2.loc
    obtain ⟨w0, rw0, lk⟩ := hlk i cap (.ref l) hi hv0 (.inr (.inl hcapk))
    obtain rfl : w0 = Value.ref l := rw0
    obtain ⟨cc, hcc, hcell⟩ : ∃ cc, X.env.cells.lookup cap = some cc ∧ s2.heap.IsCell cc (some (.ref l)) := by
      rcases lk with ⟨k1, _⟩ | ⟨_, c, g1, g2⟩
      · rw [show X.env.kindOf cap = some .cell from hcapk] at k1; cases k1
      · exact ⟨c, g1, g2⟩
    obtain ⟨citems, cv, cpl, csz⟩ := I2.list hlq
    obtain ⟨its, iv, ipl, isz⟩ := I2.list (e2.sq hq1)
    have hlen : ns.length ≤ sizeLine := by simpa using isz
    have hun := G.un
    refine PySem.W.sorted_key_data (b := true) (fun b : Int => PyData.str (sv (ss.getD b.toNat []))) (R := fun v b => ∃ t, v = Value.int b t) ipl.isList (each_ints iv) (PySem.W.AllAlike.of fun b b' => by simp [PySem.W.alike]) (PySem.W.Sortable.others fun b => ⟨(by intro z; cases z), fun xs z => by cases z⟩) hlen
      (fun b _ => by show X.A.units + 2 + 0 < cLine; omega) (PyProof.Rows.ksk_s2 _ _ _) (fun x => PyProof.Rows.ksk_l2 _ _ _) (fun x => PyProof.Rows.ksk_t2 f x true) (fun v b hvb hb h tk keep => ?turn) fun out c g tk keep hnew hD hlen2 heo => ?fin
    case turn =>
      obtain ⟨ti, rfl⟩ := hvb
      have hbb := List.all_eq_true.mp h8 b hb
      have hb2 := of_decide_eq_true hbb
      obtain ⟨ty, ety⟩ := vals_str_at cv (i := b.toNat) (by omega)
      have hsz : ss.length ≤ sizeLine := by simpa using csz
      have h63 := line63
      have hcl : (lamCl X lsc).lookup cap = some cc := NdefX.clo_has hfree (PySem.mem_of_lookup S.cap) hcc
      have hls : h.IsList l citems.toArray := by
        obtain ⟨ob, a1, a2⟩ := cpl.isList
        exact ⟨ob, keep _ _ a1, a2⟩
      obtain ⟨c2, oc, fs, tk0, z2, o1, o2, o3⟩ := hrec
      cases z2
      exact lam_key (X := X) hr.depth S (I2.nolimit.keeps keep) (keep _ _ ho) ⟨cN, oc, fs, tk0, rfl, keep _ _ o1, o2, o3⟩ (fun v => hbind _ _ _ _ v _) hcl (hcell.keeps keep) hls hb2.1 (by omega) ety hd1 hd2 hd3
    case fin =>
      rw [kV_code] at heo
      have hv := ints_each heo
      have hl2 : (((ns.mergeSort fun a b => !lexS (ss.getD a.toNat []) (ss.getD b.toNat [])).map V.int)).length ≤ sizeLine := by
        rw [List.length_map, (List.mergeSort_perm _ _).length_eq]; exact hlen
      have I3 := I2.laid (t' := tk) keep (Nat.le_succ _) (o := .lst ((ns.mergeSort fun a b => !lexS (ss.getD a.toNat []) (ss.getD b.toNat [])).map V.int)) ⟨hl2, out, c, hv, hD⟩
      refine ⟨.ref _, _, I3, rfl, ?_⟩
      have hf2 : H2 (s2.heap.objs.size + 1) = none := I2.hok.fresh (Nat.le_succ _)
      exact fin_list q rfl st2 (reps_ints _) _ hf2
  · cases h2
/-! ### zip -/
theorem zipD_get : ∀ (xs ys : List D) {i : Nat} {d : D}, (zipD xs ys)[i]? = some d → ∃ x y, xs[i]? = some x ∧ ys[i]? = some y ∧ d = .tup [x, y]
  | [], ys, i, d, h => by simp [zipD] at h
  | _ :: _, [], i, d, h => by simp [zipD] at h
  | x :: xs, y :: ys, 0, d, h => by
    have h' : D.tup [x, y] = d := by simpa [zipD] using h
    exact ⟨x, y, rfl, rfl, h'.symm⟩
  | x :: xs, y :: ys, i + 1, d, h => by
    obtain ⟨u, v, h1, h2, h3⟩ := zipD_get xs ys (i := i) (d := d) (by simpa [zipD] using h)
    exact ⟨u, v, by simpa using h1, by simpa using h2, h3⟩
theorem zipD_len : ∀ xs ys : List D, (zipD xs ys).length = min xs.length ys.length
  | [], ys => by simp [zipD]
  | _ :: _, [] => by simp [zipD]
  | x :: xs, y :: ys => by rw [zipD, List.length_cons, List.length_cons, List.length_cons, zipD_len xs ys]; omega
theorem it_zip {K : PySem.W.Frag} {B1 G : Hp} {p p2 : Addr} {xs ys : List D} {vs ws : List V} (h1 : SqL K G p vs) (h2 : SqL K G p2 ws) (r1 : Reps K B1 xs vs) (r2 : Reps K B1 ys ws) : ItOk K B1 G (zipD xs ys) (Itz K p p2) where
  go := fun i H hi e => by
    rw [zipD_len] at hi
    have l1 := r1.length
    have l2 := r2.length
    exact ⟨vs, ws, vs[i]'(by omega), ws[i]'(by omega), e.sq h1, e.sq h2, List.getElem?_eq_getElem (by omega), List.getElem?_eq_getElem (by omega)⟩
  yl := fun i H x H' Bc d hd e1 e2 e3 hy => by
    obtain ⟨T, u, w, rfl, hT, rfl, hy1, hy2⟩ := hy
    obtain ⟨dx, dy, g1, g2, rfl⟩ := zipD_get xs ys hd
    obtain ⟨v1, k1, k2⟩ := r1.get g1
    obtain ⟨v2, m1, m2⟩ := r2.get g2
    have h3 := hy1 vs (e3.sq h1)
    have h4 := hy2 ws (e3.sq h2)
    rw [k1] at h3
    rw [m1] at h4
    cases h3
    cases h4
    have e4 : Ext Bc (upd Bc T (.tup [u, w])) := Ext.new (e2.back hT)
    exact ⟨upd Bc T (.tup [u, w]), Step.new e2 hT, tup_rep upd_same (reps_cons (Rep.mono (e1.trans e4) _ _ k2) (reps_cons (Rep.mono (e1.trans e4) _ _ m2) reps_nil))⟩
  st := fun i H hi e => ⟨vs, ws, e.sq h1, e.sq h2, by
    have l1 := r1.length
    have l2 := r2.length
    rw [zipD_len] at hi
    omega⟩
theorem si_zip {C : Nat → List D → Option D} {X : Cx} {a b : E} {x y : Expr} {es : List Expr} {kk : Nat} {p pos tp : Pos} (G : Gd X) (ha : SE C X a x) (hb : SE C X b y) (hg : Gl X ("zip" : Str) := by rfl)
    (hs : starEach [x, y] X.env = (false, eval x X.env) :: starEach [y] X.env := by rfl) (hs1 : starEach [y] X.env = (false, eval y X.env) :: starEach [] X.env := by rfl) (hpl : (backTo pos (starEach [y] X.env)).any (·.1) = false := by rfl) :
    SI C X (.Tuple es kk tp) (.zip a b) (.Call (.Name ("zip" : Str) p) [x, y] [] pos) :=
  imp_i (pi_zip hg G.zip (pa_cons ha (pa_cons hb pa_nil hs1) hs) hs hpl) fun σ H Rr ⟨B0, H0, B, env, o, zs, own, R, he, q⟩ => by
    obtain ⟨⟨d1, k1⟩, e1, e2⟩ := bind1_some (show ((ev C a env).bind fun p => (ev C b env).bind fun q => match p.1, q.1 with
      | .lst xs, .lst ys => if p.2 = .frz ∧ q.2 = .frz then some (zipD xs ys, false) else none
      | _, _ => none) = some (zs, own) from he)
    obtain ⟨⟨d2, k2⟩, e3, e4⟩ := bind1_some e2
    refine ⟨B0, H0, B, env, o, d1, k1, R, e1, fun B1 H1 u F1 s1 r1 f1 => ?_⟩
    refine ⟨B0, H0, B1, env, o, d2, k2, R.step s1, e3, fun B2 H2 v F2 s2 r2 f2 => ?_⟩
    split at e4
    case h_2 => cases e4
    rename_i xs ys q1 q2
    simp only at q1 q2
    subst q1 q2
    obtain ⟨⟨z1, z2⟩, e5⟩ := if_some e4
    cases e5
    simp only at z1 z2
    subst z1 z2
    obtain ⟨p1, vs, rfl, g1, g2⟩ := rep_lst (Rep.mono s2.bb _ _ r1.2)
    obtain ⟨p2, ws, rfl, g3, g4⟩ := rep_lst r2.2
    exact ⟨p1, p2, vs, ws, rfl, s2.bh.sq g1, s2.bh.sq g3, q B2 H2 _ B2 (s1.trans s2) s2.bh (fun _ Hx e _ => e) (it_zip g1 g3 g2 g4)⟩
end Hg
end

section
set_option Elab.async false
set_option maxRecDepth 100000
set_option maxHeartbeats 4000000
/-! Snd41: dicts of lists that grow (d.setdefault(k, []).append(v)), list(d.values()). -/
namespace Hg
open PySem PySem.Spec PyProof.Rows L2
variable [TB : Tabl]
/-! ### list(d.values()) -/
theorem kv_vals : ∀ {κ : Type} {kvs : List (κ × V)} {vs : List (κ × Value)}, KV kvs vs → Vals (kvs.map (·.2)) (vs.map (·.2))
  | _, _, _, .nil => .nil
  | _, _, _, .cons h t => .cons h.2 (kv_vals t)
def rValsL : V → Hp → VK → Prop := fun x H Q => ∃ (d : Addr) (kvs : List (L2.Key × V)), x = .ref d ∧ H d = some (.dK kvs) ∧ ∀ p, H p = none → Q (.ref p) (upd H p (.lst (kvs.map (·.2))))
section
variable {X : Cx} {e : Expr} {te : TE} {p apos cpos pos : Pos}
theorem pe_listVals (hc : X.calm = true) (he : PE X e te) (hg : Gl X "list") (hm : X.mg "list" = none) (hv : bootBuiltins "list" = some (.type "list")) (hbase : attributeBase e "values" X.env (eval e X.env) = eval e X.env := by rfl) (hline : (apos.endLine == cpos.line) = true := by rfl)
    (hs : starEach [.Call (.Attribute e "values" apos) [] [] cpos] X.env = (false, eval (.Call (.Attribute e "values" apos) [] [] cpos) X.env) :: starEach [] X.env := by rfl) :
    PE X (.Call (.Name "list" p) [.Call (.Attribute e "values" apos) [] [] cpos] [] pos) (fun σ H Q => te σ H fun x H1 => rValsL x H1 Q) := by
  refine ⟨fun pins s σ H Q I hq => ?_⟩
  refine wpAny_Call_Name_kw (ld_blt I hg hm hv ?_)
  refine PyProof.Rows.callWith_type1 ?_ hs rfl
  rw [hs]
  show wpAny _ _ (spliced ((false, eval (.Call (.Attribute e "values" apos) [] [] cpos) X.env) :: backTo pos (starEach [] X.env))) _ _ s
  refine Calls.spliced_cons ?_
  refine wpAny_Call_method (T := "dict") (id := "dict.values") hbase rfl hline F.plainAttrs_dict F.slot_dict_values F.type_dict_values (thn (he.run pins s σ H _ I hq) fun u s1 ⟨x, H1, I1, rx, d, kvs, ex, hd, q⟩ => ?_)
  subst ex
  obtain rfl : u = Value.ref d := rx
  obtain ⟨hz, hs0, vs, kv, hdo⟩ := I1.hok d _ hd
  obtain ⟨ep, hat⟩ := hdo.dictAt
  have lk : kvs.length = vs.length := Paired.length kv
  have I2 : Inv X pins σ H1 { s1 with heap := s1.heap.push { cls := .type "dict_values", data := .fields #[.ref d] } } := I1.kept (t' := s1.toks) fun b ob q => Heap.get?_push_of_some _ q
  refine ⟨hdo.typeIs, hdo.mapOf.noDict, ?_⟩
  show wpAny _ _ (callWith cpos (.builtin "dict.values") [.ref d] [] []) _ X.xe s1
  refine method_meetsIn F.slot_dict_values F.entry_dict_values rfl (PySem.evalArgs_none ⟨rfl, hdo.typeIs, F.args_dict_values_1 _, _, meets_dict_values (mixKind X.prog X.w) d hs0, ⟨vs, hdo⟩, ?_⟩)
  refine Calls.spliced_nil ?_
  refine PySem.W.kdl_call (PySem.W.kdl_values (knd := mixKind X.prog X.w) (kvs := vs) (ep := ep) (d := d)) (I1.ok.hd hc) ⟨⟨_, Heap.get?_push_size _ rfl, rfl, rfl⟩, hat.push _⟩ (by omega) fun h' tk acc c hk hS hacc => ?_
  have ea : acc.toList = vs.map (·.2) := PySem.W.kdl_vals_eq _ (by rw [Array.length_toList]; exact hacc.1) fun j v e => hacc.2 j v (by rw [← Array.getElem?_toList]; exact e)
  refine ⟨.ref _, _, I2.laid (t' := tk) hk (Nat.le_refl _) (o := .lst (kvs.map (·.2))) ⟨by rw [List.length_map]; exact hz, acc.toList, c, by rw [ea]; exact kv_vals kv, by rw [Array.toArray_toList]; exact hS⟩, rfl, q _ (I2.hok.fresh (Nat.le_refl _))⟩
end
/-! ### the entries of a dict of one's own lists -/
def set1 : List (Ky × D) → Ky → D → List (Ky × D)
  | [], _, _ => []
  | p :: r, k, d => if p.1 = k then (p.1, d) :: r else p :: set1 r k d
theorem set1_keys : ∀ (ds : List (Ky × D)) (k : Ky) (d : D), (set1 ds k d).map (fun p => ky p.1) = ds.map (fun p => ky p.1)
  | [], _, _ => rfl
  | p :: r, k, d => by
    unfold set1
    by_cases h : p.1 = k
    · rw [if_pos h]; rfl
    · rw [if_neg h, List.map_cons, List.map_cons, set1_keys r k d]
theorem growD_some : ∀ {ds ds' : List (Ky × D)} {k : Ky} {v : D}, growD ds k v = some ds' →
    (look ds k = none ∧ ds' = ds ++ [(k, .lst [v])]) ∨ ∃ ys, look ds k = some (.lst ys) ∧ ys.length < L ∧ ds' = set1 ds k (.lst (ys ++ [v]))
  | [], ds', k, v, h => .inl ⟨rfl, (Option.some.inj h).symm⟩
  | (k', d) :: r, ds', k, v, h => by
    by_cases hk : k' = k
    · subst hk
      cases d <;> simp only [growD, if_true, reduceCtorEq] at h
      rename_i ys
      obtain ⟨hz, e⟩ := if_some h
      refine .inr ⟨ys, by simp [look, List.find?_cons], hz, ?_⟩
      rw [← e]
      show _ = if k' = k' then _ else _
      rw [if_pos rfl]
    · have h' : (growD r k v).map ((k', d) :: ·) = some ds' := by
        simp only [growD, if_neg hk] at h
        exact h
      obtain ⟨r', e1, rfl⟩ := Option.map_eq_some_iff.mp h'
      have el : look ((k', d) :: r) k = look r k := by simp [look, List.find?_cons, hk]
      rcases growD_some e1 with ⟨a1, a2⟩ | ⟨ys, a1, a2, a3⟩
      · exact .inl ⟨by rw [el]; exact a1, by rw [a2]; rfl⟩
      · refine .inr ⟨ys, by rw [el]; exact a1, a2, ?_⟩
        show _ = if k' = k then _ else _
        rw [if_neg hk, a3]
theorem ownl_snoc {P : V → D → List Addr → Prop} {v : V} {d : D} {G : List Addr} (h : P v d G) : ∀ {vs : List V} {ds : List D} {F : List Addr}, OwnL P vs ds F → OwnL P (vs ++ [v]) (ds ++ [d]) (F ++ G)
  | [], [], F, t => by rw [show F = [] from t]; exact ⟨G, [], by simp, h, rfl⟩
  | _ :: _, _ :: _, F, t => by
    obtain ⟨F1, F2, rfl, h1, h2⟩ := t
    exact ⟨F1, F2 ++ G, by rw [List.append_assoc], h1, ownl_snoc h h2⟩
  | [], _ :: _, F, h => h.elim
  | _ :: _, [], F, h => h.elim
theorem ownl_set1 {K : PySem.W.Frag} {B H : Hp} {r : Addr} {ob : HO} {d' : D} (hn : Own1 K B (upd H r ob) (.ref r) d' [r]) : ∀ {vs : List (L2.Key × V)} {ds : List (Ky × D)} {F : List Addr} {k : Ky} {d : D}, vs.map Prod.fst = ds.map (fun p => ky p.1) → OwnL (Own1 K B H) (vs.map Prod.snd) (ds.map Prod.snd) F → F.Nodup → look ds k = some d → valV vs (ky k) = some (.ref r) →
    r ∈ F ∧ OwnL (Own1 K B (upd H r ob)) (vs.map Prod.snd) ((set1 ds k d').map Prod.snd) F
  | [], [], F, k, d, _, h, _, e, _ => by simp [look] at e
  | (k1, v) :: vs, (k', d0) :: ds, F, k, d, hk, h, nd, e, er => by
    obtain ⟨g1, g2⟩ := List.cons.inj hk
    cases g1
    obtain ⟨F1, F2, rfl, h1, h2⟩ := h
    by_cases hq : k' = k
    · subst hq
      have e' : v = .ref r := Option.some.inj ((valV_pos rfl).symm.trans er)
      subst e'
      obtain ⟨a, e1, rfl, h1⟩ := h1
      cases e1
      have es : set1 ((k', d0) :: ds) k' d' = (k', d') :: ds := if_pos rfl
      rw [es]
      refine ⟨by simp, [r], F2, rfl, hn, h2.keep (Ext.refl _) fun b hb => upd_ne fun z => ?_⟩
      subst z
      exact (List.nodup_append.mp nd).2.2 b (by simp) b hb rfl
    · have e' : look ds k = some d := by simpa [look, List.find?_cons, hq] using e
      have er' : valV vs (ky k) = some (.ref r) := by rw [valV_neg fun z => hq (ky_inj z)] at er; exact er
      have es : set1 ((k', d0) :: ds) k d' = (k', d0) :: set1 ds k d' := if_neg hq
      rw [es]
      obtain ⟨n1, n2, n3⟩ := List.nodup_append.mp nd
      obtain ⟨q1, q2⟩ := ownl_set1 hn g2 h2 n2 e' er'
      exact ⟨List.mem_append_right _ q1, F1, F2, rfl, h1.keep (Ext.refl _) fun b hb => upd_ne fun z => n3 b hb r q1 z, q2⟩
  | [], _ :: _, F, k, d, hk, h, _, e, _ => by cases hk
  | _ :: _, [], F, k, d, hk, h, _, e, _ => by cases hk
theorem val_none : ∀ {vs : List (L2.Key × V)} {ds : List (Ky × D)} {k : Ky}, vs.map Prod.fst = ds.map (fun p => ky p.1) → look ds k = none → valV vs (ky k) = none
  | [], [], _, _, _ => rfl
  | (k1, v) :: vs, (k', d) :: ds, k, hk, e => by
    obtain ⟨g1, g2⟩ := List.cons.inj hk
    cases g1
    by_cases hq : k' = k
    · subst hq
      simp [look, List.find?_cons] at e
    · have e' : look ds k = none := by simpa [look, List.find?_cons, hq] using e
      exact (valV_neg fun z => hq (ky_inj z)).trans (val_none g2 e')
  | [], _ :: _, _, hk, _ => by cases hk
  | _ :: _, [], _, hk, _ => by cases hk
theorem any_none : ∀ {vs : List (L2.Key × V)} {k : L2.Key}, valV vs k = none → (vs.any fun kv => decide (kv.1 = k)) = false
  | [], _, _ => rfl
  | (k1, v) :: vs, k, h => by
    by_cases hq : k1 = k
    · subst hq; rw [valV_pos rfl] at h; cases h
    · rw [valV_neg hq] at h
      rw [List.any_cons, any_none h]
      simp [hq]
section
variable {K : PySem.W.Frag} {B0 H0 B H : Hp} {env : Hg.Env} {σ : L2.St} {o : Addr → Option Nat}
theorem Rel.dic2 (R : Rel K B0 H0 B env σ H o) {i : Nat} {ds : List (Ky × D)} (hi : env[i]? = some (.val (.dic ds) .own2)) :
    ∃ p vs F, σ[i]? = some (some (.ref p)) ∧ H p = some (.dK vs) ∧ vs.length = ds.length ∧ vs.map Prod.fst = ds.map (fun p => ky p.1) ∧ OwnL (Own1 K B H) (vs.map Prod.snd) (ds.map Prod.snd) F ∧ (p :: F).Nodup ∧ ∀ a ∈ p :: F, o a = some i := by
  obtain ⟨v, F, h1, h2, h3, h4⟩ := R.sl i _ _ hi
  rcases h2 with ⟨_, _, _, _, _, _, e, _⟩ | ⟨p, F', vs, ds', rfl, rfl, e, h5, h6, h7⟩
  · cases e
  cases e
  refine ⟨p, vs, F', h1, h5, ?_, h6, h7, h3, h4⟩
  have := congrArg List.length h6
  rw [List.length_map, List.length_map] at this
  exact this
/-- the list of a key that is there grows -/
theorem Rel.entry (R : Rel K B0 H0 B env σ H o) {i : Nat} {ds : List (Ky × D)} (hi : env[i]? = some (.val (.dic ds) .own2)) {kk : Ky} {ys : List D} (hl : look ds kk = some (.lst ys)) {p : Addr} (hp : σ[i]? = some (some (.ref p))) {vs : List (L2.Key × V)} (hH : H p = some (.dK vs)) :
    ∃ r ws, valV vs (ky kk) = some (.ref r) ∧ H r = some (.lst ws) ∧ ws.length = ys.length ∧ ∀ d v, Rep K B d v → Rel K B0 H0 B (env.set i (.val (.dic (set1 ds kk (.lst (ys ++ [d])))) .own2)) σ (upd H r (.lst (ws ++ [v]))) o := by
  obtain ⟨p', vs', F, h1, h2, h3, h4, h5, h6, h7⟩ := R.dic2 hi
  rw [hp] at h1
  cases h1
  rw [hH] at h2
  cases h2
  obtain ⟨v, G, q1, q2⟩ := ownl_look h4 h5 hl
  obtain ⟨r, ws, rfl, rfl, q3, q4⟩ := own1_lst q2
  refine ⟨r, ws, q1, q3, q4.length, fun d v hv => ?_⟩
  have hn : Own1 K B (upd H r (.lst (ws ++ [v]))) (.ref r) (.lst (ys ++ [d])) [r] := ⟨r, rfl, rfl, .inl ⟨_, _, rfl, upd_same, q4.append (reps_cons hv reps_nil)⟩⟩
  obtain ⟨m1, m2⟩ := ownl_set1 hn h4 h5 (List.nodup_cons.mp h6).2 hl q1
  have hpr : p ≠ r := fun z => (List.nodup_cons.mp h6).1 (by rw [z]; exact m1)
  refine R.mut hi (h7 r (List.mem_cons_of_mem _ m1)) fun w F2 g1 g2 g3 g4 => ?_
  rw [hp] at g1
  cases g1
  rcases g2 with ⟨_, _, _, _, _, _, e, _⟩ | ⟨p2, F3, vs2, ds2, e1, rfl, e2, g5, g6, g7⟩
  · cases e
  cases e1
  cases e2
  rw [hH] at g5
  cases g5
  obtain ⟨_, m3⟩ := ownl_set1 hn g6 g7 (List.nodup_cons.mp g3).2 hl q1
  exact .inr ⟨p, F3, vs, _, rfl, rfl, rfl, by rw [upd_ne hpr]; exact hH, by rw [set1_keys]; exact g6, m3⟩
/-- a key that is not there gets a list of its own -/
theorem Rel.grow (R : Rel K B0 H0 B env σ H o) {i : Nat} {ds : List (Ky × D)} (hi : env[i]? = some (.val (.dic ds) .own2)) {kk : Ky} {p : Addr} (hp : σ[i]? = some (some (.ref p))) {vs : List (L2.Key × V)} (hH : H p = some (.dK vs))
    {r : Addr} (hr : H r = none) {d : D} {v : V} (hv : Rep K B d v) :
    Rel K B0 H0 B (env.set i (.val (.dic (ds ++ [(kk, .lst [d])])) .own2)) σ (upd (upd (upd H r (.lst [])) p (.dK (vs ++ [(ky kk, .ref r)]))) r (.lst [v])) (fun a => if a = r then some i else o a) := by
  obtain ⟨p', vs', F, h1, h2, h3, h4, h5, h6, h7⟩ := R.dic2 hi
  rw [hp] at h1
  cases h1
  rw [hH] at h2
  cases h2
  have hpr : p ≠ r := fun z => by rw [z, hr] at hH; cases hH
  have hpo := h7 p (by simp)
  obtain ⟨f1, f2, f3⟩ := R.fr p i hpo
  have hF : ∀ a ∈ p :: F, a ≠ r := fun a ha z => (R.fr a i (h7 a ha)).2.2 (by rw [z]; exact hr)
  have br : B r = none := R.bh.back hr
  have h0r : H0 r = none := R.h0.back hr
  have c1 : ∀ q, H r ≠ some (LamX.CodeO r q) := fun q z => by rw [hr] at z; cases z
  have c2 : ∀ q, upd H r (.lst []) p ≠ some (LamX.CodeO p q) := fun q => by rw [upd_ne hpr]; exact R.nc p i hpo q
  have c3 : ∀ q, upd (upd H r (.lst [])) p (.dK (vs ++ [(ky kk, .ref r)])) r ≠ some (LamX.CodeO r q) := fun q => by rw [upd_ne (Ne.symm hpr), upd_same]; exact code_lst
  have at_r : (upd (upd (upd H r (.lst [])) p (.dK (vs ++ [(ky kk, .ref r)]))) r (.lst [v])) r = some (.lst [v]) := upd_same
  have at_p : (upd (upd (upd H r (.lst [])) p (.dK (vs ++ [(ky kk, .ref r)]))) r (.lst [v])) p = some (.dK (vs ++ [(ky kk, .ref r)])) := by rw [upd_ne hpr, upd_same]
  have at_o : ∀ b, b ≠ r → b ≠ p → (upd (upd (upd H r (.lst [])) p (.dK (vs ++ [(ky kk, .ref r)]))) r (.lst [v])) b = H b := fun b e1 e2 => by rw [upd_ne e1, upd_ne e2, upd_ne e1]
  generalize hHf : upd (upd (upd H r (.lst [])) p (.dK (vs ++ [(ky kk, .ref r)]))) r (.lst [v]) = Hf at *
  refine ⟨R.b0, ?_, ?_, R.tt, R.gr, by rw [List.length_set]; exact R.len, fun j d2 k2 e => ?_, fun a j e => ?_, fun a j e q => ?_⟩
  · rw [← hHf]; exact ((R.h0.upd h0r c1).upd f2 c2).upd h0r c3
  · rw [← hHf]; exact ((R.bh.upd br c1).upd f1 c2).upd br c3
  · rw [List.getElem?_set] at e
    by_cases hj : i = j
    · subst hj
      rw [if_pos rfl] at e
      by_cases hl : i < env.length
      · rw [if_pos hl] at e
        cases e
        refine ⟨.ref p, p :: (F ++ [r]), hp, .inr ⟨p, F ++ [r], _, _, rfl, rfl, rfl, at_p, ?_, ?_⟩, ?_, fun a ha => ?_⟩
        · rw [List.map_append, List.map_append, h4]; rfl
        · rw [List.map_append, List.map_append]
          refine ownl_snoc (P := Own1 K B Hf) (v := .ref r) (d := .lst [d]) (G := [r]) ⟨r, rfl, rfl, .inl ⟨[v], [d], rfl, at_r, reps_cons hv reps_nil⟩⟩ (h5.keep (Ext.refl _) fun b hb => at_o b (hF b (List.mem_cons_of_mem _ hb)) fun z => ?_)
          rw [z] at hb
          exact (List.nodup_cons.mp h6).1 hb
        · show (p :: (F ++ [r])).Nodup
          rw [← List.cons_append]
          refine List.nodup_append.mpr ⟨h6, by simp, fun a ha b hb => ?_⟩
          have e2 : b = r := by simpa using hb
          rw [e2]
          exact hF a ha
        · show (if a = r then some i else o a) = some i
          by_cases z : a = r
          · rw [if_pos z]
          · rw [if_neg z]
            refine h7 a ?_
            have : a ∈ p :: F ∨ a = r := by simpa [or_assoc] using ha
            exact this.resolve_right z
      · rw [if_neg hl] at e; cases e
    · rw [if_neg hj] at e
      obtain ⟨w, F', g1, g2, g3, g4⟩ := R.sl j d2 k2 e
      have hb : ∀ b ∈ F', b ≠ r ∧ b ≠ p := fun b hb => ⟨fun z => (R.fr b j (g4 b hb)).2.2 (by rw [z]; exact hr), fun z => by
        rw [z] at hb
        exact hj (Option.some.inj (hpo.symm.trans (g4 p hb)))⟩
      refine ⟨w, F', g1, g2.keep (Ext.refl _) (fun b h => at_o b (hb b h).1 (hb b h).2), g3, fun a ha => ?_⟩
      show (if a = r then some i else o a) = some j
      rw [if_neg (hb a ha).1]
      exact g4 a ha
  · by_cases z : a = r
    · subst z
      exact ⟨br, h0r, by rw [at_r]; exact fun z => nomatch z⟩
    · have e' : o a = some j := by
        have e2 : (if a = r then some i else o a) = some j := e
        rwa [if_neg z] at e2
      obtain ⟨g1, g2, g3⟩ := R.fr a j e'
      refine ⟨g1, g2, ?_⟩
      by_cases z2 : a = p
      · rw [z2, at_p]; exact fun z => nomatch z
      · rw [at_o a z z2]; exact g3
  · by_cases z : a = r
    · subst z
      rw [at_r]; exact code_lst
    · have e' : o a = some j := by
        have e2 : (if a = r then some i else o a) = some j := e
        rwa [if_neg z] at e2
      by_cases z2 : a = p
      · rw [z2, at_p]; exact code_dK
      · rw [at_o a z z2]; exact R.nc a j e' q
end
section
variable {C : Nat → List D → Option D} {X : Cx} {a b c : E} {x y z : Expr} {pos p pos1 pos2 pos3 pos4 pos5 p2 : Pos} {n n2 : Str}
/-- d = {} : a dict of lists of one's own -/
theorem ss_newD {i : Nat} (G : Gd X) (hi : X.N[i]? = some n := by rfl) (hx : Loc X.env.scope n := by first | exact .inl rfl | exact .inr rfl) (hs : swapsWith (.Dict [] [] pos2) (some (.Name n pos1)) pos.line X.env = pure false := by rfl)
    (hf : X.fn n = true ∨ X.env.scope.names.lookup n = some .local := by first | exact .inl rfl | exact .inr rfl) : SS C X (.newD i) (.Assign [.Name n pos1] (.Dict [] [] pos2) pos) := imp_s (ps_set G.nd hi hx pe_dnewK hs hf) fun Dn σ H ⟨B0, H0, B, env, o, out, R, he, q⟩ => by
  cases (show some (Out.nx (env.set i (.val (.dic []) .own2))) = some out from he)
  intro p hp
  exact q B _ _ _ (R.putO (Step.own R.bh hp) (k := .own2) (d := .dic []) (F := [p]) (.inr ⟨p, [], [], [], rfl, rfl, rfl, upd_same, rfl, rfl⟩) (FrF.one hp (R.bh.back hp))) (Ext.refl _)
/-- return list(d.values()) -/
theorem ss_retV {i : Nat} (G : Gd X) (hi : X.N[i]? = some n := by rfl) (hv : Vis X.env.scope n := by first | exact Or.inl rfl | exact Or.inr (Or.inl rfl) | exact Or.inr (Or.inr rfl)) (hd : (n == ("__debug__" : Str)) = false := by decide) (hcd : (n == ("__classdict__" : Str)) = false := by decide)
    (hg : Gl X ("list" : Str) := by rfl) (hbase : attributeBase (.Name n pos1) "values" X.env (eval (.Name n pos1) X.env) = eval (.Name n pos1) X.env := by rfl) (hline : (pos2.endLine == pos3.line) = true := by rfl)
    (hs : starEach [.Call (.Attribute (.Name n pos1) "values" pos2) [] [] pos3] X.env = (false, eval (.Call (.Attribute (.Name n pos1) "values" pos2) [] [] pos3) X.env) :: starEach [] X.env := by rfl) :
    SS C X (.retV i) (.Return (some (.Call (.Name ("list" : Str) p) [.Call (.Attribute (.Name n pos1) "values" pos2) [] [] pos3] [] pos4)) pos) := by
  refine imp_s (ps_ret (pe_listVals G.calm (pv i hi hv hd hcd) hg G.list (by decide +kernel) hbase hline hs)) fun Dn σ H ⟨B0, H0, B, env, o, out, R, he, q⟩ => ?_
  have he' : (match env[i]? with
      | some (.val (.dic kvs) .own1) => some (Out.rt (.lst (kvs.map (·.2))))
      | some (.val (.dic kvs) .own2) => some (Out.rt (.lst (kvs.map (·.2))))
      | _ => none) = some out := he
  have key : ∀ kvs k, env[i]? = some (.val (.dic kvs) k) → k = .own1 ∨ k = .own2 → out = .rt (.lst (kvs.map (·.2))) → ∃ v, σ[i]? = some (some v) ∧ rValsL v H Dn.rt := by
    intro kvs k hi' hk hout
    obtain ⟨B', o', R', eB⟩ := R.frz1 i
    have ef : freeze1 env i = env.set i (.val (.dic kvs) .frz) := by unfold freeze1; rw [hi']; rcases hk with rfl | rfl <;> rfl
    rw [ef] at R'
    have hl : i < env.length := (List.getElem?_eq_some_iff.mp hi').1
    obtain ⟨v, F, g1, g2, _⟩ := R'.sl i _ _ (by rw [List.getElem?_set, if_pos rfl, if_pos hl])
    obtain ⟨_, g3⟩ := g2
    obtain ⟨a, vs, rfl, g4, g5⟩ := rep_dic g3
    refine ⟨.ref a, g1, a, vs, rfl, R'.bh.at g4 nt_dK, fun pn hpn => ?_⟩
    subst hout
    refine q _ _ _ (R'.done.trans (Step.new R'.bh hpn)) (lst_rep (SqL.of upd_same) (Reps.mono (Ext.new (R'.bh.back hpn)) _ _ g5.vals))
  split at he'
  · rename_i kvs hi'
    exact key kvs _ hi' (.inl rfl) (Option.some.inj he').symm
  · rename_i kvs hi'
    exact key kvs _ hi' (.inr rfl) (Option.some.inj he').symm
  · cases he'
/-- d.setdefault(k, []).append(v), v a name -/
theorem ss_setdefApp {i j : Nat} (G : Gd X) (ha : SE C X a x) (hi : X.N[i]? = some n := by rfl) (hv : Vis X.env.scope n := by first | exact Or.inl rfl | exact Or.inr (Or.inl rfl) | exact Or.inr (Or.inr rfl)) (hd : (n == ("__debug__" : Str)) = false := by decide) (hcd : (n == ("__classdict__" : Str)) = false := by decide)
    (hj : X.N[j]? = some n2 := by rfl) (hv2 : Vis X.env.scope n2 := by first | exact Or.inl rfl | exact Or.inr (Or.inl rfl) | exact Or.inr (Or.inr rfl)) (hd2 : (n2 == ("__debug__" : Str)) = false := by decide) (hcd2 : (n2 == ("__classdict__" : Str)) = false := by decide)
    (m : M2 X (.Name n pos1) "setdefault" pos2 x (.List [] pos3) p := by exact ⟨rfl, rfl, rfl, rfl⟩)
    (hs : swapsWith (.Call (.Attribute (.Call (.Attribute (.Name n pos1) "setdefault" pos2) [x, .List [] pos3] [] p) "append" pos4) [.Name n2 pos5] [] p2) none pos.line X.env = pure false := by rfl)
    (hbase : attributeBase (.Call (.Attribute (.Name n pos1) "setdefault" pos2) [x, .List [] pos3] [] p) "append" X.env (eval (.Call (.Attribute (.Name n pos1) "setdefault" pos2) [x, .List [] pos3] [] p) X.env) = eval (.Call (.Attribute (.Name n pos1) "setdefault" pos2) [x, .List [] pos3] [] p) X.env := by rfl)
    (hfew : ((backTo p2 (starEach [.Name n2 pos5] X.env)).all (fun x => !x.1) && (backToKw p2 (keywordEach [] X.env)).all (fun x => x.1.isSome) && decide ([(.Name n2 pos5 : Expr)].length + ([] : List Keyword).length + (if ([] : List Keyword).isEmpty then 0 else 1) < 30)) = true := by rfl)
    (hline : (pos4.endLine == p2.line) = true := by rfl) (hst : starEach [.Name n2 pos5] X.env = (false, eval (.Name n2 pos5) X.env) :: starEach [] X.env := by rfl) :
    SS C X (.setdefApp i a (.var j)) (.Expr (.Call (.Attribute (.Call (.Attribute (.Name n pos1) "setdefault" pos2) [x, .List [] pos3] [] p) "append" pos4) [.Name n2 pos5] [] p2) pos) := by
  refine imp_s (ps_expr (pe_bm PySem.F.plainAttrs_list PySem.F.slot_list_append PySem.F.type_list_append mt_append (pe_dsetd (pv i hi hv hd hcd) ha (pe_lst pa_nil) m) (pa_cons (pv j hj hv2 hd2 hcd2) pa_nil hst) hbase hfew hline hst rfl) hs) fun Dn σ H ⟨B0, H0, B, env, o, out, R, he, q⟩ => ?_
  obtain ⟨dx, h1, h2⟩ := bind1_some (show ((bm (ev C a env)).bind fun x => (vm (ev C (.var j) env)).bind fun v => match env[i]? with
      | some (.val (.dic kvs) .own2) => (keyD x).bind fun kk => if kvs.length < L then (growD kvs kk v).map fun kvs' => Out.nx (env.set i (.val (.dic kvs') .own2)) else none
      | _ => none) = some out from he)
  obtain ⟨dv, h3, h4⟩ := bind1_some h2
  have hsl : ∃ kvs, env[i]? = some (.val (.dic kvs) .own2) ∧ ((keyD dx).bind fun kk => if kvs.length < L then (growD kvs kk dv).map fun kvs' => Out.nx (env.set i (.val (.dic kvs') .own2)) else none) = some out := by
    split at h4
    · rename_i kvs hi'
      exact ⟨kvs, hi', h4⟩
    · cases h4
  obtain ⟨kvs, hi', h5⟩ := hsl
  obtain ⟨kk, h6, h7⟩ := bind1_some h5
  have hz : kvs.length < L := by
    by_cases q : kvs.length < L
    · exact q
    · rw [if_neg q] at h7; cases h7
  rw [if_pos hz] at h7
  obtain ⟨kvs', h9, h10⟩ := Option.map_eq_some_iff.mp h7
  subst h10
  obtain ⟨p1, vs, F, k1, k2, _⟩ := R.dic2 hi'
  refine ⟨.ref p1, k1, p1, rfl, .inl ⟨vs, .inl k2⟩, use_b R h1 fun B1 H1 u s1 ru => ⟨by show 0 ≤ sizeLine; omega, fun r hr => ?_⟩⟩
  have R1 := R.step s1
  obtain ⟨p', vs', F', k1', k2', k3', k4', k5', _⟩ := R1.dic2 hi'
  rw [k1] at k1'
  cases k1'
  have hpr : p1 ≠ r := fun z => by rw [z, hr] at k2'; cases k2'
  -- the value
  have hdv : ∃ w, σ[j]? = some (some w) ∧ Rep X.K B1 dv w := by
    have h3' : (match env[j]? with | some (Slot.val d k) => (if k = .frz ∨ k = .new1 ∨ k = .new2 ∨ d.atom = true then some d else none) | _ => none) = some dv := by
      rw [← h3]
      show _ = vm (match env[j]? with | some (Slot.val d k) => some (d, k) | _ => none)
      cases env[j]? with
      | none => rfl
      | some sl => cases sl <;> rfl
    split at h3'
    · rename_i d k hj'
      obtain ⟨hk, rfl⟩ := if_some h3'
      obtain ⟨w, F, g1, g2, _⟩ := R1.sl j _ _ hj'
      refine ⟨w, g1, ?_⟩
      rcases hk with rfl | rfl | rfl | hk
      · exact g2.2
      · exact g2.elim
      · exact g2.elim
      · exact Rep.atom hk (g2.rep R1.bh R1.h0)
    · cases h3'
  obtain ⟨w, hw1, hw2⟩ := hdv
  refine ⟨vs', ky kk, by rw [upd_ne hpr]; exact k2', kV_ky h6 ru, by rw [k3']; exact sizeLt hz, fun v hvv => ?_, fun hvv => ?_⟩
  · rcases growD_some h9 with ⟨e1, _⟩ | ⟨ys, e1, e2, e3⟩
    · rw [val_none k4' e1] at hvv; cases hvv
    · subst e3
      have R2 := R1.step (Step.own (o := .lst []) R1.bh hr)
      obtain ⟨r', ws, g1, g2, g3, mk⟩ := R2.entry hi' e1 k1 (by rw [upd_ne hpr]; exact k2')
      rw [g1] at hvv
      cases hvv
      refine ⟨.inl ⟨rfl, ws, SqL.of g2⟩, w, hw1, r', ws, w, rfl, rfl, g2, by rw [g3]; exact sizeLt e2, ?_⟩
      exact q B1 σ _ o (mk _ _ hw2) s1.bb
  · rcases growD_some h9 with ⟨e1, rfl⟩ | ⟨ys, e1, _, _⟩
    · have ep : putK vs' (ky kk) (.ref r) = vs' ++ [(ky kk, .ref r)] := by
        unfold putK
        rw [any_none hvv]
        rfl
      rw [ep]
      have g2 : (upd (upd H1 r (.lst [])) p1 (.dK (vs' ++ [(ky kk, .ref r)]))) r = some (.lst []) := by rw [upd_ne (Ne.symm hpr), upd_same]
      refine ⟨.inl ⟨rfl, [], SqL.of g2⟩, w, hw1, r, [], w, rfl, rfl, g2, by show 0 < sizeLine; decide, ?_⟩
      exact q B1 σ _ _ (R1.grow hi' k1 k2' hr hw2) s1.bb
    · obtain ⟨v, G2, g1, _⟩ := ownl_look k4' k5' e1
      rw [g1] at hvv; cases hvv
end
end Hg
end

section
set_option Elab.async false
set_option maxRecDepth 100000
set_option autoImplicit false
set_option maxHeartbeats 4000000
namespace Hg
/- neighbours(hedge); slots: hedge, found, knot, a, b, row -/
def d_neighbours : FDef where
  params := 1
  slots := 6
  lent := []
  body := .seq (.asg 1 2 (.comp true (.lst (.nil)) (.nm 2) (.rng1 (.ix (.var 0) (.c (.int 0)))) (.yes))) (.seq (.kill [3, 4]) (.seq (.for_ (.tp [3, 4]) (.lst (.ix (.var 0) (.c (.int 1)))) (.seq (.appIx 1 (.var 3) (.var 4)) (.seq (.appIx 1 (.var 4) (.var 3)) (.seq (.kill [3, 4]) .skip)))) (.seq (.seq (.frz [1]) (.ret (.comp false (.sorted (.var 5)) (.nm 5) (.lst (.var 1)) (.yes)))) (.skip))))
noncomputable def s_neighbours : List D → Option D := runF (calls []) d_neighbours
/- times_alike(some); slots: some, found, thing -/
def d_times_alike : FDef where
  params := 1
  slots := 3
  lent := []
  body := .seq (.asg 1 0 (.c (.int 1))) (.seq (.kill [2]) (.seq (.for_ (.nm 2) (.lst (.sorted (.var 0))) (.seq (.asg 1 0 (.mul (.var 1) (.var 2))) (.seq (.kill [2]) .skip))) (.seq (.ret (.var 1)) (.skip))))
noncomputable def s_times_alike : List D → Option D := runF (calls []) d_times_alike
/- runs(texts); slots: texts, found, text -/
def d_runs : FDef where
  params := 1
  slots := 3
  lent := []
  body := .seq (.asg 1 1 (.dic0)) (.seq (.kill [2]) (.seq (.for_ (.nm 2) (.lst (.var 0)) (.seq (.asgIx 1 (.var 2) (.add (.get (.var 1) (.var 2) (.c (.int 0))) (.c (.int 1)))) (.seq (.kill [2]) .skip))) (.seq (.retV 1) (.skip))))
noncomputable def s_runs : List D → Option D := runF (calls []) d_runs
/- orders(many); slots: many, found, number -/
def d_orders : FDef where
  params := 1
  slots := 3
  lent := []
  body := .seq (.asg 1 0 (.c (.int 1))) (.seq (.kill [2]) (.seq (.for_ (.nm 2) (.rng2 (.c (.int 2)) (.add (.var 0) (.c (.int 1)))) (.seq (.asg 1 0 (.mul (.var 1) (.var 2))) (.seq (.kill [2]) .skip))) (.seq (.ret (.var 1)) (.skip))))
noncomputable def s_orders : List D → Option D := runF (calls []) d_orders
/- _law_cell(_law_script, _law_k); slots: _law_script, _law_k -/
def d_l_cell : FDef where
  params := 2
  slots := 2
  lent := []
  body := .seq (.ite (.val (.lt (.var 1) (.len (.var 0)))) (.seq (.ret (.ix (.var 0) (.var 1))) (.skip)) (.skip)) (.seq (.ret (.c (.int 0))) (.skip))
noncomputable def s_l_cell : List D → Option D := runF (calls []) d_l_cell
/- _law_mix(_law_cell_here, _law_prime, _law_many); slots: _law_cell_here, _law_prime, _law_many -/
def d_l_mix : FDef where
  params := 3
  slots := 3
  lent := []
  body := .seq (.ret (.md (.md (.mul (.var 0) (.c (.int 48271))) (.var 1)) (.var 2))) (.skip)
noncomputable def s_l_mix : List D → Option D := runF (calls []) d_l_mix
/- _law_whole(_law_found); slots: _law_found -/
def d_l_whole : FDef where
  params := 1
  slots := 1
  lent := []
  body := .seq (.ret (.and_ (.isin (.var 0) .int) (.one (.not_ (.isin (.var 0) .bool))))) (.skip)
noncomputable def s_l_whole : List D → Option D := runF (calls []) d_l_whole
/- _law_copy(_law_hedge_here); slots: _law_hedge_here -/
def d_l_copy : FDef where
  params := 1
  slots := 1
  lent := []
  body := .seq (.ret (.tup (.cons (.ix (.var 0) (.c (.int 0))) (.cons (.list (.ix (.var 0) (.c (.int 1)))) (.nil))))) (.skip)
noncomputable def s_l_copy : List D → Option D := runF (calls []) d_l_copy
/- _law_beside(_law_hedge_here); slots: _law_hedge_here, _law_found, _law_knot, _law_a, _law_b, _law_row -/
def d_l_beside : FDef where
  params := 1
  slots := 6
  lent := []
  body := .seq (.asg 1 2 (.comp true (.lst (.nil)) (.nm 2) (.rng1 (.ix (.var 0) (.c (.int 0)))) (.yes))) (.seq (.kill [3, 4]) (.seq (.for_ (.tp [3, 4]) (.lst (.ix (.var 0) (.c (.int 1)))) (.seq (.appIx 1 (.var 3) (.var 4)) (.seq (.appIx 1 (.var 4) (.var 3)) (.seq (.kill [3, 4]) .skip)))) (.seq (.seq (.frz [1]) (.ret (.comp false (.sorted (.var 5)) (.nm 5) (.lst (.var 1)) (.yes)))) (.skip))))
noncomputable def s_l_beside : List D → Option D := runF (calls []) d_l_beside
/- _law_tree(_law_beside_here, _law_knot); slots: _law_beside_here, _law_knot, _law_found, _law_at, _law_here, _law_ahead, _law_other -/
def d_l_tree : FDef where
  params := 2
  slots := 7
  lent := []
  body := .seq (.asg 2 0 (.lst (.cons (.tup (.cons (.var 1) (.cons (.neg (.c (.int 1))) (.nil)))) (.nil)))) (.seq (.asg 3 0 (.c (.int 0))) (.seq (.kill [4, 5]) (.seq (.wh (.val (.lt (.var 3) (.len (.var 2)))) (.seq (.asgT [4, 5] (.ix (.var 2) (.var 3))) (.seq (.asg 2 0 (.add (.var 2) (.comp false (.tup (.cons (.var 6) (.cons (.var 4) (.nil)))) (.nm 6) (.lst (.ix (.var 0) (.var 4))) (.val (.ne (.var 6) (.var 5)))))) (.seq (.asg 3 0 (.add (.var 3) (.c (.int 1)))) (.seq (.kill [4, 5]) .skip))))) (.seq (.ret (.var 2)) (.skip)))))
noncomputable def s_l_tree : List D → Option D := runF (calls []) d_l_tree
/- parents(hedge, knot); slots: hedge, knot, beside, found, at, here, ahead, other -/
def d_parents : FDef where
  params := 2
  slots := 8
  lent := []
  body := .seq (.asg 2 0 (.call 0 [] (.cons (.var 0) (.nil)))) (.seq (.asg 3 1 (.lst (.cons (.tup (.cons (.var 1) (.cons (.c .non) (.nil)))) (.nil)))) (.seq (.asg 4 0 (.c (.int 0))) (.seq (.kill [5, 6]) (.seq (.wh (.val (.lt (.var 4) (.len (.var 3)))) (.seq (.asgT [5, 6] (.ix (.var 3) (.var 4))) (.seq (.asg 4 0 (.add (.var 4) (.c (.int 1)))) (.seq (.ext 3 (.comp false (.tup (.cons (.var 7) (.cons (.var 5) (.nil)))) (.nm 7) (.lst (.ix (.var 2) (.var 5))) (.val (.ne (.var 7) (.var 6))))) (.seq (.kill [5, 6]) .skip))))) (.seq (.seq (.frz [3]) (.ret (.var 3))) (.skip))))))
noncomputable def s_parents : List D → Option D := runF (calls [(0, s_neighbours)]) d_parents
/- _law_large(_law_script); slots: _law_script -/
def d_l_large : FDef where
  params := 1
  slots := 1
  lent := []
  body := .seq (.ret (.eq (.call 3 [] (.cons (.add (.call 2 [] (.cons (.var 0) (.cons (.c (.int 0)) (.nil)))) (.mul (.c (.int 7)) (.len (.var 0)))) (.cons (.c (.int 9871)) (.cons (.c (.int 8)) (.nil))))) (.c (.int 3)))) (.skip)
noncomputable def s_l_large : List D → Option D := runF (calls [(3, s_l_mix), (2, s_l_cell)]) d_l_large
/- _law_order(_law_script, _law_at, _law_many); slots: _law_script, _law_at, _law_many, _law_keys, _law_k, _law_key -/
def d_l_order : FDef where
  params := 3
  slots := 6
  lent := []
  body := .seq (.asg 3 0 (.comp false (.tup (.cons (.call 3 [] (.cons (.add (.call 2 [] (.cons (.var 0) (.cons (.add (.add (.var 1) (.c (.int 2))) (.var 4)) (.nil)))) (.mul (.mul (.c (.int 29)) (.var 4)) (.var 4))) (.cons (.c (.int 9931)) (.cons (.c (.int 997)) (.nil))))) (.cons (.var 4) (.nil)))) (.nm 4) (.rng1 (.var 2)) (.yes))) (.seq (.ret (.comp false (.ix (.var 5) (.c (.int 1))) (.nm 5) (.lst (.sorted (.var 3))) (.yes))) (.skip))
noncomputable def s_l_order : List D → Option D := runF (calls [(3, s_l_mix), (2, s_l_cell)]) d_l_order
/- _law_code(_law_beside_here, _law_knot); slots: _law_beside_here, _law_knot, _law_after, _law_other, _law_text, _law_here, _law_ahead -/
def d_l_code : FDef where
  params := 2
  slots := 7
  lent := []
  body := .seq (.asg 2 2 (.comp true (.lst (.nil)) (.nm 3) (.lst (.var 0)) (.yes))) (.seq (.asg 4 0 (.c (.str []))) (.seq (.kill [5, 6]) (.seq (.for_ (.tp [5, 6]) (.rev (.call 28 [] (.cons (.var 0) (.cons (.var 1) (.nil))))) (.seq (.asg 4 0 (.add (.add (.c (.str [40])) (.join (.c (.str [])) (.sortedR (.ix (.var 2) (.var 5))))) (.c (.str [41])))) (.seq (.ite (.val (.ge (.var 6) (.c (.int 0)))) (.seq (.appIx 2 (.var 6) (.var 4)) (.skip)) (.skip)) (.seq (.kill [5, 6]) .skip)))) (.seq (.ret (.var 4)) (.skip)))))
noncomputable def s_l_code : List D → Option D := runF (calls [(28, s_l_tree)]) d_l_code
/- lengths(hedge, knot); slots: hedge, knot, found, other, here, ahead -/
def d_lengths : FDef where
  params := 2
  slots := 6
  lent := []
  body := .seq (.asg 2 1 (.comp false (.c (.int 0)) (.nm 3) (.rng1 (.ix (.var 0) (.c (.int 0)))) (.yes))) (.seq (.kill [4, 5]) (.seq (.for_ (.tp [4, 5]) (.lst (.call 9 [] (.cons (.var 0) (.cons (.var 1) (.nil))))) (.seq (.ite (.val (.notN (.var 5))) (.seq (.asgIx 2 (.var 4) (.add (.ix (.var 2) (.var 5)) (.c (.int 1)))) (.skip)) (.skip)) (.seq (.kill [4, 5]) .skip))) (.seq (.seq (.frz [2]) (.ret (.var 2))) (.skip))))
noncomputable def s_lengths : List D → Option D := runF (calls [(9, s_parents)]) d_lengths
/- branch_codes(hedge, knot); slots: hedge, knot, behind, other, found, here, ahead -/
def d_branch_codes : FDef where
  params := 2
  slots := 7
  lent := []
  body := .seq (.asg 2 2 (.comp true (.lst (.nil)) (.nm 3) (.rng1 (.ix (.var 0) (.c (.int 0)))) (.yes))) (.seq (.asg 4 1 (.comp false (.c (.str [])) (.nm 3) (.rng1 (.ix (.var 0) (.c (.int 0)))) (.yes))) (.seq (.kill [5, 6]) (.seq (.for_ (.tp [5, 6]) (.rev (.call 9 [] (.cons (.var 0) (.cons (.var 1) (.nil))))) (.seq (.asgIx 4 (.var 5) (.add (.add (.c (.str [40])) (.join (.c (.str [])) (.sortedR (.ix (.var 2) (.var 5))))) (.c (.str [41])))) (.seq (.ite (.val (.notN (.var 6))) (.seq (.appIx 2 (.var 6) (.ix (.var 4) (.var 5))) (.skip)) (.skip)) (.seq (.kill [5, 6]) .skip)))) (.seq (.seq (.frz [4]) (.ret (.var 4))) (.skip)))))
noncomputable def s_branch_codes : List D → Option D := runF (calls [(9, s_parents)]) d_branch_codes
/- order_of(hedge, knot, codes); slots: hedge, knot, codes, ahead, found, here, row, branches, other -/
def d_order_of : FDef where
  params := 3
  slots := 9
  lent := []
  body := .seq (.asg 3 0 (.dictP (.call 9 [] (.cons (.var 0) (.cons (.var 1) (.nil)))))) (.seq (.asg 4 1 (.lst (.nil))) (.seq (.kill [5, 6, 7]) (.seq (.for_ (.tp [5, 6]) (.enum (.call 0 [] (.cons (.var 0) (.nil)))) (.seq (.asg 7 0 (.comp false (.var 8) (.nm 8) (.lst (.var 6)) (.val (.ne (.var 8) (.ix (.var 3) (.var 5)))))) (.seq (.app 4 (.sortedK (.var 7) 2)) (.seq (.kill [5, 6, 7]) .skip)))) (.seq (.seq (.frz [4]) (.ret (.var 4))) (.skip)))))
noncomputable def s_order_of : List D → Option D := runF (calls [(9, s_parents), (0, s_neighbours)]) d_order_of
/- _law_hedge(_law_script, _law_at); slots: _law_script, _law_at, _law_most, _law_many, _law_order_here, _law_manner, _law_rods, _law_k, _law_other, _law_one, _law_two -/
def d_l_hedge : FDef where
  params := 2
  slots := 11
  lent := []
  body := .seq (.asg 2 0 (.c (.int 9))) (.seq (.ite (.tru (.call 4 [] (.cons (.var 0) (.nil)))) (.seq (.asg 2 0 (.c (.int 18))) (.skip)) (.skip)) (.seq (.ite (.val (.gt (.len (.var 0)) (.c (.int 63)))) (.seq (.asg 2 0 (.c (.int 40))) (.skip)) (.skip)) (.seq (.asg 3 0 (.add (.c (.int 1)) (.md (.call 2 [] (.cons (.var 0) (.cons (.var 1) (.nil)))) (.var 2)))) (.seq (.asg 4 0 (.call 5 [] (.cons (.var 0) (.cons (.var 1) (.cons (.var 3) (.nil)))))) (.seq (.asg 5 0 (.md (.call 2 [] (.cons (.var 0) (.cons (.add (.var 1) (.c (.int 1))) (.nil)))) (.c (.int 5)))) (.seq (.asg 6 1 (.lst (.nil))) (.seq (.kill [7, 8, 9, 10]) (.seq (.for_ (.nm 7) (.rng2 (.c (.int 1)) (.var 3)) (.seq (.asg 8 0 (.call 3 [] (.cons (.add (.call 2 [] (.cons (.var 0) (.cons (.add (.add (.var 1) (.c (.int 1))) (.var 7)) (.nil)))) (.mul (.mul (.c (.int 3)) (.var 7)) (.var 7))) (.cons (.c (.int 9973)) (.cons (.var 7) (.nil)))))) (.seq (.ite (.val (.eq (.var 5) (.c (.int 1)))) (.seq (.asg 8 0 (.sub (.var 7) (.c (.int 1)))) (.skip)) (.skip)) (.seq (.ite (.val (.eq (.var 5) (.c (.int 2)))) (.seq (.asg 8 0 (.c (.int 0))) (.skip)) (.skip)) (.seq (.ite (.val (.eq (.var 5) (.c (.int 3)))) (.seq (.asg 8 0 (.max2 (.c (.int 0)) (.sub (.sub (.var 7) (.c (.int 1))) (.call 3 [] (.cons (.call 2 [] (.cons (.var 0) (.cons (.add (.add (.var 1) (.c (.int 1))) (.var 7)) (.nil)))) (.cons (.c (.int 9967)) (.cons (.c (.int 3)) (.nil)))))))) (.skip)) (.skip)) (.seq (.asg 9 0 (.ix (.var 4) (.var 7))) (.seq (.asg 10 0 (.ix (.var 4) (.var 8))) (.seq (.app 6 (.tup (.cons (.min2 (.var 9) (.var 10)) (.cons (.max2 (.var 9) (.var 10)) (.nil))))) (.seq (.kill [7, 8, 9, 10]) .skip))))))))) (.seq (.ret (.tup (.cons (.var 3) (.cons (.sorted (.var 6)) (.nil))))) (.skip))))))))))
noncomputable def s_l_hedge : List D → Option D := runF (calls [(4, s_l_large), (2, s_l_cell), (5, s_l_order), (3, s_l_mix)]) d_l_hedge
/- _law_shuffled(_law_hedge_here, _law_script, _law_at); slots: _law_hedge_here, _law_script, _law_at, _law_order_here, _law_rods, _law_a, _law_b -/
def d_l_shuffled : FDef where
  params := 3
  slots := 7
  lent := []
  body := .seq (.asg 3 0 (.call 5 [] (.cons (.var 1) (.cons (.var 2) (.cons (.ix (.var 0) (.c (.int 0))) (.nil)))))) (.seq (.asg 4 0 (.comp false (.tup (.cons (.min2 (.ix (.var 3) (.var 5)) (.ix (.var 3) (.var 6))) (.cons (.max2 (.ix (.var 3) (.var 5)) (.ix (.var 3) (.var 6))) (.nil)))) (.tp [5, 6]) (.lst (.ix (.var 0) (.c (.int 1)))) (.yes))) (.seq (.ret (.tup (.cons (.ix (.var 0) (.c (.int 0))) (.cons (.sorted (.var 4)) (.nil))))) (.skip)))
noncomputable def s_l_shuffled : List D → Option D := runF (calls [(5, s_l_order)]) d_l_shuffled
/- reaches(hedge); slots: hedge, knot -/
def d_reaches : FDef where
  params := 1
  slots := 2
  lent := []
  body := .seq (.ret (.comp false (.max1 (.call 10 [] (.cons (.var 0) (.cons (.var 1) (.nil))))) (.nm 1) (.rng1 (.ix (.var 0) (.c (.int 0)))) (.yes))) (.skip)
noncomputable def s_reaches : List D → Option D := runF (calls [(10, s_lengths)]) d_reaches
/- turnings_at(hedge, knot); slots: hedge, knot, codes, found, row, many, other -/
def d_turnings_at : FDef where
  params := 2
  slots := 7
  lent := []
  body := .seq (.asg 2 0 (.call 26 [] (.cons (.var 0) (.cons (.var 1) (.nil))))) (.seq (.asg 3 0 (.c (.int 1))) (.seq (.kill [4]) (.seq (.for_ (.nm 4) (.lst (.call 32 [] (.cons (.var 0) (.cons (.var 1) (.cons (.var 2) (.nil)))))) (.seq (.asg 3 0 (.mul (.var 3) (.call 33 [] (.cons (.comp false (.call 35 [] (.cons (.var 5) (.nil))) (.nm 5) (.lst (.call 34 [] (.cons (.comp false (.ix (.var 2) (.var 6)) (.nm 6) (.lst (.var 4)) (.yes)) (.nil)))) (.yes)) (.nil))))) (.seq (.kill [4]) .skip))) (.seq (.ret (.var 3)) (.skip)))))
noncomputable def s_turnings_at : List D → Option D := runF (calls [(26, s_branch_codes), (32, s_order_of), (33, s_times_alike), (34, s_runs), (35, s_orders)]) d_turnings_at
/- sorts(hedge); slots: hedge, found, knot, text -/
def d_sorts : FDef where
  params := 1
  slots := 4
  lent := []
  body := .seq (.newD 1) (.seq (.kill [2, 3]) (.seq (.for_ (.nm 2) (.rng1 (.ix (.var 0) (.c (.int 0)))) (.seq (.asg 3 0 (.ix (.call 26 [] (.cons (.var 0) (.cons (.var 2) (.nil)))) (.var 2))) (.seq (.setdefApp 1 (.var 3) (.var 2)) (.seq (.kill [2, 3]) .skip)))) (.seq (.retV 1) (.skip))))
noncomputable def s_sorts : List D → Option D := runF (calls [(26, s_branch_codes)]) d_sorts
/- middle(hedge); slots: hedge, found, knot -/
def d_middle : FDef where
  params := 1
  slots := 3
  lent := []
  body := .seq (.asg 1 0 (.call 14 [] (.cons (.var 0) (.nil)))) (.seq (.ret (.comp false (.var 2) (.nm 2) (.rng1 (.ix (.var 0) (.c (.int 0)))) (.val (.eq (.ix (.var 1) (.var 2)) (.min1 (.var 1)))))) (.skip))
noncomputable def s_middle : List D → Option D := runF (calls [(14, s_reaches)]) d_middle
/- turnings(hedge); slots: hedge, codes, knot, found -/
def d_turnings : FDef where
  params := 1
  slots := 4
  lent := []
  body := .seq (.asg 1 0 (.comp false (.ix (.call 26 [] (.cons (.var 0) (.cons (.var 2) (.nil)))) (.var 2)) (.nm 2) (.lst (.call 15 [] (.cons (.var 0) (.nil)))) (.yes))) (.seq (.asg 3 0 (.call 36 [] (.cons (.var 0) (.cons (.ix (.call 15 [] (.cons (.var 0) (.nil))) (.c (.int 0))) (.nil))))) (.seq (.ite (.and_ (.val (.eq (.len (.var 1)) (.c (.int 2)))) (.one (.val (.eq (.ix (.var 1) (.c (.int 0))) (.ix (.var 1) (.c (.int 1))))))) (.seq (.ret (.mul (.c (.int 2)) (.var 3))) (.skip)) (.skip)) (.seq (.ret (.var 3)) (.skip))))
noncomputable def s_turnings : List D → Option D := runF (calls [(15, s_middle), (26, s_branch_codes), (36, s_turnings_at)]) d_turnings
/- law(_law_script); slots: _law_script, _law_one, _law_other, _law_beside_all, _law_texts, _law_knot, _law_due, _law_row, _law_k, _law_found, _law_many -/
def d_law_k19 : FDef where
  params := 1
  slots := 11
  lent := []
  body := .seq (.asg 1 0 (.call 6 [] (.cons (.var 0) (.cons (.c (.int 1)) (.nil))))) (.seq (.asg 2 0 (.call 42 [] (.cons (.var 1) (.cons (.var 0) (.cons (.md (.call 2 [] (.cons (.var 0) (.cons (.c (.int 0)) (.nil)))) (.c (.int 7))) (.nil)))))) (.seq (.asg 3 0 (.call 12 [] (.cons (.var 1) (.nil)))) (.seq (.asg 4 0 (.comp false (.call 29 [] (.cons (.var 3) (.cons (.var 5) (.nil)))) (.nm 5) (.rng1 (.ix (.var 1) (.c (.int 0)))) (.yes))) (.seq (.asg 6 1 (.lst (.nil))) (.seq (.kill [5, 7]) (.seq (.for_ (.nm 5) (.rng1 (.ix (.var 1) (.c (.int 0)))) (.seq (.asg 7 0 (.comp false (.var 8) (.nm 8) (.rng1 (.ix (.var 1) (.c (.int 0)))) (.val (.eq (.ix (.var 4) (.var 8)) (.ix (.var 4) (.var 5)))))) (.seq (.ite (.val (.nmem (.var 7) (.var 6))) (.seq (.app 6 (.var 7)) (.skip)) (.skip)) (.seq (.kill [5, 7]) .skip)))) (.seq (.asg 9 0 (.call 38 [] (.cons (.call 7 [] (.cons (.var 1) (.nil))) (.nil)))) (.seq (.ite (.or_ (.not_ (.tru (.isin (.var 9) .lst))) (.one (.val (.ne (.var 9) (.var 6))))) (.seq (.ret (.c (.bl false))) (.skip)) (.skip)) (.seq (.asg 10 0 (.call 37 [] (.cons (.call 7 [] (.cons (.var 1) (.nil))) (.nil)))) (.seq (.ite (.or_ (.not_ (.tru (.call 16 [] (.cons (.var 10) (.nil))))) (.or_ (.val (.lt (.var 10) (.c (.int 1)))) (.one (.val (.ne (.var 10) (.call 37 [] (.cons (.call 7 [] (.cons (.var 2) (.nil))) (.nil)))))))) (.seq (.ret (.c (.bl false))) (.skip)) (.skip)) (.seq (.kill [7]) (.seq (.seq (.frz [6]) (.for_ (.nm 7) (.lst (.var 6)) (.seq (.ite (.val (.ne (.md (.var 10) (.len (.var 7))) (.c (.int 0)))) (.seq (.ret (.c (.bl false))) (.skip)) (.skip)) (.seq (.kill [7]) .skip)))) (.seq (.ret (.eq (.sorted (.comp false (.len (.var 7)) (.nm 7) (.lst (.call 38 [] (.cons (.call 7 [] (.cons (.var 2) (.nil))) (.nil)))) (.yes))) (.sorted (.comp false (.len (.var 7)) (.nm 7) (.lst (.var 6)) (.yes))))) (.skip))))))))))))))
noncomputable def s_law_k19 : List D → Option D := runF (calls [(6, s_l_hedge), (42, s_l_shuffled), (2, s_l_cell), (12, s_l_beside), (29, s_l_code), (38, s_sorts), (7, s_l_copy), (37, s_turnings), (16, s_l_whole)]) d_law_k19
/- tips(hedge); slots: hedge, knot, row -/
def d_tips : FDef where
  params := 1
  slots := 3
  lent := []
  body := .seq (.ret (.comp false (.var 1) (.tp [1, 2]) (.enum (.call 0 [] (.cons (.var 0) (.nil)))) (.val (.lt (.len (.var 2)) (.c (.int 2)))))) (.skip)
noncomputable def s_tips : List D → Option D := runF (calls [(0, s_neighbours)]) d_tips
/- _law_far(_law_beside_here, _law_knot); slots: _law_beside_here, _law_knot, _law_found, _law_other, _law_todo, _law_here -/
def d_l_far : FDef where
  params := 2
  slots := 6
  lent := []
  body := .seq (.asg 2 1 (.comp false (.neg (.c (.int 1))) (.nm 3) (.lst (.var 0)) (.yes))) (.seq (.asgIx 2 (.var 1) (.c (.int 0))) (.seq (.asg 4 1 (.lst (.cons (.var 1) (.nil)))) (.seq (.kill [3, 5]) (.seq (.wh (.tru (.var 4)) (.seq (.pop (some (.nm 5)) 4 true) (.seq (.kill [3]) (.seq (.for_ (.nm 3) (.lst (.ix (.var 0) (.var 5))) (.seq (.ite (.val (.lt (.ix (.var 2) (.var 3)) (.c (.int 0)))) (.seq (.asgIx 2 (.var 3) (.add (.ix (.var 2) (.var 5)) (.c (.int 1)))) (.seq (.app 4 (.var 3)) (.skip))) (.skip)) (.seq (.kill [3]) .skip))) (.seq (.kill [3, 5]) .skip))))) (.seq (.seq (.frz [2]) (.ret (.var 2))) (.skip))))))
noncomputable def s_l_far : List D → Option D := runF (calls []) d_l_far
/- way(hedge, one, other); slots: hedge, one, other, back, found -/
def d_way : FDef where
  params := 3
  slots := 5
  lent := []
  body := .seq (.asg 3 0 (.dictP (.call 9 [] (.cons (.var 0) (.cons (.var 2) (.nil)))))) (.seq (.asg 4 1 (.lst (.cons (.var 1) (.nil)))) (.seq (.wh (.val (.ne (.ix (.var 4) (.neg (.c (.int 1)))) (.var 2))) (.seq (.app 4 (.ix (.var 3) (.ix (.var 4) (.neg (.c (.int 1)))))) (.skip))) (.seq (.seq (.frz [4]) (.ret (.var 4))) (.skip))))
noncomputable def s_way : List D → Option D := runF (calls [(9, s_parents)]) d_way
/- long_way(hedge); slots: hedge, most, best, one, row, other, found -/
def d_long_way : FDef where
  params := 1
  slots := 7
  lent := []
  body := .seq (.asg 1 0 (.max1 (.call 14 [] (.cons (.var 0) (.nil))))) (.seq (.asg 2 0 (.c .non)) (.seq (.kill [3, 4, 5, 6]) (.seq (.for_ (.nm 3) (.rng1 (.ix (.var 0) (.c (.int 0)))) (.seq (.asg 4 0 (.call 10 [] (.cons (.var 0) (.cons (.var 3) (.nil))))) (.seq (.kill [5, 6]) (.seq (.for_ (.nm 5) (.rng1 (.ix (.var 0) (.c (.int 0)))) (.seq (.ite (.val (.eq (.ix (.var 4) (.var 5)) (.var 1))) (.seq (.asg 6 0 (.call 11 [] (.cons (.var 0) (.cons (.var 3) (.cons (.var 5) (.nil)))))) (.seq (.ite (.or_ (.val (.isN (.var 2))) (.one (.val (.ltL (.var 6) (.var 2))))) (.seq (.asg 2 0 (.var 6)) (.skip)) (.skip)) (.skip))) (.skip)) (.seq (.kill [5, 6]) .skip))) (.seq (.kill [3, 4, 5, 6]) .skip))))) (.seq (.ret (.var 2)) (.skip)))))
noncomputable def s_long_way : List D → Option D := runF (calls [(14, s_reaches), (10, s_lengths), (11, s_way)]) d_long_way
/- _law_way(_law_beside_here, _law_one, _law_other); slots: _law_beside_here, _law_one, _law_other, _law_far_here, _law_found, _law_k -/
def d_l_way : FDef where
  params := 3
  slots := 6
  lent := []
  body := .seq (.asg 3 0 (.call 13 [] (.cons (.var 0) (.cons (.var 2) (.nil))))) (.seq (.asg 4 1 (.lst (.cons (.var 1) (.nil)))) (.seq (.wh (.val (.ne (.ix (.var 4) (.neg (.c (.int 1)))) (.var 2))) (.seq (.app 4 (.ix (.comp false (.var 5) (.nm 5) (.lst (.ix (.var 0) (.ix (.var 4) (.neg (.c (.int 1)))))) (.val (.lt (.ix (.var 3) (.var 5)) (.ix (.var 3) (.ix (.var 4) (.neg (.c (.int 1)))))))) (.c (.int 0)))) (.skip))) (.seq (.seq (.frz [4]) (.ret (.var 4))) (.skip))))
noncomputable def s_l_way : List D → Option D := runF (calls [(13, s_l_far)]) d_l_way
/- weights(hedge, knot); slots: hedge, knot, found, other, here, ahead -/
def d_weights : FDef where
  params := 2
  slots := 6
  lent := []
  body := .seq (.asg 2 1 (.comp false (.c (.int 1)) (.nm 3) (.rng1 (.ix (.var 0) (.c (.int 0)))) (.yes))) (.seq (.kill [4, 5]) (.seq (.for_ (.tp [4, 5]) (.rev (.call 9 [] (.cons (.var 0) (.cons (.var 1) (.nil))))) (.seq (.ite (.val (.notN (.var 5))) (.seq (.asgIx 2 (.var 5) (.add (.ix (.var 2) (.var 5)) (.ix (.var 2) (.var 4)))) (.skip)) (.skip)) (.seq (.kill [4, 5]) .skip))) (.seq (.seq (.frz [2]) (.ret (.var 2))) (.skip))))
noncomputable def s_weights : List D → Option D := runF (calls [(9, s_parents)]) d_weights
/- code_from(hedge, knot); slots: hedge, knot -/
def d_code_from : FDef where
  params := 2
  slots := 2
  lent := []
  body := .seq (.ret (.ix (.call 26 [] (.cons (.var 0) (.cons (.var 1) (.nil)))) (.var 1))) (.skip)
noncomputable def s_code_from : List D → Option D := runF (calls [(26, s_branch_codes)]) d_code_from
/- _law_best(_law_hedge_here); slots: _law_hedge_here, _law_beside_here, _law_reach, _law_knot, _law_some -/
def d_l_best : FDef where
  params := 1
  slots := 5
  lent := []
  body := .seq (.asg 1 0 (.call 12 [] (.cons (.var 0) (.nil)))) (.seq (.asg 2 0 (.comp false (.max1 (.call 13 [] (.cons (.var 1) (.cons (.var 3) (.nil))))) (.nm 3) (.rng1 (.ix (.var 0) (.c (.int 0)))) (.yes))) (.seq (.asg 4 0 (.comp false (.var 3) (.nm 3) (.rng1 (.ix (.var 0) (.c (.int 0)))) (.val (.eq (.ix (.var 2) (.var 3)) (.min1 (.var 2)))))) (.seq (.ret (.maxS (.comp false (.call 29 [] (.cons (.var 1) (.cons (.var 3) (.nil)))) (.nm 3) (.lst (.var 4)) (.yes)))) (.skip))))
noncomputable def s_l_best : List D → Option D := runF (calls [(12, s_l_beside), (13, s_l_far), (29, s_l_code)]) d_l_best
/- code(hedge); slots: hedge, knot -/
def d_code : FDef where
  params := 1
  slots := 2
  lent := []
  body := .seq (.ret (.maxS (.comp false (.call 27 [] (.cons (.var 0) (.cons (.var 1) (.nil)))) (.nm 1) (.lst (.call 15 [] (.cons (.var 0) (.nil)))) (.yes)))) (.skip)
noncomputable def s_code : List D → Option D := runF (calls [(15, s_middle), (27, s_code_from)]) d_code
/- _law_is_likeness(_law_found, _law_one, _law_other); slots: _law_found, _law_one, _law_other, _law_knot, _law_rods, _law_a, _law_b -/
def d_l_is_likeness : FDef where
  params := 3
  slots := 7
  lent := []
  body := .seq (.ite (.or_ (.not_ (.tru (.isin (.var 0) .lst))) (.or_ (.val (.ne (.len (.var 0)) (.ix (.var 1) (.c (.int 0))))) (.one (.val (.ne (.ix (.var 1) (.c (.int 0))) (.ix (.var 2) (.c (.int 0)))))))) (.seq (.ret (.c (.bl false))) (.skip)) (.skip)) (.seq (.kill [3]) (.seq (.for_ (.nm 3) (.lst (.var 0)) (.seq (.ite (.or_ (.not_ (.tru (.call 16 [] (.cons (.var 3) (.nil))))) (.or_ (.val (.lt (.var 3) (.c (.int 0)))) (.one (.val (.ge (.var 3) (.ix (.var 2) (.c (.int 0)))))))) (.seq (.ret (.c (.bl false))) (.skip)) (.skip)) (.seq (.kill [3]) .skip))) (.seq (.asg 4 0 (.comp false (.tup (.cons (.min2 (.ix (.var 0) (.var 5)) (.ix (.var 0) (.var 6))) (.cons (.max2 (.ix (.var 0) (.var 5)) (.ix (.var 0) (.var 6))) (.nil)))) (.tp [5, 6]) (.lst (.ix (.var 1) (.c (.int 1)))) (.yes))) (.seq (.ret (.and_ (.eq (.lenset (.var 0)) (.ix (.var 1) (.c (.int 0)))) (.one (.eq (.sorted (.var 4)) (.ix (.var 2) (.c (.int 1))))))) (.skip)))))
noncomputable def s_l_is_likeness : List D → Option D := runF (calls [(16, s_l_whole)]) d_l_is_likeness
/- along(one, knot, other, place); slots: one, knot, other, place, mine, theirs, found, here, todo, first, second -/
def d_along : FDef where
  params := 4
  slots := 11
  lent := []
  body := .seq (.asg 4 0 (.call 32 [] (.cons (.var 0) (.cons (.var 1) (.cons (.call 26 [] (.cons (.var 0) (.cons (.var 1) (.nil)))) (.nil)))))) (.seq (.asg 5 0 (.call 32 [] (.cons (.var 2) (.cons (.var 3) (.cons (.call 26 [] (.cons (.var 2) (.cons (.var 3) (.nil)))) (.nil)))))) (.seq (.asg 6 1 (.comp false (.c .non) (.nm 7) (.rng1 (.ix (.var 0) (.c (.int 0)))) (.yes))) (.seq (.asgIx 6 (.var 1) (.var 3)) (.seq (.asg 8 1 (.lst (.cons (.var 1) (.nil)))) (.seq (.kill [7, 9, 10]) (.seq (.wh (.tru (.var 8)) (.seq (.pop (some (.nm 7)) 8 false) (.seq (.kill [9, 10]) (.seq (.for_ (.tp [9, 10]) (.zip (.ix (.var 4) (.var 7)) (.ix (.var 5) (.ix (.var 6) (.var 7)))) (.seq (.asgIx 6 (.var 9) (.var 10)) (.seq (.app 8 (.var 9)) (.seq (.kill [9, 10]) .skip)))) (.seq (.kill [7, 9, 10]) .skip))))) (.seq (.seq (.frz [6]) (.ret (.var 6))) (.skip))))))))
noncomputable def s_along : List D → Option D := runF (calls [(32, s_order_of), (26, s_branch_codes)]) d_along
/- best_knot(hedge); slots: hedge, best, knot -/
def d_best_knot : FDef where
  params := 1
  slots := 3
  lent := []
  body := .seq (.asg 1 0 (.call 30 [] (.cons (.var 0) (.nil)))) (.seq (.kill [2]) (.seq (.for_ (.nm 2) (.lst (.call 15 [] (.cons (.var 0) (.nil)))) (.seq (.ite (.val (.eq (.ix (.call 26 [] (.cons (.var 0) (.cons (.var 2) (.nil)))) (.var 2)) (.var 1))) (.seq (.ret (.var 2)) (.skip)) (.skip)) (.seq (.kill [2]) .skip))) (.seq (.ret (.c .non)) (.skip))))
noncomputable def s_best_knot : List D → Option D := runF (calls [(30, s_code), (15, s_middle), (26, s_branch_codes)]) d_best_knot
/- likeness(one, other); slots: one, other -/
def d_likeness : FDef where
  params := 2
  slots := 2
  lent := []
  body := .seq (.ite (.or_ (.val (.ne (.ix (.var 0) (.c (.int 0))) (.ix (.var 1) (.c (.int 0))))) (.one (.val (.ne (.call 30 [] (.cons (.var 0) (.nil))) (.call 30 [] (.cons (.var 1) (.nil))))))) (.seq (.ret (.c .non)) (.skip)) (.skip)) (.seq (.ret (.call 82 [] (.cons (.var 0) (.cons (.call 83 [] (.cons (.var 0) (.nil))) (.cons (.var 1) (.cons (.call 83 [] (.cons (.var 1) (.nil))) (.nil))))))) (.skip))
noncomputable def s_likeness : List D → Option D := runF (calls [(30, s_code), (82, s_along), (83, s_best_knot)]) d_likeness
/- hedge_by(many, rods); slots: many, rods, a, b -/
def d_hedge_by : FDef where
  params := 2
  slots := 4
  lent := []
  body := .seq (.ret (.tup (.cons (.var 0) (.cons (.sorted (.comp false (.tup (.cons (.min2 (.var 2) (.var 3)) (.cons (.max2 (.var 2) (.var 3)) (.nil)))) (.tp [2, 3]) (.lst (.var 1)) (.yes))) (.nil))))) (.skip)
noncomputable def s_hedge_by : List D → Option D := runF (calls []) d_hedge_by
/- _law_parts(_law_hedge_here, _law_places); slots: _law_hedge_here, _law_places, _law_home, _law_at, _law_rod, _law_old, _law_one, _law_found, _law_knot, _law_row, _law_k -/
def d_l_parts : FDef where
  params := 2
  slots := 11
  lent := [false, true]
  body := .seq (.asg 2 0 (.listRng (.ix (.var 0) (.c (.int 0))))) (.seq (.kill [3, 4, 5]) (.seq (.for_ (.tp [3, 4]) (.enum (.ix (.var 0) (.c (.int 1)))) (.seq (.ite (.val (.nmem (.var 3) (.var 1))) (.seq (.asg 5 0 (.ix (.var 2) (.ix (.var 4) (.c (.int 1))))) (.seq (.asg 2 0 (.comp false (.ite (.val (.eq (.var 6) (.var 5))) (.ix (.var 2) (.ix (.var 4) (.c (.int 0)))) (.var 6)) (.nm 6) (.lst (.var 2)) (.yes))) (.skip))) (.skip)) (.seq (.kill [3, 4, 5]) .skip))) (.seq (.asg 7 1 (.lst (.nil))) (.seq (.kill [8, 9]) (.seq (.for_ (.nm 8) (.rng1 (.ix (.var 0) (.c (.int 0)))) (.seq (.asg 9 0 (.comp false (.var 10) (.nm 10) (.rng1 (.ix (.var 0) (.c (.int 0)))) (.val (.eq (.ix (.var 2) (.var 10)) (.ix (.var 2) (.var 8)))))) (.seq (.ite (.val (.nmem (.var 9) (.var 7))) (.seq (.app 7 (.var 9)) (.skip)) (.skip)) (.seq (.kill [8, 9]) .skip)))) (.seq (.seq (.frz [7]) (.ret (.var 7))) (.skip)))))))
noncomputable def s_l_parts : List D → Option D := runF (calls []) d_l_parts
/- cut(hedge, room); slots: hedge, room, weight, knot, branches, found, here, ahead, some, heavy, one -/
def d_cut : FDef where
  params := 2
  slots := 11
  lent := []
  body := .seq (.asg 2 1 (.comp false (.c (.int 1)) (.nm 3) (.rng1 (.ix (.var 0) (.c (.int 0)))) (.yes))) (.seq (.asg 4 2 (.comp true (.lst (.nil)) (.nm 3) (.rng1 (.ix (.var 0) (.c (.int 0)))) (.yes))) (.seq (.asg 5 1 (.lst (.nil))) (.seq (.kill [3, 6, 7, 8, 9]) (.seq (.for_ (.tp [6, 7]) (.rev (.call 9 [] (.cons (.var 0) (.cons (.c (.int 0)) (.nil))))) (.seq (.asg 8 1 (.sorted (.ix (.var 4) (.var 6)))) (.seq (.asgIx 2 (.var 6) (.add (.c (.int 1)) (.sum (.comp false (.ix (.var 10) (.c (.int 0))) (.nm 10) (.lst (.var 8)) (.yes))))) (.seq (.kill [3, 9]) (.seq (.wh (.val (.gt (.ix (.var 2) (.var 6)) (.var 1))) (.seq (.pop (some (.tp [9, 3])) 8 false) (.seq (.asgIx 2 (.var 6) (.sub (.ix (.var 2) (.var 6)) (.var 9))) (.seq (.app 5 (.index (.ix (.var 0) (.c (.int 1))) (.tup (.cons (.min2 (.var 6) (.var 3)) (.cons (.max2 (.var 6) (.var 3)) (.nil)))))) (.seq (.kill [3, 9]) .skip))))) (.seq (.ite (.val (.notN (.var 7))) (.seq (.appIx 4 (.var 7) (.tup (.cons (.ix (.var 2) (.var 6)) (.cons (.var 6) (.nil))))) (.skip)) (.skip)) (.seq (.kill [3, 6, 7, 8, 9]) .skip))))))) (.seq (.ret (.sorted (.var 5))) (.skip))))))
noncomputable def s_cut : List D → Option D := runF (calls [(9, s_parents)]) d_cut
/- behind(hedge, knots); slots: hedge, knots, found, knot, here, ahead -/
def d_behind : FDef where
  params := 2
  slots := 6
  lent := []
  body := .seq (.asg 2 1 (.comp false (.intE (.mem (.var 3) (.var 1))) (.nm 3) (.rng1 (.ix (.var 0) (.c (.int 0)))) (.yes))) (.seq (.kill [4, 5]) (.seq (.for_ (.tp [4, 5]) (.rev (.call 9 [] (.cons (.var 0) (.cons (.c (.int 0)) (.nil))))) (.seq (.ite (.val (.notN (.var 5))) (.seq (.asgIx 2 (.var 5) (.add (.ix (.var 2) (.var 5)) (.ix (.var 2) (.var 4)))) (.skip)) (.skip)) (.seq (.kill [4, 5]) .skip))) (.seq (.seq (.frz [2]) (.ret (.var 2))) (.skip))))
noncomputable def s_behind : List D → Option D := runF (calls [(9, s_parents)]) d_behind
/- net(hedge, knots); slots: hedge, knots, found, rods, here, ahead, at, rod -/
def d_net : FDef where
  params := 2
  slots := 8
  lent := []
  body := .seq (.asg 2 0 (.call 54 [] (.cons (.var 0) (.cons (.var 1) (.nil))))) (.seq (.asg 3 1 (.lst (.nil))) (.seq (.kill [4, 5]) (.seq (.for_ (.tp [4, 5]) (.lst (.call 9 [] (.cons (.var 0) (.cons (.c (.int 0)) (.nil))))) (.seq (.ite (.and_ (.val (.notN (.var 5))) (.one (.val (.ch .lt .lt (.c (.int 0)) (.ix (.var 2) (.var 4)) (.len (.var 1)))))) (.seq (.app 3 (.tup (.cons (.min2 (.var 4) (.var 5)) (.cons (.max2 (.var 4) (.var 5)) (.nil))))) (.skip)) (.skip)) (.seq (.kill [4, 5]) .skip))) (.seq (.ret (.comp false (.var 6) (.tp [6, 7]) (.enum (.ix (.var 0) (.c (.int 1)))) (.val (.mem (.var 7) (.var 3))))) (.skip)))))
noncomputable def s_net : List D → Option D := runF (calls [(54, s_behind), (9, s_parents)]) d_net
end Hg
end

section
set_option Elab.async false
set_option maxRecDepth 100000
set_option autoImplicit false
set_option maxHeartbeats 4000000
namespace HgW
open PySem PySem.Spec PyProof.Rows L2 Hg
def topS (i : Nat) : Stmt := PySem.Challenge.pw_hedgerow_k19_whole_sorts_and_turnings.main.body.getD i (.Pass ⟨0, 0, 0, 0⟩)
abbrev st_neighbours : Stmt := topS 1
theorem sc_neighbours : FnScope ["hedge", "found", "knot", "a", "b", "row"] ["hedge"] (defScope st_neighbours) := ⟨rfl, rfl, rfl, by decide +kernel, rfl, by decide +kernel, by decide +kernel⟩
abbrev st_times_alike : Stmt := topS 11
theorem sc_times_alike : FnScope ["some", "found", "thing"] ["some"] (defScope st_times_alike) := ⟨rfl, rfl, rfl, by decide +kernel, rfl, by decide +kernel, by decide +kernel⟩
abbrev st_runs : Stmt := topS 12
theorem sc_runs : FnScope ["texts", "found", "text"] ["texts"] (defScope st_runs) := ⟨rfl, rfl, rfl, by decide +kernel, rfl, by decide +kernel, by decide +kernel⟩
abbrev st_orders : Stmt := topS 13
theorem sc_orders : FnScope ["many", "found", "number"] ["many"] (defScope st_orders) := ⟨rfl, rfl, rfl, by decide +kernel, rfl, by decide +kernel, by decide +kernel⟩
abbrev st__law_cell : Stmt := topS 18
theorem sc__law_cell : FnScope ["_law_script", "_law_k"] ["_law_script", "_law_k"] (defScope st__law_cell) := ⟨rfl, rfl, rfl, by decide +kernel, rfl, by decide +kernel, by decide +kernel⟩
abbrev st__law_mix : Stmt := topS 19
theorem sc__law_mix : FnScope ["_law_cell_here", "_law_prime", "_law_many"] ["_law_cell_here", "_law_prime", "_law_many"] (defScope st__law_mix) := ⟨rfl, rfl, rfl, by decide +kernel, rfl, by decide +kernel, by decide +kernel⟩
abbrev st__law_whole : Stmt := topS 21
theorem sc__law_whole : FnScope ["_law_found"] ["_law_found"] (defScope st__law_whole) := ⟨rfl, rfl, rfl, by decide +kernel, rfl, by decide +kernel, by decide +kernel⟩
abbrev st__law_copy : Stmt := topS 24
theorem sc__law_copy : FnScope ["_law_hedge_here"] ["_law_hedge_here"] (defScope st__law_copy) := ⟨rfl, rfl, rfl, by decide +kernel, rfl, by decide +kernel, by decide +kernel⟩
abbrev st__law_beside : Stmt := topS 25
theorem sc__law_beside : FnScope ["_law_hedge_here", "_law_found", "_law_knot", "_law_a", "_law_b", "_law_row"] ["_law_hedge_here"] (defScope st__law_beside) := ⟨rfl, rfl, rfl, by decide +kernel, rfl, by decide +kernel, by decide +kernel⟩
abbrev st__law_tree : Stmt := topS 26
theorem sc__law_tree : FnScope ["_law_beside_here", "_law_knot", "_law_found", "_law_at", "_law_here", "_law_ahead", "_law_other"] ["_law_beside_here", "_law_knot"] (defScope st__law_tree) := ⟨rfl, rfl, rfl, by decide +kernel, rfl, by decide +kernel, by decide +kernel⟩
abbrev st_parents : Stmt := topS 2
theorem sc_parents : FnScope ["hedge", "knot", "beside", "found", "at", "here", "ahead", "other"] ["hedge", "knot"] (defScope st_parents) := ⟨rfl, rfl, rfl, by decide +kernel, rfl, by decide +kernel, by decide +kernel⟩
abbrev st__law_large : Stmt := topS 20
theorem sc__law_large : FnScope ["_law_script"] ["_law_script"] (defScope st__law_large) := ⟨rfl, rfl, rfl, by decide +kernel, rfl, by decide +kernel, by decide +kernel⟩
abbrev st__law_order : Stmt := topS 22
theorem sc__law_order : FnScope ["_law_script", "_law_at", "_law_many", "_law_keys", "_law_k", "_law_key"] ["_law_script", "_law_at", "_law_many"] (defScope st__law_order) := ⟨rfl, rfl, rfl, by decide +kernel, rfl, by decide +kernel, by decide +kernel⟩
abbrev st__law_code : Stmt := topS 27
theorem sc__law_code : FnScope ["_law_beside_here", "_law_knot", "_law_after", "_law_other", "_law_text", "_law_here", "_law_ahead"] ["_law_beside_here", "_law_knot"] (defScope st__law_code) := ⟨rfl, rfl, rfl, by decide +kernel, rfl, by decide +kernel, by decide +kernel⟩
abbrev st_lengths : Stmt := topS 3
theorem sc_lengths : FnScope ["hedge", "knot", "found", "other", "here", "ahead"] ["hedge", "knot"] (defScope st_lengths) := ⟨rfl, rfl, rfl, by decide +kernel, rfl, by decide +kernel, by decide +kernel⟩
abbrev st_branch_codes : Stmt := topS 8
theorem sc_branch_codes : FnScope ["hedge", "knot", "behind", "other", "found", "here", "ahead"] ["hedge", "knot"] (defScope st_branch_codes) := ⟨rfl, rfl, rfl, by decide +kernel, rfl, by decide +kernel, by decide +kernel⟩
abbrev st_order_of : Stmt := topS 10
theorem sc_order_of : FnScope ["hedge", "knot", "codes", "ahead", "found", "here", "row", "branches", "other"] ["hedge", "knot", "codes"] (defScope st_order_of) := ⟨rfl, rfl, rfl, by decide +kernel, rfl, by decide +kernel, by decide +kernel⟩
abbrev st__law_hedge : Stmt := topS 23
theorem sc__law_hedge : FnScope ["_law_script", "_law_at", "_law_most", "_law_many", "_law_order_here", "_law_manner", "_law_rods", "_law_k", "_law_other", "_law_one", "_law_two"] ["_law_script", "_law_at"] (defScope st__law_hedge) := ⟨rfl, rfl, rfl, by decide +kernel, rfl, by decide +kernel, by decide +kernel⟩
abbrev st__law_shuffled : Stmt := topS 28
theorem sc__law_shuffled : FnScope ["_law_hedge_here", "_law_script", "_law_at", "_law_order_here", "_law_rods", "_law_a", "_law_b"] ["_law_hedge_here", "_law_script", "_law_at"] (defScope st__law_shuffled) := ⟨rfl, rfl, rfl, by decide +kernel, rfl, by decide +kernel, by decide +kernel⟩
abbrev st_reaches : Stmt := topS 5
theorem sc_reaches : FnScope ["hedge", "knot"] ["hedge"] (defScope st_reaches) := ⟨rfl, rfl, rfl, by decide +kernel, rfl, by decide +kernel, by decide +kernel⟩
abbrev st_turnings_at : Stmt := topS 14
theorem sc_turnings_at : FnScope ["hedge", "knot", "codes", "found", "row", "many", "other"] ["hedge", "knot"] (defScope st_turnings_at) := ⟨rfl, rfl, rfl, by decide +kernel, rfl, by decide +kernel, by decide +kernel⟩
abbrev st_sorts : Stmt := topS 16
theorem sc_sorts : FnScope ["hedge", "found", "knot", "text"] ["hedge"] (defScope st_sorts) := ⟨rfl, rfl, rfl, by decide +kernel, rfl, by decide +kernel, by decide +kernel⟩
abbrev st_middle : Stmt := topS 6
theorem sc_middle : FnScope ["hedge", "found", "knot"] ["hedge"] (defScope st_middle) := ⟨rfl, rfl, rfl, by decide +kernel, rfl, by decide +kernel, by decide +kernel⟩
abbrev st_turnings : Stmt := topS 15
theorem sc_turnings : FnScope ["hedge", "codes", "knot", "found"] ["hedge"] (defScope st_turnings) := ⟨rfl, rfl, rfl, by decide +kernel, rfl, by decide +kernel, by decide +kernel⟩
abbrev st_law : Stmt := topS 29
theorem sc_law : FnScope ["_law_script", "_law_one", "_law_other", "_law_beside_all", "_law_texts", "_law_knot", "_law_due", "_law_row", "_law_k", "_law_found", "_law_many"] ["_law_script"] (defScope st_law) := ⟨rfl, rfl, rfl, by decide +kernel, rfl, by decide +kernel, by decide +kernel⟩
section
variable [TB : Tabl] {P : Program} {w : World} {K : PySem.W.Frag} {mg : Str → Option Value} {base : Heap}
theorem w_neighbours {f : Addr} {fd : FuncData} (F : Fun K "neighbours" "neighbours" st_neighbours f fd) (bf : Bf mg) : FnOk P w K mg base CX0 1 f fd ["hedge"] (spF K d_neighbours.lent d_neighbours.params s_neighbours) :=
  fn_ok d_neighbours F sc_neighbours bf rfl rfl (by decide) fun cdv A outer s H E hr G => (sb_seq (ss_asgC (i := 1) G [("knot", 2)] (si_rng1 G (se_ix G (se_var (i := 0)) se_i)) (fun _ _ _ _ _ => (sg_nm (i := 2) G.blk)) (fun _ _ _ _ _ => sts_yes) (fun _ _ _ _ _ => (se_lst sa_nil))) (sb_kill (sb_seq (ss_for G PassesOwn.never (si_lst (se_ix G (se_var (i := 0)) se_i)) (sg_tp G (sgs_cons (i := 3) G (sgs_cons (i := 4) G sgs_nil))) (sb_seq (ss_appIx (i := 1) (se_var (i := 3)) (se_var (i := 4))) (sb_seq (ss_appIx (i := 1) (se_var (i := 4)) (se_var (i := 3))) (sb_kill sb_skip)))) (sb_seq (ss_frz (ss_ret (se_comp G [("row", 5)] (si_lst (se_var (i := 1))) (fun _ _ _ _ _ => (sg_nm (i := 5) G.blk)) (fun _ _ _ _ _ => sts_yes) (fun _ _ _ _ _ => (se_sorted G.blk (se_var (i := 5))))))) sb_skip))))
theorem w_times_alike {f : Addr} {fd : FuncData} (F : Fun K "times_alike" "times_alike" st_times_alike f fd) (bf : Bf mg) : FnOk P w K mg base CX0 1 f fd ["some"] (spF K d_times_alike.lent d_times_alike.params s_times_alike) :=
  fn_ok d_times_alike F sc_times_alike bf rfl rfl (by decide) fun cdv A outer s H E hr G => (sb_seq (ss_asg (i := 1) G se_i) (sb_kill (sb_seq (ss_for G PassesOwn.never (si_lst (se_sorted G (se_var (i := 0)))) (sg_nm (i := 2) G) (sb_seq (ss_asg (i := 1) G (se_mul (se_var (i := 1)) (se_var (i := 2)))) (sb_kill sb_skip))) (sb_seq (ss_ret (se_var (i := 1))) sb_skip))))
theorem w_runs {f : Addr} {fd : FuncData} (F : Fun K "runs" "runs" st_runs f fd) (bf : Bf mg) : FnOk P w K mg base CX0 1 f fd ["texts"] (spF K d_runs.lent d_runs.params s_runs) :=
  fn_ok d_runs F sc_runs bf rfl rfl (by decide) fun cdv A outer s H E hr G => (sb_seq (ss_asg (i := 1) G se_dic0) (sb_kill (sb_seq (ss_for G PassesOwn.never (si_lst (se_var (i := 0))) (sg_nm (i := 2) G) (sb_seq (ss_asgIx (i := 1) G (se_var (i := 2)) (se_add (se_get G (se_var (i := 1)) (se_var (i := 2)) se_i) se_i)) (sb_kill sb_skip))) (sb_seq (ss_retV (i := 1) G) sb_skip))))
theorem w_orders {f : Addr} {fd : FuncData} (F : Fun K "orders" "orders" st_orders f fd) (bf : Bf mg) : FnOk P w K mg base CX0 1 f fd ["many"] (spF K d_orders.lent d_orders.params s_orders) :=
  fn_ok d_orders F sc_orders bf rfl rfl (by decide) fun cdv A outer s H E hr G => (sb_seq (ss_asg (i := 1) G se_i) (sb_kill (sb_seq (ss_for G PassesOwn.never (si_rng2 G se_i (se_add (se_var (i := 0)) se_i)) (sg_nm (i := 2) G) (sb_seq (ss_asg (i := 1) G (se_mul (se_var (i := 1)) (se_var (i := 2)))) (sb_kill sb_skip))) (sb_seq (ss_ret (se_var (i := 1))) sb_skip))))
theorem w__law_cell {f : Addr} {fd : FuncData} (F : Fun K "_law_cell" "_law_cell" st__law_cell f fd) (bf : Bf mg) : FnOk P w K mg base CX0 1 f fd ["_law_script", "_law_k"] (spF K d_l_cell.lent d_l_cell.params s_l_cell) :=
  fn_ok d_l_cell F sc__law_cell bf rfl rfl (by decide) fun cdv A outer s H E hr G => (sb_seq (ss_ite (st_pc (sc_lt (se_var (i := 1)) (se_len G (se_var (i := 0))))) (sb_seq (ss_ret (se_ix G (se_var (i := 0)) (se_var (i := 1)))) sb_skip) sb_skip) (sb_seq (ss_ret se_i) sb_skip))
theorem w__law_mix {f : Addr} {fd : FuncData} (F : Fun K "_law_mix" "_law_mix" st__law_mix f fd) (bf : Bf mg) : FnOk P w K mg base CX0 1 f fd ["_law_cell_here", "_law_prime", "_law_many"] (spF K d_l_mix.lent d_l_mix.params s_l_mix) :=
  fn_ok d_l_mix F sc__law_mix bf rfl rfl (by decide) fun cdv A outer s H E hr G => (sb_seq (ss_ret (se_md (se_md (se_mul (se_var (i := 0)) se_i) (se_var (i := 1))) (se_var (i := 2)))) sb_skip)
theorem w__law_whole {f : Addr} {fd : FuncData} (F : Fun K "_law_whole" "_law_whole" st__law_whole f fd) (bf : Bf mg) : FnOk P w K mg base CX0 1 f fd ["_law_found"] (spF K d_l_whole.lent d_l_whole.params s_l_whole) :=
  fn_ok d_l_whole F sc__law_whole bf rfl rfl (by decide) fun cdv A outer s H E hr G => (sb_seq (ss_ret (se_and (se_isin G (se_var (i := 0)) (ty_int G)) (se_one (se_not (se_isin G (se_var (i := 0)) (ty_bool G)))))) sb_skip)
theorem w__law_copy {f : Addr} {fd : FuncData} (F : Fun K "_law_copy" "_law_copy" st__law_copy f fd) (bf : Bf mg) : FnOk P w K mg base CX0 1 f fd ["_law_hedge_here"] (spF K d_l_copy.lent d_l_copy.params s_l_copy) :=
  fn_ok d_l_copy F sc__law_copy bf rfl rfl (by decide) fun cdv A outer s H E hr G => (sb_seq (ss_ret (se_tup (sa_cons (se_ix G (se_var (i := 0)) se_i) (sa_cons (se_list G (se_ix G (se_var (i := 0)) se_i)) sa_nil)))) sb_skip)
theorem w__law_beside {f : Addr} {fd : FuncData} (F : Fun K "_law_beside" "_law_beside" st__law_beside f fd) (bf : Bf mg) : FnOk P w K mg base CX0 1 f fd ["_law_hedge_here"] (spF K d_l_beside.lent d_l_beside.params s_l_beside) :=
  fn_ok d_l_beside F sc__law_beside bf rfl rfl (by decide) fun cdv A outer s H E hr G => (sb_seq (ss_asgC (i := 1) G [("_law_knot", 2)] (si_rng1 G (se_ix G (se_var (i := 0)) se_i)) (fun _ _ _ _ _ => (sg_nm (i := 2) G.blk)) (fun _ _ _ _ _ => sts_yes) (fun _ _ _ _ _ => (se_lst sa_nil))) (sb_kill (sb_seq (ss_for G PassesOwn.never (si_lst (se_ix G (se_var (i := 0)) se_i)) (sg_tp G (sgs_cons (i := 3) G (sgs_cons (i := 4) G sgs_nil))) (sb_seq (ss_appIx (i := 1) (se_var (i := 3)) (se_var (i := 4))) (sb_seq (ss_appIx (i := 1) (se_var (i := 4)) (se_var (i := 3))) (sb_kill sb_skip)))) (sb_seq (ss_frz (ss_ret (se_comp G [("_law_row", 5)] (si_lst (se_var (i := 1))) (fun _ _ _ _ _ => (sg_nm (i := 5) G.blk)) (fun _ _ _ _ _ => sts_yes) (fun _ _ _ _ _ => (se_sorted G.blk (se_var (i := 5))))))) sb_skip))))
theorem w__law_tree {f : Addr} {fd : FuncData} (F : Fun K "_law_tree" "_law_tree" st__law_tree f fd) (bf : Bf mg) : FnOk P w K mg base CX0 1 f fd ["_law_beside_here", "_law_knot"] (spF K d_l_tree.lent d_l_tree.params s_l_tree) :=
  fn_ok d_l_tree F sc__law_tree bf rfl rfl (by decide) fun cdv A outer s H E hr G => (sb_seq (ss_asg (i := 2) G (se_lst (sa_cons (se_tup (sa_cons (se_var (i := 1)) (sa_cons (se_neg se_i) sa_nil))) sa_nil))) (sb_seq (ss_asg (i := 3) G se_i) (sb_kill (sb_seq (ss_wh PassesOwn.never (st_pc (sc_lt (se_var (i := 3)) (se_len G (se_var (i := 2))))) (sb_seq (ss_asgT (se_ix G (se_var (i := 2)) (se_var (i := 3))) (sg_tp G (sgs_cons (i := 4) G (sgs_cons (i := 5) G sgs_nil)))) (sb_seq (ss_asg (i := 2) G (se_add (se_var (i := 2)) (se_comp G [("_law_other", 6)] (si_lst (se_ix G (se_var (i := 0)) (se_var (i := 4)))) (fun _ _ _ _ _ => (sg_nm (i := 6) G.blk)) (fun _ _ _ _ _ => (sts_one (st_pc (sc_ne G.blk (se_var (i := 6)) (se_var (i := 5)))))) (fun _ _ _ _ _ => (se_tup (sa_cons (se_var (i := 6)) (sa_cons (se_var (i := 4)) sa_nil))))))) (sb_seq (ss_asg (i := 3) G (se_add (se_var (i := 3)) se_i)) (sb_kill sb_skip))))) (sb_seq (ss_ret (se_var (i := 2))) sb_skip)))))
theorem w_parents {f : Addr} {fd : FuncData} (F : Fun K "parents" "parents" st_parents f fd) (bf : Bf mg) (c_neighbours : Cal P w K mg base 1 "neighbours" [] 1 s_neighbours) : FnOk P w K mg base CX0 2 f fd ["hedge", "knot"] (spF K d_parents.lent d_parents.params s_parents) :=
  fn_ok d_parents F sc_parents bf rfl rfl (by decide) fun cdv A outer s H E hr G => (sb_seq (ss_asg (i := 2) G (se_call c_neighbours hr (by decide) (sm_cons (se_var (i := 0)) sm_nil))) (sb_seq (ss_asg (i := 3) G (se_lst (sa_cons (se_tup (sa_cons (se_var (i := 1)) (sa_cons se_n sa_nil))) sa_nil))) (sb_seq (ss_asg (i := 4) G se_i) (sb_kill (sb_seq (ss_wh PassesOwn.never (st_pc (sc_lt (se_var (i := 4)) (se_len G (se_var (i := 3))))) (sb_seq (ss_asgT (se_ix G (se_var (i := 3)) (se_var (i := 4))) (sg_tp G (sgs_cons (i := 5) G (sgs_cons (i := 6) G sgs_nil)))) (sb_seq (ss_asg (i := 4) G (se_add (se_var (i := 4)) se_i)) (sb_seq (ss_ext (i := 3) (se_comp G [("other", 7)] (si_lst (se_ix G (se_var (i := 2)) (se_var (i := 5)))) (fun _ _ _ _ _ => (sg_nm (i := 7) G.blk)) (fun _ _ _ _ _ => (sts_one (st_pc (sc_ne G.blk (se_var (i := 7)) (se_var (i := 6)))))) (fun _ _ _ _ _ => (se_tup (sa_cons (se_var (i := 7)) (sa_cons (se_var (i := 5)) sa_nil)))))) (sb_kill sb_skip))))) (sb_seq (ss_frz (ss_ret (se_var (i := 3)))) sb_skip))))))
theorem w__law_large {f : Addr} {fd : FuncData} (F : Fun K "_law_large" "_law_large" st__law_large f fd) (bf : Bf mg) (c__law_mix : Cal P w K mg base 1 "_law_mix" [] 3 s_l_mix) (c__law_cell : Cal P w K mg base 1 "_law_cell" [] 2 s_l_cell) : FnOk P w K mg base CX0 2 f fd ["_law_script"] (spF K d_l_large.lent d_l_large.params s_l_large) :=
  fn_ok d_l_large F sc__law_large bf rfl rfl (by decide) fun cdv A outer s H E hr G => (sb_seq (ss_ret (se_pc (sc_eq G (se_call c__law_mix hr (by decide) (sm_cons (se_add (se_call c__law_cell hr (by decide) (sm_cons (se_var (i := 0)) (sm_cons se_i sm_nil))) (se_mul se_i (se_len G (se_var (i := 0))))) (sm_cons se_i (sm_cons se_i sm_nil)))) se_i))) sb_skip)
theorem w__law_order {f : Addr} {fd : FuncData} (F : Fun K "_law_order" "_law_order" st__law_order f fd) (bf : Bf mg) (c__law_mix : Cal P w K mg base 1 "_law_mix" [] 3 s_l_mix) (c__law_cell : Cal P w K mg base 1 "_law_cell" [] 2 s_l_cell) : FnOk P w K mg base CX0 2 f fd ["_law_script", "_law_at", "_law_many"] (spF K d_l_order.lent d_l_order.params s_l_order) :=
  fn_ok d_l_order F sc__law_order bf rfl rfl (by decide) fun cdv A outer s H E hr G => (sb_seq (ss_asgC (i := 3) G [("_law_k", 4)] (si_rng1 G (se_var (i := 2))) (fun _ _ _ _ _ => (sg_nm (i := 4) G.blk)) (fun _ _ _ _ _ => sts_yes) (fun _ _ _ _ _ => (se_tup (sa_cons (se_call c__law_mix hr (by decide) (sm_cons (se_add (se_call c__law_cell hr (by decide) (sm_cons (se_var (i := 0)) (sm_cons (se_add (se_add (se_var (i := 1)) se_i) (se_var (i := 4))) sm_nil))) (se_mul (se_mul se_i (se_var (i := 4))) (se_var (i := 4)))) (sm_cons se_i (sm_cons se_i sm_nil)))) (sa_cons (se_var (i := 4)) sa_nil))))) (sb_seq (ss_ret (se_comp G [("_law_key", 5)] (si_lst (se_sorted G (se_var (i := 3)))) (fun _ _ _ _ _ => (sg_nm (i := 5) G.blk)) (fun _ _ _ _ _ => sts_yes) (fun _ _ _ _ _ => (se_ix G.blk (se_var (i := 5)) se_i)))) sb_skip))
theorem w__law_code {f : Addr} {fd : FuncData} (F : Fun K "_law_code" "_law_code" st__law_code f fd) (bf : Bf mg) (c__law_tree : Cal P w K mg base 1 "_law_tree" [] 2 s_l_tree) : FnOk P w K mg base CX0 2 f fd ["_law_beside_here", "_law_knot"] (spF K d_l_code.lent d_l_code.params s_l_code) :=
  fn_ok d_l_code F sc__law_code bf rfl rfl (by decide) fun cdv A outer s H E hr G => (sb_seq (ss_asgC (i := 2) G [("_law_other", 3)] (si_lst (se_var (i := 0))) (fun _ _ _ _ _ => (sg_nm (i := 3) G.blk)) (fun _ _ _ _ _ => sts_yes) (fun _ _ _ _ _ => (se_lst sa_nil))) (sb_seq (ss_asg (i := 4) G se_s) (sb_kill (sb_seq (ss_for G PassesOwn.never (si_rev G (se_call c__law_tree hr (by decide) (sm_cons (se_var (i := 0)) (sm_cons (se_var (i := 1)) sm_nil)))) (sg_tp G (sgs_cons (i := 5) G (sgs_cons (i := 6) G sgs_nil))) (sb_seq (ss_asg (i := 4) G (se_add (se_add se_s (se_join G se_s (se_sortedR G (se_ix G (se_var (i := 2)) (se_var (i := 5)))))) se_s)) (sb_seq (ss_ite (st_pc (sc_ge (se_var (i := 6)) se_i)) (sb_seq (ss_appIx (i := 2) (se_var (i := 6)) (se_var (i := 4))) sb_skip) sb_skip) (sb_kill sb_skip)))) (sb_seq (ss_ret (se_var (i := 4))) sb_skip)))))
theorem w_lengths {f : Addr} {fd : FuncData} (F : Fun K "lengths" "lengths" st_lengths f fd) (bf : Bf mg) (c_parents : Cal P w K mg base 2 "parents" [] 2 s_parents) : FnOk P w K mg base CX0 3 f fd ["hedge", "knot"] (spF K d_lengths.lent d_lengths.params s_lengths) :=
  fn_ok d_lengths F sc_lengths bf rfl rfl (by decide) fun cdv A outer s H E hr G => (sb_seq (ss_asgC (i := 2) G [("other", 3)] (si_rng1 G (se_ix G (se_var (i := 0)) se_i)) (fun _ _ _ _ _ => (sg_nm (i := 3) G.blk)) (fun _ _ _ _ _ => sts_yes) (fun _ _ _ _ _ => se_i)) (sb_kill (sb_seq (ss_for G PassesOwn.never (si_lst (se_call c_parents hr (by decide) (sm_cons (se_var (i := 0)) (sm_cons (se_var (i := 1)) sm_nil)))) (sg_tp G (sgs_cons (i := 4) G (sgs_cons (i := 5) G sgs_nil))) (sb_seq (ss_ite (st_pc (sc_notN (se_var (i := 5)))) (sb_seq (ss_asgIx (i := 2) G (se_var (i := 4)) (se_add (se_ix G (se_var (i := 2)) (se_var (i := 5))) se_i)) sb_skip) sb_skip) (sb_kill sb_skip))) (sb_seq (ss_frz (ss_ret (se_var (i := 2)))) sb_skip))))
theorem w_branch_codes {f : Addr} {fd : FuncData} (F : Fun K "branch_codes" "branch_codes" st_branch_codes f fd) (bf : Bf mg) (c_parents : Cal P w K mg base 2 "parents" [] 2 s_parents) : FnOk P w K mg base CX0 3 f fd ["hedge", "knot"] (spF K d_branch_codes.lent d_branch_codes.params s_branch_codes) :=
  fn_ok d_branch_codes F sc_branch_codes bf rfl rfl (by decide) fun cdv A outer s H E hr G => (sb_seq (ss_asgC (i := 2) G [("other", 3)] (si_rng1 G (se_ix G (se_var (i := 0)) se_i)) (fun _ _ _ _ _ => (sg_nm (i := 3) G.blk)) (fun _ _ _ _ _ => sts_yes) (fun _ _ _ _ _ => (se_lst sa_nil))) (sb_seq (ss_asgC (i := 4) G [("other", 3)] (si_rng1 G (se_ix G (se_var (i := 0)) se_i)) (fun _ _ _ _ _ => (sg_nm (i := 3) G.blk)) (fun _ _ _ _ _ => sts_yes) (fun _ _ _ _ _ => se_s)) (sb_kill (sb_seq (ss_for G PassesOwn.never (si_rev G (se_call c_parents hr (by decide) (sm_cons (se_var (i := 0)) (sm_cons (se_var (i := 1)) sm_nil)))) (sg_tp G (sgs_cons (i := 5) G (sgs_cons (i := 6) G sgs_nil))) (sb_seq (ss_asgIx (i := 4) G (se_var (i := 5)) (se_add (se_add se_s (se_join G se_s (se_sortedR G (se_ix G (se_var (i := 2)) (se_var (i := 5)))))) se_s)) (sb_seq (ss_ite (st_pc (sc_notN (se_var (i := 6)))) (sb_seq (ss_appIx (i := 2) (se_var (i := 6)) (se_ix G (se_var (i := 4)) (se_var (i := 5)))) sb_skip) sb_skip) (sb_kill sb_skip)))) (sb_seq (ss_frz (ss_ret (se_var (i := 4)))) sb_skip)))))
theorem w_order_of {f cM tP : Addr} {oc kV doc pm ct : Value} {od an : Option Addr} {osl : Array (Option Value)} (lk : K.lookup f = some ⟨oc, od, .func (PySem.W.fnOf "order_of" "order_of" (defArgs st_order_of) (defBody st_order_of) (defScope st_order_of) .none kV doc pm an (.ref cM) ct), osl⟩) (hcd : PySem.W.codeIn K (.ref cM) "order_of" = true) (bf : Bf mg) (tb : LamX.TabB base mg cM tP) (hq : TB.q tP = some (("order_of" : Str) ++ ".<locals>." ++ "<lambda>")) (c_parents : Cal P w K mg base 2 "parents" [] 2 s_parents) (c_neighbours : Cal P w K mg base 1 "neighbours" [] 1 s_neighbours) : FnOk P w K mg base CX0 3 f (PySem.W.fnOf "order_of" "order_of" (defArgs st_order_of) (defBody st_order_of) (defScope st_order_of) .none kV doc pm an (.ref cM) ct) ["hedge", "knot", "codes"] (spF K d_order_of.lent d_order_of.params s_order_of) :=
  fn_okC d_order_of lk hcd sc_order_of bf rfl rfl (by decide) fun A outer s H E hr G => (sb_seq (ss_asg (i := 3) G (se_dictP G (se_call c_parents hr (by decide) (sm_cons (se_var (i := 0)) (sm_cons (se_var (i := 1)) sm_nil))))) (sb_seq (ss_asg (i := 4) G (se_lst sa_nil)) (sb_kill (sb_seq (ss_for G PassesOwn.never (si_enum G (se_call c_neighbours hr (by decide) (sm_cons (se_var (i := 0)) sm_nil))) (sg_tp G (sgs_cons (i := 5) G (sgs_cons (i := 6) G sgs_nil))) (sb_seq (ss_asgC (i := 7) G [("other", 8)] (si_lst (se_var (i := 6))) (fun _ _ _ _ _ => (sg_nm (i := 8) G.blk)) (fun _ _ _ _ _ => (sts_one (st_pc (sc_ne G.blk (se_var (i := 8)) (se_ix G.blk (se_var (i := 3)) (se_var (i := 5))))))) (fun _ _ _ _ _ => (se_var (i := 8)))) (sb_seq (ss_app (i := 4) (se_sortedK G (i := 2) (se_var (i := 7)) hr tb (by rfl) hq (by exact ⟨rfl, rfl, rfl, by decide +kernel, rfl, rfl⟩) (by decide +kernel))) (sb_kill sb_skip)))) (sb_seq (ss_frz (ss_ret (se_var (i := 4)))) sb_skip)))))
theorem w__law_hedge {f : Addr} {fd : FuncData} (F : Fun K "_law_hedge" "_law_hedge" st__law_hedge f fd) (bf : Bf mg) (c__law_large : Cal P w K mg base 2 "_law_large" [] 1 s_l_large) (c__law_cell : Cal P w K mg base 1 "_law_cell" [] 2 s_l_cell) (c__law_order : Cal P w K mg base 2 "_law_order" [] 3 s_l_order) (c__law_mix : Cal P w K mg base 1 "_law_mix" [] 3 s_l_mix) : FnOk P w K mg base CX0 3 f fd ["_law_script", "_law_at"] (spF K d_l_hedge.lent d_l_hedge.params s_l_hedge) :=
  fn_ok d_l_hedge F sc__law_hedge bf rfl rfl (by decide) fun cdv A outer s H E hr G => (sb_seq (ss_asg (i := 2) G se_i) (sb_seq (ss_ite (st_tru (se_call c__law_large hr (by decide) (sm_cons (se_var (i := 0)) sm_nil))) (sb_seq (ss_asg (i := 2) G se_i) sb_skip) sb_skip) (sb_seq (ss_ite (st_pc (sc_gt (se_len G (se_var (i := 0))) se_i)) (sb_seq (ss_asg (i := 2) G se_i) sb_skip) sb_skip) (sb_seq (ss_asg (i := 3) G (se_add se_i (se_md (se_call c__law_cell hr (by decide) (sm_cons (se_var (i := 0)) (sm_cons (se_var (i := 1)) sm_nil))) (se_var (i := 2))))) (sb_seq (ss_asg (i := 4) G (se_call c__law_order hr (by decide) (sm_cons (se_var (i := 0)) (sm_cons (se_var (i := 1)) (sm_cons (se_var (i := 3)) sm_nil))))) (sb_seq (ss_asg (i := 5) G (se_md (se_call c__law_cell hr (by decide) (sm_cons (se_var (i := 0)) (sm_cons (se_add (se_var (i := 1)) se_i) sm_nil))) se_i)) (sb_seq (ss_asg (i := 6) G (se_lst sa_nil)) (sb_kill (sb_seq (ss_for G PassesOwn.never (si_rng2 G se_i (se_var (i := 3))) (sg_nm (i := 7) G) (sb_seq (ss_asg (i := 8) G (se_call c__law_mix hr (by decide) (sm_cons (se_add (se_call c__law_cell hr (by decide) (sm_cons (se_var (i := 0)) (sm_cons (se_add (se_add (se_var (i := 1)) se_i) (se_var (i := 7))) sm_nil))) (se_mul (se_mul se_i (se_var (i := 7))) (se_var (i := 7)))) (sm_cons se_i (sm_cons (se_var (i := 7)) sm_nil))))) (sb_seq (ss_ite (st_pc (sc_eq G (se_var (i := 5)) se_i)) (sb_seq (ss_asg (i := 8) G (se_sub (se_var (i := 7)) se_i)) sb_skip) sb_skip) (sb_seq (ss_ite (st_pc (sc_eq G (se_var (i := 5)) se_i)) (sb_seq (ss_asg (i := 8) G se_i) sb_skip) sb_skip) (sb_seq (ss_ite (st_pc (sc_eq G (se_var (i := 5)) se_i)) (sb_seq (ss_asg (i := 8) G (se_max2 G se_i (se_sub (se_sub (se_var (i := 7)) se_i) (se_call c__law_mix hr (by decide) (sm_cons (se_call c__law_cell hr (by decide) (sm_cons (se_var (i := 0)) (sm_cons (se_add (se_add (se_var (i := 1)) se_i) (se_var (i := 7))) sm_nil))) (sm_cons se_i (sm_cons se_i sm_nil))))))) sb_skip) sb_skip) (sb_seq (ss_asg (i := 9) G (se_ix G (se_var (i := 4)) (se_var (i := 7)))) (sb_seq (ss_asg (i := 10) G (se_ix G (se_var (i := 4)) (se_var (i := 8)))) (sb_seq (ss_app (i := 6) (se_tup (sa_cons (se_min2 G (se_var (i := 9)) (se_var (i := 10))) (sa_cons (se_max2 G (se_var (i := 9)) (se_var (i := 10))) sa_nil)))) (sb_kill sb_skip))))))))) (sb_seq (ss_ret (se_tup (sa_cons (se_var (i := 3)) (sa_cons (se_sorted G (se_var (i := 6))) sa_nil)))) sb_skip))))))))))
theorem w__law_shuffled {f : Addr} {fd : FuncData} (F : Fun K "_law_shuffled" "_law_shuffled" st__law_shuffled f fd) (bf : Bf mg) (c__law_order : Cal P w K mg base 2 "_law_order" [] 3 s_l_order) : FnOk P w K mg base CX0 3 f fd ["_law_hedge_here", "_law_script", "_law_at"] (spF K d_l_shuffled.lent d_l_shuffled.params s_l_shuffled) :=
  fn_ok d_l_shuffled F sc__law_shuffled bf rfl rfl (by decide) fun cdv A outer s H E hr G => (sb_seq (ss_asg (i := 3) G (se_call c__law_order hr (by decide) (sm_cons (se_var (i := 1)) (sm_cons (se_var (i := 2)) (sm_cons (se_ix G (se_var (i := 0)) se_i) sm_nil))))) (sb_seq (ss_asgC (i := 4) G [("_law_a", 5), ("_law_b", 6)] (si_lst (se_ix G (se_var (i := 0)) se_i)) (fun _ _ _ _ _ => (sg_tp G.blk (sgs_cons (i := 5) G.blk (sgs_cons (i := 6) G.blk sgs_nil)))) (fun _ _ _ _ _ => sts_yes) (fun _ _ _ _ _ => (se_tup (sa_cons (se_min2 G.blk (se_ix G.blk (se_var (i := 3)) (se_var (i := 5))) (se_ix G.blk (se_var (i := 3)) (se_var (i := 6)))) (sa_cons (se_max2 G.blk (se_ix G.blk (se_var (i := 3)) (se_var (i := 5))) (se_ix G.blk (se_var (i := 3)) (se_var (i := 6)))) sa_nil))))) (sb_seq (ss_ret (se_tup (sa_cons (se_ix G (se_var (i := 0)) se_i) (sa_cons (se_sorted G (se_var (i := 4))) sa_nil)))) sb_skip)))
theorem w_reaches {f : Addr} {fd : FuncData} (F : Fun K "reaches" "reaches" st_reaches f fd) (bf : Bf mg) (c_lengths : Cal P w K mg base 3 "lengths" [] 2 s_lengths) : FnOk P w K mg base CX0 4 f fd ["hedge"] (spF K d_reaches.lent d_reaches.params s_reaches) :=
  fn_ok d_reaches F sc_reaches bf rfl rfl (by decide) fun cdv A outer s H E hr G => (sb_seq (ss_ret (se_comp G [("knot", 1)] (si_rng1 G (se_ix G (se_var (i := 0)) se_i)) (fun _ _ _ _ _ => (sg_nm (i := 1) G.blk)) (fun _ _ _ _ _ => sts_yes) (fun _ _ _ _ _ => (se_max1 G.blk (se_call c_lengths hr (by decide) (sm_cons (se_var (i := 0)) (sm_cons (se_var (i := 1)) sm_nil))))))) sb_skip)
theorem w_turnings_at {f : Addr} {fd : FuncData} (F : Fun K "turnings_at" "turnings_at" st_turnings_at f fd) (bf : Bf mg) (c_branch_codes : Cal P w K mg base 3 "branch_codes" [] 2 s_branch_codes) (c_order_of : Cal P w K mg base 3 "order_of" [] 3 s_order_of) (c_times_alike : Cal P w K mg base 1 "times_alike" [] 1 s_times_alike) (c_runs : Cal P w K mg base 1 "runs" [] 1 s_runs) (c_orders : Cal P w K mg base 1 "orders" [] 1 s_orders) : FnOk P w K mg base CX0 4 f fd ["hedge", "knot"] (spF K d_turnings_at.lent d_turnings_at.params s_turnings_at) :=
  fn_ok d_turnings_at F sc_turnings_at bf rfl rfl (by decide) fun cdv A outer s H E hr G => (sb_seq (ss_asg (i := 2) G (se_call c_branch_codes hr (by decide) (sm_cons (se_var (i := 0)) (sm_cons (se_var (i := 1)) sm_nil)))) (sb_seq (ss_asg (i := 3) G se_i) (sb_kill (sb_seq (ss_for G PassesOwn.never (si_lst (se_call c_order_of hr (by decide) (sm_cons (se_var (i := 0)) (sm_cons (se_var (i := 1)) (sm_cons (se_var (i := 2)) sm_nil))))) (sg_nm (i := 4) G) (sb_seq (ss_asg (i := 3) G (se_mul (se_var (i := 3)) (se_call c_times_alike hr (by decide) (sm_cons (se_comp G [("many", 5)] (si_lst (se_call c_runs hr (by decide) (sm_cons (se_comp G [("other", 6)] (si_lst (se_var (i := 4))) (fun _ _ _ _ _ => (sg_nm (i := 6) G.blk)) (fun _ _ _ _ _ => sts_yes) (fun _ _ _ _ _ => (se_ix G.blk (se_var (i := 2)) (se_var (i := 6))))) sm_nil))) (fun _ _ _ _ _ => (sg_nm (i := 5) G.blk)) (fun _ _ _ _ _ => sts_yes) (fun _ _ _ _ _ => (se_call c_orders hr (by decide) (sm_cons (se_var (i := 5)) sm_nil)))) sm_nil)))) (sb_kill sb_skip))) (sb_seq (ss_ret (se_var (i := 3))) sb_skip)))))
theorem w_sorts {f : Addr} {fd : FuncData} (F : Fun K "sorts" "sorts" st_sorts f fd) (bf : Bf mg) (c_branch_codes : Cal P w K mg base 3 "branch_codes" [] 2 s_branch_codes) : FnOk P w K mg base CX0 4 f fd ["hedge"] (spF K d_sorts.lent d_sorts.params s_sorts) :=
  fn_ok d_sorts F sc_sorts bf rfl rfl (by decide) fun cdv A outer s H E hr G => (sb_seq (ss_newD (i := 1) G) (sb_kill (sb_seq (ss_for G PassesOwn.never (si_rng1 G (se_ix G (se_var (i := 0)) se_i)) (sg_nm (i := 2) G) (sb_seq (ss_asg (i := 3) G (se_ix G (se_call c_branch_codes hr (by decide) (sm_cons (se_var (i := 0)) (sm_cons (se_var (i := 2)) sm_nil))) (se_var (i := 2)))) (sb_seq (ss_setdefApp (i := 1) (j := 2) G (se_var (i := 3))) (sb_kill sb_skip)))) (sb_seq (ss_retV (i := 1) G) sb_skip))))
theorem w_middle {f : Addr} {fd : FuncData} (F : Fun K "middle" "middle" st_middle f fd) (bf : Bf mg) (c_reaches : Cal P w K mg base 4 "reaches" [] 1 s_reaches) : FnOk P w K mg base CX0 5 f fd ["hedge"] (spF K d_middle.lent d_middle.params s_middle) :=
  fn_ok d_middle F sc_middle bf rfl rfl (by decide) fun cdv A outer s H E hr G => (sb_seq (ss_asg (i := 1) G (se_call c_reaches hr (by decide) (sm_cons (se_var (i := 0)) sm_nil))) (sb_seq (ss_ret (se_comp G [("knot", 2)] (si_rng1 G (se_ix G (se_var (i := 0)) se_i)) (fun _ _ _ _ _ => (sg_nm (i := 2) G.blk)) (fun _ _ _ _ _ => (sts_one (st_pc (sc_eq G.blk (se_ix G.blk (se_var (i := 1)) (se_var (i := 2))) (se_min1 G.blk (se_var (i := 1))))))) (fun _ _ _ _ _ => (se_var (i := 2))))) sb_skip))
theorem w_turnings {f : Addr} {fd : FuncData} (F : Fun K "turnings" "turnings" st_turnings f fd) (bf : Bf mg) (c_middle : Cal P w K mg base 5 "middle" [] 1 s_middle) (c_branch_codes : Cal P w K mg base 3 "branch_codes" [] 2 s_branch_codes) (c_turnings_at : Cal P w K mg base 4 "turnings_at" [] 2 s_turnings_at) : FnOk P w K mg base CX0 6 f fd ["hedge"] (spF K d_turnings.lent d_turnings.params s_turnings) :=
  fn_ok d_turnings F sc_turnings bf rfl rfl (by decide) fun cdv A outer s H E hr G => (sb_seq (ss_asgC (i := 1) G [("knot", 2)] (si_lst (se_call c_middle hr (by decide) (sm_cons (se_var (i := 0)) sm_nil))) (fun _ _ _ _ _ => (sg_nm (i := 2) G.blk)) (fun _ _ _ _ _ => sts_yes) (fun _ _ _ _ _ => (se_ix G.blk (se_call c_branch_codes hr (by decide) (sm_cons (se_var (i := 0)) (sm_cons (se_var (i := 2)) sm_nil))) (se_var (i := 2))))) (sb_seq (ss_asg (i := 3) G (se_call c_turnings_at hr (by decide) (sm_cons (se_var (i := 0)) (sm_cons (se_ix G (se_call c_middle hr (by decide) (sm_cons (se_var (i := 0)) sm_nil)) se_i) sm_nil)))) (sb_seq (ss_ite (st_w (sw_and (st_pc (sc_eq G (se_len G (se_var (i := 1))) se_i)) (sw_one_and (st_pc (sc_eq G (se_ix G (se_var (i := 1)) se_i) (se_ix G (se_var (i := 1)) se_i)))))) (sb_seq (ss_ret (se_mul se_i (se_var (i := 3)))) sb_skip) sb_skip) (sb_seq (ss_ret (se_var (i := 3))) sb_skip))))
theorem w_law {f : Addr} {fd : FuncData} (F : Fun K "law" "law" st_law f fd) (bf : Bf mg) (c__law_hedge : Cal P w K mg base 3 "_law_hedge" [] 2 s_l_hedge) (c__law_shuffled : Cal P w K mg base 3 "_law_shuffled" [] 3 s_l_shuffled) (c__law_cell : Cal P w K mg base 1 "_law_cell" [] 2 s_l_cell) (c__law_beside : Cal P w K mg base 1 "_law_beside" [] 1 s_l_beside) (c__law_code : Cal P w K mg base 2 "_law_code" [] 2 s_l_code) (c_sorts : Cal P w K mg base 4 "sorts" [] 1 s_sorts) (c__law_copy : Cal P w K mg base 1 "_law_copy" [] 1 s_l_copy) (c_turnings : Cal P w K mg base 6 "turnings" [] 1 s_turnings) (c__law_whole : Cal P w K mg base 1 "_law_whole" [] 1 s_l_whole) : FnOk P w K mg base CX0 7 f fd ["_law_script"] (spF K d_law_k19.lent d_law_k19.params s_law_k19) :=
  fn_ok d_law_k19 F sc_law bf rfl rfl (by decide) fun cdv A outer s H E hr G => (sb_seq (ss_asg (i := 1) G (se_call c__law_hedge hr (by decide) (sm_cons (se_var (i := 0)) (sm_cons se_i sm_nil)))) (sb_seq (ss_asg (i := 2) G (se_call c__law_shuffled hr (by decide) (sm_cons (se_var (i := 1)) (sm_cons (se_var (i := 0)) (sm_cons (se_md (se_call c__law_cell hr (by decide) (sm_cons (se_var (i := 0)) (sm_cons se_i sm_nil))) se_i) sm_nil))))) (sb_seq (ss_asg (i := 3) G (se_call c__law_beside hr (by decide) (sm_cons (se_var (i := 1)) sm_nil))) (sb_seq (ss_asg (i := 4) G (se_comp G [("_law_knot", 5)] (si_rng1 G (se_ix G (se_var (i := 1)) se_i)) (fun _ _ _ _ _ => (sg_nm (i := 5) G.blk)) (fun _ _ _ _ _ => sts_yes) (fun _ _ _ _ _ => (se_call c__law_code hr (by decide) (sm_cons (se_var (i := 3)) (sm_cons (se_var (i := 5)) sm_nil)))))) (sb_seq (ss_asg (i := 6) G (se_lst sa_nil)) (sb_kill (sb_seq (ss_for G PassesOwn.never (si_rng1 G (se_ix G (se_var (i := 1)) se_i)) (sg_nm (i := 5) G) (sb_seq (ss_asgC (i := 7) G [("_law_k", 8)] (si_rng1 G (se_ix G (se_var (i := 1)) se_i)) (fun _ _ _ _ _ => (sg_nm (i := 8) G.blk)) (fun _ _ _ _ _ => (sts_one (st_pc (sc_eq G.blk (se_ix G.blk (se_var (i := 4)) (se_var (i := 8))) (se_ix G.blk (se_var (i := 4)) (se_var (i := 5))))))) (fun _ _ _ _ _ => (se_var (i := 8)))) (sb_seq (ss_ite (st_pc (sc_nmem G (se_var (i := 7)) (se_var (i := 6)))) (sb_seq (ss_app (i := 6) (se_var (i := 7))) sb_skip) sb_skip) (sb_kill sb_skip)))) (sb_seq (ss_asg (i := 9) G (se_call c_sorts hr (by decide) (sm_cons (se_call c__law_copy hr (by decide) (sm_cons (se_var (i := 1)) sm_nil)) sm_nil))) (sb_seq (ss_ite (st_w (sw_or (st_not (st_tru (se_isin G (se_var (i := 9)) (ty_lst G)))) (sw_one_or (st_pc (sc_ne G (se_var (i := 9)) (se_var (i := 6))))))) (sb_seq (ss_ret se_b) sb_skip) sb_skip) (sb_seq (ss_asg (i := 10) G (se_call c_turnings hr (by decide) (sm_cons (se_call c__law_copy hr (by decide) (sm_cons (se_var (i := 1)) sm_nil)) sm_nil))) (sb_seq (ss_ite (st_w (sw_or (st_not (st_tru (se_call c__law_whole hr (by decide) (sm_cons (se_var (i := 10)) sm_nil)))) (sw_or (st_pc (sc_lt (se_var (i := 10)) se_i)) (sw_one_or (st_pc (sc_ne G (se_var (i := 10)) (se_call c_turnings hr (by decide) (sm_cons (se_call c__law_copy hr (by decide) (sm_cons (se_var (i := 2)) sm_nil)) sm_nil)))))))) (sb_seq (ss_ret se_b) sb_skip) sb_skip) (sb_kill (sb_seq (ss_frz (ss_for G PassesOwn.never (si_lst (se_var (i := 6))) (sg_nm (i := 7) G) (sb_seq (ss_ite (st_pc (sc_ne G (se_md (se_var (i := 10)) (se_len G (se_var (i := 7)))) se_i)) (sb_seq (ss_ret se_b) sb_skip) sb_skip) (sb_kill sb_skip)))) (sb_seq (ss_ret (se_pc (sc_eq G (se_sorted G (se_comp G [("_law_row", 7)] (si_lst (se_call c_sorts hr (by decide) (sm_cons (se_call c__law_copy hr (by decide) (sm_cons (se_var (i := 2)) sm_nil)) sm_nil))) (fun _ _ _ _ _ => (sg_nm (i := 7) G.blk)) (fun _ _ _ _ _ => sts_yes) (fun _ _ _ _ _ => (se_len G.blk (se_var (i := 7)))))) (se_sorted G (se_comp G [("_law_row", 7)] (si_lst (se_var (i := 6))) (fun _ _ _ _ _ => (sg_nm (i := 7) G.blk)) (fun _ _ _ _ _ => sts_yes) (fun _ _ _ _ _ => (se_len G.blk (se_var (i := 7))))))))) sb_skip))))))))))))))
end
end HgW
end

section
set_option autoImplicit false
set_option maxHeartbeats 1000000
/-! Pl0: the evaluator by simp; loops and comprehensions by what holds of them. Plain Lean. -/
namespace Hg
theorem FU_eq : FU = 100000 := rfl
theorem L_eq : L = 100000 := rfl
theorem runF_eq {C : Nat → List D → Option D} {f : FDef} {ds : List D} {d : D} (h : ds.length = f.params) (he : exec C FU f.body (startEnv f ds) = some (.rt d)) : runF C f ds = some d := by
  unfold runF
  rw [if_pos h, he]
@[simp] theorem vm_frz (d : D) : vm (some (d, .frz)) = some d := rfl
@[simp] theorem vm_new1 (d : D) : vm (some (d, .new1)) = some d := rfl
@[simp] theorem vm_new2 (d : D) : vm (some (d, .new2)) = some d := rfl
@[simp] theorem vm_int (i : Int) (k : Kd) : vm (some (.int i, k)) = some (.int i) := by cases k <;> rfl
@[simp] theorem vm_bl (i : Bool) (k : Kd) : vm (some (.bl i, k)) = some (.bl i) := by cases k <;> rfl
@[simp] theorem vm_str (i : List Nat) (k : Kd) : vm (some (.str i, k)) = some (.str i) := by cases k <;> rfl
@[simp] theorem vm_non (k : Kd) : vm (some (.non, k)) = some .non := by cases k <;> rfl
@[simp] theorem vm_none : vm none = none := rfl
@[simp] theorem em_frz (d : D) : em (some (d, .frz)) = some d := rfl
@[simp] theorem em_new1 (d : D) : em (some (d, .new1)) = some d := rfl
@[simp] theorem em_new2 (d : D) : em (some (d, .new2)) = some d := rfl
@[simp] theorem em_own1 (d : D) : em (some (d, .own1)) = some d := rfl
@[simp] theorem em_int (i : Int) (k : Kd) : em (some (.int i, k)) = some (.int i) := by cases k <;> rfl
@[simp] theorem em_str (i : List Nat) (k : Kd) : em (some (.str i, k)) = some (.str i) := by cases k <;> rfl
@[simp] theorem em_none : em none = none := rfl
@[simp] theorem bm_some (d : D) (k : Kd) : bm (some (d, k)) = some d := rfl
@[simp] theorem bm_none : bm none = none := rfl
@[simp] theorem addD_int (i j : Int) : addD (.int i) (.int j) = some (.int (i + j)) := rfl
theorem addD_lst {x y : List D} (h : x.length + y.length ≤ L) : addD (.lst x) (.lst y) = some (.lst (x ++ y)) := if_pos h
theorem addD_str {x y : List Nat} (h : x.length + y.length ≤ L) : addD (.str x) (.str y) = some (.str (x ++ y)) := if_pos h
@[simp] theorem getIx_nat {α : Type} (xs : List α) (k : Nat) : getIx xs (k : Int) = xs[k]? := by
  unfold getIx ixN
  rw [if_pos (by omega)]
  by_cases h : k < xs.length
  · rw [if_pos (by omega)]; simp
  · rw [if_neg (by omega)]
    rw [List.getElem?_eq_none (by omega)]; rfl
@[simp] theorem getIx_zero {α : Type} (xs : List α) : getIx xs 0 = xs[0]? := getIx_nat xs 0
@[simp] theorem getIx_one {α : Type} (xs : List α) : getIx xs 1 = xs[1]? := getIx_nat xs 1
theorem getIx_toNat {α : Type} (xs : List α) {i : Int} (h : 0 ≤ i) : getIx xs i = xs[i.toNat]? := by
  obtain ⟨k, rfl⟩ := Int.eq_ofNat_of_zero_le h
  simp
theorem ixN_nat {n k : Nat} (h : k < n) : ixN n (k : Int) = some k := by
  unfold ixN
  rw [if_pos (by omega), if_pos (by omega)]; simp
theorem intsD_map (ns : List Int) : intsD (ns.map D.int) = some ns := by
  induction ns with
  | nil => rfl
  | cons n ns ih =>
    show (asInt (.int n)).bind (fun y => (intsD (ns.map D.int)).bind fun ys => some (y :: ys)) = _
    rw [ih]; rfl
theorem pairsD_map (ps : List (Int × Int)) : pairsD (ps.map pairD) = some ps := by
  induction ps with
  | nil => rfl
  | cons n ns ih =>
    show (asPair (pairD n)).bind (fun y => (pairsD (ns.map pairD)).bind fun ys => some (y :: ys)) = _
    rw [ih]; rfl
theorem sortD_ints (ns : List Int) : sortD (ns.map D.int) = some ((sortI ns).map D.int) := by
  unfold sortD
  rw [intsD_map]
theorem sortD_pairs (ps : List (Int × Int)) : sortD (ps.map pairD) = some ((sortP ps).map pairD) := by
  cases ps with
  | nil => simp [sortD, intsD, optAll, sortI, sortP]
  | cons p ps =>
    unfold sortD
    rw [pairsD_map]
    rfl
/-! ### comprehensions -/
theorem compL_map {α : Type} {f : D → Option (Option (D × Kd))} (toD : α → D) (p : α → Bool) (g : α → D × Kd) : ∀ (xs : List α), (∀ x ∈ xs, f (toD x) = some (if p x then some (g x) else none)) → compL f (xs.map toD) = some ((xs.filter p).map g)
  | [], _ => rfl
  | x :: xs, h => by
    have h1 := h x (List.mem_cons_self ..)
    have h2 := compL_map toD p g xs fun y hy => h y (List.mem_cons_of_mem _ hy)
    show (f (toD x)).bind (fun o => (compL f (xs.map toD)).bind fun r => some (match o with | some p => p :: r | none => r)) = _
    rw [h1, h2, List.filter_cons]
    cases p x <;> rfl
theorem optAll_map {α β γ : Type} {f : β → Option γ} (t : α → β) (g : α → γ) : ∀ (xs : List α), (∀ x ∈ xs, f (t x) = some (g x)) → optAll f (xs.map t) = some (xs.map g)
  | [], _ => rfl
  | x :: xs, h => by
    show (f (t x)).bind (fun y => (optAll f (xs.map t)).bind fun ys => some (y :: ys)) = _
    rw [h x (List.mem_cons_self ..), optAll_map t g xs fun y hy => h y (List.mem_cons_of_mem _ hy)]
    rfl
section
variable {C : Nat → List D → Option D} {elt : E} {tg : Tg} {it : It} {cond : T} {env : Env}
/-- [g x for x in xs if p x] -/
theorem ev_comp {α : Type} (xs : List α) (toD : α → D) (p : α → Bool) (g : α → D) {own : Bool} (hi : evI C it (unset tg.slots env) = some (xs.map toD, own))
    (hx : ∀ x ∈ xs, ∃ e1, bindT tg (toD x) (unset tg.slots env) = some e1 ∧ evT C cond e1 = some (p x) ∧ (p x = true → ∃ k, ev C elt e1 = some (g x, k) ∧ vm (some (g x, k)) = some (g x))) (hl : xs.length < L) :
    ev C (.comp false elt tg it cond) env = some (.lst ((xs.filter p).map g), .new1) := by
  have key : ∀ x ∈ xs, ∃ k, (p x = true → vm (some (g x, k)) = some (g x)) ∧ ((bindT tg (toD x) (unset tg.slots env)).bind fun e1 => (evT C cond e1).bind fun b => if b then (ev C elt e1).map some else some none) = some (if p x then some (g x, k) else none) := by
    intro x hx'
    obtain ⟨e1, h1, h2, h3⟩ := hx x hx'
    rw [h1]
    cases hp : p x with
    | false =>
      rw [hp] at h2
      exact ⟨.frz, (by intro z; cases z), by simp [h2]⟩
    | true =>
      obtain ⟨k, h4, h5⟩ := h3 hp
      rw [hp] at h2
      exact ⟨k, fun _ => h5, by simp [h2, h4]⟩
  have key2 : ∀ xs : List α, (∀ x ∈ xs, ∃ k, (p x = true → vm (some (g x, k)) = some (g x)) ∧ ((bindT tg (toD x) (unset tg.slots env)).bind fun e1 => (evT C cond e1).bind fun b => if b then (ev C elt e1).map some else some none) = some (if p x then some (g x, k) else none)) →
      ∃ ps, compL (fun d => (bindT tg d (unset tg.slots env)).bind fun e1 => (evT C cond e1).bind fun b => if b then (ev C elt e1).map some else some none) (xs.map toD) = some ps ∧ optAll keepD ps = some ((xs.filter p).map g) := by
    intro xs
    induction xs with
    | nil => intro _; exact ⟨[], rfl, rfl⟩
    | cons x xs ih =>
      intro h
      obtain ⟨ps, h1, h2⟩ := ih fun y hy => h y (List.mem_cons_of_mem _ hy)
      obtain ⟨k, h3, h4⟩ := h x (List.mem_cons_self ..)
      cases hp : p x with
      | false =>
        rw [hp] at h4
        refine ⟨ps, ?_, by rw [List.filter_cons, hp]; exact h2⟩
        simp only [List.map_cons, compL]
        rw [h4, h1]
        rfl
      | true =>
        rw [hp] at h4
        refine ⟨(g x, k) :: ps, ?_, ?_⟩
        · simp only [List.map_cons, compL]
          rw [h4, h1]
          rfl
        · rw [List.filter_cons, hp]
          show (keepD (g x, k)).bind (fun y => (optAll keepD ps).bind fun ys => some (y :: ys)) = _
          rw [h2, show keepD (g x, k) = some (g x) from h3 hp]
          rfl
  obtain ⟨ps, h1, h2⟩ := key2 xs key
  have hlen : ps.length ≤ xs.length := by
    have e : ∀ {qs : List (D × Kd)} {ds : List D}, optAll keepD qs = some ds → qs.length = ds.length := by
      intro qs
      induction qs with
      | nil => intro ds h; cases h; rfl
      | cons q qs ih =>
        intro ds h
        simp only [optAll, Option.bind_eq_some_iff] at h
        obtain ⟨y, _, zs, h2, h3⟩ := h
        cases h3
        rw [List.length_cons, List.length_cons, ih h2]
    rw [e h2, List.length_map]
    exact List.length_filter_le _ _
  show ((evI C it (unset tg.slots env)).bind fun xs => (compL (fun d => (bindT tg d (unset tg.slots env)).bind fun e1 => (evT C cond e1).bind fun p => if p then (ev C elt e1).map some else some none) xs.1).bind (compR false)) = _
  rw [hi]
  simp only [Option.bind_some]
  rw [h1]
  simp only [Option.bind_some]
  unfold compR
  rw [if_pos (by omega), if_neg (by decide), h2]
  rfl
theorem filter_yes {α : Type} (xs : List α) : xs.filter (fun _ => true) = xs := by simp
/-- [g x for x in xs] -/
theorem ev_compM {α : Type} (xs : List α) (toD : α → D) (g : α → D) {own : Bool} (hi : evI C it (unset tg.slots env) = some (xs.map toD, own))
    (hx : ∀ x ∈ xs, ∃ e1, bindT tg (toD x) (unset tg.slots env) = some e1 ∧ ∃ k, ev C elt e1 = some (g x, k) ∧ vm (some (g x, k)) = some (g x)) (hl : xs.length < L) :
    ev C (.comp false elt tg it .yes) env = some (.lst (xs.map g), .new1) := by
  have h := ev_comp (C := C) (elt := elt) (cond := .yes) xs toD (fun _ => true) g hi (fun x hx' => by
    obtain ⟨e1, h1, k, h2, h3⟩ := hx x hx'
    exact ⟨e1, h1, rfl, fun _ => ⟨k, h2, h3⟩⟩) hl
  rw [filter_yes] at h
  exact h
/-- [new row for x in xs], the rows one's own -/
theorem ev_compD {α : Type} (xs : List α) (toD : α → D) (g : α → D) {own : Bool} (hi : evI C it (unset tg.slots env) = some (xs.map toD, own))
    (hx : ∀ x ∈ xs, ∃ e1, bindT tg (toD x) (unset tg.slots env) = some e1 ∧ ev C elt e1 = some (g x, .new1)) (hl : xs.length < L) :
    ev C (.comp true elt tg it .yes) env = some (.lst (xs.map g), .new2) := by
  have h1 := compL_map (f := fun d => (bindT tg d (unset tg.slots env)).bind fun e1 => (evT C .yes e1).bind fun p => if p then (ev C elt e1).map some else some none) toD (fun _ => true) (fun x => (g x, Kd.new1)) xs (fun x hx' => by
    obtain ⟨e1, h1, h2⟩ := hx x hx'
    rw [h1]
    simp [evT, h2])
  show ((evI C it (unset tg.slots env)).bind fun xs => (compL (fun d => (bindT tg d (unset tg.slots env)).bind fun e1 => (evT C .yes e1).bind fun p => if p then (ev C elt e1).map some else some none) xs.1).bind (compR true)) = _
  rw [hi]
  simp only [Option.bind_some]
  rw [h1]
  simp only [Option.bind_some, filter_yes]
  unfold compR
  rw [if_pos (by rw [List.length_map]; exact hl), if_pos rfl, if_pos]
  · rw [List.map_map]; rfl
  · rw [List.all_map]
    exact List.all_eq_true.mpr fun x _ => rfl
end
theorem rngD_eq (n : Nat) : rngD 0 n = (List.range n).map fun i => D.int (i : Nat) := by
  unfold rngD
  congr 1
  funext i
  rw [Int.zero_add]
theorem rngD1_eq (n : Nat) : rngD 1 n = (List.range n).map fun i => D.int ((i + 1 : Nat) : Int) := by
  unfold rngD
  congr 1
  funext i
  congr 1
  omega
/-! ### loops -/
/-- a for by what holds between two turns -/
theorem loopF_inv {α β : Type} {f : D → Env → Option Out} (toD : α → D) (enc : β → Env) (Inv : List α → β → Prop) (xs : List α) (b0 : β) (h0 : Inv [] b0)
    (hs : ∀ pre x post b, xs = pre ++ x :: post → Inv pre b → ∃ b', f (toD x) (enc b) = some (.nx (enc b')) ∧ Inv (pre ++ [x]) b') : ∃ b, loopF f (xs.map toD) (enc b0) = some (.nx (enc b)) ∧ Inv xs b := by
  have key : ∀ (post pre : List α) (b : β), xs = pre ++ post → Inv pre b → ∃ b', loopF f (post.map toD) (enc b) = some (.nx (enc b')) ∧ Inv xs b' := by
    intro post
    induction post with
    | nil => intro pre b e h; exact ⟨b, rfl, by rw [e, List.append_nil]; exact h⟩
    | cons x post ih =>
      intro pre b e h
      obtain ⟨b', h1, h2⟩ := hs pre x post b e h
      obtain ⟨b2, h3, h4⟩ := ih (pre ++ [x]) b' (by rw [e]; simp) h2
      refine ⟨b2, ?_, h4⟩
      show andThen (f (toD x) (enc b)) (loopF f (post.map toD)) = _
      rw [h1]
      exact h3
  exact key xs [] b0 rfl h0
/-- a for as a fold -/
theorem loopF_fold {α β : Type} {f : D → Env → Option Out} (toD : α → D) (enc : β → Env) (step : β → α → β) (xs : List α) (b0 : β)
    (hs : ∀ pre x post, xs = pre ++ x :: post → f (toD x) (enc (pre.foldl step b0)) = some (.nx (enc ((pre ++ [x]).foldl step b0)))) : loopF f (xs.map toD) (enc b0) = some (.nx (enc (xs.foldl step b0))) := by
  obtain ⟨b, h1, h2⟩ := loopF_inv toD enc (fun pre b => b = pre.foldl step b0) xs b0 rfl fun pre x post b e h => ⟨_, by rw [h]; exact hs pre x post e, rfl⟩
  rw [h1, h2]
/-- a while by what holds and a number that falls -/
theorem loopW_inv {β : Type} {t : Env → Option Bool} {f : Env → Option Out} (enc : β → Env) (Inv : β → Prop) (μ : β → Nat) (Done : β → Prop)
    (hs : ∀ b, Inv b → (t (enc b) = some true ∧ ∃ b', f (enc b) = some (.nx (enc b')) ∧ Inv b' ∧ μ b' < μ b) ∨ (t (enc b) = some false ∧ Done b)) : ∀ (n : Nat) (b : β), Inv b → μ b < n → ∃ b', loopW t f n (enc b) = some (.nx (enc b')) ∧ Inv b' ∧ Done b'
  | 0, b, _, h => absurd h (by omega)
  | n + 1, b, hi, h => by
    rcases hs b hi with ⟨h1, b', h2, h3, h4⟩ | ⟨h1, h2⟩
    · obtain ⟨b2, h5, h6, h7⟩ := loopW_inv enc Inv μ Done hs n b' h3 (by omega)
      refine ⟨b2, ?_, h6, h7⟩
      show ((t (enc b)).bind fun p => if p then andThen (f (enc b)) (loopW t f n) else some (.nx (enc b))) = _
      rw [h1]
      simp only [Option.bind_some, if_true]
      rw [h2]
      exact h5
    · refine ⟨b, ?_, hi, h2⟩
      show ((t (enc b)).bind fun p => if p then andThen (f (enc b)) (loopW t f n) else some (.nx (enc b))) = _
      rw [h1]
      rfl
end Hg
end

section
set_option autoImplicit false
/-! Eq: the evaluator's equations for simp; printed by mkeq.py. -/
namespace Hg
section
variable (C : Nat → List D → Option D)
@[simp] theorem q_ev_var {i} {env : Env} : ev C (.var i) env = match env[i]? with | some (.val d k) => some (d, k) | _ => none := by simp only [ev] <;> rfl
@[simp] theorem q_ev_c {d} {env : Env} : ev C (.c d) env = if d.atom then some (d, .frz) else none := by simp only [ev] <;> rfl
@[simp] theorem q_ev_add {a b} {env : Env} : ev C (.add a b) env = nw ((em (ev C a env)).bind fun x => (em (ev C b env)).bind fun y => addD x y) := by simp only [ev] <;> rfl
@[simp] theorem q_ev_sub {a b} {env : Env} : ev C (.sub a b) env = (bm (ev C a env)).bind fun x => (bm (ev C b env)).bind fun y => frI ((asInt x).bind fun i => (asInt y).map fun j => i - j) := by simp only [ev] <;> rfl
@[simp] theorem q_ev_mulS {a b} {env : Env} : ev C (.mulS a b) env = nw ((em (ev C a env)).bind fun x => (em (ev C b env)).bind fun y => mulD x y) := by simp only [ev] <;> rfl
@[simp] theorem q_ev_md {a b} {env : Env} : ev C (.md a b) env = (bm (ev C a env)).bind fun x => (bm (ev C b env)).bind fun y => frI ((asInt x).bind fun i => (asInt y).bind fun j => if 0 < j then some (i % j) else none) := by simp only [ev] <;> rfl
@[simp] theorem q_ev_fd {a b} {env : Env} : ev C (.fd a b) env = (bm (ev C a env)).bind fun x => (bm (ev C b env)).bind fun y => frI ((asInt x).bind fun i => (asInt y).bind fun j => if 0 < j ∧ j < 1073741824 then some (i / j) else none) := by simp only [ev] <;> rfl
@[simp] theorem q_ev_pow {a b} {env : Env} : ev C (.pow a b) env = (bm (ev C a env)).bind fun x => (bm (ev C b env)).bind fun y => frI ((asInt x).bind fun i => (asInt y).bind fun j => if 0 ≤ j ∧ j ≤ 1000 ∧ i.natAbs < 1000 then some (i ^ j.toNat) else none) := by simp only [ev] <;> rfl
@[simp] theorem q_ev_neg {a} {env : Env} : ev C (.neg a) env = frI ((bm (ev C a env)).bind fun x => (asInt x).map fun i => -i) := by simp only [ev] <;> rfl
@[simp] theorem q_ev_lt {a b} {env : Env} : ev C (.lt a b) env = (bm (ev C a env)).bind fun x => (bm (ev C b env)).bind fun y => frB (ltA x y) := by simp only [ev] <;> rfl
@[simp] theorem q_ev_le {a b} {env : Env} : ev C (.le a b) env = (bm (ev C a env)).bind fun x => (bm (ev C b env)).bind fun y => frB ((ltA y x).map fun r => !r) := by simp only [ev] <;> rfl
@[simp] theorem q_ev_gt {a b} {env : Env} : ev C (.gt a b) env = (bm (ev C a env)).bind fun x => (bm (ev C b env)).bind fun y => frB (ltA y x) := by simp only [ev] <;> rfl
@[simp] theorem q_ev_ge {a b} {env : Env} : ev C (.ge a b) env = (bm (ev C a env)).bind fun x => (bm (ev C b env)).bind fun y => frB ((ltA x y).map fun r => !r) := by simp only [ev] <;> rfl
@[simp] theorem q_ev_ltL {a b} {env : Env} : ev C (.ltL a b) env = (bm (ev C a env)).bind fun x => (bm (ev C b env)).bind fun y => frB (ltD x y) := by simp only [ev] <;> rfl
@[simp] theorem q_ev_leL {a b} {env : Env} : ev C (.leL a b) env = (bm (ev C a env)).bind fun x => (bm (ev C b env)).bind fun y => frB ((ltD y x).map fun r => !r) := by simp only [ev] <;> rfl
@[simp] theorem q_ev_gtL {a b} {env : Env} : ev C (.gtL a b) env = (bm (ev C a env)).bind fun x => (bm (ev C b env)).bind fun y => frB (ltD y x) := by simp only [ev] <;> rfl
@[simp] theorem q_ev_geL {a b} {env : Env} : ev C (.geL a b) env = (bm (ev C a env)).bind fun x => (bm (ev C b env)).bind fun y => frB ((ltD x y).map fun r => !r) := by simp only [ev] <;> rfl
@[simp] theorem q_ev_eq {a b} {env : Env} : ev C (.eq a b) env = (bm (ev C a env)).bind fun x => (bm (ev C b env)).bind fun y => if plainD PD x ∧ plainD PD y then some (.bl (eqD x y), .frz) else none := by simp only [ev] <;> rfl
@[simp] theorem q_ev_ne {a b} {env : Env} : ev C (.ne a b) env = (bm (ev C a env)).bind fun x => (bm (ev C b env)).bind fun y => if plainD PD x ∧ plainD PD y then some (.bl (!eqD x y), .frz) else none := by simp only [ev] <;> rfl
@[simp] theorem q_ev_isN {a} {env : Env} : ev C (.isN a) env = (bm (ev C a env)).bind fun x => some (.bl x.isNon, .frz) := by simp only [ev] <;> rfl
@[simp] theorem q_ev_notN {a} {env : Env} : ev C (.notN a) env = (bm (ev C a env)).bind fun x => some (.bl (!x.isNon), .frz) := by simp only [ev] <;> rfl
@[simp] theorem q_ev_mem {a b} {env : Env} : ev C (.mem a b) env = (bm (ev C a env)).bind fun x => (bm (ev C b env)).bind fun y => frB (memD x y) := by simp only [ev] <;> rfl
@[simp] theorem q_ev_nmem {a b} {env : Env} : ev C (.nmem a b) env = (bm (ev C a env)).bind fun x => (bm (ev C b env)).bind fun y => frB ((memD x y).map fun r => !r) := by simp only [ev] <;> rfl
@[simp] theorem q_ev_ch {o1 o2 a b c} {env : Env} : ev C (.ch o1 o2 a b c) env = (bm (ev C a env)).bind fun x => (bm (ev C b env)).bind fun y => (asInt x).bind fun i => (asInt y).bind fun j =>
   if coB o1 i j then (bm (ev C c env)).bind fun z => (asInt z).bind fun k => some (.bl (coB o2 j k), .frz) else some (.bl false, .frz) := by simp only [ev] <;> rfl
@[simp] theorem q_ev_and_ {a b} {env : Env} : ev C (.and_ a b) env = (bm (ev C a env)).bind fun x => (asBl x).bind fun p => if p then ((bm (ev C b env)).bind fun y => (asBl y).bind fun q => some (.bl q, .frz)) else some (.bl false, .frz) := by simp only [ev] <;> rfl
@[simp] theorem q_ev_or_ {a b} {env : Env} : ev C (.or_ a b) env = (bm (ev C a env)).bind fun x => (asBl x).bind fun p => if p then some (.bl true, .frz) else ((bm (ev C b env)).bind fun y => (asBl y).bind fun q => some (.bl q, .frz)) := by simp only [ev] <;> rfl
@[simp] theorem q_ev_one {a} {env : Env} : ev C (.one a) env = ev C a env := by simp only [ev] <;> rfl
@[simp] theorem q_ev_not_ {a} {env : Env} : ev C (.not_ a) env = (bm (ev C a env)).bind fun x => (asBl x).bind fun p => some (.bl (!p), .frz) := by simp only [ev] <;> rfl
@[simp] theorem q_ev_ite {t a b} {env : Env} : ev C (.ite t a b) env = (evT C t env).bind fun p => if p then fr (vm (ev C a env)) else fr (vm (ev C b env)) := by simp only [ev] <;> rfl
@[simp] theorem q_ev_tup {es} {env : Env} : ev C (.tup es) env = (evs C es env).bind fun ds => if ds.length ≤ L then some (.tup ds, .frz) else none := by simp only [ev] <;> rfl
@[simp] theorem q_ev_lst {es} {env : Env} : ev C (.lst es) env = (evs C es env).bind fun ds => if ds.length ≤ L then some (.lst ds, .new1) else none := by simp only [ev] <;> rfl
@[simp] theorem q_ev_dic0 {env : Env} : ev C (.dic0) env = some (.dic [], .new1) := by simp only [ev] <;> rfl
@[simp] theorem q_ev_dic2 {ks vs} {env : Env} : ev C (.dic2 ks vs) env = (evs C ks env).bind fun ds => (evs C vs env).bind fun es => (optAll keyD ds).bind fun kk => if kk.length = es.length ∧ kk.length ≤ 8 then some (.dic (mergeKy [] (kk.zip es)), .new1) else none := by simp only [ev] <;> rfl
@[simp] theorem q_ev_call {f mask es} {env : Env} : ev C (.call f mask es) env = (evm C mask es env).bind fun ds => fr (C f ds) := by simp only [ev] <;> rfl
@[simp] theorem q_ev_len {a} {env : Env} : ev C (.len a) env = frI ((bm (ev C a env)).bind lenL) := by simp only [ev] <;> rfl
@[simp] theorem q_ev_max2 {a b} {env : Env} : ev C (.max2 a b) env = (bm (ev C a env)).bind fun x => (bm (ev C b env)).bind fun y => frI ((asInt x).bind fun i => (asInt y).map fun j => max i j) := by simp only [ev] <;> rfl
@[simp] theorem q_ev_min2 {a b} {env : Env} : ev C (.min2 a b) env = (bm (ev C a env)).bind fun x => (bm (ev C b env)).bind fun y => frI ((asInt x).bind fun i => (asInt y).map fun j => min i j) := by simp only [ev] <;> rfl
@[simp] theorem q_ev_sortedD {a} {env : Env} : ev C (.sortedD a) env = (bm (ev C a env)).bind fun x => match x with
   | .dic kvs => if kvs.length < 64 then (intsD (kvs.map fun kv => kyD kv.1)).map fun ns => (.lst ((sortI ns).map D.int), .new1) else none
   | _ => none := by simp only [ev] <;> rfl
@[simp] theorem q_ev_sortedK0 {a} {env : Env} : ev C (.sortedK0 a) env = (bm (ev C a env)).bind fun x => match x with
   | .dic kvs => if kvs.length < L then (strsD (kvs.map fun kv => kyD kv.1)).map fun ss => (.lst ((sortS ss).map D.str), .new1) else none
   | _ => none := by simp only [ev] <;> rfl
@[simp] theorem q_ev_sortedR {a} {env : Env} : ev C (.sortedR a) env = (bm (ev C a env)).bind fun x => match x with | .lst xs => if xs.length < L then (strsD xs).map fun ss => (.lst ((sortS ss).reverse.map D.str), .new1) else none | _ => none := by simp only [ev] <;> rfl
@[simp] theorem q_ev_sortedK {a i} {env : Env} : ev C (.sortedK a i) env = (bm (ev C a env)).bind fun x => match x, env[i]? with
   | .lst xs, some (.val (.lst cs) k) => if xs.length < L then (intsD xs).bind fun ns => (strsD cs).bind fun ss =>
     if ns.all (fun n => decide (0 ≤ n ∧ n < ss.length)) then some (.lst ((ns.mergeSort fun a b => !lexS (ss.getD a.toNat []) (ss.getD b.toNat [])).map D.int), .new1) else none else none
   | _, _ => none := by simp only [ev] <;> rfl
@[simp] theorem q_ev_listRng {a} {env : Env} : ev C (.listRng a) env = (bm (ev C a env)).bind fun x => (asInt x).bind fun n => if 0 ≤ n ∧ n ≤ 1000 then some (.lst (rngD 0 n.toNat), .new1) else none := by simp only [ev] <;> rfl
@[simp] theorem q_ev_listRev {a} {env : Env} : ev C (.listRev a) env = (em (ev C a env)).bind fun x => match x with | .lst xs => some (.lst xs.reverse, .new1) | _ => none := by simp only [ev] <;> rfl
@[simp] theorem q_ev_listVals {a} {env : Env} : ev C (.listVals a) env = (em (ev C a env)).bind fun x => match x with | .dic kvs => some (.lst (kvs.map (·.2)), .new1) | _ => none := by simp only [ev] <;> rfl
@[simp] theorem q_ev_listKeys {a} {env : Env} : ev C (.listKeys a) env = (bm (ev C a env)).bind fun x => match x with | .dic kvs => some (.lst (kvs.map fun kv => kyD kv.1), .new1) | _ => none := by simp only [ev] <;> rfl
@[simp] theorem q_ev_tuple {a} {env : Env} : ev C (.tuple a) env = (em (ev C a env)).bind fun x => match x with | .lst xs => some (.tup xs, .frz) | .tup xs => some (.tup xs, .frz) | _ => none := by simp only [ev] <;> rfl
@[simp] theorem q_ev_dictP {a} {env : Env} : ev C (.dictP a) env = (em (ev C a env)).bind fun x => match x with
   | .lst xs => (optAll (fun d => match d with | .tup [k, v] => (keyD k).map fun k => (k, v) | _ => none) xs).bind fun kvs => if kvs.length < L then some (.dic (mergeKy [] kvs), .new1) else none
   | _ => none := by simp only [ev] <;> rfl
@[simp] theorem q_ev_strI {a} {env : Env} : ev C (.strI a) env = (bm (ev C a env)).bind fun x => (asInt x).bind fun i => if 0 ≤ i ∧ i < 1000 then some (.str (strOf i), .frz) else none := by simp only [ev] <;> rfl
@[simp] theorem q_ev_intE {a} {env : Env} : ev C (.intE a) env = (bm (ev C a env)).bind fun x => match x with | .bl b => some (.int (if b then 1 else 0), .frz) | _ => none := by simp only [ev] <;> rfl
@[simp] theorem q_ev_isin {a t} {env : Env} : ev C (.isin a t) env = (bm (ev C a env)).bind fun x => some (.bl (isTy x t), .frz) := by simp only [ev] <;> rfl
@[simp] theorem q_ev_intT {a} {env : Env} : ev C (.intT a) env = (bm (ev C a env)).bind fun x => match x with | .str s => frI (intOf s) | _ => none := by simp only [ev] <;> rfl
@[simp] theorem q_ev_lenset {a} {env : Env} : ev C (.lenset a) env = (bm (ev C a env)).bind fun x => match x with | .lst xs => if xs.length ≤ 1000 then frI ((intsD xs).bind fun ns => if ns.Nodup then some (ns.length : Int) else none) else none | _ => none := by simp only [ev] <;> rfl
@[simp] theorem q_ev_sortset {a} {env : Env} : ev C (.sortset a) env = (bm (ev C a env)).bind fun x => match x with | .lst xs => if xs.length < 64 then (intsD xs).map fun ns => (.lst ((sortI (once ns)).map D.int), .new1) else none | _ => none := by simp only [ev] <;> rfl
@[simp] theorem q_ev_join {s a} {env : Env} : ev C (.join s a) env = (bm (ev C s env)).bind fun x => (bm (ev C a env)).bind fun y => match x, y with
   | .str z, .lst xs => (strsD xs).bind fun ss => if (ss.map List.length).sum + ss.length * z.length ≤ L then some (.str (glue z ss), .frz) else none
   | _, _ => none := by simp only [ev] <;> rfl
@[simp] theorem q_ev_split {a z} {env : Env} : ev C (.split a z) env = (bm (ev C a env)).bind fun x => (bm (ev C z env)).bind fun y => match x, y with
   | .str t, .str [c] => if t.length + 2 ≤ L ∧ c < 128 then some (.lst ((splitC c [] t).map D.str), .new1) else none
   | _, _ => none := by simp only [ev] <;> rfl
@[simp] theorem q_ev_find {x0 x1 x2} {env : Env} : ev C (.find x0 x1 x2) env = none := by simp only [ev] <;> rfl
@[simp] theorem q_ev_get {a k x} {env : Env} : ev C (.get a k x) env = (em (ev C a env)).bind fun y => (bm (ev C k env)).bind fun q => (vm (ev C x env)).bind fun z => match y with | .dic kvs => (keyD q).map fun kk => ((look kvs kk).getD z, .frz) | _ => none := by simp only [ev] <;> rfl
@[simp] theorem q_evs_nil {env : Env} : evs C (.nil) env = some [] := by simp only [evs] <;> rfl
@[simp] theorem q_evs_cons {e r} {env : Env} : evs C (.cons e r) env = (vm (ev C e env)).bind fun d => (evs C r env).bind fun ds => some (d :: ds) := by simp only [evs] <;> rfl
@[simp] theorem q_evO_no {env : Env} : evO C (.no) env = some none := by simp only [evO] <;> rfl
@[simp] theorem q_evO_so {e} {env : Env} : evO C (.so e) env = (bm (ev C e env)).bind fun x => (asInt x).map some := by simp only [evO] <;> rfl
@[simp] theorem q_evT_yes {env : Env} : evT C (.yes) env = some true := by simp only [evT] <;> rfl
@[simp] theorem q_evT_val {e} {env : Env} : evT C (.val e) env = (bm (ev C e env)).bind asBl := by simp only [evT] <;> rfl
@[simp] theorem q_evT_tru {e} {env : Env} : evT C (.tru e) env = (bm (ev C e env)).bind truL := by simp only [evT] <;> rfl
@[simp] theorem q_evT_and_ {a b} {env : Env} : evT C (.and_ a b) env = (evT C a env).bind fun p => if p then evT C b env else some false := by simp only [evT] <;> rfl
@[simp] theorem q_evT_or_ {a b} {env : Env} : evT C (.or_ a b) env = (evT C a env).bind fun p => if p then some true else evT C b env := by simp only [evT] <;> rfl
@[simp] theorem q_evT_one {a} {env : Env} : evT C (.one a) env = evT C a env := by simp only [evT] <;> rfl
@[simp] theorem q_evT_not_ {a} {env : Env} : evT C (.not_ a) env = (evT C a env).map fun p => !p := by simp only [evT] <;> rfl
@[simp] theorem q_evI_rng1 {a} {env : Env} : evI C (.rng1 a) env = (bm (ev C a env)).bind fun x => (asInt x).bind fun n => if -1000000 ≤ n ∧ n ≤ 1000000 then some (rngD 0 n.toNat, false) else none := by simp only [evI] <;> rfl
@[simp] theorem q_evI_rng2 {a b} {env : Env} : evI C (.rng2 a b) env = (bm (ev C a env)).bind fun x => (bm (ev C b env)).bind fun y => (asInt x).bind fun m => (asInt y).bind fun n =>
   if -1000000 ≤ m ∧ m ≤ 1000000 ∧ -1000000 ≤ n ∧ n ≤ 1000000 then some (rngD m (n - m).toNat, false) else none := by simp only [evI] <;> rfl
@[simp] theorem q_evI_zip {a b} {env : Env} : evI C (.zip a b) env = (ev C a env).bind fun p => (ev C b env).bind fun q => match p.1, q.1 with
   | .lst xs, .lst ys => if p.2 = .frz ∧ q.2 = .frz then some (zipD xs ys, false) else none
   | _, _ => none := by simp only [evI] <;> rfl
@[simp] theorem q_evI_cst {xs} {env : Env} : evI C (.cst xs) env = some (xs, true) := by simp only [evI] <;> rfl
@[simp] theorem q_evI_items {e} {env : Env} : evI C (.items e) env = (ev C e env).bind fun p => match p.1 with
   | .dic kvs => if p.2 = .own1 then some (kvs.map fun kv => .tup [kyD kv.1, kv.2], true) else none
   | _ => none := by simp only [evI] <;> rfl
@[simp] theorem q_exec_skip (fuel : Nat) {env : Env} : exec C fuel (.skip) env = some (.nx env) := by simp only [exec] <;> rfl
@[simp] theorem q_exec_seq (fuel : Nat) {a b} {env : Env} : exec C fuel (.seq a b) env = andThen (exec C fuel a env) (exec C fuel b) := by simp only [exec] <;> rfl
@[simp] theorem q_exec_asg (fuel : Nat) {i m e} {env : Env} : exec C fuel (.asg i m e) env = (ev C e env).bind fun p => (vm (some p)).bind fun d => some (.nx (env.set i (.val d (slotK m p.2)))) := by simp only [exec] <;> rfl
@[simp] theorem q_exec_asgT (fuel : Nat) {is e} {env : Env} : exec C fuel (.asgT is e) env = (vm (ev C e env)).bind fun d => (bindT (.tp is) d env).map .nx := by simp only [exec] <;> rfl
@[simp] theorem q_exec_asgIx (fuel : Nat) {i e1 e2} {env : Env} : exec C fuel (.asgIx i e1 e2) env = (vm (ev C e2 env)).bind fun v => (bm (ev C e1 env)).bind fun x => match env[i]? with
   | some (.val (.lst xs) .own1) => (asInt x).bind fun j => (ixN xs.length j).map fun n => .nx (env.set i (.val (.lst (xs.set n v)) .own1))
   | some (.val (.dic kvs) .own1) => (keyD x).bind fun k => if kvs.length < L then some (.nx (env.set i (.val (.dic (put kvs k v)) .own1))) else none
   | _ => none := by simp only [exec] <;> rfl
@[simp] theorem q_exec_app (fuel : Nat) {i e} {env : Env} : exec C fuel (.app i e) env = (vm (ev C e env)).bind fun v => match env[i]? with
   | some (.val (.lst xs) .own1) => if xs.length < L then some (.nx (env.set i (.val (.lst (xs ++ [v])) .own1))) else none
   | _ => none := by simp only [exec] <;> rfl
@[simp] theorem q_exec_appIx (fuel : Nat) {i e1 e2} {env : Env} : exec C fuel (.appIx i e1 e2) env = (bm (ev C e1 env)).bind fun x => (vm (ev C e2 env)).bind fun v => match env[i]? with
   | some (.val (.lst xs) .own2) => (asInt x).bind fun j => (ixN xs.length j).bind fun n => match xs[n]? with
     | some (.lst ys) => if ys.length < L then some (.nx (env.set i (.val (.lst (xs.set n (.lst (ys ++ [v])))) .own2))) else none
     | _ => none
   | _ => none := by simp only [exec] <;> rfl
@[simp] theorem q_exec_ext (fuel : Nat) {i e} {env : Env} : exec C fuel (.ext i e) env = (ev C e env).bind fun p => match env[i]?, p with
   | some (.val (.lst xs) .own1), (.lst ys, .new1) => if xs.length + ys.length < L then some (.nx (env.set i (.val (.lst (xs ++ ys)) .own1))) else none
   | _, _ => none := by simp only [exec] <;> rfl
@[simp] theorem q_exec_pop (fuel : Nat) {tg y at0} {env : Env} : exec C fuel (.pop tg y at0) env = match env[y]? with
   | some (.val (.lst xs) .own1) => ((if at0 then xs[0]? else xs[xs.length - 1]?)).bind fun d =>
     (match tg with | none => some (env.set y (.val (.lst (if at0 then xs.tail else xs.dropLast)) .own1)) | some t => bindT t d (env.set y (.val (.lst (if at0 then xs.tail else xs.dropLast)) .own1))).map .nx
   | _ => none := by simp only [exec] <;> rfl
@[simp] theorem q_exec_dpop (fuel : Nat) {y e k} {env : Env} : exec C fuel (.dpop y e k) env = (bm (ev C e env)).bind fun x => (bm (ev C k env)).bind fun z => match env[y]? with
   | some (.val (.lst xs) .own2) => (asInt x).bind fun j => (ixN xs.length j).bind fun n => match xs[n]? with
     | some (.dic kvs) => (keyD z).bind fun kk => if (look kvs kk).isSome then some (.nx (env.set y (.val (.lst (xs.set n (.dic (dropKy kvs kk)))) .own2))) else none
     | _ => none
   | _ => none := by simp only [exec] <;> rfl
@[simp] theorem q_exec_rem (fuel : Nat) {y e} {env : Env} : exec C fuel (.rem y e) env = (bm (ev C e env)).bind fun x => match env[y]? with
   | some (.val (.lst xs) .own1) => (asInt x).bind fun j => (intsD xs).bind fun ns => if j ∈ ns then some (.nx (env.set y (.val (.lst ((ns.erase j).map D.int)) .own1))) else none
   | _ => none := by simp only [exec] <;> rfl
@[simp] theorem q_exec_setdef (fuel : Nat) {y k v} {env : Env} : exec C fuel (.setdef y k v) env = (bm (ev C k env)).bind fun x => (vm (ev C v env)).bind fun z => match env[y]? with
   | some (.val (.dic kvs) .own1) => (keyD x).bind fun kk => if kvs.length < L then some (.nx (env.set y (.val (.dic (if (look kvs kk).isSome then kvs else kvs ++ [(kk, z)])) .own1))) else none
   | _ => none := by simp only [exec] <;> rfl
@[simp] theorem q_exec_setdefApp (fuel : Nat) {y k e} {env : Env} : exec C fuel (.setdefApp y k e) env = (bm (ev C k env)).bind fun x => (vm (ev C e env)).bind fun v => match env[y]? with
   | some (.val (.dic kvs) .own2) => (keyD x).bind fun kk => if kvs.length < L then (growD kvs kk v).map fun kvs' => .nx (env.set y (.val (.dic kvs') .own2)) else none
   | _ => none := by simp only [exec] <;> rfl
@[simp] theorem q_exec_newD (fuel : Nat) {y} {env : Env} : exec C fuel (.newD y) env = some (.nx (env.set y (.val (.dic []) .own2))) := by simp only [exec] <;> rfl
@[simp] theorem q_exec_retV (fuel : Nat) {y} {env : Env} : exec C fuel (.retV y) env = match env[y]? with
   | some (.val (.dic kvs) .own1) => some (.rt (.lst (kvs.map (·.2))))
   | some (.val (.dic kvs) .own2) => some (.rt (.lst (kvs.map (·.2))))
   | _ => none := by simp only [exec] <;> rfl
@[simp] theorem q_exec_ret (fuel : Nat) {e} {env : Env} : exec C fuel (.ret e) env = (vm (ev C e env)).map .rt := by simp only [exec] <;> rfl
@[simp] theorem q_exec_ite (fuel : Nat) {t a b} {env : Env} : exec C fuel (.ite t a b) env = (evT C t env).bind fun p => if p then exec C fuel a env else exec C fuel b env := by simp only [exec] <;> rfl
@[simp] theorem q_exec_drop (fuel : Nat) {e} {env : Env} : exec C fuel (.drop e) env = (ev C e env).map fun _ => .nx env := by simp only [exec] <;> rfl
@[simp] theorem q_exec_frz (fuel : Nat) {is} {env : Env} : exec C fuel (.frz is) env = some (.nx (freeze is env)) := by simp only [exec] <;> rfl
@[simp] theorem q_exec_kill (fuel : Nat) {is} {env : Env} : exec C fuel (.kill is) env = some (.nx (unset is env)) := by simp only [exec] <;> rfl
@[simp] theorem q_exec_never (fuel : Nat) {env : Env} : exec C fuel (.never) env = none := by simp only [exec] <;> rfl
@[simp] theorem q_exec_tryN (fuel : Nat) {s} {env : Env} : exec C fuel (.tryN s) env = exec C fuel s env := by simp only [exec] <;> rfl
end
section
variable (C : Nat → List D → Option D)
def ixV (p : D × Kd) (y : D) : Option (D × Kd) := match p.1 with
  | .lst xs => (asInt y).bind fun i => (getIx xs i).map fun d => (d, subK p.2)
  | .tup xs => (asInt y).bind fun i => (getIx xs i).map fun d => (d, subK p.2)
  | .dic kvs => (keyD y).bind fun k => (look kvs k).map fun d => (d, subK p.2)
  | .str s => (asInt y).bind fun i => if s.length ≤ L then (getIx s i).map fun d => (.str [d], .frz) else none
  | _ => none
@[simp] theorem q_ev_ix (a b : E) (env : Env) : ev C (.ix a b) env = (ev C a env).bind fun p => (bm (ev C b env)).bind (ixV p) := by simp only [ev]; rfl
@[simp] theorem ixV_l (xs : List D) (k : Kd) (i : Int) : ixV (.lst xs, k) (.int i) = (getIx xs i).map fun d => (d, subK k) := rfl
@[simp] theorem ixV_t (xs : List D) (k : Kd) (i : Int) : ixV (.tup xs, k) (.int i) = (getIx xs i).map fun d => (d, subK k) := rfl
@[simp] theorem ixV_di (xs : List (Ky × D)) (k : Kd) (i : Int) : ixV (.dic xs, k) (.int i) = (look xs (.inl i)).map fun d => (d, subK k) := rfl
@[simp] theorem ixV_ds (xs : List (Ky × D)) (k : Kd) (i : List Nat) : ixV (.dic xs, k) (.str i) = (look xs (.inr i)).map fun d => (d, subK k) := rfl
theorem ixV_s (xs : List Nat) (k : Kd) (i : Int) (h : xs.length ≤ L) : ixV (.str xs, k) (.int i) = (getIx xs i).map fun d => (.str [d], .frz) := if_pos h
def slV (x : D) (l h : Option Int) : Option (D × Kd) := match x with
  | .lst xs => some (.lst (cut xs l h), .new1)
  | .str s => if s.length ≤ L then some (.str (cut s l h), .frz) else none
  | _ => none
@[simp] theorem q_ev_sl (a : E) (lo hi : O) (env : Env) : ev C (.sl a lo hi) env = (em (ev C a env)).bind fun x => (evO C lo env).bind fun l => (evO C hi env).bind fun h => slV x l h := by simp only [ev]; rfl
@[simp] theorem slV_l (xs : List D) (l h : Option Int) : slV (.lst xs) l h = some (.lst (cut xs l h), .new1) := rfl
theorem slV_s (s : List Nat) (l h : Option Int) (hs : s.length ≤ L) : slV (.str s) l h = some (.str (cut s l h), .frz) := if_pos hs
def idxV (x y : D) : Option (D × Kd) := match x with
  | .lst xs => match intsD xs, asInt y with
    | some ns, some n => if xs.length ≤ 1000 ∧ n ∈ ns then some (.int (ns.idxOf n : Nat), .frz) else none
    | _, _ => match pairsD xs, asPair y with
      | some ps, some q => if xs.length ≤ 1000 ∧ q ∈ ps then some (.int (ps.idxOf q : Nat), .frz) else none
      | _, _ => none
  | _ => none
@[simp] theorem q_ev_index (a b : E) (env : Env) : ev C (.index a b) env = (bm (ev C a env)).bind fun x => (bm (ev C b env)).bind fun y => idxV x y := by simp only [ev]; rfl
def sumV : D → Option (D × Kd) | .lst xs => frI ((intsD xs).map fun ns => ns.sum) | _ => none
@[simp] theorem q_ev_sum (a : E) (env : Env) : ev C (.sum a) env = (bm (ev C a env)).bind sumV := by simp only [ev]; rfl
def maxV : D → Option (D × Kd) | .lst xs => frI ((intsD xs).bind maxL) | _ => none
@[simp] theorem q_ev_max1 (a : E) (env : Env) : ev C (.max1 a) env = (bm (ev C a env)).bind maxV := by simp only [ev]; rfl
def minV : D → Option (D × Kd) | .lst xs => frI ((intsD xs).bind minL) | _ => none
@[simp] theorem q_ev_min1 (a : E) (env : Env) : ev C (.min1 a) env = (bm (ev C a env)).bind minV := by simp only [ev]; rfl
def maxdV : D → Option (D × Kd) | .lst xs => frI ((intsD xs).map fun ns => (maxL ns).getD 0) | _ => none
@[simp] theorem q_ev_maxd (a : E) (env : Env) : ev C (.maxd a) env = (bm (ev C a env)).bind maxdV := by simp only [ev]; rfl
def maxSV : D → Option (D × Kd) | .lst xs => fr (((strsD xs).bind maxS).map D.str) | _ => none
@[simp] theorem q_ev_maxS (a : E) (env : Env) : ev C (.maxS a) env = (bm (ev C a env)).bind maxSV := by simp only [ev]; rfl
theorem sortedV_ex : ∃ f : D → Option (D × Kd), ∀ d, f d = match d with | .lst xs => if xs.length < L then (sortD xs).map fun ys => (.lst ys, .new1) else none | _ => none := ⟨_, fun _ => rfl⟩
/-- not to be unfolded -/
noncomputable def sortedV : D → Option (D × Kd) := Classical.choose sortedV_ex
theorem sortedV_eq (d : D) : sortedV d = match d with | .lst xs => if xs.length < L then (sortD xs).map fun ys => (.lst ys, .new1) else none | _ => none := Classical.choose_spec sortedV_ex d
@[simp] theorem q_ev_sorted (a : E) (env : Env) : ev C (.sorted a) env = (em (ev C a env)).bind sortedV := by
  simp only [ev]
  congr 1
  funext d
  rw [sortedV_eq] <;> rfl
def listV : D → Option (D × Kd) | .lst xs => some (.lst xs, .new1) | .tup xs => some (.lst xs, .new1) | _ => none
@[simp] theorem q_ev_list (a : E) (env : Env) : ev C (.list a) env = (em (ev C a env)).bind listV := by simp only [ev]; rfl
@[simp] theorem listV_l (xs : List D) : listV (.lst xs) = some (.lst xs, .new1) := rfl
def itV (p : D × Kd) : Option (List D × Bool) := match p.1 with
  | .lst xs => if p.2 = .own2 then none else if p.2 = .lent then (if xs.all D.atom then some (xs, false) else none) else some (xs, decide (p.2 = .own1))
  | .tup xs => if p.2 = .frz then some (xs, false) else none
  | .str s => some (s.map fun c => .str [c], false)
  | _ => none
@[simp] theorem q_evI_lst (e : E) (env : Env) : evI C (.lst e) env = (ev C e env).bind itV := by simp only [evI]; rfl
@[simp] theorem itV_f (xs : List D) : itV (.lst xs, .frz) = some (xs, false) := rfl
@[simp] theorem itV_n (xs : List D) : itV (.lst xs, .new1) = some (xs, false) := rfl
@[simp] theorem itV_m (xs : List D) : itV (.lst xs, .new2) = some (xs, false) := rfl
@[simp] theorem itV_o (xs : List D) : itV (.lst xs, .own1) = some (xs, true) := rfl
@[simp] theorem itV_t (xs : List D) : itV (.tup xs, .frz) = some (xs, false) := rfl
@[simp] theorem itV_s (xs : List Nat) (k : Kd) : itV (.str xs, k) = some (xs.map fun c => .str [c], false) := rfl
def enumV (p : D × Kd) : Option (List D × Bool) := match p.1 with
  | .lst xs => if p.2 = .own2 ∨ p.2 = .lent then none else some (enumFrom 0 xs, decide (p.2 = .own1))
  | _ => none
@[simp] theorem q_evI_enum (e : E) (env : Env) : evI C (.enum e) env = (ev C e env).bind enumV := by simp only [evI]; rfl
@[simp] theorem enumV_f (xs : List D) : enumV (.lst xs, .frz) = some (enumFrom 0 xs, false) := rfl
@[simp] theorem enumV_n (xs : List D) : enumV (.lst xs, .new1) = some (enumFrom 0 xs, false) := rfl
@[simp] theorem enumV_o (xs : List D) : enumV (.lst xs, .own1) = some (enumFrom 0 xs, true) := rfl
def revV (p : D × Kd) : Option (List D × Bool) := match p.1 with
  | .lst xs => if p.2 = .own2 ∨ p.2 = .lent then none else some (xs.reverse, decide (p.2 = .own1))
  | _ => none
@[simp] theorem q_evI_rev (e : E) (env : Env) : evI C (.rev e) env = (ev C e env).bind revV := by simp only [evI]; rfl
@[simp] theorem revV_f (xs : List D) : revV (.lst xs, .frz) = some (xs.reverse, false) := rfl
@[simp] theorem revV_n (xs : List D) : revV (.lst xs, .new1) = some (xs.reverse, false) := rfl
@[simp] theorem revV_o (xs : List D) : revV (.lst xs, .own1) = some (xs.reverse, true) := rfl
end
/-- whole numbers times one another -/
noncomputable def mulI : D → D → Option D
  | .int i, .int j => if mulOk i j then some (.int (i * j)) else none
  | _, _ => none
theorem q_mulI {i j : Int} (h : mulOk i j = true) : mulI (.int i) (.int j) = some (.int (i * j)) := if_pos h
@[simp] theorem q_ev_mul (C : Nat → List D → Option D) (a b : E) (env : Env) : ev C (.mul a b) env = nw ((em (ev C a env)).bind fun x => (em (ev C b env)).bind fun y => mulI x y) := by
  simp only [ev]
  rfl
@[simp] theorem q_evm_nil (C : Nat → List D → Option D) (m : List Bool) (env : Env) : evm C m .nil env = some [] := by cases m <;> simp only [evm]
@[simp] theorem q_evm_cons (C : Nat → List D → Option D) (m : List Bool) (e : E) (r : Es) (env : Env) : evm C m (.cons e r) env = (if m.headD false then bm (ev C e env) else vm (ev C e env)).bind fun d => (evm C m.tail r env).bind fun ds => some (d :: ds) := by simp only [evm]
@[simp] theorem q_fr (d : D) : fr (some d) = some (d, .frz) := rfl
@[simp] theorem q_fr0 : fr none = none := rfl
@[simp] theorem q_frB (b : Bool) : frB (some b) = some (.bl b, .frz) := rfl
@[simp] theorem q_frB0 : frB none = none := rfl
@[simp] theorem q_frI (b : Int) : frI (some b) = some (.int b, .frz) := rfl
@[simp] theorem q_frI0 : frI none = none := rfl
@[simp] theorem q_nwI (b : Int) : nw (some (.int b)) = some (.int b, .frz) := rfl
@[simp] theorem q_nwS (b : List Nat) : nw (some (.str b)) = some (.str b, .frz) := rfl
@[simp] theorem q_nwL (b : List D) : nw (some (.lst b)) = some (.lst b, .new1) := rfl
@[simp] theorem q_nw0 : nw none = none := rfl
@[simp] theorem q_asInt (i : Int) : asInt (.int i) = some i := rfl
@[simp] theorem q_asBl (i : Bool) : asBl (.bl i) = some i := rfl
@[simp] theorem q_asStr (i : List Nat) : asStr (.str i) = some i := rfl
@[simp] theorem q_ltAi (i j : Int) : ltA (.int i) (.int j) = some (decide (i < j)) := rfl
@[simp] theorem q_ltAs (i j : List Nat) : ltA (.str i) (.str j) = some (lexS i j) := rfl
@[simp] theorem q_lenL_l (xs : List D) : lenL (.lst xs) = some (xs.length : Int) := rfl
@[simp] theorem q_lenL_t (xs : List D) : lenL (.tup xs) = some (xs.length : Int) := rfl
@[simp] theorem q_lenL_d (xs : List (Ky × D)) : lenL (.dic xs) = some (xs.length : Int) := rfl
theorem q_lenL_s (xs : List Nat) (h : xs.length ≤ L) : lenL (.str xs) = some (xs.length : Int) := if_pos h
@[simp] theorem q_truL_b (b : Bool) : truL (.bl b) = some b := rfl
@[simp] theorem q_truL_n : truL .non = some false := rfl
@[simp] theorem q_truL_i (i : Int) : truL (.int i) = some (i != 0) := rfl
@[simp] theorem q_truL_l (xs : List D) : truL (.lst xs) = some (!xs.isEmpty) := rfl
@[simp] theorem q_truL_t (xs : List D) : truL (.tup xs) = some (!xs.isEmpty) := rfl
@[simp] theorem q_then_nx (e : Env) (f : Env → Option Out) : andThen (some (.nx e)) f = f e := rfl
@[simp] theorem q_then_rt (d : D) (f : Env → Option Out) : andThen (some (.rt d)) f = some (.rt d) := rfl
@[simp] theorem q_subK_f : subK .frz = .frz := rfl
@[simp] theorem q_subK_1 : subK .own1 = .frz := rfl
@[simp] theorem q_subK_2 : subK .own2 = .own1 := rfl
@[simp] theorem q_subK_l : subK .lent = .lent := rfl
@[simp] theorem q_subK_n1 : subK .new1 = .frz := rfl
@[simp] theorem q_subK_n2 : subK .new2 = .frz := rfl
@[simp] theorem q_slot0 (k : Kd) : slotK 0 k = .frz := rfl
@[simp] theorem q_slot1n (m : Nat) : slotK (m + 1) .new1 = .own1 := by cases m <;> rfl
@[simp] theorem q_slot1_1 : slotK 1 .new1 = .own1 := rfl
@[simp] theorem q_slot2_1 : slotK 2 .new1 = .own1 := rfl
@[simp] theorem q_slot1_2 : slotK 1 .new2 = .frz := rfl
@[simp] theorem q_slot2_2 : slotK 2 .new2 = .own2 := rfl
@[simp] theorem q_slotf (m : Nat) : slotK m .frz = .frz := by match m with | 0 => rfl | 1 => rfl | n + 2 => rfl
@[simp] theorem q_bindnm (i : Nat) (d : D) (env : Env) : bindT (.nm i) d env = some (env.set i (.val d .frz)) := rfl
@[simp] theorem q_bindtp (is : List Nat) (ds : List D) (env : Env) : bindT (.tp is) (.tup ds) env = setSlots is ds env := rfl
@[simp] theorem q_ss0 (env : Env) : setSlots [] [] env = some env := rfl
@[simp] theorem q_ss1 (i : Nat) (is : List Nat) (d : D) (ds : List D) (env : Env) : setSlots (i :: is) (d :: ds) env = setSlots is ds (env.set i (.val d .frz)) := rfl
@[simp] theorem q_un0 (env : Env) : unset [] env = env := rfl
@[simp] theorem q_un1 (i : Nat) (is : List Nat) (env : Env) : unset (i :: is) env = unset is (env.set i .un) := rfl
@[simp] theorem q_fz0 (env : Env) : freeze [] env = env := rfl
@[simp] theorem q_fz1 (i : Nat) (is : List Nat) (env : Env) : freeze (i :: is) env = freeze is (freeze1 env i) := rfl
@[simp] theorem q_slots_nm (i : Nat) : Tg.slots (.nm i) = [i] := rfl
@[simp] theorem q_slots_tp (is : List Nat) : Tg.slots (.tp is) = is := rfl
@[simp] theorem q_calls (n : Nat) (f : List D → Option D) (r : List (Nat × (List D → Option D))) (m : Nat) (ds : List D) : calls ((n, f) :: r) m ds = if m = n then f ds else calls r m ds := rfl
@[simp] theorem q_isNon_i (i : Int) : (D.int i).isNon = false := rfl
@[simp] theorem q_isNon_n : D.non.isNon = true := rfl
@[simp] theorem q_isNon_l (i : List D) : (D.lst i).isNon = false := rfl
@[simp] theorem q_isNon_t (i : List D) : (D.tup i).isNon = false := rfl
@[simp] theorem q_isNon_s (i : List Nat) : (D.str i).isNon = false := rfl
@[simp] theorem q_at_i (i : Int) : (D.int i).atom = true := rfl
@[simp] theorem q_at_n : D.non.atom = true := rfl
@[simp] theorem q_at_b (b : Bool) : (D.bl b).atom = true := rfl
@[simp] theorem q_at_s (i : List Nat) : (D.str i).atom = true := rfl
@[simp] theorem q_at_t (i : List D) : (D.tup i).atom = false := rfl
@[simp] theorem q_at_l (i : List D) : (D.lst i).atom = false := rfl
@[simp] theorem q_ty1 (i : Int) : isTy (.int i) .int = true := rfl
@[simp] theorem q_ty1b (i : Int) : isTy (.int i) .bool = false := rfl
@[simp] theorem q_ty2 (i : List Nat) : isTy (.str i) .str = true := rfl
@[simp] theorem q_ty3 (i : List D) : isTy (.lst i) .lst = true := rfl
@[simp] theorem q_ty4 (i : List D) : isTy (.tup i) .tup = true := rfl
@[simp] theorem q_keyi (i : Int) : keyD (.int i) = some (.inl i) := rfl
@[simp] theorem q_keys (i : List Nat) : keyD (.str i) = some (.inr i) := rfl
theorem mulOk_r {i j : Int} (h1 : -(2 ^ 64) < j) (h2 : j < 2 ^ 64) : mulOk i j = true := by
  exact (mulOk_iff i j).mpr (Or.inr ⟨h1, h2⟩)
theorem mulOk_l {i j : Int} (h1 : -(2 ^ 64) < i) (h2 : i < 2 ^ 64) : mulOk i j = true := by
  exact (mulOk_iff i j).mpr (Or.inl ⟨h1, h2⟩)
/-! ### statements: a for, a while ahead of what comes -/
section
variable {C : Nat → List D → Option D} {fu : Nat} {env : Env} {r : Option Out}
theorem for_step {α β : Type} {tg : Tg} {it : It} {s : S} {k : Env → Option Out} (xs : List α) (toD : α → D) (enc : β → Env) (Inv : List α → β → Prop) (b0 : β)
    (hi : evI C it env = some (xs.map toD, false)) (he : env = enc b0) (h0 : Inv [] b0)
    (hs : ∀ pre x post b, xs = pre ++ x :: post → Inv pre b → ∃ b', ((bindT tg (toD x) (enc b)).bind (exec C fu s)) = some (.nx (enc b')) ∧ Inv (pre ++ [x]) b')
    (hk : ∀ b, Inv xs b → k (enc b) = r) : andThen (exec C fu (.for_ tg it s) env) k = r := by
  obtain ⟨b, h1, h2⟩ := loopF_inv (f := fun d e => (bindT tg d e).bind (exec C fu s)) toD enc Inv xs b0 h0 hs
  have h3 : exec C fu (.for_ tg it s) env = some (.nx (enc b)) := by
    simp only [exec, hi, Option.bind_some]
    rw [if_neg (by decide), he]
    exact h1
  rw [h3]
  exact hk b h2
theorem for_R {α β : Type} {R : Option Out → Prop} {tg : Tg} {it : It} {s : S} {k : Env → Option Out} (xs : List α) (toD : α → D) (enc : β → Env) (Inv : List α → β → Prop) (b0 : β)
    (hi : evI C it env = some (xs.map toD, false)) (he : env = enc b0) (h0 : Inv [] b0)
    (hs : ∀ pre x post b, xs = pre ++ x :: post → Inv pre b → ∃ b', ((bindT tg (toD x) (enc b)).bind (exec C fu s)) = some (.nx (enc b')) ∧ Inv (pre ++ [x]) b')
    (hk : ∀ b, Inv xs b → R (k (enc b))) : R (andThen (exec C fu (.for_ tg it s) env) k) := by
  obtain ⟨b, h1, h2⟩ := loopF_inv (f := fun d e => (bindT tg d e).bind (exec C fu s)) toD enc Inv xs b0 h0 hs
  have h3 : exec C fu (.for_ tg it s) env = some (.nx (enc b)) := by
    simp only [exec, hi, Option.bind_some]
    rw [if_neg (by decide), he]
    exact h1
  rw [h3]
  exact hk b h2
theorem wh_R {β : Type} {R : Option Out → Prop} {t : T} {s : S} {k : Env → Option Out} (enc : β → Env) (Inv Done : β → Prop) (μ : β → Nat) (b0 : β) (he : env = enc b0) (h0 : Inv b0) (hm : μ b0 < fu)
    (hs : ∀ b, Inv b → (evT C t (enc b) = some true ∧ ∃ b', exec C fu s (enc b) = some (.nx (enc b')) ∧ Inv b' ∧ μ b' < μ b) ∨ (evT C t (enc b) = some false ∧ Done b))
    (hk : ∀ b, Inv b → Done b → R (k (enc b))) : R (andThen (exec C fu (.wh t s) env) k) := by
  obtain ⟨b, h1, h2, h3⟩ := loopW_inv (t := evT C t) (f := exec C fu s) enc Inv μ Done hs fu b0 h0 hm
  have h4 : exec C fu (.wh t s) env = some (.nx (enc b)) := by
    simp only [exec]
    rw [he]
    exact h1
  rw [h4]
  exact hk b h2 h3
theorem runF_R {Q : D → Prop} {f : FDef} {ds : List D} (h : ds.length = f.params) (he : ∃ d, exec C FU f.body (startEnv f ds) = some (.rt d) ∧ Q d) : ∃ d, runF C f ds = some d ∧ Q d := by
  obtain ⟨d, h1, h2⟩ := he
  exact ⟨d, runF_eq h h1, h2⟩
/-- a for whose turns are steps of a fold -/
theorem for_fold {α β : Type} {tg : Tg} {it : It} {s : S} {k : Env → Option Out} (xs : List α) (toD : α → D) (enc : β → Env) (step : β → α → β) (b0 : β)
    (hi : evI C it env = some (xs.map toD, false)) (he : env = enc b0)
    (hs : ∀ pre x post, xs = pre ++ x :: post → ((bindT tg (toD x) (enc (pre.foldl step b0))).bind (exec C fu s)) = some (.nx (enc (step (pre.foldl step b0) x))))
    (hk : k (enc (xs.foldl step b0)) = r) : andThen (exec C fu (.for_ tg it s) env) k = r := by
  refine for_step xs toD enc (fun pre b => b = pre.foldl step b0) b0 hi he rfl (fun pre x post b e hb => ⟨step b x, ?_, ?_⟩) (fun b hb => ?_)
  · subst hb; exact hs pre x post e
  · subst hb; rw [List.foldl_append]; rfl
  · subst hb; exact hk
/-- one statement at a time -/
theorem x_asg {i m : Nat} {e : E} {rest : S} (d : D) (k : Kd) (h : ev C e env = some (d, k)) (hv : vm (some (d, k)) = some d) (hk : exec C fu rest (env.set i (.val d (slotK m k))) = r) : exec C fu (.seq (.asg i m e) rest) env = r := by
  simp only [q_exec_seq, q_exec_asg, h, hv, Option.bind_some, q_then_nx]
  exact hk
theorem x_ite {t : T} {a b rest : S} (p : Bool) (h : evT C t env = some p) (hk : exec C fu (.seq (if p then a else b) rest) env = r) : exec C fu (.seq (.ite t a b) rest) env = r := by
  rw [← hk]
  cases p <;> simp only [q_exec_seq, q_exec_ite, h, Option.bind_some] <;> rfl
theorem x_skip {rest : S} (hk : exec C fu rest env = r) : exec C fu (.seq .skip rest) env = r := by
  rw [← hk]
  simp only [q_exec_seq, q_exec_skip, q_then_nx]
theorem wh_step {β : Type} {t : T} {s : S} {k : Env → Option Out} (enc : β → Env) (Inv Done : β → Prop) (μ : β → Nat) (b0 : β) (he : env = enc b0) (h0 : Inv b0) (hm : μ b0 < fu)
    (hs : ∀ b, Inv b → (evT C t (enc b) = some true ∧ ∃ b', exec C fu s (enc b) = some (.nx (enc b')) ∧ Inv b' ∧ μ b' < μ b) ∨ (evT C t (enc b) = some false ∧ Done b))
    (hk : ∀ b, Inv b → Done b → k (enc b) = r) : andThen (exec C fu (.wh t s) env) k = r := by
  obtain ⟨b, h1, h2, h3⟩ := loopW_inv (t := evT C t) (f := exec C fu s) enc Inv μ Done hs fu b0 h0 hm
  have h4 : exec C fu (.wh t s) env = some (.nx (enc b)) := by
    simp only [exec]
    rw [he]
    exact h1
  rw [h4]
  exact hk b h2 h3
end
end Hg
end

section
set_option autoImplicit false
set_option maxHeartbeats 1000000
/-! Pl1: the law's own hedge, by what it is. -/
namespace Hg
@[simp] theorem plainD_int (n : Nat) (i : Int) : plainD n (.int i) = true := by cases n <;> rfl
@[simp] theorem plainD_bl (n : Nat) (i : Bool) : plainD n (.bl i) = true := by cases n <;> rfl
@[simp] theorem plainD_non (n : Nat) : plainD n .non = true := by cases n <;> rfl
theorem plainD_str (n : Nat) (s : List Nat) : plainD n (.str s) = s.all fun c => decide (c < 128) := by cases n <;> rfl
@[simp] theorem plainD_lst (n : Nat) (xs : List D) : plainD (n + 1) (.lst xs) = xs.all (plainD n) := rfl
@[simp] theorem plainD_tup (n : Nat) (xs : List D) : plainD (n + 1) (.tup xs) = xs.all (plainD n) := rfl
@[simp] theorem eqD_int (i j : Int) : eqD (.int i) (.int j) = decide (i = j) := by simp only [eqD]; rfl
@[simp] theorem eqD_str (i j : List Nat) : eqD (.str i) (.str j) = decide (i = j) := by simp only [eqD]; by_cases h : i = j <;> simp [h]
@[simp] theorem ncI (x y : Nat) : ((x : Int) = (y : Int)) ↔ x = y := by omega
@[simp] theorem eqD_lst (xs ys : List D) : eqD (.lst xs) (.lst ys) = eqDs xs ys := by simp only [eqD]
@[simp] theorem eqD_tup (xs ys : List D) : eqD (.tup xs) (.tup ys) = eqDs xs ys := by simp only [eqD]
theorem PD_eq : PD = 7 + 1 := rfl
theorem eqDs_map {α : Type} [DecidableEq α] (f : α → D) (h : ∀ x y, eqD (f x) (f y) = decide (x = y)) : ∀ xs ys : List α, eqDs (xs.map f) (ys.map f) = decide (xs = ys)
  | [], [] => by simp [eqDs]
  | [], _ :: _ => by simp [eqDs]
  | _ :: _, [] => by simp [eqDs]
  | x :: xs, y :: ys => by
    simp only [List.map_cons, eqDs, h, eqDs_map f h xs ys, List.cons.injEq, Bool.decide_and]
theorem eqDs_self {α : Type} [DecidableEq α] (f : α → D) (h : ∀ x y, eqD (f x) (f y) = decide (x = y)) (xs : List α) : eqDs (xs.map f) (xs.map f) = true := by simp [eqDs_map f h]
def nD (k : Nat) : D := .int (k : Int)
def rodD (p : Nat × Nat) : D := .tup [.int p.1, .int p.2]
def hD (n : Nat) (rs : List (Nat × Nat)) : D := .tup [.int n, .lst (rs.map rodD)]
def scr (ns : List Int) : D := .lst (ns.map D.int)
def cell (ns : List Int) (k : Nat) : Int := ns.getD k 0
/-! ### nats, rods, hedges as data -/
theorem eqD_nD (x y : Nat) : eqD (nD x) (nD y) = decide (x = y) := by
  unfold nD; rw [eqD_int]; simp
theorem eqD_rodD (x y : Nat × Nat) : eqD (rodD x) (rodD y) = decide (x = y) := by
  obtain ⟨a, b⟩ := x; obtain ⟨c, d⟩ := y
  simp [rodD, eqDs]
theorem eqD_nsD (x y : List Nat) : eqD (.lst (x.map nD)) (.lst (y.map nD)) = decide (x = y) := by
  rw [eqD_lst, eqDs_map nD eqD_nD]
theorem eqD_hD (n m : Nat) (xs ys : List (Nat × Nat)) : eqD (hD n xs) (hD m ys) = decide (n = m ∧ xs = ys) := by
  simp [hD, eqDs, eqDs_map rodD eqD_rodD]
theorem plain_nD (n k : Nat) : plainD n (nD k) = true := plainD_int _ _
theorem plain_rodD (n : Nat) (r : Nat × Nat) : plainD (n + 1) (rodD r) = true := by simp [rodD]
theorem plain_nsD (n : Nat) (x : List Nat) : plainD (n + 1) (.lst (x.map nD)) = true := by simp [plain_nD]
theorem plain_hD (n : Nat) (xs : List (Nat × Nat)) : plainD PD (hD n xs) = true := by
  simp [PD_eq, hD, plain_rodD]
/-! ### sorting -/
def leN (p q : Nat × Nat) : Bool := decide (p.1 < q.1 ∨ (p.1 = q.1 ∧ p.2 ≤ q.2))
def sortN (xs : List Nat) : List Nat := xs.mergeSort fun a b => decide (a ≤ b)
def sortR (xs : List (Nat × Nat)) : List (Nat × Nat) := xs.mergeSort leN
theorem sortN_perm (xs : List Nat) : (sortN xs).Perm xs := List.mergeSort_perm _ _
theorem sortR_perm (xs : List (Nat × Nat)) : (sortR xs).Perm xs := List.mergeSort_perm _ _
theorem sortN_pw (xs : List Nat) : (sortN xs).Pairwise (fun a b => a ≤ b) := by
  have h := List.pairwise_mergeSort (le := fun a b : Nat => decide (a ≤ b)) (fun a b c h1 h2 => decide_eq_true (Nat.le_trans (of_decide_eq_true h1) (of_decide_eq_true h2))) (fun a b => by simp; omega) xs
  exact h.imp fun h => of_decide_eq_true h
theorem leN_trans (a b c : Nat × Nat) (h1 : leN a b = true) (h2 : leN b c = true) : leN a c = true := by
  simp only [leN, decide_eq_true_eq] at *
  omega
theorem leN_total (a b : Nat × Nat) : (leN a b || leN b a) = true := by
  simp only [leN, Bool.or_eq_true, decide_eq_true_eq] at *
  omega
theorem sortR_pw (xs : List (Nat × Nat)) : (sortR xs).Pairwise (fun a b => leN a b = true) := List.pairwise_mergeSort leN_trans leN_total xs
theorem sortI_nat (xs : List Nat) : sortI (xs.map fun k : Nat => (k : Int)) = (sortN xs).map fun k : Nat => (k : Int) := by
  unfold sortI sortN
  rw [List.map_mergeSort]
  intro a _ b _
  simp
theorem sortP_nat (xs : List (Nat × Nat)) : sortP (xs.map fun p => ((p.1 : Int), (p.2 : Int))) = (sortR xs).map fun p => ((p.1 : Int), (p.2 : Int)) := by
  unfold sortP sortR
  rw [List.map_mergeSort]
  intro a _ b _
  simp only [leP, leN, ncI]
  congr 1
  apply propext
  omega
theorem sortD_nD (xs : List Nat) : sortD (xs.map nD) = some ((sortN xs).map nD) := by
  have h := sortD_ints (xs.map fun k : Nat => (k : Int))
  rw [sortI_nat, List.map_map, List.map_map] at h
  exact h
theorem sortD_rodD (xs : List (Nat × Nat)) : sortD (xs.map rodD) = some ((sortR xs).map rodD) := by
  have h := sortD_pairs (xs.map fun p => ((p.1 : Int), (p.2 : Int)))
  rw [sortP_nat, List.map_map, List.map_map] at h
  exact h

@[simp] theorem L0 : 0 ≤ L := Nat.zero_le _
@[simp] theorem L1 : 1 ≤ L := by unfold L; omega
@[simp] theorem L2 : 2 ≤ L := by unfold L; omega
@[simp] theorem L3 : 3 ≤ L := by unfold L; omega
/-! ### lists of nats, rows -/
def nsD (r : List Nat) : D := .lst (r.map nD)
def rowsD (xs : List (List Nat)) : D := .lst (xs.map nsD)
@[simp] theorem ixV_h0 (n : Nat) (rs : List (Nat × Nat)) (k : Kd) : ixV (hD n rs, k) (.int 0) = some (.int n, subK k) := rfl
@[simp] theorem ixV_h1 (n : Nat) (rs : List (Nat × Nat)) (k : Kd) : ixV (hD n rs, k) (.int 1) = some (.lst (rs.map rodD), subK k) := rfl
theorem ixV_ns (r : List Nat) (k : Kd) (i : Nat) : ixV (nsD r, k) (.int i) = (r[i]?).map fun d => (nD d, subK k) := by
  simp [nsD, Function.comp_def]
theorem ixV_rows (r : List (List Nat)) (k : Kd) (i : Nat) : ixV (rowsD r, k) (.int i) = (r[i]?).map fun d => (nsD d, subK k) := by
  simp [rowsD, Function.comp_def]
@[simp] theorem lenL_ns (r : List Nat) : lenL (nsD r) = some (r.length : Int) := by simp [nsD]
@[simp] theorem lenL_rows (r : List (List Nat)) : lenL (rowsD r) = some (r.length : Int) := by simp [rowsD]
@[simp] theorem isTy_ns (r : List Nat) : isTy (nsD r) .lst = true := rfl
@[simp] theorem isTy_rows (r : List (List Nat)) : isTy (rowsD r) .lst = true := rfl
@[simp] theorem plainD_ns (n : Nat) (r : List Nat) : plainD (n + 1) (nsD r) = true := plain_nsD n r
@[simp] theorem plainD_rows (n : Nat) (r : List (List Nat)) : plainD (n + 2) (rowsD r) = true := by simp [rowsD]
@[simp] theorem plainD_h (n m : Nat) (r : List (Nat × Nat)) : plainD (n + 3) (hD m r) = true := by simp [hD, rodD]
@[simp] theorem eqD_ns (x y : List Nat) : eqD (nsD x) (nsD y) = decide (x = y) := eqD_nsD x y
@[simp] theorem eqD_rows (x y : List (List Nat)) : eqD (rowsD x) (rowsD y) = decide (x = y) := by
  simp [rowsD, eqDs_map nsD eqD_ns]
@[simp] theorem eqD_h (n m : Nat) (xs ys : List (Nat × Nat)) : eqD (hD n xs) (hD m ys) = decide (n = m ∧ xs = ys) := eqD_hD n m xs ys
@[simp] theorem itV_ns (r : List Nat) : itV (nsD r, .frz) = some (r.map nD, false) := rfl
@[simp] theorem itV_ns1 (r : List Nat) : itV (nsD r, .new1) = some (r.map nD, false) := rfl
@[simp] theorem itV_ns2 (r : List Nat) : itV (nsD r, .own1) = some (r.map nD, true) := rfl
@[simp] theorem itV_rows (r : List (List Nat)) : itV (rowsD r, .frz) = some (r.map nsD, false) := rfl
@[simp] theorem itV_rows1 (r : List (List Nat)) : itV (rowsD r, .new1) = some (r.map nsD, false) := rfl
theorem PD8 : PD = 5 + 3 := rfl
/-! ### readings -/
section
variable {C : Nat → List D → Option D} {env : Env} {k : Kd} {a e : E}
theorem ev_sortR {xs : List (Nat × Nat)} (h : em (ev C a env) = some (.lst (xs.map rodD))) (hl : xs.length < L) : ev C (.sorted a) env = some (.lst ((sortR xs).map rodD), .new1) := by
  simp only [q_ev_sorted, h, Option.bind_some, sortedV_eq, List.length_map, hl, if_true, sortD_rodD, Option.map_some]
theorem ev_sortN {xs : List Nat} (h : em (ev C a env) = some (.lst (xs.map nD))) (hl : xs.length < L) : ev C (.sorted a) env = some (.lst ((sortN xs).map nD), .new1) := by
  simp only [q_ev_sorted, h, Option.bind_some, sortedV_eq, List.length_map, hl, if_true, sortD_nD, Option.map_some]
theorem sortedV_N {xs : List Nat} (hl : xs.length < L) : sortedV (.lst (xs.map nD)) = some (.lst ((sortN xs).map nD), .new1) := by
  simp only [sortedV_eq, List.length_map, hl, if_true, sortD_nD, Option.map_some]
theorem sortedV_R {xs : List (Nat × Nat)} (hl : xs.length < L) : sortedV (.lst (xs.map rodD)) = some (.lst ((sortR xs).map rodD), .new1) := by
  simp only [sortedV_eq, List.length_map, hl, if_true, sortD_rodD, Option.map_some]
theorem evI_f {xs : List D} (h : ev C e env = some (.lst xs, .frz)) : evI C (.lst e) env = some (xs, false) := by simp [h]
theorem evI_n {xs : List D} (h : ev C e env = some (.lst xs, .new1)) : evI C (.lst e) env = some (xs, false) := by simp [h]
theorem evI_o {xs : List D} (h : ev C e env = some (.lst xs, .own1)) : evI C (.lst e) env = some (xs, true) := by simp [h]
theorem rngD_nD (n : Nat) : rngD 0 n = (List.range n).map nD := by
  rw [rngD_eq]; rfl
theorem rngD1_nD (n : Nat) : rngD 1 n = (List.range' 1 n).map nD := by
  rw [rngD1_eq, List.range'_eq_map_range, List.map_map]
  apply List.map_congr_left
  intro a _
  show D.int _ = D.int _
  congr 1
  simp
  omega
theorem range'_split {s n k : Nat} {pre post : List Nat} (h : List.range' s n = pre ++ k :: post) : k = s + pre.length ∧ pre.length < n ∧ pre = List.range' s pre.length := by
  have h0 := congrArg List.length h
  simp at h0
  have h1 := congrArg (fun l => l[pre.length]?) h
  simp at h1
  have h2 : pre.length < n := by omega
  rw [List.getElem?_range' (by omega)] at h1
  refine ⟨by simpa using h1.symm, h2, ?_⟩
  have h3 : List.range' s pre.length ++ List.range' (s + pre.length) (n - pre.length) = pre ++ k :: post := by
    rw [List.range'_append_1, ← h]
    congr 1
    omega
  exact (List.append_inj_left h3 (by simp)).symm
theorem range_split {n k : Nat} {pre post : List Nat} (h : List.range n = pre ++ k :: post) : k = pre.length ∧ pre.length < n ∧ pre = List.range pre.length := by
  rw [List.range_eq_range'] at h
  obtain ⟨h1, h2, h3⟩ := range'_split h
  exact ⟨by omega, h2, by rw [List.range_eq_range']; exact h3⟩
theorem evI_rng {n : Nat} (h : bm (ev C e env) = some (.int n)) (hn : n ≤ 1000) : evI C (.rng1 e) env = some ((List.range n).map nD, false) := by
  have h1 : (-1000000 : Int) ≤ n ∧ (n : Int) ≤ 1000000 := ⟨by omega, by omega⟩
  simp only [q_evI_rng1, h, Option.bind_some, q_asInt, if_pos h1, rngD_nD, Int.toNat_natCast]
theorem evI_rng1 {n : Nat} (h0 : bm (ev C a env) = some (.int 1)) (h : bm (ev C e env) = some (.int n)) (hn : n ≤ 1000) : evI C (.rng2 a e) env = some ((List.range' 1 (n - 1)).map nD, false) := by
  have h1 : (-1000000 : Int) ≤ 1 ∧ (1 : Int) ≤ 1000000 ∧ (-1000000 : Int) ≤ n ∧ (n : Int) ≤ 1000000 := ⟨by omega, by omega, by omega, by omega⟩
  have h2 : ((n : Int) - 1).toNat = n - 1 := by omega
  simp only [q_evI_rng2, h, h0, Option.bind_some, q_asInt, if_pos h1, h2, rngD1_nD]
end
end Hg
end

section
set_option autoImplicit false
set_option maxHeartbeats 1000000
/-! Hp: the law's cell, mix, large. -/
namespace Hg
@[simp] theorem lenL_scr (ns : List Int) : lenL (scr ns) = some (ns.length : Int) := by simp [scr]
theorem sp_cell (ns : List Int) (k : Nat) : s_l_cell [scr ns, .int k] = some (.int (cell ns k)) := by
  unfold s_l_cell
  refine runF_eq rfl ?_
  by_cases h : k < ns.length
  · simp [d_l_cell, startEnv, h, cell, scr]
  · have h3 : ns[k]? = none := List.getElem?_eq_none (by omega)
    simp [d_l_cell, startEnv, h, h3, cell]
def mix (c p m : Int) : Nat := (c * 48271 % p % m).toNat
theorem mix_int (c p m : Int) (h : 0 < m) : ((mix c p m : Nat) : Int) = c * 48271 % p % m := by
  unfold mix
  have h1 := Int.emod_nonneg (c * 48271 % p) (show m ≠ 0 by omega)
  omega
theorem mix_lt (c p : Int) (m : Nat) (h : 0 < m) : mix c p m < m := by
  have h1 := mix_int c p m (by omega)
  have h2 := Int.emod_lt_of_pos (c * 48271 % p) (show (0 : Int) < m by omega)
  omega
theorem sp_mix (c p m : Int) (hp : 0 < p) (hm : 0 < m) : s_l_mix [.int c, .int p, .int m] = some (.int (mix c p m : Nat)) := by
  unfold s_l_mix
  refine runF_eq rfl ?_
  rw [mix_int c p m hm]
  simp [d_l_mix, startEnv, q_mulI, mulOk_r, hp, hm]
theorem sp_large (ns : List Int) : ∃ b, s_l_large [scr ns] = some (.bl b) := by
  have h1 : s_l_cell [scr ns, .int 0] = some (.int (cell ns 0)) := sp_cell ns 0
  have h2 := sp_mix (cell ns 0 + 7 * ns.length) 9871 8 (by decide) (by decide)
  have h3 : mulOk 7 (ns.length : Int) = true := mulOk_l (by decide) (by decide)
  refine ⟨decide (((mix (cell ns 0 + 7 * ns.length) 9871 8 : Nat) : Int) = 3), ?_⟩
  unfold s_l_large
  refine runF_eq rfl ?_
  generalize mix (cell ns 0 + 7 * ns.length) 9871 8 = z at h2
  simp [d_l_large, startEnv, q_mulI, h1, h2, h3]
end Hg
end

section
set_option autoImplicit false
set_option maxHeartbeats 1000000
/-! Pl2: the law's own hedge: a tree grown knot by knot. -/
namespace Hg
def keyOf (ns : List Int) (at_ k : Nat) : Nat × Nat := (mix (cell ns (at_ + 2 + k) + 29 * k * k) 9931 997, k)
def orderOf (ns : List Int) (at_ m : Nat) : List Nat := (sortR ((List.range m).map (keyOf ns at_))).map (·.2)
theorem orderOf_perm (ns : List Int) (at_ m : Nat) : (orderOf ns at_ m).Perm (List.range m) := by
  unfold orderOf
  have h := (sortR_perm ((List.range m).map (keyOf ns at_))).map (·.2)
  rw [List.map_map] at h
  have e : ((fun x : Nat × Nat => x.2) ∘ keyOf ns at_) = id := rfl
  rwa [e, List.map_id] at h
theorem cell_int (ns : List Int) (k : Nat) (i : Int) (h : i = (k : Int)) : s_l_cell [scr ns, .int i] = some (.int (cell ns k)) := by rw [h]; exact sp_cell ns k
theorem sp_order (ns : List Int) (at_ m : Nat) (hm : m ≤ 1000) : s_l_order [scr ns, .int at_, .int m] = some (.lst ((orderOf ns at_ m).map nD)) := by
  unfold s_l_order
  refine runF_eq rfl ?_
  simp only [d_l_order, startEnv]
  simp
  rw [ev_compM (List.range m) nD (fun k => rodD (keyOf ns at_ k)) (own := false)]
  · simp
    have e1 : (List.range m).map (fun k => rodD (keyOf ns at_ k)) = ((List.range m).map (keyOf ns at_)).map rodD := by rw [List.map_map]; rfl
    have hl : ((List.range m).map (keyOf ns at_)).length < L := by simp [L_eq]; omega
    rw [e1, ev_compM (sortR ((List.range m).map (keyOf ns at_))) rodD (fun p => nD p.2) (own := false)]
    · simp [orderOf]
    · exact evI_n (ev_sortR rfl hl)
    · intro x hx
      exact ⟨_, rfl, .frz, by simp [rodD, nD], rfl⟩
    · rw [(sortR_perm _).length_eq]; exact hl
  · exact evI_rng rfl hm
  · intro x hx
    have hx := List.mem_range.mp hx
    have h1 := sp_mix (cell ns (at_ + 2 + x) + 29 * x * x) 9931 997 (by decide) (by decide)
    refine ⟨_, rfl, .frz, ?_, rfl⟩
    have h2 := cell_int ns (at_ + 2 + x) (at_ + 2 + x) (by omega)
    have h3 : mulOk 29 (x : Int) = true := mulOk_l (by decide) (by decide)
    have h4 : mulOk (29 * (x : Int)) (x : Int) = true := mulOk_l (by omega) (by omega)
    simp [nD, h2, q_mulI, h1, h3, h4, rodD, keyOf]
  · simp [L_eq]; omega
end Hg
end

section
set_option autoImplicit false
set_option maxHeartbeats 1000000
/-! Pl3: hedges. -/
namespace Hg
/-- knots and rods, grown: each new knot is joined to one that stands -/
inductive Tr : List Nat → List (Nat × Nat) → Prop where
  | one (v : Nat) : Tr [v] []
  | add {vs : List Nat} {es : List (Nat × Nat)} (u v : Nat) : Tr vs es → u ∈ vs → v ∉ vs → Tr (v :: vs) ((min u v, max u v) :: es)
def ltN (p q : Nat × Nat) : Prop := p.1 < q.1 ∨ (p.1 = q.1 ∧ p.2 < q.2)
structure Hedge (n : Nat) (rs : List (Nat × Nat)) : Prop where
  tr : ∃ vs es, Tr vs es ∧ vs.Perm (List.range n) ∧ es.Perm rs
  srt : rs.Pairwise ltN
theorem Tr.mem {vs : List Nat} {es : List (Nat × Nat)} (h : Tr vs es) : ∀ e ∈ es, e.1 ∈ vs ∧ e.2 ∈ vs ∧ e.1 < e.2 := by
  induction h with
  | one v => intro e he; cases he
  | @add vs es u v h hu hv ih =>
    intro e he
    rcases List.mem_cons.mp he with rfl | he
    · have : u ≠ v := fun e => hv (e ▸ hu)
      refine ⟨?_, ?_, ?_⟩
      · by_cases h : u ≤ v
        · rw [Nat.min_eq_left h]; exact List.mem_cons_of_mem _ hu
        · rw [Nat.min_eq_right (by omega)]; exact List.mem_cons_self ..
      · by_cases h : u ≤ v
        · rw [Nat.max_eq_right h]; exact List.mem_cons_self ..
        · rw [Nat.max_eq_left (by omega)]; exact List.mem_cons_of_mem _ hu
      · show min u v < max u v
        omega
    · obtain ⟨h1, h2, h3⟩ := ih e he
      exact ⟨List.mem_cons_of_mem _ h1, List.mem_cons_of_mem _ h2, h3⟩
theorem Tr.nodup {vs : List Nat} {es : List (Nat × Nat)} (h : Tr vs es) : vs.Nodup := by
  induction h with
  | one v => simp
  | add u v h hu hv ih => exact List.nodup_cons.mpr ⟨hv, ih⟩
theorem Tr.len {vs : List Nat} {es : List (Nat × Nat)} (h : Tr vs es) : vs.length = es.length + 1 := by
  induction h with
  | one v => rfl
  | add u v h hu hv ih => simp [ih]
theorem Tr.nodup_e {vs : List Nat} {es : List (Nat × Nat)} (h : Tr vs es) : es.Nodup := by
  induction h with
  | one v => simp
  | @add vs es u v h hu hv ih =>
    refine List.nodup_cons.mpr ⟨fun hm => ?_, ih⟩
    obtain ⟨h1, h2, _⟩ := h.mem _ hm
    by_cases h : u ≤ v
    · rw [Nat.max_eq_right h] at h2; exact hv h2
    · rw [Nat.min_eq_right (by omega)] at h1; exact hv h1
theorem sort_strict {rs : List (Nat × Nat)} (h : rs.Nodup) : (sortR rs).Pairwise ltN := by
  have h1 := sortR_pw rs
  have h2 : (sortR rs).Nodup := (sortR_perm rs).nodup_iff.mpr h
  refine (h1.and h2).imp ?_
  intro a b hab
  obtain ⟨h3, h4⟩ := hab
  simp only [leN, decide_eq_true_eq] at h3
  unfold ltN
  rcases h3 with h3 | ⟨h3, h5⟩
  · exact .inl h3
  · refine .inr ⟨h3, ?_⟩
    rcases Nat.lt_or_ge a.2 b.2 with h6 | h6
    · exact h6
    · exact absurd (Prod.ext h3 (Nat.le_antisymm h5 h6)) h4
namespace Hedge
variable {n : Nat} {rs : List (Nat × Nat)}
theorem lt (h : Hedge n rs) {e : Nat × Nat} (he : e ∈ rs) : e.1 < n ∧ e.2 < n ∧ e.1 < e.2 := by
  obtain ⟨vs, es, h1, h2, h3⟩ := h.tr
  obtain ⟨h4, h5, h6⟩ := h1.mem e (h3.mem_iff.mpr he)
  exact ⟨List.mem_range.mp (h2.mem_iff.mp h4), List.mem_range.mp (h2.mem_iff.mp h5), h6⟩
theorem len (h : Hedge n rs) : n = rs.length + 1 := by
  obtain ⟨vs, es, h1, h2, h3⟩ := h.tr
  have := h1.len
  rw [h2.length_eq, h3.length_eq] at this
  simpa using this
theorem pos (h : Hedge n rs) : 0 < n := by have := h.len; omega
theorem nodup (h : Hedge n rs) : rs.Nodup := by
  obtain ⟨vs, es, h1, h2, h3⟩ := h.tr
  exact h3.nodup_iff.mp h1.nodup_e
theorem of_tr {vs : List Nat} {es rs : List (Nat × Nat)} (h : Tr vs es) (hp : vs.Perm (List.range n)) (he : es.Perm rs) : Hedge n (sortR rs) :=
  ⟨⟨vs, es, h, hp, he.trans (sortR_perm rs).symm⟩, sort_strict (he.nodup_iff.mp h.nodup_e)⟩
end Hedge
theorem take_snoc (p : List Nat) (k : Nat) (h : k < p.length) : p.take (k + 1) = p.take k ++ [p[k]] := by
  rw [List.take_succ, List.getElem?_eq_getElem h]; rfl
theorem sp_hedgeN (ns : List Int) (at_ : Nat) (hl : ns.length ≤ 63) : ∃ n rs, s_l_hedge [scr ns, .int at_] = some (hD n rs) ∧ Hedge n rs ∧ n ≤ 18 ∧ ∃ most : Int, (most = 9 ∨ most = 18) ∧ (n : Int) = 1 + cell ns at_ % most := by
  obtain ⟨big, hbig⟩ := sp_large ns
  have h1 := sp_cell ns at_
  have h2 := cell_int ns (at_ + 1) (at_ + 1) (by omega)
  have hl2 : ¬ (63 : Int) < ns.length := by omega
  generalize hmo : (if big = true then 18 else 9 : Int) = most
  have hmo1 : 0 < most ∧ most ≤ 18 := by subst hmo; cases big <;> decide
  have hn1 := Int.emod_nonneg (cell ns at_) (show most ≠ 0 by omega)
  have hn2 := Int.emod_lt_of_pos (cell ns at_) hmo1.1
  obtain ⟨n, hn⟩ := Int.eq_ofNat_of_zero_le (show 0 ≤ 1 + cell ns at_ % most by omega)
  have hn18 : n ≤ 18 := by omega
  have hmost : ∃ most : Int, (most = 9 ∨ most = 18) ∧ (n : Int) = 1 + cell ns at_ % most := ⟨most, by cases big <;> simp at hmo <;> omega, by omega⟩
  have hn0 : 0 < n := by omega
  have ho := sp_order ns at_ n (by omega)
  have hpm := orderOf_perm ns at_ n
  generalize orderOf ns at_ n = p at ho hpm
  have hpl : p.length = n := by simpa using hpm.length_eq
  have hpn : p.Nodup := hpm.nodup_iff.mpr List.nodup_range
  have hget : ∀ o : Nat, o < n → ∃ a, p[o]? = some a := fun o ho => ⟨p[o], List.getElem?_eq_getElem (by omega)⟩
  have key : ∃ d, s_l_hedge [scr ns, .int at_] = some d ∧ ∃ es, Tr p.reverse es.reverse ∧ d = hD n (sortR es) := by
    refine runF_R rfl ?_
    simp only [d_l_hedge, startEnv]
    have fin : ∀ (k o a b : Nat) (rods : List (Nat × Nat)), Tr (p.take k).reverse rods.reverse → o < k → p[o]? = some b → p[k]? = some a → Tr (p.take (k + 1)).reverse (rods ++ [(min a b, max a b)]).reverse := by
      intro k o a b rods hT ho hb ha
      obtain ⟨hk, ha2⟩ := List.getElem?_eq_some_iff.mp ha
      obtain ⟨ho2, hb2⟩ := List.getElem?_eq_some_iff.mp hb
      rw [take_snoc p k hk, List.reverse_append, List.reverse_append, ha2, Nat.min_comm, Nat.max_comm]
      show Tr (a :: (p.take k).reverse) ((min b a, max b a) :: rods.reverse)
      refine Tr.add b a hT ?_ ?_
      · rw [List.mem_reverse, ← hb2, List.mem_take_iff_getElem]
        exact ⟨o, by omega, rfl⟩
      · rw [List.mem_reverse, ← ha2, List.mem_take_iff_getElem]
        rintro ⟨i, hi, he⟩
        have := (List.getElem_inj hpn).mp he
        omega
    cases big <;> simp at hmo <;> subst hmo <;> simp [hbig, hl2, h1, h2, hn, ho] <;> generalize cell ns (at_ + 1) % 5 = mn
    all_goals
      refine for_R (R := fun o => ∃ d, o = some (.rt d) ∧ ∃ es, Tr p.reverse es.reverse ∧ d = hD n (sortR es)) (List.range' 1 (n - 1)) nD
        (fun rods : List (Nat × Nat) => [.val (scr ns) .frz, .val (.int at_) .frz, .val (.int _) .frz, .val (.int n) .frz, .val (.lst (p.map nD)) .frz, .val (.int mn) .frz, .val (.lst (rods.map rodD)) .own1, .un, .un, .un, .un])
        (fun pre rods => Tr (p.take (pre.length + 1)).reverse rods.reverse ∧ rods.length ≤ pre.length) [] (evI_rng1 rfl rfl (by omega)) rfl ?_ ?_ ?_
      · match p, hpl with
        | [], h => simp at h; omega
        | x :: xs, h => exact ⟨Tr.one x, Nat.le_refl _⟩
      · intro pre k post rods e hI
        obtain ⟨hI, hlen⟩ := hI
        obtain ⟨hk1, hk2, hk3⟩ := range'_split e
        obtain ⟨a, ha⟩ := hget k (by omega)
        have hc := cell_int ns (at_ + 1 + k) (at_ + 1 + k) (by omega)
        have hm1 := sp_mix (cell ns (at_ + 1 + k) + 3 * k * k) 9973 k (by decide) (by omega)
        have hm1l := mix_lt (cell ns (at_ + 1 + k) + 3 * k * k) 9973 k (by omega)
        have hm2 := sp_mix (cell ns (at_ + 1 + k)) 9967 3 (by decide) (by decide)
        have hm3 : mulOk 3 (k : Int) = true := mulOk_l (by decide) (by decide)
        have hm4 : mulOk (3 * (k : Int)) (k : Int) = true := mulOk_l (by omega) (by omega)
        generalize mix (cell ns (at_ + 1 + k) + 3 * k * k) 9973 k = v1 at hm1 hm1l
        generalize mix (cell ns (at_ + 1 + k)) 9967 3 = v2 at hm2
        have e1 : pre.length + 1 = k := by omega
        rw [e1] at hI
        have hrl : rods.length < L := by simp [L_eq]; omega
        rw [List.length_append, List.length_singleton]
        have goal : ∀ (w : Int) (o b : Nat), o < k → p[o]? = some b → ∀ r, r = some (Out.nx [.val (scr ns) .frz, .val (.int at_) .frz, .val (.int w) .frz, .val (.int n) .frz, .val (.lst (p.map nD)) .frz, .val (.int mn) .frz, .val (.lst (rods.map rodD ++ [.tup [.int (min (a : Int) b), .int (max (a : Int) b)]])) .own1, .un, .un, .un, .un]) →
            ∃ b' : List (Nat × Nat), r = some (.nx [.val (scr ns) .frz, .val (.int at_) .frz, .val (.int w) .frz, .val (.int n) .frz, .val (.lst (p.map nD)) .frz, .val (.int mn) .frz, .val (.lst (b'.map rodD)) .own1, .un, .un, .un, .un]) ∧ Tr (p.take (pre.length + 1 + 1)).reverse b'.reverse ∧ b'.length ≤ pre.length + 1 := by
          intro w o b ho hb r hr
          refine ⟨rods ++ [(min a b, max a b)], ?_, by rw [e1]; exact fin k o a b rods hI ho hb ha, by simp; omega⟩
          rw [hr, List.map_append]
          simp only [List.map_cons, List.map_nil, rodD]
          rw [show ((min a b : Nat) : Int) = min (a : Int) b by omega, show ((max a b : Nat) : Int) = max (a : Int) b by omega]
        have hg : ∀ (o b : Nat) (i : Int), p[o]? = some b → i = (o : Int) → getIx (p.map nD) i = some (.int (b : Int)) := by
          intro o b i hb hi
          rw [hi, getIx_nat, List.getElem?_map, hb]; rfl
        have hga := hg k a k ha rfl
        by_cases c1 : mn = 1
        · obtain ⟨b, hb⟩ := hget (k - 1) (by omega)
          refine goal _ (k - 1) b (by omega) hb _ ?_
          have e2 := hg (k - 1) b ((k : Int) - 1) hb (by omega)
          simp [nD, hc, q_mulI, hm1, hm3, hm4, c1, e2, hga, hrl, PD_eq, -getIx_nat, -getIx_zero]
        · by_cases c2 : mn = 2
          · obtain ⟨b, hb⟩ := hget 0 (by omega)
            refine goal _ 0 b (by omega) hb _ ?_
            have e2 := hg 0 b 0 hb rfl
            simp [nD, hc, q_mulI, hm1, hm3, hm4, c2, e2, hga, hrl, PD_eq, -getIx_nat, -getIx_zero]
          · by_cases c3 : mn = 3
            · obtain ⟨b, hb⟩ := hget (k - 1 - v2) (by omega)
              refine goal _ (k - 1 - v2) b (by omega) hb _ ?_
              have e2 := hg (k - 1 - v2) b (max 0 ((k : Int) - 1 - v2)) hb (by omega)
              simp [nD, hc, q_mulI, hm1, hm2, hm3, hm4, c3, e2, hga, hrl, PD_eq, -getIx_nat, -getIx_zero]
            · obtain ⟨b, hb⟩ := hget v1 (by omega)
              refine goal _ v1 b (by omega) hb _ ?_
              have e2 := hg v1 b v1 hb rfl
              simp [nD, hc, q_mulI, hm1, hm2, hm3, hm4, c1, c2, c3, e2, hga, hrl, PD_eq, -getIx_nat, -getIx_zero]
      · intro rods hI
        obtain ⟨hI, hlen⟩ := hI
        rw [List.length_range', List.take_of_length_le (by omega)] at hI
        refine ⟨_, ?_, rods, hI, rfl⟩
        have hl3 : rods.length < L := by simp [L_eq]; simp at hlen; omega
        simp [hD, sortedV_R hl3]
  obtain ⟨d, h6, es, h5, h8⟩ := key
  subst h8
  exact ⟨n, sortR es, h6, Hedge.of_tr (n := n) h5 ((List.reverse_perm p).trans hpm) (List.reverse_perm es), hn18, hmost⟩
theorem sp_hedge (ns : List Int) (at_ : Nat) (hl : ns.length ≤ 63) : ∃ n rs, s_l_hedge [scr ns, .int at_] = some (hD n rs) ∧ Hedge n rs ∧ n ≤ 18 := by
  obtain ⟨n, rs, h1, h2, h3, _⟩ := sp_hedgeN ns at_ hl
  exact ⟨n, rs, h1, h2, h3⟩
end Hg
end

section
set_option autoImplicit false
set_option maxHeartbeats 1000000
/-! Pnb: neighbours, copy. -/
namespace Hg
def nbOf (v : Nat) (e : Nat × Nat) : List Nat := if e.1 = v then [e.2] else if e.2 = v then [e.1] else []
def nbRaw (rs : List (Nat × Nat)) (v : Nat) : List Nat := rs.flatMap (nbOf v)
def nb (rs : List (Nat × Nat)) (v : Nat) : List Nat := sortN (nbRaw rs v)
theorem nbRaw_len (rs : List (Nat × Nat)) (v : Nat) : (nbRaw rs v).length ≤ rs.length := by
  induction rs with
  | nil => exact Nat.le_refl _
  | cons e rs ih =>
    have : (nbOf v e).length ≤ 1 := by unfold nbOf; split; exact Nat.le_refl _; split; exact Nat.le_refl _; exact Nat.zero_le _
    show (nbOf v e ++ nbRaw rs v).length ≤ _
    rw [List.length_append, List.length_cons]
    omega
theorem nb_len (rs : List (Nat × Nat)) (v : Nat) : (nb rs v).length ≤ rs.length := by
  rw [nb, (sortN_perm _).length_eq]; exact nbRaw_len rs v
theorem mem_nbRaw {rs : List (Nat × Nat)} {v w : Nat} : w ∈ nbRaw rs v ↔ ∃ e ∈ rs, w ∈ nbOf v e := List.mem_flatMap
theorem mem_nb {rs : List (Nat × Nat)} {v w : Nat} (h : ∀ e ∈ rs, e.1 < e.2) : w ∈ nb rs v ↔ (v, w) ∈ rs ∨ (w, v) ∈ rs := by
  rw [nb, (sortN_perm _).mem_iff, mem_nbRaw]
  constructor
  · rintro ⟨⟨a, b⟩, he, hw⟩
    unfold nbOf at hw
    split at hw
    · rename_i h1; simp only at h1 hw; subst h1; simp at hw; subst hw; exact .inl he
    · split at hw
      · rename_i h1; simp only at h1 hw; subst h1; simp at hw; subst hw; exact .inr he
      · cases hw
  · rintro (h1 | h1)
    · exact ⟨_, h1, by simp [nbOf]⟩
    · have := h _ h1
      simp only at this
      exact ⟨_, h1, by simp [nbOf, show w ≠ v by omega]⟩
theorem map_range_set {β : Type} (n a : Nat) (F : Nat → β) (X : β) : ((List.range n).map F).set a X = (List.range n).map (fun v => if v = a then X else F v) := by
  apply List.ext_getElem?
  intro i
  rw [List.getElem?_set]
  by_cases h : a = i
  · subst h
    by_cases h2 : a < n
    · simp [h2]
    · simp [h2]
  · rw [if_neg h]
    by_cases h2 : i < n
    · simp [h2, show i ≠ a from fun e => h e.symm]
    · simp [h2]
theorem sp_neighbours {n : Nat} {rs : List (Nat × Nat)} (h : ∀ e ∈ rs, e.1 < n ∧ e.2 < n ∧ e.1 < e.2) (hn : n ≤ 1000) (hl : rs.length ≤ 1000) : s_neighbours [hD n rs] = some (rowsD ((List.range n).map (nb rs))) := by
  unfold s_neighbours
  refine runF_eq rfl ?_
  simp only [d_neighbours, startEnv]
  simp
  rw [ev_compD (List.range n) nD (fun _ => D.lst []) (own := false)]
  · simp
    refine for_step rs rodD (fun f : Nat → List Nat => [.val (hD n rs) .frz, .val (.lst ((List.range n).map fun v => nsD (f v))) .own2, .un, .un, .un, .un]) (fun pre f => f = nbRaw pre) (fun _ => []) ?_ ?_ rfl ?_ ?_
    · simp [hD]
    · rfl
    · rintro pre ⟨a, b⟩ post f e hf
      obtain ⟨ha, hb, hab⟩ := h (a, b) (by rw [e]; simp)
      simp only at ha hb hab
      have hpl : pre.length < 1000 := by have := congrArg List.length e; simp at this; omega
      have hfl : ∀ v, (f v).length < L := by intro v; rw [hf]; have := nbRaw_len pre v; simp [L_eq]; omega
      refine ⟨nbRaw (pre ++ [(a, b)]), ?_, rfl⟩
      have e1 := ixN_nat ha
      have e2 := ixN_nat hb
      have hba : b ≠ a := by omega
      simp [rodD, e1, e2, ha, hb, nsD, hfl, map_range_set, hba]
      intro v hv
      have e3 : nbRaw (pre ++ [(a, b)]) v = f v ++ nbOf v (a, b) := by
        rw [hf]; unfold nbRaw; rw [List.flatMap_append]; simp
      rw [e3]
      by_cases c1 : v = b
      · subst c1
        simp [nbOf, show a ≠ v by omega, nD]
      · by_cases c2 : v = a
        · subst c2
          simp [nbOf, c1, nD]
        · simp [nbOf, show a ≠ v from fun e => c2 e.symm, show b ≠ v from fun e => c1 e.symm, c1, c2]
    · intro f hf
      subst hf
      simp [freeze1]
      rw [ev_compM (List.range n) (fun v => nsD (nbRaw rs v)) (fun v => nsD (nb rs v)) (own := false)]
      · simp [rowsD]
      · exact evI_f rfl
      · intro v hv
        have hl2 : (nbRaw rs v).length < L := by have := nbRaw_len rs v; simp [L_eq]; omega
        exact ⟨_, rfl, .new1, ev_sortN rfl hl2, rfl⟩
      · simp [L_eq]; omega
  · exact evI_rng rfl hn
  · intro v hv
    exact ⟨_, rfl, by simp⟩
  · simp [L_eq]; omega
/-- a copy -/
theorem sp_copy (n : Nat) (rs : List (Nat × Nat)) : s_l_copy [hD n rs] = some (hD n rs) := by
  unfold s_l_copy
  refine runF_eq rfl ?_
  simp [d_l_copy, startEnv, hD]
end Hg
end

section
set_option autoImplicit false
set_option maxHeartbeats 1000000
/-! Ptips: tips. -/
namespace Hg
theorem enumFrom_eq (xs : List D) : ∀ n, enumFrom n xs = (xs.zipIdx n).map fun p => .tup [nD p.2, p.1] := by
  induction xs with
  | nil => intro n; rfl
  | cons x xs ih => intro n; simp only [enumFrom, List.zipIdx_cons, List.map_cons, ih]; rfl
theorem enum_range (n : Nat) (F : Nat → D) : enumFrom 0 ((List.range n).map F) = (List.range n).map fun v => .tup [nD v, F v] := by
  rw [enumFrom_eq]
  apply List.ext_getElem?
  intro i
  by_cases h : i < n <;> simp [h]
def tipsOf (n : Nat) (rs : List (Nat × Nat)) : List Nat := (List.range n).filter fun v => decide ((nb rs v).length < 2)
theorem sp_tips {n : Nat} {rs : List (Nat × Nat)} (h : ∀ e ∈ rs, e.1 < n ∧ e.2 < n ∧ e.1 < e.2) (hn : n ≤ 1000) (hl : rs.length ≤ 1000) : s_tips [hD n rs] = some (nsD (tipsOf n rs)) := by
  unfold s_tips
  refine runF_eq rfl ?_
  have h1 := sp_neighbours h hn hl
  simp only [d_tips, startEnv]
  simp
  rw [ev_comp (List.range n) (fun v => .tup [nD v, nsD (nb rs v)]) (fun v => decide ((nb rs v).length < 2)) nD (own := false)]
  · simp [nsD, tipsOf]
  · simp [h1, rowsD, List.map_map]
    rw [show List.map (nsD ∘ nb rs) (List.range n) = List.map (fun v => nsD (nb rs v)) (List.range n) from rfl, enum_range]
  · intro v hv
    refine ⟨_, rfl, ?_, fun _ => ⟨.frz, by simp [nD], rfl⟩⟩
    simp [nD, nsD]
    try omega
  · simp [L_eq]; omega
end Hg
end

section
set_option autoImplicit false
set_option maxHeartbeats 1000000
/-! Tree: what holds of hedges as trees: sides of a rod, distances, the knot ahead. Plain mathematics. -/
namespace Hg
def Adj (rs : List (Nat × Nat)) (u v : Nat) : Prop := (u, v) ∈ rs ∨ (v, u) ∈ rs
theorem Adj.symm {rs : List (Nat × Nat)} {u v : Nat} (h : Adj rs u v) : Adj rs v u := h.elim .inr .inl
theorem Tr.split {vs : List Nat} {es : List (Nat × Nat)} (h : Tr vs es) : ∀ e ∈ es, ∃ c : Nat → Bool, c e.1 ≠ c e.2 ∧ ∀ e' ∈ es, e' ≠ e → c e'.1 = c e'.2 := by
  induction h with
  | one v => intro e he; cases he
  | @add vs es u v h hu hv ih =>
    have huv : u ≠ v := fun e => hv (e ▸ hu)
    intro e he
    rcases List.mem_cons.mp he with rfl | he
    · refine ⟨fun x => decide (x = v), ?_, ?_⟩
      · show decide (min u v = v) ≠ decide (max u v = v)
        by_cases c : u ≤ v
        · rw [Nat.min_eq_left c, Nat.max_eq_right c]; simp [huv]
        · rw [Nat.min_eq_right (by omega), Nat.max_eq_left (by omega)]; simp [huv]
      · intro e' he' hne
        rcases List.mem_cons.mp he' with rfl | he'
        · exact absurd rfl hne
        · obtain ⟨h1, h2, _⟩ := h.mem e' he'
          have : e'.1 ≠ v := fun z => hv (z ▸ h1)
          have : e'.2 ≠ v := fun z => hv (z ▸ h2)
          simp [*]
    · obtain ⟨c, h1, h2⟩ := ih e he
      obtain ⟨m1, m2, _⟩ := h.mem e he
      have n1 : e.1 ≠ v := fun z => hv (z ▸ m1)
      have n2 : e.2 ≠ v := fun z => hv (z ▸ m2)
      refine ⟨fun x => if x = v then c u else c x, by simp only [n1, n2, if_false]; exact h1, ?_⟩
      intro e' he' hne
      rcases List.mem_cons.mp he' with rfl | he'
      · show (if min u v = v then c u else c (min u v)) = (if max u v = v then c u else c (max u v))
        by_cases q : u ≤ v
        · rw [Nat.min_eq_left q, Nat.max_eq_right q]; simp [huv]
        · rw [Nat.min_eq_right (by omega), Nat.max_eq_left (by omega)]; simp [huv]
      · obtain ⟨m1, m2, _⟩ := h.mem e' he'
        have n1 : e'.1 ≠ v := fun z => hv (z ▸ m1)
        have n2 : e'.2 ≠ v := fun z => hv (z ▸ m2)
        simp only [n1, n2, if_false]
        exact h2 e' he' hne
theorem Tr.conn {vs : List Nat} {es : List (Nat × Nat)} (h : Tr vs es) (P : Nat → Prop) : (∀ e ∈ es, (P e.1 ↔ P e.2)) → ∀ x ∈ vs, ∀ y ∈ vs, (P x ↔ P y) := by
  induction h with
  | one v => intro _ x hx y hy; simp at hx hy; rw [hx, hy]
  | @add vs es u v h hu hv ih =>
    intro hP
    have ih := ih fun e he => hP e (List.mem_cons_of_mem _ he)
    have huv : P u ↔ P v := by
      have := hP _ (List.mem_cons_self ..)
      simp only at this
      by_cases q : u ≤ v
      · rwa [Nat.min_eq_left q, Nat.max_eq_right q] at this
      · rw [Nat.min_eq_right (by omega), Nat.max_eq_left (by omega)] at this; exact this.symm
    have key : ∀ x ∈ v :: vs, (P x ↔ P u) := by
      intro x hx
      rcases List.mem_cons.mp hx with rfl | hx
      · exact huv.symm
      · exact ih x hx u hu
    intro x hx y hy
    exact (key x hx).trans (key y hy).symm
namespace Hedge
variable {n : Nat} {rs : List (Nat × Nat)}
theorem split (h : Hedge n rs) {e : Nat × Nat} (he : e ∈ rs) : ∃ c : Nat → Bool, c e.1 ≠ c e.2 ∧ ∀ e' ∈ rs, e' ≠ e → c e'.1 = c e'.2 := by
  obtain ⟨vs, es, h1, h2, h3⟩ := h.tr
  obtain ⟨c, h4, h5⟩ := h1.split e (h3.mem_iff.mpr he)
  exact ⟨c, h4, fun e' he' => h5 e' (h3.mem_iff.mpr he')⟩
theorem conn_iff (h : Hedge n rs) (P : Nat → Prop) (hP : ∀ e ∈ rs, (P e.1 ↔ P e.2)) {x y : Nat} (hx : x < n) (hy : y < n) : P x ↔ P y := by
  obtain ⟨vs, es, h1, h2, h3⟩ := h.tr
  exact h1.conn P (fun e he => hP e (h3.mem_iff.mp he)) x (h2.mem_iff.mpr (List.mem_range.mpr hx)) y (h2.mem_iff.mpr (List.mem_range.mpr hy))
/-- what is closed under neighbours holds of all -/
theorem conn (h : Hedge n rs) (P : Nat → Prop) (hP : ∀ u v, Adj rs u v → P u → P v) {x y : Nat} (hx : x < n) (hy : y < n) (hp : P x) : P y :=
  (h.conn_iff P (fun e he => ⟨hP _ _ (.inl he), hP _ _ (.inr he)⟩) hx hy).mp hp
theorem adj_lt (h : Hedge n rs) {u v : Nat} (a : Adj rs u v) : u < n ∧ v < n ∧ u ≠ v := by
  rcases a with a | a
  · have := h.lt a; simp only at this; omega
  · have := h.lt a; simp only at this; omega
end Hedge
open Classical in
/-- on which side of a rod a knot stands -/
noncomputable def side (rs : List (Nat × Nat)) (e : Nat × Nat) : Nat → Bool :=
  if h : ∃ c : Nat → Bool, c e.1 ≠ c e.2 ∧ ∀ e' ∈ rs, e' ≠ e → c e'.1 = c e'.2 then Classical.choose h else fun _ => false
/-- the rod between two -/
def rodOf (u v : Nat) : Nat × Nat := (min u v, max u v)
theorem rodOf_comm (u v : Nat) : rodOf u v = rodOf v u := by unfold rodOf; rw [Nat.min_comm, Nat.max_comm]
/-- how far one knot is from another: the rods that part them -/
noncomputable def dist (rs : List (Nat × Nat)) (x y : Nat) : Nat := rs.countP fun e => side rs e x != side rs e y
namespace Hedge
variable {n : Nat} {rs : List (Nat × Nat)}
theorem adj_rod (h : Hedge n rs) {u v : Nat} (a : Adj rs u v) : rodOf u v ∈ rs := by
  rcases a with a | a
  · have := h.lt a; simp only at this
    unfold rodOf; rw [Nat.min_eq_left (by omega), Nat.max_eq_right (by omega)]; exact a
  · have := h.lt a; simp only at this
    unfold rodOf; rw [Nat.min_eq_right (by omega), Nat.max_eq_left (by omega)]; exact a
theorem rod_eq (h : Hedge n rs) {e : Nat × Nat} (he : e ∈ rs) : rodOf e.1 e.2 = e := by
  have := h.lt he
  unfold rodOf; rw [Nat.min_eq_left (by omega), Nat.max_eq_right (by omega)]
theorem side_ne (h : Hedge n rs) {e : Nat × Nat} (he : e ∈ rs) : side rs e e.1 ≠ side rs e e.2 := by
  have hs := h.split he
  unfold side
  rw [dif_pos hs]
  exact (Classical.choose_spec hs).1
theorem side_eq (h : Hedge n rs) {e e' : Nat × Nat} (he : e ∈ rs) (he' : e' ∈ rs) (hne : e' ≠ e) : side rs e e'.1 = side rs e e'.2 := by
  have hs := h.split he
  unfold side
  rw [dif_pos hs]
  exact (Classical.choose_spec hs).2 e' he' hne
theorem side_adj_ne (h : Hedge n rs) {u v : Nat} (a : Adj rs u v) : side rs (rodOf u v) u ≠ side rs (rodOf u v) v := by
  have := h.side_ne (h.adj_rod a)
  unfold rodOf at this ⊢
  by_cases q : u ≤ v
  · rw [Nat.min_eq_left q, Nat.max_eq_right q] at this ⊢; exact this
  · rw [Nat.min_eq_right (by omega), Nat.max_eq_left (by omega)] at this ⊢; exact this.symm
theorem side_adj_eq (h : Hedge n rs) {u v : Nat} {e : Nat × Nat} (he : e ∈ rs) (a : Adj rs u v) (hne : rodOf u v ≠ e) : side rs e u = side rs e v := by
  have := h.side_eq he (h.adj_rod a) hne
  unfold rodOf at this
  by_cases q : u ≤ v
  · rw [Nat.min_eq_left q, Nat.max_eq_right q] at this; exact this
  · rw [Nat.min_eq_right (by omega), Nat.max_eq_left (by omega)] at this; exact this.symm
end Hedge
theorem dist_self (rs : List (Nat × Nat)) (x : Nat) : dist rs x x = 0 := by
  unfold dist; rw [List.countP_eq_zero]; simp
theorem dist_comm (rs : List (Nat × Nat)) (x y : Nat) : dist rs x y = dist rs y x := by
  unfold dist
  congr 1
  funext e
  cases side rs e x <;> cases side rs e y <;> rfl
theorem countP_tri (xs : List (Nat × Nat)) (p q r : Nat × Nat → Bool) (h : ∀ x, r x = true → p x = true ∨ q x = true) : xs.countP r ≤ xs.countP p + xs.countP q := by
  induction xs with
  | nil => simp
  | cons x xs ih =>
    rw [List.countP_cons, List.countP_cons, List.countP_cons]
    have := h x
    cases hr : r x <;> cases hp : p x <;> cases hq : q x <;> simp_all <;> omega
theorem dist_tri (rs : List (Nat × Nat)) (x y z : Nat) : dist rs x z ≤ dist rs x y + dist rs y z := by
  unfold dist
  apply countP_tri
  intro e
  cases side rs e x <;> cases side rs e y <;> cases side rs e z <;> simp
/-- counts that differ at one place -/
theorem countP_one {xs : List (Nat × Nat)} (hn : xs.Nodup) {e : Nat × Nat} (he : e ∈ xs) (p q : Nat × Nat → Bool) (h1 : p e = false) (h2 : q e = true) (h : ∀ x ∈ xs, x ≠ e → p x = q x) : xs.countP q = xs.countP p + 1 := by
  induction xs with
  | nil => cases he
  | cons x xs ih =>
    rw [List.countP_cons, List.countP_cons]
    obtain ⟨hx, hn⟩ := List.nodup_cons.mp hn
    rcases List.mem_cons.mp he with rfl | he
    · have : xs.countP q = xs.countP p := by
        apply List.countP_congr
        intro y hy
        have : y ≠ e := fun z => hx (z ▸ hy)
        rw [h y (List.mem_cons_of_mem _ hy) this]
      rw [this, h1, h2]; simp
    · have hxe : x ≠ e := fun z => hx (z ▸ he)
      rw [ih hn he fun y hy => h y (List.mem_cons_of_mem _ hy), h x (List.mem_cons_self ..) hxe]
      omega
namespace Hedge
variable {n : Nat} {rs : List (Nat × Nat)}
/-- one step goes one on, or back -/
theorem dist_adj (h : Hedge n rs) {u v : Nat} (a : Adj rs u v) (r : Nat) : (side rs (rodOf u v) r = side rs (rodOf u v) u → dist rs r v = dist rs r u + 1) ∧ (side rs (rodOf u v) r = side rs (rodOf u v) v → dist rs r u = dist rs r v + 1) := by
  have hr := h.adj_rod a
  have hne := h.side_adj_ne a
  have heq : ∀ x ∈ rs, x ≠ rodOf u v → side rs x u = side rs x v := fun x hx hx2 => h.side_adj_eq hx a hx2.symm
  constructor
  · intro hs
    refine countP_one h.nodup hr _ _ ?_ ?_ fun x hx hx2 => ?_
    · simp [hs]
    · simp [hs, hne]
    · rw [heq x hx hx2]
  · intro hs
    refine countP_one h.nodup hr _ _ ?_ ?_ fun x hx hx2 => ?_
    · simp [hs]
    · simp [hs, hne.symm]
    · rw [heq x hx hx2]
theorem dist_adj_or (h : Hedge n rs) {u v : Nat} (a : Adj rs u v) (r : Nat) : dist rs r v = dist rs r u + 1 ∨ dist rs r u = dist rs r v + 1 := by
  obtain ⟨h1, h2⟩ := h.dist_adj a r
  have := h.side_adj_ne a
  by_cases c : side rs (rodOf u v) r = side rs (rodOf u v) u
  · exact .inl (h1 c)
  · refine .inr (h2 ?_)
    revert c this
    cases side rs (rodOf u v) r <;> cases side rs (rodOf u v) u <;> cases side rs (rodOf u v) v <;> simp
theorem side_of_lt (h : Hedge n rs) {u v r : Nat} (a : Adj rs u v) (hl : dist rs r u < dist rs r v) : side rs (rodOf u v) r = side rs (rodOf u v) u := by
  obtain ⟨h1, h2⟩ := h.dist_adj a r
  have := h.side_adj_ne a
  refine Classical.byContradiction fun c => ?_
  have : side rs (rodOf u v) r = side rs (rodOf u v) v := by
    revert c this
    cases side rs (rodOf u v) r <;> cases side rs (rodOf u v) u <;> cases side rs (rodOf u v) v <;> simp
  have := h2 this
  omega
/-- the branches at a knot have nothing in common -/
theorem branch_disj (h : Hedge n rs) {v u u' x : Nat} (a : Adj rs u v) (a' : Adj rs u' v) (hne : u ≠ u') (hx : x < n) : ¬(side rs (rodOf u v) x = side rs (rodOf u v) u ∧ side rs (rodOf u' v) x = side rs (rodOf u' v) u') := by
  have hr := h.adj_rod a
  have hr' := h.adj_rod a'
  have hd : rodOf u v ≠ rodOf u' v := by
    intro e
    have e1 := congrArg Prod.fst e
    have e2 := congrArg Prod.snd e
    simp only [rodOf] at e1 e2
    omega
  have s1 := h.side_adj_ne a
  have s2 := h.side_adj_ne a'
  have s3 : side rs (rodOf u v) u' = side rs (rodOf u v) v := h.side_adj_eq hr a' hd.symm
  have s4 : side rs (rodOf u' v) u = side rs (rodOf u' v) v := h.side_adj_eq hr' a hd
  have hv : v < n := (h.adj_lt a).2.1
  refine (h.conn_iff (fun x => ¬(side rs (rodOf u v) x = side rs (rodOf u v) u ∧ side rs (rodOf u' v) x = side rs (rodOf u' v) u')) (fun e he => ?_) hv hx).mp ?_
  · by_cases c1 : e = rodOf u v
    · have n1 : ¬(side rs (rodOf u' v) u = side rs (rodOf u' v) u') := by rw [s4]; exact fun z => s2 z.symm
      have n2 : ¬(side rs (rodOf u' v) v = side rs (rodOf u' v) u') := fun z => s2 z.symm
      subst c1
      have key : ∀ z, z = u ∨ z = v → ¬(side rs (rodOf u v) z = side rs (rodOf u v) u ∧ side rs (rodOf u' v) z = side rs (rodOf u' v) u') := by
        rintro z (rfl | rfl) hz
        · exact n1 hz.2
        · exact n2 hz.2
      have k1 := key (rodOf u v).1 (by simp only [rodOf]; omega)
      have k2 := key (rodOf u v).2 (by simp only [rodOf]; omega)
      exact ⟨fun _ => k2, fun _ => k1⟩
    · by_cases c2 : e = rodOf u' v
      · have n1 : ¬(side rs (rodOf u v) u' = side rs (rodOf u v) u) := by rw [s3]; exact fun z => s1 z.symm
        have n2 : ¬(side rs (rodOf u v) v = side rs (rodOf u v) u) := fun z => s1 z.symm
        subst c2
        have key : ∀ z, z = u' ∨ z = v → ¬(side rs (rodOf u v) z = side rs (rodOf u v) u ∧ side rs (rodOf u' v) z = side rs (rodOf u' v) u') := by
          rintro z (rfl | rfl) hz
          · exact n1 hz.1
          · exact n2 hz.1
        have k1 := key (rodOf u' v).1 (by simp only [rodOf]; omega)
        have k2 := key (rodOf u' v).2 (by simp only [rodOf]; omega)
        exact ⟨fun _ => k2, fun _ => k1⟩
      · rw [h.side_eq hr he c1, h.side_eq hr' he c2]
  · rintro ⟨z, _⟩
    exact s1 z.symm
/-- one neighbour at most is nearer -/
theorem nearer_uniq (h : Hedge n rs) {r v u u' : Nat} (hr : r < n) (a : Adj rs u v) (a' : Adj rs u' v) (hl : dist rs r u < dist rs r v) (hl' : dist rs r u' < dist rs r v) : u = u' :=
  Classical.byContradiction fun hne => h.branch_disj a a' hne hr ⟨h.side_of_lt a hl, h.side_of_lt a' hl'⟩
theorem rod_inj {u v w z : Nat} (h : rodOf u v = rodOf w z) : (u = w ∧ v = z) ∨ (u = z ∧ v = w) := by
  have e1 := congrArg Prod.fst h
  have e2 := congrArg Prod.snd h
  simp only [rodOf] at e1 e2
  omega
/-- each other knot is in a branch -/
theorem branch_ex (h : Hedge n rs) {v z : Nat} (hv : v < n) (hz : z < n) (hne : z ≠ v) : ∃ u, Adj rs u v ∧ side rs (rodOf u v) z = side rs (rodOf u v) u := by
  refine h.conn (fun z => z ≠ v → ∃ u, Adj rs u v ∧ side rs (rodOf u v) z = side rs (rodOf u v) u) ?_ hv hz (fun c => absurd rfl c) hne
  intro z w a ih hw
  by_cases c : z = v
  · subst c
    exact ⟨w, a.symm, rfl⟩
  · obtain ⟨u, h1, h2⟩ := ih c
    refine ⟨u, h1, ?_⟩
    rw [← h2]
    refine (h.side_adj_eq (h.adj_rod h1) a ?_).symm
    intro e
    rcases rod_inj e with ⟨_, e⟩ | ⟨e, _⟩
    · exact hw e
    · exact c e
theorem ahead_ex (h : Hedge n rs) {r v : Nat} (hr : r < n) (hv : v < n) (hne : r ≠ v) : ∃ u, Adj rs u v ∧ dist rs r v = dist rs r u + 1 := by
  obtain ⟨u, h1, h2⟩ := h.branch_ex hv hr hne
  exact ⟨u, h1, (h.dist_adj h1 r).1 h2⟩
theorem dist_zero (h : Hedge n rs) {x y : Nat} (hx : x < n) (hy : y < n) (hd : dist rs x y = 0) : x = y :=
  Classical.byContradiction fun hne => by
    obtain ⟨u, _, h2⟩ := h.ahead_ex hx hy hne
    omega
end Hedge
end Hg
end

section
set_option autoImplicit false
set_option maxHeartbeats 1000000
/-! Par: the knots in the order in which they are come to, each with the one ahead. -/
namespace Hg
abbrev PL := List (Nat × Option Nat)
def oD : Option Nat → D | none => .non | some u => nD u
def parD (p : Nat × Option Nat) : D := .tup [nD p.1, oD p.2]
def psD (ps : PL) : D := .lst (ps.map parD)
/-- some rods of a hedge -/
structure Forest (n : Nat) (rs : List (Nat × Nat)) : Prop where
  of : ∃ rs', Hedge n rs' ∧ ∀ e ∈ rs, e ∈ rs'
  nd : rs.Nodup
theorem Hedge.forest {n : Nat} {rs : List (Nat × Nat)} (h : Hedge n rs) : Forest n rs := ⟨⟨rs, h, fun _ h => h⟩, h.nodup⟩
inductive Grow (rs : List (Nat × Nat)) (r : Nat) : PL → Prop where
  | root : Grow rs r [(r, none)]
  | add {ps : PL} (v u : Nat) : Grow rs r ps → u ∈ ps.map (·.1) → Adj rs u v → v ∉ ps.map (·.1) → Grow rs r (ps ++ [(v, some u)])
namespace Grow
variable {n r : Nat} {rs : List (Nat × Nat)} {ps : PL}
theorem nodup (g : Grow rs r ps) : (ps.map (·.1)).Nodup := by
  induction g with
  | root => simp
  | add v u g hu a hv ih =>
    rw [List.map_append, List.nodup_append]
    refine ⟨ih, by simp, ?_⟩
    intro x hx y hy e
    simp at hy
    subst hy
    subst e
    exact hv hx
theorem head (g : Grow rs r ps) : ∃ t, ps = (r, none) :: t := by
  induction g with
  | root => exact ⟨[], rfl⟩
  | add v u g hu a hv ih => obtain ⟨t, rfl⟩ := ih; exact ⟨_, rfl⟩
theorem root_mem (g : Grow rs r ps) : r ∈ ps.map (·.1) := by obtain ⟨t, rfl⟩ := g.head; simp
/-- a rod that is none of those grown along parts none of the knots -/
theorem same {rs' : List (Nat × Nat)} (h : Hedge n rs') (hs : ∀ e ∈ rs, e ∈ rs') {e : Nat × Nat} (he : e ∈ rs') (g : Grow rs r ps) : (∀ v u, (v, some u) ∈ ps → rodOf u v ≠ e) → ∀ x ∈ ps.map (·.1), side rs' e x = side rs' e r := by
  induction g with
  | root => intro _ x hx; simp at hx; rw [hx]
  | @add ps v u g hu a hv ih =>
    intro hne x hx
    have ih := ih fun v' u' h' => hne v' u' (List.mem_append_left _ h')
    rw [List.map_append, List.mem_append] at hx
    rcases hx with hx | hx
    · exact ih x hx
    · simp at hx
      subst hx
      rw [← ih u hu]
      have a' : Adj rs' u x := a.elim (fun q => .inl (hs _ q)) (fun q => .inr (hs _ q))
      exact (h.side_adj_eq he a' (hne x u (by simp))).symm
theorem up_mem (g : Grow rs r ps) : ∀ v u, (v, some u) ∈ ps → u ∈ ps.map (·.1) ∧ Adj rs u v := by
  induction g with
  | root => intro v u h; simp at h
  | @add ps v u g hu a hv ih =>
    intro v' u' h
    rw [List.mem_append] at h
    rcases h with h | h
    · obtain ⟨h1, h2⟩ := ih v' u' h
      exact ⟨by rw [List.map_append]; exact List.mem_append_left _ h1, h2⟩
    · simp at h
      obtain ⟨rfl, rfl⟩ := h
      exact ⟨by rw [List.map_append]; exact List.mem_append_left _ hu, a⟩
theorem lt (hf : Forest n rs) (hr : r < n) (g : Grow rs r ps) : ∀ x ∈ ps.map (·.1), x < n := by
  obtain ⟨rs', h, hs⟩ := hf.of
  induction g with
  | root => intro x hx; simp at hx; omega
  | @add ps v u g hu a hv ih =>
    intro x hx
    rw [List.map_append, List.mem_append] at hx
    rcases hx with hx | hx
    · exact ih x hx
    · simp at hx
      subst hx
      exact (h.adj_lt (a.elim (fun q => .inl (hs _ q)) (fun q => .inr (hs _ q)))).2.1
end Grow
theorem nodup_len {xs : List Nat} {n : Nat} (h : xs.Nodup) (hl : ∀ x ∈ xs, x < n) : xs.length ≤ n := by
  have h1 : xs.Perm ((List.range n).filter fun x => decide (x ∈ xs)) :=
    (List.perm_ext_iff_of_nodup h (List.nodup_range.filter _)).mpr fun x => by
      rw [List.mem_filter, List.mem_range]
      exact ⟨fun hx => ⟨hl x hx, decide_eq_true hx⟩, fun hx => of_decide_eq_true hx.2⟩
  rw [h1.length_eq]
  exact Nat.le_trans (List.length_filter_le _ _) (by simp)
theorem nodup_perm {xs : List Nat} {n : Nat} (h : xs.Nodup) (hl : ∀ x, x ∈ xs ↔ x < n) : xs.Perm (List.range n) :=
  (List.perm_ext_iff_of_nodup h List.nodup_range).mpr fun x => by rw [hl, List.mem_range]
/-- seen from r: what is come to -/
structure Come (n : Nat) (rs : List (Nat × Nat)) (r : Nat) (ps : PL) : Prop where
  grow : Grow rs r ps
  all : ∀ u ∈ ps.map (·.1), ∀ v, Adj rs u v → v ∈ ps.map (·.1)
structure BInv (rs : List (Nat × Nat)) (r : Nat) (at_ : Nat) (ps : PL) : Prop where
  g : Grow rs r ps
  a : at_ ≤ ps.length
  c : ∀ h a, (h, a) ∈ ps.take at_ → ∀ o ∈ nb rs h, some o ≠ a → (o, some h) ∈ ps
  e : ∀ v u, (v, some u) ∈ ps → u ∈ (ps.take at_).map (·.1)
def kids (rs : List (Nat × Nat)) (h : Nat) (a : Option Nat) : List Nat := (nb rs h).filter fun o => decide (some o ≠ a)
theorem Forest.lt {n : Nat} {rs : List (Nat × Nat)} (hf : Forest n rs) : ∀ e ∈ rs, e.1 < n ∧ e.2 < n ∧ e.1 < e.2 := by
  obtain ⟨rs', h, hs⟩ := hf.of
  exact fun e he => h.lt (hs e he)
theorem Forest.mem_nb {n : Nat} {rs : List (Nat × Nat)} (hf : Forest n rs) {v w : Nat} : w ∈ nb rs v ↔ Adj rs v w := Hg.mem_nb fun e he => (hf.lt e he).2.2
theorem nbRaw_nodup {rs : List (Nat × Nat)} (h : ∀ e ∈ rs, e.1 < e.2) (hn : rs.Nodup) (v : Nat) : (nbRaw rs v).Nodup := by
  induction rs with
  | nil => exact List.nodup_nil
  | cons e rs ih =>
    obtain ⟨hx, hn⟩ := List.nodup_cons.mp hn
    have h' : ∀ e ∈ rs, e.1 < e.2 := fun e he => h e (List.mem_cons_of_mem _ he)
    show (nbOf v e ++ nbRaw rs v).Nodup
    have he := h e (List.mem_cons_self ..)
    rw [List.nodup_append]
    refine ⟨?_, ih h' hn, ?_⟩
    · unfold nbOf; split; simp; split; simp; simp
    · intro x hx1 y hy hxy
      subst hxy
      have h2 : x ∈ nb rs v := (sortN_perm _).mem_iff.mpr hy
      rw [mem_nb h'] at h2
      obtain ⟨a, b⟩ := e
      unfold nbOf at hx1
      split at hx1
      · rename_i c; simp at c hx1; subst c; subst hx1
        rcases h2 with h2 | h2
        · exact hx h2
        · have := h' _ h2; simp at this he; omega
      · split at hx1
        · rename_i c; simp at c hx1; subst c; subst hx1
          rcases h2 with h2 | h2
          · have := h' _ h2; simp at this he; omega
          · exact hx h2
        · cases hx1
theorem Forest.nb_nodup {n : Nat} {rs : List (Nat × Nat)} (hf : Forest n rs) (v : Nat) : (nb rs v).Nodup := (sortN_perm _).nodup_iff.mpr (nbRaw_nodup (fun e he => (hf.lt e he).2.2) hf.nd v)
theorem nodup_fst_eq {ps : PL} (h : (ps.map (·.1)).Nodup) {v : Nat} {a b : Option Nat} (h1 : (v, a) ∈ ps) (h2 : (v, b) ∈ ps) : a = b := by
  induction ps with
  | nil => cases h1
  | cons p ps ih =>
    obtain ⟨hx, hn⟩ := List.nodup_cons.mp h
    rcases List.mem_cons.mp h1 with e1 | h1
    · rcases List.mem_cons.mp h2 with e2 | h2
      · rw [← e1] at e2; cases e2; rfl
      · rw [← e1] at hx; exact absurd (List.mem_map_of_mem (f := (·.1)) h2) hx
    · rcases List.mem_cons.mp h2 with e2 | h2
      · rw [← e2] at hx; exact absurd (List.mem_map_of_mem (f := (·.1)) h1) hx
      · exact ih hn h1 h2
theorem BInv.step {n r : Nat} {rs : List (Nat × Nat)} (hf : Forest n rs) (hr : r < n) {at_ : Nat} {ps : PL} (b : BInv rs r at_ ps) {h : Nat} {a : Option Nat} (hat : ps[at_]? = some (h, a)) :
    BInv rs r (at_ + 1) (ps ++ (kids rs h a).map fun o => (o, some h)) := by
  obtain ⟨rs', hh, hs⟩ := hf.of
  have hlt : at_ < ps.length := (List.getElem?_eq_some_iff.mp hat).1
  have hge : ps[at_] = (h, a) := (List.getElem?_eq_some_iff.mp hat).2
  have hmem : (h, a) ∈ ps := hge ▸ List.getElem_mem hlt
  have hh1 : h ∈ ps.map (·.1) := List.mem_map_of_mem (f := (·.1)) hmem
  have hnd := b.g.nodup
  have hnt : h ∉ (ps.take at_).map (·.1) := by
    intro hm
    have e := List.take_append_drop at_ ps
    rw [← e, List.map_append, List.nodup_append] at hnd
    refine hnd.2.2 h hm h ?_ rfl
    rw [List.drop_eq_getElem_cons hlt, List.map_cons, hge]
    exact List.mem_cons_self ..
  have hfresh : ∀ o ∈ kids rs h a, o ∉ ps.map (·.1) := by
    intro o ho hop
    obtain ⟨ho1, ho2⟩ := List.mem_filter.mp ho
    have ho2 := of_decide_eq_true ho2
    have ha : Adj rs h o := hf.mem_nb.mp ho1
    have ha' : Adj rs' h o := ha.elim (fun q => .inl (hs _ q)) (fun q => .inr (hs _ q))
    have hsame := b.g.same hh hs (hh.adj_rod ha') (fun v u hv e => ?_)
    · have h1 := hsame h hh1
      have h2 := hsame o hop
      exact hh.side_adj_ne ha' (h1.trans h2.symm)
    · rcases Hedge.rod_inj e with ⟨e1, e2⟩ | ⟨e1, e2⟩
      · subst e1; subst e2
        exact hnt (b.e _ _ hv)
      · subst e1; subst e2
        exact ho2 (nodup_fst_eq hnd hv hmem)
  have hkn : (kids rs h a).Nodup := (hf.nb_nodup h).filter _
  have hka : ∀ o ∈ kids rs h a, Adj rs h o := fun o ho => hf.mem_nb.mp (List.mem_filter.mp ho).1
  have hg : ∀ (ks : List Nat) (qs : PL), Grow rs r qs → h ∈ qs.map (·.1) → ks.Nodup → (∀ o ∈ ks, o ∉ qs.map (·.1)) → (∀ o ∈ ks, Adj rs h o) → Grow rs r (qs ++ ks.map fun o => (o, some h)) := by
    intro ks
    induction ks with
    | nil => intro qs hq _ _ _ _; simpa using hq
    | cons o ks ih =>
      intro qs hq hm h1 h2 h3
      obtain ⟨h4, h5⟩ := List.nodup_cons.mp h1
      have hq2 := Grow.add o h hq hm (h3 o (List.mem_cons_self ..)) (h2 o (List.mem_cons_self ..))
      have := ih (qs ++ [(o, some h)]) hq2 (by rw [List.map_append]; exact List.mem_append_left _ hm) h5 (fun o' ho' => by
        rw [List.map_append, List.mem_append]
        rintro (q | q)
        · exact h2 o' (List.mem_cons_of_mem _ ho') q
        · simp at q; subst q; exact h4 ho') fun o' ho' => h3 o' (List.mem_cons_of_mem _ ho')
      rw [List.append_assoc] at this
      exact this
  have htk : (ps ++ (kids rs h a).map fun o => (o, some h)).take (at_ + 1) = ps.take at_ ++ [(h, a)] := by
    rw [List.take_append_of_le_length (by omega), List.take_succ, hat]; rfl
  refine ⟨hg _ _ b.g hh1 hkn hfresh hka, by rw [List.length_append]; omega, ?_, ?_⟩
  · intro h' a' hm o ho hne
    rw [htk, List.mem_append] at hm
    rcases hm with hm | hm
    · exact List.mem_append_left _ (b.c h' a' hm o ho hne)
    · simp at hm
      obtain ⟨rfl, rfl⟩ := hm
      exact List.mem_append_right _ (List.mem_map.mpr ⟨o, List.mem_filter.mpr ⟨ho, decide_eq_true hne⟩, rfl⟩)
  · intro v u hm
    rw [htk, List.map_append, List.mem_append]
    rw [List.mem_append] at hm
    rcases hm with hm | hm
    · exact .inl (b.e v u hm)
    · obtain ⟨o, ho, e⟩ := List.mem_map.mp hm
      cases e
      exact .inr (by simp)
theorem BInv.done {n r : Nat} {rs : List (Nat × Nat)} (hf : Forest n rs) {ps : PL} (b : BInv rs r ps.length ps) : Come n rs r ps := by
  refine ⟨b.g, fun u hu v a => ?_⟩
  obtain ⟨⟨u', p⟩, hp, e⟩ := List.mem_map.mp hu
  simp at e
  subst e
  by_cases c : some v = p
  · subst c
    exact (b.g.up_mem _ _ hp).1
  · have := b.c u' p (by rw [List.take_length]; exact hp) v (hf.mem_nb.mpr a) c
    exact List.mem_map_of_mem (f := (·.1)) this
theorem Come.perm {n r : Nat} {rs : List (Nat × Nat)} {ps : PL} (h : Hedge n rs) (hr : r < n) (c : Come n rs r ps) : (ps.map (·.1)).Perm (List.range n) := by
  refine nodup_perm c.grow.nodup fun x => ⟨c.grow.lt h.forest hr x, fun hx => ?_⟩
  exact h.conn (fun z => z ∈ ps.map (·.1)) (fun u v a hu => c.all u hu v a) hr hx c.grow.root_mem
/-! ### along the order -/
theorem Grow.last {r : Nat} {rs : List (Nat × Nat)} {pre : PL} {v : Nat} {a : Option Nat} (g : Grow rs r (pre ++ [(v, a)])) : (pre = [] ∧ v = r ∧ a = none) ∨ ∃ u, a = some u ∧ Grow rs r pre ∧ u ∈ pre.map (·.1) ∧ Adj rs u v ∧ v ∉ pre.map (·.1) := by
  generalize e : pre ++ [(v, a)] = qs at g
  cases g with
  | root =>
    have h1 := List.append_inj' (s₁ := pre) (s₂ := []) (t₁ := [(v, a)]) (t₂ := [(r, none)]) e rfl
    obtain ⟨h1, h2⟩ := h1
    simp at h2
    exact .inl ⟨h1, h2.1, h2.2⟩
  | add v' u' g hu ha hv =>
    obtain ⟨h1, h2⟩ := List.append_inj' e rfl
    simp at h2
    obtain ⟨rfl, rfl⟩ := h2
    subst h1
    exact .inr ⟨u', rfl, g, hu, ha, hv⟩
theorem Grow.pre {r : Nat} {rs : List (Nat × Nat)} {ps : PL} (g : Grow rs r ps) : ∀ pre post, ps = pre ++ post → pre ≠ [] → Grow rs r pre := by
  induction g with
  | root =>
    intro pre post e hne
    cases pre with
    | nil => exact absurd rfl hne
    | cons x pre =>
      simp at e
      obtain ⟨rfl, rfl, _⟩ := e
      exact Grow.root
  | @add ps v u g hu ha hv ih =>
    intro pre post e hne
    rcases List.eq_nil_or_concat post with rfl | ⟨post', y, rfl⟩
    · rw [List.append_nil] at e
      rw [← e]
      exact Grow.add v u g hu ha hv
    · rw [List.concat_eq_append, ← List.append_assoc] at e
      obtain ⟨h1, h2⟩ := List.append_inj' e rfl
      exact ih pre post' h1 hne
/-- each place of the order: the first, or one whose knot ahead stands before -/
theorem Grow.at {r : Nat} {rs : List (Nat × Nat)} {ps pre post : PL} {v : Nat} {a : Option Nat} (g : Grow rs r ps) (e : ps = pre ++ (v, a) :: post) : (pre = [] ∧ v = r ∧ a = none) ∨ ∃ u, a = some u ∧ Grow rs r pre ∧ u ∈ pre.map (·.1) ∧ Adj rs u v ∧ v ∉ pre.map (·.1) :=
  (g.pre (pre ++ [(v, a)]) post (by rw [e]; simp) (by simp)).last
theorem Grow.dist {n r : Nat} {rs : List (Nat × Nat)} {ps : PL} {v u : Nat} (h : Hedge n rs) (g : Grow rs r ps) (hu : u ∈ ps.map (·.1)) (ha : Adj rs u v) (hv : v ∉ ps.map (·.1)) : dist rs r v = dist rs r u + 1 := by
  have hs := g.same h (fun _ h => h) (h.adj_rod ha) (fun v' u' hm e => ?_) u hu
  · exact (h.dist_adj ha r).1 hs.symm
  · rcases Hedge.rod_inj e with ⟨e1, e2⟩ | ⟨e1, e2⟩
    · exact hv (e2 ▸ List.mem_map_of_mem (f := (·.1)) hm)
    · exact hv (e1 ▸ (g.up_mem _ _ hm).1)
end Hg
end

section
set_option autoImplicit false
set_option maxHeartbeats 1000000
/-! Wt: what lies behind a knot; sums over all ways. Plain mathematics. -/
namespace Hg
/-! ### sums -/
def sm {α : Type} (xs : List α) (F : α → Nat) : Nat := (xs.map F).sum
section
variable {α β : Type}
@[simp] theorem sx_nil (F : α → Nat) : sm [] F = 0 := rfl
@[simp] theorem sx_cons (x : α) (xs : List α) (F : α → Nat) : sm (x :: xs) F = F x + sm xs F := by simp [sm]
theorem sx_append (xs ys : List α) (F : α → Nat) : sm (xs ++ ys) F = sm xs F + sm ys F := by simp [sm]
theorem sx_map (g : β → α) (xs : List β) (F : α → Nat) : sm (xs.map g) F = sm xs fun x => F (g x) := by simp [sm, Function.comp_def]
theorem sx_perm {xs ys : List α} (h : xs.Perm ys) (F : α → Nat) : sm xs F = sm ys F := (h.map F).sum_nat
theorem sx_congr {xs : List α} {F G : α → Nat} (h : ∀ x ∈ xs, F x = G x) : sm xs F = sm xs G := by
  unfold sm; rw [List.map_congr_left h]
theorem sx_zero {xs : List α} {F : α → Nat} (h : ∀ x ∈ xs, F x = 0) : sm xs F = 0 := by
  induction xs with
  | nil => rfl
  | cons x xs ih => rw [sx_cons, h x (List.mem_cons_self ..), ih fun y hy => h y (List.mem_cons_of_mem _ hy)]
theorem sx_add (xs : List α) (F G : α → Nat) : sm xs (fun x => F x + G x) = sm xs F + sm xs G := by
  induction xs with
  | nil => rfl
  | cons x xs ih => simp only [sx_cons, ih]; omega
theorem sx_mul (xs : List α) (c : Nat) (F : α → Nat) : sm xs (fun x => c * F x) = c * sm xs F := by
  induction xs with
  | nil => simp
  | cons x xs ih => simp only [sx_cons, ih, Nat.mul_add]
theorem sx_swap (xs : List α) (ys : List β) (F : α → β → Nat) : sm xs (fun x => sm ys fun y => F x y) = sm ys fun y => sm xs fun x => F x y := by
  induction xs with
  | nil => simp [sx_zero]
  | cons x xs ih => simp only [sx_cons, ih, sx_add]
theorem sx_count (xs : List α) (p : α → Bool) : sm xs (fun x => if p x = true then 1 else 0) = xs.countP p := by
  induction xs with
  | nil => rfl
  | cons x xs ih => rw [sx_cons, ih, List.countP_cons]; omega
theorem sx_const (xs : List α) (c : Nat) : sm xs (fun _ => c) = xs.length * c := by
  induction xs with
  | nil => simp
  | cons x xs ih => rw [sx_cons, ih, List.length_cons, Nat.succ_mul]; omega
theorem sx_update {xs : List Nat} (hn : xs.Nodup) {u d : Nat} (hu : u ∈ xs) {F G : Nat → Nat} (h : ∀ y ∈ xs, y ≠ u → F y = G y) (hd : F u = G u + d) : sm xs F = sm xs G + d := by
  induction xs with
  | nil => cases hu
  | cons x xs ih =>
    obtain ⟨hx, hn⟩ := List.nodup_cons.mp hn
    simp only [sx_cons]
    rcases List.mem_cons.mp hu with rfl | hu
    · rw [hd, sx_congr (F := F) (G := G) fun y hy => h y (List.mem_cons_of_mem _ hy) fun e => hx (e ▸ hy)]; omega
    · rw [h x (List.mem_cons_self ..) fun e => hx (e ▸ hu), ih hn hu fun y hy => h y (List.mem_cons_of_mem _ hy)]; omega
end
/-! ### a fold from the last to the first -/
def stepW (p : Nat × Option Nat) (g : Nat → Nat) : Nat → Nat := match p.2 with | none => g | some u => fun x => if x = u then g u + g p.1 else g x
theorem foldW_other {x : Nat} : ∀ (ps : PL) (w : Nat → Nat), (∀ c u, (c, some u) ∈ ps → u ≠ x) → ps.foldr stepW w x = w x
  | [], _, _ => rfl
  | (c, a) :: ps, w, h => by
    have ih := foldW_other ps w fun c' u' h' => h c' u' (List.mem_cons_of_mem _ h')
    rw [List.foldr_cons]
    cases a with
    | none => exact ih
    | some u =>
      have := h c u (List.mem_cons_self ..)
      show (if x = u then _ else _) = _
      rw [if_neg fun e => this e.symm]
      exact ih
theorem Grow.weight {n r : Nat} {rs : List (Nat × Nat)} {ps : PL} (h : Hedge n rs) (g : Grow rs r ps) : ∀ w0 : Nat → Nat,
    (∀ x p, (x, some p) ∈ ps → ps.foldr stepW w0 x = sm (ps.map (·.1)) fun y => if side rs (rodOf p x) y = side rs (rodOf p x) x then w0 y else 0) ∧ ps.foldr stepW w0 r = sm (ps.map (·.1)) w0 := by
  induction g with
  | root =>
    intro w0
    refine ⟨fun x p hm => by simp at hm, ?_⟩
    simp [stepW]
  | @add ps v u g hu ha hv ih =>
    intro w0
    obtain ⟨i1, i2⟩ := ih (stepW (v, some u) w0)
    have hvu : v ≠ u := fun e => hv (e ▸ hu)
    have hw : ∀ y, y ≠ u → stepW (v, some u) w0 y = w0 y := fun y hy => if_neg hy
    have hwu : stepW (v, some u) w0 u = w0 u + w0 v := if_pos rfl
    rw [List.foldr_append]
    have e0 : List.foldr stepW w0 [(v, some u)] = stepW (v, some u) w0 := rfl
    rw [e0, List.map_append, List.map_cons, List.map_nil]
    refine ⟨fun x p hm => ?_, ?_⟩
    · rw [List.mem_append] at hm
      rw [sx_append]
      rcases hm with hm | hm
      · rw [i1 x p hm, sx_update g.nodup hu (F := fun y => if side rs (rodOf p x) y = side rs (rodOf p x) x then stepW (v, some u) w0 y else 0) (G := fun y => if side rs (rodOf p x) y = side rs (rodOf p x) x then w0 y else 0) (d := if side rs (rodOf p x) u = side rs (rodOf p x) x then w0 v else 0)]
        · have hs : side rs (rodOf p x) v = side rs (rodOf p x) u := by
            obtain ⟨q1, q2⟩ := g.up_mem _ _ hm
            refine (h.side_adj_eq (h.adj_rod q2) ha fun e => ?_).symm
            rcases Hedge.rod_inj e with ⟨_, e⟩ | ⟨_, e⟩
            · exact hv (e ▸ List.mem_map_of_mem (f := (·.1)) hm)
            · exact hv (e ▸ q1)
          simp [hs]
        · intro y _ hy
          simp only [hw y hy]
        · simp only [hwu]
          split <;> simp
      · simp at hm
        obtain ⟨rfl, rfl⟩ := hm
        rw [foldW_other (x := x) ps _ (fun c u' hc e => hv (by rw [← e]; exact (g.up_mem _ _ hc).1)), hw x hvu, sx_zero]
        · simp
        · intro y hy
          have hs := g.same h (fun _ h => h) (h.adj_rod ha) (fun v' u' hm e => ?_)
          · have h1 := hs y hy
            have h2 := hs p hu
            have h3 := h.side_adj_ne ha
            rw [if_neg]
            intro e
            exact h3 (h2.trans (h1.symm.trans e))
          · rcases Hedge.rod_inj e with ⟨e1, e2⟩ | ⟨e1, e2⟩
            · exact hv (e2 ▸ List.mem_map_of_mem (f := (·.1)) hm)
            · exact hv (e1 ▸ (g.up_mem _ _ hm).1)
    · rw [i2, sx_append, sx_update g.nodup hu (F := stepW (v, some u) w0) (G := w0) (d := w0 v) (fun y _ hy => hw y hy) hwu]
      simp
/-! ### the rods of the order -/
def rodsOf (ps : PL) : List (Nat × Nat) := ps.filterMap fun p => p.2.map fun u => rodOf u p.1
theorem Grow.rods_nodup {r : Nat} {rs : List (Nat × Nat)} {ps : PL} (g : Grow rs r ps) : (rodsOf ps).Nodup ∧ ∀ e ∈ rodsOf ps, e.1 ∈ ps.map (·.1) ∧ e.2 ∈ ps.map (·.1) := by
  induction g with
  | root => simp [rodsOf]
  | @add ps v u g hu ha hv ih =>
    obtain ⟨i1, i2⟩ := ih
    have e0 : rodsOf (ps ++ [(v, some u)]) = rodsOf ps ++ [rodOf u v] := by unfold rodsOf; rw [List.filterMap_append]; rfl
    rw [e0]
    have hve : (rodOf u v).1 = v ∨ (rodOf u v).2 = v := by unfold rodOf; omega
    refine ⟨?_, ?_⟩
    · rw [List.nodup_append]
      refine ⟨i1, by simp, ?_⟩
      intro e he y hy hey
      simp at hy
      subst hy
      subst hey
      obtain ⟨q1, q2⟩ := i2 _ he
      rcases hve with q | q
      · exact hv (q ▸ q1)
      · exact hv (q ▸ q2)
    · intro e he
      rw [List.map_append, List.mem_append, List.mem_append]
      rw [List.mem_append] at he
      rcases he with he | he
      · exact ⟨.inl (i2 e he).1, .inl (i2 e he).2⟩
      · simp at he
        subst he
        have : ∀ z, z = u ∨ z = v → (z ∈ ps.map (·.1) ∨ z ∈ List.map (·.1) [(v, some u)]) := by
          rintro z (rfl | rfl)
          · exact .inl hu
          · exact .inr (by simp)
        exact ⟨this _ (by unfold rodOf; simp only; omega), this _ (by unfold rodOf; simp only; omega)⟩
theorem Come.rods {n r : Nat} {rs : List (Nat × Nat)} {ps : PL} (h : Hedge n rs) (hr : r < n) (c : Come n rs r ps) : (rodsOf ps).Perm rs := by
  refine (List.perm_ext_iff_of_nodup c.grow.rods_nodup.1 h.nodup).mpr fun e => ⟨fun he => ?_, fun he => ?_⟩
  · obtain ⟨⟨v, a⟩, h1, h2⟩ := List.mem_filterMap.mp he
    cases a with
    | none => cases h2
    | some u =>
      simp at h2
      exact h2 ▸ h.adj_rod (c.grow.up_mem _ _ h1).2
  · refine Classical.byContradiction fun hno => ?_
    have hs := c.grow.same h (fun _ h => h) he fun v u hm hq => hno (hq ▸ List.mem_filterMap.mpr ⟨(v, some u), hm, rfl⟩)
    have hp := c.perm h hr
    have hm : ∀ x, x < n → x ∈ ps.map (·.1) := fun x hx => hp.mem_iff.mpr (List.mem_range.mpr hx)
    have h1 := h.lt he
    exact h.side_ne he ((hs _ (hm _ h1.1)).trans (hs _ (hm _ h1.2.1)).symm)
/-! ### the sum of all ways -/
theorem pairs_count (xs : List Nat) (c : Nat → Bool) : sm xs (fun x => sm xs fun y => if (c x != c y) = true then 1 else 0) = 2 * (xs.countP c * (xs.length - xs.countP c)) := by
  have h1 : ∀ x, sm xs (fun y => if (c x != c y) = true then 1 else 0) = if c x = true then xs.length - xs.countP c else xs.countP c := by
    intro x
    rw [sx_count]
    cases hx : c x with
    | false => simp
    | true =>
      have := List.length_eq_countP_add_countP c (l := xs)
      simp only [Bool.true_bne]
      have e : xs.countP (fun y => !c y) = xs.countP (fun a => decide (¬c a = true)) := by
        congr 1; funext y; cases c y <;> rfl
      simp
      simp at this
      omega
  rw [sx_congr fun x _ => h1 x]
  have h2 : ∀ (ys : List Nat) (a b : Nat), sm ys (fun x => if c x = true then a else b) = ys.countP c * a + (ys.length - ys.countP c) * b := by
    intro ys a b
    induction ys with
    | nil => simp
    | cons y ys ih =>
      have hle := List.countP_le_length (p := c) (l := ys)
      rw [sx_cons, ih, List.countP_cons, List.length_cons]
      cases hy : c y with
      | false =>
        simp
        rw [show ys.length + 1 - ys.countP c = (ys.length - ys.countP c) + 1 by omega, Nat.add_mul]
        omega
      | true =>
        simp
        rw [Nat.add_mul]
        omega
  rw [h2, Nat.mul_comm (xs.length - xs.countP c)]
  omega
noncomputable def sumsOf (rs : List (Nat × Nat)) (n v : Nat) : Nat := sm (List.range n) (dist rs v)
noncomputable def halves (rs : List (Nat × Nat)) (n : Nat) (e : Nat × Nat) : Nat := (List.range n).countP (side rs e) * (n - (List.range n).countP (side rs e))
theorem all_ways (n : Nat) (rs : List (Nat × Nat)) : sm (List.range n) (sumsOf rs n) = 2 * sm rs (halves rs n) := by
  have h1 : sm (List.range n) (sumsOf rs n) = sm (List.range n) fun x => sm (List.range n) fun y => sm rs fun e => if (side rs e x != side rs e y) = true then 1 else 0 := by
    apply sx_congr
    intro x _
    apply sx_congr
    intro y _
    unfold dist
    rw [sx_count]
  rw [h1]
  have h2 : (sm (List.range n) fun x => sm (List.range n) fun y => sm rs fun e => if (side rs e x != side rs e y) = true then 1 else 0) = sm (List.range n) fun x => sm rs fun e => sm (List.range n) fun y => if (side rs e x != side rs e y) = true then 1 else 0 := by
    apply sx_congr
    intro x _
    rw [sx_swap]
  rw [h2, sx_swap, ← sx_mul]
  apply sx_congr
  intro e _
  rw [pairs_count, List.length_range]
  rfl
end Hg
end

section
set_option autoImplicit false
set_option maxHeartbeats 1000000
/-! Pcom: rods and the order. -/
namespace Hg
section
variable {n r : Nat} {rs : List (Nat × Nat)} {ps : PL}
/-- each rod goes from a knot to the one ahead -/
theorem Come.edge (h : Hedge n rs) (hr : r < n) (c : Come n rs r ps) {x y : Nat} (a : Adj rs x y) : (x, some y) ∈ ps ∨ (y, some x) ∈ ps := by
  have h1 := (c.rods h hr).mem_iff.mpr (h.adj_rod a)
  obtain ⟨⟨v, b⟩, h2, h3⟩ := List.mem_filterMap.mp h1
  cases b with
  | none => cases h3
  | some u =>
    simp at h3
    rcases Hedge.rod_inj h3 with ⟨rfl, rfl⟩ | ⟨rfl, rfl⟩
    · exact .inr h2
    · exact .inl h2
/-- what stands ahead stands before -/
theorem Come.order (c : Come n rs r ps) {A B : PL} (e : ps = A ++ B) (hA : A ≠ []) {x y : Nat} (hm : (x, some y) ∈ ps) (hy : y ∈ B.map (·.1)) : x ∈ B.map (·.1) := by
  have hnd := c.grow.nodup
  rw [e, List.map_append, List.nodup_append] at hnd
  rw [e, List.mem_append] at hm
  rcases hm with hm | hm
  · have := (c.grow.pre A B e hA).up_mem _ _ hm
    exact absurd rfl (hnd.2.2 y this.1 y hy)
  · exact List.mem_map_of_mem (f := (·.1)) hm
theorem Come.root_none (c : Come n rs r ps) {v : Nat} (hm : (v, none) ∈ ps) : v = r := by
  obtain ⟨s1, s2, hs⟩ := List.append_of_mem hm
  rcases c.grow.at hs with ⟨_, q, _⟩ | ⟨u, q, _⟩
  · exact q
  · cases q
end
end Hg
end

section
set_option autoImplicit false
set_option maxHeartbeats 1000000
/-! Pnum: values that are numbers. -/
namespace Hg
@[simp] theorem plainD_nD (n k : Nat) : plainD n (nD k) = true := plain_nD n k
@[simp] theorem plainD_oD (n : Nat) (a : Option Nat) : plainD n (oD a) = true := by cases a <;> simp [oD]
@[simp] theorem eqD_nn (x y : Nat) : eqD (nD x) (nD y) = decide (x = y) := eqD_nD x y
@[simp] theorem eqD_no (x : Nat) (a : Option Nat) : eqD (nD x) (oD a) = decide (some x = a) := by
  cases a with
  | none => simp [oD, nD, eqD]
  | some y => simp [oD]
@[simp] theorem vm_nD (x : Nat) (k : Kd) : vm (some (nD x, k)) = some (nD x) := vm_int _ k
@[simp] theorem em_nD (x : Nat) (k : Kd) : em (some (nD x, k)) = some (nD x) := em_int _ k
@[simp] theorem asInt_nD (x : Nat) : asInt (nD x) = some (x : Int) := rfl
theorem vm_oD (a : Option Nat) (k : Kd) : vm (some (oD a, k)) = some (oD a) := by cases a <;> simp [oD]
@[simp] theorem isNon_nD (x : Nat) : (nD x).isNon = false := rfl
@[simp] theorem isNon_oD (a : Option Nat) : (oD a).isNon = a.isNone := by cases a <;> rfl
@[simp] theorem ixV_nsN (r : List Nat) (k : Kd) (i : Nat) : ixV (nsD r, k) (nD i) = (r[i]?).map fun d => (nD d, subK k) := ixV_ns r k i
@[simp] theorem ixV_rowsN (r : List (List Nat)) (k : Kd) (i : Nat) : ixV (rowsD r, k) (nD i) = (r[i]?).map fun d => (nsD d, subK k) := ixV_rows r k i
@[simp] theorem addD_nn (a b : Nat) : addD (nD a) (nD b) = some (nD (a + b)) := by show some (D.int _) = some (D.int _); congr 2
@[simp] theorem addD_n1 (a : Nat) : addD (nD a) (.int 1) = some (nD (a + 1)) := addD_nn a 1
@[simp] theorem nw_nD (a : Nat) : nw (some (nD a)) = some (nD a, .frz) := rfl
@[simp] theorem ixV_mapN {α : Type} (xs : List α) (F : α → D) (k : Kd) (i : Nat) : ixV (.lst (xs.map F), k) (nD i) = (xs[i]?).map fun x => (F x, subK k) := by
  simp [nD, Function.comp_def]
theorem nD_def (k : Nat) : D.int (k : Int) = nD k := rfl
end Hg
end

section
set_option autoImplicit false
set_option maxHeartbeats 1000000
/-! Pdk: dicts that are sets of knots. -/
namespace Hg
def dkL (ks : List Nat) : List (Ky × D) := ks.map fun x : Nat => (.inl ((x : Nat) : Int), .bl true)
def dkD (ks : List Nat) : D := .dic (dkL ks)
def addK1 (ks : List Nat) (x : Nat) : List Nat := if x ∈ ks then ks else ks ++ [x]
theorem mem_addK1 {ks : List Nat} {x y : Nat} : y ∈ addK1 ks x ↔ y ∈ ks ∨ y = x := by
  unfold addK1
  split
  · rename_i h
    exact ⟨.inl, fun q => q.elim id fun e => e ▸ h⟩
  · simp
theorem nodup_addK1 {ks : List Nat} {x : Nat} (h : ks.Nodup) : (addK1 ks x).Nodup := by
  unfold addK1
  split
  · exact h
  · rename_i hx
    rw [List.nodup_append]
    refine ⟨h, by simp, ?_⟩
    intro a ha b hb e
    simp at hb
    subst hb
    subst e
    exact hx ha
theorem put_dk (ks : List Nat) (x : Nat) : put (dkL ks) (.inl (x : Int)) (.bl true) = dkL (addK1 ks x) := by
  have hany : ((dkL ks).any fun kv => decide (kv.1 = (.inl (x : Int) : Ky))) = decide (x ∈ ks) := by
    unfold dkL
    rw [List.any_map, Bool.eq_iff_iff, List.any_eq_true, decide_eq_true_eq]
    constructor
    · rintro ⟨y, hy, he⟩
      simp at he
      exact he ▸ hy
    · intro hx
      exact ⟨x, hx, by simp⟩
  unfold put addK1
  rw [hany]
  by_cases h : x ∈ ks
  · simp only [h, decide_true, if_true]
    unfold dkL
    rw [List.map_map]
    apply List.map_congr_left
    intro y _
    simp
    try (intro e; omega)
  · simp only [h, decide_false, if_false, Bool.false_eq_true]
    unfold dkL
    rw [List.map_append]; rfl
theorem look_dk (ks : List Nat) (x : Nat) : (look (dkL ks) (.inl (x : Int))).isSome = decide (x ∈ ks) := by
  unfold look dkL
  rw [Bool.eq_iff_iff, decide_eq_true_eq, Option.isSome_map, List.find?_isSome]
  constructor
  · rintro ⟨kv, h1, h2⟩
    obtain ⟨y, hy, rfl⟩ := List.mem_map.mp h1
    simp at h2
    exact h2 ▸ hy
  · intro h
    exact ⟨_, List.mem_map.mpr ⟨x, h, rfl⟩, by simp⟩
theorem memD_dk (ks : List Nat) (x : Nat) : memD (nD x) (dkD ks) = some (decide (x ∈ ks)) := by
  show (keyD (nD x)).map (fun k => (look (dkL ks) k).isSome) = _
  show some (look (dkL ks) (.inl (x : Int))).isSome = _
  rw [look_dk]
theorem dk_len (ks : List Nat) : (dkL ks).length = ks.length := by simp [dkL]
theorem memD_dkL (ks : List Nat) (x : Nat) : memD (nD x) (.dic (dkL ks)) = some (decide (x ∈ ks)) := memD_dk ks x
end Hg
end

section
set_option autoImplicit false
set_option maxHeartbeats 1000000
/-! Pgd: pairs and guards, told together along the order from its end. Plain mathematics. -/
namespace Hg
theorem pre_ind {α : Type} (xs : List α) (P : List α → Prop) (h0 : P []) (hs : ∀ pre x post, xs = pre ++ x :: post → P pre → P (pre ++ [x])) : P xs := by
  have key : ∀ (post pre : List α), xs = pre ++ post → P pre → P xs := by
    intro post
    induction post with
    | nil => intro pre e h; rw [e, List.append_nil]; exact h
    | cons x post ih =>
      intro pre e h
      exact ih (pre ++ [x]) (by rw [e]; simp) (hs pre x post e h)
  exact key xs [] rfl h0
def gStep (G : List Nat) (p : Nat × Option Nat) : List Nat := match p.2 with | none => G | some a => if p.1 ∈ G then G else addK1 G a
def pStep (b : List Nat × List (Nat × Nat)) (p : Nat × Option Nat) : List Nat × List (Nat × Nat) :=
  match p.2 with | none => b | some a => if p.1 ∉ b.1 ∧ a ∉ b.1 then (addK1 (addK1 b.1 p.1) a, b.2 ++ [rodOf p.1 a]) else b
def ends (F : List (Nat × Nat)) : List Nat := F.flatMap fun e => [e.1, e.2]
theorem ends_rod (F : List (Nat × Nat)) (v a : Nat) : ends (F ++ [rodOf v a]) = ends F ++ [min v a, max v a] := by
  unfold ends; rw [List.flatMap_append]; rfl
structure PG (n : Nat) (rs : List (Nat × Nat)) (pre : PL) (T G : List Nat) (F : List (Nat × Nat)) : Prop where
  same : ∀ x, x ∉ pre.map (·.1) → (x ∈ T ↔ x ∈ G)
  len : F.length = G.length
  nd : G.Nodup
  cov : ∀ x y, (x, some y) ∈ pre → x ∈ G ∨ y ∈ G
  en : (ends F).Nodup
  inT : ∀ x ∈ ends F, x ∈ T
  sub : ∀ e ∈ F, e ∈ rs
  lt : ∀ x ∈ G, x < n
section
variable {n r : Nat} {rs : List (Nat × Nat)} {ps pre post : PL} {v a : Nat} {o : Option Nat}
/-- where the order is split from its end -/
theorem rev_split {x : Nat × Option Nat} (e : ps.reverse = pre ++ x :: post) : ps = (post.reverse ++ [x]) ++ pre.reverse := by
  have := congrArg List.reverse e
  rw [List.reverse_reverse] at this
  rw [this]; simp
theorem Come.fresh (c : Come n rs r ps) (e : ps.reverse = pre ++ (v, o) :: post) : v ∉ pre.map (·.1) := by
  intro h
  have hnd := c.grow.nodup
  rw [rev_split e, List.map_append, List.nodup_append] at hnd
  exact hnd.2.2 v (by simp) v (by simpa using h) rfl
theorem Come.ahead (c : Come n rs r ps) (e : ps.reverse = pre ++ (v, some a) :: post) : a ∉ pre.map (·.1) ∧ Adj rs a v := by
  have hm : (v, some a) ∈ ps := by rw [← List.mem_reverse, e]; simp
  refine ⟨fun h => c.fresh e ?_, (c.grow.up_mem _ _ hm).2⟩
  have := c.order (rev_split e) (by simp) hm (y := a) (by simpa using h)
  simpa using this
theorem pg_all (h : Hedge n rs) (hr : r < n) (c : Come n rs r ps) : PG n rs ps.reverse (ps.reverse.foldl pStep ([], [])).1 (ps.reverse.foldl gStep []) (ps.reverse.foldl pStep ([], [])).2 := by
  refine pre_ind ps.reverse (fun pre => PG n rs pre (pre.foldl pStep ([], [])).1 (pre.foldl gStep []) (pre.foldl pStep ([], [])).2) ⟨by simp, rfl, by simp, by simp, by simp [ends], by simp [ends], by simp, by simp⟩ ?_
  rintro pre ⟨v, o⟩ post e b
  have hfr := c.fresh e
  rw [List.foldl_append, List.foldl_append]
  simp only [List.foldl_cons, List.foldl_nil]
  generalize pre.foldl pStep ([], []) = TF at b ⊢
  generalize pre.foldl gStep [] = G at b ⊢
  obtain ⟨T, F⟩ := TF
  simp only at b
  have hmap : ∀ x, x ∉ (pre ++ [(v, o)]).map (·.1) → x ∉ pre.map (·.1) ∧ x ≠ v := by
    intro x hx
    rw [List.map_append, List.mem_append, not_or] at hx
    exact ⟨hx.1, by simpa using hx.2⟩
  cases o with
  | none =>
    refine ⟨fun x hx => b.same x (hmap x hx).1, b.len, b.nd, fun x y hm => ?_, b.en, b.inT, b.sub, b.lt⟩
    rw [List.mem_append] at hm
    rcases hm with hm | hm
    · exact b.cov x y hm
    · simp at hm
  | some a =>
    obtain ⟨ha, hadj⟩ := c.ahead e
    have hlt := h.adj_lt hadj
    have hcov : ∀ G' : List Nat, (∀ x ∈ G, x ∈ G') → (v ∈ G' ∨ a ∈ G') → ∀ x y, (x, some y) ∈ pre ++ [(v, some a)] → x ∈ G' ∨ y ∈ G' := by
      intro G' h1 h2 x y hm
      rw [List.mem_append] at hm
      rcases hm with hm | hm
      · exact (b.cov x y hm).imp (h1 x) (h1 y)
      · simp at hm
        obtain ⟨rfl, rfl⟩ := hm
        exact h2
    by_cases hv : v ∈ G
    · have hvT := (b.same v hfr).mpr hv
      have e1 : gStep G (v, some a) = G := if_pos hv
      have e2 : pStep (T, F) (v, some a) = (T, F) := if_neg fun q => q.1 hvT
      rw [e1, e2]
      exact ⟨fun x hx => b.same x (hmap x hx).1, b.len, b.nd, hcov G (fun _ h => h) (.inl hv), b.en, b.inT, b.sub, b.lt⟩
    · have hvT : v ∉ T := fun q => hv ((b.same v hfr).mp q)
      have e1 : gStep G (v, some a) = addK1 G a := if_neg hv
      rw [e1]
      by_cases haT : a ∈ T
      · have haG := (b.same a ha).mp haT
        have e2 : pStep (T, F) (v, some a) = (T, F) := if_neg fun q => q.2 haT
        have e3 : addK1 G a = G := if_pos haG
        rw [e2, e3]
        exact ⟨fun x hx => b.same x (hmap x hx).1, b.len, b.nd, hcov G (fun _ h => h) (.inr haG), b.en, b.inT, b.sub, b.lt⟩
      · have haG : a ∉ G := fun q => haT ((b.same a ha).mpr q)
        have e2 : pStep (T, F) (v, some a) = (addK1 (addK1 T v) a, F ++ [rodOf v a]) := if_pos ⟨hvT, haT⟩
        rw [e2]
        simp only
        refine ⟨fun x hx => ?_, ?_, nodup_addK1 b.nd, hcov _ (fun x hx => mem_addK1.mpr (.inl hx)) (.inr (mem_addK1.mpr (.inr rfl))), ?_, ?_, ?_, ?_⟩
        · obtain ⟨h1, h2⟩ := hmap x hx
          rw [mem_addK1, mem_addK1, mem_addK1, b.same x h1]
          simp [h2]
        · have e3 : addK1 G a = G ++ [a] := if_neg haG
          rw [e3, List.length_append, List.length_append, b.len]; rfl
        · rw [ends_rod, List.nodup_append]
          refine ⟨b.en, ?_, ?_⟩
          · simp; omega
          · intro x hx y hy hxy
            subst hxy
            have hxT := b.inT x hx
            simp at hy
            rcases Nat.le_total v a with q | q
            · rw [Nat.min_eq_left q, Nat.max_eq_right q] at hy
              rcases hy with rfl | rfl
              · exact hvT hxT
              · exact haT hxT
            · rw [Nat.min_eq_right q, Nat.max_eq_left q] at hy
              rcases hy with rfl | rfl
              · exact haT hxT
              · exact hvT hxT
        · intro x hx
          rw [ends_rod, List.mem_append] at hx
          rw [mem_addK1, mem_addK1]
          rcases hx with hx | hx
          · exact .inl (.inl (b.inT x hx))
          · simp at hx
            rcases Nat.le_total v a with q | q
            · rw [Nat.min_eq_left q, Nat.max_eq_right q] at hx
              exact hx.elim (fun q => .inl (.inr q)) .inr
            · rw [Nat.min_eq_right q, Nat.max_eq_left q] at hx
              exact hx.elim .inr fun q => .inl (.inr q)
        · intro e' he'
          rw [List.mem_append] at he'
          rcases he' with he' | he'
          · exact b.sub e' he'
          · simp at he'
            subst he'
            exact h.adj_rod hadj.symm
        · intro x hx
          rcases mem_addK1.mp hx with hx | hx
          · exact b.lt x hx
          · omega
end
end Hg
end

section
set_option autoImplicit false
set_option maxHeartbeats 1000000
/-! Cds: codes. Plain mathematics. -/
namespace Hg
theorem snoc_ind {α : Type} {P : List α → Prop} (h0 : P []) (hs : ∀ pre x, P pre → P (pre ++ [x])) (xs : List α) : P xs := by
  have key : ∀ ys : List α, P ys.reverse := by
    intro ys
    induction ys with
    | nil => exact h0
    | cons y ys ih => rw [List.reverse_cons]; exact hs _ _ ih
  have := key xs.reverse
  rwa [List.reverse_reverse] at this
theorem lexS_irr : ∀ a : List Nat, lexS a a = false
  | [] => rfl
  | x :: xs => by simp [lexS, lexS_irr xs]
theorem lexS_tri : ∀ a b : List Nat, lexS a b = false → lexS b a = false → a = b
  | [], [], _, _ => rfl
  | [], y :: ys, h, _ => by simp [lexS] at h
  | x :: xs, [], _, h => by simp [lexS] at h
  | x :: xs, y :: ys, h1, h2 => by
    by_cases c : x = y
    · subst c
      simp [lexS] at h1 h2
      rw [lexS_tri xs ys h1 h2]
    · simp [lexS, c, Ne.symm c] at h1 h2
      omega
theorem lexS_trans : ∀ a b c : List Nat, lexS a b = true → lexS b c = true → lexS a c = true
  | [], [], _, h, _ => by simp [lexS] at h
  | [], y :: ys, [], _, h => by simp [lexS] at h
  | [], y :: ys, z :: zs, _, _ => by simp [lexS]
  | x :: xs, [], _, h, _ => by simp [lexS] at h
  | x :: xs, y :: ys, [], _, h => by simp [lexS] at h
  | x :: xs, y :: ys, z :: zs, h1, h2 => by
    have ih := lexS_trans xs ys zs
    simp only [lexS] at h1 h2 ⊢
    by_cases c1 : x = y
    · by_cases c2 : y = z
      · subst c1; subst c2
        simp at h1 h2 ⊢
        exact ih h1 h2
      · subst c1
        simp [c2] at h2 ⊢
        exact h2
    · by_cases c2 : y = z
      · subst c2
        simp [c1] at h1 ⊢
        exact h1
      · simp [c1, c2] at h1 h2
        have : x ≠ z := by omega
        simp [this]; omega
theorem lexS_asym {a b : List Nat} (h : lexS a b = true) : lexS b a = false := by
  cases c : lexS b a with
  | false => rfl
  | true => have := lexS_trans _ _ _ h c; rw [lexS_irr] at this; cases this
def leS (a b : List Nat) : Bool := !lexS b a
theorem leS_trans (a b c : List Nat) (h1 : leS a b = true) (h2 : leS b c = true) : leS a c = true := by
  simp [leS] at *
  cases q : lexS c a with
  | false => rfl
  | true =>
    exfalso
    cases q2 : lexS a b with
    | true => have := lexS_trans _ _ _ q q2; rw [h2] at this; cases this
    | false => have := lexS_tri _ _ q2 h1; subst this; rw [h2] at q; cases q
theorem leS_total (a b : List Nat) : (leS a b || leS b a) = true := by
  simp [leS]
  cases q : lexS b a with
  | false => exact .inl rfl
  | true => exact .inr (lexS_asym q)
theorem leS_anti {a b : List Nat} (h1 : leS a b = true) (h2 : leS b a = true) : a = b := by
  simp [leS] at h1 h2
  exact lexS_tri _ _ h2 h1
theorem sortS_pw (xs : List (List Nat)) : (sortS xs).Pairwise (fun a b => leS a b = true) := List.pairwise_mergeSort leS_trans leS_total xs
theorem sortS_perm (xs : List (List Nat)) : (sortS xs).Perm xs := List.mergeSort_perm _ _
theorem sortS_eq {xs ys : List (List Nat)} (h : xs.Perm ys) : sortS xs = sortS ys := by
  refine List.Perm.eq_of_pairwise (le := fun a b => leS a b = true) (fun a b _ _ h1 h2 => leS_anti h1 h2) (sortS_pw xs) (sortS_pw ys) ?_
  exact (sortS_perm xs).trans (h.trans (sortS_perm ys).symm)
/-- the text of a knot with a mark and the texts below -/
def wrap (m : List Nat) (B : List (List Nat)) : List Nat := 40 :: (m ++ ((sortS B).reverse.flatten ++ [41]))
theorem wrap_perm {m : List Nat} {B B' : List (List Nat)} (h : B.Perm B') : wrap m B = wrap m B' := by unfold wrap; rw [sortS_eq h]
theorem flat_len {xs ys : List (List Nat)} (h : xs.Perm ys) : xs.flatten.length = sm ys List.length := by
  rw [List.length_flatten]; exact sx_perm h _
theorem wrap_len (m : List Nat) (B : List (List Nat)) : (wrap m B).length = 2 + m.length + sm B List.length := by
  unfold wrap
  rw [List.length_cons, List.length_append, List.length_append, flat_len ((List.reverse_perm _).trans (sortS_perm B))]
  simp; omega
inductive Cd (rs : List (Nat × Nat)) (m : Nat → List Nat) : Option Nat → Nat → List Nat → Prop where
  | mk (o : Option Nat) (v : Nat) (f : Nat → List Nat) (h : ∀ c ∈ kids rs v o, Cd rs m (some v) c (f c)) : Cd rs m o v (wrap (m v) ((kids rs v o).map f))
theorem Cd.uniq {rs : List (Nat × Nat)} {m : Nat → List Nat} {o : Option Nat} {v : Nat} {t : List Nat} (h : Cd rs m o v t) : ∀ {t' : List Nat}, Cd rs m o v t' → t = t' := by
  induction h with
  | mk o v f h ih =>
    intro t' h'
    cases h' with
    | mk o v f' h' =>
      rw [List.map_congr_left fun c hc => ih c hc (h' c hc)]
abbrev CS := (Nat → List (List Nat)) × (Nat → List Nat)
def cStep (m : Nat → List Nat) (s : CS) (p : Nat × Option Nat) : CS :=
  (match p.2 with | none => s.1 | some a => fun x => if x = a then s.1 x ++ [wrap (m p.1) (s.1 p.1)] else s.1 x, fun x => if x = p.1 then wrap (m p.1) (s.1 p.1) else s.2 x)
def kidsIn (pre : PL) (v : Nat) : List Nat := pre.filterMap fun p => if p.2 = some v then some p.1 else none
theorem mem_kidsIn {pre : PL} {v c : Nat} : c ∈ kidsIn pre v ↔ (c, some v) ∈ pre := by
  unfold kidsIn
  rw [List.mem_filterMap]
  constructor
  · rintro ⟨⟨a, b⟩, h1, h2⟩
    split at h2
    · rename_i q; simp at q h2; subst q; subst h2; exact h1
    · cases h2
  · intro h; exact ⟨_, h, by simp⟩
theorem kidsIn_snoc (pre : PL) (v x : Nat) (o : Option Nat) : kidsIn (pre ++ [(v, o)]) x = kidsIn pre x ++ (if o = some x then [v] else []) := by
  unfold kidsIn
  rw [List.filterMap_append]
  by_cases c : o = some x <;> simp [c]
def cAll (m : Nat → List Nat) (pre : PL) : CS := pre.foldl (cStep m) (fun _ => [], fun _ => [])
structure CI (c : Nat) (m : Nat → List Nat) (all pre : PL) (s : CS) : Prop where
  done : ∀ v o, (v, o) ∈ pre → s.2 v = wrap (m v) ((kidsIn pre v).map s.2)
  now : ∀ v, s.1 v = (kidsIn pre v).map s.2
  len : (∀ p ∈ pre, p.2 ≠ none) → ∀ post, all = pre ++ post → sm post (fun p => sm (s.1 p.1) List.length) = (2 + c) * pre.length
section
variable {n r c : Nat} {rs : List (Nat × Nat)} {ps pre post : PL} {v a : Nat} {o : Option Nat} {m : Nat → List Nat}
theorem ci_all (h : Hedge n rs) (hr : r < n) (cm : Come n rs r ps) (hm : ∀ v, v < n → (m v).length = c) : ∀ pre post, ps.reverse = pre ++ post → CI c m ps.reverse pre (cAll m pre) := by
  have key : (∀ pre post, ps.reverse = pre ++ post → CI c m ps.reverse pre (cAll m pre)) := by
    intro pre
    refine snoc_ind (P := fun pre => ∀ post, ps.reverse = pre ++ post → CI c m ps.reverse pre (cAll m pre)) ?_ ?_ pre
    · intro post e
      exact ⟨by simp, fun v => rfl, fun _ post _ => by simp [cAll, sx_zero]⟩
    · rintro pre ⟨v, o⟩ ih post e
      rw [List.append_assoc] at e
      have b := ih _ e
      have e : ps.reverse = pre ++ (v, o) :: post := e
      have hfr := cm.fresh e
      have hall : cAll m (pre ++ [(v, o)]) = cStep m (cAll m pre) (v, o) := by unfold cAll; rw [List.foldl_append]; rfl
      rw [hall]
      generalize cAll m pre = s at b
      have hvm : (v, o) ∈ ps := by rw [← List.mem_reverse, e]; simp
      have hvn : v < n := cm.grow.lt h.forest hr v (List.mem_map_of_mem (f := (·.1)) hvm)
      have hkf : ∀ x, ∀ c ∈ kidsIn pre x, c ≠ v := by
        intro x c hc q
        subst q
        exact hfr (List.mem_map_of_mem (f := (·.1)) (mem_kidsIn.mp hc))
      have hmapf : ∀ x, (kidsIn pre x).map (fun y => if y = v then wrap (m v) (s.1 v) else s.2 y) = (kidsIn pre x).map s.2 := by
        intro x
        apply List.map_congr_left
        intro c hc
        rw [if_neg (hkf x c hc)]
      have hoa : ∀ a, o = some a → a ∉ pre.map (·.1) ∧ a ≠ v := by
        intro a q
        subst q
        have := cm.ahead e
        exact ⟨this.1, (h.adj_lt this.2).2.2⟩
      refine ⟨?_, ?_, ?_⟩
      · intro v' o' hm'
        show (if v' = v then _ else _) = wrap (m v') ((kidsIn (pre ++ [(v, o)]) v').map fun x => if x = v then wrap (m v) (s.1 v) else s.2 x)
        have hk : o ≠ some v' := by
          intro q
          have := hoa v' q
          rcases List.mem_append.mp hm' with q2 | q2
          · exact this.1 (List.mem_map_of_mem (f := (·.1)) q2)
          · simp at q2; exact this.2 q2.1
        rw [kidsIn_snoc, if_neg hk, List.append_nil, hmapf]
        rcases List.mem_append.mp hm' with q2 | q2
        · have : v' ≠ v := fun q => hfr (q ▸ List.mem_map_of_mem (f := (·.1)) q2)
          rw [if_neg this, b.done v' o' q2]
        · simp at q2
          rw [if_pos q2.1, q2.1, b.now v]
      · intro x
        show (match o with | none => s.1 | some a => fun x => if x = a then s.1 x ++ [wrap (m v) (s.1 v)] else s.1 x) x = (kidsIn (pre ++ [(v, o)]) x).map fun x => if x = v then wrap (m v) (s.1 v) else s.2 x
        rw [kidsIn_snoc, List.map_append, hmapf, ← b.now x]
        cases o with
        | none => simp
        | some a =>
          by_cases q : x = a
          · subst q; simp
          · simp [q, Ne.symm q]
      · intro hsome post' e'
        have hpp : post' = post := by
          rw [e, List.append_assoc] at e'
          have := List.append_cancel_left e'
          simpa using this.symm
        subst hpp
        have hl := b.len (fun p hp => hsome p (List.mem_append_left _ hp)) _ e
        cases o with
        | none => exact absurd rfl (hsome (v, none) (by simp))
        | some a =>
          have ha := hoa a rfl
          have hnd : (post'.map (·.1)).Nodup := by
            have := cm.grow.nodup
            have this := (List.reverse_perm _).nodup_iff.mpr this
            rw [← List.map_reverse, e, List.map_append, List.map_cons] at this
            exact (List.nodup_cons.mp (List.nodup_append.mp this).2.1).2
          have ham : a ∈ post'.map (·.1) := by
            have h1 := (cm.grow.up_mem _ _ hvm).1
            rw [← List.mem_reverse, ← List.map_reverse, e, List.map_append, List.map_cons, List.mem_append, List.mem_cons] at h1
            rcases h1 with h1 | h1 | h1
            · exact absurd h1 ha.1
            · exact absurd h1 ha.2
            · exact h1
          have hup := sx_update (xs := post'.map (·.1)) hnd (u := a) (d := (wrap (m v) (s.1 v)).length) ham
            (F := fun x => sm ((fun x => if x = a then s.1 x ++ [wrap (m v) (s.1 v)] else s.1 x) x) List.length) (G := fun x => sm (s.1 x) List.length)
            (fun y _ hy => by simp [hy]) (by simp [sx_append])
          rw [sx_map, sx_map] at hup
          show sm post' (fun p => sm ((fun x => if x = a then s.1 x ++ [wrap (m v) (s.1 v)] else s.1 x) p.1) List.length) = _
          rw [hup, wrap_len, hm v hvn]
          rw [sx_cons] at hl
          simp only [List.length_append, List.length_singleton, Nat.mul_add]
          simp only at hl
          omega
  exact key
theorem kidsIn_perm (h : Hedge n rs) (hr : r < n) (cm : Come n rs r ps) (hm : (v, o) ∈ ps) : (kidsIn ps.reverse v).Perm (kids rs v o) := by
  have hnd : (kidsIn ps.reverse v).Nodup := by
    have h1 : ((ps.reverse).map (·.1)).Nodup := by rw [List.map_reverse]; exact (List.reverse_perm _).nodup_iff.mpr cm.grow.nodup
    have : ∀ qs : PL, (qs.map (·.1)).Nodup → (kidsIn qs v).Nodup := by
      intro qs
      induction qs with
      | nil => intro _; exact List.nodup_nil
      | cons q qs ih =>
        intro hq
        rw [List.map_cons, List.nodup_cons] at hq
        unfold kidsIn
        rw [List.filterMap_cons]
        split
        · exact ih hq.2
        · rename_i b hb
          split at hb
          · cases hb
            refine List.nodup_cons.mpr ⟨fun hm => hq.1 ?_, ih hq.2⟩
            exact List.mem_map_of_mem (f := (·.1)) (mem_kidsIn.mp hm)
          · cases hb
    exact this _ h1
  refine (List.perm_ext_iff_of_nodup hnd ((h.forest.nb_nodup v).filter _)).mpr fun x => ?_
  rw [mem_kidsIn, List.mem_reverse]
  rw [List.mem_filter, h.forest.mem_nb, decide_eq_true_eq]
  constructor
  · intro hx
    have ha := (cm.grow.up_mem _ _ hx).2
    refine ⟨ha, fun q => ?_⟩
    subst q
    have hd : ∀ {x v : Nat}, (x, some v) ∈ ps → dist rs r x = dist rs r v + 1 := by
      intro x v hx
      obtain ⟨A, B, hAB⟩ := List.append_of_mem hx
      rcases cm.grow.at hAB with ⟨_, _, q⟩ | ⟨u, q, g, q2, q3, q4⟩
      · cases q
      · cases q; exact g.dist h q2 q3 q4
    have h1 := hd hx
    have h2 := hd hm
    omega
  · rintro ⟨ha, hne⟩
    rcases cm.edge h hr ha.symm with q | q
    · exact q
    · exact absurd (nodup_fst_eq cm.grow.nodup q hm) hne
/-- the texts told along the order are the codes -/
theorem cAll_cd (h : Hedge n rs) (hr : r < n) (cm : Come n rs r ps) (hm : ∀ v, v < n → (m v).length = c) : ∀ v o, (v, o) ∈ ps → Cd rs m o v ((cAll m ps.reverse).2 v) := by
  have b := ci_all h hr cm hm ps.reverse [] (by simp)
  generalize cAll m ps.reverse = s at b
  have key : ∀ pre post, ps.reverse = pre ++ post → ∀ v o, (v, o) ∈ pre → Cd rs m o v (s.2 v) := by
    intro pre
    refine snoc_ind (P := fun pre => ∀ post, ps.reverse = pre ++ post → ∀ v o, (v, o) ∈ pre → Cd rs m o v (s.2 v)) ?_ ?_ pre
    · intro _ _ v o hm; cases hm
    · rintro pre ⟨v, o⟩ ih post e v' o' hm'
      rw [List.append_assoc] at e
      rcases List.mem_append.mp hm' with q | q
      · exact ih _ e v' o' q
      · simp at q
        obtain ⟨rfl, rfl⟩ := q
        have e : ps.reverse = pre ++ (v', o') :: post := e
        have hvm : (v', o') ∈ ps.reverse := by rw [e]; simp
        have hp := kidsIn_perm h hr cm (List.mem_reverse.mp hvm)
        rw [b.done v' o' hvm, wrap_perm (hp.map s.2)]
        refine Cd.mk o' v' s.2 fun x hx => ?_
        have hxp := mem_kidsIn.mp (hp.mem_iff.mpr hx)
        refine ih _ e x (some v') ?_
        -- x stands in pre
        have hx2 : x ∈ pre.map (·.1) := by
          have h1 : x ∈ (ps.reverse).map (·.1) := List.mem_map_of_mem (f := (·.1)) hxp
          rw [e, List.map_append, List.map_cons, List.mem_append, List.mem_cons] at h1
          rcases h1 with h1 | h1 | h1
          · exact h1
          · have := (cm.grow.up_mem _ _ (List.mem_reverse.mp hxp)).2
            exact absurd h1.symm (h.adj_lt this).2.2
          · exfalso
            obtain ⟨P, Q, hPQ⟩ := List.append_of_mem (List.mem_map.mp h1).choose_spec.1
            have hxe := (List.mem_map.mp h1).choose_spec.2
            generalize (List.mem_map.mp h1).choose = w at hPQ hxe
            obtain ⟨w1, w2⟩ := w
            simp at hxe
            subst hxe
            have e2 : ps.reverse = (pre ++ (v', o') :: P) ++ (w1, w2) :: Q := by rw [e, hPQ]; simp
            have hw : (w1, w2) ∈ ps := by rw [← List.mem_reverse, e2]; simp
            have := nodup_fst_eq cm.grow.nodup hw (List.mem_reverse.mp hxp)
            subst this
            exact (cm.ahead e2).1 (by simp)
        obtain ⟨⟨x1, p1⟩, hx3, q3⟩ := List.mem_map.mp hx2
        simp at q3
        subst q3
        have : (x1, p1) ∈ ps := by rw [← List.mem_reverse, e]; exact List.mem_append_left _ hx3
        rw [nodup_fst_eq cm.grow.nodup (List.mem_reverse.mp hxp) this]
        exact hx3
  intro v o hvo
  exact key ps.reverse [] (by simp) v o (List.mem_reverse.mpr hvo)
theorem come_last (h : Hedge n rs) (hr : r < n) (cm : Come n rs r ps) : ∃ pre, ps.reverse = pre ++ [(r, none)] ∧ pre.length + 1 = n ∧ ∀ p ∈ pre, p.2 ≠ none := by
  obtain ⟨t, ht⟩ := cm.grow.head
  refine ⟨t.reverse, by rw [ht]; simp, ?_, ?_⟩
  · have := (cm.perm h hr).length_eq
    rw [ht] at this
    simpa using this
  · rintro ⟨v, o⟩ hp q
    simp at q hp
    subst q
    have h1 : (v, none) ∈ ps := by rw [ht]; exact List.mem_cons_of_mem _ hp
    have := cm.root_none h1
    subst this
    have hnd := cm.grow.nodup
    rw [ht, List.map_cons, List.nodup_cons] at hnd
    exact hnd.1 (List.mem_map_of_mem (f := (·.1)) hp)
/-- a text is no longer than all -/
theorem cAll_lens (h : Hedge n rs) (hr : r < n) (cm : Come n rs r ps) (hm : ∀ v, v < n → (m v).length = c) (e : ps.reverse = pre ++ (v, o) :: post) : sm ((cAll m pre).1 v) List.length ≤ (2 + c) * n := by
  have b := ci_all h hr cm hm pre _ e
  obtain ⟨p0, e0, hl0, hs0⟩ := come_last h hr cm
  have hpl : pre.length ≤ p0.length := by
    have h1 := congrArg List.length e
    have h2 := congrArg List.length e0
    simp at h1 h2
    omega
  have hpre : pre = p0.take pre.length := by
    have h1 : ps.reverse.take pre.length = pre := by rw [e]; simp
    rw [e0, List.take_append_of_le_length hpl] at h1
    exact h1.symm
  have := b.len (fun p hp => hs0 p (by rw [hpre] at hp; exact List.mem_of_mem_take hp)) _ e
  rw [sx_cons] at this
  have h2 : (2 + c) * pre.length ≤ (2 + c) * n := Nat.mul_le_mul_left _ (by omega)
  simp only at this
  omega
theorem cAll_root (h : Hedge n rs) (hr : r < n) (cm : Come n rs r ps) (hm : ∀ v, v < n → (m v).length = c) : ((cAll m ps.reverse).2 r).length = (2 + c) * n := by
  obtain ⟨p0, e0, hl0, hs0⟩ := come_last h hr cm
  have b := ci_all h hr cm hm p0 _ e0
  have := b.len hs0 _ e0
  rw [sx_cons, sx_nil] at this
  have e1 : cAll m ps.reverse = cStep m (cAll m p0) (r, none) := by rw [e0]; unfold cAll; rw [List.foldl_append]; rfl
  rw [e1]
  show (if r = r then wrap (m r) ((cAll m p0).1 r) else (cAll m p0).2 r).length = _
  rw [if_pos rfl, wrap_len, hm r hr]
  have e2 : (2 + c) * n = (2 + c) * p0.length + (2 + c) := by rw [← hl0, Nat.mul_add, Nat.mul_one]
  simp only at this ⊢
  omega
end
end Hg
end

section
set_option autoImplicit false
set_option maxHeartbeats 1000000
/-! Ppar: what parents tells. -/
namespace Hg
theorem sp_parents {n r : Nat} {rs : List (Nat × Nat)} (hf : Forest n rs) (hn : n ≤ 1000) (hl : rs.length ≤ 1000) (hr : r < n) : ∃ ps, s_parents [hD n rs, nD r] = some (psD ps) ∧ Come n rs r ps := by
  have key : ∃ d, s_parents [hD n rs, nD r] = some d ∧ ∃ ps, d = psD ps ∧ Come n rs r ps := by
    refine runF_R rfl ?_
    have h1 := sp_neighbours hf.lt hn hl
    simp only [d_parents, startEnv]
    simp [h1]
    refine wh_R (R := fun o => ∃ d, o = some (.rt d) ∧ ∃ ps, d = psD ps ∧ Come n rs r ps)
      (fun b : Nat × PL => [.val (hD n rs) .frz, .val (nD r) .frz, .val (rowsD ((List.range n).map (nb rs))) .frz, .val (.lst (b.2.map parD)) .own1, .val (nD b.1) .frz, .un, .un, .un])
      (fun b => BInv rs r b.1 b.2) (fun b => b.1 = b.2.length) (fun b => n - b.1) (0, [(r, none)]) rfl ⟨Grow.root, Nat.zero_le _, by simp, by simp⟩ (by show n - 0 < FU; rw [FU_eq]; omega) ?_ ?_
    · rintro ⟨at_, ps⟩ b
      simp only at b
      have hps : ps.length ≤ n := by
        have := nodup_len b.g.nodup (b.g.lt hf hr)
        simpa using this
      by_cases c : at_ < ps.length
      · refine .inl ⟨?_, ?_⟩
        · have c2 : (at_ : Int) < (ps.length : Int) := by omega
          simp [nD, c2, c]
        · cases hp : ps[at_] with | mk h a =>
          have hat : ps[at_]? = some (h, a) := by rw [List.getElem?_eq_getElem c, hp]
          have hlt : h < n := b.g.lt hf hr h (List.mem_map_of_mem (f := (·.1)) (hp ▸ List.getElem_mem c))
          refine ⟨(at_ + 1, ps ++ (kids rs h a).map fun o => (o, some h)), ?_, b.step hf hr hat, by show n - (at_ + 1) < n - at_; omega⟩
          have e1 : ixV (.lst (ps.map parD), .own1) (nD at_) = some (parD (h, a), .frz) := by
            simp [nD, hat]
          have hk : (kids rs h a).length ≤ rs.length := Nat.le_trans (List.length_filter_le _ _) (nb_len rs h)
          simp [e1, parD]
          rw [ev_comp (nb rs h) nD (fun o => decide (some o ≠ a)) (fun o => parD (o, some h)) (own := false)]
          · have hlen : ps.length + (kids rs h a).length < L := by rw [L_eq]; omega
            have hlen2 : (List.map parD ps).length + (List.map (fun o => parD (o, some h)) (kids rs h a)).length < L := by simpa using hlen
            show andThen ((some (D.lst (List.map (fun o => parD (o, some h)) (kids rs h a)), Kd.new1)).bind _) _ = _
            simp [hlen]
          · simp [hlt]
          · intro o ho
            refine ⟨_, rfl, ?_, fun _ => ⟨.frz, ?_, rfl⟩⟩
            · simp [PD8]
            · simp [parD, oD]
          · have := nb_len rs h; rw [L_eq]; omega
      · refine .inr ⟨?_, ?_⟩
        · have c2 : ¬ (at_ : Int) < (ps.length : Int) := by omega
          simp [nD, c2, c]
        · have := b.a
          show at_ = ps.length
          omega
    · rintro ⟨at_, ps⟩ b hd
      simp at hd
      subst hd
      refine ⟨_, ?_, ps, rfl, b.done hf⟩
      simp [freeze1, psD]
  obtain ⟨d, h1, ps, h2, h3⟩ := key
  exact ⟨ps, h2 ▸ h1, h3⟩
end Hg
end

section
set_option autoImplicit false
set_option maxHeartbeats 1000000
/-! Pcd: branch codes. -/
namespace Hg
@[simp] theorem strsD_str (B : List (List Nat)) : strsD (B.map D.str) = some B := by
  unfold strsD
  have := optAll_map (f := asStr) D.str id B (fun x _ => rfl)
  simpa using this
theorem glue_nil : ∀ B : List (List Nat), glue [] B = B.flatten
  | [] => rfl
  | [x] => by simp [glue]
  | x :: y :: r => by
    have := glue_nil (y :: r)
    simp [glue, this]
def tsD (B : List (List Nat)) : D := .lst (B.map D.str)
theorem sum_len (B : List (List Nat)) : ((sortS B).reverse.map List.length).sum = sm B List.length := sx_perm ((List.reverse_perm _).trans (sortS_perm B)) _
/-- "".join(sorted(B, reverse=True)) -/
theorem ev_joinR {C : Nat → List D → Option D} {a : E} {env : Env} {B : List (List Nat)} {k : Kd} (h : ev C a env = some (tsD B, k)) (hl : B.length < L) (hs : sm B List.length ≤ L) :
    ev C (.join (.c (.str [])) (.sortedR a)) env = some (.str (sortS B).reverse.flatten, .frz) := by
  have h1 : ev C (.sortedR a) env = some (tsD (sortS B).reverse, .new1) := by
    rw [q_ev_sortedR, h]
    simp [tsD, hl]
  have hR := sum_len B
  rw [q_ev_join, h1]
  generalize (sortS B).reverse = R at hR
  have hs' : (R.map List.length).sum ≤ L := by omega
  simp [tsD, glue_nil, D.atom, hs']
theorem ev_wrap {C : Nat → List D → Option D} {a : E} {env : Env} {B : List (List Nat)} {k : Kd} (h : ev C a env = some (tsD B, k)) (hl : B.length < L) (hs : sm B List.length ≤ 90000) :
    ev C (.add (.add (.c (.str [40])) (.join (.c (.str [])) (.sortedR a))) (.c (.str [41]))) env = some (.str (wrap [] B), .frz) := by
  have h1 := ev_joinR h hl (by rw [L_eq]; omega)
  have h2 : ((sortS B).reverse.flatten).length = sm B List.length := by rw [List.length_flatten]; exact sum_len B
  unfold wrap
  generalize (sortS B).reverse.flatten = X at h1 h2
  have e1 : addD (.str [40]) (.str X) = some (.str (40 :: X)) := addD_str (by rw [L_eq]; simp; omega)
  have e2 : addD (.str (40 :: X)) (.str [41]) = some (.str (40 :: (X ++ [41]))) := addD_str (by rw [L_eq]; simp; omega)
  rw [q_ev_add, q_ev_add, h1]
  simp [D.atom, e1, e2, nw, kdOf]
theorem ev_wrapM {C : Nat → List D → Option D} {a mk : E} {env : Env} {B : List (List Nat)} {m : List Nat} {k k' : Kd} (h : ev C a env = some (tsD B, k)) (hm : ev C mk env = some (.str m, k')) (hl : B.length < L) (hs : sm B List.length ≤ 90000) (hml : m.length ≤ 5) :
    ev C (.add (.add (.add (.c (.str [40])) mk) (.join (.c (.str [])) (.sortedR a))) (.c (.str [41]))) env = some (.str (wrap m B), .frz) := by
  have h1 := ev_joinR h hl (by rw [L_eq]; omega)
  have h2 : ((sortS B).reverse.flatten).length = sm B List.length := by rw [List.length_flatten]; exact sum_len B
  unfold wrap
  generalize (sortS B).reverse.flatten = X at h1 h2
  have e0 : addD (.str [40]) (.str m) = some (.str (40 :: m)) := addD_str (by rw [L_eq]; simp; omega)
  have e1 : addD (.str (40 :: m)) (.str X) = some (.str (40 :: (m ++ X))) := addD_str (by rw [L_eq]; simp; omega)
  have e2 : addD (.str (40 :: (m ++ X))) (.str [41]) = some (.str (40 :: (m ++ (X ++ [41])))) := by rw [addD_str (by rw [L_eq]; simp; omega)]; simp
  rw [q_ev_add, q_ev_add, q_ev_add, h1, hm]
  simp [D.atom, e0, e1, e2, nw, kdOf]
/-- what stands before a place of the order is short -/
theorem cAll_small {n r c : Nat} {rs : List (Nat × Nat)} {ps pre post : PL} {v : Nat} {o : Option Nat} {m : Nat → List Nat} (h : Hedge n rs) (hn : n ≤ 1000) (hr : r < n) (cm : Come n rs r ps) (hc : c ≤ 5) (hm : ∀ v, v < n → (m v).length = c) (e : ps.reverse = pre ++ (v, o) :: post) :
    (∀ x, ((cAll m pre).1 x).length + 1 < L) ∧ sm ((cAll m pre).1 v) List.length ≤ 90000 := by
  refine ⟨fun x => ?_, ?_⟩
  · have b := ci_all h hr cm hm pre _ e
    rw [b.now x, List.length_map]
    have h1 : (kidsIn pre x).length ≤ pre.length := List.length_filterMap_le _ _
    have h2 := (cm.perm h hr).length_eq
    have h3 := congrArg List.length e
    simp at h2 h3
    rw [L_eq]; omega
  · have h1 := cAll_lens h hr cm hm e
    have h2 : (2 + c) * n ≤ 7 * 1000 := Nat.mul_le_mul (by omega) hn
    omega
def csD (n : Nat) (f : Nat → List Nat) : D := .lst ((List.range n).map fun v => .str (f v))
def m0 : Nat → List Nat := fun _ => []
@[simp] theorem vm_str' (s : List Nat) (k : Kd) : vm (some (D.str s, k)) = some (.str s) := vm_str s k
theorem sp_branch_codes {n r : Nat} {rs : List (Nat × Nat)} (h : Hedge n rs) (hn : n ≤ 1000) (hr : r < n) : ∃ ps, s_parents [hD n rs, nD r] = some (psD ps) ∧ Come n rs r ps ∧ s_branch_codes [hD n rs, nD r] = some (csD n (cAll m0 ps.reverse).2) := by
  obtain ⟨ps, h1, hc⟩ := sp_parents h.forest hn (by have := h.len; omega) hr
  refine ⟨ps, h1, hc, ?_⟩
  unfold s_branch_codes
  refine runF_eq rfl ?_
  simp only [d_branch_codes, startEnv]
  simp
  have hlt := hc.grow.lt h.forest hr
  rw [ev_compD (List.range n) nD (fun _ => D.lst []) (own := false)]
  · simp
    rw [ev_compM (List.range n) nD (fun _ => D.str []) (own := false)]
    · simp
      refine for_step ps.reverse parD (fun s : CS => [.val (hD n rs) .frz, .val (nD r) .frz, .val (.lst ((List.range n).map fun v => tsD (s.1 v))) .own2, .un, .val (csD n s.2) .own1, .un, .un])
        (fun pre s => s = cAll m0 pre) (fun _ => [], fun _ => []) ?_ rfl rfl ?_ ?_
      · simp [h1, psD]
      · rintro pre ⟨v, o⟩ post s e hs
        obtain ⟨z1, z2⟩ := cAll_small h hn hr hc (c := 0) (m := m0) (by omega) (fun _ _ => rfl) e
        rw [← hs] at z1 z2
        refine ⟨cStep m0 s (v, o), ?_, by rw [hs]; unfold cAll; rw [List.foldl_append]; rfl⟩
        have hm : (v, o) ∈ ps := by rw [← List.mem_reverse, e]; simp
        have hv : v < n := hlt v (List.mem_map_of_mem (f := (·.1)) hm)
        have hw : ev (calls [(9, s_parents)]) (.add (.add (.c (.str [40])) (.join (.c (.str [])) (.sortedR (.ix (.var 2) (.var 5))))) (.c (.str [41]))) [.val (hD n rs) .frz, .val (nD r) .frz, .val (.lst ((List.range n).map fun v => tsD (s.1 v))) .own2, .un, .val (csD n s.2) .own1, .val (nD v) .frz, .val (oD o) .frz] = some (.str (wrap [] (s.1 v)), .frz) :=
          ev_wrap (k := .own1) (by simp [hv]) (by have := z1 v; omega) z2
        cases o with
        | none =>
          simp [parD, oD, -q_ev_add] at hw ⊢
          rw [hw]
          simp [csD, ixN_nat hv, map_range_set, cStep, m0]
          intro a _
          by_cases q : a = v <;> simp [q]
        | some u =>
          have hu : u < n := hlt u (hc.grow.up_mem _ _ hm).1
          have zu := z1 u
          simp [parD, oD, -q_ev_add] at hw ⊢
          rw [hw]
          have zu' : (s.1 u).length < L := by omega
          simp [csD, ixN_nat hv, ixN_nat hu, hu, hv, map_range_set, cStep, m0, tsD, zu']
          refine ⟨fun a _ => ?_, fun a _ => ?_⟩
          · by_cases q : a = u
            · subst q; simp
            · simp [q]
          · by_cases q : a = v <;> simp [q]
      · intro s hs
        subst hs
        simp [freeze1]
    · exact evI_rng rfl hn
    · intro v hv
      exact ⟨_, rfl, .frz, rfl, rfl⟩
    · simp [L_eq]; omega
  · exact evI_rng rfl hn
  · intro v hv
    exact ⟨_, rfl, by simp⟩
  · simp [L_eq]; omega
theorem sp_code_from {n r : Nat} {rs : List (Nat × Nat)} (h : Hedge n rs) (hn : n ≤ 1000) (hr : r < n) : ∃ t, s_code_from [hD n rs, nD r] = some (.str t) ∧ Cd rs m0 none r t ∧ t.length = 2 * n := by
  obtain ⟨ps, _, hc, h1⟩ := sp_branch_codes h hn hr
  obtain ⟨tl, ht⟩ := hc.grow.head
  refine ⟨(cAll m0 ps.reverse).2 r, ?_, cAll_cd h hr hc (c := 0) (fun _ _ => rfl) r none (by rw [ht]; simp), ?_⟩
  · unfold s_code_from
    refine runF_eq rfl ?_
    simp [d_code_from, startEnv, h1, csD, hr]
  · have := cAll_root h hr hc (c := 0) (m := m0) (fun _ _ => rfl)
    simpa using this
def ahD : Option Nat → D | none => .int (-1) | some u => nD u
def trD (p : Nat × Option Nat) : D := .tup [nD p.1, ahD p.2]
@[simp] theorem plainD_ahD (n : Nat) (a : Option Nat) : plainD n (ahD a) = true := by cases a <;> simp [ahD]
@[simp] theorem eqD_na (x : Nat) (a : Option Nat) : eqD (nD x) (ahD a) = decide (some x = a) := by
  cases a with
  | none => simp [ahD, nD]
  | some y => simp [ahD]
theorem sp_l_tree {n r : Nat} {rs : List (Nat × Nat)} (hf : Forest n rs) (hn : n ≤ 1000) (hl : rs.length ≤ 1000) (hr : r < n) : ∃ ps, s_l_tree [rowsD ((List.range n).map (nb rs)), nD r] = some (.lst (ps.map trD)) ∧ Come n rs r ps := by
  have key : ∃ d, s_l_tree [rowsD ((List.range n).map (nb rs)), nD r] = some d ∧ ∃ ps, d = .lst (ps.map trD) ∧ Come n rs r ps := by
    refine runF_R rfl ?_
    simp only [d_l_tree, startEnv]
    simp
    refine wh_R (R := fun o => ∃ d, o = some (.rt d) ∧ ∃ ps, d = .lst (ps.map trD) ∧ Come n rs r ps)
      (fun b : Nat × PL => [.val (rowsD ((List.range n).map (nb rs))) .frz, .val (nD r) .frz, .val (.lst (b.2.map trD)) .frz, .val (nD b.1) .frz, .un, .un, .un])
      (fun b => BInv rs r b.1 b.2) (fun b => b.1 = b.2.length) (fun b => n - b.1) (0, [(r, none)]) rfl ⟨Grow.root, Nat.zero_le _, by simp, by simp⟩ (by show n - 0 < FU; rw [FU_eq]; omega) ?_ ?_
    · rintro ⟨at_, ps⟩ b
      simp only at b
      have hps : ps.length ≤ n := by
        have := nodup_len b.g.nodup (b.g.lt hf hr)
        simpa using this
      by_cases c : at_ < ps.length
      · refine .inl ⟨?_, ?_⟩
        · have c2 : (at_ : Int) < (ps.length : Int) := by omega
          simp [nD, c2, c]
        · cases hp : ps[at_] with | mk h a =>
          have hat : ps[at_]? = some (h, a) := by rw [List.getElem?_eq_getElem c, hp]
          have hlt : h < n := b.g.lt hf hr h (List.mem_map_of_mem (f := (·.1)) (hp ▸ List.getElem_mem c))
          refine ⟨(at_ + 1, ps ++ (kids rs h a).map fun o => (o, some h)), ?_, b.step hf hr hat, by show n - (at_ + 1) < n - at_; omega⟩
          have e1 : ixV (.lst (ps.map trD), .frz) (nD at_) = some (trD (h, a), .frz) := by
            simp [nD, hat]
          have hk : (kids rs h a).length ≤ rs.length := Nat.le_trans (List.length_filter_le _ _) (nb_len rs h)
          simp [e1, trD]
          rw [ev_comp (nb rs h) nD (fun o => decide (some o ≠ a)) (fun o => trD (o, some h)) (own := false)]
          · have hlen : ps.length + (kids rs h a).length ≤ L := by rw [L_eq]; omega
            have hadd : addD (.lst (ps.map trD)) (.lst ((kids rs h a).map fun o => trD (o, some h))) = some (.lst (ps.map trD ++ (kids rs h a).map fun o => trD (o, some h))) := addD_lst (by simpa using hlen)
            have hadd2 : addD (.lst (ps.map trD)) (.lst ((kids rs h a).map fun o => D.tup [nD o, nD h])) = some (.lst (ps.map trD ++ (kids rs h a).map fun o => trD (o, some h))) := hadd
            show andThen ((nw ((some (D.lst (ps.map trD))).bind fun x => (em (some (D.lst ((kids rs h a).map fun o => trD (o, some h)), Kd.new1))).bind fun y => addD x y)).bind _) _ = _
            have nwL : ∀ x : List D, nw (some (D.lst x)) = some (.lst x, .new1) := fun _ => rfl
            simp [trD, ahD, Function.comp_def] at hadd2 ⊢
            simp [hadd2, nwL]
          · simp [hlt]
          · intro o ho
            refine ⟨_, rfl, ?_, fun _ => ⟨.frz, ?_, rfl⟩⟩
            · simp [PD8]
            · simp [trD, ahD]
          · have := nb_len rs h; rw [L_eq]; omega
      · refine .inr ⟨?_, ?_⟩
        · have c2 : ¬ (at_ : Int) < (ps.length : Int) := by omega
          simp [nD, c2, c]
        · have := b.a
          show at_ = ps.length
          omega
    · rintro ⟨at_, ps⟩ b hd
      simp at hd
      subst hd
      refine ⟨_, ?_, ps, rfl, b.done hf⟩
      simp
  obtain ⟨d, h1, ps, h2, h3⟩ := key
  exact ⟨ps, h2 ▸ h1, h3⟩
theorem sp_l_code {n r : Nat} {rs : List (Nat × Nat)} (h : Hedge n rs) (hn : n ≤ 1000) (hr : r < n) : ∃ t, s_l_code [rowsD ((List.range n).map (nb rs)), nD r] = some (.str t) ∧ Cd rs m0 none r t := by
  obtain ⟨ps, h1, hc⟩ := sp_l_tree h.forest hn (by have := h.len; omega) hr
  obtain ⟨tl, ht⟩ := hc.grow.head
  refine ⟨(cAll m0 ps.reverse).2 r, ?_, cAll_cd h hr hc (c := 0) (fun _ _ => rfl) r none (by rw [ht]; simp)⟩
  obtain ⟨p0, e0, _, _⟩ := come_last h hr hc
  unfold s_l_code
  refine runF_eq rfl ?_
  simp only [d_l_code, startEnv]
  simp
  have hlt := hc.grow.lt h.forest hr
  rw [ev_compD (List.range n) (fun v => nsD (nb rs v)) (fun _ => D.lst []) (own := false)]
  · simp
    refine for_step ps.reverse trD (fun b : CS × List Nat => [.val (rowsD ((List.range n).map (nb rs))) .frz, .val (nD r) .frz, .val (.lst ((List.range n).map fun v => tsD (b.1.1 v))) .own2, .un, .val (.str b.2) .frz, .un, .un])
      (fun pre b => b.1 = cAll m0 pre ∧ ∀ p, pre.getLast? = some p → b.2 = b.1.2 p.1) ((fun _ => [], fun _ => []), []) ?_ rfl ⟨rfl, by simp⟩ ?_ ?_
    · simp [h1]
    · rintro pre ⟨v, o⟩ post ⟨s, t⟩ e ⟨hs, _⟩
      simp only at hs
      obtain ⟨z1, z2⟩ := cAll_small h hn hr hc (c := 0) (m := m0) (by omega) (fun _ _ => rfl) e
      rw [← hs] at z1 z2
      refine ⟨(cStep m0 s (v, o), wrap [] (s.1 v)), ?_, by rw [hs]; unfold cAll; rw [List.foldl_append]; rfl, by simp [cStep, m0]⟩
      have hm : (v, o) ∈ ps := by rw [← List.mem_reverse, e]; simp
      have hv : v < n := hlt v (List.mem_map_of_mem (f := (·.1)) hm)
      have hw : ev (calls [(28, s_l_tree)]) (.add (.add (.c (.str [40])) (.join (.c (.str [])) (.sortedR (.ix (.var 2) (.var 5))))) (.c (.str [41]))) [.val (rowsD ((List.range n).map (nb rs))) .frz, .val (nD r) .frz, .val (.lst ((List.range n).map fun v => tsD (s.1 v))) .own2, .un, .val (.str t) .frz, .val (nD v) .frz, .val (ahD o) .frz] = some (.str (wrap [] (s.1 v)), .frz) :=
        ev_wrap (k := .own1) (by simp [hv]) (by have := z1 v; omega) z2
      cases o with
      | none =>
        simp [trD, ahD, -q_ev_add] at hw ⊢
        rw [hw]
        simp [cStep, m0]
      | some u =>
        have hu : u < n := hlt u (hc.grow.up_mem _ _ hm).1
        have zu := z1 u
        simp [trD, ahD, -q_ev_add] at hw ⊢
        rw [hw]
        have zu' : (s.1 u).length < L := by omega
        have hu0 : ¬ ((u : Int) < 0) := by omega
        simp [nD, ixN_nat hu, hu, map_range_set, cStep, m0, tsD, zu', hu0]
        intro a _
        by_cases q : a = u
        · subst q; simp
        · simp [q]
    · rintro ⟨s, t⟩ ⟨hs, ht2⟩
      have := ht2 (r, none) (by rw [e0]; simp)
      simp only at hs this
      subst hs
      simp [this]
  · simp [rowsD]
  · intro v hv
    exact ⟨_, rfl, by simp⟩
  · simp [L_eq]; omega
end Hg
end

section
set_option autoImplicit false
set_option maxHeartbeats 1000000
/-! Pmx: greatest and least. -/
namespace Hg
def mx (xs : List Nat) : Nat := xs.foldl max 0
def mn : List Nat → Nat | [] => 0 | x :: xs => xs.foldl min x
theorem foldl_max_int : ∀ (xs : List Nat) (a : Nat), (xs.map fun k : Nat => (k : Int)).foldl max (a : Int) = ((xs.foldl max a : Nat) : Int)
  | [], _ => rfl
  | x :: xs, a => by
    rw [List.map_cons, List.foldl_cons, List.foldl_cons, ← foldl_max_int xs (max a x)]
    congr 1
    omega
theorem foldl_min_int : ∀ (xs : List Nat) (a : Nat), (xs.map fun k : Nat => (k : Int)).foldl min (a : Int) = ((xs.foldl min a : Nat) : Int)
  | [], _ => rfl
  | x :: xs, a => by
    rw [List.map_cons, List.foldl_cons, List.foldl_cons, ← foldl_min_int xs (min a x)]
    congr 1
    omega
theorem intsD_nD (xs : List Nat) : intsD (xs.map nD) = some (xs.map fun k : Nat => (k : Int)) := by
  have := intsD_map (xs.map fun k : Nat => (k : Int))
  rwa [List.map_map] at this
theorem maxV_N {xs : List Nat} (h : xs ≠ []) : maxV (nsD xs) = some (nD (mx xs), .frz) := by
  cases xs with
  | nil => exact absurd rfl h
  | cons x xs =>
    have e : mx (x :: xs) = xs.foldl max x := by unfold mx; rw [List.foldl_cons, Nat.zero_max]
    show frI ((intsD ((x :: xs).map nD)).bind maxL) = _
    rw [intsD_nD, e]
    show some (D.int (List.foldl max (x : Int) (xs.map _)), Kd.frz) = _
    rw [foldl_max_int]
    rfl
theorem minV_N {xs : List Nat} (h : xs ≠ []) : minV (nsD xs) = some (nD (mn xs), .frz) := by
  cases xs with
  | nil => exact absurd rfl h
  | cons x xs =>
    show frI ((intsD ((x :: xs).map nD)).bind minL) = _
    rw [intsD_nD]
    show some (D.int (List.foldl min (x : Int) (xs.map _)), Kd.frz) = _
    rw [foldl_min_int]
    rfl
@[simp] theorem ltA_nn (a b : Nat) : ltA (nD a) (nD b) = some (decide (a < b)) := by
  exact congrArg some (decide_eq_decide.mpr (by omega))
@[simp] theorem ltA_n0 (a : Nat) : ltA (nD a) (.int 0) = some false := by
  exact congrArg some (decide_eq_false (by omega))
@[simp] theorem ltA_0n (a : Nat) : ltA (.int 0) (nD a) = some (decide (0 < a)) := ltA_nn 0 a
@[simp] theorem ltA_n1 (a : Nat) : ltA (nD a) (.int 1) = some (decide (a < 1)) := ltA_nn a 1
@[simp] theorem ltA_n2 (a : Nat) : ltA (nD a) (.int 2) = some (decide (a < 2)) := ltA_nn a 2
@[simp] theorem ltA_n3 (a : Nat) : ltA (nD a) (.int 3) = some (decide (a < 3)) := ltA_nn a 3
@[simp] theorem ltA_1n (a : Nat) : ltA (.int 1) (nD a) = some (decide (1 < a)) := ltA_nn 1 a
@[simp] theorem ltA_2n (a : Nat) : ltA (.int 2) (nD a) = some (decide (2 < a)) := ltA_nn 2 a
@[simp] theorem isTy_nD (a : Nat) : isTy (nD a) .int = true := rfl
@[simp] theorem isTy_nDb (a : Nat) : isTy (nD a) .bool = false := rfl
theorem range_ne {n : Nat} {β : Type} (h : 0 < n) (F : Nat → β) : (List.range n).map F ≠ [] := by
  cases n with
  | zero => omega
  | succ n => rw [List.range_succ_eq_map]; simp
theorem range_filter_rise (n : Nat) (p : Nat → Bool) : ((List.range n).filter p).Pairwise (fun a b => a < b) := List.pairwise_lt_range.filter _
end Hg
end

section
set_option autoImplicit false
set_option maxHeartbeats 1000000
/-! Plen: lengths. -/
namespace Hg
theorem sp_lengths {n r : Nat} {rs : List (Nat × Nat)} (h : Hedge n rs) (hn : n ≤ 1000) (hr : r < n) : s_lengths [hD n rs, nD r] = some (nsD ((List.range n).map (dist rs r))) := by
  obtain ⟨ps, h1, hc⟩ := sp_parents h.forest hn (by have := h.len; omega) hr
  unfold s_lengths
  refine runF_eq rfl ?_
  simp only [d_lengths, startEnv]
  simp
  rw [ev_compM (List.range n) nD (fun _ => nD 0) (own := false)]
  · simp
    have hp := hc.perm h hr
    refine for_step ps parD (fun f : Nat → Nat => [.val (hD n rs) .frz, .val (nD r) .frz, .val (.lst ((List.range n).map fun v => nD (f v))) .own1, .un, .un, .un])
      (fun pre f => ∀ v, f v = if v ∈ pre.map (·.1) then dist rs r v else 0) (fun _ => 0) ?_ rfl (by simp) ?_ ?_
    · simp [h1, psD]
    · rintro pre ⟨v, a⟩ post f e hf
      have hv : v < n := List.mem_range.mp (hp.mem_iff.mp (by rw [e]; simp))
      rcases hc.grow.at e with ⟨rfl, rfl, rfl⟩ | ⟨u, rfl, g, hu, ha, hvn⟩
      · refine ⟨f, ?_, fun x => ?_⟩
        · simp [parD, oD]
        · rw [hf x]
          by_cases c : x = v
          · subst c; simp [dist_self]
          · simp [c]
      · have hul : u < n := (h.adj_lt ha).1
        refine ⟨fun x => if x = v then dist rs r v else f x, ?_, fun x => ?_⟩
        · have e1 : f u + 1 = dist rs r v := by rw [hf u, if_pos hu, g.dist h hu ha hvn]
          have e2 : ixV (.lst ((List.range n).map fun v => nD (f v)), .own1) (nD u) = some (nD (f u), .frz) := by
            simp [nD, hul]
          simp [parD, oD, e2, e1, ixN_nat hv, map_range_set]
          intro x hx
          by_cases c : x = v <;> simp [c]
        · rw [List.map_append, List.map_cons, List.map_nil]
          by_cases c : x = v
          · subst c; simp
          · simp only [c, if_false, List.mem_append, List.mem_singleton, or_false]
            exact hf x
    · intro f hf
      simp [freeze1, nsD]
      intro v hv
      rw [hf v, if_pos (hp.mem_iff.mpr (List.mem_range.mpr hv))]
  · exact evI_rng rfl hn
  · intro v hv
    exact ⟨_, rfl, .frz, rfl, rfl⟩
  · simp [L_eq]; omega
end Hg
end

section
set_option autoImplicit false
set_option maxHeartbeats 1000000
/-! Prch: reaches. -/
namespace Hg
/-! ### reaches and the middle -/
noncomputable def reach (rs : List (Nat × Nat)) (n v : Nat) : Nat := mx ((List.range n).map (dist rs v))
noncomputable def mids (rs : List (Nat × Nat)) (n : Nat) : List Nat := (List.range n).filter fun v => decide (reach rs n v = mn ((List.range n).map (reach rs n)))
theorem sp_reaches {n : Nat} {rs : List (Nat × Nat)} (h : Hedge n rs) (hn : n ≤ 1000) : s_reaches [hD n rs] = some (nsD ((List.range n).map (reach rs n))) := by
  unfold s_reaches
  refine runF_eq rfl ?_
  simp only [d_reaches, startEnv]
  simp
  rw [ev_compM (List.range n) nD (fun v => nD (reach rs n v)) (own := false)]
  · simp [nsD]
  · exact evI_rng rfl hn
  · intro v hv
    have hv := List.mem_range.mp hv
    refine ⟨_, rfl, .frz, ?_, rfl⟩
    simp [sp_lengths h hn hv, maxV_N (range_ne h.pos _), reach]
  · simp [L_eq]; omega
end Hg
end

section
set_option autoImplicit false
set_option maxHeartbeats 1000000
/-! Pmid: the middle. -/
namespace Hg
theorem sp_middle {n : Nat} {rs : List (Nat × Nat)} (h : Hedge n rs) (hn : n ≤ 1000) : s_middle [hD n rs] = some (nsD (mids rs n)) := by
  unfold s_middle
  refine runF_eq rfl ?_
  simp only [d_middle, startEnv]
  simp [sp_reaches h hn]
  rw [ev_comp (List.range n) nD (fun v => decide (reach rs n v = mn ((List.range n).map (reach rs n)))) nD (own := false)]
  · simp [nsD, mids]
  · exact evI_rng rfl hn
  · intro v hv
    have hv := List.mem_range.mp hv
    refine ⟨_, rfl, ?_, fun _ => ⟨.frz, by simp, by simp⟩⟩
    simp [hv, minV_N (range_ne h.pos _)]
  · simp [L_eq]; omega
end Hg
end

section
set_option autoImplicit false
set_option maxHeartbeats 1000000
/-! Pfar: the law's own distances. -/
namespace Hg
noncomputable def fD (rs : List (Nat × Nat)) (r : Nat) (ps : PL) (v : Nat) : D := if v ∈ ps.map (·.1) then nD (dist rs r v) else .int (-1)
structure FInv (rs : List (Nat × Nat)) (r : Nat) (ps : PL) (todo : List Nat) : Prop where
  g : Grow rs r ps
  sub : ∀ u ∈ todo, u ∈ ps.map (·.1)
  le : todo.length ≤ ps.length
  cl : ∀ u ∈ ps.map (·.1), u ∉ todo → ∀ v, Adj rs u v → v ∈ ps.map (·.1)
structure GInv (n : Nat) (rs : List (Nat × Nat)) (r h : Nat) (m0 : Nat) (ps : PL) (todo : List Nat) (pre : List Nat) : Prop where
  g : Grow rs r ps
  hm : h ∈ ps.map (·.1)
  sub : ∀ u ∈ todo, u ∈ ps.map (·.1)
  cl : ∀ u ∈ ps.map (·.1), u ∉ todo → u = h ∨ ∀ v, Adj rs u v → v ∈ ps.map (·.1)
  pr : ∀ o ∈ pre, o ∈ ps.map (·.1)
  ms : todo.length + n = m0 + ps.length
theorem Grow.len_le {n r : Nat} {rs : List (Nat × Nat)} {ps : PL} (hf : Forest n rs) (hr : r < n) (g : Grow rs r ps) : ps.length ≤ n := by
  have := nodup_len g.nodup (g.lt hf hr)
  simpa using this
theorem sp_far {n r : Nat} {rs : List (Nat × Nat)} (h : Hedge n rs) (hn : n ≤ 1000) (hr : r < n) : s_l_far [rowsD ((List.range n).map (nb rs)), nD r] = some (nsD ((List.range n).map (dist rs r))) := by
  have hf := h.forest
  have hlen := h.len
  unfold s_l_far
  refine runF_eq rfl ?_
  simp only [d_l_far, startEnv]
  simp
  rw [ev_compM (List.range n) (fun v => nsD (nb rs v)) (fun _ => D.int (-1)) (own := false)]
  · simp [ixN_nat hr, map_range_set]
    refine wh_step (fun b : PL × List Nat => [.val (rowsD ((List.range n).map (nb rs))) .frz, .val (nD r) .frz, .val (.lst ((List.range n).map (fD rs r b.1))) .own1, .un, .val (.lst (b.2.map nD)) .own1, .un])
      (fun b => FInv rs r b.1 b.2) (fun b => b.2 = []) (fun b => (n - b.1.length) + b.2.length) ([(r, none)], [r]) ?_ ?_ ?_ ?_ ?_
    · simp
      intro v hv
      by_cases c : v = r
      · subst c; simp [fD, dist_self, nD]
      · simp [fD, c]
    · exact ⟨Grow.root, by simp, by simp, by simp⟩
    · show (n - 1) + 1 < FU
      rw [FU_eq]; omega
    · rintro ⟨ps, todo⟩ b
      simp only at b
      cases todo with
      | nil => exact .inr ⟨by simp, rfl⟩
      | cons x rest =>
        have hxm := b.sub x (List.mem_cons_self ..)
        have hx : x < n := b.g.lt hf hr x hxm
        have hpl := b.g.len_le hf hr
        have hle := b.le
        simp only [List.length_cons] at hle
        refine .inl ⟨by simp, ?_⟩
        simp [hx]
        refine for_R (R := fun o => ∃ a b_1, o = some (.nx [.val (rowsD ((List.range n).map (nb rs))) .frz, .val (nD r) .frz, .val (.lst ((List.range n).map (fD rs r a))) .own1, .un, .val (.lst (b_1.map nD)) .own1, .un]) ∧ FInv rs r a b_1 ∧ n - a.length + b_1.length < n - ps.length + (rest.length + 1))
          (nb rs x) nD (fun q : PL × List Nat => [.val (rowsD ((List.range n).map (nb rs))) .frz, .val (nD r) .frz, .val (.lst ((List.range n).map (fD rs r q.1))) .own1, .un, .val (.lst (q.2.map nD)) .own1, .val (nD x) .frz])
          (fun pre q => GInv n rs r x (n + rest.length - ps.length) q.1 q.2 pre) (ps, rest) ?_ rfl ?_ ?_ ?_
        · simp [hx]
        · refine ⟨b.g, hxm, fun u hu => b.sub u (List.mem_cons_of_mem _ hu), fun u hu hnt => ?_, by simp, by simp only; omega⟩
          by_cases c : u = x
          · exact .inl c
          · exact .inr (b.cl u hu (by simp [c, hnt]))
        · rintro pre o post ⟨ps', todo'⟩ e q
          simp only at q
          have ho : Adj rs x o := hf.mem_nb.mp (by rw [e]; simp)
          have hol : o < n := (h.adj_lt ho).2.1
          by_cases c : o ∈ ps'.map (·.1)
          · refine ⟨(ps', todo'), ?_, q.g, q.hm, q.sub, q.cl, ?_, q.ms⟩
            · have e1 : fD rs r ps' o = nD (dist rs r o) := if_pos c
              have e2 : ¬ ((dist rs r o : Nat) : Int) < 0 := by omega
              simp [hol, e1, nD, e2]
            · intro y hy
              rcases List.mem_append.mp hy with hy | hy
              · exact q.pr y hy
              · simp at hy; exact hy ▸ c
          · have hpl' := q.g.len_le hf hr
            have htl : todo'.length < L := by have := q.ms; rw [L_eq]; omega
            have e1 : fD rs r ps' o = .int (-1) := if_neg c
            have e2 : fD rs r ps' x = nD (dist rs r x) := if_pos q.hm
            have e3 := q.g.dist h q.hm ho c
            refine ⟨(ps' ++ [(o, some x)], todo' ++ [o]), ?_, Grow.add o x q.g q.hm ho c, ?_, ?_, ?_, ?_, ?_⟩
            · simp [hol, hx, e1, e2, ixN_nat hol, map_range_set, htl]
              intro v hv
              by_cases cv : v = o
              · subst cv; simp [fD, e3]
              · have e9 : (v ∈ (ps' ++ [(o, some x)]).map (·.1)) ↔ v ∈ ps'.map (·.1) := by
                  rw [List.map_append, List.mem_append]; simp [cv]
                simp only [fD, e9, cv, if_false]
            · rw [List.map_append]; exact List.mem_append_left _ q.hm
            · intro u hu
              rw [List.map_append]
              rcases List.mem_append.mp hu with hu | hu
              · exact List.mem_append_left _ (q.sub u hu)
              · exact List.mem_append_right _ (by simpa using hu)
            · intro u hu hnt
              rw [List.map_append, List.mem_append] at hu
              simp at hnt
              rcases hu with hu | hu
              · rcases q.cl u hu hnt.1 with h1 | h1
                · exact .inl h1
                · exact .inr fun v hv => by rw [List.map_append]; exact List.mem_append_left _ (h1 v hv)
              · simp at hu; exact absurd hu hnt.2
            · intro y hy
              rw [List.map_append]
              rcases List.mem_append.mp hy with hy | hy
              · exact List.mem_append_left _ (q.pr y hy)
              · exact List.mem_append_right _ (by simpa using hy)
            · have := q.ms
              simp
              omega
        · rintro ⟨ps', todo'⟩ q
          simp only at q
          refine ⟨ps', todo', by simp, ⟨q.g, q.sub, by have := q.ms; omega, fun u hu hnt => ?_⟩, ?_⟩
          · rcases q.cl u hu hnt with rfl | h1
            · exact fun v hv => q.pr v (hf.mem_nb.mpr hv)
            · exact h1
          · have := q.ms
            have := q.g.len_le hf hr
            omega
    · rintro ⟨ps, todo⟩ b hd
      simp only at b hd
      subst hd
      simp [freeze1, nsD]
      intro v hv
      have hc : Come n rs r ps := ⟨b.g, fun u hu v hv => b.cl u hu (by simp) v hv⟩
      exact if_pos ((hc.perm h hr).mem_iff.mpr (List.mem_range.mpr hv))
  · simp [rowsD]
  · intro v hv
    exact ⟨_, rfl, .frz, rfl, rfl⟩
  · simp [L_eq]; omega
end Hg
end

section
set_option autoImplicit false
set_option maxHeartbeats 1000000
/-! Pmem: membership in lists of numbers, of rods. -/
namespace Hg
theorem memD_map {α : Type} [DecidableEq α] (f : α → D) (h1 : ∀ x, plainD PD (f x) = true) (h2 : ∀ x, plainD 7 (f x) = true) (he : ∀ x y, eqD (f x) (f y) = decide (x = y)) (x : α) (T : List α) : memD (f x) (.lst (T.map f)) = some (decide (x ∈ T)) := by
  have h : plainD PD (f x) = true ∧ plainD PD (D.lst (T.map f)) = true := ⟨h1 x, by
    rw [PD_eq, plainD_lst, List.all_map]
    exact List.all_eq_true.mpr fun y _ => h2 y⟩
  show (if _ then some ((T.map f).any fun y => eqD y (f x)) else none) = _
  rw [if_pos h, List.any_map]
  congr 1
  rw [Bool.eq_iff_iff, List.any_eq_true, decide_eq_true_eq]
  constructor
  · rintro ⟨y, hy, h3⟩
    simp [he] at h3
    exact h3 ▸ hy
  · intro hx
    exact ⟨x, hx, by simp [he]⟩
theorem memD_ns (x : Nat) (T : List Nat) : memD (nD x) (nsD T) = some (decide (x ∈ T)) := memD_map nD (plain_nD _) (plain_nD _) eqD_nD x T
theorem memD_nl (x : Nat) (T : List Nat) : memD (nD x) (.lst (T.map nD)) = some (decide (x ∈ T)) := memD_ns x T
theorem memD_rods (x : Nat × Nat) (T : List (Nat × Nat)) : memD (rodD x) (.lst (T.map rodD)) = some (decide (x ∈ T)) := by
  rw [memD_map rodD (plain_rodD _) (plain_rodD _) eqD_rodD x T]
  exact congrArg some (decide_eq_decide.mpr Iff.rfl)
theorem sortN_strict {xs : List Nat} (h : xs.Nodup) : (sortN xs).Pairwise fun a b => a < b := by
  have h1 := sortN_pw xs
  have h2 : (sortN xs).Nodup := (sortN_perm xs).nodup_iff.mpr h
  refine (h1.and h2).imp ?_
  intro a b hab
  obtain ⟨h3, h4⟩ := hab
  exact Nat.lt_of_le_of_ne h3 h4
theorem pw_sym {α : Type} {R : α → α → Prop} (hs : ∀ x y, R x y → R y x) : ∀ {xs : List α}, xs.Pairwise R → ∀ x ∈ xs, ∀ y ∈ xs, x ≠ y → R x y
  | [], _, x, hx, _, _, _ => by cases hx
  | z :: zs, h, x, hx, y, hy, hne => by
    obtain ⟨h1, h2⟩ := List.pairwise_cons.mp h
    rcases List.mem_cons.mp hx with e1 | e1
    · rcases List.mem_cons.mp hy with e2 | e2
      · exact absurd (e1.trans e2.symm) hne
      · exact e1 ▸ h1 y e2
    · rcases List.mem_cons.mp hy with e2 | e2
      · exact hs _ _ (e2 ▸ h1 x e1)
      · exact pw_sym hs h2 x e1 y e2 hne
theorem not_dec_lt (a b : Nat) : (!decide (a < b)) = decide (b ≤ a) := by
  by_cases h : a < b
  · simp [h]
  · simp [h]; omega
theorem cast_min (v a : Nat) : min (v : Int) (a : Int) = ((min v a : Nat) : Int) := by omega
theorem cast_max (v a : Nat) : max (v : Int) (a : Int) = ((max v a : Nat) : Int) := by omega
theorem rodD_rod (v a : Nat) : D.tup [.int (min (v : Int) a), .int (max (v : Int) a)] = rodD (rodOf v a) := by
  rw [cast_min, cast_max]; rfl
end Hg
end

section
set_option autoImplicit false
set_option maxHeartbeats 1000000
/-! Wt2: weights, counted. -/
namespace Hg
theorem countP_not (n : Nat) (c : Nat → Bool) : (List.range n).countP (fun y => !c y) = n - (List.range n).countP c := by
  have h := List.length_eq_countP_add_countP c (l := List.range n)
  rw [List.length_range] at h
  have e : (List.range n).countP (fun y => !c y) = (List.range n).countP (fun a => decide (¬c a = true)) := by
    congr 1; funext y; cases c y <;> rfl
  omega
/-- the weight of a knot that has one ahead -/
theorem weight_count {n r v u : Nat} {rs : List (Nat × Nat)} {ps : PL} (h : Hedge n rs) (hr : r < n) (hc : Come n rs r ps) (hm : (v, some u) ∈ ps) : ps.foldr stepW (fun _ => 1) v = (List.range n).countP fun y => decide (side rs (rodOf u v) y = side rs (rodOf u v) v) := by
  rw [((hc.grow.weight h) (fun _ => 1)).1 v u hm, sx_perm (hc.perm h hr), ← sx_count]
  apply sx_congr
  intro y _
  simp
theorem weight_halves {n r v u : Nat} {rs : List (Nat × Nat)} {ps : PL} (h : Hedge n rs) (hr : r < n) (hc : Come n rs r ps) (hm : (v, some u) ∈ ps) : ps.foldr stepW (fun _ => 1) v * (n - ps.foldr stepW (fun _ => 1) v) = halves rs n (rodOf u v) := by
  rw [weight_count h hr hc hm]
  unfold halves
  have hle := List.countP_le_length (p := side rs (rodOf u v)) (l := List.range n)
  rw [List.length_range] at hle
  cases hv : side rs (rodOf u v) v with
  | true =>
    have e : (List.range n).countP (fun y => decide (side rs (rodOf u v) y = true)) = (List.range n).countP (side rs (rodOf u v)) := by
      congr 1; funext y; simp
    rw [e]
  | false =>
    have e : (List.range n).countP (fun y => decide (side rs (rodOf u v) y = false)) = n - (List.range n).countP (side rs (rodOf u v)) := by
      rw [← countP_not]; congr 1; funext y; cases side rs (rodOf u v) y <;> rfl
    rw [e, show n - (n - (List.range n).countP (side rs (rodOf u v))) = (List.range n).countP (side rs (rodOf u v)) by omega, Nat.mul_comm]
theorem spread_sum {n : Nat} {rs : List (Nat × Nat)} {ps : PL} (h : Hedge n rs) (hc : Come n rs 0 ps) : sm (List.range' 1 (n - 1)) (fun k => ps.foldr stepW (fun _ => 1) k * (n - ps.foldr stepW (fun _ => 1) k)) = sm rs (halves rs n) := by
  have hn := h.pos
  generalize hW : ps.foldr stepW (fun _ => 1) = W
  have hwh : ∀ v u, (v, some u) ∈ ps → W v * (n - W v) = halves rs n (rodOf u v) := fun v u hm => hW ▸ weight_halves h hn hc hm
  obtain ⟨t, ht⟩ := hc.grow.head
  have hp := hc.perm h hn
  have hr : List.range n = 0 :: List.range' 1 (n - 1) := by
    rw [List.range_eq_range']
    obtain ⟨m, rfl⟩ : ∃ m, n = m + 1 := ⟨n - 1, by omega⟩
    rw [List.range'_succ]; rfl
  rw [ht, hr, List.map_cons] at hp
  have hp := (List.perm_cons 0).mp hp
  rw [← sx_perm hp, sx_map, ← sx_perm (hc.rods h hn)]
  have key : ∀ qs : PL, (∀ v a, (v, a) ∈ qs → ∃ u, a = some u ∧ (v, some u) ∈ ps) → sm qs (fun p => W p.1 * (n - W p.1)) = sm (rodsOf qs) (halves rs n) := by
    intro qs
    induction qs with
    | nil => intro _; rfl
    | cons q qs ih =>
      intro hq
      obtain ⟨v, a⟩ := q
      obtain ⟨u, rfl, hm⟩ := hq v a (List.mem_cons_self ..)
      have e : rodsOf ((v, some u) :: qs) = rodOf u v :: rodsOf qs := rfl
      rw [sx_cons, e, sx_cons, ih fun v a hva => hq v a (List.mem_cons_of_mem _ hva), hwh v u hm]
  have e : rodsOf ps = rodsOf t := by rw [ht]; rfl
  rw [e]
  refine key t fun v a hva => ?_
  have hm : (v, a) ∈ ps := by rw [ht]; exact List.mem_cons_of_mem _ hva
  cases a with
  | some u => exact ⟨u, rfl, hm⟩
  | none =>
    exfalso
    obtain ⟨s1, s2, hs⟩ := List.append_of_mem hva
    have h1 := hc.grow.at (pre := (0, none) :: s1) (post := s2) (v := v) (a := none) (by rw [ht, hs]; rfl)
    rcases h1 with ⟨q, _⟩ | ⟨u, q, _⟩
    · cases q
    · cases q
theorem weight_le {n r : Nat} {rs : List (Nat × Nat)} {ps : PL} (h : Hedge n rs) (hr : r < n) (hc : Come n rs r ps) : ∀ v, v < n → ps.foldr stepW (fun _ => 1) v ≤ n := by
  intro v hv
  have hp := hc.perm h hr
  obtain ⟨⟨v', a⟩, hm, e⟩ := List.mem_map.mp (hp.mem_iff.mpr (List.mem_range.mpr hv))
  simp at e
  subst e
  cases a with
  | some u =>
    rw [weight_count h hr hc hm]
    have := List.countP_le_length (p := fun y => decide (side rs (rodOf u v') y = side rs (rodOf u v') v')) (l := List.range n)
    rwa [List.length_range] at this
  | none =>
    obtain ⟨s1, s2, hs⟩ := List.append_of_mem hm
    rcases hc.grow.at hs with ⟨_, rfl, _⟩ | ⟨u, q, _⟩
    · rw [((hc.grow.weight h) (fun _ => 1)).2, sx_perm hp, sx_const]
      simp
    · cases q
end Hg
end

section
set_option autoImplicit false
set_option maxHeartbeats 1000000
/-! Bal: branches and the least sum. Plain mathematics. -/
namespace Hg
/-- how many knots the branch at v by u has -/
noncomputable def brn (rs : List (Nat × Nat)) (n v u : Nat) : Nat := (List.range n).countP fun y => decide (side rs (rodOf v u) y = side rs (rodOf v u) u)
theorem foldl_min_spec : ∀ (xs : List Nat) (a : Nat), (xs.foldl min a ∈ a :: xs) ∧ ∀ y ∈ a :: xs, xs.foldl min a ≤ y
  | [], a => by simp
  | x :: xs, a => by
    obtain ⟨h1, h2⟩ := foldl_min_spec xs (min a x)
    rw [List.foldl_cons]
    refine ⟨?_, fun y hy => ?_⟩
    · rcases List.mem_cons.mp h1 with h | h
      · rw [h]
        by_cases c : a ≤ x
        · rw [Nat.min_eq_left c]; simp
        · rw [Nat.min_eq_right (by omega)]; simp
      · exact List.mem_cons_of_mem _ (List.mem_cons_of_mem _ h)
    · have h3 := h2 (min a x) (List.mem_cons_self ..)
      rcases List.mem_cons.mp hy with rfl | hy
      · omega
      · rcases List.mem_cons.mp hy with rfl | hy
        · omega
        · exact h2 y (List.mem_cons_of_mem _ hy)
theorem mn_spec {xs : List Nat} (h : xs ≠ []) : mn xs ∈ xs ∧ ∀ y ∈ xs, mn xs ≤ y := by
  cases xs with
  | nil => exact absurd rfl h
  | cons x xs => exact foldl_min_spec xs x
theorem foldl_max_spec : ∀ (xs : List Nat) (a k : Nat), xs.foldl max a ≤ k ↔ a ≤ k ∧ ∀ y ∈ xs, y ≤ k
  | [], a, k => by simp
  | x :: xs, a, k => by
    rw [List.foldl_cons, foldl_max_spec xs (max a x) k]
    constructor
    · rintro ⟨h1, h2⟩
      refine ⟨by omega, fun y hy => ?_⟩
      rcases List.mem_cons.mp hy with rfl | hy
      · omega
      · exact h2 y hy
    · rintro ⟨h1, h2⟩
      have := h2 x (List.mem_cons_self ..)
      exact ⟨by omega, fun y hy => h2 y (List.mem_cons_of_mem _ hy)⟩
theorem mx_le {xs : List Nat} {k : Nat} : mx xs ≤ k ↔ ∀ y ∈ xs, y ≤ k := by
  unfold mx
  rw [foldl_max_spec]
  simp
namespace Hedge
variable {n : Nat} {rs : List (Nat × Nat)}
theorem brn_add (h : Hedge n rs) {u v : Nat} (a : Adj rs u v) : brn rs n v u + brn rs n u v = n := by
  unfold brn
  have hne := h.side_adj_ne a
  rw [rodOf_comm v u]
  have hl := List.length_eq_countP_add_countP (fun y => decide (side rs (rodOf u v) y = side rs (rodOf u v) u)) (l := List.range n)
  rw [List.length_range] at hl
  have e : (List.range n).countP (fun y => decide (side rs (rodOf u v) y = side rs (rodOf u v) v)) = (List.range n).countP (fun a => decide (¬decide (side rs (rodOf u v) a = side rs (rodOf u v) u) = true)) := by
    congr 1; funext y
    revert hne
    cases side rs (rodOf u v) y <;> cases side rs (rodOf u v) u <;> cases side rs (rodOf u v) v <;> simp
  omega
/-- the sums of neighbours -/
theorem sums_adj (h : Hedge n rs) {u v : Nat} (a : Adj rs u v) : sumsOf rs n v + n = sumsOf rs n u + 2 * brn rs n v u := by
  have h1 : sumsOf rs n v + brn rs n u v = sumsOf rs n u + brn rs n v u := by
    unfold sumsOf brn
    rw [← sx_count, ← sx_count, ← sx_add, ← sx_add]
    apply sx_congr
    intro y _
    rw [rodOf_comm v u, dist_comm rs v y, dist_comm rs u y]
    obtain ⟨d1, d2⟩ := h.dist_adj a y
    have hne := h.side_adj_ne a
    by_cases c : side rs (rodOf u v) y = side rs (rodOf u v) u
    · have c2 : ¬ side rs (rodOf u v) y = side rs (rodOf u v) v := fun e => hne (c.symm.trans e)
      simp [c2, c, d1 c]
      intro e
      exact absurd (e) hne
    · have c2 : side rs (rodOf u v) y = side rs (rodOf u v) v := by
        revert c hne
        cases side rs (rodOf u v) y <;> cases side rs (rodOf u v) u <;> cases side rs (rodOf u v) v <;> simp
      simp [c, c2, d2 c2]
      intro e
      exact absurd e.symm hne
  have h2 := h.brn_add a
  omega
/-- what is behind is within -/
theorem behind_in (h : Hedge n rs) {v u p x y : Nat} (a : Adj rs u v) (hu : side rs (rodOf u v) x = side rs (rodOf u v) u) (b : Adj rs p x) (hd : dist rs v x = dist rs v p + 1) (hy : y < n)
    (hs : side rs (rodOf p x) y = side rs (rodOf p x) x) : side rs (rodOf u v) y = side rs (rodOf u v) u := by
  have hra := h.adj_rod a
  have hrb := h.adj_rod b
  have hvp := h.side_of_lt b (r := v) (by omega)
  have hne := h.side_adj_ne b
  by_cases e : rodOf u v = rodOf p x
  · rcases rod_inj e with ⟨e1, e2⟩ | ⟨e1, e2⟩
    · subst e1; subst e2
      exact absurd hu (h.side_adj_ne a).symm
    · subst e1; subst e2
      rw [rodOf_comm u v]; exact hs
  · refine (h.conn_iff (fun z => side rs (rodOf p x) z = side rs (rodOf p x) x → side rs (rodOf u v) z = side rs (rodOf u v) u) (fun q hq => ?_) (h.adj_lt b).2.1 hy).mp (fun _ => hu) hs
    by_cases c1 : q = rodOf p x
    · subst c1
      have key : ∀ z, z = p ∨ z = x → (side rs (rodOf p x) z = side rs (rodOf p x) x → side rs (rodOf u v) z = side rs (rodOf u v) u) := by
        rintro z (rfl | rfl) hz
        · exact absurd hz hne
        · exact hu
      have k1 := key (rodOf p x).1 (by simp only [rodOf]; omega)
      have k2 := key (rodOf p x).2 (by simp only [rodOf]; omega)
      exact ⟨fun _ => k2, fun _ => k1⟩
    · by_cases c2 : q = rodOf u v
      · subst c2
        have hsame := h.side_adj_eq hrb a e
        have key : ∀ z, z = u ∨ z = v → (side rs (rodOf p x) z = side rs (rodOf p x) x → side rs (rodOf u v) z = side rs (rodOf u v) u) := by
          rintro z (rfl | rfl) hz
          · exact absurd ((hvp.symm.trans hsame.symm).trans hz) hne
          · exact absurd (hvp.symm.trans hz) hne
        have k1 := key (rodOf u v).1 (by simp only [rodOf]; omega)
        have k2 := key (rodOf u v).2 (by simp only [rodOf]; omega)
        exact ⟨fun _ => k2, fun _ => k1⟩
      · rw [h.side_eq hrb hq c1, h.side_eq hra hq c2]
theorem brn_le (h : Hedge n rs) {v u p x : Nat} (a : Adj rs u v) (hu : side rs (rodOf u v) x = side rs (rodOf u v) u) (b : Adj rs p x) (hd : dist rs v x = dist rs v p + 1) : brn rs n p x ≤ brn rs n v u := by
  unfold brn
  refine List.countP_mono_left fun y hy hs => ?_
  simp only [decide_eq_true_eq] at hs ⊢
  rw [rodOf_comm v u]
  exact h.behind_in a hu b hd (List.mem_range.mp hy) hs
theorem countP_lt {xs : List Nat} {p q : Nat → Bool} (h : ∀ x ∈ xs, p x = true → q x = true) {b : Nat} (hb : b ∈ xs) (h1 : p b = false) (h2 : q b = true) : xs.countP p < xs.countP q := by
  induction xs with
  | nil => cases hb
  | cons x xs ih =>
    rw [List.countP_cons, List.countP_cons]
    have hm : xs.countP p ≤ xs.countP q := List.countP_mono_left fun y hy => h y (List.mem_cons_of_mem _ hy)
    rcases List.mem_cons.mp hb with rfl | hb
    · simp [h1, h2]; omega
    · have := ih (fun y hy => h y (List.mem_cons_of_mem _ hy)) hb
      have hx := h x (List.mem_cons_self ..)
      cases hp : p x <;> cases hq : q x <;> simp_all <;> omega
theorem brn_lt (h : Hedge n rs) {v u p x : Nat} (a : Adj rs u v) (hu : side rs (rodOf u v) x = side rs (rodOf u v) u) (b : Adj rs p x) (hd : dist rs v x = dist rs v p + 1) (hp : p ≠ v) : brn rs n p x < brn rs n v u := by
  unfold brn
  refine countP_lt (b := u) (fun y hy hs => ?_) (List.mem_range.mpr (h.adj_lt a).1) ?_ ?_
  · simp only [decide_eq_true_eq] at hs ⊢
    rw [rodOf_comm v u]
    exact h.behind_in a hu b hd (List.mem_range.mp hy) hs
  · have hvp := h.side_of_lt b (r := v) (by omega)
    have e : rodOf u v ≠ rodOf p x := by
      intro e
      rcases rod_inj e with ⟨e1, e2⟩ | ⟨e1, e2⟩
      · subst e1; subst e2
        rw [dist_self] at hd; omega
      · exact hp e2.symm
    have hsame := h.side_adj_eq (h.adj_rod b) a e
    have hne := h.side_adj_ne b
    simp
    intro q
    exact hne ((hvp.symm.trans hsame.symm).trans q)
  · simp [rodOf_comm]
/-- no branch has more than half: the sum is least -/
theorem least (h : Hedge n rs) {v : Nat} (hv : v < n) (hb : ∀ u, Adj rs u v → 2 * brn rs n v u ≤ n) : ∀ k x, x < n → dist rs v x = k → sumsOf rs n v ≤ sumsOf rs n x ∧ (2 ≤ k → sumsOf rs n v < sumsOf rs n x) := by
  intro k
  induction k with
  | zero =>
    intro x hx hd
    rw [h.dist_zero hv hx hd]
    exact ⟨Nat.le_refl _, by omega⟩
  | succ k ih =>
    intro x hx hd
    have hne : v ≠ x := fun e => by subst e; rw [dist_self] at hd; omega
    obtain ⟨p, hp, hpd⟩ := h.ahead_ex hv hx hne
    have ih1 := (ih p (h.adj_lt hp).1 (by omega)).1
    obtain ⟨u, ha, hs⟩ := h.branch_ex hv hx hne.symm
    have h1 := hb u ha
    have h2 := h.sums_adj hp.symm
    have h3 := h.brn_le ha hs hp hpd
    refine ⟨by omega, fun hk => ?_⟩
    have h4 := h.brn_lt ha hs hp hpd fun e => by subst e; rw [dist_self] at hpd; omega
    omega
theorem half_iff (h : Hedge n rs) {v : Nat} (hv : v < n) : (∀ u, Adj rs u v → 2 * brn rs n v u ≤ n) ↔ ∀ x, x < n → sumsOf rs n v ≤ sumsOf rs n x := by
  constructor
  · intro hb x hx
    exact (h.least hv hb _ x hx rfl).1
  · intro hm u ha
    have h1 := hm u (h.adj_lt ha).1
    have h2 := h.sums_adj ha
    omega
theorem adj_of_dist (h : Hedge n rs) {u v : Nat} (hu : u < n) (hv : v < n) (hd : dist rs u v = 1) : Adj rs u v := by
  have hne : u ≠ v := fun e => by subst e; rw [dist_self] at hd; omega
  obtain ⟨p, hp, hpd⟩ := h.ahead_ex hu hv hne
  have := h.dist_zero hu (h.adj_lt hp).1 (by omega)
  subst this
  exact hp
end Hedge
end Hg
end

section
set_option autoImplicit false
set_option maxHeartbeats 1000000
/-! Pbes: the law's own neighbours. -/
namespace Hg
theorem sp_beside {n : Nat} {rs : List (Nat × Nat)} (h : ∀ e ∈ rs, e.1 < n ∧ e.2 < n ∧ e.1 < e.2) (hn : n ≤ 1000) (hl : rs.length ≤ 1000) : s_l_beside [hD n rs] = some (rowsD ((List.range n).map (nb rs))) := sp_neighbours h hn hl
end Hg
end

section
set_option autoImplicit false
set_option maxHeartbeats 1000000
/-! Pcc: codes of hedges, the law's own and the program's. -/
namespace Hg
noncomputable def cdOf (rs : List (Nat × Nat)) (m : Nat → List Nat) (v : Nat) : List Nat := Classical.epsilon fun t => Cd rs m none v t
theorem cdOf_eq {rs : List (Nat × Nat)} {m : Nat → List Nat} {v : Nat} {t : List Nat} (h : Cd rs m none v t) : t = cdOf rs m v := h.uniq (Classical.epsilon_spec (p := fun t => Cd rs m none v t) ⟨t, h⟩)
theorem sp_cf {n r : Nat} {rs : List (Nat × Nat)} (h : Hedge n rs) (hn : n ≤ 1000) (hr : r < n) : s_code_from [hD n rs, nD r] = some (.str (cdOf rs m0 r)) ∧ (cdOf rs m0 r).length = 2 * n := by
  obtain ⟨t, h1, h2, h3⟩ := sp_code_from h hn hr
  have := cdOf_eq h2
  subst this
  exact ⟨h1, h3⟩
theorem sp_lc {n r : Nat} {rs : List (Nat × Nat)} (h : Hedge n rs) (hn : n ≤ 1000) (hr : r < n) : s_l_code [rowsD ((List.range n).map (nb rs)), nD r] = some (.str (cdOf rs m0 r)) := by
  obtain ⟨t, h1, h2⟩ := sp_l_code h hn hr
  have := cdOf_eq h2
  subst this
  exact h1
theorem Cd.small {rs : List (Nat × Nat)} {m : Nat → List Nat} (hm : ∀ v, ∀ x ∈ m v, x < 128) {o : Option Nat} {v : Nat} {t : List Nat} (h : Cd rs m o v t) : ∀ x ∈ t, x < 128 := by
  induction h with
  | mk o v f h ih =>
    intro x hx
    unfold wrap at hx
    rw [List.mem_cons, List.mem_append, List.mem_append] at hx
    rcases hx with rfl | hx | hx | hx
    · decide
    · exact hm v x hx
    · obtain ⟨t, ht, hx⟩ := List.mem_flatten.mp hx
      have ht := (sortS_perm _).mem_iff.mp (List.mem_reverse.mp ht)
      obtain ⟨c, hc, rfl⟩ := List.mem_map.mp ht
      exact ih c hc x hx
    · simp at hx; omega
theorem plain_t {t : List Nat} (h : ∀ x ∈ t, x < 128) (n : Nat) : plainD n (.str t) = true := by
  rw [plainD_str, List.all_eq_true]
  exact fun x hx => decide_eq_true (h x hx)
theorem cd_ex {n r : Nat} {rs : List (Nat × Nat)} (h : Hedge n rs) (hn : n ≤ 1000) (hr : r < n) {c : Nat} {m : Nat → List Nat} (hm : ∀ v, v < n → (m v).length = c) : Cd rs m none r (cdOf rs m r) := by
  obtain ⟨ps, _, hc⟩ := sp_parents h.forest hn (by have := h.len; omega) hr
  obtain ⟨tl, ht⟩ := hc.grow.head
  have := cAll_cd h hr hc hm r none (by rw [ht]; simp)
  rwa [cdOf_eq this] at this
theorem cd_plain {n r : Nat} {rs : List (Nat × Nat)} (h : Hedge n rs) (hn : n ≤ 1000) (hr : r < n) (k : Nat) : plainD k (.str (cdOf rs m0 r)) = true :=
  plain_t ((cd_ex h hn hr (c := 0) (fun _ _ => rfl)).small (by simp [m0])) k
theorem maxS_mem {xs : List (List Nat)} (h : xs ≠ []) : ∃ t, maxS xs = some t ∧ t ∈ xs := by
  cases xs with
  | nil => exact absurd rfl h
  | cons x xs =>
    have key : ∀ (ys : List (List Nat)) (a : List Nat), ys.foldl (fun a b => if lexS a b then b else a) a = a ∨ ys.foldl (fun a b => if lexS a b then b else a) a ∈ ys := by
      intro ys
      induction ys with
      | nil => intro a; exact .inl rfl
      | cons y ys ih =>
        intro a
        rw [List.foldl_cons]
        rcases ih (if lexS a y then y else a) with q | q
        · rw [q]
          split
          · exact .inr (List.mem_cons_self ..)
          · exact .inl rfl
        · exact .inr (List.mem_cons_of_mem _ q)
    refine ⟨_, rfl, ?_⟩
    rcases key xs x with q | q
    · rw [q]; exact List.mem_cons_self ..
    · exact List.mem_cons_of_mem _ q
theorem mids_ne {n : Nat} {rs : List (Nat × Nat)} (h : Hedge n rs) : mids rs n ≠ [] := by
  intro q
  have h1 := (mn_spec (range_ne h.pos (reach rs n))).1
  obtain ⟨v, hv, e⟩ := List.mem_map.mp h1
  have : v ∈ mids rs n := List.mem_filter.mpr ⟨hv, decide_eq_true e⟩
  rw [q] at this
  cases this
theorem mids_lt {n v : Nat} {rs : List (Nat × Nat)} (h : v ∈ mids rs n) : v < n := List.mem_range.mp (List.mem_filter.mp h).1
noncomputable def codeH (rs : List (Nat × Nat)) (m : Nat → List Nat) (n : Nat) : List Nat := (maxS ((mids rs n).map (cdOf rs m))).getD []
theorem codeH_eq {n : Nat} {rs : List (Nat × Nat)} (h : Hedge n rs) (m : Nat → List Nat) : maxS ((mids rs n).map (cdOf rs m)) = some (codeH rs m n) ∧ ∃ v ∈ mids rs n, codeH rs m n = cdOf rs m v := by
  obtain ⟨t, h1, h2⟩ := maxS_mem (xs := (mids rs n).map (cdOf rs m)) (by simpa using mids_ne h)
  have e : codeH rs m n = t := by unfold codeH; rw [h1]; rfl
  rw [e]
  obtain ⟨v, hv, q⟩ := List.mem_map.mp h2
  exact ⟨h1, v, hv, q.symm⟩
theorem maxSV_t (B : List (List Nat)) : maxSV (tsD B) = fr ((maxS B).map D.str) := by
  show fr (((strsD (B.map D.str)).bind maxS).map D.str) = _
  rw [strsD_str]; rfl
theorem sp_code {n : Nat} {rs : List (Nat × Nat)} (h : Hedge n rs) (hn : n ≤ 1000) : s_code [hD n rs] = some (.str (codeH rs m0 n)) := by
  unfold s_code
  refine runF_eq rfl ?_
  simp only [d_code, startEnv]
  simp
  rw [ev_compM (mids rs n) nD (fun v => D.str (cdOf rs m0 v)) (own := false)]
  · have e : D.lst ((mids rs n).map fun v => D.str (cdOf rs m0 v)) = tsD ((mids rs n).map (cdOf rs m0)) := by simp [tsD]
    simp [e, maxSV_t, (codeH_eq h m0).1]
  · simp [sp_middle h hn, nsD]
  · intro v hv
    refine ⟨_, rfl, .frz, ?_, rfl⟩
    simp [(sp_cf h hn (mids_lt hv)).1]
  · have : (mids rs n).length ≤ n := Nat.le_trans (List.length_filter_le _ _) (by simp)
    rw [L_eq]; omega
theorem sp_l_best {n : Nat} {rs : List (Nat × Nat)} (h : Hedge n rs) (hn : n ≤ 1000) : s_l_best [hD n rs] = some (.str (codeH rs m0 n)) := by
  have hln := h.len
  have hb := sp_beside h.forest.lt hn (by omega)
  unfold s_l_best
  refine runF_eq rfl ?_
  simp only [d_l_best, startEnv]
  simp [hb]
  rw [ev_compM (List.range n) nD (fun v => nD (reach rs n v)) (own := false)]
  · simp
    rw [ev_comp (List.range n) nD (fun v => decide (reach rs n v = mn ((List.range n).map (reach rs n)))) nD (own := false)]
    · simp
      rw [ev_compM (mids rs n) nD (fun v => D.str (cdOf rs m0 v)) (own := false)]
      · have e : D.lst ((mids rs n).map fun v => D.str (cdOf rs m0 v)) = tsD ((mids rs n).map (cdOf rs m0)) := by simp [tsD]
        simp [e, maxSV_t, (codeH_eq h m0).1]
      · rfl
      · intro v hv
        refine ⟨_, rfl, .frz, ?_, rfl⟩
        simp [sp_lc h hn (mids_lt hv)]
      · have : (mids rs n).length ≤ n := Nat.le_trans (List.length_filter_le _ _) (by simp)
        rw [L_eq]; omega
    · exact evI_rng rfl hn
    · intro v hv
      have hv := List.mem_range.mp hv
      have e : D.lst ((List.range n).map fun v => nD (reach rs n v)) = nsD ((List.range n).map (reach rs n)) := by simp [nsD]
      refine ⟨_, rfl, ?_, fun _ => ⟨.frz, by simp, by simp⟩⟩
      simp [e, hv, minV_N (range_ne h.pos _)]
    · simp [L_eq]; omega
  · exact evI_rng rfl hn
  · intro v hv
    have hv := List.mem_range.mp hv
    refine ⟨_, rfl, .frz, ?_, rfl⟩
    simp [sp_far h hn hv, maxV_N (range_ne h.pos _), reach]
  · simp [L_eq]; omega
end Hg
end

section
set_option autoImplicit false
set_option maxHeartbeats 1000000
/-! Iso: likenesses of hedges. Plain mathematics. -/
namespace Hg
theorem perm_of_sub {α : Type} [DecidableEq α] : ∀ {xs ys : List α}, xs.Nodup → (∀ x ∈ xs, x ∈ ys) → ys.length ≤ xs.length → xs.Perm ys
  | [], ys, _, _, hl => by
    have : ys = [] := List.length_eq_zero_iff.mp (by simpa using hl)
    rw [this]
  | x :: xs, ys, hn, hs, hl => by
    have hx : x ∈ ys := hs x (List.mem_cons_self ..)
    have hp := List.perm_cons_erase hx
    have hn' := List.nodup_cons.mp hn
    have hl2 := hp.length_eq
    have := perm_of_sub (xs := xs) (ys := ys.erase x) hn'.2 (fun z hz => by
      have hz' := hp.mem_iff.mp (hs z (List.mem_cons_of_mem _ hz))
      rcases List.mem_cons.mp hz' with rfl | q
      · exact absurd hz hn'.1
      · exact q) (by simp at hl hl2; omega)
    exact (this.cons x).trans hp.symm
def imR (f : Nat → Nat) (e : Nat × Nat) : Nat × Nat := rodOf (f e.1) (f e.2)
structure Iso (n : Nat) (rs rs' : List (Nat × Nat)) (f : Nat → Nat) : Prop where
  lt : ∀ v, v < n → f v < n
  inj : ∀ u v, u < n → v < n → f u = f v → u = v
  adj : ∀ u v, Adj rs u v → Adj rs' (f u) (f v)
namespace Iso
variable {n : Nat} {rs rs' : List (Nat × Nat)} {f : Nat → Nat}
theorem perm (i : Iso n rs rs' f) : ((List.range n).map f).Perm (List.range n) := by
  refine perm_of_sub ?_ ?_ (by simp)
  · refine List.pairwise_map.mpr (List.nodup_range.imp_of_mem fun {a b} ha hb hne q => hne (i.inj _ _ (List.mem_range.mp ha) (List.mem_range.mp hb) q))
  · intro x hx
    obtain ⟨v, hv, rfl⟩ := List.mem_map.mp hx
    exact List.mem_range.mpr (i.lt v (List.mem_range.mp hv))
theorem surj (i : Iso n rs rs' f) {y : Nat} (hy : y < n) : ∃ x, x < n ∧ f x = y := by
  obtain ⟨x, hx, e⟩ := List.mem_map.mp (i.perm.mem_iff.mpr (List.mem_range.mpr hy))
  exact ⟨x, List.mem_range.mp hx, e⟩
theorem rods (i : Iso n rs rs' f) (h : Hedge n rs) (h' : Hedge n rs') : (rs.map (imR f)).Perm rs' := by
  refine perm_of_sub ?_ ?_ (by have := h.len; have := h'.len; simp; omega)
  · refine List.pairwise_map.mpr (h.nodup.imp_of_mem fun {a b} ha hb hne q => hne ?_)
    obtain ⟨a1, a2, a3⟩ := h.lt ha
    obtain ⟨b1, b2, b3⟩ := h.lt hb
    rcases Hedge.rod_inj q with ⟨q1, q2⟩ | ⟨q1, q2⟩
    · exact Prod.ext (i.inj _ _ a1 b1 q1) (i.inj _ _ a2 b2 q2)
    · have e1 := i.inj _ _ a1 b2 q1
      have e2 := i.inj _ _ a2 b1 q2
      omega
  · intro x hx
    obtain ⟨e, he, rfl⟩ := List.mem_map.mp hx
    exact h'.adj_rod (i.adj _ _ (.inl he))
theorem back (i : Iso n rs rs' f) (h : Hedge n rs) (h' : Hedge n rs') {u v : Nat} (hu : u < n) (hv : v < n) (a : Adj rs' (f u) (f v)) : Adj rs u v := by
  obtain ⟨e, he, q⟩ := List.mem_map.mp ((i.rods h h').mem_iff.mpr (h'.adj_rod a))
  obtain ⟨e1, e2, _⟩ := h.lt he
  rcases Hedge.rod_inj q with ⟨q1, q2⟩ | ⟨q1, q2⟩
  · rw [← i.inj _ _ e1 hu q1, ← i.inj _ _ e2 hv q2]; exact .inl he
  · rw [← i.inj _ _ e1 hv q1, ← i.inj _ _ e2 hu q2]; exact .inr he
noncomputable def inv (n : Nat) (f : Nat → Nat) (y : Nat) : Nat := Classical.epsilon fun x => x < n ∧ f x = y
theorem inv_spec (i : Iso n rs rs' f) {y : Nat} (hy : y < n) : inv n f y < n ∧ f (inv n f y) = y := Classical.epsilon_spec (p := fun x => x < n ∧ f x = y) (i.surj hy)
theorem inv_f (i : Iso n rs rs' f) {v : Nat} (hv : v < n) : inv n f (f v) = v := by
  obtain ⟨h1, h2⟩ := i.inv_spec (i.lt v hv)
  exact i.inj _ _ h1 hv h2
theorem symm (i : Iso n rs rs' f) (h : Hedge n rs) (h' : Hedge n rs') : Iso n rs' rs (inv n f) where
  lt v hv := (i.inv_spec hv).1
  inj u v hu hv q := by rw [← (i.inv_spec hu).2, ← (i.inv_spec hv).2, q]
  adj u v a := by
    obtain ⟨hu, hv, _⟩ := h'.adj_lt a
    refine i.back h h' (i.inv_spec hu).1 (i.inv_spec hv).1 ?_
    rw [(i.inv_spec hu).2, (i.inv_spec hv).2]
    exact a
theorem dist_le (i : Iso n rs rs' f) (h : Hedge n rs) (h' : Hedge n rs') {x : Nat} (hx : x < n) : ∀ k y, y < n → dist rs x y = k → dist rs' (f x) (f y) ≤ k := by
  intro k
  induction k with
  | zero =>
    intro y hy e
    rw [h.dist_zero hx hy e, dist_self]
    exact Nat.le_refl _
  | succ k ih =>
    intro y hy e
    have hne : x ≠ y := by intro q; subst q; rw [dist_self] at e; omega
    obtain ⟨u, a, d⟩ := h.ahead_ex hx hy hne
    have := ih u (h.adj_lt a).1 (by omega)
    rcases h'.dist_adj_or (i.adj _ _ a) (f x) with q | q <;> omega
theorem dist (i : Iso n rs rs' f) (h : Hedge n rs) (h' : Hedge n rs') {x y : Nat} (hx : x < n) (hy : y < n) : Hg.dist rs' (f x) (f y) = Hg.dist rs x y := by
  have h1 := i.dist_le h h' hx _ y hy rfl
  have h2 := (i.symm h h').dist_le h' h (i.lt x hx) _ (f y) (i.lt y hy) rfl
  rw [i.inv_f hx, i.inv_f hy] at h2
  omega
theorem kids (i : Iso n rs rs' f) (h : Hedge n rs) (h' : Hedge n rs') {v : Nat} {o : Option Nat} (hv : v < n) (ho : ∀ u, o = some u → u < n) : ((kids rs v o).map f).Perm (kids rs' (f v) (o.map f)) := by
  have hk : ∀ x ∈ Hg.kids rs v o, Adj rs v x ∧ some x ≠ o := by
    intro x hx
    obtain ⟨h1, h2⟩ := List.mem_filter.mp hx
    exact ⟨h.forest.mem_nb.mp h1, of_decide_eq_true h2⟩
  refine (List.perm_ext_iff_of_nodup ?_ ((h'.forest.nb_nodup _).filter _)).mpr fun y => ?_
  · refine List.pairwise_map.mpr (((h.forest.nb_nodup v).filter _).imp_of_mem fun {a b} ha hb hne q => hne ?_)
    exact i.inj _ _ (h.adj_lt (hk a ha).1).2.1 (h.adj_lt (hk b hb).1).2.1 q
  · rw [List.mem_filter, h'.forest.mem_nb, decide_eq_true_eq]
    constructor
    · intro hy
      obtain ⟨x, hx, rfl⟩ := List.mem_map.mp hy
      obtain ⟨a, ne⟩ := hk x hx
      refine ⟨i.adj _ _ a, fun q => ne ?_⟩
      cases o with
      | none => cases q
      | some u =>
        simp at q
        rw [i.inj _ _ (h.adj_lt a).2.1 (ho u rfl) q]
    · rintro ⟨a, ne⟩
      obtain ⟨x, hx, rfl⟩ := i.surj (h'.adj_lt a).2.1
      refine List.mem_map.mpr ⟨x, List.mem_filter.mpr ⟨h.forest.mem_nb.mpr (i.back h h' hv hx a), decide_eq_true fun q => ne ?_⟩, rfl⟩
      rw [← q]; rfl
theorem cd (i : Iso n rs rs' f) (h : Hedge n rs) (h' : Hedge n rs') {m m' : Nat → List Nat} (hm : ∀ v, v < n → m v = m' (f v)) {o : Option Nat} {v : Nat} {t : List Nat} (c : Cd rs m o v t) : v < n → (∀ u, o = some u → u < n) → Cd rs' m' (o.map f) (f v) t := by
  induction c with
  | mk o v g hg ih =>
    intro hv ho
    have hk : ∀ x ∈ Hg.kids rs v o, x < n := fun x hx => (h.adj_lt (h.forest.mem_nb.mp (List.mem_filter.mp hx).1)).2.1
    have hp := i.kids h h' hv ho
    have e : wrap (m v) ((Hg.kids rs v o).map g) = wrap (m' (f v)) ((Hg.kids rs' (f v) (o.map f)).map fun y => g (inv n f y)) := by
      rw [hm v hv, ← wrap_perm (hp.map _), List.map_map]
      congr 1
      apply List.map_congr_left
      intro x hx
      show g x = g (inv n f (f x))
      rw [i.inv_f (hk x hx)]
    rw [e]
    refine Cd.mk _ _ _ fun y hy => ?_
    obtain ⟨x, hx, rfl⟩ := List.mem_map.mp (hp.mem_iff.mpr hy)
    rw [i.inv_f (hk x hx)]
    exact ih x hx (hk x hx) fun u q => by cases q; exact hv
end Iso
theorem mx_perm {xs ys : List Nat} (h : xs.Perm ys) : mx xs = mx ys := by
  unfold mx
  exact h.foldl_eq' (fun x _ y _ z => by omega) 0
theorem mn_perm {xs ys : List Nat} (h : xs.Perm ys) : mn xs = mn ys := by
  by_cases c : xs = []
  · subst c; rw [List.nil_perm.mp h]
  · have c' : ys ≠ [] := fun q => c (by subst q; exact List.perm_nil.mp h)
    have h1 := mn_spec c
    have h2 := mn_spec c'
    have a1 := h1.2 _ (h.mem_iff.mpr h2.1)
    have a2 := h2.2 _ (h.mem_iff.mp h1.1)
    omega
theorem maxS_spec {xs : List (List Nat)} {t : List Nat} (h : maxS xs = some t) : t ∈ xs ∧ ∀ y ∈ xs, leS y t = true := by
  cases xs with
  | nil => cases h
  | cons x xs =>
    have key : ∀ (ys : List (List Nat)) (a : List Nat), (ys.foldl (fun a b => if lexS a b then b else a) a = a ∨ ys.foldl (fun a b => if lexS a b then b else a) a ∈ ys) ∧ leS a (ys.foldl (fun a b => if lexS a b then b else a) a) = true ∧ ∀ y ∈ ys, leS y (ys.foldl (fun a b => if lexS a b then b else a) a) = true := by
      intro ys
      induction ys with
      | nil => intro a; exact ⟨.inl rfl, by simp [leS, lexS_irr], by simp⟩
      | cons y ys ih =>
        intro a
        rw [List.foldl_cons]
        obtain ⟨i1, i2, i3⟩ := ih (if lexS a y then y else a)
        generalize hz : (if lexS a y = true then y else a) = z at i1 i2 i3
        have za : leS a z = true := by
          rw [← hz]
          by_cases c : lexS a y = true
          · rw [if_pos c]; simp [leS, lexS_asym c]
          · rw [if_neg c]; simp [leS, lexS_irr]
        have zy : leS y z = true := by
          rw [← hz]
          by_cases c : lexS a y = true
          · rw [if_pos c]; simp [leS, lexS_irr]
          · rw [if_neg c]; simpa [leS] using c
        refine ⟨?_, leS_trans _ _ _ za i2, fun w hw => ?_⟩
        · rcases i1 with q | q
          · rw [q, ← hz]
            split
            · exact .inr (List.mem_cons_self ..)
            · exact .inl rfl
          · exact .inr (List.mem_cons_of_mem _ q)
        · rcases List.mem_cons.mp hw with rfl | hw
          · exact leS_trans _ _ _ zy i2
          · exact i3 w hw
    obtain ⟨k1, k2, k3⟩ := key xs x
    cases h
    refine ⟨?_, fun y hy => ?_⟩
    · rcases k1 with q | q
      · rw [q]; exact List.mem_cons_self ..
      · exact List.mem_cons_of_mem _ q
    · rcases List.mem_cons.mp hy with rfl | hy
      · exact k2
      · exact k3 y hy
theorem maxS_set {xs ys : List (List Nat)} {s t : List Nat} (h : ∀ z, z ∈ xs ↔ z ∈ ys) (hs : maxS xs = some s) (ht : maxS ys = some t) : s = t := by
  obtain ⟨a1, a2⟩ := maxS_spec hs
  obtain ⟨b1, b2⟩ := maxS_spec ht
  exact leS_anti (b2 _ ((h s).mp a1)) (a2 _ ((h t).mpr b1))
namespace Iso
variable {n : Nat} {rs rs' : List (Nat × Nat)} {f : Nat → Nat}
theorem reach (i : Iso n rs rs' f) (h : Hedge n rs) (h' : Hedge n rs') {v : Nat} (hv : v < n) : Hg.reach rs' n (f v) = Hg.reach rs n v := by
  unfold Hg.reach
  rw [← mx_perm ((i.perm).map (Hg.dist rs' (f v))), List.map_map]
  congr 1
  apply List.map_congr_left
  intro x hx
  exact i.dist h h' hv (List.mem_range.mp hx)
theorem mid (i : Iso n rs rs' f) (h : Hedge n rs) (h' : Hedge n rs') {v : Nat} (hv : v < n) : f v ∈ mids rs' n ↔ v ∈ mids rs n := by
  have e : mn ((List.range n).map (Hg.reach rs' n)) = mn ((List.range n).map (Hg.reach rs n)) := by
    rw [← mn_perm ((i.perm).map (Hg.reach rs' n)), List.map_map]
    congr 1
    apply List.map_congr_left
    intro x hx
    exact i.reach h h' (List.mem_range.mp hx)
  unfold mids
  rw [List.mem_filter, List.mem_filter, List.mem_range, List.mem_range, e, i.reach h h' hv]
  simp [hv, i.lt v hv]
theorem cdOf (i : Iso n rs rs' f) (h : Hedge n rs) (h' : Hedge n rs') (hn : n ≤ 1000) {c : Nat} {m m' : Nat → List Nat} (hm : ∀ v, v < n → m v = m' (f v)) (hc : ∀ v, v < n → (m v).length = c) {v : Nat} (hv : v < n) : Hg.cdOf rs' m' (f v) = Hg.cdOf rs m v := by
  have := i.cd h h' hm (cd_ex h hn hv hc) hv (fun u q => by cases q)
  exact (cdOf_eq this).symm
/-- like hedges have one code -/
theorem code (i : Iso n rs rs' f) (h : Hedge n rs) (h' : Hedge n rs') (hn : n ≤ 1000) {c : Nat} {m m' : Nat → List Nat} (hm : ∀ v, v < n → m v = m' (f v)) (hc : ∀ v, v < n → (m v).length = c) : codeH rs' m' n = codeH rs m n := by
  refine maxS_set (fun z => ?_) (codeH_eq h' m').1 (codeH_eq h m).1
  rw [List.mem_map, List.mem_map]
  constructor
  · rintro ⟨w, hw, rfl⟩
    obtain ⟨v, hv, rfl⟩ := i.surj (mids_lt hw)
    exact ⟨v, (i.mid h h' hv).mp hw, (i.cdOf h h' hn hm hc hv).symm⟩
  · rintro ⟨v, hv, rfl⟩
    exact ⟨f v, (i.mid h h' (mids_lt hv)).mpr hv, i.cdOf h h' hn hm hc (mids_lt hv)⟩
end Iso
end Hg
end

section
set_option autoImplicit false
set_option maxHeartbeats 1000000
/-! Prim: codes are told apart, part by part. Plain mathematics. -/
namespace Hg
def bal1 (x : Nat) : Int := if x = 40 then 1 else if x = 41 then -1 else 0
def bal : List Nat → Int
  | [] => 0
  | x :: xs => bal1 x + bal xs
theorem bal_app (a b : List Nat) : bal (a ++ b) = bal a + bal b := by
  induction a with
  | nil => simp [bal]
  | cons x a ih => simp [bal, ih]; omega
/-- all that stands ahead has no more closing ones -/
def NN (l : List Nat) : Prop := bal l = 0 ∧ ∀ p s, l = p ++ s → 0 ≤ bal p
def Prim (t : List Nat) : Prop := bal t = 0 ∧ t ≠ [] ∧ ∀ p s, t = p ++ s → p ≠ [] → s ≠ [] → 0 < bal p
theorem Prim.nn {t : List Nat} (h : Prim t) : NN t := by
  refine ⟨h.1, fun p s e => ?_⟩
  by_cases c : p = []
  · subst c; exact Int.le_refl _
  · by_cases c2 : s = []
    · subst c2; rw [List.append_nil] at e; rw [← e, h.1]; exact Int.le_refl _
    · exact Int.le_of_lt (h.2.2 p s e c c2)
theorem NN.nil : NN [] := ⟨rfl, fun p s e => by
  have : p = [] := by
    cases p with
    | nil => rfl
    | cons _ _ => cases e
  subst this; exact Int.le_refl _⟩
theorem NN.app {a b : List Nat} (ha : NN a) (hb : NN b) : NN (a ++ b) := by
  refine ⟨by rw [bal_app, ha.1, hb.1]; rfl, fun p s e => ?_⟩
  rcases List.append_eq_append_iff.mp e with ⟨w, h1, h2⟩ | ⟨w, h1, h2⟩
  · rw [h1, bal_app, ha.1]
    have := hb.2 w s h2
    omega
  · exact ha.2 p w h1
theorem NN.flat : ∀ {B : List (List Nat)}, (∀ b ∈ B, NN b) → NN B.flatten
  | [], _ => NN.nil
  | b :: B, h => by
    rw [List.flatten_cons]
    exact (h b (List.mem_cons_self ..)).app (NN.flat fun x hx => h x (List.mem_cons_of_mem _ hx))
theorem NN.mark : ∀ {m : List Nat}, (∀ x ∈ m, x ≠ 40 ∧ x ≠ 41) → NN m
  | [], _ => NN.nil
  | x :: m, h => by
    have h0 := h x (List.mem_cons_self ..)
    have ih := NN.mark (m := m) fun y hy => h y (List.mem_cons_of_mem _ hy)
    have hx : NN [x] := by
      have hb : bal1 x = 0 := by unfold bal1; rw [if_neg h0.1, if_neg h0.2]
      refine ⟨by simp [bal, hb], fun p s e => ?_⟩
      cases p with
      | nil => exact Int.le_refl _
      | cons y p =>
        simp at e
        obtain ⟨rfl, h1, h2⟩ := e
        subst h1
        simp [bal, hb]
    exact hx.app ih
theorem Prim.wrap {X : List Nat} (h : NN X) : Prim (40 :: (X ++ [41])) := by
  refine ⟨by simp [bal, bal_app, h.1, bal1], by simp, fun p s e hp hs => ?_⟩
  cases p with
  | nil => exact absurd rfl hp
  | cons y p =>
    simp only [List.cons_append, List.cons.injEq] at e
    obtain ⟨rfl, e⟩ := e
    have hq : 0 ≤ bal p := by
      rcases List.append_eq_append_iff.mp e with ⟨w, h1, h2⟩ | ⟨w, h1, h2⟩
      · cases w with
        | nil => rw [List.append_nil] at h1; rw [h1, h.1]; exact Int.le_refl _
        | cons y w =>
          simp at h2
          exact absurd h2.2.2 hs
      · exact h.2 p w h1
    show 0 < bal1 40 + bal p
    have : bal1 40 = 1 := rfl
    omega
theorem Prim.cut {t1 t2 r1 r2 : List Nat} (h1 : Prim t1) (h2 : Prim t2) (e : t1 ++ r1 = t2 ++ r2) : t1 = t2 ∧ r1 = r2 := by
  rcases List.append_eq_append_iff.mp e with ⟨w, q1, q2⟩ | ⟨w, q1, q2⟩
  · by_cases c : w = []
    · subst c; simp at q1 q2; exact ⟨q1.symm, q2⟩
    · have := h2.2.2 t1 w q1 h1.2.1 c
      rw [h1.1] at this
      omega
  · by_cases c : w = []
    · subst c; simp at q1 q2; exact ⟨q1, q2.symm⟩
    · have := h1.2.2 t2 w q1 h2.2.1 c
      rw [h2.1] at this
      omega
theorem Prim.flat_inj : ∀ {A B : List (List Nat)}, (∀ a ∈ A, Prim a) → (∀ b ∈ B, Prim b) → A.flatten = B.flatten → A = B
  | [], [], _, _, _ => rfl
  | [], b :: B, _, hb, e => by
    exfalso
    have := (hb b (List.mem_cons_self ..)).2.1
    simp at e
    exact this e.1
  | a :: A, [], ha, _, e => by
    exfalso
    have := (ha a (List.mem_cons_self ..)).2.1
    simp at e
    exact this e.1
  | a :: A, b :: B, ha, hb, e => by
    rw [List.flatten_cons, List.flatten_cons] at e
    obtain ⟨q1, q2⟩ := (ha a (List.mem_cons_self ..)).cut (hb b (List.mem_cons_self ..)) e
    rw [q1, flat_inj (fun x hx => ha x (List.mem_cons_of_mem _ hx)) (fun x hx => hb x (List.mem_cons_of_mem _ hx)) q2]
/-- marks have no brackets -/
def Neu (m : Nat → List Nat) : Prop := ∀ v, ∀ x ∈ m v, x ≠ 40 ∧ x ≠ 41
theorem Cd.prim {rs : List (Nat × Nat)} {m : Nat → List Nat} (hm : Neu m) {o : Option Nat} {v : Nat} {t : List Nat} (h : Cd rs m o v t) : Prim t := by
  induction h with
  | mk o v f h ih =>
    have e : Hg.wrap (m v) ((kids rs v o).map f) = 40 :: ((m v ++ (sortS ((kids rs v o).map f)).reverse.flatten) ++ [41]) := by unfold Hg.wrap; simp
    rw [e]
    refine Prim.wrap ((NN.mark (hm v)).app (NN.flat fun b hb => ?_))
    obtain ⟨c, hc, rfl⟩ := List.mem_map.mp ((sortS_perm _).mem_iff.mp (List.mem_reverse.mp hb))
    exact (ih c hc).nn
theorem wrap_inj {m m' : List Nat} {A B : List (List Nat)} (hl : m.length = m'.length) (hA : ∀ a ∈ A, Prim a) (hB : ∀ b ∈ B, Prim b) (e : wrap m A = wrap m' B) : m = m' ∧ sortS A = sortS B := by
  unfold wrap at e
  simp only [List.cons.injEq, true_and] at e
  have e2 := List.append_inj e hl
  refine ⟨e2.1, ?_⟩
  have e3 := (List.append_inj_left' e2.2 rfl)
  have := Prim.flat_inj (fun a ha => hA a ((sortS_perm _).mem_iff.mp (List.mem_reverse.mp ha))) (fun b hb => hB b ((sortS_perm _).mem_iff.mp (List.mem_reverse.mp hb))) e3
  exact List.reverse_inj.mp this
end Hg
end

section
set_option autoImplicit false
set_option maxHeartbeats 1000000
/-! Alng: a likeness put together along two orders. Plain mathematics. -/
namespace Hg
/-- by their texts, the greatest first -/
def sortK (c : Nat → List Nat) (xs : List Nat) : List Nat := xs.mergeSort fun a b => leS (c b) (c a)
theorem sortK_perm (c : Nat → List Nat) (xs : List Nat) : (sortK c xs).Perm xs := List.mergeSort_perm _ _
theorem sortK_map (c : Nat → List Nat) (xs : List Nat) : (sortK c xs).map c = (sortS (xs.map c)).reverse := by
  have h1 : (sortK c xs).Pairwise (fun a b => leS (c b) (c a) = true) := List.pairwise_mergeSort (le := fun a b => leS (c b) (c a)) (fun a b d h1 h2 => leS_trans (c d) (c b) (c a) h2 h1) (fun a b => leS_total (c b) (c a)) xs
  have h2 : ((sortK c xs).map c).Pairwise (fun a b => leS b a = true) := List.pairwise_map.mpr h1
  have h3 : (sortS (xs.map c)).reverse.Pairwise (fun a b => leS b a = true) := List.pairwise_reverse.mpr (sortS_pw _)
  refine List.Perm.eq_of_pairwise (le := fun a b => leS b a = true) (fun a b _ _ q1 q2 => leS_anti q2 q1) h2 h3 ?_
  exact ((sortK_perm c xs).map c).trans ((sortS_perm _).symm.trans (List.reverse_perm _).symm)
theorem along_ex {r : Nat} {rs : List (Nat × Nat)} {ps : PL} (r' : Nat) (mine theirs : Nat → List Nat) (g : Grow rs r ps) : ∃ F : Nat → Nat, F r = r' ∧ ∀ v u, (v, some u) ∈ ps → F v = (theirs (F u)).getD ((mine u).idxOf v) 0 := by
  induction g with
  | root => exact ⟨fun _ => r', rfl, fun v u h => by simp at h⟩
  | @add ps v u g hu a hv ih =>
    obtain ⟨F, h0, h1⟩ := ih
    have hne : ∀ x ∈ ps.map (·.1), x ≠ v := fun x hx q => hv (q ▸ hx)
    refine ⟨fun x => if x = v then (theirs (F u)).getD ((mine u).idxOf v) 0 else F x, ?_, ?_⟩
    · show (if r = v then _ else F r) = r'
      rw [if_neg (hne r g.root_mem), h0]
    · intro v' u' h
      rcases List.mem_append.mp h with h | h
      · have e1 := hne v' (List.mem_map_of_mem (f := (·.1)) h)
        have e2 := hne u' (g.up_mem _ _ h).1
        simp only [if_neg e1, if_neg e2]
        exact h1 v' u' h
      · simp at h
        obtain ⟨rfl, rfl⟩ := h
        simp only [if_neg (hne u' hu), if_true]
theorem Come.ex {n r v : Nat} {rs : List (Nat × Nat)} {ps : PL} (cm : Come n rs r ps) (h : Hedge n rs) (hr : r < n) (hv : v < n) : ∃ o, (v, o) ∈ ps := by
  have := (cm.perm h hr).mem_iff.mpr (List.mem_range.mpr hv)
  obtain ⟨⟨x, o⟩, hp, rfl⟩ := List.mem_map.mp this
  exact ⟨o, hp⟩
theorem come_kid {n r v x : Nat} {o : Option Nat} {rs : List (Nat × Nat)} {ps : PL} (h : Hedge n rs) (hr : r < n) (cm : Come n rs r ps) (hm : (v, o) ∈ ps) : x ∈ kids rs v o ↔ (x, some v) ∈ ps := by
  rw [← (kidsIn_perm h hr cm hm).mem_iff, mem_kidsIn, List.mem_reverse]
theorem code_wrap {n r v : Nat} {o : Option Nat} {rs : List (Nat × Nat)} {ps : PL} {m c : Nat → List Nat} (h : Hedge n rs) (hr : r < n) (cm : Come n rs r ps) (hc : ∀ v o, (v, o) ∈ ps → Cd rs m o v (c v)) (hm : (v, o) ∈ ps) : c v = wrap (m v) ((kids rs v o).map c) :=
  (hc v o hm).uniq (Cd.mk o v c fun x hx => hc x (some v) ((come_kid h hr cm hm).mp hx))
structure Al (n r r' : Nat) (rs rs' : List (Nat × Nat)) (ps ps' : PL) (m m' c1 c2 : Nat → List Nat) (mine theirs : Nat → List Nat) (F : Nat → Nat) : Prop where
  h : Hedge n rs
  h' : Hedge n rs'
  hr : r < n
  hr' : r' < n
  cm : Come n rs r ps
  cm' : Come n rs' r' ps'
  nm : Neu m
  nm' : Neu m'
  ln : ∀ v w, v < n → w < n → (m v).length = (m' w).length
  h1 : ∀ v o, (v, o) ∈ ps → Cd rs m o v (c1 v)
  h2 : ∀ v o, (v, o) ∈ ps' → Cd rs' m' o v (c2 v)
  he : c1 r = c2 r'
  f0 : F r = r'
  fs : ∀ v u, (v, some u) ∈ ps → F v = (theirs (F u)).getD ((mine u).idxOf v) 0
  my : ∀ v o, (v, o) ∈ ps → mine v = sortK c1 (kids rs v o)
  th : ∀ v o, (v, o) ∈ ps' → theirs v = sortK c2 (kids rs' v o)
namespace Al
variable {n r r' : Nat} {rs rs' : List (Nat × Nat)} {ps ps' : PL} {m m' c1 c2 : Nat → List Nat} {mine theirs : Nat → List Nat} {F : Nat → Nat}
theorem mine_mem (A : Al n r r' rs rs' ps ps' m m' c1 c2 mine theirs F) {u x : Nat} {o : Option Nat} (hu : (u, o) ∈ ps) : x ∈ mine u ↔ (x, some u) ∈ ps := by
  rw [A.my u o hu, (sortK_perm _ _).mem_iff, come_kid A.h A.hr A.cm hu]
theorem mine_nodup (A : Al n r r' rs rs' ps ps' m m' c1 c2 mine theirs F) {u : Nat} {o : Option Nat} (hu : (u, o) ∈ ps) : (mine u).Nodup := by
  rw [A.my u o hu, (sortK_perm _ _).nodup_iff]
  exact (A.h.forest.nb_nodup u).filter _
theorem their_mem (A : Al n r r' rs rs' ps ps' m m' c1 c2 mine theirs F) {u x : Nat} {o : Option Nat} (hu : (u, o) ∈ ps') : x ∈ theirs u ↔ (x, some u) ∈ ps' := by
  rw [A.th u o hu, (sortK_perm _ _).mem_iff, come_kid A.h' A.hr' A.cm' hu]
theorem their_nodup (A : Al n r r' rs rs' ps ps' m m' c1 c2 mine theirs F) {u : Nat} {o : Option Nat} (hu : (u, o) ∈ ps') : (theirs u).Nodup := by
  rw [A.th u o hu, (sortK_perm _ _).nodup_iff]
  exact (A.h'.forest.nb_nodup u).filter _
theorem at_ (A : Al n r r' rs rs' ps ps' m m' c1 c2 mine theirs F) {u : Nat} {o : Option Nat} (hu : (u, o) ∈ ps) (hc : c1 u = c2 (F u)) (hF : (F u, o.map F) ∈ ps') :
    m u = m' (F u) ∧ (mine u).map F = theirs (F u) ∧ ∀ v ∈ mine u, c1 v = c2 (F v) := by
  have hun : u < n := A.cm.grow.lt A.h.forest A.hr u (List.mem_map_of_mem (f := (·.1)) hu)
  have hFn : F u < n := A.cm'.grow.lt A.h'.forest A.hr' (F u) (List.mem_map_of_mem (f := (·.1)) hF)
  have w1 := code_wrap A.h A.hr A.cm A.h1 hu
  have w2 := code_wrap A.h' A.hr' A.cm' A.h2 hF
  rw [w1, w2] at hc
  obtain ⟨e1, e2⟩ := wrap_inj (A.ln u (F u) hun hFn) (fun a ha => by
    obtain ⟨x, hx, rfl⟩ := List.mem_map.mp ha
    exact (A.h1 x (some u) ((come_kid A.h A.hr A.cm hu).mp hx)).prim A.nm) (fun a ha => by
    obtain ⟨x, hx, rfl⟩ := List.mem_map.mp ha
    exact (A.h2 x (some (F u)) ((come_kid A.h' A.hr' A.cm' hF).mp hx)).prim A.nm') hc
  have e3 : (mine u).map c1 = (theirs (F u)).map c2 := by rw [A.my u o hu, A.th (F u) _ hF, sortK_map, sortK_map, e2]
  have hlen : (mine u).length = (theirs (F u)).length := by simpa using congrArg List.length e3
  have e4 : (mine u).map F = theirs (F u) := by
    apply List.ext_getElem
    · simpa using hlen
    · intro i hi1 hi2
      rw [List.getElem_map]
      have hi : i < (mine u).length := by simpa using hi1
      have hm := (A.mine_mem hu).mp (List.getElem_mem hi)
      rw [A.fs _ u hm, (A.mine_nodup hu).idxOf_getElem i hi, List.getD_eq_getElem?_getD, List.getElem?_eq_getElem hi2]
      rfl
  refine ⟨e1, e4, ?_⟩
  rw [← e4, List.map_map] at e3
  exact fun v hv => List.map_inj_left.mp e3 v hv
theorem all (A : Al n r r' rs rs' ps ps' m m' c1 c2 mine theirs F) : ∀ v o, (v, o) ∈ ps → c1 v = c2 (F v) ∧ (F v, o.map F) ∈ ps' := by
  have key : ∀ p ∈ ps, c1 p.1 = c2 (F p.1) ∧ (F p.1, p.2.map F) ∈ ps' := by
    refine pre_ind ps (fun pre => ∀ p ∈ pre, c1 p.1 = c2 (F p.1) ∧ (F p.1, p.2.map F) ∈ ps') (by simp) ?_
    rintro pre ⟨v, o⟩ post e ih p hp
    rcases List.mem_append.mp hp with hp | hp
    · exact ih p hp
    · simp at hp
      subst hp
      rcases A.cm.grow.at e with ⟨_, rfl, rfl⟩ | ⟨u, rfl, _, hu, _, _⟩
      · obtain ⟨t, ht⟩ := A.cm'.grow.head
        rw [A.f0]
        exact ⟨A.he, by rw [ht]; simp⟩
      · obtain ⟨⟨u', ou⟩, hpu, rfl⟩ := List.mem_map.mp hu
        obtain ⟨i1, i2⟩ := ih _ hpu
        have hups : (u', ou) ∈ ps := by rw [e]; exact List.mem_append_left _ hpu
        have hvps : (v, some u') ∈ ps := by rw [e]; simp
        obtain ⟨_, b1, b2⟩ := A.at_ hups i1 i2
        have hvm := (A.mine_mem hups).mpr hvps
        refine ⟨b2 v hvm, ?_⟩
        have : F v ∈ theirs (F u') := by rw [← b1]; exact List.mem_map_of_mem hvm
        exact (A.their_mem i2).mp this
  exact fun v o h => key (v, o) h
theorem inj (A : Al n r r' rs rs' ps ps' m m' c1 c2 mine theirs F) : ∀ p ∈ ps, ∀ q ∈ ps, F p.1 = F q.1 → p.1 = q.1 := by
  have nd := A.cm'.grow.nodup
  have one : ∀ v u v' u', (v, some u) ∈ ps → (v', some u') ∈ ps → u = u' → F v = F v' → v = v' := by
    intro v u v' u' h1 h2 hu hF
    subst hu
    have hun : u < n := A.cm.grow.lt A.h.forest A.hr u (A.cm.grow.up_mem _ _ h1).1
    obtain ⟨o, ho⟩ := A.cm.ex A.h A.hr hun
    obtain ⟨a1, a2⟩ := A.all u o ho
    obtain ⟨_, b1, _⟩ := A.at_ ho a1 a2
    have hn := A.their_nodup a2
    rw [← b1] at hn
    have hm1 := (A.mine_mem ho).mpr h1
    have hm2 := (A.mine_mem ho).mpr h2
    obtain ⟨i, hi, e1⟩ := List.mem_iff_getElem.mp hm1
    obtain ⟨j, hj, e2⟩ := List.mem_iff_getElem.mp hm2
    have : ((mine u).map F)[i]'(by simpa using hi) = ((mine u).map F)[j]'(by simpa using hj) := by simp [e1, e2, hF]
    have := (List.getElem_inj hn).mp this
    subst this
    rw [← e1, ← e2]
  refine pre_ind ps (fun pre => ∀ p ∈ pre, ∀ q ∈ pre, F p.1 = F q.1 → p.1 = q.1) (by simp) ?_
  rintro pre ⟨v, o⟩ post e ih
  have hvps : (v, o) ∈ ps := by rw [e]; simp
  have main : ∀ q ∈ pre, F v = F q.1 → v = q.1 := by
    rintro ⟨v', o'⟩ hq hF
    have hqps : (v', o') ∈ ps := by rw [e]; exact List.mem_append_left _ hq
    have e1 := (A.all v o hvps).2
    have e2 := (A.all v' o' hqps).2
    simp only at hF
    rw [hF] at e1
    have e3 := nodup_fst_eq nd e1 e2
    rcases A.cm.grow.at e with ⟨hp, _, _⟩ | ⟨u, rfl, _, hu, _, _⟩
    · rw [hp] at hq; cases hq
    · cases o' with
      | none => cases e3
      | some u' =>
        simp at e3
        obtain ⟨⟨x, ox⟩, hx, rfl⟩ := List.mem_map.mp hu
        -- u' stands ahead of v'
        obtain ⟨s1, s2, hs⟩ := List.append_of_mem hq
        have hu' : u' ∈ pre.map (·.1) := by
          have e' : ps = s1 ++ (v', some u') :: (s2 ++ (v, some x) :: post) := by rw [e, hs]; simp
          rcases A.cm.grow.at e' with ⟨_, _, q⟩ | ⟨w, q, _, hw, _, _⟩
          · cases q
          · cases q
            rw [hs, List.map_append]
            exact List.mem_append_left _ hw
        obtain ⟨⟨y, oy⟩, hy, rfl⟩ := List.mem_map.mp hu'
        exact one v x v' y hvps hqps (ih _ hx _ hy e3) hF
  intro p hp q hq hF
  rcases List.mem_append.mp hp with hp | hp
  · rcases List.mem_append.mp hq with hq | hq
    · exact ih p hp q hq hF
    · simp at hq
      subst hq
      exact (main p hp hF.symm).symm
  · simp at hp
    subst hp
    rcases List.mem_append.mp hq with hq | hq
    · exact main q hq hF
    · simp at hq
      subst hq
      rfl
theorem iso (A : Al n r r' rs rs' ps ps' m m' c1 c2 mine theirs F) : Iso n rs rs' F ∧ ∀ v, v < n → m v = m' (F v) := by
  refine ⟨⟨fun v hv => ?_, fun u v hu hv e => ?_, fun u v a => ?_⟩, fun v hv => ?_⟩
  · obtain ⟨o, ho⟩ := A.cm.ex A.h A.hr hv
    exact A.cm'.grow.lt A.h'.forest A.hr' _ (List.mem_map_of_mem (f := (·.1)) (A.all v o ho).2)
  · obtain ⟨o, ho⟩ := A.cm.ex A.h A.hr hu
    obtain ⟨o', ho'⟩ := A.cm.ex A.h A.hr hv
    exact A.inj _ ho _ ho' e
  · rcases A.cm.edge A.h A.hr a with q | q
    · exact ((A.cm'.grow.up_mem _ _ (A.all _ _ q).2).2).symm
    · exact (A.cm'.grow.up_mem _ _ (A.all _ _ q).2).2
  · obtain ⟨o, ho⟩ := A.cm.ex A.h A.hr hv
    obtain ⟨a1, a2⟩ := A.all v o ho
    exact (A.at_ ho a1 a2).1
end Al
end Hg
end

section
set_option autoImplicit false
set_option maxHeartbeats 1000000
/-! Way: the way from one knot to another. Plain mathematics. -/
namespace Hg
inductive Way (rs : List (Nat × Nat)) (b : Nat) : Nat → List Nat → Prop where
  | nil : Way rs b b [b]
  | cons {x y : Nat} {p : List Nat} : Adj rs x y → dist rs b x = dist rs b y + 1 → Way rs b y p → Way rs b x (x :: p)
namespace Way
variable {n b x : Nat} {rs : List (Nat × Nat)} {p : List Nat}
theorem len (w : Way rs b x p) : p.length = dist rs b x + 1 := by
  induction w with
  | nil => rw [dist_self]; rfl
  | cons a d w ih => rw [List.length_cons, ih, d]
theorem ne (w : Way rs b x p) : p ≠ [] := by cases w <;> simp
theorem head (w : Way rs b x p) : ∃ t, p = x :: t := by cases w <;> exact ⟨_, rfl⟩
theorem last (w : Way rs b x p) : p.getLast w.ne = b := by
  induction w with
  | nil => rfl
  | cons a d w ih => rw [List.getLast_cons w.ne, ih]
theorem ends (w : Way rs b x p) : ∃ i, p = i ++ [b] := by
  refine ⟨p.dropLast, ?_⟩
  have := List.dropLast_concat_getLast w.ne
  rw [w.last] at this
  exact this.symm
theorem far (w : Way rs b x p) : ∀ y ∈ p, dist rs b y ≤ dist rs b x := by
  induction w with
  | nil => intro y hy; simp at hy; subst hy; exact Nat.le_refl _
  | cons a d w ih =>
    intro z hz
    rcases List.mem_cons.mp hz with rfl | hz
    · exact Nat.le_refl _
    · have := ih z hz; omega
theorem nodup (w : Way rs b x p) : p.Nodup := by
  induction w with
  | nil => simp
  | cons a d w ih =>
    refine List.nodup_cons.mpr ⟨fun hm => ?_, ih⟩
    have := w.far _ hm
    omega
theorem lt (h : Hedge n rs) (hb : b < n) (w : Way rs b x p) : ∀ y ∈ p, y < n := by
  induction w with
  | nil => intro y hy; simp at hy; omega
  | cons a d w ih =>
    intro z hz
    rcases List.mem_cons.mp hz with rfl | hz
    · exact (h.adj_lt a).1
    · exact ih z hz
theorem chain (w : Way rs b x p) : ∀ k u v, p[k]? = some u → p[k + 1]? = some v → Adj rs u v ∧ dist rs b u = dist rs b v + 1 := by
  induction w with
  | nil => intro k u v h1 h2; simp at h2
  | @cons x y p a d w ih =>
    intro k u v h1 h2
    cases k with
    | zero =>
      obtain ⟨t, rfl⟩ := w.head
      simp at h1 h2
      subst h1; subst h2
      exact ⟨a, d⟩
    | succ k => exact ih k u v (by simpa using h1) (by simpa using h2)
theorem uniq (h : Hedge n rs) (hb : b < n) (w : Way rs b x p) : ∀ q, Way rs b x q → p = q := by
  induction w with
  | nil =>
    intro q wq
    generalize hx : b = y at wq
    cases wq with
    | nil => rfl
    | cons a d wq => subst hx; rw [dist_self] at d; omega
  | @cons x y p a d w ih =>
    intro q wq
    cases wq with
    | nil => rw [dist_self] at d; omega
    | @cons _ y' q a' d' wq =>
      have : y = y' := h.nearer_uniq hb a.symm a'.symm (by omega) (by omega)
      subst this
      rw [ih q wq]
theorem ex (h : Hedge n rs) (hb : b < n) : ∀ k x, x < n → dist rs b x = k → ∃ p, Way rs b x p := by
  intro k
  induction k with
  | zero =>
    intro x hx hd
    have := h.dist_zero hb hx hd
    subst this
    exact ⟨_, .nil⟩
  | succ k ih =>
    intro x hx hd
    obtain ⟨u, hu, hd2⟩ := h.ahead_ex hb hx fun e => by subst e; rw [dist_self] at hd; omega
    obtain ⟨p, hp⟩ := ih u (h.adj_lt hu).1 (by omega)
    exact ⟨_, .cons hu.symm hd2 hp⟩
theorem rev_aux (h : Hedge n rs) {a : Nat} (w : Way rs b x p) : ∀ q, Way rs a x q → dist rs a b = dist rs a x + dist rs b x → Way rs a b (p.reverse ++ q.tail) := by
  induction w with
  | nil =>
    intro q wq _
    obtain ⟨t, rfl⟩ := wq.head
    exact wq
  | @cons x y p ad d w ih =>
    intro q wq hd
    obtain ⟨t, rfl⟩ := wq.head
    have h1 := dist_tri rs a y b
    rw [dist_comm rs y b] at h1
    have h2 := h.dist_adj_or ad a
    have := ih (y :: x :: t) (.cons ad.symm (by omega) wq) (by omega)
    rw [List.reverse_cons, List.append_assoc]
    exact this
/-- turned about -/
theorem rev (h : Hedge n rs) {a : Nat} (w : Way rs b a p) : Way rs a b p.reverse := by
  have := rev_aux h w [a] .nil (by rw [dist_self, dist_comm]; omega)
  simpa using this
end Way
/-- the knot ahead -/
theorem Come.back {n r v : Nat} {rs : List (Nat × Nat)} {ps : PL} (h : Hedge n rs) (hr : r < n) (c : Come n rs r ps) (hv : v < n) (hne : v ≠ r) : ∃ u, (v, some u) ∈ ps ∧ Adj rs u v ∧ dist rs r v = dist rs r u + 1 := by
  have hm := (c.perm h hr).mem_iff.mpr (List.mem_range.mpr hv)
  obtain ⟨⟨v', a⟩, h1, h2⟩ := List.mem_map.mp hm
  simp at h2
  subst h2
  obtain ⟨s, t, e⟩ := List.append_of_mem h1
  rcases c.grow.at e with ⟨_, q, _⟩ | ⟨u, rfl, g, hu, ha, hn⟩
  · exact absurd q hne
  · exact ⟨u, h1, ha, g.dist h hu ha hn⟩
end Hg
end

section
set_option autoImplicit false
set_option maxHeartbeats 1000000
/-! Pway: what way tells. -/
namespace Hg
def kvP (p : Nat × Option Nat) : Ky × D := (.inl (p.1 : Int), oD p.2)
theorem merge_nodup : ∀ (ps : PL) (acc : List (Ky × D)), (ps.map (·.1)).Nodup → (∀ p ∈ ps, ∀ kv ∈ acc, kv.1 ≠ .inl (p.1 : Int)) → mergeKy acc (ps.map kvP) = acc ++ ps.map kvP
  | [], acc, _, _ => by simp [mergeKy]
  | p :: ps, acc, h, hd => by
    obtain ⟨h1, h2⟩ := List.nodup_cons.mp h
    have e1 : put acc (kvP p).1 (kvP p).2 = acc ++ [kvP p] := by
      unfold put
      rw [if_neg]
      rw [List.any_eq_true]
      rintro ⟨kv, hkv, he⟩
      exact hd p (List.mem_cons_self ..) kv hkv (of_decide_eq_true he)
    have e2 : mergeKy acc ((p :: ps).map kvP) = mergeKy (acc ++ [kvP p]) (ps.map kvP) := by
      rw [← e1]; rfl
    rw [e2, merge_nodup ps (acc ++ [kvP p]) h2 ?_, List.append_assoc]
    · rfl
    · intro q hq kv hkv
      rw [List.mem_append] at hkv
      rcases hkv with hkv | hkv
      · exact hd q (List.mem_cons_of_mem _ hq) kv hkv
      · simp at hkv
        subst hkv
        intro e
        have : p.1 = q.1 := by
          have e' : (Sum.inl (p.1 : Int) : Ky) = .inl (q.1 : Int) := e
          have := Sum.inl.inj e'
          omega
        exact h1 (List.mem_map.mpr ⟨q, hq, this.symm⟩)
theorem look_kv {ps : PL} (h : (ps.map (·.1)).Nodup) {v : Nat} {a : Option Nat} (hm : (v, a) ∈ ps) : look (ps.map kvP) (.inl (v : Int)) = some (oD a) := by
  induction ps with
  | nil => cases hm
  | cons p ps ih =>
    obtain ⟨h1, h2⟩ := List.nodup_cons.mp h
    unfold look
    rw [List.map_cons, List.find?_cons]
    by_cases c : p.1 = v
    · have e : decide ((kvP p).1 = (.inl (v : Int) : Ky)) = true := decide_eq_true (by show (Sum.inl (p.1 : Int) : Ky) = _; rw [c])
      rw [e]
      rcases List.mem_cons.mp hm with q | q
      · rw [← q]; rfl
      · exact absurd (List.mem_map_of_mem (f := (·.1)) q) (by rw [← c]; exact h1)
    · have e : decide ((kvP p).1 = (.inl (v : Int) : Ky)) = false := by
        apply decide_eq_false
        intro e
        have := Sum.inl.inj (show (Sum.inl (p.1 : Int) : Ky) = .inl (v : Int) from e)
        omega
      rw [e]
      rcases List.mem_cons.mp hm with q | q
      · exact absurd (by rw [← q]) c
      · exact ih h2 q
theorem opt_pairs (ps : PL) : optAll (fun d => match d with | .tup [k, v] => (keyD k).map fun k => (k, v) | _ => none) (ps.map parD) = some (ps.map kvP) := by
  induction ps with
  | nil => rfl
  | cons p ps ih =>
    rw [List.map_cons, List.map_cons]
    unfold optAll
    rw [ih]
    rfl
theorem getLast_ix (i : List Nat) (x : Nat) (k : Kd) : ixV (.lst ((i ++ [x]).map nD), k) (.int (-1)) = some (nD x, subK k) := by
  rw [ixV_l]
  have : getIx ((i ++ [x]).map nD) (-1) = some (nD x) := by
    unfold getIx ixN
    rw [if_neg (by decide), if_pos (by simp; omega)]
    simp
    have e : (-1 + ((i.length : Int) + 1)).toNat = i.length := by omega
    rw [e]
    simp
  rw [this]; rfl
theorem sp_way {n a b : Nat} {rs : List (Nat × Nat)} (h : Hedge n rs) (hn : n ≤ 1000) (ha : a < n) (hb : b < n) : ∃ W, s_way [hD n rs, nD a, nD b] = some (nsD W) ∧ Way rs b a W := by
  obtain ⟨ps, h1, hc⟩ := sp_parents h.forest hn (by have := h.len; omega) hb
  obtain ⟨W, hW⟩ := Way.ex h hb _ a ha rfl
  refine ⟨W, ?_, hW⟩
  have hpl : ps.length ≤ n := by have := nodup_len hc.grow.nodup (hc.grow.lt h.forest hb); simpa using this
  have hm : mergeKy [] (ps.map kvP) = ps.map kvP := merge_nodup ps [] hc.grow.nodup (by simp)
  have hL : (ps.map kvP).length < L := by rw [List.length_map, L_eq]; omega
  have hop := opt_pairs ps
  have hWl := hW.len
  unfold s_way
  refine runF_eq rfl ?_
  simp only [d_way, startEnv]
  refine x_asg (.dic (ps.map kvP)) .new1 ?_ rfl ?_
  · simp [h1, psD]
    refine (congrArg (fun o : Option (List (Ky × D)) => o.bind fun kvs => if kvs.length < L then some ((D.dic (mergeKy [] kvs), Kd.new1) : D × Kd) else none) hop).trans ?_
    show (if (ps.map kvP).length < L then _ else _) = _
    rw [if_pos hL, hm]
  · simp
    refine wh_step (fun f : List Nat => [.val (hD n rs) .frz, .val (nD a) .frz, .val (nD b) .frz, .val (.dic (ps.map kvP)) .frz, .val (.lst (f.map nD)) .own1])
      (fun f => ∃ i x q, f = i ++ [x] ∧ i ++ x :: q = W ∧ Way rs b x (x :: q)) (fun f => f = W) (fun f => W.length - f.length) [a] rfl ?_ ?_ ?_ ?_
    · obtain ⟨t, ht⟩ := hW.head
      exact ⟨[], a, t, rfl, ht.symm, by rw [← ht]; exact hW⟩
    · show W.length - 1 < FU
      have := nodup_len hW.nodup (hW.lt h hb)
      rw [FU_eq]; omega
    · rintro f ⟨i, x, q, rfl, hq, w⟩
      have hlx := getLast_ix i x .own1
      by_cases c : x = b
      · subst c
        refine .inr ⟨by simp [hlx, PD8, -List.map_append], ?_⟩
        have := Way.uniq h hb w _ .nil
        simp at this
        subst this
        exact hq
      · have hxn : x < n := w.lt h hb x (by simp)
        obtain ⟨u, hu, hau, hdu⟩ := hc.back h hb hxn c
        cases w with
        | nil => exact absurd rfl c
        | @cons _ y q ad d w =>
          have : y = u := h.nearer_uniq hb ad.symm hau (by omega) (by omega)
          subst this
          obtain ⟨t, rfl⟩ := w.head
          have hlk := look_kv hc.grow.nodup hu
          have hixd : ∀ k, ixV (.dic (ps.map kvP), k) (nD x) = some (nD y, subK k) := by
            intro k
            show (look (ps.map kvP) (.inl (x : Int))).map _ = _
            rw [hlk]; rfl
          have hle : i.length + 1 < W.length := by rw [← hq]; simp
          have hWn := nodup_len hW.nodup (hW.lt h hb)
          have hL2 : ((i ++ [x]).map nD).length < L := by rw [List.length_map, List.length_append, L_eq]; simp; omega
          refine .inl ⟨by simp [hlx, PD8, c, -List.map_append], i ++ [x] ++ [y], ?_, ⟨i ++ [x], y, t, rfl, by rw [← hq]; simp, w⟩, ?_⟩
          · simp [hlx, hixd, hL2, -List.map_append, -List.length_map, -List.length_append]
            simp
          · simp
            omega
    · rintro f ⟨i, x, q, rfl, hq, w⟩ hd
      rw [hd]
      simp [freeze1, nsD]
end Hg
end

section
set_option autoImplicit false
set_option maxHeartbeats 1000000
/-! Penum: things with their places; rods in order. -/
namespace Hg
theorem enumF_eq (xs : List D) : ∀ n, enumFrom n xs = (xs.zipIdx n).map fun p => .tup [nD p.2, p.1] := by
  induction xs with
  | nil => intro n; rfl
  | cons x xs ih => intro n; simp only [enumFrom, List.zipIdx_cons, List.map_cons, ih]; rfl
theorem enum_map {α : Type} (f : α → D) (xs : List α) : enumFrom 0 (xs.map f) = xs.zipIdx.map fun p => .tup [nD p.2, f p.1] := by
  rw [enumF_eq, List.zipIdx_map, List.map_map]
  rfl
theorem zipIdx_split {α : Type} {xs : List α} {x : α} {k : Nat} {pre post : List (α × Nat)} (e : xs.zipIdx = pre ++ (x, k) :: post) : k = pre.length ∧ xs[k]? = some x ∧ pre.map (·.1) = xs.take k := by
  have h1 : xs.zipIdx[pre.length]? = some (x, k) := by rw [e]; simp
  rw [List.getElem?_zipIdx] at h1
  simp at h1
  obtain ⟨y, h1, h0, h2⟩ := h1
  subst h0
  refine ⟨h2.symm, by rw [← h2]; exact h1, ?_⟩
  have h3 := congrArg (fun l => (l.take pre.length).map (·.1)) e
  simp at h3
  rw [← h3, ← h2]
instance (p q : Nat × Nat) : Decidable (ltN p q) := by unfold ltN; infer_instance
theorem ltD_rod (p q : Nat × Nat) : ltD (rodD p) (rodD q) = some (decide (ltN p q)) := by
  obtain ⟨a, b⟩ := p
  obtain ⟨c, d⟩ := q
  show some (lexI [(a : Int), (b : Int)] [(c : Int), (d : Int)]) = _
  unfold lexI lexI lexI ltN
  by_cases h1 : a = c
  · subst h1
    by_cases h2 : b = d
    · subst h2; simp
    · simp [h2]
  · simp [h1]
end Hg
end

section
set_option autoImplicit false
set_option maxHeartbeats 1000000
/-! Pord: what order_of tells; a for that is left. -/
namespace Hg
/-- a for that ends with a value at one turn -/
theorem loopF_ret {α β : Type} {f : D → Env → Option Out} (toD : α → D) (enc : β → Env) (Inv : List α → β → Prop) (pre : List α) (x : α) (post : List α) (b0 : β) (d : D) (h0 : Inv [] b0)
    (hs : ∀ p1 y p2 b, pre = p1 ++ y :: p2 → Inv p1 b → ∃ b', f (toD y) (enc b) = some (.nx (enc b')) ∧ Inv (p1 ++ [y]) b')
    (hr : ∀ b, Inv pre b → f (toD x) (enc b) = some (.rt d)) : loopF f ((pre ++ x :: post).map toD) (enc b0) = some (.rt d) := by
  have key : ∀ (p2 p1 : List α) (b : β), pre = p1 ++ p2 → Inv p1 b → loopF f ((p2 ++ x :: post).map toD) (enc b) = some (.rt d) := by
    intro p2
    induction p2 with
    | nil =>
      intro p1 b e hi
      rw [List.append_nil] at e
      subst e
      show andThen (f (toD x) (enc b)) _ = _
      rw [hr b hi]
      rfl
    | cons y p2 ih =>
      intro p1 b e hi
      obtain ⟨b', h1, h2⟩ := hs p1 y p2 b e hi
      show andThen (f (toD y) (enc b)) (loopF f ((p2 ++ x :: post).map toD)) = _
      rw [h1]
      exact ih (p1 ++ [y]) b' (by rw [e]; simp) h2
  exact key pre [] b0 rfl h0
theorem for_ret {C : Nat → List D → Option D} {fu : Nat} {env : Env} {α β : Type} {tg : Tg} {it : It} {s : S} {k : Env → Option Out} {xs : List α} (toD : α → D) (enc : β → Env) (Inv : List α → β → Prop) (pre : List α) (x : α) (post : List α) (b0 : β) (d : D)
    (hi : evI C it env = some (xs.map toD, false)) (hx : xs = pre ++ x :: post) (he : env = enc b0) (h0 : Inv [] b0)
    (hs : ∀ p1 y p2 b, pre = p1 ++ y :: p2 → Inv p1 b → ∃ b', ((bindT tg (toD y) (enc b)).bind (exec C fu s)) = some (.nx (enc b')) ∧ Inv (p1 ++ [y]) b')
    (hr : ∀ b, Inv pre b → ((bindT tg (toD x) (enc b)).bind (exec C fu s)) = some (.rt d)) : andThen (exec C fu (.for_ tg it s) env) k = some (.rt d) := by
  have h1 := loopF_ret (f := fun d e => (bindT tg d e).bind (exec C fu s)) toD enc Inv pre x post b0 d h0 hs hr
  have h3 : exec C fu (.for_ tg it s) env = some (.rt d) := by
    simp only [exec, hi, Option.bind_some]
    rw [if_neg (by decide), he, hx]
    exact h1
  rw [h3]
  rfl
theorem first_split {α : Type} (p : α → Bool) : ∀ {xs : List α}, (∃ x ∈ xs, p x = true) → ∃ pre x post, xs = pre ++ x :: post ∧ p x = true ∧ ∀ y ∈ pre, p y = false
  | [], h => by obtain ⟨x, hx, _⟩ := h; cases hx
  | x :: xs, h => by
    cases c : p x with
    | true => exact ⟨[], x, xs, rfl, c, by simp⟩
    | false =>
      obtain ⟨y, hy, hp⟩ := h
      rcases List.mem_cons.mp hy with rfl | hy
      · rw [c] at hp; cases hp
      · obtain ⟨pre, z, post, e, h1, h2⟩ := first_split p ⟨y, hy, hp⟩
        refine ⟨x :: pre, z, post, by rw [e]; rfl, h1, fun w hw => ?_⟩
        rcases List.mem_cons.mp hw with rfl | hw
        · exact c
        · exact h2 w hw
/-! ### sorting by texts -/
theorem ev_sortedK {C : Nat → List D → Option D} {a : E} {env : Env} {i n : Nat} {xs : List Nat} {f : Nat → List Nat} {k k' : Kd} (h : ev C a env = some (nsD xs, k)) (hc : env[i]? = some (.val (csD n f) k')) (hx : ∀ x ∈ xs, x < n) (hl : xs.length < L) :
    ev C (.sortedK a i) env = some (nsD (sortK f xs), .new1) := by
  have e1 : strsD ((List.range n).map fun v => D.str (f v)) = some ((List.range n).map f) := by
    have := strsD_str ((List.range n).map f)
    rwa [List.map_map] at this
  have e2 : (xs.map fun k : Nat => (k : Int)).all (fun z => decide (0 ≤ z ∧ z < ((List.range n).map f).length)) = true := by
    rw [List.all_map, List.all_eq_true]
    intro x hx'
    have := hx x hx'
    simp
    omega
  have e3 : (xs.map fun k : Nat => (k : Int)).mergeSort (fun a b => !lexS (((List.range n).map f).getD a.toNat []) (((List.range n).map f).getD b.toNat [])) = (sortK f xs).map fun k : Nat => (k : Int) := by
    unfold sortK
    rw [List.map_mergeSort]
    intro x hx' y hy'
    have h1 := hx x hx'
    have h2 := hx y hy'
    simp [h1, h2, leS]
  rw [q_ev_sortedK, h]
  simp only [bm_some, Option.bind_some, nsD, hc, csD, List.length_map, hl, if_true, intsD_nD, e1]
  rw [List.length_map] at e2
  rw [if_pos e2, e3, List.map_map]
  rfl
/-! ### the one ahead -/
def upOf (ps : PL) (v : Nat) : Option Nat := ((ps.find? fun p => decide (p.1 = v)).map (·.2)).getD none
theorem upOf_mem {ps : PL} (h : (ps.map (·.1)).Nodup) {v : Nat} {o : Option Nat} (hm : (v, o) ∈ ps) : upOf ps v = o := by
  unfold upOf
  cases c : ps.find? fun p => decide (p.1 = v) with
  | none =>
    have := List.find?_eq_none.mp c (v, o) hm
    simp at this
  | some p =>
    have h1 := List.find?_some c
    have h2 := List.mem_of_find?_eq_some c
    obtain ⟨a, b⟩ := p
    simp at h1
    subst h1
    exact nodup_fst_eq h h2 hm
noncomputable def brOf (rs : List (Nat × Nat)) (ps : PL) (c : Nat → List Nat) (v : Nat) : List Nat := sortK c (kids rs v (upOf ps v))
theorem brOf_mem {rs : List (Nat × Nat)} {ps : PL} {c : Nat → List Nat} {v x : Nat} : x ∈ brOf rs ps c v ↔ x ∈ kids rs v (upOf ps v) := (sortK_perm _ _).mem_iff
/-- dict(parents(...)) -/
theorem ev_dictPar {C : Nat → List D → Option D} {a : E} {env : Env} {ps : PL} (h : em (ev C a env) = some (psD ps)) (hn : (ps.map (·.1)).Nodup) (hl : ps.length < L) : ev C (.dictP a) env = some (.dic (ps.map kvP), .new1) := by
  have hm : mergeKy [] (ps.map kvP) = ps.map kvP := merge_nodup ps [] hn (by simp)
  have hL : (ps.map kvP).length < L := by rw [List.length_map]; exact hl
  rw [q_ev_dictP, h]
  show ((optAll _ (ps.map parD)).bind _) = _
  refine (congrArg (fun o : Option (List (Ky × D)) => o.bind fun kvs => if kvs.length < L then some ((D.dic (mergeKy [] kvs), Kd.new1) : D × Kd) else none) (opt_pairs ps)).trans ?_
  show (if (ps.map kvP).length < L then _ else _) = _
  rw [if_pos hL, hm]
theorem sp_order_of {n r : Nat} {rs : List (Nat × Nat)} (h : Hedge n rs) (hn : n ≤ 1000) (hr : r < n) {ps : PL} (h1 : s_parents [hD n rs, nD r] = some (psD ps)) (hc : Come n rs r ps) (c : Nat → List Nat) :
    s_order_of [hD n rs, nD r, csD n c] = some (rowsD ((List.range n).map (brOf rs ps c))) := by
  have hln := h.len
  have hb := sp_neighbours h.forest.lt hn (by omega)
  have hpl : ps.length ≤ n := by have := nodup_len hc.grow.nodup (hc.grow.lt h.forest hr); simpa using this
  unfold s_order_of
  refine runF_eq rfl ?_
  simp only [d_order_of, startEnv]
  refine x_asg (.dic (ps.map kvP)) .new1 (ev_dictPar (by simp [h1, psD]) hc.grow.nodup (by rw [L_eq]; omega)) rfl ?_
  simp
  refine for_step (List.range n) (fun v => .tup [nD v, nsD (nb rs v)]) (fun f : List (List Nat) => [.val (hD n rs) .frz, .val (nD r) .frz, .val (csD n c) .frz, .val (.dic (ps.map kvP)) .frz, .val (.lst (f.map nsD)) .own1, .un, .un, .un, .un])
    (fun pre f => f = pre.map (brOf rs ps c)) [] ?_ rfl rfl ?_ ?_
  · simp [hb, rowsD]
    rw [show (List.range n).map (nsD ∘ nb rs) = (List.range n).map fun v => nsD (nb rs v) from rfl, enum_range n fun v => nsD (nb rs v)]
  · rintro pre v post f e hf
    have hv : v < n := by have := range_split e; omega
    obtain ⟨o, ho⟩ := hc.ex h hr hv
    have hup := upOf_mem hc.grow.nodup ho
    have hlk := look_kv hc.grow.nodup ho
    have hixd : ∀ k, ixV (.dic (ps.map kvP), k) (nD v) = some (oD o, subK k) := by
      intro k
      show (look (ps.map kvP) (.inl (v : Int))).map _ = _
      rw [hlk]; rfl
    have hkl : ∀ x ∈ kids rs v o, x < n := fun x hx => (h.adj_lt (h.forest.mem_nb.mp (List.mem_filter.mp hx).1)).2.1
    have hkn : (kids rs v o).length ≤ rs.length := Nat.le_trans (List.length_filter_le _ _) (nb_len rs v)
    have hpl' : pre.length < n := by have := range_split e; omega
    refine ⟨f ++ [brOf rs ps c v], ?_, by rw [hf]; simp⟩
    have hfl : (f.map nsD).length < L := by rw [List.length_map, hf, List.length_map, L_eq]; omega
    simp [-q_ev_sortedK]
    rw [ev_comp (nb rs v) nD (fun x => decide (some x ≠ o)) nD (own := false)]
    · simp [-q_ev_sortedK]
      rw [ev_sortedK (n := n) (xs := kids rs v o) (f := c) (k := .frz) (k' := .frz)]
      · have hfl' : f.length < L := by simpa using hfl
        simp [hfl', brOf, hup]
      · simp [nsD, kids]
      · rfl
      · exact hkl
      · rw [L_eq]; omega
    · rfl
    · intro x hx
      refine ⟨_, rfl, ?_, fun _ => ⟨.frz, by simp, by simp⟩⟩
      simp [hixd, PD8]
    · have := nb_len rs v; rw [L_eq]; omega
  · intro f hf
    subst hf
    simp [freeze1, rowsD]
end Hg
end

section
set_option autoImplicit false
set_option maxHeartbeats 1000000
/-! Pal: along. -/
namespace Hg
theorem zipD_F (F : Nat → Nat) : ∀ xs : List Nat, zipD (xs.map nD) ((xs.map F).map nD) = xs.map fun v => .tup [nD v, nD (F v)]
  | [] => rfl
  | x :: xs => by
    have := zipD_F F xs
    simp only [List.map_cons, zipD]
    rw [this]
structure AInv (r : Nat) (ps : PL) (S todo : List Nat) : Prop where
  nd : (S ++ todo).Nodup
  rt : r ∈ S ++ todo
  cl : ∀ x u, (x, some u) ∈ ps → (x ∈ S ++ todo ↔ u ∈ S)
  sub : ∀ x ∈ S ++ todo, x ∈ ps.map (·.1)
def oF (F : Nat → Nat) (A : List Nat) (v : Nat) : D := if v ∈ A then nD (F v) else .non
theorem oF_cons (F : Nat → Nat) {A B : List Nat} {x : Nat} (h : ∀ v, v ∈ B ↔ v = x ∨ v ∈ A) (v : Nat) : (if v = x then nD (F x) else oF F A v) = oF F B v := by
  unfold oF
  by_cases c : v = x
  · subst c; rw [if_pos rfl, if_pos ((h v).mpr (.inl rfl))]
  · rw [if_neg c]
    by_cases d : v ∈ A
    · rw [if_pos d, if_pos ((h v).mpr (.inr d))]
    · rw [if_neg d, if_neg fun q => by rcases (h v).mp q with q | q <;> contradiction]
theorem AInv.start {r n : Nat} {rs : List (Nat × Nat)} {ps : PL} (cm : Come n rs r ps) : AInv r ps [] [r] := by
  refine ⟨by simp, by simp, ?_, ?_⟩
  · intro x u hx
    have := cm.grow.nodup
    obtain ⟨t, ht⟩ := cm.grow.head
    rw [ht] at hx this
    simp at hx this
    simp
    intro q
    subst q
    exact this.1 _ hx
  · intro x hx
    simp at hx
    subst hx
    exact cm.grow.root_mem
theorem AInv.step {r n : Nat} {rs : List (Nat × Nat)} {ps : PL} (h : Hedge n rs) (hr : r < n) (cm : Come n rs r ps) {S t : List Nat} {x : Nat} {M : List Nat} (b : AInv r ps S (t ++ [x])) (hM : ∀ v, v ∈ M ↔ (v, some x) ∈ ps) (hn : M.Nodup) : AInv r ps (S ++ [x]) (t ++ M) := by
  have hxS : x ∉ S := by
    have := b.nd
    rw [← List.append_assoc] at this
    have := (List.nodup_append.mp this).2.2
    intro q
    exact this x (List.mem_append_left _ q) x (by simp) rfl
  have hp : ((S ++ [x]) ++ (t ++ M)).Perm (S ++ (t ++ [x]) ++ M) := by
    rw [List.append_assoc, List.append_assoc]
    refine List.Perm.append_left S ?_
    rw [List.append_assoc]
    refine (List.perm_middle (l₁ := t) (l₂ := M) (a := x)).symm.trans ?_
    simp
  have hm : ∀ v, v ∈ S ++ [x] ++ (t ++ M) ↔ v ∈ S ++ (t ++ [x]) ∨ v ∈ M := fun v => by rw [hp.mem_iff, List.mem_append]
  refine ⟨?_, ?_, ?_, ?_⟩
  · rw [hp.nodup_iff]
    refine List.nodup_append.mpr ⟨b.nd, hn, fun v hv w hw q => ?_⟩
    subst q
    exact hxS ((b.cl v x ((hM v).mp hw)).mp hv)
  · rw [hm]; exact .inl b.rt
  · intro y u hy
    rw [hm, b.cl y u hy, List.mem_append, List.mem_singleton, hM]
    constructor
    · rintro (q | q)
      · exact .inl q
      · have := nodup_fst_eq cm.grow.nodup hy q
        simp at this
        exact .inr this
    · rintro (q | q)
      · exact .inl q
      · subst q; exact .inr hy
  · intro y hy
    rcases (hm y).mp hy with q | q
    · exact b.sub y q
    · exact List.mem_map_of_mem (f := (·.1)) ((hM y).mp q)
theorem AInv.done {r n : Nat} {rs : List (Nat × Nat)} {ps : PL} (cm : Come n rs r ps) {S : List Nat} (b : AInv r ps S []) : ∀ x ∈ ps.map (·.1), x ∈ S := by
  have e : ∀ x, x ∈ S ++ [] ↔ x ∈ S := by simp
  have key : ∀ p ∈ ps, p.1 ∈ S := by
    refine pre_ind ps (fun pre => ∀ p ∈ pre, p.1 ∈ S) (by simp) ?_
    rintro pre ⟨v, o⟩ post e2 ih p hp
    rcases List.mem_append.mp hp with hp | hp
    · exact ih p hp
    · simp at hp
      subst hp
      rcases cm.grow.at e2 with ⟨_, rfl, rfl⟩ | ⟨u, rfl, _, hu, _, _⟩
      · exact (e _).mp b.rt
      · obtain ⟨q, hq, rfl⟩ := List.mem_map.mp hu
        exact (e _).mp ((b.cl v q.1 (by rw [e2]; simp)).mpr (ih q hq))
  intro x hx
  obtain ⟨p, hp, rfl⟩ := List.mem_map.mp hx
  exact key p hp
theorem sp_along {n r r' : Nat} {rs rs' : List (Nat × Nat)} (h : Hedge n rs) (h' : Hedge n rs') (hn : n ≤ 1000) (hr : r < n) (hr' : r' < n) (he : cdOf rs m0 r = cdOf rs' m0 r') :
    ∃ F, s_along [hD n rs, nD r, hD n rs', nD r'] = some (nsD ((List.range n).map F)) ∧ Iso n rs rs' F := by
  obtain ⟨ps, p1, cm, b1⟩ := sp_branch_codes h hn hr
  obtain ⟨ps', p2, cm', b2⟩ := sp_branch_codes h' hn hr'
  have o1 := sp_order_of h hn hr p1 cm (cAll m0 ps.reverse).2
  have o2 := sp_order_of h' hn hr' p2 cm' (cAll m0 ps'.reverse).2
  have k1 := cAll_cd h hr cm (m := m0) (c := 0) fun _ _ => rfl
  have k2 := cAll_cd h' hr' cm' (m := m0) (c := 0) fun _ _ => rfl
  generalize (cAll m0 ps.reverse).2 = c1 at b1 o1 k1
  generalize (cAll m0 ps'.reverse).2 = c2 at b2 o2 k2
  obtain ⟨F, f0, fs⟩ := along_ex r' (brOf rs ps c1) (brOf rs' ps' c2) cm.grow
  have A : Al n r r' rs rs' ps ps' m0 m0 c1 c2 (brOf rs ps c1) (brOf rs' ps' c2) F := by
    refine ⟨h, h', hr, hr', cm, cm', by simp [Neu, m0], by simp [Neu, m0], fun _ _ _ _ => rfl, k1, k2, ?_, f0, fs, ?_, ?_⟩
    · obtain ⟨t, ht⟩ := cm.grow.head
      obtain ⟨t', ht'⟩ := cm'.grow.head
      have q1 := cdOf_eq (k1 r none (by rw [ht]; simp))
      have q2 := cdOf_eq (k2 r' none (by rw [ht']; simp))
      rw [q1, q2, he]
    · intro v o hv
      unfold brOf
      rw [upOf_mem cm.grow.nodup hv]
    · intro v o hv
      unfold brOf
      rw [upOf_mem cm'.grow.nodup hv]
  refine ⟨F, ?_, A.iso.1⟩
  have hF := A.iso.1.lt
  have hlen := h.len
  have hfr : ∀ S : List Nat, S.Nodup → (∀ x ∈ S, x ∈ ps.map (·.1)) → S.length ≤ n := fun S h1 h2 => nodup_len h1 fun x hx => cm.grow.lt h.forest hr x (h2 x hx)
  unfold s_along
  refine runF_eq rfl ?_
  simp only [d_along, startEnv]
  simp [b1, b2, o1, o2]
  rw [ev_compM (List.range n) nD (fun _ => D.non) (own := false)]
  · simp [ixN_nat hr, map_range_set]
    refine wh_step (fun b : List Nat × List Nat => [.val (hD n rs) .frz, .val (nD r) .frz, .val (hD n rs') .frz, .val (nD r') .frz, .val (rowsD ((List.range n).map (brOf rs ps c1))) .frz, .val (rowsD ((List.range n).map (brOf rs' ps' c2))) .frz, .val (.lst ((List.range n).map (oF F (b.1 ++ b.2)))) .own1, .un, .val (.lst (b.2.map nD)) .own1, .un, .un])
      (fun b => AInv r ps b.1 b.2) (fun b => b.2 = []) (fun b => n - b.1.length) ([], [r]) ?_ (AInv.start cm) (by show n - 0 < FU; rw [FU_eq]; omega) ?_ ?_
    · simp
      intro v hv
      by_cases c : v = r
      · subst c; simp [oF, f0]
      · simp [oF, c]
    · rintro ⟨S, todo⟩ b
      simp only at b
      rcases List.eq_nil_or_concat todo with rfl | ⟨t, x, rfl⟩
      · exact .inr ⟨by simp, rfl⟩
      · rw [List.concat_eq_append] at b ⊢
        have hxm := b.sub x (by simp)
        have hx : x < n := cm.grow.lt h.forest hr x hxm
        obtain ⟨o, ho⟩ := cm.ex h hr hx
        obtain ⟨a1, a2⟩ := A.all x o ho
        obtain ⟨_, m2, _⟩ := A.at_ ho a1 a2
        have hmem := fun v => A.mine_mem (x := v) ho
        have hnd := A.mine_nodup ho
        have b' := b.step h hr cm hmem hnd
        have hFx := hF x hx
        have hoFx : oF F (S ++ (t ++ [x])) x = nD (F x) := if_pos (by simp)
        refine .inl ⟨by simp, ?_⟩
        simp
        refine for_R (R := fun o => ∃ a b_1, o = some (.nx [.val (hD n rs) .frz, .val (nD r) .frz, .val (hD n rs') .frz, .val (nD r') .frz, .val (rowsD ((List.range n).map (brOf rs ps c1))) .frz, .val (rowsD ((List.range n).map (brOf rs' ps' c2))) .frz, .val (.lst ((List.range n).map (oF F (a ++ b_1)))) .own1, .un, .val (.lst (b_1.map nD)) .own1, .un, .un]) ∧ AInv r ps a b_1 ∧ n - a.length < n - S.length)
          (brOf rs ps c1 x) (fun v => .tup [nD v, nD (F v)]) (fun q : List Nat => [.val (hD n rs) .frz, .val (nD r) .frz, .val (hD n rs') .frz, .val (nD r') .frz, .val (rowsD ((List.range n).map (brOf rs ps c1))) .frz, .val (rowsD ((List.range n).map (brOf rs' ps' c2))) .frz, .val (.lst ((List.range n).map (oF F (S ++ [x] ++ (t ++ q))))) .own1, .val (nD x) .frz, .val (.lst ((t ++ q).map nD)) .own1, .un, .un])
          (fun pre q => q = pre) [] ?_ ?_ rfl ?_ ?_
        · have e1 : ixV (rowsD ((List.range n).map (brOf rs ps c1)), .frz) (nD x) = some (nsD (brOf rs ps c1 x), .frz) := by
            show ixV _ (.int x) = _
            rw [ixV_rows]; simp [hx]
          have e2 : ixV (rowsD ((List.range n).map (brOf rs' ps' c2)), .frz) (nD (F x)) = some (nsD (brOf rs' ps' c2 (F x)), .frz) := by
            show ixV _ (.int (F x)) = _
            rw [ixV_rows]; simp [hFx]
          have e3 : ixV (.lst ((List.range n).map (oF F (S ++ (t ++ [x])))), .own1) (nD x) = some (nD (F x), .frz) := by
            show ixV _ (.int x) = _
            simp [hx, hoFx]
          simp [e1, e2, e3]
          simp [nsD]
          rw [← m2]
          exact zipD_F F _
        · have e9 : (List.range n).map (oF F (S ++ (t ++ [x]))) = (List.range n).map (oF F (S ++ [x] ++ (t ++ []))) := List.map_congr_left fun w _ => by
            have : w ∈ S ++ (t ++ [x]) ↔ w ∈ S ++ [x] ++ (t ++ []) := by simp; constructor <;> (intro q; rcases q with q | q | q <;> simp [q])
            unfold oF
            simp only [this]
          simp at e9
          simp
          exact e9
        · rintro pre v post q e hq
          subst hq
          have hv : v ∈ brOf rs ps c1 x := by rw [e]; simp
          have hvp := (hmem v).mp hv
          have hvn : v < n := cm.grow.lt h.forest hr v (List.mem_map_of_mem (f := (·.1)) hvp)
          have htl : t.length + q.length < L := by
            have h1 := hfr _ b'.nd b'.sub
            rw [e] at h1
            simp at h1
            rw [L_eq]; omega
          refine ⟨q ++ [v], ?_, rfl⟩
          have key := fun w => oF_cons F (A := S ++ [x] ++ (t ++ q)) (B := S ++ [x] ++ (t ++ (q ++ [v]))) (x := v) (by intro w; simp; constructor <;> (intro q; rcases q with q | q | q | q | q <;> simp_all)) w
          have key2 : (List.range n).map (fun w => if w = v then nD (F v) else oF F (S ++ [x] ++ (t ++ q)) w) = (List.range n).map (oF F (S ++ [x] ++ (t ++ (q ++ [v])))) := List.map_congr_left fun w _ => key w
          simp at key2
          simp [nD, ixN_nat hvn, map_range_set, htl]
          simp [nD] at key2
          exact key2
        · rintro q rfl
          refine ⟨S ++ [x], t ++ brOf rs ps c1 x, by simp, b', ?_⟩
          have h1 := hfr _ b'.nd b'.sub
          simp at h1
          simp
          omega
    · rintro ⟨S, todo⟩ b hd
      simp only at b hd
      subst hd
      simp [freeze1, nsD]
      intro v hv
      exact if_pos (b.done cm v ((cm.perm h hr).mem_iff.mpr (List.mem_range.mpr hv)))
  · exact evI_rng rfl hn
  · intro v hv
    exact ⟨_, rfl, .frz, rfl, rfl⟩
  · simp [L_eq]; omega
end Hg
end

section
set_option autoImplicit false
set_option maxHeartbeats 1000000
/-! Fct: products, orders of like things. Plain mathematics. -/
namespace Hg
def fct : Nat → Nat
  | 0 => 1
  | k + 1 => (k + 1) * fct k
theorem fct_pos : ∀ k, 0 < fct k
  | 0 => Nat.one_pos
  | k + 1 => Nat.mul_pos (Nat.succ_pos k) (fct_pos k)
/-! products -/
def pr {α : Type} (xs : List α) (f : α → Nat) : Nat := (xs.map f).foldr (· * ·) 1
section
variable {α β : Type}
@[simp] theorem pr_nil (f : α → Nat) : pr [] f = 1 := rfl
@[simp] theorem pr_cons (x : α) (xs : List α) (f : α → Nat) : pr (x :: xs) f = f x * pr xs f := rfl
theorem pr_append (f : α → Nat) : ∀ xs ys : List α, pr (xs ++ ys) f = pr xs f * pr ys f
  | [], ys => by simp
  | x :: xs, ys => by rw [List.cons_append, pr_cons, pr_cons, pr_append f xs ys, Nat.mul_assoc]
theorem pr_perm {xs ys : List α} (f : α → Nat) (h : xs.Perm ys) : pr xs f = pr ys f := by
  induction h with
  | nil => rfl
  | cons x _ ih => rw [pr_cons, pr_cons, ih]
  | swap x y l => rw [pr_cons, pr_cons, pr_cons, pr_cons, Nat.mul_left_comm]
  | trans _ _ h1 h2 => exact h1.trans h2
theorem pr_congr {f g : α → Nat} : ∀ {xs : List α}, (∀ x ∈ xs, f x = g x) → pr xs f = pr xs g
  | [], _ => rfl
  | x :: xs, h => by rw [pr_cons, pr_cons, h x (by simp), pr_congr fun y hy => h y (List.mem_cons_of_mem _ hy)]
theorem pr_map (g : β → α) (f : α → Nat) : ∀ xs : List β, pr (xs.map g) f = pr xs fun x => f (g x)
  | [] => rfl
  | x :: xs => by rw [List.map_cons, pr_cons, pr_cons, pr_map g f xs]
theorem pr_pos {f : α → Nat} : ∀ {xs : List α}, (∀ x ∈ xs, 0 < f x) → 0 < pr xs f
  | [], _ => Nat.one_pos
  | x :: xs, h => Nat.mul_pos (h x (by simp)) (pr_pos fun y hy => h y (List.mem_cons_of_mem _ hy))
/-- like values have like numbers -/
theorem pr_like {γ : Type} {xs : List α} {ys : List β} {f : α → γ} {f' : β → γ} {g : α → Nat} {g' : β → Nat} (h : (xs.map f).Perm (ys.map f')) (hg : ∀ x ∈ xs, ∀ y ∈ ys, f x = f' y → g x = g' y) : pr xs g = pr ys g' := by
  have key : ∃ k : γ → Nat, (∀ x ∈ xs, g x = k (f x)) ∧ ∀ y ∈ ys, g' y = k (f' y) := by
    refine ⟨fun t => Classical.epsilon fun z => ∃ y ∈ ys, f' y = t ∧ g' y = z, ?_, ?_⟩
    · intro x hx
      have hm : f x ∈ ys.map f' := h.mem_iff.mp (List.mem_map_of_mem hx)
      obtain ⟨y, hy, e⟩ := List.mem_map.mp hm
      have := Classical.epsilon_spec (p := fun z => ∃ y ∈ ys, f' y = f x ∧ g' y = z) ⟨g' y, y, hy, e, rfl⟩
      obtain ⟨y2, hy2, e2, e3⟩ := this
      show g x = Classical.epsilon _
      rw [← e3]
      exact hg x hx y2 hy2 e2.symm
    · intro y hy
      have := Classical.epsilon_spec (p := fun z => ∃ y' ∈ ys, f' y' = f' y ∧ g' y' = z) ⟨g' y, y, hy, rfl, rfl⟩
      obtain ⟨y2, hy2, e2, e3⟩ := this
      show g' y = Classical.epsilon _
      rw [← e3]
      have hm : f' y ∈ xs.map f := h.mem_iff.mpr (List.mem_map_of_mem hy)
      obtain ⟨x, hx, e⟩ := List.mem_map.mp hm
      rw [← hg x hx y hy e, hg x hx y2 hy2 (e.trans e2.symm)]
  obtain ⟨k, k1, k2⟩ := key
  rw [pr_congr k1, pr_congr k2, ← pr_map f k, ← pr_map f' k]
  exact pr_perm k h
end
/-! each thing once, in the order of the first places -/
section
variable {α : Type} [DecidableEq α]
def dd (xs : List α) : List α := xs.foldl (fun acc x => if x ∈ acc then acc else acc ++ [x]) []
@[simp] theorem dd_nil : dd ([] : List α) = [] := rfl
theorem dd_snoc (xs : List α) (x : α) : dd (xs ++ [x]) = if x ∈ dd xs then dd xs else dd xs ++ [x] := by
  unfold dd
  rw [List.foldl_append]
  rfl
theorem mem_dd {x : α} (xs : List α) : x ∈ dd xs ↔ x ∈ xs := by
  refine snoc_ind (P := fun xs => x ∈ dd xs ↔ x ∈ xs) (by simp) (fun pre y ih => ?_) xs
  rw [dd_snoc]
  by_cases h : y ∈ dd pre
  · rw [if_pos h, ih, List.mem_append]
    constructor
    · exact .inl
    · rintro (q | q)
      · exact q
      · have : x = y := by simpa using q
        rw [this]
        -- y ∈ pre
        exact (by subst this; exact ih.mp h)
  · rw [if_neg h, List.mem_append, List.mem_append, ih]
theorem nodup_dd (xs : List α) : (dd xs).Nodup := by
  refine snoc_ind (P := fun xs => (dd xs).Nodup) (by simp) (fun pre y ih => ?_) xs
  rw [dd_snoc]
  by_cases h : y ∈ dd pre
  · rw [if_pos h]; exact ih
  · rw [if_neg h]
    exact List.nodup_append.mpr ⟨ih, by simp, fun a ha b hb => by
      have : b = y := by simpa using hb
      rw [this]; exact fun z => h (z ▸ ha)⟩
theorem dd_perm {xs ys : List α} (h : xs.Perm ys) : (dd xs).Perm (dd ys) :=
  (List.perm_ext_iff_of_nodup (nodup_dd xs) (nodup_dd ys)).mpr fun a => by rw [mem_dd, mem_dd, h.mem_iff]
/-- in how many orders like things may stand -/
def FF (xs : List α) : Nat := pr (dd xs) fun c => fct (xs.count c)
theorem FF_perm {xs ys : List α} (h : xs.Perm ys) : FF xs = FF ys := by
  unfold FF
  rw [pr_perm _ (dd_perm h)]
  exact pr_congr fun c _ => by rw [h.count_eq]
theorem FF_pos (xs : List α) : 0 < FF xs := pr_pos fun _ _ => fct_pos _
theorem FF_snoc (xs : List α) (x : α) : FF (xs ++ [x]) = FF xs * (xs.count x + 1) := by
  unfold FF
  rw [dd_snoc]
  by_cases h : x ∈ dd xs
  · rw [if_pos h]
    obtain ⟨l1, l2, e⟩ := List.append_of_mem h
    have nd := nodup_dd xs
    rw [e] at nd ⊢
    obtain ⟨n1, n2, n3⟩ := List.nodup_append.mp nd
    have n4 := List.nodup_cons.mp n2
    have c : ∀ y, y ≠ x → (xs ++ [x]).count y = xs.count y := fun y hy => by
      rw [List.count_append, List.count_singleton, if_neg (by simpa using fun z => hy z.symm)]
      omega
    rw [pr_append, pr_cons, pr_append, pr_cons, pr_congr (xs := l1) (g := fun c => fct (xs.count c)) fun y hy => by rw [c y fun z => n3 y hy x (by simp) z], pr_congr (xs := l2) (g := fun c => fct (xs.count c)) fun y hy => by rw [c y fun z => n4.1 (z ▸ hy)]]
    have e2 : (xs ++ [x]).count x = xs.count x + 1 := by rw [List.count_append, List.count_singleton_self]
    rw [e2]
    show _ * ((xs.count x + 1) * fct (xs.count x) * _) = _
    simp only [Nat.mul_assoc, Nat.mul_comm, Nat.mul_left_comm]
  · rw [if_neg h]
    have hx : x ∉ xs := fun z => h ((mem_dd xs).mpr z)
    have hc : xs.count x = 0 := List.count_eq_zero.mpr hx
    rw [pr_append, pr_cons, pr_nil, pr_congr (xs := dd xs) (g := fun c => fct (xs.count c)) fun y hy => by
      rw [List.count_append, List.count_singleton, if_neg (by simp only [beq_iff_eq]; intro z; subst z; exact h hy)]
      rfl]
    rw [List.count_append, hc, List.count_singleton_self]
    rfl
theorem FF_cons (xs : List α) (x : α) : FF (x :: xs) = FF xs * (xs.count x + 1) := by
  rw [← FF_snoc]
  exact FF_perm (by simpa using (List.perm_append_comm (l₁ := [x]) (l₂ := xs)))
def cnt (x : α) (xs : List α) : Nat := xs.count x
theorem FF_cnt (xs : List α) (x : α) : FF (x :: xs) = FF xs * (cnt x xs + 1) := FF_cons xs x
theorem cnt_perm {xs ys : List α} (h : xs.Perm ys) (x : α) : cnt x xs = cnt x ys := h.count_eq x
theorem cnt_self (x : α) (xs : List α) : cnt x (x :: xs) = cnt x xs + 1 := List.count_cons_self
theorem cnt_pos {x : α} {xs : List α} (h : x ∈ xs) : 0 < cnt x xs := List.count_pos_iff.mpr h
theorem cnt_map {β : Type} (f : β → α) (x : α) : ∀ xs : List β, cnt x (xs.map f) = sm xs fun y => if f y = x then 1 else 0
  | [] => rfl
  | y :: xs => by
    have := cnt_map f x xs
    unfold cnt at this ⊢
    rw [List.map_cons, List.count_cons, this, sx_cons, Nat.add_comm]
    congr 1
    by_cases c : f y = x <;> simp [c]
theorem cnt_snoc (c : α) (xs : List α) (x : α) : cnt c (xs ++ [x]) = if c = x then cnt c xs + 1 else cnt c xs := by
  unfold cnt
  rw [List.count_append, List.count_singleton]
  by_cases h : c = x
  · subst h; simp
  · simp [h, Ne.symm h]
theorem cnt_zero {x : α} {xs : List α} (h : x ∉ xs) : cnt x xs = 0 := List.count_eq_zero.mpr h
theorem cnt_le (x : α) (xs : List α) : cnt x xs ≤ xs.length := List.count_le_length
theorem dd_len (xs : List α) : (dd xs).length ≤ xs.length := by
  refine snoc_ind (P := fun xs => (dd xs).length ≤ xs.length) (by simp) (fun pre y ih => ?_) xs
  rw [dd_snoc]
  split <;> simp <;> omega
theorem FF_le : ∀ xs : List α, FF xs ≤ fct xs.length
  | [] => Nat.le_refl _
  | x :: xs => by
    rw [FF_cnt, List.length_cons]
    have h1 := FF_le xs
    have h2 := cnt_le x xs
    show _ ≤ (xs.length + 1) * fct xs.length
    rw [Nat.mul_comm]
    exact Nat.mul_le_mul (by omega) h1
end
theorem fct_mono {a b : Nat} (h : a ≤ b) : fct a ≤ fct b := by
  induction h with
  | refl => exact Nat.le_refl _
  | step _ ih => exact Nat.le_trans ih (Nat.le_mul_of_pos_left _ (Nat.succ_pos _))
theorem fct_small {k : Nat} (h : k ≤ 18) : fct k < 2 ^ 64 := Nat.lt_of_le_of_lt (fct_mono h) (by decide)
end Hg
end

section
set_option autoImplicit false
set_option maxHeartbeats 1000000
/-! Cn: what hangs together by some rods. Plain mathematics. -/
namespace Hg
def Cn (rs : List (Nat × Nat)) (x y : Nat) : Prop := ∀ P : Nat → Prop, (∀ e ∈ rs, (P e.1 ↔ P e.2)) → (P x ↔ P y)
namespace Cn
variable {rs rs' : List (Nat × Nat)} {x y z : Nat}
theorem refl (rs : List (Nat × Nat)) (x : Nat) : Cn rs x x := fun _ _ => Iff.rfl
theorem symm (h : Cn rs x y) : Cn rs y x := fun P hP => (h P hP).symm
theorem trans (h : Cn rs x y) (h' : Cn rs y z) : Cn rs x z := fun P hP => (h P hP).trans (h' P hP)
theorem mono (hs : ∀ e ∈ rs, e ∈ rs') (h : Cn rs x y) : Cn rs' x y := fun P hP => h P fun e he => hP e (hs e he)
theorem rod {e : Nat × Nat} (he : e ∈ rs) : Cn rs e.1 e.2 := fun P hP => hP e he
theorem adj (h : Adj rs x y) : Cn rs x y := by
  rcases h with h | h
  · exact rod h
  · exact (rod h).symm
end Cn
theorem come_cn {n r : Nat} {rs : List (Nat × Nat)} {ps : PL} (cm : Come n rs r ps) {x : Nat} : x ∈ ps.map (·.1) ↔ Cn rs x r := by
  constructor
  · have key : ∀ {ps : PL}, Grow rs r ps → ∀ x ∈ ps.map (·.1), Cn rs x r := by
      intro ps g
      induction g with
      | root => intro x hx; simp at hx; subst hx; exact Cn.refl _ _
      | @add ps v u g hu a hv ih =>
        intro x hx
        rw [List.map_append, List.mem_append] at hx
        rcases hx with hx | hx
        · exact ih x hx
        · simp at hx
          subst hx
          exact (Cn.adj a).symm.trans (ih u hu)
    exact key cm.grow x
  · intro h
    refine (h (fun y => y ∈ ps.map (·.1)) fun e he => ?_).mpr cm.grow.root_mem
    exact ⟨fun q => cm.all _ q _ (.inl he), fun q => cm.all _ q _ (.inr he)⟩
structure HInv (rs : List (Nat × Nat)) (home : Nat → Nat) : Prop where
  a : ∀ e ∈ rs, home e.1 = home e.2
  b : ∀ x y, home x = home y → Cn rs x y
theorem HInv.nil : HInv [] id := ⟨by simp, fun x y h => by cases h; exact Cn.refl _ _⟩
def homeS (home : Nat → Nat) (e : Nat × Nat) : Nat → Nat := fun x => if home x = home e.2 then home e.1 else home x
theorem HInv.add {rs : List (Nat × Nat)} {home : Nat → Nat} (h : HInv rs home) (e : Nat × Nat) : HInv (rs ++ [e]) (homeS home e) := by
  have hm : ∀ {x y}, home x = home y → Cn (rs ++ [e]) x y := fun q => (h.b _ _ q).mono fun e he => List.mem_append_left _ he
  have hr : Cn (rs ++ [e]) e.1 e.2 := Cn.rod (by simp)
  constructor
  · intro e' he'
    rcases List.mem_append.mp he' with q | q
    · simp only [homeS, h.a e' q]
    · simp at q
      subst q
      simp only [homeS]
      by_cases c : home e'.1 = home e'.2 <;> simp [c]
  · intro x y q
    simp only [homeS] at q
    by_cases c1 : home x = home e.2 <;> by_cases c2 : home y = home e.2
    · exact (hm c1).trans (hm c2).symm
    · rw [if_pos c1, if_neg c2] at q
      exact (hm c1).trans (hr.symm.trans (hm q))
    · rw [if_neg c1, if_pos c2] at q
      exact (hm q).trans (hr.trans (hm c2).symm)
    · rw [if_neg c1, if_neg c2] at q
      exact hm q
theorem HInv.iff {rs : List (Nat × Nat)} {home : Nat → Nat} (h : HInv rs home) {x y : Nat} : home x = home y ↔ Cn rs x y :=
  ⟨h.b x y, fun q => ((q (fun z => home z = home x) fun e he => by rw [h.a e he]).mp rfl).symm⟩
noncomputable def cnb (rs : List (Nat × Nat)) (x y : Nat) : Bool := @decide (Cn rs x y) (Classical.propDecidable _)
theorem cnb_iff {rs : List (Nat × Nat)} {x y : Nat} : cnb rs x y = true ↔ Cn rs x y := by unfold cnb; exact @decide_eq_true_iff _ (Classical.propDecidable _)
/-- the row of a knot: all that hang together with it -/
noncomputable def cnRow (rs : List (Nat × Nat)) (n k : Nat) : List Nat := (List.range n).filter fun x => cnb rs x k
theorem mem_cnRow {rs : List (Nat × Nat)} {n k x : Nat} : x ∈ cnRow rs n k ↔ x < n ∧ Cn rs x k := by
  unfold cnRow; rw [List.mem_filter, List.mem_range, cnb_iff]
theorem HInv.row {rs : List (Nat × Nat)} {home : Nat → Nat} (h : HInv rs home) (n k : Nat) : (List.range n).filter (fun x => decide (home x = home k)) = cnRow rs n k := by
  unfold cnRow
  apply List.filter_congr
  intro x _
  rw [Bool.eq_iff_iff, decide_eq_true_eq, cnb_iff]
  exact h.iff
theorem cnRow_eq {rs : List (Nat × Nat)} {n j k : Nat} (h : Cn rs j k) : cnRow rs n j = cnRow rs n k := by
  unfold cnRow
  apply List.filter_congr
  intro x _
  rw [Bool.eq_iff_iff, cnb_iff, cnb_iff]
  exact ⟨fun q => q.trans h, fun q => q.trans h.symm⟩
noncomputable def rowStep (rs : List (Nat × Nat)) (n : Nat) (acc : List (List Nat)) (k : Nat) : List (List Nat) := if cnRow rs n k ∈ acc then acc else acc ++ [cnRow rs n k]
noncomputable def cnRows (rs : List (Nat × Nat)) (n : Nat) : List (List Nat) := (List.range n).foldl (rowStep rs n) []
theorem cnRows_sub {rs : List (Nat × Nat)} {n : Nat} : ∀ (ks : List Nat), (∀ k ∈ ks, k < n) → (∀ r, r ∈ ks.foldl (rowStep rs n) [] ↔ ∃ k ∈ ks, r = cnRow rs n k) := by
  intro ks
  have key : ∀ (ks : List Nat) (acc : List (List Nat)) (r : List Nat), r ∈ ks.foldl (rowStep rs n) acc ↔ r ∈ acc ∨ ∃ k ∈ ks, r = cnRow rs n k := by
    intro ks
    induction ks with
    | nil => intro acc r; simp
    | cons k ks ih =>
      intro acc r
      rw [List.foldl_cons, ih]
      have : r ∈ rowStep rs n acc k ↔ r ∈ acc ∨ r = cnRow rs n k := by
        unfold rowStep
        by_cases c : cnRow rs n k ∈ acc
        · rw [if_pos c]
          exact ⟨.inl, fun q => q.elim id fun q => q ▸ c⟩
        · rw [if_neg c, List.mem_append, List.mem_singleton]
      rw [this]
      constructor
      · rintro ((h | h) | ⟨k', hk, h⟩)
        · exact .inl h
        · exact .inr ⟨k, List.mem_cons_self .., h⟩
        · exact .inr ⟨k', List.mem_cons_of_mem _ hk, h⟩
      · rintro (h | ⟨k', hk, h⟩)
        · exact .inl (.inl h)
        · rcases List.mem_cons.mp hk with rfl | hk
          · exact .inl (.inr h)
          · exact .inr ⟨k', hk, h⟩
  intro _ r
  rw [key ks [] r]
  simp
theorem mem_cnRows {rs : List (Nat × Nat)} {n : Nat} {r : List Nat} : r ∈ cnRows rs n ↔ ∃ k, k < n ∧ r = cnRow rs n k := by
  unfold cnRows
  rw [cnRows_sub (List.range n) fun k hk => List.mem_range.mp hk]
  constructor
  · rintro ⟨k, hk, h⟩; exact ⟨k, List.mem_range.mp hk, h⟩
  · rintro ⟨k, hk, h⟩; exact ⟨k, List.mem_range.mpr hk, h⟩
theorem cnRows_len (rs : List (Nat × Nat)) (n : Nat) : ∀ ks : List Nat, (ks.foldl (rowStep rs n) []).length ≤ ks.length := by
  intro ks
  have key : ∀ (ks : List Nat) (acc : List (List Nat)), (ks.foldl (rowStep rs n) acc).length ≤ acc.length + ks.length := by
    intro ks
    induction ks with
    | nil => intro acc; simp
    | cons k ks ih =>
      intro acc
      rw [List.foldl_cons]
      refine Nat.le_trans (ih _) ?_
      unfold rowStep
      split <;> simp <;> omega
  simpa using key ks []
/-- the rods whose places are not told -/
def keepR (rs : List (Nat × Nat)) (pl : List Nat) : List (Nat × Nat) := (rs.zipIdx.filter fun p => decide (p.2 ∉ pl)).map (·.1)
theorem keepR_sub (rs : List (Nat × Nat)) (pl : List Nat) : (keepR rs pl).Sublist rs := by
  unfold keepR
  have h := (List.filter_sublist (p := fun p : (Nat × Nat) × Nat => decide (p.2 ∉ pl)) (l := rs.zipIdx)).map (·.1)
  have e : rs.zipIdx.map (·.1) = rs := by simp
  rwa [e] at h
theorem Hedge.keep {n : Nat} {rs : List (Nat × Nat)} (h : Hedge n rs) (pl : List Nat) : Forest n (keepR rs pl) :=
  ⟨⟨rs, h, fun e he => (keepR_sub rs pl).subset he⟩, (keepR_sub rs pl).nodup h.nodup⟩
end Hg
end

section
set_option autoImplicit false
set_option maxHeartbeats 1000000
/-! Net: the rods between some knots. Plain mathematics. -/
namespace Hg
theorem come_ex {n r : Nat} {rs : List (Nat × Nat)} (h : Hedge n rs) (hn : n ≤ 1000) (hr : r < n) : ∃ ps, Come n rs r ps := by
  obtain ⟨ps, _, hc⟩ := sp_parents h.forest hn (by have := h.len; omega) hr
  exact ⟨ps, hc⟩
theorem Come.dist_up {n r : Nat} {rs : List (Nat × Nat)} {ps : PL} (h : Hedge n rs) (cm : Come n rs r ps) {x v : Nat} (hx : (x, some v) ∈ ps) : dist rs r x = dist rs r v + 1 := by
  obtain ⟨A, B, hAB⟩ := List.append_of_mem hx
  rcases cm.grow.at hAB with ⟨_, _, q⟩ | ⟨u, q, g, q2, q3, q4⟩
  · cases q
  · cases q; exact g.dist h q2 q3 q4
theorem rod_cn {rs : List (Nat × Nat)} {u v : Nat} (h : rodOf u v ∈ rs) : Cn rs u v := by
  have := Cn.rod h
  unfold rodOf at this
  simp only at this
  rcases Nat.le_total u v with q | q
  · rwa [Nat.min_eq_left q, Nat.max_eq_right q] at this
  · rw [Nat.min_eq_right q, Nat.max_eq_left q] at this; exact this.symm
/-- the rods on the way between two knots join them -/
theorem cn_path {n : Nat} {rs : List (Nat × Nat)} (h : Hedge n rs) {x : Nat} (hx : x < n) : ∀ (d y : Nat), y < n → dist rs x y = d → Cn (rs.filter fun e => side rs e x != side rs e y) x y := by
  intro d
  induction d with
  | zero =>
    intro y hy e
    rw [h.dist_zero hx hy e]
    exact Cn.refl _ _
  | succ d ih =>
    intro y hy e
    have hne : x ≠ y := by intro q; subst q; rw [dist_self] at e; omega
    obtain ⟨u, a, hd⟩ := h.ahead_ex hx hy hne
    have hu := (h.adj_lt a).1
    have hs : side rs (rodOf u y) x = side rs (rodOf u y) u := h.side_of_lt a (by omega)
    have hne2 := h.side_adj_ne a
    refine Cn.trans (Cn.mono (fun e he => ?_) (ih u hu (by omega))) (rod_cn (List.mem_filter.mpr ⟨h.adj_rod a, by simp [hs]; exact hne2⟩))
    obtain ⟨he1, he2⟩ := List.mem_filter.mp he
    refine List.mem_filter.mpr ⟨he1, ?_⟩
    have hn : rodOf u y ≠ e := by
      intro q
      subst q
      simp [hs] at he2
    rw [← h.side_adj_eq he1 a hn]
    exact he2
/-- a part that holds all of its rods' ends: as many rods less one -/
theorem comp_count {n r : Nat} {rs : List (Nat × Nat)} (h : Hedge n rs) (hn : n ≤ 1000) (hr : r < n) (q : Nat × Nat → Bool) (hq : ∀ e ∈ rs.filter q, Cn (rs.filter q) e.1 r) : (cnRow (rs.filter q) n r).length = (rs.filter q).length + 1 := by
  obtain ⟨ps, cm⟩ := come_ex h hn hr
  have key : ∀ v u, (v, some u) ∈ ps → (cnb (rs.filter q) v r = q (rodOf u v)) := by
    intro v u hv
    have ha := (cm.grow.up_mem _ _ hv).2
    have hr0 := h.adj_rod ha
    have hsd := h.side_of_lt (r := r) ha (by have := cm.dist_up h hv; omega)
    have hne := h.side_adj_ne ha
    rw [Bool.eq_iff_iff, cnb_iff]
    constructor
    · intro c
      cases hqe : q (rodOf u v) with
      | true => rfl
      | false =>
        exfalso
        have := (c (fun x => side rs (rodOf u v) x = side rs (rodOf u v) v) fun e he => by
          obtain ⟨e1, e2⟩ := List.mem_filter.mp he
          have hn : e ≠ rodOf u v := fun z => by rw [z, hqe] at e2; cases e2
          rw [h.side_eq hr0 e1 hn]).mp rfl
        rw [hsd] at this
        exact hne this
    · intro hqe
      have hm : rodOf u v ∈ rs.filter q := List.mem_filter.mpr ⟨hr0, hqe⟩
      have c1 := hq _ hm
      unfold rodOf at c1
      simp only at c1
      rcases Nat.le_total u v with z | z
      · rw [Nat.min_eq_left z] at c1
        exact (rod_cn hm).symm.trans c1
      · rw [Nat.min_eq_right z] at c1
        exact c1
  obtain ⟨t, ht⟩ := cm.grow.head
  have hall : ∀ p ∈ t, ∃ u, p.2 = some u ∧ cnb (rs.filter q) p.1 r = q (rodOf u p.1) := by
    rintro ⟨v, o⟩ hp
    have hp' : (v, o) ∈ ps := by rw [ht]; exact List.mem_cons_of_mem _ hp
    cases o with
    | none =>
      have := cm.root_none hp'
      subst this
      have hnd := cm.grow.nodup
      rw [ht, List.map_cons, List.nodup_cons] at hnd
      exact absurd (List.mem_map_of_mem (f := (·.1)) hp) hnd.1
    | some u => exact ⟨u, rfl, key v u hp'⟩
  have cnt : ∀ t : PL, (∀ p ∈ t, ∃ u, p.2 = some u ∧ cnb (rs.filter q) p.1 r = q (rodOf u p.1)) → (t.map (·.1)).countP (fun x => cnb (rs.filter q) x r) = (rodsOf t).countP q := by
    intro t
    induction t with
    | nil => intro _; rfl
    | cons p t ih =>
      intro ha
      obtain ⟨u, hu, hc⟩ := ha p (List.mem_cons_self ..)
      have ih := ih fun x hx => ha x (List.mem_cons_of_mem _ hx)
      have : rodsOf (p :: t) = rodOf u p.1 :: rodsOf t := by unfold rodsOf; rw [List.filterMap_cons, hu]; rfl
      rw [this, List.map_cons, List.countP_cons, List.countP_cons, ih, hc]
  have c1 := cnt t hall
  have hp := cm.perm h hr
  have hrods := cm.rods h hr
  have e1 : (cnRow (rs.filter q) n r).length = (ps.map (·.1)).countP fun x => cnb (rs.filter q) x r := by
    unfold cnRow
    rw [← List.countP_eq_length_filter]
    exact (hp.countP_eq _).symm
  have e2 : rodsOf ps = rodsOf t := by rw [ht]; rfl
  have e3 : (rodsOf ps).countP q = (rs.filter q).length := by rw [hrods.countP_eq, List.countP_eq_length_filter]
  rw [e1, ht, List.map_cons, List.countP_cons, c1, ← e2, e3]
  simp [cnb_iff.mpr (Cn.refl _ _)]
/-! ### rods with some knots on either side -/
noncomputable def sepK (rs : List (Nat × Nat)) (K : List Nat) (e : Nat × Nat) : Bool := K.any fun a => K.any fun b => side rs e a != side rs e b
theorem sepK_iff {rs : List (Nat × Nat)} {K : List Nat} {e : Nat × Nat} : sepK rs K e = true ↔ ∃ a ∈ K, ∃ b ∈ K, side rs e a ≠ side rs e b := by
  unfold sepK
  simp
theorem net_joined {n : Nat} {rs : List (Nat × Nat)} {K : List Nat} (h : Hedge n rs) (hK : ∀ k ∈ K, k < n) {a b : Nat} (ha : a ∈ K) (hb : b ∈ K) : Cn (rs.filter (sepK rs K)) a b := by
  refine Cn.mono (fun e he => ?_) (cn_path h (hK a ha) _ b (hK b hb) rfl)
  obtain ⟨e1, e2⟩ := List.mem_filter.mp he
  exact List.mem_filter.mpr ⟨e1, sepK_iff.mpr ⟨a, ha, b, hb, by simpa using e2⟩⟩
theorem net_ends {n : Nat} {rs : List (Nat × Nat)} {K : List Nat} (h : Hedge n rs) (hK : ∀ k ∈ K, k < n) {r : Nat} (hr : r ∈ K) : ∀ e ∈ rs.filter (sepK rs K), Cn (rs.filter (sepK rs K)) e.1 r := by
  intro e he
  obtain ⟨e1, e2⟩ := List.mem_filter.mp he
  obtain ⟨a, ha, b, hb, hne⟩ := sepK_iff.mp e2
  obtain ⟨hl1, hl2, _⟩ := h.lt e1
  have hse := h.side_ne e1
  -- one of the two lies on the first end's side
  have : ∃ c ∈ K, side rs e c = side rs e e.1 := by
    cases ca : side rs e a <;> cases cb : side rs e b <;> cases c1 : side rs e e.1 <;> first | exact ⟨a, ha, ca⟩ | exact ⟨b, hb, cb⟩ | (rw [ca, cb] at hne; exact absurd rfl hne)
  obtain ⟨c, hc, hs⟩ := this
  -- the way from c to the first end
  have hd : ∃ d ∈ K, side rs e d ≠ side rs e e.1 := by
    cases ca : side rs e a <;> cases cb : side rs e b <;> cases c1 : side rs e e.1 <;> first | exact ⟨a, ha, by rw [ca]; decide⟩ | exact ⟨b, hb, by rw [cb]; decide⟩ | (rw [ca, cb] at hne; exact absurd rfl hne)
  obtain ⟨d, hd, hsd⟩ := hd
  refine Cn.trans ?_ (net_joined h hK hc hr)
  refine (Cn.mono (fun f hf => ?_) (cn_path h (hK c hc) _ e.1 hl1 rfl)).symm
  obtain ⟨f1, f2⟩ := List.mem_filter.mp hf
  have f2 : side rs f c ≠ side rs f e.1 := by simpa using f2
  refine List.mem_filter.mpr ⟨f1, sepK_iff.mpr ⟨c, hc, d, hd, fun z => ?_⟩⟩
  -- d and e.1 lie on one side of f
  have hfe : f ≠ e := fun y => by subst y; exact f2 hs
  have hin : ∀ u v, Adj rs u v → rodOf u v = e → (v = e.1 ∧ u = e.2) ∨ (v = e.2 ∧ u = e.1) := by
    intro u v a he
    rw [← h.rod_eq e1] at he
    rcases Hedge.rod_inj he with ⟨q1, q2⟩ | ⟨q1, q2⟩
    · exact .inr ⟨q2, q1⟩
    · exact .inl ⟨q2, q1⟩
  have near : (∀ u v, Adj rs u v → rodOf u v = f → side rs e v ≠ side rs e e.1) → side rs f c = side rs f e.1 := by
    intro hno
    refine h.conn (fun x => side rs e x = side rs e e.1 → side rs f x = side rs f e.1) ?_ hl1 (hK c hc) (fun _ => rfl) hs
    intro u v a ih hv
    by_cases q : rodOf u v = e
    · rcases hin u v a q with ⟨rfl, _⟩ | ⟨rfl, _⟩
      · rfl
      · exact absurd hv.symm hse
    · have hu := h.side_adj_eq e1 a q
      have hnf : rodOf u v ≠ f := fun y => hno u v a y hv
      rw [← h.side_adj_eq f1 a hnf]
      exact ih (hu.trans hv)
  have far : ∀ x, x < n → side rs e x ≠ side rs e e.1 → side rs f x = side rs f e.1 := by
    intro x hx hxe
    refine h.conn (fun x => side rs e x ≠ side rs e e.1 → side rs f x = side rs f e.1) ?_ hl2 hx (fun _ => (h.side_eq f1 e1 (fun y => hfe y.symm)).symm) hxe
    intro u v a ih hv
    by_cases q : rodOf u v = e
    · rcases hin u v a q with ⟨rfl, _⟩ | ⟨rfl, _⟩
      · exact absurd rfl hv
      · exact (h.side_eq f1 e1 (fun y => hfe y.symm)).symm
    · have hu := h.side_adj_eq e1 a q
      by_cases y : rodOf u v = f
      · exfalso
        refine f2 (near fun u' v' a' y' hv' => ?_)
        rw [← y] at y'
        have hu2 : side rs e u ≠ side rs e e.1 := fun w => hv (hu ▸ w)
        rcases Hedge.rod_inj y' with ⟨_, q2⟩ | ⟨_, q2⟩
        · rw [q2] at hv'; exact hv hv'
        · rw [q2] at hv'; exact hu2 hv'
      · rw [← h.side_adj_eq f1 a y]
        exact ih fun w => hv (hu ▸ w)
  exact f2 (z.trans (far d (hK d hd) hsd))
end Hg
end

section
set_option autoImplicit false
set_option maxHeartbeats 1000000
/-! Phb: hedge_by. -/
namespace Hg
theorem then_assoc (o : Option Out) (f g : Env → Option Out) : andThen (andThen o f) g = andThen o fun e => andThen (f e) g := by
  cases o with
  | none => rfl
  | some w => cases w <;> rfl
def reRod (e : Nat × Nat) : Nat × Nat := rodOf e.1 e.2
theorem sp_hedge_by (n : Nat) (es : List (Nat × Nat)) (hl : es.length < L) : s_hedge_by [nD n, .lst (es.map rodD)] = some (hD n (sortR (es.map reRod))) := by
  unfold s_hedge_by
  refine runF_eq rfl ?_
  simp only [d_hedge_by, startEnv]
  simp
  rw [ev_compM es rodD (fun e => rodD (reRod e)) (own := false)]
  · have e : D.lst (es.map fun e => rodD (reRod e)) = .lst ((es.map reRod).map rodD) := by simp
    rw [e]
    have hl2 : (es.map reRod).length < L := by simpa using hl
    rw [em_new1, Option.bind_some, sortedV_R hl2]
    simp [hD, nD]
  · rfl
  · rintro ⟨a, b⟩ _
    refine ⟨_, rfl, .frz, ?_, rfl⟩
    simp [rodD, reRod, rodOf]
    omega
  · exact hl
theorem reRod_id {es : List (Nat × Nat)} (h : ∀ e ∈ es, e.1 < e.2) : es.map reRod = es := by
  have : es.map reRod = es.map id := List.map_congr_left fun e he => by
    have := h e he
    unfold reRod rodOf
    rw [Nat.min_eq_left (by omega), Nat.max_eq_right (by omega)]; rfl
  rw [this, List.map_id]
theorem leN_anti {a b : Nat × Nat} (h1 : leN a b = true) (h2 : leN b a = true) : a = b := by
  simp only [leN, decide_eq_true_eq] at h1 h2
  exact Prod.ext (by omega) (by omega)
theorem sortR_pe {xs ys : List (Nat × Nat)} (h : xs.Perm ys) : sortR xs = sortR ys :=
  List.Perm.eq_of_pairwise (le := fun a b => leN a b = true) (fun a b _ _ h1 h2 => leN_anti h1 h2) (sortR_pw xs) (sortR_pw ys) ((sortR_perm xs).trans (h.trans (sortR_perm ys).symm))
theorem sortR_id {xs : List (Nat × Nat)} (h : xs.Pairwise ltN) : sortR xs = xs :=
  List.Perm.eq_of_pairwise (le := fun a b => leN a b = true) (fun a b _ _ h1 h2 => leN_anti h1 h2) (sortR_pw xs) (h.imp fun {a b} q => by simp only [leN, decide_eq_true_eq]; unfold ltN at q; omega) (sortR_perm xs)
theorem sortN_eq {xs ys : List Nat} (h : xs.Perm ys) : sortN xs = sortN ys :=
  List.Perm.eq_of_pairwise (le := fun a b => a ≤ b) (fun a b _ _ h1 h2 => Nat.le_antisymm h1 h2) (sortN_pw xs) (sortN_pw ys) ((sortN_perm xs).trans (h.trans (sortN_perm ys).symm))
theorem sortN_id {xs : List Nat} (h : xs.Pairwise fun a b => a ≤ b) : sortN xs = xs :=
  List.Perm.eq_of_pairwise (le := fun a b => a ≤ b) (fun a b _ _ h1 h2 => Nat.le_antisymm h1 h2) (sortN_pw xs) h (sortN_perm xs)
theorem range_pw (n : Nat) : (List.range n).Pairwise fun a b => a ≤ b := List.pairwise_lt_range.imp fun h => Nat.le_of_lt h
/-- in order and once each: what stands among the numbers ahead -/
theorem sortN_filter {xs : List Nat} {n : Nat} (hn : xs.Nodup) {p : Nat → Bool} (h : ∀ x, x ∈ xs ↔ x < n ∧ p x = true) : sortN xs = (List.range n).filter p := by
  have h1 : xs.Perm ((List.range n).filter p) := (List.perm_ext_iff_of_nodup hn (List.nodup_range.filter _)).mpr fun x => by rw [h, List.mem_filter, List.mem_range]
  rw [sortN_eq h1]
  exact sortN_id ((range_pw n).filter _)
end Hg
end

section
set_option autoImplicit false
set_option maxHeartbeats 1000000
/-! Cut: few rods cut so that no part is too great. Plain mathematics. -/
namespace Hg
/-! ### folds over the order, some rods passed over -/
def stepG (α : Nat → Bool) (p : Nat × Option Nat) (g : Nat → Nat) : Nat → Nat := match p.2 with | none => g | some u => if α p.1 = true then (fun x => if x = u then g u + g p.1 else g x) else g
def foldG (α : Nat → Bool) (w0 : Nat → Nat) (ps : PL) : Nat → Nat := ps.foldr (stepG α) w0
theorem sm_filter (xs : List Nat) (α : Nat → Bool) (F : Nat → Nat) : sm (xs.filter α) F = sm xs fun x => if α x = true then F x else 0 := by
  induction xs with
  | nil => rfl
  | cons x xs ih =>
    rw [List.filter_cons]
    cases h : α x <;> simp [h, ih]
theorem sm_le {xs : List Nat} {F G : Nat → Nat} (h : ∀ x ∈ xs, F x ≤ G x) : sm xs F ≤ sm xs G := by
  induction xs with
  | nil => exact Nat.le_refl _
  | cons x xs ih =>
    have h1 := h x (List.mem_cons_self ..)
    have h2 := ih fun y hy => h y (List.mem_cons_of_mem _ hy)
    simp
    omega
section
variable {n r : Nat} {rs : List (Nat × Nat)} {ps : PL}
/-- the value at a knot: its own and its branches' -/
theorem foldG_rec (cm : Come n rs r ps) (α : Nat → Bool) (w0 : Nat → Nat) (v : Nat) : foldG α w0 ps v = w0 v + sm ((kidsIn ps.reverse v).filter α) (foldG α w0 ps) := by
  have key : ∀ v, ps.reverse.foldl (fun g p => stepG α p g) w0 v = w0 v + sm ((kidsIn ps.reverse v).filter α) (ps.reverse.foldl (fun g p => stepG α p g) w0) := by
    refine pre_ind ps.reverse (fun pre => ∀ v, pre.foldl (fun g p => stepG α p g) w0 v = w0 v + sm ((kidsIn pre v).filter α) (pre.foldl (fun g p => stepG α p g) w0)) (fun v => by simp [kidsIn]) ?_
    rintro pre ⟨v, o⟩ post e ih x
    rw [List.foldl_append]
    show stepG α (v, o) (pre.foldl (fun g p => stepG α p g) w0) x = w0 x + sm ((kidsIn (pre ++ [(v, o)]) x).filter α) (stepG α (v, o) (pre.foldl (fun g p => stepG α p g) w0))
    generalize hf : pre.foldl (fun g p => stepG α p g) w0 = f at ih
    rw [kidsIn_snoc, List.filter_append, sx_append]
    cases o with
    | none => simp [stepG]; exact ih x
    | some a =>
      have ha := cm.ahead e
      have hfr := cm.fresh e
      have hav : a ≠ v := fun q => by
        have hm : (v, some a) ∈ ps := by rw [← List.mem_reverse, e]; simp
        subst q
        have := cm.grow.up_mem _ _ hm
        have hnd := cm.grow.nodup
        rcases cm.grow.at (List.append_of_mem hm).choose_spec.choose_spec with ⟨_, _, q⟩ | ⟨u, q, _, q2, _, q4⟩
        · cases q
        · cases q; exact q4 q2
      have hkid : ∀ c ∈ (kidsIn pre x).filter α, c ≠ a := by
        intro c hc q
        subst q
        exact ha.1 (List.mem_map_of_mem (f := (·.1)) (mem_kidsIn.mp (List.mem_filter.mp hc).1))
      cases hα : α v with
      | false =>
        have : stepG α (v, some a) f = f := by simp [stepG, hα]
        rw [this]
        have e2 : ((if some a = some x then [v] else [] : List Nat).filter α) = [] := by split <;> simp [hα]
        rw [e2]
        simp
        exact ih x
      | true =>
        have hs : ∀ y, stepG α (v, some a) f y = if y = a then f a + f v else f y := by intro y; simp [stepG, hα]
        have e1 : sm ((kidsIn pre x).filter α) (stepG α (v, some a) f) = sm ((kidsIn pre x).filter α) f := sx_congr fun c hc => by rw [hs, if_neg (hkid c hc)]
        rw [e1, hs]
        by_cases q : x = a
        · subst q
          have e3 : stepG α (v, some x) f v = f v := by rw [hs, if_neg (fun z => hav z.symm)]
          simp [hα, e3]
          rw [ih x]
          omega
        · have q' : ¬ a = x := fun z => q z.symm
          simp [q, q']
          exact ih x
  have := key v
  rw [List.foldl_reverse] at this
  exact this
/-! ### parts -/
def keptOf (α : Nat → Bool) (ps : PL) : List (Nat × Nat) := ps.filterMap fun p => match p.2 with | none => none | some u => if α p.1 = true then some (rodOf u p.1) else none
theorem mem_keptOf {α : Nat → Bool} {e : Nat × Nat} : e ∈ keptOf α ps ↔ ∃ v u, (v, some u) ∈ ps ∧ α v = true ∧ rodOf u v = e := by
  unfold keptOf
  rw [List.mem_filterMap]
  constructor
  · rintro ⟨⟨v, o⟩, h1, h2⟩
    cases o with
    | none => cases h2
    | some u =>
      simp at h2
      exact ⟨v, u, h1, h2.1, h2.2⟩
  · rintro ⟨v, u, h1, h2, h3⟩
    exact ⟨(v, some u), h1, by simp [h2, h3]⟩
noncomputable def partW (α : Nat → Bool) (ps : PL) (w0 : Nat → Nat) (k : Nat) : Nat := sm ((ps.map (·.1)).filter fun x => cnb (keptOf α ps) x k) w0
theorem rod_ends {R : Nat → Prop} {u v : Nat} (hu : R u) (hv : R v) : R (rodOf u v).1 ∧ R (rodOf u v).2 := by
  unfold rodOf
  simp only
  rcases Nat.le_total u v with q | q
  · rw [Nat.min_eq_left q, Nat.max_eq_right q]; exact ⟨hu, hv⟩
  · rw [Nat.min_eq_right q, Nat.max_eq_left q]; exact ⟨hv, hu⟩
theorem cn_pend {R : List (Nat × Nat)} {u v x k : Nat} (hv : ∀ e ∈ R, e.1 ≠ v ∧ e.2 ≠ v) (huv : u ≠ v) (hx : x ≠ v) (hk : k ≠ v) : Cn (R ++ [rodOf u v]) x k ↔ Cn R x k := by
  constructor
  · intro c P hP
    have := c (fun y => if y = v then P u else P y) fun e he => by
      rcases List.mem_append.mp he with he | he
      · simp only [(hv e he).1, (hv e he).2, if_false]
        exact hP e he
      · simp at he
        subst he
        have : ∀ y, (y = u ∨ y = v) → ((if y = v then P u else P y) ↔ P u) := by
          rintro y (rfl | rfl)
          · simp only [huv, if_false]
          · simp
        have h1 : (rodOf u v).1 = u ∨ (rodOf u v).1 = v := by unfold rodOf; simp only; omega
        have h2 : (rodOf u v).2 = u ∨ (rodOf u v).2 = v := by unfold rodOf; simp only; omega
        exact (this _ h1).trans (this _ h2).symm
    simpa only [hx, hk, if_false] using this
  · exact Cn.mono fun e he => List.mem_append_left _ he
theorem cn_pendv {R : List (Nat × Nat)} {u v k : Nat} (hv : ∀ e ∈ R, e.1 ≠ v ∧ e.2 ≠ v) (huv : u ≠ v) (hk : k ≠ v) : Cn (R ++ [rodOf u v]) v k ↔ Cn R u k := by
  have huv' : Cn (R ++ [rodOf u v]) u v := rod_cn (by simp)
  rw [← cn_pend hv huv huv hk]
  exact ⟨fun c => huv'.trans c, fun c => huv'.symm.trans c⟩
theorem cn_lone {R : List (Nat × Nat)} {v x : Nat} (hv : ∀ e ∈ R, e.1 ≠ v ∧ e.2 ≠ v) (c : Cn R v x) : x = v := by
  have := (c (fun y => y = v) fun e he => by simp [(hv e he).1, (hv e he).2]).mp rfl
  exact this
theorem cnb_congr {R R' : List (Nat × Nat)} {x y x' y' : Nat} (h : Cn R x y ↔ Cn R' x' y') : cnb R x y = cnb R' x' y' := by
  rw [Bool.eq_iff_iff, cnb_iff, cnb_iff]; exact h
theorem fold_other {α : Nat → Bool} {x : Nat} : ∀ (ps : PL) (w : Nat → Nat), (∀ c u, (c, some u) ∈ ps → u ≠ x) → foldG α w ps x = w x
  | [], _, _ => rfl
  | (c, a) :: ps, w, h => by
    have ih := fold_other (α := α) ps w fun c' u' h' => h c' u' (List.mem_cons_of_mem _ h')
    show stepG α (c, a) (foldG α w ps) x = _
    cases a with
    | none => exact ih
    | some u =>
      have := h c u (List.mem_cons_self ..)
      unfold stepG
      simp only
      split
      · show (if x = u then _ else _) = _
        rw [if_neg fun e => this e.symm]
        exact ih
      · exact ih
theorem fold_ge {α : Nat → Bool} (ps : PL) (w : Nat → Nat) (x : Nat) : w x ≤ foldG α w ps x := by
  induction ps with
  | nil => exact Nat.le_refl _
  | cons p ps ih =>
    obtain ⟨c, a⟩ := p
    show _ ≤ stepG α (c, a) (foldG α w ps) x
    unfold stepG
    cases a with
    | none => exact ih
    | some u =>
      simp only
      split
      · show _ ≤ (if x = u then _ else _)
        split
        · rename_i q; subst q; omega
        · exact ih
      · exact ih
/-- no part is too great just where no fold's value is -/
theorem parts_le (α : Nat → Bool) (B : Nat) (g : Grow rs r ps) : ∀ w0 : Nat → Nat, (∀ k ∈ ps.map (·.1), partW α ps w0 k ≤ B) ↔ (∀ x ∈ ps.map (·.1), foldG α w0 ps x ≤ B) := by
  induction g with
  | root =>
    intro w0
    have e : cnb [] r r = true := cnb_iff.mpr (Cn.refl _ _)
    simp [partW, keptOf, foldG, stepG, e]
  | @add ps v u g hu ha hv ih =>
    intro w0
    have hR : ∀ e ∈ keptOf α ps, e.1 ≠ v ∧ e.2 ≠ v := by
      intro e he
      obtain ⟨v', u', h1, _, rfl⟩ := mem_keptOf.mp he
      have hv' : v' ∈ ps.map (·.1) := List.mem_map_of_mem (f := (·.1)) h1
      have hu' := (g.up_mem _ _ h1).1
      exact rod_ends (R := fun y => y ≠ v) (fun q => hv (q ▸ hu')) (fun q => hv (q ▸ hv'))
    have huv : u ≠ v := fun q => hv (q ▸ hu)
    have hke : keptOf α (ps ++ [(v, some u)]) = keptOf α ps ++ (if α v = true then [rodOf u v] else []) := by
      unfold keptOf
      rw [List.filterMap_append]
      cases h : α v <;> simp [h]
    have hmap : (ps ++ [(v, some u)]).map (·.1) = ps.map (·.1) ++ [v] := by simp
    have hfold : ∀ x, foldG α w0 (ps ++ [(v, some u)]) x = foldG α (stepG α (v, some u) w0) ps x := by
      intro x; unfold foldG; rw [List.foldr_append]; rfl
    have hpw : ∀ k, partW α (ps ++ [(v, some u)]) w0 k = sm ((ps.map (·.1)).filter fun x => cnb (keptOf α (ps ++ [(v, some u)])) x k) w0 + (if cnb (keptOf α (ps ++ [(v, some u)])) v k = true then w0 v else 0) := by
      intro k
      unfold partW
      rw [hmap, List.filter_append, sx_append]
      congr 1
      rw [List.filter_cons]
      split <;> simp
    have hne : ∀ x ∈ ps.map (·.1), x ≠ v := fun x hx q => hv (q ▸ hx)
    have hfv : ∀ w, foldG α w ps v = w v := fun w => fold_other ps w fun c u' hc q => hv (q ▸ (g.up_mem _ _ hc).1)
    rw [hmap]
    cases hα : α v with
    | false =>
      rw [hα] at hke
      simp at hke
      have hst : stepG α (v, some u) w0 = w0 := by simp [stepG, hα]
      rw [hst] at hfold
      have p1 : ∀ k ∈ ps.map (·.1), partW α (ps ++ [(v, some u)]) w0 k = partW α ps w0 k := by
        intro k hk
        rw [hpw, hke]
        have : ¬ cnb (keptOf α ps) v k = true := fun c => hne k hk (cn_lone hR (cnb_iff.mp c))
        rw [if_neg this]; rfl
      have p2 : partW α (ps ++ [(v, some u)]) w0 v = w0 v := by
        rw [hpw, hke]
        have e1 : (ps.map (·.1)).filter (fun x => cnb (keptOf α ps) x v) = [] := by
          rw [List.filter_eq_nil_iff]
          intro x hx c
          exact hne x hx (cn_lone hR (cnb_iff.mp c).symm)
        rw [e1, if_pos (cnb_iff.mpr (Cn.refl _ _))]; simp
      have f2 : foldG α w0 (ps ++ [(v, some u)]) v = w0 v := by rw [hfold, hfv]
      constructor
      · intro hl x hx
        rcases List.mem_append.mp hx with hx | hx
        · rw [hfold]
          exact (ih w0).mp (fun k hk => by rw [← p1 k hk]; exact hl k (List.mem_append_left _ hk)) x hx
        · simp at hx; subst hx
          rw [f2, ← p2]; exact hl x (by simp)
      · intro hl x hx
        rcases List.mem_append.mp hx with hx | hx
        · rw [p1 x hx]
          exact (ih w0).mpr (fun k hk => by rw [← hfold]; exact hl k (List.mem_append_left _ hk)) x hx
        · simp at hx; subst hx
          rw [p2, ← f2]; exact hl x (by simp)
    | true =>
      rw [hα] at hke
      simp at hke
      obtain ⟨w1, hw1⟩ : ∃ w1, w1 = stepG α (v, some u) w0 := ⟨_, rfl⟩
      have hw : ∀ y, w1 y = if y = u then w0 u + w0 v else w0 y := by intro y; rw [hw1]; simp [stepG, hα]
      rw [← hw1] at hfold
      have p1 : ∀ k ∈ ps.map (·.1), partW α (ps ++ [(v, some u)]) w0 k = partW α ps w1 k := by
        intro k hk
        rw [hpw, hke]
        have e1 : (ps.map (·.1)).filter (fun x => cnb (keptOf α ps ++ [rodOf u v]) x k) = (ps.map (·.1)).filter fun x => cnb (keptOf α ps) x k :=
          List.filter_congr fun x hx => cnb_congr (cn_pend hR huv (hne x hx) (hne k hk))
        have e2 : cnb (keptOf α ps ++ [rodOf u v]) v k = cnb (keptOf α ps) u k := cnb_congr (cn_pendv hR huv (hne k hk))
        rw [e1, e2]
        unfold partW
        by_cases c : cnb (keptOf α ps) u k = true
        · rw [if_pos c]
          refine (sx_update (u := u) (d := w0 v) ((g.nodup).filter _) (List.mem_filter.mpr ⟨hu, c⟩) (fun y _ hy => by rw [hw, if_neg hy]) (by rw [hw, if_pos rfl])).symm
        · rw [if_neg c, Nat.add_zero]
          refine sx_congr fun x hx => ?_
          rw [hw, if_neg]
          intro q
          subst q
          exact c (List.mem_filter.mp hx).2
      have hcu : Cn (keptOf α ps ++ [rodOf u v]) u v := rod_cn (by simp)
      have p2 : partW α (ps ++ [(v, some u)]) w0 v = partW α (ps ++ [(v, some u)]) w0 u := by
        unfold partW
        congr 1
        refine List.filter_congr fun x _ => cnb_congr ?_
        rw [hke]
        exact ⟨fun c => c.trans hcu.symm, fun c => c.trans hcu⟩
      have f2 : foldG α w0 (ps ++ [(v, some u)]) v ≤ foldG α w0 (ps ++ [(v, some u)]) u := by
        rw [hfold, hfold, hfv]
        refine Nat.le_trans ?_ (fold_ge ps w1 u)
        rw [hw, hw, if_pos rfl]
        split <;> omega
      constructor
      · intro hl x hx
        have hps : ∀ x ∈ ps.map (·.1), foldG α w0 (ps ++ [(v, some u)]) x ≤ B := by
          intro x hx
          rw [hfold]
          exact (ih w1).mp (fun k hk => by rw [← p1 k hk]; exact hl k (List.mem_append_left _ hk)) x hx
        rcases List.mem_append.mp hx with hx | hx
        · exact hps x hx
        · simp at hx; subst hx
          exact Nat.le_trans f2 (hps u hu)
      · intro hl x hx
        have hps : ∀ x ∈ ps.map (·.1), partW α (ps ++ [(v, some u)]) w0 x ≤ B := by
          intro x hx
          rw [p1 x hx]
          exact (ih w1).mpr (fun k hk => by rw [← hfold]; exact hl k (List.mem_append_left _ hk)) x hx
        rcases List.mem_append.mp hx with hx | hx
        · exact hps x hx
        · simp at hx; subst hx
          rw [p2]; exact hps u hu
end
end Hg
end

section
set_option autoImplicit false
set_option maxHeartbeats 1000000
/-! Cut2: the heaviest branches cut off are the fewest. Plain mathematics. -/
namespace Hg
theorem sublist_sum : ∀ (xs ys : List Nat), xs.Pairwise (fun a b => a ≤ b) → ys.Sublist xs → (xs.take ys.length).sum ≤ ys.sum
  | [], ys, _, h => by rw [List.sublist_nil.mp h]; exact Nat.le_refl _
  | x :: xs, [], _, _ => by simp
  | x :: xs, y :: ys, hp, h => by
    obtain ⟨h1, h2⟩ := List.pairwise_cons.mp hp
    have hsub : ys.Sublist xs := by
      cases h with
      | cons _ h => exact (List.sublist_cons_self y ys).trans h
      | cons_cons _ h => exact h
    have hxy : x ≤ y := by
      cases h with
      | cons _ h => exact h1 y (h.subset (List.mem_cons_self ..))
      | cons_cons _ h => exact Nat.le_refl _
    have ih := sublist_sum xs ys h2 hsub
    simp
    omega
theorem take_sum_mono (xs : List Nat) : ∀ {i j : Nat}, i ≤ j → (xs.take i).sum ≤ (xs.take j).sum := by
  induction xs with
  | nil => intro i j _; simp
  | cons x xs ih =>
    intro i j h
    cases i with
    | zero => simp
    | succ i =>
      cases j with
      | zero => omega
      | succ j => have := ih (i := i) (j := j) (by omega); simp; omega
def ind (B : Nat → Bool) (c : Nat) : Nat := if B c = true then 1 else 0
def unless_ (B : Nat → Bool) (W : Nat → Nat) (c : Nat) : Nat := if B c = true then 0 else W c
theorem sx_sum (xs : List Nat) (F : Nat → Nat) : sm xs F = (xs.map F).sum := rfl
/-- some of a row of pairs, the lightest kept -/
theorem greedy_at {K : List Nat} {W : Nat → Nat} {s : List (Nat × Nat)} {m room : Nat} {G : Nat → Bool} (hs : s = sortR (K.map fun c => (W c, c))) (hn : K.Nodup) (hm : m ≤ s.length)
    (hr : m = s.length ∨ room < 1 + ((s.map (·.1)).take (m + 1)).sum) (hG : ∀ c ∈ K, G c = true ↔ c ∈ (s.drop m).map (·.2)) :
    (∀ B : Nat → Bool, 1 + sm K (unless_ B W) ≤ room → sm K (ind G) ≤ sm K (ind B) ∧ (sm K (ind B) = sm K (ind G) → sm K (unless_ G W) ≤ sm K (unless_ B W))) ∧ sm K (unless_ G W) = ((s.map (·.1)).take m).sum := by
  have hp : s.Perm (K.map fun c => (W c, c)) := by rw [hs]; exact sortR_perm _
  have hsl : s.length = K.length := by simpa using hp.length_eq
  have hW : ∀ p ∈ s, p.1 = W p.2 ∧ p.2 ∈ K := by
    intro p hp'
    obtain ⟨c, hc, rfl⟩ := List.mem_map.mp (hp.mem_iff.mp hp')
    exact ⟨rfl, hc⟩
  have hs2 : (s.map (·.2)).Perm K := by
    have := hp.map (·.2)
    rw [List.map_map] at this
    have e : ((fun x : Nat × Nat => x.2) ∘ fun c => (W c, c)) = id := rfl
    rwa [e, List.map_id] at this
  have hnd2 : (s.map (·.2)).Nodup := hs2.nodup_iff.mpr hn
  have hpw : (s.map (·.1)).Pairwise fun a b => a ≤ b := by
    rw [hs]
    refine List.pairwise_map.mpr ((sortR_pw _).imp fun {a b} h => ?_)
    simp only [leN, decide_eq_true_eq] at h
    omega
  have tos : ∀ F : Nat → Nat, sm K F = sm s fun p => F p.2 := by
    intro F
    rw [← sx_perm hs2, sx_map]
  have kept : ∀ B : Nat → Bool, sm K (unless_ B W) = ((s.filter fun p => !B p.2).map (·.1)).sum ∧ (s.filter fun p => !B p.2).length + sm K (ind B) = s.length := by
    intro B
    rw [tos, tos]
    have : ∀ l : List (Nat × Nat), (∀ p ∈ l, p.1 = W p.2) → (sm l fun p => unless_ B W p.2) = ((l.filter fun p => !B p.2).map (·.1)).sum ∧ (l.filter fun p => !B p.2).length + (sm l fun p => ind B p.2) = l.length := by
      intro l
      induction l with
      | nil => intro _; exact ⟨rfl, rfl⟩
      | cons p l ih =>
        intro h
        obtain ⟨i1, i2⟩ := ih fun q hq => h q (List.mem_cons_of_mem _ hq)
        have h0 := h p (List.mem_cons_self ..)
        rw [List.filter_cons]
        cases hB : B p.2 with
        | true => simp [unless_, ind, hB]; simp [unless_] at i1; exact ⟨i1, by simp [ind] at i2; omega⟩
        | false => simp [unless_, ind, hB]; simp [unless_] at i1; exact ⟨by omega, by simp [ind] at i2; omega⟩
    exact this s fun p hp' => (hW p hp').1
  have hGs : (s.filter fun p => !G p.2) = s.take m := by
    have e : s = s.take m ++ s.drop m := (List.take_append_drop m s).symm
    have hdis : ∀ p ∈ s.take m, p.2 ∉ (s.drop m).map (·.2) := by
      intro p hp' hq
      have := hnd2
      rw [e, List.map_append] at this
      exact (List.nodup_append.mp this).2.2 p.2 (List.mem_map_of_mem (f := (·.2)) hp') p.2 hq rfl
    have h1 : (s.take m).filter (fun p => !G p.2) = s.take m := List.filter_eq_self.mpr fun p hp' => by
      have := hdis p hp'
      have hK := (hW p (List.mem_of_mem_take hp')).2
      have h3 := mt (hG p.2 hK).mp this
      simpa using h3
    have h2 : (s.drop m).filter (fun p => !G p.2) = [] := by
      rw [List.filter_eq_nil_iff]
      intro p hp'
      have hK := (hW p (List.mem_of_mem_drop hp')).2
      have := (hG p.2 hK).mpr (List.mem_map_of_mem (f := (·.2)) hp')
      simp [this]
    have h3 : s.filter (fun p => !G p.2) = (s.take m ++ s.drop m).filter fun p => !G p.2 := by rw [← e]
    rw [h3, List.filter_append, h1, h2, List.append_nil]
  obtain ⟨g1, g2⟩ := kept G
  rw [hGs] at g1 g2
  rw [List.length_take, Nat.min_eq_left hm] at g2
  have g3 : sm K (unless_ G W) = ((s.map (·.1)).take m).sum := by rw [g1, List.map_take]
  refine ⟨fun B hB => ?_, g3⟩
  obtain ⟨b1, b2⟩ := kept B
  have hsubl : ((s.filter fun p => !B p.2).map (·.1)).Sublist (s.map (·.1)) := (List.filter_sublist).map _
  have hle := sublist_sum _ _ hpw hsubl
  rw [List.length_map] at hle
  have hlm : (s.filter fun p => !B p.2).length ≤ m := by
    rcases hr with hr | hr
    · rw [hr]; exact List.length_filter_le _ _
    · refine Classical.byContradiction fun q => ?_
      have := take_sum_mono (s.map (·.1)) (i := m + 1) (j := (s.filter fun p => !B p.2).length) (by omega)
      omega
  refine ⟨by omega, fun he => ?_⟩
  have : (s.filter fun p => !B p.2).length = m := by omega
  rw [g3, b1, ← this]
  exact hle
section
variable {n r : Nat} {rs : List (Nat × Nat)} {ps : PL}
theorem filter_unless (B : Nat → Bool) (W : Nat → Nat) (xs : List Nat) : sm (xs.filter fun c => !B c) W = sm xs (unless_ B W) := by
  rw [sm_filter]
  refine sx_congr fun x _ => ?_
  unfold unless_
  cases B x <;> simp
/-- as many cut off at a knot and below -/
theorem cut_best (h : Hedge n rs) (hr : r < n) (cm : Come n rs r ps) {room : Nat} {G Q : Nat → Bool}
    (hG : ∀ v o, (v, o) ∈ ps → ∀ B : Nat → Bool, 1 + sm (kidsIn ps.reverse v) (unless_ B (foldG (fun c => !G c) (fun _ => 1) ps)) ≤ room →
      sm (kidsIn ps.reverse v) (ind G) ≤ sm (kidsIn ps.reverse v) (ind B) ∧ (sm (kidsIn ps.reverse v) (ind B) = sm (kidsIn ps.reverse v) (ind G) →
        sm (kidsIn ps.reverse v) (unless_ G (foldG (fun c => !G c) (fun _ => 1) ps)) ≤ sm (kidsIn ps.reverse v) (unless_ B (foldG (fun c => !G c) (fun _ => 1) ps))))
    (hQ : ∀ v ∈ ps.map (·.1), foldG (fun c => !Q c) (fun _ => 1) ps v ≤ room) (g0 : G r = false) (q0 : Q r = false) : sm (ps.map (·.1)) (ind G) ≤ sm (ps.map (·.1)) (ind Q) := by
  have rec1 := fun (X : Nat → Bool) v => foldG_rec cm (fun c => !X c) (fun _ => 1) v
  have rec2 := fun (X : Nat → Bool) v => foldG_rec cm (fun _ => true) (ind X) v
  generalize hWG : foldG (fun c => !G c) (fun _ => 1) ps = WG at *
  have eG := rec1 G
  have eQ := rec1 Q
  rw [hWG] at eG
  generalize foldG (fun c => !Q c) (fun _ => 1) ps = WQ at *
  have cG := rec2 G
  have cQ := rec2 Q
  have toW : ∀ X : Nat → Bool, foldG (fun _ => true) (ind X) ps = ps.foldr stepW (ind X) := fun X => rfl
  have totG := (cm.grow.weight h (ind G)).2
  have totQ := (cm.grow.weight h (ind Q)).2
  rw [← toW] at totG totQ
  generalize foldG (fun _ => true) (ind G) ps = CG at *
  generalize foldG (fun _ => true) (ind Q) ps = CQ at *
  simp only [filter_yes] at cG cQ
  have key : ∀ pre post, ps.reverse = pre ++ post → ∀ v o, (v, o) ∈ pre → sm (kidsIn ps.reverse v) CG < sm (kidsIn ps.reverse v) CQ ∨ (sm (kidsIn ps.reverse v) CG = sm (kidsIn ps.reverse v) CQ ∧ WG v ≤ WQ v) := by
    intro pre
    refine snoc_ind (P := fun pre => ∀ post, ps.reverse = pre ++ post → ∀ v o, (v, o) ∈ pre → sm (kidsIn ps.reverse v) CG < sm (kidsIn ps.reverse v) CQ ∨ (sm (kidsIn ps.reverse v) CG = sm (kidsIn ps.reverse v) CQ ∧ WG v ≤ WQ v)) ?_ ?_ pre
    · intro _ _ v o hm; cases hm
    · rintro pre ⟨v, o⟩ ih post e v' o' hm'
      rw [List.append_assoc] at e
      rcases List.mem_append.mp hm' with q | q
      · exact ih _ e v' o' q
      · simp at q
        obtain ⟨rfl, rfl⟩ := q
        have e : ps.reverse = pre ++ (v', o') :: post := e
        have hvm : (v', o') ∈ ps := by rw [← List.mem_reverse, e]; simp
        -- the branches stand in pre
        have hkids : ∀ c ∈ kidsIn ps.reverse v', (c, some v') ∈ pre := by
          intro c hc
          have hcm := mem_kidsIn.mp hc
          rw [e] at hcm
          rcases List.mem_append.mp hcm with z | z
          · exact z
          · exfalso
            rcases List.mem_cons.mp z with z | z
            · simp at z
              have := (cm.grow.up_mem c v' (by rw [← List.mem_reverse, e]; simp [z])).2
              rw [z.1] at this
              exact (h.adj_lt this).2.2 rfl
            · obtain ⟨P, Q', hPQ⟩ := List.append_of_mem z
              have e2 : ps.reverse = (pre ++ (v', o') :: P) ++ (c, some v') :: Q' := by rw [e, hPQ]; simp
              exact (cm.ahead e2).1 (by simp)
        have ihk : ∀ c ∈ kidsIn ps.reverse v', sm (kidsIn ps.reverse c) CG < sm (kidsIn ps.reverse c) CQ ∨ (sm (kidsIn ps.reverse c) CG = sm (kidsIn ps.reverse c) CQ ∧ WG c ≤ WQ c) := fun c hc => ih _ e c _ (hkids c hc)
        have hg := hG v' o' hvm
        have hfe := hQ v' (List.mem_map_of_mem (f := (·.1)) hvm)
        have egv := eG v'
        have eqv := eQ v'
        rw [filter_unless] at egv eqv
        generalize kidsIn ps.reverse v' = K at *
        obtain ⟨b, hb⟩ : ∃ b : Nat → Bool, b = fun c => Q c || decide (sm (kidsIn ps.reverse c) CG < sm (kidsIn ps.reverse c) CQ) := ⟨_, rfl⟩
        have hb1 : ∀ c, b c = true ↔ (Q c = true ∨ sm (kidsIn ps.reverse c) CG < sm (kidsIn ps.reverse c) CQ) := by intro c; rw [hb]; simp
        have h1 : sm K (unless_ b WG) ≤ sm K (unless_ Q WQ) := sm_le fun c hc => by
          unfold unless_
          by_cases q : Q c = true
          · rw [if_pos ((hb1 c).mpr (.inl q))]; exact Nat.zero_le _
          · rw [if_neg q]
            by_cases q2 : b c = true
            · rw [if_pos q2]; exact Nat.zero_le _
            · rw [if_neg q2]
              rcases ihk c hc with z | z
              · exact absurd ((hb1 c).mpr (.inr z)) q2
              · exact z.2
        have h2 : sm K (fun c => sm (kidsIn ps.reverse c) CG + ind b c) ≤ sm K CQ := sm_le fun c hc => by
          rw [cQ c]
          unfold ind
          rcases ihk c hc with z | z
          · split <;> split <;> omega
          · have : b c = true ↔ Q c = true := by
              rw [hb1]
              constructor
              · rintro (y | y)
                · exact y
                · omega
              · exact .inl
            by_cases q : Q c = true
            · rw [if_pos q, if_pos (this.mpr q)]; omega
            · rw [if_neg q, if_neg (mt this.mp q)]; omega
        have h3 : sm K CG = sm K (fun c => sm (kidsIn ps.reverse c) CG + ind G c) := sx_congr fun c _ => by rw [cG c]; omega
        rw [sx_add] at h2 h3
        obtain ⟨g1, g2⟩ := hg b (by omega)
        by_cases q : sm K CG < sm K CQ
        · exact .inl q
        · refine .inr ⟨by omega, ?_⟩
          have := g2 (by omega)
          omega
  obtain ⟨t, ht⟩ := cm.grow.head
  have hroot : (r, none) ∈ ps.reverse := by rw [List.mem_reverse, ht]; simp
  have := key ps.reverse [] (by simp) r none hroot
  have c1 := cG r
  have c2 := cQ r
  unfold ind at c1 c2
  rw [g0] at c1
  rw [q0] at c2
  simp at c1 c2
  rw [← totG, ← totQ]
  omega
end
end Hg
end

section
set_option autoImplicit false
set_option maxHeartbeats 1000000
/-! Pcut: cut. -/
namespace Hg
theorem idxOf_map_inj {α β : Type} [BEq α] [LawfulBEq α] [BEq β] [LawfulBEq β] (f : α → β) (hf : ∀ x y, f x = f y → x = y) (e : α) : ∀ xs : List α, (xs.map f).idxOf (f e) = xs.idxOf e
  | [] => rfl
  | x :: xs => by
    have ih := idxOf_map_inj f hf e xs
    have hb : (f x == f e) = (x == e) := by
      rw [Bool.eq_iff_iff, beq_iff_eq, beq_iff_eq]
      exact ⟨hf _ _, fun q => by rw [q]⟩
    rw [List.map_cons, List.idxOf_cons, List.idxOf_cons, ih, hb]
theorem idxV_rod {rs : List (Nat × Nat)} {e : Nat × Nat} (he : e ∈ rs) (hl : rs.length ≤ 1000) : idxV (.lst (rs.map rodD)) (rodD e) = some (nD (rs.idxOf e), .frz) := by
  have e1 : pairsD (rs.map rodD) = some (rs.map fun p => ((p.1 : Int), (p.2 : Int))) := by
    have := pairsD_map (rs.map fun p => ((p.1 : Int), (p.2 : Int)))
    rw [List.map_map] at this
    exact this
  have e2 : ((e.1 : Int), (e.2 : Int)) ∈ rs.map fun p => ((p.1 : Int), (p.2 : Int)) := List.mem_map.mpr ⟨e, he, rfl⟩
  have e3 := idxOf_map_inj (fun p : Nat × Nat => ((p.1 : Int), (p.2 : Int))) (fun x y q => by
    simp at q
    exact Prod.ext (by omega) (by omega)) e rs
  have e4 : asPair (rodD e) = some ((e.1 : Int), (e.2 : Int)) := rfl
  have e5 : asInt (rodD e) = none := rfl
  simp only [idxV, e5, e1, e4, List.length_map]
  rw [if_pos ⟨hl, e2⟩]
  have e3' : (rs.map fun p => ((p.1 : Int), (p.2 : Int))).idxOf ((e.1 : Int), (e.2 : Int)) = rs.idxOf e := e3
  rw [e3']
  cases intsD (rs.map rodD) <;> rfl
noncomputable def plc (rs : List (Nat × Nat)) (ps : PL) (c : Nat) : Nat := rs.idxOf (rodOf ((upOf ps c).getD 0) c)
structure QI (room : Nat) (pre : PL) (w : Nat → Nat) (br : Nat → List (Nat × Nat)) (X : List Nat) : Prop where
  br : ∀ v, br v = (kidsIn pre v).map fun c => (w c, c)
  x : ∀ c ∈ X, ∃ u, (c, some u) ∈ pre ∧ u ∈ pre.map (·.1)
  nd : X.Nodup
  at_ : ∀ v o, (v, o) ∈ pre → w v = 1 + sm (kidsIn pre v) (unless_ (fun c => decide (c ∈ X)) w) ∧ w v ≤ room ∧
    ∀ B : Nat → Bool, 1 + sm (kidsIn pre v) (unless_ B w) ≤ room → sm (kidsIn pre v) (ind fun c => decide (c ∈ X)) ≤ sm (kidsIn pre v) (ind B) ∧ (sm (kidsIn pre v) (ind B) = sm (kidsIn pre v) (ind fun c => decide (c ∈ X)) → sm (kidsIn pre v) (unless_ (fun c => decide (c ∈ X)) w) ≤ sm (kidsIn pre v) (unless_ B w))
theorem kidsIn_nodup {pre : PL} (h : (pre.map (·.1)).Nodup) (v : Nat) : (kidsIn pre v).Nodup := by
  induction pre with
  | nil => exact List.nodup_nil
  | cons q qs ih =>
    rw [List.map_cons, List.nodup_cons] at h
    unfold kidsIn
    rw [List.filterMap_cons]
    split
    · exact ih h.2
    · rename_i b hb
      split at hb
      · cases hb
        refine List.nodup_cons.mpr ⟨fun hm => h.1 ?_, ih h.2⟩
        exact List.mem_map_of_mem (f := (·.1)) (mem_kidsIn.mp hm)
      · cases hb
/-- one knot more -/
theorem QI.step {n r room : Nat} {rs : List (Nat × Nat)} {ps pre post : PL} {v : Nat} {o : Option Nat} (h : Hedge n rs) (cm : Come n rs r ps) (e : ps.reverse = pre ++ (v, o) :: post) {w : Nat → Nat} {br : Nat → List (Nat × Nat)} {X : List Nat} (q : QI room pre w br X)
    {m : Nat} (hm : m ≤ (sortR (br v)).length) (hw : 1 + (((sortR (br v)).map (·.1)).take m).sum ≤ room) (hr : m = (sortR (br v)).length ∨ room < 1 + (((sortR (br v)).map (·.1)).take (m + 1)).sum) :
    QI room (pre ++ [(v, o)]) (fun x => if x = v then 1 + (((sortR (br v)).map (·.1)).take m).sum else w x)
      (fun x => if o = some x then br x ++ [(1 + (((sortR (br v)).map (·.1)).take m).sum, v)] else br x) (X ++ (((sortR (br v)).drop m).map (·.2)).reverse) := by
  have hfr := cm.fresh e
  have hpn : (pre.map (·.1)).Nodup := by
    have := (List.reverse_perm ps).map (·.1) |>.nodup_iff.mpr cm.grow.nodup
    rw [e, List.map_append] at this
    exact (List.nodup_append.mp this).1
  have hkv : ∀ x, ∀ c ∈ kidsIn pre x, c ≠ v := fun x c hc z => hfr (z ▸ List.mem_map_of_mem (f := (·.1)) (mem_kidsIn.mp hc))
  have hvm : (v, o) ∈ ps := by rw [← List.mem_reverse, e]; simp
  have hov : o ≠ some v := fun z => by
    subst z
    have := (cm.grow.up_mem _ _ hvm).2
    exact (h.adj_lt this).2.2 rfl
  have hks : ∀ x, (x ∈ pre.map (·.1) ∨ x = v) → kidsIn (pre ++ [(v, o)]) x = kidsIn pre x := by
    intro x hx
    rw [kidsIn_snoc, if_neg, List.append_nil]
    intro z
    rcases hx with hx | hx
    · subst z; exact (cm.ahead e).1 hx
    · subst hx; exact hov z
  have hbv := q.br v
  have hnk := kidsIn_nodup hpn v
  have hmem : ∀ c, c ∈ ((sortR (br v)).drop m).map (·.2) → c ∈ kidsIn pre v := by
    intro c hc
    obtain ⟨p, hp, rfl⟩ := List.mem_map.mp hc
    have := (sortR_perm _).mem_iff.mp (List.mem_of_mem_drop hp)
    rw [hbv] at this
    obtain ⟨c', hc', rfl⟩ := List.mem_map.mp this
    exact hc'
  have hXk : ∀ c ∈ kidsIn pre v, c ∉ X := by
    intro c hc hX
    obtain ⟨u, h1, h2⟩ := q.x c hX
    have := nodup_fst_eq hpn h1 (mem_kidsIn.mp hc)
    cases this
    exact hfr h2
  have hsn : (((sortR (br v)).map (·.2))).Nodup := by
    have h1 := (sortR_perm (br v)).map (·.2)
    rw [h1.nodup_iff, hbv, List.map_map]
    have e1 : ((fun x : Nat × Nat => x.2) ∘ fun c => (w c, c)) = id := rfl
    rw [e1, List.map_id]
    exact hnk
  have hdn : (((sortR (br v)).drop m).map (·.2)).Nodup := by
    rw [List.map_drop]
    exact (List.drop_sublist _ _).nodup hsn
  have wk : ∀ x, ∀ c ∈ kidsIn pre x, (fun x => if x = v then 1 + (((sortR (br v)).map (·.1)).take m).sum else w x) c = w c := fun x c hc => if_neg (hkv x c hc)
  have hmX : ∀ c ∈ kidsIn pre v, (decide (c ∈ X ++ (((sortR (br v)).drop m).map (·.2)).reverse) = true ↔ c ∈ ((sortR (br v)).drop m).map (·.2)) := by
    intro c hc
    rw [decide_eq_true_eq, List.mem_append, List.mem_reverse]
    exact ⟨fun z => z.elim (fun y => absurd y (hXk c hc)) id, .inr⟩
  have hga := greedy_at (K := kidsIn pre v) (W := w) (s := sortR (br v)) (m := m) (room := room) (G := fun c => decide (c ∈ X ++ (((sortR (br v)).drop m).map (·.2)).reverse)) (by rw [hbv]) hnk hm hr hmX
  refine ⟨fun x => ?_, fun c hc => ?_, ?_, fun x o' hx => ?_⟩
  · rw [kidsIn_snoc, List.map_append]
    have h1 : (kidsIn pre x).map (fun c => ((fun x => if x = v then 1 + (((sortR (br v)).map (·.1)).take m).sum else w x) c, c)) = br x := by
      rw [q.br x]
      exact List.map_congr_left fun c hc => by rw [wk x c hc]
    rw [h1]
    by_cases z : o = some x
    · simp [z]
    · simp [z]
  · rcases List.mem_append.mp hc with z | z
    · obtain ⟨u, h1, h2⟩ := q.x c z
      exact ⟨u, List.mem_append_left _ h1, by rw [List.map_append]; exact List.mem_append_left _ h2⟩
    · have := hmem c (List.mem_reverse.mp z)
      exact ⟨v, List.mem_append_left _ (mem_kidsIn.mp this), by simp⟩
  · refine List.nodup_append.mpr ⟨q.nd, (List.reverse_perm _).nodup_iff.mpr hdn, fun a ha b hb z => ?_⟩
    subst z
    exact hXk a (hmem a (List.mem_reverse.mp hb)) ha
  · have unl : ∀ (x : Nat) (B : Nat → Bool), sm (kidsIn pre x) (unless_ B fun x => if x = v then 1 + (((sortR (br v)).map (·.1)).take m).sum else w x) = sm (kidsIn pre x) (unless_ B w) := by
      intro x B
      refine sx_congr fun c hc => ?_
      simp only [unless_, hkv x c hc, if_false]
    rcases List.mem_append.mp hx with hx | hx
    · have hxp : x ∈ pre.map (·.1) := List.mem_map_of_mem (f := (·.1)) hx
      rw [hks x (.inl hxp)]
      obtain ⟨a1, a2, a3⟩ := q.at_ x o' hx
      have hxv : x ≠ v := fun z => hfr (z ▸ hxp)
      have hX : ∀ c ∈ kidsIn pre x, (decide (c ∈ X ++ (((sortR (br v)).drop m).map (·.2)).reverse)) = decide (c ∈ X) := by
        intro c hc
        refine decide_eq_decide.mpr ?_
        rw [List.mem_append, List.mem_reverse]
        refine ⟨fun z => z.elim id fun y => ?_, .inl⟩
        have h1 := mem_kidsIn.mp (hmem c y)
        have h2 := mem_kidsIn.mp hc
        have := nodup_fst_eq hpn h1 h2
        simp at this
        exact absurd this.symm hxv
      have i1 : ∀ W : Nat → Nat, sm (kidsIn pre x) (unless_ (fun c => decide (c ∈ X ++ (((sortR (br v)).drop m).map (·.2)).reverse)) W) = sm (kidsIn pre x) (unless_ (fun c => decide (c ∈ X)) W) := fun W => sx_congr fun c hc => by simp only [unless_, hX c hc]
      have i2 : sm (kidsIn pre x) (ind fun c => decide (c ∈ X ++ (((sortR (br v)).drop m).map (·.2)).reverse)) = sm (kidsIn pre x) (ind fun c => decide (c ∈ X)) := sx_congr fun c hc => by simp only [ind, hX c hc]
      simp only [i1, i2, unl, if_neg hxv]
      exact ⟨a1, a2, a3⟩
    · simp at hx
      obtain ⟨rfl, rfl⟩ := hx
      rw [hks x (.inr rfl)]
      simp only [unl, if_true]
      exact ⟨by rw [hga.2], hw, hga.1⟩
end Hg
end

section
set_option autoImplicit false
set_option maxHeartbeats 1000000
/-! Pcut2: what cut tells. -/
namespace Hg
def CutQ (rs : List (Nat × Nat)) (ps : PL) (room : Nat) (d : D) : Prop := ∃ w br X, QI room ps.reverse w br X ∧ d = nsD (sortN (X.map (plc rs ps)))
theorem sumV_nD (xs : List Nat) : sumV (.lst (xs.map nD)) = some (nD xs.sum, .frz) := by
  show frI ((intsD (xs.map nD)).map fun ns => ns.sum) = _
  rw [intsD_nD]
  have e : ∀ ys : List Nat, (ys.map fun k : Nat => (k : Int)).sum = ((ys.sum : Nat) : Int) := by
    intro ys
    induction ys with
    | nil => rfl
    | cons y ys ih => simp [ih]
  show some (D.int (xs.map fun k : Nat => (k : Int)).sum, Kd.frz) = _
  rw [e]
  rfl
theorem QI.len {n r room : Nat} {rs : List (Nat × Nat)} {ps pre post : PL} (h : Hedge n rs) (hr : r < n) (cm : Come n rs r ps) (e : ps.reverse = pre ++ post) {w : Nat → Nat} {br : Nat → List (Nat × Nat)} {X : List Nat} (q : QI room pre w br X) : X.length ≤ n ∧ ∀ v, (br v).length ≤ n := by
  have hsub : ∀ p ∈ pre, p ∈ ps := fun p hp => by rw [← List.mem_reverse, e]; exact List.mem_append_left _ hp
  have hlt := cm.grow.lt h.forest hr
  have hpn : (pre.map (·.1)).Nodup := by
    have := (List.reverse_perm ps).map (·.1) |>.nodup_iff.mpr cm.grow.nodup
    rw [e, List.map_append] at this
    exact (List.nodup_append.mp this).1
  refine ⟨nodup_len q.nd fun c hc => ?_, fun v => ?_⟩
  · obtain ⟨u, h1, _⟩ := q.x c hc
    exact hlt c (List.mem_map_of_mem (f := (·.1)) (hsub _ h1))
  · rw [q.br v, List.length_map]
    refine nodup_len (kidsIn_nodup hpn v) fun c hc => ?_
    exact hlt c (List.mem_map_of_mem (f := (·.1)) (hsub _ (mem_kidsIn.mp hc)))
theorem sp_cut {n : Nat} {rs : List (Nat × Nat)} (h : Hedge n rs) (hn : n ≤ 1000) {room : Nat} (hroom : 1 ≤ room) :
    ∃ ps, Come n rs 0 ps ∧ ∃ d, s_cut [hD n rs, nD room] = some d ∧ CutQ rs ps room d := by
  have hlen := h.len
  obtain ⟨ps, h1, cm⟩ := sp_parents h.forest hn (by omega) h.pos
  have h1 : s_parents [hD n rs, .int 0] = some (psD ps) := h1
  have hlt := cm.grow.lt h.forest h.pos
  refine ⟨ps, cm, ?_⟩
  refine runF_R rfl ?_
  simp only [d_cut, startEnv]
  simp
  rw [ev_compM (List.range n) nD (fun _ => nD 1) (own := false)]
  · simp
    rw [ev_compD (List.range n) nD (fun _ => D.lst []) (own := false)]
    · simp
      refine for_R (R := fun o => ∃ d, o = some (.rt d) ∧ CutQ rs ps room d) ps.reverse parD
        (fun b : (Nat → Nat) × (Nat → List (Nat × Nat)) × List Nat => [.val (hD n rs) .frz, .val (nD room) .frz, .val (.lst ((List.range n).map fun v => nD (b.1 v))) .own1, .un, .val (.lst ((List.range n).map fun v => .lst ((b.2.1 v).map rodD))) .own2, .val (.lst ((b.2.2.map (plc rs ps)).map nD)) .own1, .un, .un, .un, .un, .un])
        (fun pre b => QI room pre b.1 b.2.1 b.2.2) (fun _ => 1, fun _ => [], []) ?_ ?_ ?_ ?_ ?_
      · simp [h1, psD]
      · simp
      · exact ⟨fun v => by simp [kidsIn], by simp, by simp, fun v o hm => by cases hm⟩
      · rintro pre ⟨v, o⟩ post ⟨w, br, X⟩ e q
        simp only at q
        have hvm : (v, o) ∈ ps := by rw [← List.mem_reverse, e]; simp
        have hv : v < n := hlt v (List.mem_map_of_mem (f := (·.1)) hvm)
        obtain ⟨hXl, hbl⟩ := q.len h h.pos cm e
        have hbv := hbl v
        have hsl : (sortR (br v)).length = (br v).length := (sortR_perm _).length_eq
        have hchild : ∀ p ∈ sortR (br v), (p.2, some v) ∈ ps := by
          intro p hp
          have := (sortR_perm _).mem_iff.mp hp
          rw [q.br v] at this
          obtain ⟨c, hc, rfl⟩ := List.mem_map.mp this
          have := mem_kidsIn.mp hc
          rw [← List.mem_reverse, e]; exact List.mem_append_left _ this
        have hstep := fun m => q.step (m := m) h cm e
        obtain ⟨s, hs⟩ : ∃ s, s = sortR (br v) := ⟨_, rfl⟩
        rw [← hs] at hsl hchild hstep
        have hL1 : (br v).length < L := by rw [L_eq]; omega
        have hsL : s.length < L := by rw [hsl]; exact hL1
        simp [parD, hv, sortedV_R hL1, ← hs]
        rw [ev_compM s rodD (fun p => nD p.1) (own := true)]
        · have es : (s.map fun p => nD p.1) = (s.map (·.1)).map nD := by simp
          simp [es, sumV_nD, -List.map_map]
          have e0 : addD (.int 1) (nD (s.map (·.1)).sum) = some (nD (1 + (s.map (·.1)).sum)) := by simp [nD]
          simp [e0, ixN_nat hv, map_range_set, nw, kdOf, nD]
          have hT0 : (((s.map (·.1)).take 0).sum) = 0 := rfl
          have htk : ∀ k, k < s.length → ∃ p, s[k]? = some p ∧ p ∈ s ∧ s.take (k + 1) = s.take k ++ [p] ∧ s.drop k = p :: s.drop (k + 1) ∧ ((s.map (·.1)).take (k + 1)).sum = ((s.map (·.1)).take k).sum + p.1 := by
            intro k hk
            refine ⟨s[k], List.getElem?_eq_getElem hk, List.getElem_mem hk, ?_, List.drop_eq_getElem_cons hk, ?_⟩
            · rw [List.take_succ, List.getElem?_eq_getElem hk]; rfl
            · rw [List.take_succ, List.getElem?_map, List.getElem?_eq_getElem hk]
              simp
          refine wh_R (R := fun O => ∃ a a_1 b, O = some (.nx [.val (hD n rs) .frz, .val (nD room) .frz, .val (.lst ((List.range n).map fun v => nD (a v))) .own1, .un, .val (.lst ((List.range n).map fun v => .lst ((a_1 v).map rodD))) .own2, .val (.lst (b.map (nD ∘ plc rs ps))) .own1, .un, .un, .un, .un, .un]) ∧ QI room (pre ++ [(v, o)]) a a_1 b)
            (fun m : Nat => [.val (hD n rs) .frz, .val (nD room) .frz, .val (.lst ((List.range n).map fun x => nD (if x = v then 1 + ((s.map (·.1)).take m).sum else w x))) .own1, .un, .val (.lst ((List.range n).map fun v => .lst ((br v).map rodD))) .own2, .val (.lst ((X ++ ((s.drop m).map (·.2)).reverse).map (nD ∘ plc rs ps))) .own1, .val (nD v) .frz, .val (oD o) .frz, .val (.lst ((s.take m).map rodD)) .own1, .un, .un])
            (fun m => m ≤ s.length ∧ (m = s.length ∨ room < 1 + ((s.map (·.1)).take (m + 1)).sum)) (fun m => 1 + ((s.map (·.1)).take m).sum ≤ room) (fun m => m) s.length ?_ ⟨Nat.le_refl _, .inl rfl⟩ (by show s.length < FU; rw [FU_eq]; rw [L_eq] at hsL; exact hsL) ?_ ?_
          · have e1 : (s.map (·.1)).take s.length = s.map (·.1) := List.take_of_length_le (by simp)
            simp [e1, nD]
            intro x _
            split <;> simp
          · rintro m ⟨m1, m2⟩
            by_cases c : 1 + ((s.map (·.1)).take m).sum ≤ room
            · refine .inr ⟨?_, c⟩
              have c' : ¬ room < 1 + ((s.map (·.1)).take m).sum := by omega
              generalize ((s.map (·.1)).take m).sum = T at *
              simp [hv]
              omega
            · cases m with
              | zero => rw [hT0] at c; omega
              | succ k =>
                obtain ⟨p, hp1, hp2, hp3, hp4, hp5⟩ := htk k (by omega)
                have c' : room < 1 + ((s.map (·.1)).take (k + 1)).sum := by omega
                have hps := hchild p hp2
                have hadj := (cm.grow.up_mem _ _ hps).2
                have hrod := h.adj_rod hadj
                have hpl : plc rs ps p.2 = rs.idxOf (rodOf v p.2) := by unfold plc; rw [upOf_mem cm.grow.nodup hps]; rfl
                have hix := idxV_rod hrod (by omega)
                refine .inl ⟨?_, k, ?_, ⟨by omega, .inr c'⟩, Nat.lt_succ_self k⟩
                · generalize ((s.map (·.1)).take (k + 1)).sum = T at *
                  simp [hv]
                  omega
                · rw [hp3, hp4, hp5]
                  have hXn : (X ++ ((s.drop (k + 1)).map (·.2)).reverse).length < L := by
                    have : ((s.drop (k + 1)).map (·.2)).length ≤ s.length := by simp
                    rw [List.length_append, List.length_reverse, L_eq]; omega
                  generalize ((s.map (·.1)).take k).sum = T at *
                  have hXn' : X.length + (s.length - (k + 1)) < L := by simpa using hXn
                  have e2 : (1 : Int) + ((T : Int) + (p.1 : Int)) - (p.1 : Int) = 1 + (T : Int) := by omega
                  simp [hv, ixN_nat hv, map_range_set, rodD]
                  simp [nD] at hix
                  simp [nD, rodD_rod, hix, hXn', hpl, ixN_nat hv, map_range_set, e2]
                  intro x _
                  split <;> rfl
          · rintro m ⟨m1, m2⟩ m3
            have q' := hstep m m1 m3 m2
            generalize 1 + ((s.map (·.1)).take m).sum = T at *
            generalize X ++ ((s.drop m).map (·.2)).reverse = X' at *
            cases o with
            | none =>
              refine ⟨_, _, _, ?_, q'⟩
              simp [oD]
            | some u =>
              have hu : u < n := hlt u (cm.grow.up_mem _ _ hvm).1
              refine ⟨_, _, _, ?_, q'⟩
              have hbu := hbl u
              have hL2 : (br u).length < L := by rw [L_eq]; omega
              simp [oD, hv, hu, ixN_nat hu, map_range_set]
              simp [hL2]
              intro a _
              by_cases z : a = u
              · subst z; simp [rodD, nD]
              · have z' : ¬ u = a := fun y => z y.symm
                simp [z, z']
        · simp
        · rintro p _
          exact ⟨_, rfl, .frz, by simp [rodD, nD], rfl⟩
        · exact hsL
      · rintro ⟨w, br, X⟩ q
        simp only at q
        have hl := (q.len h h.pos cm (post := []) (by simp)).1
        refine ⟨_, ?_, w, br, X, q, rfl⟩
        have hl2 : (X.map (plc rs ps)).length < L := by rw [List.length_map, L_eq]; omega
        have := sortedV_N hl2
        rw [List.map_map] at this
        simp [this, nsD]
    · exact evI_rng rfl hn
    · intro v hv
      exact ⟨_, rfl, by simp⟩
    · simp [L_eq]; omega
  · exact evI_rng rfl hn
  · intro v hv
    exact ⟨_, rfl, .frz, rfl, rfl⟩
  · simp [L_eq]; omega
end Hg
end

section
set_option autoImplicit false
set_option maxHeartbeats 1000000
/-! Pwt: weights. -/
namespace Hg
theorem sp_weights {n r : Nat} {rs : List (Nat × Nat)} (h : Hedge n rs) (hn : n ≤ 1000) (hr : r < n) : ∃ ps, Come n rs r ps ∧ s_weights [hD n rs, nD r] = some (nsD ((List.range n).map (ps.foldr stepW fun _ => 1))) := by
  obtain ⟨ps, h1, hc⟩ := sp_parents h.forest hn (by have := h.len; omega) hr
  refine ⟨ps, hc, ?_⟩
  unfold s_weights
  refine runF_eq rfl ?_
  simp only [d_weights, startEnv]
  simp
  have hlt := hc.grow.lt h.forest hr
  rw [ev_compM (List.range n) nD (fun _ => nD 1) (own := false)]
  · simp
    refine for_fold ps.reverse parD (fun f : Nat → Nat => [.val (hD n rs) .frz, .val (nD r) .frz, .val (.lst ((List.range n).map fun v => nD (f v))) .own1, .un, .un, .un])
      (fun f p => stepW p f) (fun _ => 1) ?_ rfl ?_ ?_
    · simp [h1, psD]
    · rintro pre ⟨v, a⟩ post e
      generalize pre.foldl (fun f p => stepW p f) (fun _ => 1) = f
      have hm : (v, a) ∈ ps := by
        rw [← List.mem_reverse, e]; simp
      have hv : v < n := hlt v (List.mem_map_of_mem (f := (·.1)) hm)
      cases a with
      | none => simp [parD, oD, stepW]
      | some u =>
        have hu : u < n := hlt u (hc.grow.up_mem _ _ hm).1
        simp [parD, oD, hv, hu, ixN_nat hu, map_range_set, stepW]
        intro x hx
        by_cases c : x = u <;> simp [c]
    · rw [List.foldl_reverse]
      simp [freeze1, nsD]
  · exact evI_rng rfl hn
  · intro v hv
    exact ⟨_, rfl, .frz, rfl, rfl⟩
  · simp [L_eq]; omega
theorem sumV_N (xs : List Nat) : sumV (nsD xs) = some (nD xs.sum, .frz) := by
  show frI ((intsD (xs.map nD)).map fun ns => ns.sum) = _
  rw [intsD_nD]
  have e : ∀ ys : List Nat, (ys.map fun k : Nat => (k : Int)).sum = ((ys.sum : Nat) : Int) := by
    intro ys
    induction ys with
    | nil => rfl
    | cons y ys ih => simp [ih]
  show some (D.int (xs.map fun k : Nat => (k : Int)).sum, Kd.frz) = _
  rw [e]
  rfl
end Hg
end

section
set_option autoImplicit false
set_option maxHeartbeats 1000000
/-! Plwy: the law's own way. -/
namespace Hg
theorem sp_l_way {n a b : Nat} {rs : List (Nat × Nat)} (h : Hedge n rs) (hn : n ≤ 1000) (ha : a < n) (hb : b < n) : ∃ W, s_l_way [rowsD ((List.range n).map (nb rs)), nD a, nD b] = some (nsD W) ∧ Way rs b a W := by
  obtain ⟨W, hW⟩ := Way.ex h hb _ a ha rfl
  refine ⟨W, ?_, hW⟩
  have hln := h.len
  have h1 := sp_far h hn hb
  have hWn := nodup_len hW.nodup (hW.lt h hb)
  unfold s_l_way
  refine runF_eq rfl ?_
  simp only [d_l_way, startEnv]
  simp [h1]
  refine wh_step (fun f : List Nat => [.val (rowsD ((List.range n).map (nb rs))) .frz, .val (nD a) .frz, .val (nD b) .frz, .val (nsD ((List.range n).map (dist rs b))) .frz, .val (.lst (f.map nD)) .own1, .un])
    (fun f => ∃ i x q, f = i ++ [x] ∧ i ++ x :: q = W ∧ Way rs b x (x :: q)) (fun f => f = W) (fun f => W.length - f.length) [a] rfl ?_ ?_ ?_ ?_
  · obtain ⟨t, ht⟩ := hW.head
    exact ⟨[], a, t, rfl, ht.symm, by rw [← ht]; exact hW⟩
  · show W.length - 1 < FU
    rw [FU_eq]; omega
  · rintro f ⟨i, x, q, rfl, hq, w⟩
    have hlx := fun k => getLast_ix i x k
    by_cases c : x = b
    · subst c
      refine .inr ⟨by simp [hlx, PD8, -List.map_append], ?_⟩
      have := Way.uniq h hb w _ .nil
      simp at this
      subst this
      exact hq
    · have hxn : x < n := w.lt h hb x (by simp)
      cases w with
      | nil => exact absurd rfl c
      | @cons _ y q ad d w =>
        obtain ⟨t, rfl⟩ := w.head
        have hle : i.length + 1 < W.length := by rw [← hq]; simp
        have hL2 : ((i ++ [x]).map nD).length < L := by rw [List.length_map, List.length_append, L_eq]; simp; omega
        have hall : ∀ u ∈ (nb rs x).filter (fun u => decide (dist rs b u < dist rs b x)), u = y := by
          intro u hu
          obtain ⟨h2, h3⟩ := List.mem_filter.mp hu
          have h3 := of_decide_eq_true h3
          exact h.nearer_uniq hb (h.forest.mem_nb.mp h2).symm ad.symm h3 (by omega)
        have hym : y ∈ (nb rs x).filter (fun u => decide (dist rs b u < dist rs b x)) := List.mem_filter.mpr ⟨h.forest.mem_nb.mpr ad, decide_eq_true (by omega)⟩
        obtain ⟨u, us, hus⟩ := List.exists_cons_of_ne_nil (List.ne_nil_of_mem hym)
        have hu : u = y := hall u (by rw [hus]; simp)
        subst hu
        refine .inl ⟨by simp [hlx, PD8, c, -List.map_append], i ++ [x] ++ [u], ?_, ⟨i ++ [x], u, t, rfl, by rw [← hq]; simp, w⟩, ?_⟩
        · simp [hL2, -List.map_append, -List.length_map, -List.length_append]
          rw [ev_comp (nb rs x) nD (fun u => decide (dist rs b u < dist rs b x)) nD (own := false)]
          · rw [hus]
            simp [hL2, -List.map_append, -List.length_map, -List.length_append]
            simp
          · simp [hlx, hxn, -List.map_append]
          · intro v hv
            have hvn := (h.adj_lt (h.forest.mem_nb.mp hv)).2.1
            refine ⟨_, rfl, ?_, fun _ => ⟨.frz, by simp, by simp⟩⟩
            simp [hlx, hxn, hvn, -List.map_append]
          · have := nb_len rs x; rw [L_eq]; omega
        · simp
          omega
  · rintro f ⟨i, x, q, rfl, hq, w⟩ hd
    rw [hd]
    simp [freeze1, nsD]
end Hg
end

section
set_option autoImplicit false
set_option maxHeartbeats 1000000
/-! Plpt: the law's own parts. -/
namespace Hg
theorem memD_rows (x : List Nat) (T : List (List Nat)) : memD (nsD x) (.lst (T.map nsD)) = some (decide (x ∈ T)) := by
  rw [memD_map nsD (fun x => by rw [PD8]; exact plainD_ns _ x) (fun x => plainD_ns _ x) eqD_ns x T]
  exact congrArg some (decide_eq_decide.mpr Iff.rfl)
theorem keepR_take {rs : List (Nat × Nat)} {pl : List Nat} {pre post : List ((Nat × Nat) × Nat)} {e : Nat × Nat} {k : Nat} (_ : rs.zipIdx = pre ++ (e, k) :: post) :
    ((pre ++ [(e, k)]).filter fun p => decide (p.2 ∉ pl)).map (·.1) = (pre.filter fun p => decide (p.2 ∉ pl)).map (·.1) ++ (if k ∈ pl then [] else [e]) := by
  rw [List.filter_append, List.map_append]
  by_cases c : k ∈ pl <;> simp [c]
theorem sp_l_parts {n : Nat} {rs : List (Nat × Nat)} (h : Hedge n rs) (hn : n ≤ 1000) (pl : List Nat) : s_l_parts [hD n rs, nsD pl] = some (rowsD (cnRows (keepR rs pl) n)) := by
  have hln := h.len
  unfold s_l_parts
  refine runF_eq rfl ?_
  simp only [d_l_parts, startEnv]
  simp
  have hn' : (0 : Int) ≤ n ∧ (n : Int) ≤ 1000 := ⟨by omega, by omega⟩
  simp [hn', rngD_nD]
  refine for_step rs.zipIdx (fun p => .tup [nD p.2, rodD p.1]) (fun home : Nat → Nat => [.val (hD n rs) .frz, .val (nsD pl) .lent, .val (nsD ((List.range n).map home)) .frz, .un, .un, .un, .un, .un, .un, .un, .un])
    (fun pre home => HInv ((pre.filter fun p => decide (p.2 ∉ pl)).map (·.1)) home) id ?_ ?_ HInv.nil ?_ ?_
  · simp [enum_map]
  · simp [nsD]
  · rintro pre ⟨e, k⟩ post home es hi
    have he : e ∈ rs := by
      have h1 : (e, k) ∈ rs.zipIdx := by rw [es]; simp
      have := List.mem_map_of_mem (f := (·.1)) h1
      simpa using this
    obtain ⟨l1, l2, _⟩ := h.lt he
    rw [keepR_take es]
    by_cases c : k ∈ pl
    · refine ⟨home, ?_, by rw [if_pos c, List.append_nil]; exact hi⟩
      simp [memD_ns, c]
    · refine ⟨homeS home e, ?_, by rw [if_neg c]; exact hi.add e⟩
      have hix : ∀ j : Nat, j < n → ixV (nsD ((List.range n).map home), .frz) (.int (j : Int)) = some (nD (home j), .frz) := fun j hj => by simp [nsD, hj]
      simp [memD_ns, c, rodD, l2, hix]
      rw [ev_compM (List.range n) (fun v => nD (home v)) (fun v => nD (homeS home e v)) (own := false)]
      · simp [nsD, Function.comp_def]
      · simp [nsD, Function.comp_def]
      · intro v hv
        refine ⟨_, rfl, .frz, ?_, rfl⟩
        by_cases q : home v = home e.2
        · simp [PD8, q, l1, homeS, hix]
        · simp [PD8, q, homeS]
      · simp [L_eq]; omega
  · intro home hi
    have hk : (rs.zipIdx.filter fun p => decide (p.2 ∉ pl)).map (·.1) = keepR rs pl := rfl
    rw [hk] at hi
    simp
    refine for_step (List.range n) nD (fun T : List (List Nat) => [.val (hD n rs) .frz, .val (nsD pl) .lent, .val (nsD ((List.range n).map home)) .frz, .un, .un, .un, .un, .val (.lst (T.map nsD)) .own1, .un, .un, .un])
      (fun pre T => T = pre.foldl (rowStep (keepR rs pl) n) []) [] (evI_rng rfl hn) rfl rfl ?_ ?_
    · rintro pre v post T e hT
      obtain ⟨q1, q2, q3⟩ := range_split e
      have hv : v < n := by omega
      have hTl : (T.map nsD).length < L := by
        have := cnRows_len (keepR rs pl) n pre
        rw [← hT] at this
        rw [List.length_map, L_eq]; omega
      have hrow := hi.row n v
      refine ⟨rowStep (keepR rs pl) n T v, ?_, by rw [hT, List.foldl_append]; rfl⟩
      simp
      rw [ev_comp (List.range n) nD (fun x => decide (home x = home v)) nD (own := false)]
      · rw [hrow]
        have hm := memD_rows (cnRow (keepR rs pl) n v) T
        have hm' : memD (.lst ((cnRow (keepR rs pl) n v).map nD)) (.lst (T.map nsD)) = some (decide (cnRow (keepR rs pl) n v ∈ T)) := hm
        have hTl' : T.length < L := by simpa using hTl
        by_cases c : cnRow (keepR rs pl) n v ∈ T
        · simp [hm', c, rowStep]
        · simp [hm', c, rowStep, hTl', nsD]
      · exact evI_rng rfl hn
      · intro x hx
        have hx := List.mem_range.mp hx
        refine ⟨_, rfl, ?_, fun _ => ⟨.frz, by simp, by simp⟩⟩
        simp [hv, hx, PD8]
      · simp [L_eq]; omega
    · intro T hT
      subst hT
      simp [freeze1, rowsD, cnRows]
end Hg
end

section
set_option autoImplicit false
set_option maxHeartbeats 1000000
/-! Pnet: behind, net. -/
namespace Hg
def inK (K : List Nat) (v : Nat) : Nat := if v ∈ K then 1 else 0
theorem sp_behind {n : Nat} {rs : List (Nat × Nat)} {ps : PL} {K : List Nat} (h : Hedge n rs) (hn : n ≤ 1000) (h1 : s_parents [hD n rs, nD 0] = some (psD ps)) (hc : Come n rs 0 ps) : s_behind [hD n rs, nsD K] = some (nsD ((List.range n).map (ps.foldr stepW (inK K)))) := by
  have h1 : s_parents [hD n rs, .int 0] = some (psD ps) := h1
  unfold s_behind
  refine runF_eq rfl ?_
  simp only [d_behind, startEnv]
  simp
  have hlt := hc.grow.lt h.forest h.pos
  rw [ev_compM (List.range n) nD (fun v => nD (inK K v)) (own := false)]
  · simp
    refine for_fold ps.reverse parD (fun f : Nat → Nat => [.val (hD n rs) .frz, .val (nsD K) .frz, .val (.lst ((List.range n).map fun v => nD (f v))) .own1, .un, .un, .un])
      (fun f p => stepW p f) (inK K) ?_ rfl ?_ ?_
    · simp [h1, psD]
    · rintro pre ⟨v, a⟩ post e
      generalize pre.foldl (fun f p => stepW p f) (inK K) = f
      have hm : (v, a) ∈ ps := by
        rw [← List.mem_reverse, e]; simp
      have hv : v < n := hlt v (List.mem_map_of_mem (f := (·.1)) hm)
      cases a with
      | none => simp [parD, oD, stepW]
      | some u =>
        have hu : u < n := hlt u (hc.grow.up_mem _ _ hm).1
        simp [parD, oD, hv, hu, ixN_nat hu, map_range_set, stepW]
        intro x hx
        by_cases c : x = u <;> simp [c]
    · rw [List.foldl_reverse]
      simp [freeze1, nsD]
  · exact evI_rng rfl hn
  · intro v hv
    refine ⟨_, rfl, .frz, ?_, rfl⟩
    have e9 : memD (.int v) (nsD K) = some (decide (v ∈ K)) := memD_ns v K
    by_cases c : v ∈ K
    · simp [e9, c, inK, nD]
    · simp [e9, c, inK, nD]
  · simp [L_eq]; omega
theorem inK_sum {n : Nat} {K : List Nat} (hK : ∀ k ∈ K, k < n) (hn : K.Nodup) (p : Nat → Bool) : sm (List.range n) (fun y => if p y = true then inK K y else 0) = K.countP p := by
  have e : sm (List.range n) (fun y => if p y = true then inK K y else 0) = (List.range n).countP fun y => decide (y ∈ K) && p y := by
    rw [← sx_count]
    apply sx_congr
    intro y _
    unfold inK
    by_cases c : y ∈ K <;> cases p y <;> simp [c]
  rw [e, List.countP_eq_length_filter, List.countP_eq_length_filter]
  refine List.Perm.length_eq ((List.perm_ext_iff_of_nodup (List.nodup_range.filter _) (hn.filter _)).mpr fun x => ?_)
  rw [List.mem_filter, List.mem_filter, List.mem_range]
  simp only [Bool.and_eq_true, decide_eq_true_eq]
  exact ⟨fun q => ⟨q.2.1, q.2.2⟩, fun q => ⟨hK x q.1, q.1, q.2⟩⟩
theorem behind_sep {n v u : Nat} {rs : List (Nat × Nat)} {ps : PL} {K : List Nat} (h : Hedge n rs) (hc : Come n rs 0 ps) (hK : ∀ k ∈ K, k < n) (hn : K.Nodup) (hm : (v, some u) ∈ ps) :
    (0 < ps.foldr stepW (inK K) v ∧ ps.foldr stepW (inK K) v < K.length) ↔ sepK rs K (rodOf u v) = true := by
  have e : ps.foldr stepW (inK K) v = K.countP fun y => decide (side rs (rodOf u v) y = side rs (rodOf u v) v) := by
    rw [((hc.grow.weight h) (inK K)).1 v u hm, sx_perm (hc.perm h h.pos), ← inK_sum hK hn]
    apply sx_congr
    intro y _
    simp
  rw [e, sepK_iff]
  constructor
  · rintro ⟨h1, h2⟩
    obtain ⟨a, ha, pa⟩ := List.countP_pos_iff.mp h1
    have : ∃ b ∈ K, ¬ side rs (rodOf u v) b = side rs (rodOf u v) v := by
      refine Classical.byContradiction fun q => ?_
      have : K.countP (fun y => decide (side rs (rodOf u v) y = side rs (rodOf u v) v)) = K.length := List.countP_eq_length.mpr fun b hb => decide_eq_true (Classical.byContradiction fun w => q ⟨b, hb, w⟩)
      omega
    obtain ⟨b, hb, pb⟩ := this
    have pa := of_decide_eq_true pa
    exact ⟨a, ha, b, hb, fun w => pb (w ▸ pa)⟩
  · rintro ⟨a, ha, b, hb, hne⟩
    have two : ∀ a b : Nat, a ∈ K → b ∈ K → side rs (rodOf u v) a = side rs (rodOf u v) v → side rs (rodOf u v) b ≠ side rs (rodOf u v) v → 0 < K.countP (fun y => decide (side rs (rodOf u v) y = side rs (rodOf u v) v)) ∧ K.countP (fun y => decide (side rs (rodOf u v) y = side rs (rodOf u v) v)) < K.length := by
      intro a b ha hb pa pb
      refine ⟨List.countP_pos_iff.mpr ⟨a, ha, decide_eq_true pa⟩, ?_⟩
      refine Nat.lt_of_le_of_ne (List.countP_le_length) fun q => ?_
      exact pb (of_decide_eq_true (List.countP_eq_length.mp q b hb))
    by_cases c : side rs (rodOf u v) a = side rs (rodOf u v) v
    · exact two a b ha hb c fun w => hne (c.trans w.symm)
    · have : side rs (rodOf u v) b = side rs (rodOf u v) v := by
        cases ca : side rs (rodOf u v) a <;> cases cb : side rs (rodOf u v) b <;> cases cv : side rs (rodOf u v) v <;> simp_all
      exact two b a hb ha this c
/-- the places of the rods that a test takes -/
def placesB (rs : List (Nat × Nat)) (q : Nat × Nat → Bool) : List Nat := (rs.zipIdx.filter fun p => q p.1).map (·.2)
theorem sp_net {n : Nat} {rs : List (Nat × Nat)} {K : List Nat} (h : Hedge n rs) (hn : n ≤ 1000) (hK : ∀ k ∈ K, k < n) (hnd : K.Nodup) : s_net [hD n rs, nsD K] = some (nsD (placesB rs (sepK rs K))) := by
  have hlen := h.len
  obtain ⟨ps, h1, hc⟩ := sp_parents h.forest hn (by have := h.len; omega) h.pos
  have h2 := sp_behind (K := K) h hn h1 hc
  have hlt := hc.grow.lt h.forest h.pos
  have hpl : ps.length ≤ n := by have := nodup_len hc.grow.nodup hlt; simpa using this
  have h1' : s_parents [hD n rs, .int 0] = some (psD ps) := h1
  have hsep := fun v u (hm : (v, some u) ∈ ps) => behind_sep h hc hK hnd hm
  generalize ps.foldr stepW (inK K) = w at h2 hsep
  unfold s_net
  refine runF_eq rfl ?_
  simp only [d_net, startEnv]
  simp [h2]
  refine for_step ps parD (fun T : List (Nat × Nat) => [.val (hD n rs) .frz, .val (nsD K) .frz, .val (nsD ((List.range n).map w)) .frz, .val (.lst (T.map rodD)) .own1, .un, .un, .un, .un])
    (fun pre T => T.length ≤ pre.length ∧ ∀ e, e ∈ T ↔ ∃ v u, (v, some u) ∈ pre ∧ rodOf v u = e ∧ 0 < w v ∧ w v < K.length) [] ?_ (by simp) (by simp) ?_ ?_
  · simp [h1', psD]
  · rintro pre ⟨v, a⟩ post T e ⟨hT1, hT2⟩
    have hm : (v, a) ∈ ps := by rw [e]; simp
    have hv : v < n := hlt v (List.mem_map_of_mem (f := (·.1)) hm)
    have hpr : pre.length < n := by have := congrArg List.length e; simp at this; omega
    have hTL : T.length < L := by rw [L_eq]; omega
    have e1 : ixV (nsD ((List.range n).map w), .frz) (nD v) = some (nD (w v), .frz) := by
      show ixV _ (.int v) = _
      rw [ixV_ns]; simp [hv]
    have same : ∀ (o : Option Nat), (∀ u, o = some u → ¬ (0 < w v ∧ w v < K.length)) → ∀ e', e' ∈ T ↔ ∃ v' u', (v', some u') ∈ pre ++ [(v, o)] ∧ rodOf v' u' = e' ∧ 0 < w v' ∧ w v' < K.length := by
      intro o ho e'
      rw [hT2]
      constructor
      · rintro ⟨v', u', q1, q2⟩
        exact ⟨v', u', List.mem_append_left _ q1, q2⟩
      · rintro ⟨v', u', q1, q2, q3⟩
        rcases List.mem_append.mp q1 with q1 | q1
        · exact ⟨v', u', q1, q2, q3⟩
        · simp at q1
          obtain ⟨rfl, rfl⟩ := q1
          exact absurd q3 (ho u' rfl)
    cases a with
    | none =>
      refine ⟨T, ?_, by simp; omega, same none fun u q => by cases q⟩
      simp [parD, oD]
    | some u =>
      by_cases c : 0 < w v ∧ w v < K.length
      · refine ⟨T ++ [rodOf v u], ?_, by simp; omega, ?_⟩
        · have c1 : (0 : Int) < (w v : Int) := by omega
          have c2 : (w v : Int) < (K.length : Int) := by omega
          simp [parD, oD, e1]
          simp [nD, coB, c1, c2, hTL, rodD_rod, c.1, c.2]
        · intro e'
          rw [List.mem_append, hT2, List.mem_singleton]
          constructor
          · rintro (⟨v', u', q1, q2⟩ | q)
            · exact ⟨v', u', List.mem_append_left _ q1, q2⟩
            · exact ⟨v, u, by simp, q.symm, c⟩
          · rintro ⟨v', u', q1, q2, q3⟩
            rcases List.mem_append.mp q1 with q1 | q1
            · exact .inl ⟨v', u', q1, q2, q3⟩
            · simp at q1
              obtain ⟨rfl, rfl⟩ := q1
              exact .inr q2.symm
      · refine ⟨T, ?_, by simp; omega, same (some u) fun _ _ => c⟩
        simp [parD, oD, e1]
        by_cases c1 : 0 < w v
        · have c2 : ¬ w v < K.length := fun q => c ⟨c1, q⟩
          have c1' : (0 : Int) < (w v : Int) := by omega
          have c2' : ¬ (w v : Int) < (K.length : Int) := by omega
          simp [nD, coB, c1, c2, c1', c2']
        · have c1' : ¬ (0 : Int) < (w v : Int) := by omega
          simp [nD, coB, c1, c1']
  · rintro T ⟨hT1, hT2⟩
    have hrods := hc.rods h h.pos
    have hin : ∀ e ∈ rs, (e ∈ T ↔ sepK rs K e = true) := by
      intro e he
      rw [hT2]
      constructor
      · rintro ⟨v, u, q1, rfl, q3⟩
        rw [rodOf_comm]
        exact (hsep v u q1).mp q3
      · intro hs
        obtain ⟨⟨v, o⟩, hp, ho⟩ := List.mem_filterMap.mp (hrods.mem_iff.mpr he)
        cases o with
        | none => cases ho
        | some u =>
          simp at ho
          subst ho
          exact ⟨v, u, hp, rodOf_comm _ _, (hsep v u hp).mpr hs⟩
    simp
    rw [ev_comp rs.zipIdx (fun p => .tup [nD p.2, rodD p.1]) (fun p => sepK rs K p.1) (fun p => nD p.2) (own := false)]
    · simp [placesB, nsD]
    · have e3 := enum_map rodD rs
      simp [e3]
    · rintro ⟨e, k⟩ hp
      have he : e ∈ rs := List.mem_of_getElem? (List.mk_mem_zipIdx_iff_getElem?.mp hp)
      refine ⟨_, rfl, ?_, fun _ => ⟨.frz, by simp, by simp⟩⟩
      simp [memD_rods, decide_eq_decide.mpr (hin e he)]
    · simp [L_eq]; omega
end Hg
end

section
set_option autoImplicit false
set_option maxHeartbeats 1000000
/-! Net2: places, rows. Plain mathematics. -/
namespace Hg
theorem mem_placesB {rs : List (Nat × Nat)} {q : Nat × Nat → Bool} {k : Nat} : k ∈ placesB rs q ↔ ∃ e, rs[k]? = some e ∧ q e = true := by
  unfold placesB
  rw [List.mem_map]
  constructor
  · rintro ⟨⟨e, j⟩, hm, rfl⟩
    obtain ⟨h1, h2⟩ := List.mem_filter.mp hm
    exact ⟨e, List.mk_mem_zipIdx_iff_getElem?.mp h1, h2⟩
  · rintro ⟨e, h1, h2⟩
    exact ⟨(e, k), List.mem_filter.mpr ⟨List.mk_mem_zipIdx_iff_getElem?.mpr h1, h2⟩, rfl⟩
theorem filt_zip (rs : List (Nat × Nat)) (q : Nat × Nat → Bool) : (rs.zipIdx.filter fun p => q p.1).map (·.1) = rs.filter q := by
  have h := List.filter_map (f := fun p : (Nat × Nat) × Nat => p.1) (p := q) (l := rs.zipIdx)
  rw [show rs.zipIdx.map (fun p => p.1) = rs by simp] at h
  rw [h]; rfl
theorem placesB_len (rs : List (Nat × Nat)) (q : Nat × Nat → Bool) : (placesB rs q).length = (rs.filter q).length := by
  rw [← filt_zip]; simp [placesB]
theorem placesB_pw (rs : List (Nat × Nat)) (q : Nat × Nat → Bool) : (placesB rs q).Pairwise fun a b => a < b := by
  have h := (List.filter_sublist (p := fun p : (Nat × Nat) × Nat => q p.1) (l := rs.zipIdx)).map (·.2)
  have e : rs.zipIdx.map (·.2) = List.range' 0 rs.length := by simp
  rw [e] at h
  exact List.Pairwise.sublist h List.pairwise_lt_range'
theorem placesB_lt {rs : List (Nat × Nat)} {q : Nat × Nat → Bool} {k : Nat} (h : k ∈ placesB rs q) : k < rs.length := by
  obtain ⟨e, h1, _⟩ := mem_placesB.mp h
  exact (List.getElem?_eq_some_iff.mp h1).1
theorem keep_others (rs : List (Nat × Nat)) (q : Nat × Nat → Bool) : keepR rs ((List.range rs.length).filter fun k => decide (k ∉ placesB rs q)) = rs.filter q := by
  unfold keepR
  rw [← filt_zip]
  congr 1
  refine List.filter_congr fun p hp => ?_
  obtain ⟨e, k⟩ := p
  have h1 := List.mk_mem_zipIdx_iff_getElem?.mp hp
  have hk := (List.getElem?_eq_some_iff.mp h1).1
  have : k ∈ placesB rs q ↔ q e = true := by
    rw [mem_placesB]
    constructor
    · rintro ⟨e', h2, h3⟩
      rw [h1] at h2
      cases h2
      exact h3
    · exact fun h3 => ⟨e, h1, h3⟩
  rw [Bool.eq_iff_iff]
  simp [hk, this]
theorem mem_keep1 {rs : List (Nat × Nat)} {k : Nat} {e e' : Nat × Nat} (hk : rs[k]? = some e) (he : e' ∈ rs) (hne : e' ≠ e) : e' ∈ keepR rs [k] := by
  unfold keepR
  obtain ⟨j, hj⟩ := List.mem_iff_getElem?.mp he
  refine List.mem_map.mpr ⟨(e', j), List.mem_filter.mpr ⟨List.mk_mem_zipIdx_iff_getElem?.mpr hj, decide_eq_true fun q => ?_⟩, rfl⟩
  simp at q
  subst q
  rw [hk] at hj
  cases hj
  exact hne rfl
/-- the first row with a knot is the knot's -/
theorem row_first {R : List (Nat × Nat)} {n a : Nat} (ha : a < n) : ((cnRows R n).filter fun row => decide (a ∈ row))[0]? = some (cnRow R n a) := by
  have hm : cnRow R n a ∈ (cnRows R n).filter fun row => decide (a ∈ row) :=
    List.mem_filter.mpr ⟨mem_cnRows.mpr ⟨a, ha, rfl⟩, decide_eq_true (mem_cnRow.mpr ⟨ha, Cn.refl _ _⟩)⟩
  cases hx : (cnRows R n).filter fun row => decide (a ∈ row) with
  | nil => rw [hx] at hm; cases hm
  | cons x xs =>
    have hxm : x ∈ (cnRows R n).filter fun row => decide (a ∈ row) := by rw [hx]; simp
    obtain ⟨h1, h2⟩ := List.mem_filter.mp hxm
    obtain ⟨k, hk, rfl⟩ := mem_cnRows.mp h1
    have := (mem_cnRow.mp (of_decide_eq_true h2)).2
    rw [cnRow_eq this]; rfl
/-- a rod with knots on either side: each part has one -/
theorem net_sides {n k : Nat} {rs : List (Nat × Nat)} {K : List Nat} (h : Hedge n rs) (hK : ∀ x ∈ K, x < n) (hk : k ∈ placesB rs (sepK rs K)) {row : List Nat} (hr : row ∈ cnRows (keepR rs [k]) n) : K.filter (fun x => decide (x ∈ row)) ≠ [] := by
  obtain ⟨e, h1, h2⟩ := mem_placesB.mp hk
  obtain ⟨j, hj, rfl⟩ := mem_cnRows.mp hr
  obtain ⟨a, ha, b, hb, hne⟩ := sepK_iff.mp h2
  have he : e ∈ rs := List.mem_of_getElem? h1
  have : ∃ c ∈ K, side rs e c = side rs e j := by
    cases ca : side rs e a <;> cases cb : side rs e b <;> cases c1 : side rs e j <;> first | exact ⟨a, ha, ca⟩ | exact ⟨b, hb, cb⟩ | (rw [ca, cb] at hne; exact absurd rfl hne)
  obtain ⟨c, hc, hs⟩ := this
  refine List.ne_nil_of_mem (a := c) (List.mem_filter.mpr ⟨hc, decide_eq_true (mem_cnRow.mpr ⟨hK c hc, ?_⟩)⟩)
  refine Cn.mono (fun f hf => ?_) (cn_path h (hK c hc) _ j hj rfl)
  obtain ⟨f1, f2⟩ := List.mem_filter.mp hf
  refine mem_keep1 h1 f1 fun q => ?_
  subst q
  simp [hs] at f2
end Hg
end

section
set_option autoImplicit false
set_option maxHeartbeats 1000000
/-! Cut3: the law's parts by folds. -/
namespace Hg
theorem nodup_le : ∀ {xs ys : List Nat}, xs.Nodup → (∀ x ∈ xs, x ∈ ys) → xs.length ≤ ys.length
  | [], ys, _, _ => Nat.zero_le _
  | x :: xs, ys, hn, hs => by
    have hx : x ∈ ys := hs x (List.mem_cons_self ..)
    have hp := List.perm_cons_erase hx
    have hn' := List.nodup_cons.mp hn
    have := nodup_le (xs := xs) (ys := ys.erase x) hn'.2 (fun z hz => by
      have hz' := hp.mem_iff.mp (hs z (List.mem_cons_of_mem _ hz))
      rcases List.mem_cons.mp hz' with rfl | q
      · exact absurd hz hn'.1
      · exact q)
    have hl := hp.length_eq
    simp at hl ⊢
    omega
section
variable {n r : Nat} {rs : List (Nat × Nat)} {ps : PL}
theorem kids_pre (h : Hedge n rs) (cm : Come n rs r ps) {pre post : PL} {v : Nat} {o : Option Nat} (e : ps.reverse = pre ++ (v, o) :: post) : ∀ c ∈ kidsIn ps.reverse v, (c, some v) ∈ pre := by
  intro c hc
  have hcm := mem_kidsIn.mp hc
  rw [e] at hcm
  rcases List.mem_append.mp hcm with z | z
  · exact z
  · exfalso
    rcases List.mem_cons.mp z with z | z
    · simp at z
      have := (cm.grow.up_mem c v (by rw [← List.mem_reverse, e]; simp [z])).2
      rw [z.1] at this
      exact (h.adj_lt this).2.2 rfl
    · obtain ⟨P, Q', hPQ⟩ := List.append_of_mem z
      have e2 : ps.reverse = (pre ++ (v, o) :: P) ++ (c, some v) :: Q' := by rw [e, hPQ]; simp
      exact (cm.ahead e2).1 (by simp)
theorem fold_uniq (h : Hedge n rs) (cm : Come n rs r ps) {G : Nat → Bool} {f g : Nat → Nat} (hf : ∀ v ∈ ps.map (·.1), f v = 1 + sm (kidsIn ps.reverse v) (unless_ G f)) (hg : ∀ v ∈ ps.map (·.1), g v = 1 + sm (kidsIn ps.reverse v) (unless_ G g)) :
    ∀ v ∈ ps.map (·.1), f v = g v := by
  have key : ∀ pre post, ps.reverse = pre ++ post → ∀ v o, (v, o) ∈ pre → f v = g v := by
    intro pre
    refine snoc_ind (P := fun pre => ∀ post, ps.reverse = pre ++ post → ∀ v o, (v, o) ∈ pre → f v = g v) ?_ ?_ pre
    · intro _ _ v o hm; cases hm
    · rintro pre ⟨v, o⟩ ih post e v' o' hm'
      rw [List.append_assoc] at e
      rcases List.mem_append.mp hm' with q | q
      · exact ih _ e v' o' q
      · simp at q
        obtain ⟨rfl, rfl⟩ := q
        have e : ps.reverse = pre ++ (v', o') :: post := e
        have hvm : v' ∈ ps.map (·.1) := List.mem_map_of_mem (f := (·.1)) (by rw [← List.mem_reverse, e]; simp : (v', o') ∈ ps)
        rw [hf v' hvm, hg v' hvm]
        congr 1
        refine sx_congr fun c hc => ?_
        unfold unless_
        rw [ih _ e c _ (kids_pre h cm e c hc)]
  intro v hv
  obtain ⟨⟨v', o⟩, hp, rfl⟩ := List.mem_map.mp hv
  exact key ps.reverse [] (by simp) v' o (List.mem_reverse.mpr hp)
theorem mem_keepI (h : Hedge n rs) {P : List Nat} {e : Nat × Nat} : e ∈ keepR rs P ↔ e ∈ rs ∧ rs.idxOf e ∉ P := by
  unfold keepR
  rw [List.mem_map]
  have idx : ∀ k : Nat, rs[k]? = some e → rs.idxOf e = k := by
    intro k hk
    obtain ⟨hk1, hk2⟩ := List.getElem?_eq_some_iff.mp hk
    have := h.nodup.idxOf_getElem k hk1
    rwa [hk2] at this
  constructor
  · rintro ⟨⟨e', k⟩, hm, rfl⟩
    obtain ⟨h1, h2⟩ := List.mem_filter.mp hm
    have h3 := List.mk_mem_zipIdx_iff_getElem?.mp h1
    refine ⟨List.mem_of_getElem? h3, ?_⟩
    simp only
    rw [idx k h3]
    exact of_decide_eq_true h2
  · rintro ⟨h1, h2⟩
    obtain ⟨k, hk⟩ := List.mem_iff_getElem?.mp h1
    refine ⟨(e, k), List.mem_filter.mpr ⟨List.mk_mem_zipIdx_iff_getElem?.mpr hk, decide_eq_true ?_⟩, rfl⟩
    rw [← idx k hk]
    exact h2
theorem rows_le (h : Hedge n rs) (hr : r < n) (cm : Come n rs r ps) {α : Nat → Bool} {P : List Nat} (hα : ∀ v u, (v, some u) ∈ ps → (α v = true ↔ rs.idxOf (rodOf u v) ∉ P)) (B : Nat) :
    (∀ row ∈ cnRows (keepR rs P) n, row.length ≤ B) ↔ (∀ x ∈ ps.map (·.1), foldG α (fun _ => 1) ps x ≤ B) := by
  rw [← parts_le α B cm.grow]
  have hp := cm.perm h hr
  have hmem : ∀ e, e ∈ keptOf α ps ↔ e ∈ keepR rs P := by
    intro e
    rw [mem_keptOf, mem_keepI h]
    constructor
    · rintro ⟨v, u, h1, h2, rfl⟩
      exact ⟨h.adj_rod (cm.grow.up_mem _ _ h1).2, (hα v u h1).mp h2⟩
    · rintro ⟨h1, h2⟩
      obtain ⟨⟨v, o⟩, hp, ho⟩ := List.mem_filterMap.mp ((cm.rods h hr).mem_iff.mpr h1)
      cases o with
      | none => cases ho
      | some u =>
        simp at ho
        subst ho
        exact ⟨v, u, hp, (hα v u hp).mpr h2, rfl⟩
  have hcn : ∀ x k, cnb (keptOf α ps) x k = cnb (keepR rs P) x k := fun x k => cnb_congr ⟨Cn.mono fun e he => (hmem e).mp he, Cn.mono fun e he => (hmem e).mpr he⟩
  have hlen : ∀ k, partW α ps (fun _ => 1) k = (cnRow (keepR rs P) n k).length := by
    intro k
    unfold partW cnRow
    rw [sx_const, Nat.mul_one]
    have := hp.filter fun x => cnb (keptOf α ps) x k
    rw [this.length_eq]
    simp only [hcn]
  constructor
  · intro hl k hk
    rw [hlen]
    exact hl _ (mem_cnRows.mpr ⟨k, List.mem_range.mp (hp.mem_iff.mp hk), rfl⟩)
  · intro hl row hrow
    obtain ⟨k, hk, rfl⟩ := mem_cnRows.mp hrow
    rw [← hlen]
    exact hl k (hp.mem_iff.mpr (List.mem_range.mpr hk))
theorem rod_child (h : Hedge n rs) (cm : Come n rs r ps) {c v u u' : Nat} (h1 : (c, some u') ∈ ps) (h2 : (v, some u) ∈ ps) (e : rodOf u' c = rodOf u v) : c = v := by
  rcases Hedge.rod_inj e with ⟨_, q⟩ | ⟨q1, q2⟩
  · exact q
  · have d1 := cm.dist_up h h1
    have d2 := cm.dist_up h h2
    rw [q1, q2] at d1
    omega
theorem plc_of (cm : Come n rs r ps) {v u : Nat} (hv : (v, some u) ∈ ps) : plc rs ps v = rs.idxOf (rodOf u v) := by
  unfold plc; rw [upOf_mem cm.grow.nodup hv]; rfl
theorem plc_inj (h : Hedge n rs) (cm : Come n rs r ps) {c v u u' : Nat} (h1 : (c, some u') ∈ ps) (h2 : (v, some u) ∈ ps) (e : plc rs ps c = plc rs ps v) : c = v := by
  rw [plc_of cm h1, plc_of cm h2] at e
  have m1 := h.adj_rod (cm.grow.up_mem _ _ h1).2
  have m2 := h.adj_rod (cm.grow.up_mem _ _ h2).2
  have e1 := List.getElem_idxOf (List.idxOf_lt_length_of_mem m1)
  have e2 := List.getElem_idxOf (List.idxOf_lt_length_of_mem m2)
  refine rod_child h cm h1 h2 ?_
  rw [← e1, ← e2]
  congr 1
theorem sm_ind (xs : List Nat) (B : Nat → Bool) : sm xs (ind B) = (xs.filter B).length := by
  rw [← List.countP_eq_length_filter, ← sx_count]; rfl
/-- what was cut: no part too great, no other places fewer -/
theorem cut_ok (h : Hedge n rs) (hr : r < n) (cm : Come n rs r ps) {room : Nat} {w : Nat → Nat} {br : Nat → List (Nat × Nat)} {X : List Nat} (q : QI room ps.reverse w br X) :
    (X.map (plc rs ps)).Nodup ∧ (∀ p ∈ X.map (plc rs ps), p < n - 1) ∧
    (∀ P0 : List Nat, (∀ k, k ∈ P0 ↔ k ∈ X.map (plc rs ps)) → ∀ row ∈ cnRows (keepR rs P0) n, row.length ≤ room) ∧
    ∀ P : List Nat, (∀ row ∈ cnRows (keepR rs P) n, row.length ≤ room) → X.length ≤ P.length := by
  have hln := h.len
  have hX : ∀ c ∈ X, ∃ u, (c, some u) ∈ ps := fun c hc => by
    obtain ⟨u, h1, _⟩ := q.x c hc
    exact ⟨u, List.mem_reverse.mp h1⟩
  have hat : ∀ v ∈ ps.map (·.1), ∃ o, (v, o) ∈ ps.reverse := fun v hv => by
    obtain ⟨⟨v', o⟩, hp, rfl⟩ := List.mem_map.mp hv
    exact ⟨o, List.mem_reverse.mpr hp⟩
  have hw : ∀ v ∈ ps.map (·.1), w v = foldG (fun c => !decide (c ∈ X)) (fun _ => 1) ps v := by
    refine fold_uniq (G := fun c => decide (c ∈ X)) h cm (fun v hv => ?_) fun v hv => ?_
    · obtain ⟨o, ho⟩ := hat v hv
      exact (q.at_ v o ho).1
    · rw [foldG_rec cm, filter_unless (fun c => decide (c ∈ X))]
  have hk : ∀ v ∈ ps.map (·.1), ∀ B : Nat → Bool, sm (kidsIn ps.reverse v) (unless_ B w) = sm (kidsIn ps.reverse v) (unless_ B (foldG (fun c => !decide (c ∈ X)) (fun _ => 1) ps)) := by
    intro v _ B
    refine sx_congr fun c hc => ?_
    unfold unless_
    rw [hw c (List.mem_map_of_mem (f := (·.1)) (List.mem_reverse.mp (mem_kidsIn.mp hc)))]
  have hr0 : ∀ u, (r, some u) ∉ ps := fun u hu => by
    obtain ⟨t, ht⟩ := cm.grow.head
    have := nodup_fst_eq cm.grow.nodup hu (by rw [ht]; simp : (r, none) ∈ ps)
    cases this
  refine ⟨?_, ?_, ?_, ?_⟩
  · refine List.pairwise_map.mpr (q.nd.imp_of_mem fun {a b} ha hb hne e => hne ?_)
    obtain ⟨u, hu⟩ := hX a ha
    obtain ⟨u', hu'⟩ := hX b hb
    exact plc_inj h cm hu hu' e
  · intro p hp
    obtain ⟨c, hc, rfl⟩ := List.mem_map.mp hp
    obtain ⟨u, hu⟩ := hX c hc
    rw [plc_of cm hu]
    have := List.idxOf_lt_length_of_mem (h.adj_rod (cm.grow.up_mem _ _ hu).2)
    omega
  · intro P0 hP0
    refine (rows_le h hr cm (α := fun c => !decide (c ∈ X)) (fun v u hv => ?_) room).mpr fun v hv => ?_
    · rw [hP0, ← plc_of cm hv]
      simp only [Bool.not_eq_true', decide_eq_false_iff_not]
      refine not_congr ⟨fun z => List.mem_map_of_mem z, fun z => ?_⟩
      obtain ⟨c, hc, e⟩ := List.mem_map.mp z
      obtain ⟨u', hu'⟩ := hX c hc
      rw [← plc_inj h cm hu' hv e]
      exact hc
    · obtain ⟨o, ho⟩ := hat v hv
      rw [← hw v hv]
      exact (q.at_ v o ho).2.1
  · intro P hP
    have hQ := (rows_le h hr cm (α := fun c => !(decide (c ≠ r) && decide (plc rs ps c ∈ P))) (fun v u hv => by
      have hvr : v ≠ r := fun z => hr0 u (z ▸ hv)
      rw [← plc_of cm hv]
      simp [hvr]) room).mp hP
    have hb := cut_best h hr cm (room := room) (G := fun c => decide (c ∈ X)) (Q := fun c => decide (c ≠ r) && decide (plc rs ps c ∈ P)) (fun v o hv B hB => by
      have hvm : v ∈ ps.map (·.1) := List.mem_map_of_mem (f := (·.1)) hv
      rw [← hk v hvm] at hB
      have := (q.at_ v o (List.mem_reverse.mpr hv)).2.2 B hB
      rw [← hk v hvm, ← hk v hvm]
      exact this) hQ (decide_eq_false fun z => by
        obtain ⟨u, hu⟩ := hX r z
        exact hr0 u hu) (by simp)
    rw [sm_ind, sm_ind] at hb
    have e1 : ((ps.map (·.1)).filter fun c => decide (c ∈ X)).Perm X := by
      refine (List.perm_ext_iff_of_nodup (cm.grow.nodup.filter _) q.nd).mpr fun c => ?_
      rw [List.mem_filter, decide_eq_true_eq]
      refine ⟨fun z => z.2, fun z => ⟨?_, z⟩⟩
      obtain ⟨u, hu⟩ := hX c z
      exact List.mem_map_of_mem (f := (·.1)) hu
    rw [e1.length_eq] at hb
    refine Nat.le_trans hb ?_
    have hcn : ∀ c ∈ (ps.map (·.1)).filter (fun c => decide (c ≠ r) && decide (plc rs ps c ∈ P)), (∃ u, (c, some u) ∈ ps) ∧ plc rs ps c ∈ P := by
      intro c hc
      obtain ⟨h1, h2⟩ := List.mem_filter.mp hc
      simp only [Bool.and_eq_true, decide_eq_true_eq] at h2
      obtain ⟨⟨c', o⟩, hp, rfl⟩ := List.mem_map.mp h1
      cases o with
      | none => exact absurd (cm.root_none hp) h2.1
      | some u => exact ⟨⟨u, hp⟩, h2.2⟩
    rw [← List.length_map (f := plc rs ps)]
    refine nodup_le (List.pairwise_map.mpr ((cm.grow.nodup.filter _).imp_of_mem fun {a b} ha hb hne e => hne ?_)) fun p hp => ?_
    · obtain ⟨c, hc, rfl⟩ := List.mem_map.mp hp
      exact (hcn c hc).2
    · obtain ⟨u, hu⟩ := (hcn a ha).1
      obtain ⟨u', hu'⟩ := (hcn b hb).1
      exact plc_inj h cm hu hu' e
end
end Hg
end

section
set_option autoImplicit false
set_option maxHeartbeats 1000000
/-! Trn: turnings that keep a knot, sorts. Plain mathematics. -/
namespace Hg
/-- the code of a branch, and its turnings -/
inductive Tn (rs : List (Nat × Nat)) : Option Nat → Nat → List Nat → Nat → Prop where
  | mk (o : Option Nat) (v : Nat) (f : Nat → List Nat) (g : Nat → Nat) (h : ∀ c ∈ kids rs v o, Tn rs (some v) c (f c) (g c)) : Tn rs o v (wrap [] ((kids rs v o).map f)) (FF ((kids rs v o).map f) * pr (kids rs v o) g)
theorem Tn.cd {rs : List (Nat × Nat)} {o : Option Nat} {v a : Nat} {t : List Nat} (h : Tn rs o v t a) : Cd rs m0 o v t := by
  induction h with
  | mk o v f g h ih => exact Cd.mk (m := m0) o v f ih
theorem neu0 : Neu m0 := by simp [Neu, m0]
theorem wrap_perm_of {A B : List (List Nat)} (hA : ∀ a ∈ A, Prim a) (hB : ∀ b ∈ B, Prim b) (e : wrap [] A = wrap [] B) : A.Perm B := by
  have := (wrap_inj rfl hA hB e).2
  exact (sortS_perm A).symm.trans (this ▸ sortS_perm B)
theorem Tn.uniq {rs rs' : List (Nat × Nat)} {o : Option Nat} {v a : Nat} {t : List Nat} (h : Tn rs o v t a) : ∀ {o' : Option Nat} {v' a' : Nat}, Tn rs' o' v' t a' → a = a' := by
  induction h with
  | mk o v f g h ih =>
    intro o' v' a' h'
    generalize ht : wrap [] ((kids rs v o).map f) = t at h'
    cases h' with
    | mk _ _ f' g' h'' =>
      have hp := wrap_perm_of (fun a ha => by
        obtain ⟨x, hx, rfl⟩ := List.mem_map.mp ha
        exact (h x hx).cd.prim neu0) (fun a ha => by
        obtain ⟨x, hx, rfl⟩ := List.mem_map.mp ha
        exact (h'' x hx).cd.prim neu0) ht
      rw [FF_perm hp, pr_like (g := g) (g' := g') hp fun x hx y hy e => ih x hx (e ▸ h'' y hy)]
section
variable {n : Nat} {rs : List (Nat × Nat)}
theorem tn_ex {r : Nat} {ps : PL} (h : Hedge n rs) (hr : r < n) (cm : Come n rs r ps) : ∀ p ∈ ps, ∃ t a, Tn rs p.2 p.1 t a := by
  have key : ∀ p ∈ ps.reverse, ∃ t a, Tn rs p.2 p.1 t a := by
    refine pre_ind ps.reverse (fun pre => ∀ p ∈ pre, ∃ t a, Tn rs p.2 p.1 t a) (by simp) ?_
    rintro pre ⟨v, o⟩ post e ih p hp
    rcases List.mem_append.mp hp with hp | hp
    · exact ih p hp
    · have : p = (v, o) := by simpa using hp
      subst this
      have hm : (v, o) ∈ ps := by rw [← List.mem_reverse, e]; simp
      have hk : ∀ c ∈ kids rs v o, ∃ t a, Tn rs (some v) c t a := fun c hc => by
        have h1 := (come_kid h hr cm hm).mp hc
        exact ih _ (kids_pre h cm e c (mem_kidsIn.mpr (List.mem_reverse.mpr h1)))
      refine ⟨_, _, Tn.mk o v (fun c => Classical.epsilon fun t => ∃ a, Tn rs (some v) c t a) (fun c => Classical.epsilon fun a => Tn rs (some v) c (Classical.epsilon fun t => ∃ a, Tn rs (some v) c t a) a) fun c hc => ?_⟩
      exact Classical.epsilon_spec (p := fun a => Tn rs (some v) c _ a) (Classical.epsilon_spec (p := fun t => ∃ a, Tn rs (some v) c t a) (hk c hc))
  exact fun p hp => key p (List.mem_reverse.mpr hp)
noncomputable def br (rs : List (Nat × Nat)) (o : Option Nat) (v : Nat) : List Nat := Classical.epsilon fun t => ∃ a, Tn rs o v t a
noncomputable def tv (rs : List (Nat × Nat)) (o : Option Nat) (v : Nat) : Nat := Classical.epsilon fun a => Tn rs o v (br rs o v) a
theorem tn_spec {o : Option Nat} {v : Nat} (h : ∃ t a, Tn rs o v t a) : Tn rs o v (br rs o v) (tv rs o v) :=
  Classical.epsilon_spec (p := fun a => Tn rs o v (br rs o v) a) (Classical.epsilon_spec (p := fun t => ∃ a, Tn rs o v t a) h)
def Seen (n : Nat) (rs : List (Nat × Nat)) (o : Option Nat) (v : Nat) : Prop := v < n ∧ ∀ u, o = some u → Adj rs u v
theorem come_of (h : Hedge n rs) (hn : n ≤ 1000) {r : Nat} (hr : r < n) : ∃ ps, Come n rs r ps := by
  obtain ⟨ps, _, cm, _⟩ := sp_branch_codes h hn hr
  exact ⟨ps, cm⟩
theorem come_adj {r v : Nat} {ps : PL} (h : Hedge n rs) (hr : r < n) (cm : Come n rs r ps) (a : Adj rs r v) : (v, some r) ∈ ps := by
  rcases cm.edge h hr a.symm with q | q
  · exact q
  · have := cm.dist_up h q
    rw [dist_self] at this
    omega
theorem tn_ok (h : Hedge n rs) (hn : n ≤ 1000) {o : Option Nat} {v : Nat} (s : Seen n rs o v) : Tn rs o v (br rs o v) (tv rs o v) := by
  refine tn_spec ?_
  cases o with
  | none =>
    obtain ⟨ps, cm⟩ := come_of h hn s.1
    obtain ⟨t, ht⟩ := cm.grow.head
    exact tn_ex h s.1 cm (v, none) (by rw [ht]; simp)
  | some u =>
    have a := s.2 u rfl
    have hu := (h.adj_lt a).1
    obtain ⟨ps, cm⟩ := come_of h hn hu
    exact tn_ex h hu cm (v, some u) (come_adj h hu cm a)
theorem adj_nb (h : Hedge n rs) {u v : Nat} : v ∈ nb rs u ↔ Adj rs u v := h.forest.mem_nb
theorem kid_adj (h : Hedge n rs) {o : Option Nat} {v c : Nat} (hc : c ∈ kids rs v o) : Adj rs v c := (adj_nb h).mp (List.mem_filter.mp hc).1
theorem kid_seen (h : Hedge n rs) {o : Option Nat} {v c : Nat} (hc : c ∈ kids rs v o) : Seen n rs (some v) c :=
  ⟨(h.adj_lt (kid_adj h hc)).2.1, fun u e => by cases e; exact kid_adj h hc⟩
theorem tn_eq (h : Hedge n rs) (hn : n ≤ 1000) {o : Option Nat} {v : Nat} (s : Seen n rs o v) :
    br rs o v = wrap [] ((kids rs v o).map (br rs (some v))) ∧ tv rs o v = FF ((kids rs v o).map (br rs (some v))) * pr (kids rs v o) (tv rs (some v)) := by
  have T := tn_ok h hn s
  generalize br rs o v = t at T
  generalize tv rs o v = a at T
  cases T with
  | mk _ _ f g hk =>
    have e1 : ∀ c ∈ kids rs v o, f c = br rs (some v) c := fun c hc => (hk c hc).cd.uniq (tn_ok h hn (kid_seen h hc)).cd
    have e2 : ∀ c ∈ kids rs v o, g c = tv rs (some v) c := fun c hc => (e1 c hc ▸ hk c hc).uniq (tn_ok h hn (kid_seen h hc))
    rw [List.map_congr_left e1, pr_congr e2]
    exact ⟨rfl, rfl⟩
theorem br_prim (h : Hedge n rs) (hn : n ≤ 1000) {o : Option Nat} {v : Nat} (s : Seen n rs o v) : Prim (br rs o v) := (tn_ok h hn s).cd.prim neu0
theorem br_root (h : Hedge n rs) (hn : n ≤ 1000) {v : Nat} (hv : v < n) : cdOf rs m0 v = br rs none v := (cdOf_eq (tn_ok h hn (o := none) ⟨hv, by simp⟩).cd).symm
theorem kids_none (v : Nat) : kids rs v none = nb rs v := by
  unfold kids
  exact List.filter_eq_self.mpr fun a _ => by simp
theorem nb_split (h : Hedge n rs) {u v : Nat} (a : Adj rs u v) : (nb rs v).Perm (u :: kids rs v (some u)) := by
  refine (List.perm_ext_iff_of_nodup (h.forest.nb_nodup v) (List.nodup_cons.mpr ⟨fun z => ?_, (h.forest.nb_nodup v).filter _⟩)).mpr fun x => ?_
  · have := (List.mem_filter.mp z).2
    simp at this
  · rw [List.mem_cons, List.mem_filter]
    constructor
    · intro hx
      by_cases c : x = u
      · exact .inl c
      · exact .inr ⟨hx, by simpa using c⟩
    · rintro (rfl | ⟨q, _⟩)
      · exact (adj_nb h).mpr a.symm
      · exact q
/-- how many branches at u are like the one at v -/
noncomputable def mm (rs : List (Nat × Nat)) (u v : Nat) : Nat := cnt (br rs (some u) v) ((nb rs u).map (br rs (some u)))
theorem mm_pos (h : Hedge n rs) {u v : Nat} (a : Adj rs u v) : 0 < mm rs u v :=
  cnt_pos (List.mem_map_of_mem ((adj_nb h).mpr a))
theorem seen_none {v : Nat} (hv : v < n) : Seen n rs none v := ⟨hv, by simp⟩
theorem seen_some (h : Hedge n rs) {u v : Nat} (a : Adj rs u v) : Seen n rs (some u) v := ⟨(h.adj_lt a).2.1, fun w e => by cases e; exact a⟩
theorem rod_A (h : Hedge n rs) (hn : n ≤ 1000) {u v : Nat} (a : Adj rs u v) : tv rs none u = mm rs u v * (tv rs (some v) u * tv rs (some u) v) := by
  have hp := nb_split h a.symm
  rw [(tn_eq h hn (seen_none (h.adj_lt a).1)).2, (tn_eq h hn (seen_some h a.symm)).2, kids_none]
  unfold mm
  rw [FF_perm (hp.map _), pr_perm _ hp, cnt_perm (hp.map (br rs (some u))), List.map_cons, FF_cnt, pr_cons, cnt_self]
  simp only [Nat.mul_assoc, Nat.mul_comm, Nat.mul_left_comm]
theorem rod_AA (h : Hedge n rs) (hn : n ≤ 1000) {u v : Nat} (a : Adj rs u v) : tv rs none u * mm rs v u = tv rs none v * mm rs u v := by
  rw [rod_A h hn a, rod_A h hn a.symm]
  simp only [Nat.mul_assoc, Nat.mul_comm, Nat.mul_left_comm]
/-! ### how many knots have one code -/
noncomputable def nk (rs : List (Nat × Nat)) (n : Nat) (t : List Nat) : Nat := sm (List.range n) fun w => if br rs none w = t then 1 else 0
theorem root_perm (h : Hedge n rs) (hn : n ≤ 1000) {u v : Nat} (a : Adj rs u v) : br rs none v = wrap [] (br rs (some v) u :: (kids rs v (some u)).map (br rs (some v))) := by
  rw [(tn_eq h hn (seen_none (h.adj_lt a).2.1)).1, kids_none, ← List.map_cons]
  exact wrap_perm ((nb_split h a).map _)
theorem kids_prim (h : Hedge n rs) (hn : n ≤ 1000) {o : Option Nat} {v : Nat} : ∀ t ∈ (kids rs v o).map (br rs (some v)), Prim t := fun t ht => by
  obtain ⟨c, hc, rfl⟩ := List.mem_map.mp ht
  exact br_prim h hn (kid_seen h hc)
/-- the pairs that are like a rod, seen from one end -/
theorem side_count (h : Hedge n rs) (hn : n ≤ 1000) {u v : Nat} (a : Adj rs u v) {u' : Nat} (hu' : u' < n) :
    (sm (List.range n) fun v' => if v' ∈ nb rs u' ∧ br rs (some u') v' = br rs (some u) v ∧ br rs (some v') u' = br rs (some v) u then 1 else 0) = mm rs u v * if br rs none u' = br rs none u then 1 else 0 := by
  have hu := (h.adj_lt a).1
  have e1 : (sm (List.range n) fun v' => if v' ∈ nb rs u' ∧ br rs (some u') v' = br rs (some u) v ∧ br rs (some v') u' = br rs (some v) u then 1 else 0) = sm (nb rs u') fun v' => if br rs (some u') v' = br rs (some u) v ∧ br rs (some v') u' = br rs (some v) u then 1 else 0 := by
    have hp : ((List.range n).filter fun v' => decide (v' ∈ nb rs u')).Perm (nb rs u') :=
      (List.perm_ext_iff_of_nodup (List.nodup_range.filter _) (h.forest.nb_nodup u')).mpr fun x => by
        rw [List.mem_filter, List.mem_range]
        constructor
        · exact fun q => by simpa using q.2
        · exact fun q => ⟨(h.adj_lt ((adj_nb h).mp q)).2.1, by simpa using q⟩
    rw [← sx_perm hp, sm_filter]
    refine sx_congr fun x _ => ?_
    by_cases c : x ∈ nb rs u' <;> simp [c]
  rw [e1]
  by_cases c : br rs none u' = br rs none u
  · rw [if_pos c, Nat.mul_one]
    have hp : ((nb rs u').map (br rs (some u'))).Perm ((nb rs u).map (br rs (some u))) := by
      rw [(tn_eq h hn (seen_none hu)).1, (tn_eq h hn (seen_none hu')).1] at c
      have := wrap_perm_of (kids_prim h hn) (kids_prim h hn) c
      rwa [kids_none, kids_none] at this
    unfold mm
    rw [← cnt_perm hp, cnt_map]
    refine sx_congr fun v' hv' => ?_
    · by_cases c1 : br rs (some u') v' = br rs (some u) v
      · have a' := (adj_nb h).mp hv'
        have : br rs (some v') u' = br rs (some v) u := by
          rw [(tn_eq h hn (seen_some h a'.symm)).1, (tn_eq h hn (seen_some h a.symm)).1]
          have p1 := (nb_split h a'.symm).map (br rs (some u'))
          have p2 := (nb_split h a.symm).map (br rs (some u))
          rw [List.map_cons] at p1 p2
          have p3 := (p1.symm.trans hp).trans p2
          rw [c1] at p3
          exact wrap_perm (List.perm_cons _ |>.mp p3)
        simp [c1, this]
      · simp [c1]
  · rw [if_neg c, Nat.mul_zero]
    refine sx_zero fun v' hv' => if_neg fun ⟨q1, q2⟩ => c ?_
    have a' := (adj_nb h).mp hv'
    rw [(tn_eq h hn (seen_some h a'.symm)).1, (tn_eq h hn (seen_some h a.symm)).1] at q2
    have p := wrap_perm_of (kids_prim h hn) (kids_prim h hn) q2
    rw [root_perm h hn a'.symm, root_perm h hn a.symm, q1]
    exact wrap_perm (p.cons _)
theorem rod_N (h : Hedge n rs) (hn : n ≤ 1000) {u v : Nat} (a : Adj rs u v) : nk rs n (br rs none u) * mm rs u v = nk rs n (br rs none v) * mm rs v u := by
  have e1 : (sm (List.range n) fun u' => sm (List.range n) fun v' => if v' ∈ nb rs u' ∧ br rs (some u') v' = br rs (some u) v ∧ br rs (some v') u' = br rs (some v) u then 1 else 0) = mm rs u v * nk rs n (br rs none u) := by
    unfold nk
    rw [← sx_mul]
    exact sx_congr fun u' hu' => side_count h hn a (List.mem_range.mp hu')
  have e2 : (sm (List.range n) fun v' => sm (List.range n) fun u' => if u' ∈ nb rs v' ∧ br rs (some v') u' = br rs (some v) u ∧ br rs (some u') v' = br rs (some u) v then 1 else 0) = mm rs v u * nk rs n (br rs none v) := by
    unfold nk
    rw [← sx_mul]
    exact sx_congr fun u' hu' => side_count h hn a.symm (List.mem_range.mp hu')
  rw [Nat.mul_comm, ← e1, Nat.mul_comm, ← e2, sx_swap]
  refine sx_congr fun v' _ => sx_congr fun u' _ => ?_
  have : (v' ∈ nb rs u' ∧ br rs (some u') v' = br rs (some u) v ∧ br rs (some v') u' = br rs (some v) u) ↔ (u' ∈ nb rs v' ∧ br rs (some v') u' = br rs (some v) u ∧ br rs (some u') v' = br rs (some u) v) := by
    rw [adj_nb h, adj_nb h]
    exact ⟨fun ⟨q1, q2, q3⟩ => ⟨q1.symm, q3, q2⟩, fun ⟨q1, q2, q3⟩ => ⟨q1.symm, q3, q2⟩⟩
  simp only [this]
theorem AN_adj (h : Hedge n rs) (hn : n ≤ 1000) {u v : Nat} (a : Adj rs u v) : tv rs none u * nk rs n (br rs none u) = tv rs none v * nk rs n (br rs none v) := by
  have h1 := rod_AA h hn a
  have h2 := rod_N h hn a
  have hm : 0 < mm rs u v * mm rs v u := Nat.mul_pos (mm_pos h a) (mm_pos h a.symm)
  refine Nat.eq_of_mul_eq_mul_right hm ?_
  calc tv rs none u * nk rs n (br rs none u) * (mm rs u v * mm rs v u) = (tv rs none u * mm rs v u) * (nk rs n (br rs none u) * mm rs u v) := by simp only [Nat.mul_assoc, Nat.mul_comm, Nat.mul_left_comm]
    _ = (tv rs none v * mm rs u v) * (nk rs n (br rs none v) * mm rs v u) := by rw [h1, h2]
    _ = _ := by simp only [Nat.mul_assoc, Nat.mul_comm, Nat.mul_left_comm]
theorem AN_const (h : Hedge n rs) (hn : n ≤ 1000) {u v : Nat} (hu : u < n) (hv : v < n) : tv rs none u * nk rs n (br rs none u) = tv rs none v * nk rs n (br rs none v) := by
  refine h.conn (fun w => tv rs none u * nk rs n (br rs none u) = tv rs none w * nk rs n (br rs none w)) (fun x y a e => ?_) hu hv rfl
  rw [e]
  exact AN_adj h hn a
theorem tv_pos (h : Hedge n rs) (hn : n ≤ 1000) {o : Option Nat} {v : Nat} (s : Seen n rs o v) : 0 < tv rs o v := by
  have key : ∀ {o v t a}, Tn rs o v t a → 0 < a := by
    intro o v t a T
    induction T with
    | mk o v f g h ih => exact Nat.mul_pos (FF_pos _) (pr_pos ih)
  exact key (tn_ok h hn s)
/-- put together knot by knot -/
theorem tv_all (h : Hedge n rs) (hn : n ≤ 1000) {r : Nat} (hr : r < n) {ps : PL} (cm : Come n rs r ps) {c : Nat → List Nat} (hc : ∀ v o, (v, o) ∈ ps → Cd rs m0 o v (c v)) :
    pr (List.range n) (fun w => FF ((brOf rs ps c w).map c)) = tv rs none r := by
  have hW : ∀ v o, (v, o) ∈ ps → FF ((brOf rs ps c v).map c) = FF ((kids rs v o).map (br rs (some v))) := fun v o hm => by
    unfold brOf
    rw [upOf_mem cm.grow.nodup hm, FF_perm ((sortK_perm c _).map c), List.map_congr_left fun x hx => ?_]
    exact (hc x (some v) ((come_kid h hr cm hm).mp hx)).uniq (tn_ok h hn (kid_seen h hx)).cd
  have hS : ∀ v o, (v, o) ∈ ps → Seen n rs o v := fun v o hm => by
    refine ⟨cm.grow.lt h.forest hr v (List.mem_map_of_mem (f := (·.1)) hm), fun u e => ?_⟩
    subst e
    exact (cm.grow.up_mem _ _ hm).2
  -- from the root on
  have go : ∀ (k : Nat) (S todo : List Nat), AInv r ps S todo → n - S.length ≤ k → pr S (fun w => FF ((brOf rs ps c w).map c)) * pr todo (fun w => tv rs (upOf ps w) w) = tv rs none r →
      ∃ S', AInv r ps S' [] ∧ pr S' (fun w => FF ((brOf rs ps c w).map c)) = tv rs none r := by
    intro k
    induction k with
    | zero =>
      intro S todo b hk e
      rcases List.eq_nil_or_concat todo with rfl | ⟨t, x, rfl⟩
      · exact ⟨S, b, by simpa using e⟩
      · exfalso
        rw [List.concat_eq_append] at b
        have hl := nodup_len b.nd fun y hy => cm.grow.lt h.forest hr y (b.sub y hy)
        simp at hl
        omega
    | succ k ih =>
      intro S todo b hk e
      rcases List.eq_nil_or_concat todo with rfl | ⟨t, x, rfl⟩
      · exact ⟨S, b, by simpa using e⟩
      · rw [List.concat_eq_append] at b e
        have hxm := b.sub x (by simp)
        obtain ⟨⟨x', o⟩, hp, e0⟩ := List.mem_map.mp hxm
        cases e0
        have b' := AInv.step (M := kids rs x' o) h hr cm b (fun v => come_kid h hr cm hp) ((h.forest.nb_nodup x').filter _)
        refine ih _ _ b' (by rw [List.length_append]; simp; omega) ?_
        rw [← e, pr_append, pr_append, pr_append, pr_cons, pr_nil, pr_cons, pr_nil, hW x' o hp, upOf_mem cm.grow.nodup hp, (tn_eq h hn (hS x' o hp)).2]
        have ek : pr (kids rs x' o) (fun w => tv rs (upOf ps w) w) = pr (kids rs x' o) (tv rs (some x')) := pr_congr fun w hw => by rw [upOf_mem cm.grow.nodup ((come_kid h hr cm hp).mp hw)]
        rw [ek]
        simp only [Nat.mul_assoc, Nat.mul_comm, Nat.mul_left_comm, Nat.mul_one]
  obtain ⟨t, ht⟩ := cm.grow.head
  obtain ⟨S, b, e⟩ := go n [] [r] (AInv.start cm) (by simp) (by simp [upOf_mem cm.grow.nodup (show (r, none) ∈ ps by rw [ht]; simp)])
  rw [← e]
  refine pr_perm _ ?_
  have hd := b.done cm
  have nd : S.Nodup := by have := b.nd; simpa using this
  refine (List.perm_ext_iff_of_nodup List.nodup_range nd).mpr fun x => ?_
  rw [List.mem_range]
  constructor
  · intro hx
    exact hd x ((cm.perm h hr).mem_iff.mpr (List.mem_range.mpr hx))
  · intro hx
    exact cm.grow.lt h.forest hr x (b.sub x (by simpa using hx))
end
end Hg
end

section
set_option autoImplicit false
set_option maxHeartbeats 1000000
/-! Prun: orders, times_alike, runs. -/
namespace Hg
theorem evI_rngM {C : Nat → List D → Option D} {env : Env} {a e : E} {m n : Nat} (ha : bm (ev C a env) = some (.int m)) (h : bm (ev C e env) = some (.int n)) (hm : m ≤ 1000) (hn : n ≤ 1000) : evI C (.rng2 a e) env = some ((List.range (n - m)).map fun i => nD (m + i), false) := by
  rw [q_evI_rng2, ha, h]
  have q : (if (-1000000 : Int) ≤ m ∧ (m : Int) ≤ 1000000 ∧ (-1000000 : Int) ≤ n ∧ (n : Int) ≤ 1000000 then some (rngD m ((n : Int) - m).toNat, false) else none) = some (rngD m ((n : Int) - m).toNat, false) := if_pos ⟨by omega, by omega, by omega, by omega⟩
  refine Eq.trans q ?_
  have q2 : ((n : Int) - m).toNat = n - m := by omega
  rw [q2]
  rfl
def RingP (n : Nat) (rs : List (Nat × Nat)) (d : D) : Prop := d = .non ∨ ∃ i a k, i < rs.length ∧ 0 < i ∧ d = .tup [.int (i : Nat), rodD (a, k)] ∧ a < k ∧ k < n ∧ Cn (rs.take i) a k
theorem mulN {b x : Nat} (h : x < 2 ^ 64) : mulI (nD b) (nD x) = some (nD (b * x)) := by
  show mulI (.int _) (.int _) = _
  rw [q_mulI (mulOk_r (by omega) (by omega))]
  show some (D.int _) = some (D.int _)
  congr 2
theorem sp_ordersD {k : Nat} {d : D} (hd : nD k = d) (hk : k < 1000) : s_orders [d] = some (nD (fct k)) := by
  unfold s_orders
  refine runF_eq rfl ?_
  simp only [d_orders, startEnv]
  simp
  subst hd
  refine for_step (List.range (k + 1 - 2)) (fun i => nD (2 + i)) (fun b : Nat => [.val (nD k) .frz, .val (nD b) .frz, .un]) (fun pre b => b = fct (pre.length + 1)) 1 ?_ rfl rfl ?_ ?_
  · exact evI_rngM (m := 2) (n := k + 1) (by simp) (by simp; show D.int _ = D.int _; congr 1) (by omega) (by omega)
  · rintro pre i post b e hb
    have hi := range_split e
    refine ⟨fct (pre.length + 2), ?_, by simp⟩
    subst hb
    have e1 : i = pre.length := by omega
    have e2 : fct (pre.length + 1) * (2 + i) = fct (pre.length + 2) := by
      show _ = (pre.length + 1 + 1) * fct (pre.length + 1)
      rw [e1, Nat.mul_comm]
      congr 1
      omega
    simp [mulN (b := fct (pre.length + 1)) (x := 2 + i) (by omega), e2]
  · intro b hb
    subst hb
    rw [List.length_range]
    simp
    rcases k with _ | _ | k
    · simp [fct]
    · simp [fct]
    · rw [show k + 1 + 1 - 1 + 1 = k + 1 + 1 from by omega]
theorem sp_orders {k : Nat} (hk : k < 1000) : s_orders [nD k] = some (nD (fct k)) := sp_ordersD rfl hk
theorem sp_times {xs : List Nat} (hl : xs.length < L) (hx : ∀ x ∈ xs, x < 2 ^ 64) : s_times_alike [nsD xs] = some (nD (pr xs id)) := by
  unfold s_times_alike
  refine runF_eq rfl ?_
  simp only [d_times_alike, startEnv]
  simp
  refine for_step (sortN xs) nD (fun b : Nat => [.val (nsD xs) .frz, .val (nD b) .frz, .un]) (fun pre b => b = pr pre id) 1 ?_ rfl rfl ?_ ?_
  · simp
    show (sortedV (.lst (xs.map nD))).bind itV = _
    rw [sortedV_N hl]
    simp
  · rintro pre x post b e hb
    have hm : x ∈ xs := (sortN_perm xs).mem_iff.mp (by rw [e]; simp)
    refine ⟨b * x, by simp [mulN (b := b) (hx x hm)], ?_⟩
    rw [pr_append, hb]
    simp
  · intro b hb
    subst hb
    simp [pr_perm id (sortN_perm xs)]
def dgD (ds : List (List Nat)) (g : List Nat → D) : List (Ky × D) := ds.map fun c => (.inr c, g c)
theorem look_dg (g : List Nat → D) (x : List Nat) : ∀ ds : List (List Nat), look (dgD ds g) (.inr x) = if x ∈ ds then some (g x) else none
  | [] => rfl
  | c :: ds => by
    have ih := look_dg g x ds
    unfold look dgD at ih ⊢
    rw [List.map_cons, List.find?_cons]
    by_cases h : c = x
    · subst h; simp
    · simp only [Sum.inr.injEq, h, decide_false]
      rw [ih]
      simp [Ne.symm h]
theorem put_dg (g : List Nat → D) (x : List Nat) (v : D) (ds : List (List Nat)) : put (dgD ds g) (.inr x) v = if x ∈ ds then dgD ds (fun c => if c = x then v else g c) else dgD ds g ++ [(.inr x, v)] := by
  have e : ((dgD ds g).any fun kv => decide (kv.1 = .inr x)) = decide (x ∈ ds) := by
    unfold dgD
    rw [List.any_map]
    rw [Bool.eq_iff_iff, List.any_eq_true]
    simp
  unfold put
  rw [e]
  by_cases h : x ∈ ds
  · simp only [h, decide_true, if_true]
    unfold dgD
    rw [List.map_map]
    refine List.map_congr_left fun c _ => ?_
    by_cases hc : c = x <;> simp [hc]
  · simp only [h, decide_false, Bool.false_eq_true, if_false]
theorem dgD_congr {ds : List (List Nat)} {g g' : List Nat → D} (h : ∀ c ∈ ds, g c = g' c) : dgD ds g = dgD ds g' := List.map_congr_left fun c hc => by rw [h c hc]
theorem sp_runs {cs : List (List Nat)} (hl : cs.length < L) : s_runs [.lst (cs.map D.str)] = some (nsD ((dd cs).map fun c => cnt c cs)) := by
  unfold s_runs
  refine runF_eq rfl ?_
  simp only [d_runs, startEnv]
  simp
  refine for_step cs D.str (fun b : List (Ky × D) => [.val (.lst (cs.map D.str)) .frz, .val (.dic b) .own1, .un]) (fun pre b => b = dgD (dd pre) fun c => nD (cnt c pre)) [] ?_ rfl rfl ?_ ?_
  · simp
  · rintro pre x post b e hb
    have hlen : (dd pre).length < L := by
      have h1 : (dd pre).length ≤ pre.length := dd_len pre
      have h2 : pre.length ≤ cs.length := by rw [e]; simp
      omega
    have hlb : b.length < L := by rw [hb]; unfold dgD; rw [List.length_map]; exact hlen
    have hlk : (look b (.inr x)).getD (.int 0) = nD (cnt x pre) := by
      rw [hb, look_dg]
      by_cases h : x ∈ dd pre
      · rw [if_pos h]; rfl
      · rw [if_neg h]
        have : cnt x pre = 0 := cnt_zero fun z => h ((mem_dd pre).mpr z)
        rw [this]; rfl
    refine ⟨put b (.inr x) (nD (cnt x pre + 1)), ?_, ?_⟩
    · simp [hlk, hlb, keyD]
    · rw [hb, put_dg, dd_snoc]
      by_cases h : x ∈ dd pre
      · rw [if_pos h, if_pos h]
        exact dgD_congr fun c _ => by
          rw [cnt_snoc]
          by_cases q : c = x <;> simp [q]
      · rw [if_neg h, if_neg h]
        unfold dgD
        rw [List.map_append]
        congr 1
        · exact List.map_congr_left fun c hm => by
            show (Sum.inr c, nD (cnt c pre)) = (Sum.inr c, nD (cnt c (pre ++ [x])))
            rw [cnt_snoc, if_neg fun z : c = x => h (z ▸ hm)]
        · show [(Sum.inr x, nD (cnt x pre + 1))] = [(Sum.inr x, nD (cnt x (pre ++ [x])))]
          rw [cnt_snoc, if_pos rfl]
  · intro b hb
    subst hb
    simp [dgD, nsD, Function.comp_def]
end Hg
end

section
set_option autoImplicit false
set_option maxHeartbeats 1000000
/-! Pbk: best_knot, likeness. -/
namespace Hg
theorem sp_bcf {n r : Nat} {rs : List (Nat × Nat)} (h : Hedge n rs) (hn : n ≤ 1000) (hr : r < n) : ∃ f, s_branch_codes [hD n rs, nD r] = some (csD n f) ∧ f r = cdOf rs m0 r := by
  obtain ⟨ps, _, hc, h1⟩ := sp_branch_codes h hn hr
  obtain ⟨tl, ht⟩ := hc.grow.head
  exact ⟨_, h1, cdOf_eq (cAll_cd h hr hc (c := 0) (fun _ _ => rfl) r none (by rw [ht]; simp))⟩
theorem ixV_cs {n v : Nat} (f : Nat → List Nat) (k : Kd) (hv : v < n) : ixV (csD n f, k) (nD v) = some (.str (f v), subK k) := by
  show ixV _ (.int v) = _
  simp [csD, hv]
theorem codeH_plain {n : Nat} {rs : List (Nat × Nat)} (h : Hedge n rs) (hn : n ≤ 1000) (k : Nat) : plainD k (.str (codeH rs m0 n)) = true := by
  obtain ⟨_, v, hv, hc⟩ := codeH_eq h m0
  rw [hc]
  exact cd_plain h hn (mids_lt hv) k
theorem codeH_len {n : Nat} {rs : List (Nat × Nat)} (h : Hedge n rs) (hn : n ≤ 1000) : (codeH rs m0 n).length = 2 * n := by
  obtain ⟨_, v, hv, hc⟩ := codeH_eq h m0
  rw [hc]
  exact (sp_cf h hn (mids_lt hv)).2
theorem sp_best_knot {n : Nat} {rs : List (Nat × Nat)} (h : Hedge n rs) (hn : n ≤ 1000) : ∃ v, s_best_knot [hD n rs] = some (nD v) ∧ v ∈ mids rs n ∧ cdOf rs m0 v = codeH rs m0 n := by
  obtain ⟨_, w, hw, hc⟩ := codeH_eq h m0
  obtain ⟨pre, x, post, e, hx, hp⟩ := first_split (fun v => decide (cdOf rs m0 v = codeH rs m0 n)) ⟨w, hw, by simp [hc]⟩
  have hxm : x ∈ mids rs n := by rw [e]; simp
  have hpl := codeH_plain h hn
  refine ⟨x, ?_, hxm, of_decide_eq_true hx⟩
  have h3 := sp_code h hn
  have h4 := sp_middle h hn
  unfold s_best_knot
  refine runF_eq rfl ?_
  generalize codeH rs m0 n = t at *
  simp only [d_best_knot, startEnv]
  simp [h3, h4]
  refine for_ret nD (fun _ : Unit => [.val (hD n rs) .frz, .val (.str t) .frz, .un]) (fun _ _ => True) pre x post () _ ?_ e rfl trivial ?_ ?_
  · simp [h4]
  · rintro p1 y p2 _ e1 _
    have hy : y ∈ mids rs n := by rw [e, e1]; simp
    obtain ⟨f, hf, hfy⟩ := sp_bcf h hn (mids_lt hy)
    have hq := hp y (by rw [e1]; simp)
    have hpy := cd_plain h hn (mids_lt hy) PD
    rw [← hfy] at hq hpy
    refine ⟨(), ?_, trivial⟩
    have hq := of_decide_eq_false hq
    simp [hf, ixV_cs f .frz (mids_lt hy), hpy, hpl PD, hq]
  · intro _ _
    obtain ⟨f, hf, hfy⟩ := sp_bcf h hn (mids_lt hxm)
    have hpy := cd_plain h hn (mids_lt hxm) PD
    have hx := of_decide_eq_true hx
    rw [← hfy] at hx hpy
    simp [hf, ixV_cs f .frz (mids_lt hxm), hpy, hpl PD, hx]
theorem sp_likeness {n n' : Nat} {rs rs' : List (Nat × Nat)} (h : Hedge n rs) (h' : Hedge n' rs') (hn : n ≤ 1000) (hn' : n' ≤ 1000) :
    (codeH rs m0 n = codeH rs' m0 n' → ∃ F, s_likeness [hD n rs, hD n' rs'] = some (nsD ((List.range n).map F)) ∧ Iso n rs rs' F) ∧
    (codeH rs m0 n ≠ codeH rs' m0 n' → s_likeness [hD n rs, hD n' rs'] = some .non) := by
  have h1 := sp_code h hn
  have h2 := sp_code h' hn'
  have p1 := codeH_plain h hn PD
  have p2 := codeH_plain h' hn' PD
  have l1 := codeH_len h hn
  have l2 := codeH_len h' hn'
  obtain ⟨v, b1, m1, q1⟩ := sp_best_knot h hn
  obtain ⟨v', b2, m2, q2⟩ := sp_best_knot h' hn'
  constructor
  · intro e
    have en : n = n' := by
      have := congrArg List.length e
      rw [l1, l2] at this
      omega
    subst en
    obtain ⟨F, hF, i⟩ := sp_along h h' hn (mids_lt m1) (mids_lt m2) (by rw [q1, q2, e])
    refine ⟨F, ?_, i⟩
    unfold s_likeness
    refine runF_eq rfl ?_
    rw [e] at h1 p1
    generalize codeH rs' m0 n = t at *
    simp only [d_likeness, startEnv]
    simp [h1, h2, p1, p2, b1, b2, hF]
  · intro ne
    unfold s_likeness
    refine runF_eq rfl ?_
    generalize codeH rs m0 n = t at *
    generalize codeH rs' m0 n' = t' at *
    simp only [d_likeness, startEnv]
    by_cases c : n = n'
    · subst c; simp [h1, h2, p1, p2, ne]
    · simp [c]
end Hg
end

section
set_option autoImplicit false
set_option maxHeartbeats 1000000
/-! Ptrn: turnings_at. -/
namespace Hg
theorem ev_alike {C : Nat → List D → Option D} {n : Nat} {c : Nat → List Nat} {row : List Nat} (hC34 : C 34 = s_runs) (hC33 : C 33 = s_times_alike) {so : List D → Option D} (hC35 : C 35 = so) (hso : ∀ k, k < 1000 → so [nD k] = some (nD (fct k))) (d0 d1 d3 : D)
    (hlt : ∀ x ∈ row, x < n) (hl : row.length ≤ 18) :
    ev C (.call 33 [] (.cons (.comp false (.call 35 [] (.cons (.var 5) (.nil))) (.nm 5) (.lst (.call 34 [] (.cons (.comp false (.ix (.var 2) (.var 6)) (.nm 6) (.lst (.var 4)) (.yes)) (.nil)))) (.yes)) (.nil))) [.val d0 .frz, .val d1 .frz, .val (csD n c) .frz, .val d3 .frz, .val (nsD row) .frz, .un, .un] = some (nD (FF (row.map c)), .frz) := by
  have hl2 : (row.map c).length ≤ 18 := by rw [List.length_map]; exact hl
  have hdl : (dd (row.map c)).length ≤ 18 := Nat.le_trans (dd_len _) hl2
  have e1 : ev C (.comp false (.ix (.var 2) (.var 6)) (.nm 6) (.lst (.var 4)) (.yes)) [.val d0 .frz, .val d1 .frz, .val (csD n c) .frz, .val d3 .frz, .val (nsD row) .frz, .un, .un] = some (.lst ((row.map c).map D.str), .new1) := by
    rw [ev_compM row nD (fun x => D.str (c x)) (own := false)]
    · rw [List.map_map]; rfl
    · simp [nsD]
    · intro x hx
      refine ⟨_, rfl, .frz, ?_, rfl⟩
      simp [ixV_cs c .frz (hlt x hx)]
    · rw [L_eq]; omega
  have er : s_runs [.lst ((row.map c).map D.str)] = _ := sp_runs (cs := row.map c) (by rw [L_eq]; omega)
  have et : s_times_alike [nsD (((dd (row.map c)).map fun t => cnt t (row.map c)).map fct)] = some (nD (FF (row.map c))) := by
    rw [sp_times]
    · rw [pr_map, pr_map]; unfold FF cnt; simp only [id]
    · rw [List.length_map, List.length_map, L_eq]; omega
    · intro x hx
      obtain ⟨k, hk, rfl⟩ := List.mem_map.mp hx
      obtain ⟨t, ht, rfl⟩ := List.mem_map.mp hk
      exact fct_small (Nat.le_trans (cnt_le t _) hl2)
  have eo : ∀ k ∈ (dd (row.map c)).map (fun t => cnt t (row.map c)), so [nD k] = some (nD (fct k)) := fun k hk => by
    obtain ⟨t, ht, rfl⟩ := List.mem_map.mp hk
    have := cnt_le t (row.map c)
    exact hso _ (by omega)
  generalize hK : (dd (row.map c)).map (fun t => cnt t (row.map c)) = ks at er et eo
  have hkl : ks.length < L := by rw [← hK, List.length_map, L_eq]; omega
  generalize (row.map c).map D.str = cd at e1 er
  generalize FF (row.map c) = fv at et
  have e2 : ev C (.comp false (.call 35 [] (.cons (.var 5) (.nil))) (.nm 5) (.lst (.call 34 [] (.cons (.comp false (.ix (.var 2) (.var 6)) (.nm 6) (.lst (.var 4)) (.yes)) (.nil)))) (.yes)) [.val d0 .frz, .val d1 .frz, .val (csD n c) .frz, .val d3 .frz, .val (nsD row) .frz, .un, .un] = some (nsD (ks.map fct), .new1) := by
    rw [ev_compM ks nD (fun k => nD (fct k)) (own := false)]
    · simp [nsD, Function.comp_def]
    · show evI C _ [.val d0 .frz, .val d1 .frz, .val (csD n c) .frz, .val d3 .frz, .val (nsD row) .frz, .un, .un] = _
      simp only [q_evI_lst]
      simp [e1, hC34, er]
    · intro k hk
      have q := eo k hk
      have q2 : vm (some (nD (fct k), .frz)) = some (nD (fct k)) := by simp
      generalize nD k = dk at q ⊢
      generalize nD (fct k) = fk at q q2 ⊢
      refine ⟨_, rfl, .frz, ?_, q2⟩
      simp [hC35, q]
    · exact hkl
  generalize ks.map fct = fs at e2 et
  simp [e2, hC33, et]
theorem sp_turnings_at {n r : Nat} {rs : List (Nat × Nat)} (h : Hedge n rs) (hn : n ≤ 18) (hr : r < n) : s_turnings_at [hD n rs, nD r] = some (nD (tv rs none r)) := by
  obtain ⟨ps, p1, cm, b1⟩ := sp_branch_codes h (by omega) hr
  have o1 := sp_order_of h (by omega) hr p1 cm (cAll m0 ps.reverse).2
  have k1 := cAll_cd h hr cm (m := m0) (c := 0) fun _ _ => rfl
  generalize (cAll m0 ps.reverse).2 = c at b1 o1 k1
  have hall := tv_all h (by omega) hr cm k1
  have hlen := h.len
  unfold s_turnings_at
  refine runF_eq rfl ?_
  simp only [d_turnings_at, startEnv]
  simp [b1]
  refine for_step ((List.range n).map (brOf rs ps c)) nsD (fun b : Nat => [.val (hD n rs) .frz, .val (nD r) .frz, .val (csD n c) .frz, .val (nD b) .frz, .un, .un, .un]) (fun pre b => b = pr pre fun row => FF (row.map c)) 1 ?_ rfl rfl ?_ ?_
  · simp [o1, rowsD]
  · rintro pre row post b e hb
    have hrow : row ∈ (List.range n).map (brOf rs ps c) := by rw [e]; simp
    obtain ⟨v, hv, rfl⟩ := List.mem_map.mp hrow
    have hv := List.mem_range.mp hv
    have hlt : ∀ x ∈ brOf rs ps c v, x < n := fun x hx => (h.adj_lt (kid_adj h (brOf_mem.mp hx))).2.1
    have hl : (brOf rs ps c v).length ≤ 18 := by
      have hnd : (brOf rs ps c v).Nodup := (sortK_perm _ _).nodup_iff.mpr ((h.forest.nb_nodup v).filter _)
      have := nodup_len hnd hlt
      omega
    generalize brOf rs ps c v = row at hlt hl e
    have key := ev_alike (C := calls [(26, s_branch_codes), (32, s_order_of), (33, s_times_alike), (34, s_runs), (35, s_orders)]) (n := n) (c := c) (row := row) (by funext x; simp) (by funext x; simp) (so := s_orders) (by funext x; simp) (fun k hk => sp_orders hk) (hD n rs) (nD r) (nD b) hlt hl
    have hF : FF (row.map c) < 2 ^ 64 := Nat.lt_of_le_of_lt (FF_le _) (fct_small (by rw [List.length_map]; exact hl))
    refine ⟨b * FF (row.map c), ?_, by rw [hb, pr_append]; simp⟩
    simp [key, mulN (b := b) hF]
  · intro b hb
    subst hb
    rw [pr_map, hall]
    simp
end Hg
end

section
set_option autoImplicit false
set_option maxHeartbeats 1000000
/-! Lex: lists of numbers in order. -/
namespace Hg
theorem lexI_lt : ∀ x y : List Int, decide (x < y) = lexI x y
  | [], [] => by simp [lexI]
  | [], _ :: _ => by simp [lexI]
  | _ :: _, [] => by simp [lexI]
  | a :: x, b :: y => by
    unfold lexI
    by_cases h : a = b
    · subst h
      rw [if_pos rfl, ← lexI_lt x y]
      exact decide_eq_decide.mpr (by simp [List.cons_lt_cons_iff])
    · rw [if_neg h]
      refine decide_eq_decide.mpr ?_
      rw [List.cons_lt_cons_iff]
      constructor
      · rintro (q | ⟨q, _⟩)
        · exact q
        · exact absurd q h
      · exact .inl
def icast (x : List Nat) : List Int := x.map fun k : Nat => (k : Int)
def ltW (x y : List Nat) : Bool := lexI (icast x) (icast y)
theorem ltW_irr (x : List Nat) : ltW x x = false := by
  unfold ltW; rw [← lexI_lt]; simp
theorem ltW_tr {x y z : List Nat} (h1 : ltW x y = true) (h2 : ltW z y = false) : ltW z x = false := by
  unfold ltW at *
  rw [← lexI_lt] at *
  simp only [decide_eq_true_eq, decide_eq_false_iff_not] at *
  exact fun h3 => h2 (List.lt_trans h3 h1)
theorem ltD_ns (x y : List Nat) : ltD (nsD x) (nsD y) = some (ltW x y) := by
  show (intsD (x.map nD)).bind (fun ns => (intsD (y.map nD)).bind fun ms => some (lexI ns ms)) = _
  rw [intsD_nD, intsD_nD]; rfl
end Hg
end

section
set_option autoImplicit false
set_option maxHeartbeats 1000000
/-! Plw: what long_way tells. -/
namespace Hg
noncomputable def diam (rs : List (Nat × Nat)) (n : Nat) : Nat := mx ((List.range n).map (reach rs n))
def bestD : Option (List Nat) → D | none => .non | some L => nsD L
@[simp] theorem isNon_ns (L : List Nat) : (nsD L).isNon = false := rfl
/-- the best so far -/
structure BLw (n : Nat) (rs : List (Nat × Nat)) (P : Nat → Nat → Prop) (b : Option (List Nat)) : Prop where
  way : ∀ L, b = some L → ∃ s e, s < n ∧ e < n ∧ dist rs s e = diam rs n ∧ Way rs e s L
  all : ∀ s e, P s e → dist rs s e = diam rs n → ∃ L, b = some L ∧ ∀ W, Way rs e s W → ltW W L = false
theorem BLw.imp {n : Nat} {rs : List (Nat × Nat)} {P P' : Nat → Nat → Prop} {b : Option (List Nat)} (h : BLw n rs P b) (hp : ∀ s e, P' s e → P s e) : BLw n rs P' b := ⟨h.way, fun s e q => h.all s e (hp s e q)⟩
theorem dist_le_reach {n : Nat} {rs : List (Nat × Nat)} {v x : Nat} (hx : x < n) : dist rs v x ≤ reach rs n v := by
  have h : ∀ (xs : List Nat) (a : Nat), a ≤ xs.foldl max a ∧ ∀ y ∈ xs, y ≤ xs.foldl max a := by
    intro xs
    induction xs with
    | nil => intro a; simp
    | cons x xs ih =>
      intro a
      rw [List.foldl_cons]
      obtain ⟨h1, h2⟩ := ih (max a x)
      refine ⟨by omega, fun y hy => ?_⟩
      rcases List.mem_cons.mp hy with rfl | hy
      · omega
      · exact h2 y hy
  exact (h _ 0).2 _ (List.mem_map.mpr ⟨x, List.mem_range.mpr hx, rfl⟩)
theorem reach_le_diam {n : Nat} {rs : List (Nat × Nat)} {v : Nat} (hv : v < n) : reach rs n v ≤ diam rs n := by
  have h : ∀ (xs : List Nat) (a : Nat), a ≤ xs.foldl max a ∧ ∀ y ∈ xs, y ≤ xs.foldl max a := by
    intro xs
    induction xs with
    | nil => intro a; simp
    | cons x xs ih =>
      intro a
      rw [List.foldl_cons]
      obtain ⟨h1, h2⟩ := ih (max a x)
      refine ⟨by omega, fun y hy => ?_⟩
      rcases List.mem_cons.mp hy with rfl | hy
      · omega
      · exact h2 y hy
  exact (h _ 0).2 _ (List.mem_map.mpr ⟨v, List.mem_range.mpr hv, rfl⟩)
theorem mx_mem : ∀ {xs : List Nat}, xs ≠ [] → mx xs ∈ xs := by
  have h : ∀ (xs : List Nat) (a : Nat), xs.foldl max a ∈ a :: xs := by
    intro xs
    induction xs with
    | nil => intro a; simp
    | cons x xs ih =>
      intro a
      rw [List.foldl_cons]
      rcases List.mem_cons.mp (ih (max a x)) with q | q
      · rw [q]
        by_cases c : a ≤ x
        · rw [Nat.max_eq_right c]; simp
        · rw [Nat.max_eq_left (by omega)]; simp
      · exact List.mem_cons_of_mem _ (List.mem_cons_of_mem _ q)
  intro xs hne
  cases xs with
  | nil => exact absurd rfl hne
  | cons x xs =>
    unfold mx
    rw [List.foldl_cons, Nat.zero_max]
    exact h xs x
theorem diam_pair {n : Nat} {rs : List (Nat × Nat)} (h : 0 < n) : ∃ s e, s < n ∧ e < n ∧ dist rs s e = diam rs n := by
  have h1 := mx_mem (range_ne h (reach rs n))
  obtain ⟨s, hs, e1⟩ := List.mem_map.mp h1
  have h2 := mx_mem (range_ne h (dist rs s))
  obtain ⟨e, he, e2⟩ := List.mem_map.mp h2
  exact ⟨s, e, List.mem_range.mp hs, List.mem_range.mp he, e2.trans e1⟩
theorem sp_long_way {n : Nat} {rs : List (Nat × Nat)} (h : Hedge n rs) (hn : n ≤ 1000) : ∃ L, s_long_way [hD n rs] = some (nsD L) ∧ BLw n rs (fun s e => s < n ∧ e < n) (some L) := by
  have key : ∃ d, s_long_way [hD n rs] = some d ∧ ∃ L, d = nsD L ∧ BLw n rs (fun s e => s < n ∧ e < n) (some L) := by
    refine runF_R rfl ?_
    simp only [d_long_way, startEnv]
    simp [sp_reaches h hn, maxV_N (range_ne h.pos _)]
    have hd : mx ((List.range n).map (reach rs n)) = diam rs n := rfl
    rw [hd]
    refine for_R (R := fun o => ∃ d, o = some (.rt d) ∧ ∃ L, d = nsD L ∧ BLw n rs (fun s e => s < n ∧ e < n) (some L)) (List.range n) nD
      (fun b : Option (List Nat) => [.val (hD n rs) .frz, .val (nD (diam rs n)) .frz, .val (bestD b) .frz, .un, .un, .un, .un])
      (fun pre b => BLw n rs (fun s e => s ∈ pre ∧ e < n) b) none (evI_rng rfl (by omega)) rfl ⟨by simp, by simp⟩ ?_ ?_
    · intro pre s post b e hb
      obtain ⟨q1, q2, q3⟩ := range_split e
      have hs : s < n := by omega
      have hl := sp_lengths h hn hs
      simp [hl]
      refine for_R (R := fun o => ∃ b', o = some (.nx [.val (hD n rs) .frz, .val (nD (diam rs n)) .frz, .val (bestD b') .frz, .un, .un, .un, .un]) ∧ BLw n rs (fun x e => (x ∈ pre ∨ x = s) ∧ e < n) b') (List.range n) nD
        (fun b : Option (List Nat) => [.val (hD n rs) .frz, .val (nD (diam rs n)) .frz, .val (bestD b) .frz, .val (nD s) .frz, .val (nsD ((List.range n).map (dist rs s))) .frz, .un, .un])
        (fun pre2 b => BLw n rs (fun x e => (x ∈ pre ∧ e < n) ∨ (x = s ∧ e ∈ pre2)) b) b (evI_rng rfl (by omega)) rfl (hb.imp fun x e q => by simpa using q) ?_ ?_
      · intro pre2 t post2 b2 e2 hb2
        obtain ⟨r1, r2, r3⟩ := range_split e2
        have ht : t < n := by omega
        obtain ⟨W, hw, w⟩ := sp_way h hn hs ht
        by_cases c : dist rs s t = diam rs n
        · cases b2 with
          | none =>
            refine ⟨some W, by simp [ht, c, PD8, hw, bestD], ⟨fun L hL => by cases hL; exact ⟨s, t, hs, ht, c, w⟩, fun x y q hd' => ?_⟩⟩
            rcases q with q | ⟨rfl, q⟩
            · obtain ⟨L, hL, _⟩ := hb2.all x y (.inl q) hd'
              cases hL
            · rw [List.mem_append] at q
              rcases q with q | q
              · obtain ⟨L, hL, _⟩ := hb2.all x y (.inr ⟨rfl, q⟩) hd'
                cases hL
              · simp at q
                subst q
                refine ⟨W, rfl, fun W' w' => ?_⟩
                rw [w.uniq h ht _ w']
                exact ltW_irr _
          | some L =>
            by_cases c2 : ltW W L = true
            · refine ⟨some W, by simp [ht, c, PD8, hw, bestD, ltD_ns, c2], ⟨fun L hL => by cases hL; exact ⟨s, t, hs, ht, c, w⟩, fun x y q hd' => ?_⟩⟩
              have old : (x ∈ pre ∧ y < n) ∨ (x = s ∧ y ∈ pre2) → ∃ L, some W = some L ∧ ∀ W', Way rs y x W' → ltW W' L = false := by
                intro q
                obtain ⟨L', hL, hall⟩ := hb2.all x y q hd'
                cases hL
                exact ⟨W, rfl, fun W' w' => ltW_tr c2 (hall W' w')⟩
              rcases q with q | ⟨rfl, q⟩
              · exact old (.inl q)
              · rw [List.mem_append] at q
                rcases q with q | q
                · exact old (.inr ⟨rfl, q⟩)
                · simp at q
                  subst q
                  refine ⟨W, rfl, fun W' w' => ?_⟩
                  rw [w.uniq h ht _ w']
                  exact ltW_irr _
            · have c2 : ltW W L = false := by simpa using c2
              refine ⟨some L, by simp [ht, c, PD8, hw, bestD, ltD_ns, c2], ⟨hb2.way, fun x y q hd' => ?_⟩⟩
              rcases q with q | ⟨rfl, q⟩
              · exact hb2.all x y (.inl q) hd'
              · rw [List.mem_append] at q
                rcases q with q | q
                · exact hb2.all x y (.inr ⟨rfl, q⟩) hd'
                · simp at q
                  subst q
                  refine ⟨L, rfl, fun W' w' => ?_⟩
                  rw [w'.uniq h ht _ w]
                  exact c2
        · refine ⟨b2, by simp [ht, c, PD8], ⟨hb2.way, fun x y q hd' => ?_⟩⟩
          rcases q with q | ⟨rfl, q⟩
          · exact hb2.all x y (.inl q) hd'
          · rw [List.mem_append] at q
            rcases q with q | q
            · exact hb2.all x y (.inr ⟨rfl, q⟩) hd'
            · simp at q
              subst q
              exact absurd hd' c
      · intro b2 hb2
        refine ⟨b2, by simp, hb2.imp fun x e q => ?_⟩
        rcases q with ⟨q | q, r⟩
        · exact .inl ⟨q, r⟩
        · exact .inr ⟨q, List.mem_range.mpr r⟩
    · intro b hb
      obtain ⟨s, e, hs, he, hd'⟩ := diam_pair (rs := rs) h.pos
      obtain ⟨L, rfl, _⟩ := hb.all s e ⟨List.mem_range.mpr hs, he⟩ hd'
      exact ⟨nsD L, by simp [bestD], L, rfl, hb.imp fun x e q => ⟨List.mem_range.mpr q.1, q.2⟩⟩
  obtain ⟨d, h1, L, h2, h3⟩ := key
  exact ⟨L, h2 ▸ h1, h3⟩
end Hg
end

section
set_option autoImplicit false
set_option maxHeartbeats 1000000
/-! Med: betweenness; the one knot between three. -/
namespace Hg
theorem countP_btw : ∀ (xs : List (Nat × Nat)) (p q r : Nat × Nat → Bool), (∀ x ∈ xs, r x = (p x != q x)) → xs.countP r ≤ xs.countP p + xs.countP q ∧ (xs.countP p + xs.countP q = xs.countP r ↔ ∀ x ∈ xs, ¬(p x = true ∧ q x = true))
  | [], _, _, _, _ => by simp
  | x :: xs, p, q, r, h => by
    obtain ⟨ih1, ih2⟩ := countP_btw xs p q r fun y hy => h y (List.mem_cons_of_mem _ hy)
    have h1 := h x (List.mem_cons_self ..)
    rw [List.forall_mem_cons, ← ih2]
    simp only [List.countP_cons]
    clear ih2 h
    generalize xs.countP p = P at *
    generalize xs.countP q = Q at *
    generalize xs.countP r = R at *
    rw [h1]
    cases hp : p x <;> cases hq : q x <;> simp <;> omega
theorem btw_iff (rs : List (Nat × Nat)) (a x b : Nat) : dist rs a x + dist rs x b = dist rs a b ↔ ∀ e ∈ rs, side rs e a = side rs e b → side rs e x = side rs e a := by
  unfold dist
  rw [(countP_btw rs _ _ _ ?_).2]
  · constructor
    · intro h e he hab
      have := h e he
      revert this hab
      cases side rs e a <;> cases side rs e b <;> cases side rs e x <;> simp
    · intro h e he
      have := h e he
      revert this
      cases side rs e a <;> cases side rs e b <;> cases side rs e x <;> simp
  · intro e he
    cases side rs e a <;> cases side rs e b <;> cases side rs e x <;> rfl
def maj (a b c : Bool) : Bool := (a && b) || (a && c) || (b && c)
theorem Tr.median {vs : List Nat} {es : List (Nat × Nat)} (h : Tr vs es) (c : Nat × Nat → Nat → Bool) :
    (∀ e ∈ es, c e e.1 ≠ c e e.2) → (∀ e ∈ es, ∀ e' ∈ es, e' ≠ e → c e e'.1 = c e e'.2) → ∀ a ∈ vs, ∀ b ∈ vs, ∀ d ∈ vs, ∃ x ∈ vs, ∀ e ∈ es, c e x = maj (c e a) (c e b) (c e d) := by
  induction h with
  | one v =>
    intro _ _ a ha b hb d hd
    exact ⟨v, by simp, by simp⟩
  | @add vs es u v h hu hv ih =>
    intro h1 h2 a ha b hb d hd
    have huv : u ≠ v := fun e => hv (e ▸ hu)
    have hmem := h.mem
    have hne0 : ∀ e ∈ es, (min u v, max u v) ≠ e := by
      intro e he q
      obtain ⟨m1, m2, _⟩ := hmem e he
      rw [← q] at m1 m2
      by_cases z : u ≤ v
      · rw [Nat.max_eq_right z] at m2; exact hv m2
      · rw [Nat.min_eq_right (by omega)] at m1; exact hv m1
    have hcv : ∀ e ∈ es, c e v = c e u := by
      intro e he
      have := h2 e (List.mem_cons_of_mem _ he) _ (List.mem_cons_self ..) (hne0 e he)
      simp only at this
      by_cases z : u ≤ v
      · rw [Nat.min_eq_left z, Nat.max_eq_right z] at this; exact this.symm
      · rw [Nat.min_eq_right (by omega), Nat.max_eq_left (by omega)] at this; exact this
    have h00 : c (min u v, max u v) u ≠ c (min u v, max u v) v := by
      have := h1 _ (List.mem_cons_self ..)
      simp only at this
      by_cases z : u ≤ v
      · rw [Nat.min_eq_left z, Nat.max_eq_right z] at this ⊢; exact this
      · rw [Nat.min_eq_right (by omega), Nat.max_eq_left (by omega)] at this ⊢; exact this.symm
    have hall : ∀ x ∈ vs, c (min u v, max u v) x = c (min u v, max u v) u := by
      intro x hx
      have := (h.conn (fun x => c (min u v, max u v) x = c (min u v, max u v) u) (fun e he => ?_) x hx u hu).mpr rfl
      · exact this
      · have := h2 _ (List.mem_cons_self ..) e (List.mem_cons_of_mem _ he) (hne0 e he).symm
        rw [this]
    obtain ⟨f, hf⟩ : ∃ f : Nat → Nat, ∀ x, f x = if x = v then u else x := ⟨_, fun _ => rfl⟩
    have hfm : ∀ x ∈ v :: vs, f x ∈ vs := by
      intro x hx
      rw [hf]
      by_cases z : x = v
      · rw [if_pos z]; exact hu
      · rw [if_neg z]; rcases List.mem_cons.mp hx with q | q; exact absurd q z; exact q
    have hfc : ∀ x, ∀ e ∈ es, c e (f x) = c e x := by
      intro x e he
      rw [hf]
      by_cases z : x = v
      · rw [if_pos z, z]; exact (hcv e he).symm
      · rw [if_neg z]
    have hx0 : ∀ x ∈ v :: vs, x ≠ v → c (min u v, max u v) x = c (min u v, max u v) u := by
      intro x hx z
      rcases List.mem_cons.mp hx with q | q
      · exact absurd q z
      · exact hall x q
    by_cases two : (a = v ∧ b = v) ∨ (a = v ∧ d = v) ∨ (b = v ∧ d = v)
    · refine ⟨v, List.mem_cons_self .., fun e he => ?_⟩
      have : ∀ p q : Bool, p = maj p p q ∧ p = maj p q p ∧ p = maj q p p := by
        intro p q; cases p <;> cases q <;> decide
      rcases two with ⟨rfl, rfl⟩ | ⟨rfl, rfl⟩ | ⟨rfl, rfl⟩
      · exact (this _ _).1
      · exact (this _ _).2.1
      · exact (this _ _).2.2
    · obtain ⟨x, hx, hxe⟩ := ih (fun e he => h1 e (List.mem_cons_of_mem _ he)) (fun e he e' he' => h2 e (List.mem_cons_of_mem _ he) e' (List.mem_cons_of_mem _ he')) (f a) (hfm a ha) (f b) (hfm b hb) (f d) (hfm d hd)
      refine ⟨x, List.mem_cons_of_mem _ hx, fun e he => ?_⟩
      rcases List.mem_cons.mp he with rfl | he
      · rw [hall x hx]
        have : ∀ p q : Bool, p = maj p p q ∧ p = maj p q p ∧ p = maj q p p := by
          intro p q; cases p <;> cases q <;> decide
        by_cases z1 : a = v
        · have z2 : b ≠ v := fun q => two (.inl ⟨z1, q⟩)
          have z3 : d ≠ v := fun q => two (.inr (.inl ⟨z1, q⟩))
          rw [hx0 b hb z2, hx0 d hd z3]
          exact (this _ _).2.2
        · rw [hx0 a ha z1]
          by_cases z2 : b = v
          · have z3 : d ≠ v := fun q => two (.inr (.inr ⟨z2, q⟩))
            rw [hx0 d hd z3]
            exact (this _ _).2.1
          · rw [hx0 b hb z2]
            exact (this _ _).1
      · rw [hxe e he, hfc a e he, hfc b e he, hfc d e he]
namespace Hedge
variable {n : Nat} {rs : List (Nat × Nat)}
theorem median (h : Hedge n rs) {a b d : Nat} (ha : a < n) (hb : b < n) (hd : d < n) : ∃ x, x < n ∧ ∀ e ∈ rs, side rs e x = maj (side rs e a) (side rs e b) (side rs e d) := by
  obtain ⟨vs, es, h1, h2, h3⟩ := h.tr
  have hm : ∀ x, x < n → x ∈ vs := fun x hx => h2.mem_iff.mpr (List.mem_range.mpr hx)
  obtain ⟨x, hx, hxe⟩ := h1.median (side rs) (fun e he => h.side_ne (h3.mem_iff.mp he)) (fun e he e' he' hne => h.side_eq (h3.mem_iff.mp he) (h3.mem_iff.mp he') hne) a (hm a ha) b (hm b hb) d (hm d hd)
  exact ⟨x, List.mem_range.mp (h2.mem_iff.mp hx), fun e he => hxe e (h3.mem_iff.mpr he)⟩
theorem sides_eq (h : Hedge n rs) {x y : Nat} (hx : x < n) (hy : y < n) (he : ∀ e ∈ rs, side rs e x = side rs e y) : x = y := by
  apply h.dist_zero hx hy
  unfold dist
  rw [List.countP_eq_zero]
  intro e hm
  simp [he e hm]
end Hedge
/-- on the ways between each two of three -/
def OnAll (rs : List (Nat × Nat)) (a b d x : Nat) : Prop := dist rs a x + dist rs x b = dist rs a b ∧ dist rs a x + dist rs x d = dist rs a d ∧ dist rs b x + dist rs x d = dist rs b d
theorem onAll_iff {n : Nat} {rs : List (Nat × Nat)} (a b d x : Nat) : OnAll rs a b d x ↔ ∀ e ∈ rs, side rs e x = maj (side rs e a) (side rs e b) (side rs e d) := by
  unfold OnAll
  rw [btw_iff, btw_iff, btw_iff]
  constructor
  · rintro ⟨h1, h2, h3⟩ e he
    have h1 := h1 e he
    have h2 := h2 e he
    have h3 := h3 e he
    revert h1 h2 h3
    cases side rs e a <;> cases side rs e b <;> cases side rs e d <;> cases side rs e x <;> simp [maj]
  · intro h
    refine ⟨fun e he => ?_, fun e he => ?_, fun e he => ?_⟩ <;>
    · have h := h e he
      revert h
      cases side rs e a <;> cases side rs e b <;> cases side rs e d <;> cases side rs e x <;> simp [maj]
/-- there is one, and one only -/
theorem median_one {n : Nat} {rs : List (Nat × Nat)} (h : Hedge n rs) {a b d : Nat} (ha : a < n) (hb : b < n) (hd : d < n) : ∃ m, m < n ∧ ∀ x, x < n → (OnAll rs a b d x ↔ x = m) := by
  obtain ⟨m, hm, he⟩ := h.median ha hb hd
  refine ⟨m, hm, fun x hx => ?_⟩
  rw [onAll_iff (n := n)]
  constructor
  · intro hxe
    exact h.sides_eq hx hm fun e h1 => by rw [hxe e h1, he e h1]
  · rintro rfl; exact he
end Hg
end

section
set_option autoImplicit false
set_option maxHeartbeats 1000000
/-! Mid2: the middle stands in the middle of each longest way. Plain mathematics. -/
namespace Hg
section
variable {n : Nat} {rs : List (Nat × Nat)}
/-- of three knots: the three lengths together are even -/
theorem dist_par (rs : List (Nat × Nat)) (x y z : Nat) : (dist rs x y + dist rs y z + dist rs x z) % 2 = 0 := by
  unfold dist
  have key : ∀ xs : List (Nat × Nat), (xs.countP (fun e => side rs e x != side rs e y) + xs.countP (fun e => side rs e y != side rs e z) + xs.countP (fun e => side rs e x != side rs e z)) % 2 = 0 := by
    intro xs
    induction xs with
    | nil => rfl
    | cons e xs ih =>
      rw [List.countP_cons, List.countP_cons, List.countP_cons]
      cases side rs e x <;> cases side rs e y <;> cases side rs e z <;> simp <;> omega
  exact key rs
theorem adj_dist (h : Hedge n rs) {u v : Nat} (a : Adj rs u v) : dist rs u v = 1 := by
  have := h.dist_adj_or a u
  rw [dist_self] at this
  omega
theorem Way.at (h : Hedge n rs) {b x : Nat} {p : List Nat} (w : Way rs b x p) : ∀ k u, p[k]? = some u → dist rs b u + k = dist rs b x ∧ dist rs x u = k := by
  have key : ∀ k u, p[k]? = some u → dist rs b u + k = dist rs b x ∧ dist rs x u ≤ k := by
    induction w with
    | nil =>
      intro k u hk
      cases k with
      | zero => simp at hk; subst hk; simp [dist_self]
      | succ k => simp at hk
    | @cons x y p a d w ih =>
      intro k u hk
      cases k with
      | zero => simp at hk; subst hk; simp [dist_self]
      | succ k =>
        obtain ⟨h1, h2⟩ := ih k u (by simpa using hk)
        have h3 := dist_tri rs x y u
        have h4 := adj_dist h a
        omega
  intro k u hk
  obtain ⟨h1, h2⟩ := key k u hk
  have h3 := dist_tri rs x u b
  rw [dist_comm rs u b, dist_comm rs x b] at h3
  omega
theorem Way.near (h : Hedge n rs) {b x : Nat} {p : List Nat} (w : Way rs b x p) : ∀ d j u v, p[j]? = some u → p[j + d]? = some v → dist rs u v ≤ d := by
  intro d
  induction d with
  | zero =>
    intro j u v hu hv
    rw [Nat.add_zero, hu] at hv
    cases hv
    rw [dist_self]; omega
  | succ d ih =>
    intro j u v hu hv
    have hl : j + d < p.length := by
      have := (List.getElem?_eq_some_iff.mp hv).1; omega
    have hm : p[j + d]? = some p[j + d] := List.getElem?_eq_getElem hl
    have h1 := ih j u _ hu hm
    have h2 := w.chain (j + d) _ _ hm hv
    have h3 := dist_tri rs u p[j + d] v
    have h4 := adj_dist h h2.1
    omega
/-- a knot between the two ends stands on the way -/
theorem Way.on (h : Hedge n rs) {a b z : Nat} {p : List Nat} (ha : a < n) (hb : b < n) (hz : z < n) (w : Way rs b a p) (hd : dist rs a z + dist rs z b = dist rs a b) : p[dist rs a z]? = some z := by
  obtain ⟨p1, w1⟩ := Way.ex h hb _ z hz rfl
  obtain ⟨p2, w2⟩ := Way.ex h ha _ z hz rfl
  have w3 := Way.rev_aux h w1 p2 w2 (by rw [dist_comm rs b z]; omega)
  have w4 := w.rev h
  have e := w4.uniq h ha _ w3
  have hm : z ∈ p := by
    rw [← List.mem_reverse, e]
    obtain ⟨t, rfl⟩ := w1.head
    simp
  obtain ⟨k, hk, hkz⟩ := List.mem_iff_getElem.mp hm
  have hk2 : p[k]? = some z := by rw [List.getElem?_eq_getElem hk, hkz]
  have := (w.at h k z hk2).2
  rw [this]; exact hk2
/-- what is known of a longest way -/
theorem reach_mid (h : Hedge n rs) {a b : Nat} {p : List Nat} (ha : a < n) (hb : b < n) (w : Way rs b a p) (hd : dist rs a b = diam rs n) {k m : Nat} (hk : p[k]? = some m) : reach rs n m ≤ max k (diam rs n - k) := by
  have hm : m < n := w.lt h hb m (List.mem_of_getElem? hk)
  obtain ⟨h1, h2⟩ := w.at h k m hk
  rw [dist_comm rs b a] at h1
  unfold reach
  rw [mx_le]
  intro y' hy'
  obtain ⟨y, hy, rfl⟩ := List.mem_map.mp hy'
  have hy := List.mem_range.mp hy
  obtain ⟨z, hz, hall⟩ := median_one h ha hb hy
  obtain ⟨g1, g2, g3⟩ := (hall z hz).mpr rfl
  have hon := w.on h ha hb hz g1
  have d1 : dist rs a y ≤ diam rs n := Nat.le_trans (dist_le_reach hy) (reach_le_diam ha)
  have d2 : dist rs b y ≤ diam rs n := Nat.le_trans (dist_le_reach hy) (reach_le_diam hb)
  have t1 := dist_tri rs m z y
  rw [dist_comm rs b z] at g3
  by_cases c : dist rs a z ≤ k
  · have := w.near h (k - dist rs a z) (dist rs a z) z m hon (by rw [show dist rs a z + (k - dist rs a z) = k by omega]; exact hk)
    rw [dist_comm rs m z] at t1
    omega
  · have := w.near h (dist rs a z - k) k m z hk (by rw [show k + (dist rs a z - k) = dist rs a z by omega]; exact hon)
    omega
theorem reach_low (h : Hedge n rs) {a b : Nat} (ha : a < n) (hb : b < n) (hd : dist rs a b = diam rs n) (v : Nat) : (diam rs n + 1) / 2 ≤ reach rs n v := by
  have h1 := dist_tri rs a v b
  have h2 : dist rs v a ≤ reach rs n v := dist_le_reach ha
  have h3 : dist rs v b ≤ reach rs n v := dist_le_reach hb
  rw [dist_comm rs a v] at h1
  omega
theorem mem_mids {v : Nat} (h0 : 0 < n) : v ∈ mids rs n ↔ v < n ∧ ∀ x, x < n → reach rs n v ≤ reach rs n x := by
  obtain ⟨h1, h2⟩ := mn_spec (range_ne h0 (reach rs n))
  unfold mids
  rw [List.mem_filter, List.mem_range, decide_eq_true_eq]
  constructor
  · rintro ⟨hv, e⟩
    refine ⟨hv, fun x hx => ?_⟩
    rw [e]
    exact h2 _ (List.mem_map.mpr ⟨x, List.mem_range.mpr hx, rfl⟩)
  · rintro ⟨hv, hm⟩
    refine ⟨hv, Nat.le_antisymm ?_ (h2 _ (List.mem_map.mpr ⟨v, List.mem_range.mpr hv, rfl⟩))⟩
    obtain ⟨x, hx, e⟩ := List.mem_map.mp h1
    rw [← e]
    exact hm x (List.mem_range.mp hx)
/-- the middle: the one or two knots in the middle of a longest way -/
theorem mids_iff (h : Hedge n rs) {a b : Nat} {p : List Nat} (ha : a < n) (hb : b < n) (w : Way rs b a p) (hd : dist rs a b = diam rs n) (v : Nat) : v ∈ mids rs n ↔ p[diam rs n / 2]? = some v ∨ p[(diam rs n + 1) / 2]? = some v := by
  have hpl := w.len
  rw [dist_comm rs b a, hd] at hpl
  have hlow := reach_low h ha hb hd
  have hle : ∀ k m, (k = diam rs n / 2 ∨ k = (diam rs n + 1) / 2) → p[k]? = some m → reach rs n m ≤ (diam rs n + 1) / 2 := by
    intro k m hk hm
    have := reach_mid h ha hb w hd hm
    omega
  rw [mem_mids h.pos]
  constructor
  · rintro ⟨hv, hm⟩
    have hk1 : p[diam rs n / 2]? = some p[diam rs n / 2] := List.getElem?_eq_getElem (by omega)
    have h1 := hm _ (w.lt h hb _ (List.mem_of_getElem? hk1))
    have h2 := hle _ _ (.inl rfl) hk1
    have h3 : dist rs v a ≤ reach rs n v := dist_le_reach ha
    have h4 : dist rs v b ≤ reach rs n v := dist_le_reach hb
    have h5 := dist_tri rs a v b
    have h6 := dist_par rs a v b
    rw [dist_comm rs v a] at h3
    have h7 : dist rs a v + dist rs v b = dist rs a b := by omega
    have h8 := w.on h ha hb hv h7
    by_cases c : dist rs a v = diam rs n / 2
    · left; rw [← c]; exact h8
    · right
      have : dist rs a v = (diam rs n + 1) / 2 := by omega
      rw [← this]; exact h8
  · intro hv
    have hvn : v < n := by
      rcases hv with q | q <;> exact w.lt h hb v (List.mem_of_getElem? q)
    refine ⟨hvn, fun x hx => ?_⟩
    have h1 : reach rs n v ≤ (diam rs n + 1) / 2 := by
      rcases hv with q | q
      · exact hle _ _ (.inl rfl) q
      · exact hle _ _ (.inr rfl) q
    exact Nat.le_trans h1 (hlow x)
theorem rise_eq : ∀ (xs ys : List Nat), xs.Pairwise (fun a b => a < b) → ys.Pairwise (fun a b => a < b) → (∀ x, x ∈ xs ↔ x ∈ ys) → xs = ys
  | [], [], _, _, _ => rfl
  | [], y :: ys, _, _, h => by have := (h y).mpr (by simp); simp at this
  | x :: xs, [], _, _, h => by have := (h x).mp (by simp); simp at this
  | x :: xs, y :: ys, h1, h2, h => by
    obtain ⟨h3, h4⟩ := List.pairwise_cons.mp h1
    obtain ⟨h5, h6⟩ := List.pairwise_cons.mp h2
    have e : x = y := by
      have q1 := (h x).mp (by simp)
      have q2 := (h y).mpr (by simp)
      rcases List.mem_cons.mp q1 with q1 | q1
      · exact q1
      · rcases List.mem_cons.mp q2 with q2 | q2
        · exact q2.symm
        · have := h3 y q2
          have := h5 x q1
          omega
    subst e
    congr 1
    refine rise_eq xs ys h4 h6 fun z => ?_
    constructor
    · intro hz
      rcases List.mem_cons.mp ((h z).mp (List.mem_cons_of_mem _ hz)) with q | q
      · have := h3 z hz; omega
      · exact q
    · intro hz
      rcases List.mem_cons.mp ((h z).mpr (List.mem_cons_of_mem _ hz)) with q | q
      · have := h5 z hz; omega
      · exact q
end
end Hg
end

section
set_option autoImplicit false
set_option maxHeartbeats 1000000
/-! Psor: sorts, turnings. -/
namespace Hg
theorem grow_dg (g : List Nat → List Nat) (x : List Nat) (k : Nat) : ∀ ds : List (List Nat), ds.Nodup → (∀ c ∈ ds, (g c).length < L) →
    growD (dgD ds fun c => nsD (g c)) (.inr x) (nD k) = some (if x ∈ ds then dgD ds (fun c => nsD (if c = x then g c ++ [k] else g c)) else dgD ds (fun c => nsD (g c)) ++ [(.inr x, nsD [k])])
  | [], _, _ => rfl
  | c :: ds, nd, hl => by
    obtain ⟨n1, n2⟩ := List.nodup_cons.mp nd
    have ih := grow_dg g x k ds n2 fun d hd => hl d (List.mem_cons_of_mem _ hd)
    have hc := hl c (by simp)
    show growD ((.inr c, nsD (g c)) :: dgD ds fun c => nsD (g c)) (.inr x) (nD k) = _
    by_cases h : c = x
    · subst h
      have e1 : dgD ds (fun d => nsD (g d)) = dgD ds (fun d => nsD (if d = c then g d ++ [k] else g d)) := dgD_congr fun d hd => by rw [if_neg fun z : d = c => n1 (z ▸ hd)]
      simp only [growD, if_true, nsD, List.length_map, hc]
      rw [if_pos (by simp)]
      show some ((Sum.inr c, D.lst ((g c).map nD ++ [nD k])) :: dgD ds (fun c => nsD (g c))) = some ((Sum.inr c, nsD (if c = c then g c ++ [k] else g c)) :: dgD ds fun d => nsD (if d = c then g d ++ [k] else g d))
      rw [if_pos rfl, ← e1]
      simp [nsD]
    · have h' : ¬((.inr c : Ky) = .inr x) := fun z => h (Sum.inr.inj z)
      simp only [growD, if_neg h']
      rw [ih]
      by_cases hx : x ∈ ds
      · rw [if_pos hx, if_pos (List.mem_cons_of_mem _ hx)]
        show some ((Sum.inr c, nsD (g c)) :: dgD ds fun c => nsD (if c = x then g c ++ [k] else g c)) = some ((Sum.inr c, nsD (if c = x then g c ++ [k] else g c)) :: dgD ds fun c => nsD (if c = x then g c ++ [k] else g c))
        rw [if_neg h]
      · rw [if_neg hx, if_neg (by simp [Ne.symm h, hx])]
        rfl
/-- the knots of each code, in the order of the first ones -/
noncomputable def sortsOf (rs : List (Nat × Nat)) (n : Nat) : List (List Nat) := (dd ((List.range n).map (br rs none))).map fun t => (List.range n).filter fun v => decide (br rs none v = t)
theorem sp_bcn {n r : Nat} {rs : List (Nat × Nat)} (h : Hedge n rs) (hn : n ≤ 1000) (hr : r < n) : ∃ f, s_branch_codes [hD n rs, nD r] = some (csD n f) ∧ f r = br rs none r := by
  obtain ⟨f, h1, h2⟩ := sp_bcf h hn hr
  exact ⟨f, h1, h2.trans (br_root h hn hr)⟩
theorem sp_sorts {n : Nat} {rs : List (Nat × Nat)} (h : Hedge n rs) (hn : n ≤ 1000) : s_sorts [hD n rs] = some (rowsD (sortsOf rs n)) := by
  unfold s_sorts
  refine runF_eq rfl ?_
  simp only [d_sorts, startEnv]
  simp
  refine for_step (List.range n) nD (fun b : List (Ky × D) => [.val (hD n rs) .frz, .val (.dic b) .own2, .un, .un]) (fun pre b => b = dgD (dd (pre.map (br rs none))) fun t => nsD (pre.filter fun v => decide (br rs none v = t))) [] ?_ rfl rfl ?_ ?_
  · exact evI_rng (by simp) hn
  · rintro pre v post b e hb
    have hv : v < n := by have := range_split e; omega
    have hpl : pre.length < L := by have := range_split e; rw [L_eq]; omega
    obtain ⟨f, h1, h2⟩ := sp_bcn h hn hv
    have hdl : (dd (pre.map (br rs none))).length < L := Nat.lt_of_le_of_lt (dd_len _) (by rw [List.length_map]; exact hpl)
    have hbl : b.length < L := by rw [hb]; unfold dgD; rw [List.length_map]; exact hdl
    have hg := grow_dg (fun t => pre.filter fun v => decide (br rs none v = t)) (br rs none v) v (dd (pre.map (br rs none))) (nodup_dd _) fun c _ => Nat.lt_of_le_of_lt (List.length_filter_le _ _) hpl
    have hres : (if br rs none v ∈ dd (pre.map (br rs none)) then dgD (dd (pre.map (br rs none))) (fun c => nsD (if c = br rs none v then (pre.filter fun v => decide (br rs none v = c)) ++ [v] else pre.filter fun v => decide (br rs none v = c))) else dgD (dd (pre.map (br rs none))) (fun c => nsD (pre.filter fun v => decide (br rs none v = c))) ++ [(.inr (br rs none v), nsD [v])])
        = dgD (dd ((pre ++ [v]).map (br rs none))) fun t => nsD ((pre ++ [v]).filter fun v => decide (br rs none v = t)) := by
      rw [List.map_append, List.map_singleton, dd_snoc]
      by_cases c : br rs none v ∈ dd (pre.map (br rs none))
      · rw [if_pos c, if_pos c]
        refine dgD_congr fun t _ => ?_
        rw [List.filter_append, List.filter_cons, List.filter_nil]
        by_cases q : t = br rs none v
        · subst q; simp
        · rw [if_neg q]
          simp [Ne.symm q]
      · rw [if_neg c, if_neg c]
        unfold dgD
        rw [List.map_append]
        congr 1
        · refine List.map_congr_left fun t ht => ?_
          show (Sum.inr t, nsD (pre.filter fun v => decide (br rs none v = t))) = (Sum.inr t, nsD ((pre ++ [v]).filter fun v => decide (br rs none v = t)))
          rw [List.filter_append, List.filter_cons, List.filter_nil]
          have q : ¬br rs none v = t := fun z => c (z ▸ ht)
          simp [q]
        · show [(Sum.inr (br rs none v), nsD [v])] = [(Sum.inr (br rs none v), nsD ((pre ++ [v]).filter fun w => decide (br rs none w = br rs none v)))]
          rw [List.filter_append, List.filter_cons, List.filter_nil]
          have : (pre.filter fun w => decide (br rs none w = br rs none v)) = [] := List.filter_eq_nil_iff.mpr fun w hw z => c ((mem_dd _).mpr (by
            rw [← of_decide_eq_true z]
            exact List.mem_map_of_mem hw))
          rw [this]
          simp
    rw [hres, ← hb] at hg
    refine ⟨_, ?_, rfl⟩
    generalize dgD (dd ((pre ++ [v]).map (br rs none))) (fun t => nsD ((pre ++ [v]).filter fun v => decide (br rs none v = t))) = b' at hg ⊢
    rw [← h2] at hg
    simp [h1, ixV_cs f .frz hv, hbl, hg]
  · intro b hb
    subst hb
    simp [dgD, rowsD, sortsOf, Function.comp_def]
end Hg
end

section
set_option autoImplicit false
set_option maxHeartbeats 1000000
/-! Ptur: all turnings. -/
namespace Hg
theorem mids_two {n : Nat} {rs : List (Nat × Nat)} (h : Hedge n rs) : (mids rs n).length ≤ 2 := by
  obtain ⟨s, e, hs, he, hd⟩ := diam_pair (rs := rs) h.pos
  obtain ⟨p, w⟩ := Way.ex h he (dist rs e s) s hs rfl
  have hm := mids_iff h hs he w hd
  have nd : (mids rs n).Nodup := List.nodup_range.filter _
  have hsub : ∀ x ∈ mids rs n, x ∈ (p[diam rs n / 2]?).toList ++ (p[(diam rs n + 1) / 2]?).toList := fun x hx => by
    rcases (hm x).mp hx with q | q
    · rw [q]; simp
    · rw [q]; simp
  have hp : ((p[diam rs n / 2]?).toList ++ (p[(diam rs n + 1) / 2]?).toList).length ≤ 2 := by
    rw [List.length_append]
    cases p[diam rs n / 2]? <;> cases p[(diam rs n + 1) / 2]? <;> simp
  by_cases q : (mids rs n).length ≤ 2
  · exact q
  · exact absurd (perm_of_sub nd hsub (by omega)).length_eq (by omega)
/-- knots of one code: a likeness that puts the one for the other -/
theorem along_iso {n r r' : Nat} {rs rs' : List (Nat × Nat)} (h : Hedge n rs) (h' : Hedge n rs') (hn : n ≤ 1000) (hr : r < n) (hr' : r' < n) (he : cdOf rs m0 r = cdOf rs' m0 r') : ∃ F, Iso n rs rs' F ∧ F r = r' := by
  obtain ⟨ps, p1, cm, b1⟩ := sp_branch_codes h hn hr
  obtain ⟨ps', p2, cm', b2⟩ := sp_branch_codes h' hn hr'
  have k1 := cAll_cd h hr cm (m := m0) (c := 0) fun _ _ => rfl
  have k2 := cAll_cd h' hr' cm' (m := m0) (c := 0) fun _ _ => rfl
  generalize (cAll m0 ps.reverse).2 = c1 at k1
  generalize (cAll m0 ps'.reverse).2 = c2 at k2
  obtain ⟨F, f0, fs⟩ := along_ex r' (brOf rs ps c1) (brOf rs' ps' c2) cm.grow
  have A : Al n r r' rs rs' ps ps' m0 m0 c1 c2 (brOf rs ps c1) (brOf rs' ps' c2) F := by
    refine ⟨h, h', hr, hr', cm, cm', neu0, neu0, fun _ _ _ _ => rfl, k1, k2, ?_, f0, fs, ?_, ?_⟩
    · obtain ⟨t, ht⟩ := cm.grow.head
      obtain ⟨t', ht'⟩ := cm'.grow.head
      rw [cdOf_eq (k1 r none (by rw [ht]; simp)), cdOf_eq (k2 r' none (by rw [ht']; simp)), he]
    · intro v o hv
      unfold brOf
      rw [upOf_mem cm.grow.nodup hv]
    · intro v o hv
      unfold brOf
      rw [upOf_mem cm'.grow.nodup hv]
  exact ⟨F, A.iso.1, f0⟩
theorem same_mid {n r r' : Nat} {rs : List (Nat × Nat)} (h : Hedge n rs) (hn : n ≤ 1000) (hr : r < n) (hr' : r' < n) (he : br rs none r = br rs none r') (hm : r' ∈ mids rs n) : r ∈ mids rs n := by
  obtain ⟨F, i, e⟩ := along_iso h h hn hr hr' (by rw [br_root h hn hr, br_root h hn hr', he])
  exact (i.mid h h hr).mp (e ▸ hm)
theorem nk_filter {n : Nat} {rs : List (Nat × Nat)} (t : List Nat) : nk rs n t = ((List.range n).filter fun v => decide (br rs none v = t)).length := by
  unfold nk
  have := sx_count (List.range n) fun w => decide (br rs none w = t)
  simp only [decide_eq_true_eq] at this
  rw [this, List.countP_eq_length_filter]
theorem nk_mid {n c : Nat} {rs : List (Nat × Nat)} (h : Hedge n rs) (hn : n ≤ 1000) (hc : c ∈ mids rs n) : nk rs n (br rs none c) = ((mids rs n).filter fun v => decide (br rs none v = br rs none c)).length := by
  rw [nk_filter]
  refine List.Perm.length_eq ((List.perm_ext_iff_of_nodup (List.nodup_range.filter _) ((List.nodup_range.filter _).filter _)).mpr fun x => ?_)
  rw [List.mem_filter, List.mem_filter, List.mem_range]
  constructor
  · rintro ⟨h1, h2⟩
    exact ⟨same_mid h hn h1 (mids_lt hc) (of_decide_eq_true h2) hc, h2⟩
  · rintro ⟨h1, h2⟩
    exact ⟨mids_lt h1, h2⟩
theorem br_plain {n v : Nat} {rs : List (Nat × Nat)} (h : Hedge n rs) (hn : n ≤ 1000) (hv : v < n) (k : Nat) : plainD k (.str (br rs none v)) = true := by
  have := cd_plain h hn hv k
  rwa [br_root h hn hv] at this
theorem sp_turnings {n v : Nat} {rs : List (Nat × Nat)} (h : Hedge n rs) (hn : n ≤ 18) (hv : v < n) : s_turnings [hD n rs] = some (nD (tv rs none v * nk rs n (br rs none v))) := by
  have hmd := sp_middle h (by omega)
  have h2 := mids_two h
  have h3 := mids_ne h
  have nd : (mids rs n).Nodup := List.nodup_range.filter _
  obtain ⟨c, rest, hm⟩ := List.exists_cons_of_ne_nil h3
  have hcm : c ∈ mids rs n := by rw [hm]; simp
  have hc := mids_lt hcm
  rw [AN_const h (by omega) hv hc, nk_mid h (by omega) hcm]
  have ht := sp_turnings_at h hn hc
  have hcodes : ∀ ρ, ev (calls [(15, s_middle), (26, s_branch_codes), (36, s_turnings_at)]) (.comp false (.ix (.call 26 [] (.cons (.var 0) (.cons (.var 2) (.nil)))) (.var 2)) (.nm 2) (.lst (.call 15 [] (.cons (.var 0) (.nil)))) (.yes)) [.val (hD n rs) .frz, ρ, .un, .un] = some (.lst ((mids rs n).map fun m => .str (br rs none m)), .new1) := by
    intro ρ
    rw [ev_compM (mids rs n) nD (fun v => D.str (br rs none v)) (own := false)]
    · simp [hmd, nsD]
    · intro m hmm
      obtain ⟨f, f1, f2⟩ := sp_bcn h (by omega) (mids_lt hmm)
      refine ⟨_, rfl, .frz, ?_, rfl⟩
      rw [← f2]
      simp [f1, ixV_cs f .frz (mids_lt hmm)]
    · rw [L_eq]; omega
  have pc := br_plain h (by omega) hc PD
  have pall : ∀ w ∈ mids rs n, plainD PD (.str (br rs none w)) = true := fun w hw => br_plain h (by omega) (mids_lt hw) PD
  have tsm : tv rs none c * 2 = 2 * tv rs none c := Nat.mul_comm _ _
  unfold s_turnings
  refine runF_eq rfl ?_
  simp only [d_turnings, startEnv]
  rw [hm] at hmd h2 hcodes pall ⊢
  generalize hT : tv rs none c = T at *
  have hix : ∀ r, ixV (nsD (c :: r), .frz) (.int 0) = some (nD c, .frz) := fun r => (ixV_nsN (c :: r) .frz 0).trans rfl
  rcases rest with _ | ⟨d, _ | ⟨d', rest⟩⟩
  · simp [hcodes, hmd, hix, ht]
  · have pd := pall d (by simp)
    have e2 : mulI (.int 2) (nD T) = some (nD (2 * T)) := by
      show mulI (.int _) (.int _) = _
      rw [q_mulI (mulOk_l (by omega) (by omega))]
      show some (D.int _) = some (D.int _)
      congr 1
    by_cases q : br rs none d = br rs none c
    · simp only [List.map_cons, List.map_nil, q] at hcodes
      simp [hcodes, hmd, hix, ht, pc, q, e2, tsm]
    · simp [hcodes, hmd, hix, ht, pc, pd, q, Ne.symm q]
  · simp at h2
end Hg
end

section
set_option autoImplicit false
set_option maxHeartbeats 1000000
/-! Him: a hedge numbered anew. Plain mathematics. -/
namespace Hg
theorem imR_rod (f : Nat → Nat) (u v : Nat) : imR f (rodOf u v) = rodOf (f u) (f v) := by
  unfold imR
  rcases Nat.le_total u v with q | q
  · rw [show rodOf u v = (u, v) by unfold rodOf; rw [Nat.min_eq_left q, Nat.max_eq_right q]]
  · rw [show rodOf u v = (v, u) by unfold rodOf; rw [Nat.min_eq_right q, Nat.max_eq_left q]]
    exact rodOf_comm _ _
theorem Tr.im {vs : List Nat} {es : List (Nat × Nat)} (h : Tr vs es) (f : Nat → Nat) : (vs.map f).Nodup → Tr (vs.map f) (es.map (imR f)) := by
  induction h with
  | one v => intro _; exact Tr.one _
  | @add vs es u v h hu hv ih =>
    intro hn
    rw [List.map_cons, List.nodup_cons] at hn
    rw [List.map_cons, List.map_cons, show imR f (min u v, max u v) = (min (f u) (f v), max (f u) (f v)) from imR_rod f u v]
    exact Tr.add (f u) (f v) (ih hn.2) (List.mem_map_of_mem hu) hn.1
theorem perm_inj {n : Nat} {f : Nat → Nat} (hp : ((List.range n).map f).Perm (List.range n)) {u v : Nat} (hu : u < n) (hv : v < n) (e : f u = f v) : u = v := by
  have hn : ((List.range n).map f).Nodup := hp.nodup_iff.mpr List.nodup_range
  have h1 : u < ((List.range n).map f).length := by simpa using hu
  have h2 : v < ((List.range n).map f).length := by simpa using hv
  have : ((List.range n).map f)[u] = ((List.range n).map f)[v] := by simp [e]
  exact (List.getElem_inj hn).mp this
theorem perm_lt {n : Nat} {f : Nat → Nat} (hp : ((List.range n).map f).Perm (List.range n)) {u : Nat} (hu : u < n) : f u < n :=
  List.mem_range.mp (hp.mem_iff.mp (List.mem_map_of_mem (List.mem_range.mpr hu)))
theorem Adj.im {rs : List (Nat × Nat)} {f : Nat → Nat} {u v : Nat} (a : Adj rs u v) : Adj (sortR (rs.map (imR f))) (f u) (f v) := by
  have key : ∀ {a b : Nat}, (a, b) ∈ rs → Adj (sortR (rs.map (imR f))) (f a) (f b) := by
    intro a b hm
    have h1 : rodOf (f a) (f b) ∈ sortR (rs.map (imR f)) := (sortR_perm _).mem_iff.mpr (List.mem_map.mpr ⟨(a, b), hm, rfl⟩)
    rcases Nat.le_total (f a) (f b) with q | q
    · rw [show rodOf (f a) (f b) = (f a, f b) by unfold rodOf; rw [Nat.min_eq_left q, Nat.max_eq_right q]] at h1; exact .inl h1
    · rw [show rodOf (f a) (f b) = (f b, f a) by unfold rodOf; rw [Nat.min_eq_right q, Nat.max_eq_left q]] at h1; exact .inr h1
  rcases a with a | a
  · exact key a
  · exact (key a).symm
theorem Hedge.im {n : Nat} {rs : List (Nat × Nat)} (h : Hedge n rs) {f : Nat → Nat} (hp : ((List.range n).map f).Perm (List.range n)) : Hedge n (sortR (rs.map (imR f))) ∧ Iso n rs (sortR (rs.map (imR f))) f := by
  obtain ⟨vs, es, h1, h2, h3⟩ := h.tr
  have hv : (vs.map f).Perm (List.range n) := (h2.map f).trans hp
  refine ⟨Hedge.of_tr (h1.im f (hv.nodup_iff.mpr List.nodup_range)) hv (h3.map (imR f)), ⟨fun v hv => perm_lt hp hv, fun u v hu hv e => perm_inj hp hu hv e, fun u v a => a.im⟩⟩
/-- a list of all knots, each once, as a map -/
theorem list_map {p : List Nat} {n : Nat} (hl : p.length = n) : p = (List.range n).map fun v => p.getD v 0 := by
  apply List.ext_getElem
  · simp [hl]
  · intro i h1 h2
    simp [List.getElem?_eq_getElem h1]
theorem Iso.sort {n : Nat} {rs rs' : List (Nat × Nat)} {f : Nat → Nat} (i : Iso n rs rs' f) (h : Hedge n rs) (h' : Hedge n rs') : sortR (rs.map (imR f)) = rs' := by
  rw [sortR_pe (i.rods h h'), sortR_id h'.srt]
end Hg
end

section
set_option autoImplicit false
set_option maxHeartbeats 1000000
/-! Pwh: the law's whole. -/
namespace Hg
theorem sp_whole (a : Nat) : s_l_whole [nD a] = some (.bl true) := by
  unfold s_l_whole
  refine runF_eq rfl ?_
  simp [d_l_whole, startEnv]
end Hg
end

section
set_option autoImplicit false
set_option maxHeartbeats 1000000
/-! Pisl: the law's likeness; one numbered anew. -/
namespace Hg
theorem ev_lenset_ns {C : Nat → List D → Option D} {a : E} {env : Env} {xs : List Nat} {k : Kd} (h : ev C a env = some (nsD xs, k)) (hn : xs.Nodup) (hl : xs.length ≤ 1000) : ev C (.lenset a) env = some (.int xs.length, .frz) := by
  have h1 : (xs.map fun k : Nat => (k : Int)).Nodup := List.pairwise_map.mpr (hn.imp fun q e => q (by omega))
  rw [q_ev_lenset, h]
  simp only [bm_some, Option.bind_some, nsD, List.length_map, hl, if_true, intsD_nD, h1]
  rfl
theorem sp_is_likeness {n n' : Nat} {rs rs' : List (Nat × Nat)} (h : Hedge n rs) (hn : n ≤ 1000) {F : Nat → Nat} (hp : ((List.range n).map F).Perm (List.range n)) :
    s_l_is_likeness [nsD ((List.range n).map F), hD n rs, hD n' rs'] = some (.bl (decide (n = n' ∧ sortR (rs.map (imR F)) = rs'))) := by
  have hlen := h.len
  unfold s_l_is_likeness
  refine runF_eq rfl ?_
  simp only [d_l_is_likeness, startEnv]
  by_cases c : n = n'
  · subst c
    simp [-q_ev_lenset]
    refine for_step ((List.range n).map F) nD (fun _ : Unit => [.val (nsD ((List.range n).map F)) .frz, .val (hD n rs) .frz, .val (hD n rs') .frz, .un, .un, .un, .un]) (fun _ _ => True) () ?_ rfl trivial ?_ ?_
    · simp
    · rintro pre v post _ e _
      have hv : v < n := List.mem_range.mp (hp.mem_iff.mp (by rw [e]; simp))
      have w := sp_whole v
      have c1 : ¬ (v : Int) < 0 := by omega
      refine ⟨(), ?_, trivial⟩
      simp [w]
      simp [nD, hv, c1]
    · rintro _ _
      simp [-q_ev_lenset]
      rw [ev_compM rs rodD (fun e => rodD (imR F e)) (own := false)]
      · have e : D.lst (rs.map fun e => rodD (imR F e)) = .lst ((rs.map (imR F)).map rodD) := by simp
        have hl2 : (rs.map (imR F)).length < L := by rw [List.length_map, L_eq]; omega
        simp [-q_ev_lenset]
        rw [ev_lenset_ns (xs := (List.range n).map F) (k := .frz) rfl (hp.nodup_iff.mpr List.nodup_range) (by simpa using hn)]
        rw [e]
        rw [sortedV_R hl2]
        have pr : ∀ l : List (Nat × Nat), plainD PD (.lst (l.map rodD)) = true := fun l => by simp [PD_eq, rodD]
        simp [pr, eqDs_map rodD eqD_rodD]
      · rfl
      · rintro ⟨a, b⟩ hab
        obtain ⟨q1, q2, _⟩ := h.lt hab
        refine ⟨_, rfl, .frz, ?_, rfl⟩
        simp [rodD, nsD, q1, q2]
        simp [nD, imR, rodOf]
        omega
      · rw [L_eq]; omega
  · simp [c]
noncomputable def shf (ns : List Int) (at_ n : Nat) (v : Nat) : Nat := (orderOf ns at_ n).getD v 0
theorem shf_perm (ns : List Int) (at_ n : Nat) : ((List.range n).map (shf ns at_ n)).Perm (List.range n) := by
  have h := orderOf_perm ns at_ n
  have e := list_map (p := orderOf ns at_ n) (n := n) (by simpa using h.length_eq)
  unfold shf
  rw [← e]
  exact h
theorem sp_order_f (ns : List Int) (at_ n : Nat) (hn : n ≤ 1000) : s_l_order [scr ns, .int at_, .int n] = some (nsD ((List.range n).map (shf ns at_ n))) := by
  have h := orderOf_perm ns at_ n
  have e := list_map (p := orderOf ns at_ n) (n := n) (by simpa using h.length_eq)
  rw [sp_order ns at_ n hn]
  unfold shf nsD
  rw [← e]
theorem sp_shuffled {n : Nat} {rs : List (Nat × Nat)} (h : Hedge n rs) (hn : n ≤ 1000) (ns : List Int) (at_ : Nat) :
    s_l_shuffled [hD n rs, scr ns, .int at_] = some (hD n (sortR (rs.map (imR (shf ns at_ n))))) := by
  have ho := sp_order_f ns at_ n hn
  have hlen := h.len
  unfold s_l_shuffled
  refine runF_eq rfl ?_
  generalize shf ns at_ n = F at ho
  simp only [d_l_shuffled, startEnv]
  simp [ho]
  rw [ev_compM rs rodD (fun e => rodD (imR F e)) (own := false)]
  · have e : D.lst (rs.map fun e => rodD (imR F e)) = .lst ((rs.map (imR F)).map rodD) := by simp
    have hl2 : (rs.map (imR F)).length < L := by rw [List.length_map, L_eq]; omega
    simp
    rw [e, sortedV_R hl2]
    simp [hD]
  · rfl
  · rintro ⟨a, b⟩ hab
    obtain ⟨q1, q2, _⟩ := h.lt hab
    refine ⟨_, rfl, .frz, ?_, rfl⟩
    simp [rodD, nsD, q1, q2]
    simp [nD, imR, rodOf]
    omega
  · rw [L_eq]; omega
end Hg
end

section
set_option autoImplicit false
set_option maxHeartbeats 1000000
/-! Wlaw: what the laws ask of a way, place by place. -/
namespace Hg
theorem cell_mod (ns : List Int) (k n : Nat) (hn : 0 < n) : ∃ t : Nat, t < n ∧ cell ns k % (n : Int) = (t : Int) := by
  have q1 := Int.emod_nonneg (cell ns k) (show (n : Int) ≠ 0 by omega)
  have q2 := Int.emod_lt_of_pos (cell ns k) (show (0 : Int) < n by omega)
  obtain ⟨t, ht⟩ := Int.eq_ofNat_of_zero_le q1
  exact ⟨t, by omega, ht⟩
theorem cut_to1 (xs : List D) : cut xs none (some 1) = xs.take 1 := by
  unfold cut cutIx
  cases xs with
  | nil => rfl
  | cons x xs =>
    simp
theorem cut_from (xs : List D) (k : Nat) (h : k ≤ xs.length) : cut xs (some (k : Int)) none = xs.drop k := by
  unfold cut cutIx
  have hk : ¬ (k : Int) < 0 := by omega
  simp only [hk, if_false, Int.toNat_natCast]
  rw [show min k xs.length = k by omega, List.take_of_length_le]
  simp
theorem rodOf_mem {n u v : Nat} {rs : List (Nat × Nat)} (h : Hedge n rs) (a : Adj rs u v) : rodOf u v ∈ rs := h.adj_rod a
theorem nodup_drop {p : List Nat} (h : p.Nodup) {k u : Nat} (hu : p[k]? = some u) : u ∉ p.drop (k + 1) := by
  intro hm
  obtain ⟨j, hj, e⟩ := List.mem_iff_getElem.mp hm
  rw [List.getElem_drop] at e
  obtain ⟨hk, e2⟩ := List.getElem?_eq_some_iff.mp hu
  have := (List.getElem_inj h).mp (e.trans e2.symm)
  omega
theorem rng_pred (n : Nat) (hn : n ≤ 1000) : (-1000000 : Int) ≤ (n : Int) - 1 ∧ (n : Int) - 1 ≤ 1000000 := by omega
end Hg
end

section
set_option autoImplicit false
set_option maxHeartbeats 1000000
namespace Hg
noncomputable def rowOf (rs : List (Nat × Nat)) (n : Nat) (t : List Nat) : List Nat := (List.range n).filter fun v => decide (br rs none v = t)
theorem rowOf_len (rs : List (Nat × Nat)) (n : Nat) (t : List Nat) : (rowOf rs n t).length = nk rs n t := (nk_filter t).symm
theorem sortsOf_eq (rs : List (Nat × Nat)) (n : Nat) : sortsOf rs n = (dd ((List.range n).map (br rs none))).map (rowOf rs n) := rfl
theorem nk_iso {n : Nat} {rs rs' : List (Nat × Nat)} {F : Nat → Nat} (i : Iso n rs rs' F) (hb : ∀ v, v < n → br rs' none (F v) = br rs none v) (t : List Nat) : nk rs' n t = nk rs n t := by
  unfold nk
  rw [← sx_perm i.perm, sx_map]
  exact sx_congr fun v hv => by rw [hb v (List.mem_range.mp hv)]
theorem br_iso {n : Nat} {rs rs' : List (Nat × Nat)} {F : Nat → Nat} (h : Hedge n rs) (h' : Hedge n rs') (hn : n ≤ 1000) (i : Iso n rs rs' F) (v : Nat) (hv : v < n) : br rs' none (F v) = br rs none v := by
  rw [← br_root h hn hv, ← br_root h' hn (i.lt v hv)]
  exact i.cdOf h h' hn (c := 0) (m := m0) (m' := m0) (fun _ _ => rfl) (fun _ _ => rfl) hv
theorem sizes_iso {n : Nat} {rs rs' : List (Nat × Nat)} {F : Nat → Nat} (i : Iso n rs rs' F) (hb : ∀ v, v < n → br rs' none (F v) = br rs none v) : ((sortsOf rs' n).map List.length).Perm ((sortsOf rs n).map List.length) := by
  rw [sortsOf_eq, sortsOf_eq, List.map_map, List.map_map]
  have e1 : (List.length ∘ rowOf rs' n) = nk rs n := by funext t; show (rowOf rs' n t).length = _; rw [rowOf_len, nk_iso i hb]
  have e2 : (List.length ∘ rowOf rs n) = nk rs n := by funext t; exact rowOf_len rs n t
  rw [e1, e2]
  refine (dd_perm ?_).map _
  have := (i.perm.map (br rs' none)).symm
  rw [List.map_map] at this
  refine this.trans ?_
  rw [List.map_congr_left (f := br rs' none ∘ F) (g := br rs none) fun v hv => hb v (List.mem_range.mp hv)]
theorem row_mem {n v : Nat} {rs : List (Nat × Nat)} (hv : v < n) (ts : List (List Nat)) : rowOf rs n (br rs none v) ∈ ts.map (rowOf rs n) ↔ br rs none v ∈ ts := by
  constructor
  · intro hm
    obtain ⟨t, ht, e⟩ := List.mem_map.mp hm
    have h1 : v ∈ rowOf rs n (br rs none v) := List.mem_filter.mpr ⟨List.mem_range.mpr hv, by simp⟩
    rw [← e] at h1
    have h2 : br rs none v = t := of_decide_eq_true (List.mem_filter.mp h1).2
    rw [h2]; exact ht
  · exact fun hm => List.mem_map_of_mem hm
theorem sortN_of_perm {xs ys : List Nat} (h : xs.Perm ys) : sortN xs = sortN ys := by
  refine List.Perm.eq_of_pairwise (le := fun a b => a ≤ b) (fun a b _ _ q1 q2 => Nat.le_antisymm q1 q2) (sortN_pw _) (sortN_pw _) ?_
  exact (sortN_perm xs).trans (h.trans (sortN_perm ys).symm)
theorem memD_row (x : List Nat) (T : List (List Nat)) : memD (nsD x) (.lst (T.map nsD)) = some (decide (x ∈ T)) := (memD_map nsD (fun x => by rw [PD_eq]; simp) (fun x => by simp) eqD_ns x T).trans (congrArg some (decide_eq_decide.mpr Iff.rfl))
theorem law_true (ns : List Int) (hl : ns.length ≤ 63) : s_law_k19 [.lst (ns.map D.int)] = some (.bl true) := by
  show s_law_k19 [scr ns] = _
  obtain ⟨n, rs, h1, hh, hn⟩ := sp_hedge ns 1 hl
  have h1 : s_l_hedge [scr ns, .int 1] = some (hD n rs) := h1
  have hn0 := hh.pos
  have hln := hh.len
  obtain ⟨a, ha, ea⟩ := cell_mod ns 0 7 (by decide)
  have c0 : s_l_cell [scr ns, .int 0] = some (.int (cell ns 0)) := sp_cell ns 0
  have h2 := sp_shuffled hh (by omega) ns a
  rw [← show cell ns 0 % 7 = (a : Int) from ea] at h2
  obtain ⟨hh', i⟩ := hh.im (shf_perm ns a n)
  generalize sortR (rs.map (imR (shf ns a n))) = rs' at h2 hh' i
  generalize shf ns a n = F at i
  have hb := br_iso hh hh' (by omega) i
  have h3 := sp_beside hh.forest.lt (by omega) (by omega)
  have q1 := sp_copy n rs
  have q2 := sp_copy n rs'
  have s1 := sp_sorts hh (by omega)
  have s2 := sp_sorts hh' (by omega)
  have t1 := sp_turnings hh hn hn0
  have t2 := sp_turnings hh' hn (i.lt 0 hn0)
  have et : tv rs' none (F 0) * nk rs' n (br rs' none (F 0)) = tv rs none 0 * nk rs n (br rs none 0) := by
    rw [hb 0 hn0, nk_iso i hb]
    congr 1
    have T := tn_ok hh (by omega) (seen_none hn0)
    have T' := tn_ok hh' (by omega) (seen_none (i.lt 0 hn0))
    rw [hb 0 hn0] at T'
    exact T'.uniq T
  rw [et] at t2
  have hdiv : ∀ v, v < n → tv rs none 0 * nk rs n (br rs none 0) = tv rs none v * nk rs n (br rs none v) := fun v hv => AN_const hh (by omega) hn0 hv
  have hnk : ∀ v, v < n → 0 < nk rs n (br rs none v) := fun v hv => by
    rw [nk_filter]
    exact List.length_pos_of_mem (List.mem_filter.mpr ⟨List.mem_range.mpr hv, by simp⟩)
  have hpos : 0 < tv rs none 0 * nk rs n (br rs none 0) := Nat.mul_pos (tv_pos hh (by omega) (seen_none hn0)) (hnk 0 hn0)
  generalize tv rs none 0 * nk rs n (br rs none 0) = T at t1 t2 hdiv hpos
  have hwh := sp_whole T
  have hsz := sizes_iso i hb
  have hsl : (sortsOf rs n).length ≤ n := by
    rw [sortsOf_eq, List.length_map]
    exact Nat.le_trans (dd_len _) (by simp)
  have hsl' : (sortsOf rs' n).length ≤ n := by
    rw [sortsOf_eq, List.length_map]
    exact Nat.le_trans (dd_len _) (by simp)
  have hbp : ∀ v, v < n → plainD PD (.str (br rs none v)) = true := fun v hv => br_plain hh (by omega) hv PD
  have hrows : ∀ row ∈ sortsOf rs n, row.length ≠ 0 ∧ T % row.length = 0 := by
    intro row hr
    rw [sortsOf_eq] at hr
    obtain ⟨t, ht, rfl⟩ := List.mem_map.mp hr
    obtain ⟨v, hv, rfl⟩ := List.mem_map.mp ((mem_dd _).mp ht)
    have hv := List.mem_range.mp hv
    rw [rowOf_len, hdiv v hv]
    exact ⟨by have := hnk v hv; omega, Nat.mul_mod_left _ _⟩
  unfold s_law_k19
  refine runF_eq rfl ?_
  simp only [d_law_k19, startEnv]
  simp [h1, h2, c0, h3]
  rw [ev_compM (List.range n) nD (fun v => D.str (br rs none v)) (own := false)]
  rotate_left
  · exact evI_rng (by simp) (by omega)
  · intro v hv
    have hv := List.mem_range.mp hv
    have h6 := sp_lc hh (by omega) hv
    rw [br_root hh (by omega) hv] at h6
    refine ⟨_, rfl, .frz, ?_, rfl⟩
    simp [h6]
  · rw [List.length_range, L_eq]; omega
  simp
  refine for_step (List.range n) nD (fun b : List (List Nat) => [.val (scr ns) .frz, .val (hD n rs) .frz, .val (hD n rs') .frz, .val (rowsD ((List.range n).map (nb rs))) .frz, .val (csD n (br rs none)) .frz, .un, .val (.lst (b.map nsD)) .own1, .un, .un, .un, .un])
    (fun pre b => b = (dd (pre.map (br rs none))).map (rowOf rs n)) [] ?_ rfl rfl ?_ ?_
  · exact evI_rng (by simp) (by omega)
  · rintro pre v post b e hbv
    have hv : v < n := by have := range_split e; omega
    have hdl : b.length ≤ n := by
      rw [hbv, List.length_map]
      refine Nat.le_trans (dd_len _) ?_
      rw [List.length_map]
      have := range_split e
      omega
    have hrow : ev (calls [(6, s_l_hedge), (42, s_l_shuffled), (2, s_l_cell), (12, s_l_beside), (29, s_l_code), (38, s_sorts), (7, s_l_copy), (37, s_turnings), (16, s_l_whole)]) (.comp false (.var 8) (.nm 8) (.rng1 (.ix (.var 1) (.c (.int 0)))) (.val (.eq (.ix (.var 4) (.var 8)) (.ix (.var 4) (.var 5))))) [.val (scr ns) .frz, .val (hD n rs) .frz, .val (hD n rs') .frz, .val (rowsD ((List.range n).map (nb rs))) .frz, .val (csD n (br rs none)) .frz, .val (nD v) .frz, .val (.lst (b.map nsD)) .own1, .un, .un, .un, .un] = some (nsD (rowOf rs n (br rs none v)), .new1) := by
      rw [ev_comp (List.range n) nD (fun w => decide (br rs none w = br rs none v)) nD (own := false)]
      · rfl
      · exact evI_rng (by simp) (by omega)
      · intro w hw
        have hw := List.mem_range.mp hw
        refine ⟨_, rfl, ?_, fun _ => ⟨.frz, by simp, by simp⟩⟩
        simp [ixV_cs (br rs none) .frz hw, ixV_cs (br rs none) .frz hv, hbp w hw, hbp v hv]
      · rw [List.length_range, L_eq]; omega
    have hmem := memD_row (rowOf rs n (br rs none v)) b
    have hiff := row_mem (rs := rs) hv (dd (pre.map (br rs none)))
    rw [← hbv] at hiff
    generalize hrw : rowOf rs n (br rs none v) = row at hrow hmem hiff
    by_cases c : row ∈ b
    · refine ⟨b, ?_, ?_⟩
      · simp [hrow, hmem, c]
      · rw [List.map_append, List.map_singleton, dd_snoc, if_pos (hiff.mp c)]
        exact hbv
    · have hbL : b.length < L := by rw [L_eq]; omega
      refine ⟨b ++ [row], ?_, ?_⟩
      · simp [hrow, hmem, c, hbL]
      · rw [List.map_append, List.map_singleton, dd_snoc, if_neg fun z => c (hiff.mpr z), List.map_append, ← hbv, List.map_singleton, hrw]
  · intro b hbv
    have hb2 : b = sortsOf rs n := hbv
    clear hbv
    subst hb2
    generalize sortsOf rs n = R at *
    have hfold : D.lst (R.map nsD) = rowsD R := rfl
    have hT1 : ¬((T : Int) < 1) := by omega
    simp only [hfold]
    have hty : isTy (rowsD R) .lst = true := rfl
    have hpr : plainD PD (rowsD R) = true := by rw [PD_eq]; simp
    have hpT : plainD PD (nD T) = true := plain_nD _ _
    have hlt : evT (calls [(6, s_l_hedge), (42, s_l_shuffled), (2, s_l_cell), (12, s_l_beside), (29, s_l_code), (38, s_sorts), (7, s_l_copy), (37, s_turnings), (16, s_l_whole)]) (.val (.lt (.var 10) (.c (.int 1)))) [.val (scr ns) .frz, .val (hD n rs) .frz, .val (hD n rs') .frz, .val (rowsD ((List.range n).map (nb rs))) .frz, .val (csD n (br rs none)) .frz, .un, .val (rowsD R) .own1, .un, .un, .val (rowsD R) .frz, .val (nD T) .frz] = some false := by
      simp
      omega
    have hfz : freeze1 [.val (scr ns) .frz, .val (hD n rs) .frz, .val (hD n rs') .frz, .val (rowsD ((List.range n).map (nb rs))) .frz, .val (csD n (br rs none)) .frz, .un, .val (rowsD R) .own1, .un, .un, .val (rowsD R) .frz, .val (nD T) .frz] 6 = [.val (scr ns) .frz, .val (hD n rs) .frz, .val (hD n rs') .frz, .val (rowsD ((List.range n).map (nb rs))) .frz, .val (csD n (br rs none)) .frz, .un, .val (rowsD R) .frz, .un, .un, .val (rowsD R) .frz, .val (nD T) .frz] := rfl
    simp [q1, s1, hty, hpr, t1, q2, t2, hwh, hlt, hpT, hfz]
    refine for_step R nsD (fun _ : Unit => [.val (scr ns) .frz, .val (hD n rs) .frz, .val (hD n rs') .frz, .val (rowsD ((List.range n).map (nb rs))) .frz, .val (csD n (br rs none)) .frz, .un, .val (rowsD R) .frz, .un, .un, .val (rowsD R) .frz, .val (nD T) .frz]) (fun _ _ => True) () ?_ rfl trivial ?_ ?_
    · simp [rowsD]
    · rintro pre row post _ e _
      obtain ⟨r1, r2⟩ := hrows row (by rw [e]; simp)
      have hmod : (T : Int) % (row.length : Int) = 0 := by omega
      refine ⟨(), ?_, trivial⟩
      have r0 : 0 < row.length := by omega
      simp [r0, hmod, eqD]
    · intro _ _
      have E1 : ∀ ρ : Env, ρ = [.val (scr ns) .frz, .val (hD n rs) .frz, .val (hD n rs') .frz, .val (rowsD ((List.range n).map (nb rs))) .frz, .val (csD n (br rs none)) .frz, .un, .val (rowsD R) .frz, .un, .un, .val (rowsD R) .frz, .val (nD T) .frz] →
          ev (calls [(6, s_l_hedge), (42, s_l_shuffled), (2, s_l_cell), (12, s_l_beside), (29, s_l_code), (38, s_sorts), (7, s_l_copy), (37, s_turnings), (16, s_l_whole)]) (.comp false (.len (.var 7)) (.nm 7) (.lst (.call 38 [] (.cons (.call 7 [] (.cons (.var 2) (.nil))) (.nil)))) (.yes)) ρ = some (.lst (((sortsOf rs' n).map List.length).map nD), .new1) ∧
          ev (calls [(6, s_l_hedge), (42, s_l_shuffled), (2, s_l_cell), (12, s_l_beside), (29, s_l_code), (38, s_sorts), (7, s_l_copy), (37, s_turnings), (16, s_l_whole)]) (.comp false (.len (.var 7)) (.nm 7) (.lst (.var 6)) (.yes)) ρ = some (.lst ((R.map List.length).map nD), .new1) := by
        intro ρ hρ
        subst hρ
        constructor
        · rw [ev_compM (sortsOf rs' n) nsD (fun r => nD r.length) (own := false)]
          · rw [List.map_map]; rfl
          · simp [q2, s2, rowsD]
          · intro r _
            exact ⟨_, rfl, .frz, by simp [nD], by simp⟩
          · rw [L_eq]; omega
        · rw [ev_compM R nsD (fun r => nD r.length) (own := false)]
          · rw [List.map_map]; rfl
          · simp [rowsD]
          · intro r _
            exact ⟨_, rfl, .frz, by simp [nD], by simp⟩
          · rw [L_eq]; omega
      obtain ⟨e1, e2⟩ := E1 _ rfl
      have v1 := sortedV_N (xs := (sortsOf rs' n).map List.length) (by rw [List.length_map, L_eq]; omega)
      have v2 := sortedV_N (xs := R.map List.length) (by rw [List.length_map, L_eq]; omega)
      rw [sortN_of_perm hsz] at v1
      simp only [q_exec_seq, q_exec_ret, q_ev_eq, q_ev_sorted, e1, e2, em_new1, Option.bind_some, v1, v2, bm_some]
      simp [eqD_nsD, PD8]
      show eqD (.lst _) (.lst _) = true
      rw [eqD_nsD]
      simp
end Hg
end

section
set_option Elab.async false
set_option maxRecDepth 100000
set_option autoImplicit false
set_option maxHeartbeats 4000000
/-LAWTRUE-/
namespace HgW
open PySem PySem.Spec PyProof.Rows L2 Hg
theorem all_mk [TB : Tabl] {l : PySem.W.OpenLaw} {w : World} {K : PySem.W.Frag} {h : Heap} {mg : Str → Option Value} {fa : Addr} (X : K.In h) (G : h.Ns mainGlobals mg) (hfa : mg "law" = some (.ref fa))
    {f0 : Addr} {od0 an0 : Option Addr} {sl0 : Array (Option Value)} {oc0 kV0 dc0 pm0 cd0 ct0 : Value}
    {f1 : Addr} {od1 an1 : Option Addr} {sl1 : Array (Option Value)} {oc1 kV1 dc1 pm1 cd1 ct1 : Value}
    {f2 : Addr} {od2 an2 : Option Addr} {sl2 : Array (Option Value)} {oc2 kV2 dc2 pm2 cd2 ct2 : Value}
    {f3 : Addr} {od3 an3 : Option Addr} {sl3 : Array (Option Value)} {oc3 kV3 dc3 pm3 cd3 ct3 : Value}
    {f4 : Addr} {od4 an4 : Option Addr} {sl4 : Array (Option Value)} {oc4 kV4 dc4 pm4 cd4 ct4 : Value}
    {f5 : Addr} {od5 an5 : Option Addr} {sl5 : Array (Option Value)} {oc5 kV5 dc5 pm5 cd5 ct5 : Value}
    {f6 : Addr} {od6 an6 : Option Addr} {sl6 : Array (Option Value)} {oc6 kV6 dc6 pm6 cd6 ct6 : Value}
    {f7 : Addr} {od7 an7 : Option Addr} {sl7 : Array (Option Value)} {oc7 kV7 dc7 pm7 cd7 ct7 : Value}
    {f8 : Addr} {od8 an8 : Option Addr} {sl8 : Array (Option Value)} {oc8 kV8 dc8 pm8 cd8 ct8 : Value}
    {f9 : Addr} {od9 an9 : Option Addr} {sl9 : Array (Option Value)} {oc9 kV9 dc9 pm9 cd9 ct9 : Value}
    {f10 : Addr} {od10 an10 : Option Addr} {sl10 : Array (Option Value)} {oc10 kV10 dc10 pm10 cd10 ct10 : Value}
    {f11 : Addr} {od11 an11 : Option Addr} {sl11 : Array (Option Value)} {oc11 kV11 dc11 pm11 cd11 ct11 : Value}
    {f12 : Addr} {od12 an12 : Option Addr} {sl12 : Array (Option Value)} {oc12 kV12 dc12 pm12 cd12 ct12 : Value}
    {f13 : Addr} {od13 an13 : Option Addr} {sl13 : Array (Option Value)} {oc13 kV13 dc13 pm13 cd13 ct13 : Value}
    {f14 : Addr} {od14 an14 : Option Addr} {sl14 : Array (Option Value)} {oc14 kV14 dc14 pm14 cd14 ct14 : Value}
    {f15 : Addr} {od15 an15 : Option Addr} {sl15 : Array (Option Value)} {oc15 kV15 dc15 pm15 cd15 ct15 : Value}
    {f16 : Addr} {od16 an16 : Option Addr} {sl16 : Array (Option Value)} {oc16 kV16 dc16 pm16 ct16 : Value} {cM16 tP : Addr}
    {f17 : Addr} {od17 an17 : Option Addr} {sl17 : Array (Option Value)} {oc17 kV17 dc17 pm17 cd17 ct17 : Value}
    {f18 : Addr} {od18 an18 : Option Addr} {sl18 : Array (Option Value)} {oc18 kV18 dc18 pm18 cd18 ct18 : Value}
    {f19 : Addr} {od19 an19 : Option Addr} {sl19 : Array (Option Value)} {oc19 kV19 dc19 pm19 cd19 ct19 : Value}
    {f20 : Addr} {od20 an20 : Option Addr} {sl20 : Array (Option Value)} {oc20 kV20 dc20 pm20 cd20 ct20 : Value}
    {f21 : Addr} {od21 an21 : Option Addr} {sl21 : Array (Option Value)} {oc21 kV21 dc21 pm21 cd21 ct21 : Value}
    {f22 : Addr} {od22 an22 : Option Addr} {sl22 : Array (Option Value)} {oc22 kV22 dc22 pm22 cd22 ct22 : Value}
    {f23 : Addr} {od23 an23 : Option Addr} {sl23 : Array (Option Value)} {oc23 kV23 dc23 pm23 cd23 ct23 : Value}
    {f24 : Addr} {od24 an24 : Option Addr} {sl24 : Array (Option Value)} {oc24 kV24 dc24 pm24 cd24 ct24 : Value}
    (a0 : PySem.W.nsIn K mainGlobals "neighbours" = some (some (.ref f0))) (l0 : K.lookup f0 = some ⟨oc0, od0, .func (PySem.W.fnOf "neighbours" "neighbours" (defArgs st_neighbours) (defBody st_neighbours) (defScope st_neighbours) .none kV0 dc0 pm0 an0 cd0 ct0), sl0⟩) (cc0 : PySem.W.codeIn K cd0 "neighbours" = true) (kk0 : PySem.W.keepIn K (.ref f0) = true)
    (a1 : PySem.W.nsIn K mainGlobals "times_alike" = some (some (.ref f1))) (l1 : K.lookup f1 = some ⟨oc1, od1, .func (PySem.W.fnOf "times_alike" "times_alike" (defArgs st_times_alike) (defBody st_times_alike) (defScope st_times_alike) .none kV1 dc1 pm1 an1 cd1 ct1), sl1⟩) (cc1 : PySem.W.codeIn K cd1 "times_alike" = true) (kk1 : PySem.W.keepIn K (.ref f1) = true)
    (a2 : PySem.W.nsIn K mainGlobals "runs" = some (some (.ref f2))) (l2 : K.lookup f2 = some ⟨oc2, od2, .func (PySem.W.fnOf "runs" "runs" (defArgs st_runs) (defBody st_runs) (defScope st_runs) .none kV2 dc2 pm2 an2 cd2 ct2), sl2⟩) (cc2 : PySem.W.codeIn K cd2 "runs" = true) (kk2 : PySem.W.keepIn K (.ref f2) = true)
    (a3 : PySem.W.nsIn K mainGlobals "orders" = some (some (.ref f3))) (l3 : K.lookup f3 = some ⟨oc3, od3, .func (PySem.W.fnOf "orders" "orders" (defArgs st_orders) (defBody st_orders) (defScope st_orders) .none kV3 dc3 pm3 an3 cd3 ct3), sl3⟩) (cc3 : PySem.W.codeIn K cd3 "orders" = true) (kk3 : PySem.W.keepIn K (.ref f3) = true)
    (a4 : PySem.W.nsIn K mainGlobals "_law_cell" = some (some (.ref f4))) (l4 : K.lookup f4 = some ⟨oc4, od4, .func (PySem.W.fnOf "_law_cell" "_law_cell" (defArgs st__law_cell) (defBody st__law_cell) (defScope st__law_cell) .none kV4 dc4 pm4 an4 cd4 ct4), sl4⟩) (cc4 : PySem.W.codeIn K cd4 "_law_cell" = true) (kk4 : PySem.W.keepIn K (.ref f4) = true)
    (a5 : PySem.W.nsIn K mainGlobals "_law_mix" = some (some (.ref f5))) (l5 : K.lookup f5 = some ⟨oc5, od5, .func (PySem.W.fnOf "_law_mix" "_law_mix" (defArgs st__law_mix) (defBody st__law_mix) (defScope st__law_mix) .none kV5 dc5 pm5 an5 cd5 ct5), sl5⟩) (cc5 : PySem.W.codeIn K cd5 "_law_mix" = true) (kk5 : PySem.W.keepIn K (.ref f5) = true)
    (a6 : PySem.W.nsIn K mainGlobals "_law_whole" = some (some (.ref f6))) (l6 : K.lookup f6 = some ⟨oc6, od6, .func (PySem.W.fnOf "_law_whole" "_law_whole" (defArgs st__law_whole) (defBody st__law_whole) (defScope st__law_whole) .none kV6 dc6 pm6 an6 cd6 ct6), sl6⟩) (cc6 : PySem.W.codeIn K cd6 "_law_whole" = true) (kk6 : PySem.W.keepIn K (.ref f6) = true)
    (a7 : PySem.W.nsIn K mainGlobals "_law_copy" = some (some (.ref f7))) (l7 : K.lookup f7 = some ⟨oc7, od7, .func (PySem.W.fnOf "_law_copy" "_law_copy" (defArgs st__law_copy) (defBody st__law_copy) (defScope st__law_copy) .none kV7 dc7 pm7 an7 cd7 ct7), sl7⟩) (cc7 : PySem.W.codeIn K cd7 "_law_copy" = true) (kk7 : PySem.W.keepIn K (.ref f7) = true)
    (a8 : PySem.W.nsIn K mainGlobals "_law_beside" = some (some (.ref f8))) (l8 : K.lookup f8 = some ⟨oc8, od8, .func (PySem.W.fnOf "_law_beside" "_law_beside" (defArgs st__law_beside) (defBody st__law_beside) (defScope st__law_beside) .none kV8 dc8 pm8 an8 cd8 ct8), sl8⟩) (cc8 : PySem.W.codeIn K cd8 "_law_beside" = true) (kk8 : PySem.W.keepIn K (.ref f8) = true)
    (a9 : PySem.W.nsIn K mainGlobals "_law_tree" = some (some (.ref f9))) (l9 : K.lookup f9 = some ⟨oc9, od9, .func (PySem.W.fnOf "_law_tree" "_law_tree" (defArgs st__law_tree) (defBody st__law_tree) (defScope st__law_tree) .none kV9 dc9 pm9 an9 cd9 ct9), sl9⟩) (cc9 : PySem.W.codeIn K cd9 "_law_tree" = true) (kk9 : PySem.W.keepIn K (.ref f9) = true)
    (a10 : PySem.W.nsIn K mainGlobals "parents" = some (some (.ref f10))) (l10 : K.lookup f10 = some ⟨oc10, od10, .func (PySem.W.fnOf "parents" "parents" (defArgs st_parents) (defBody st_parents) (defScope st_parents) .none kV10 dc10 pm10 an10 cd10 ct10), sl10⟩) (cc10 : PySem.W.codeIn K cd10 "parents" = true) (kk10 : PySem.W.keepIn K (.ref f10) = true)
    (a11 : PySem.W.nsIn K mainGlobals "_law_large" = some (some (.ref f11))) (l11 : K.lookup f11 = some ⟨oc11, od11, .func (PySem.W.fnOf "_law_large" "_law_large" (defArgs st__law_large) (defBody st__law_large) (defScope st__law_large) .none kV11 dc11 pm11 an11 cd11 ct11), sl11⟩) (cc11 : PySem.W.codeIn K cd11 "_law_large" = true) (kk11 : PySem.W.keepIn K (.ref f11) = true)
    (a12 : PySem.W.nsIn K mainGlobals "_law_order" = some (some (.ref f12))) (l12 : K.lookup f12 = some ⟨oc12, od12, .func (PySem.W.fnOf "_law_order" "_law_order" (defArgs st__law_order) (defBody st__law_order) (defScope st__law_order) .none kV12 dc12 pm12 an12 cd12 ct12), sl12⟩) (cc12 : PySem.W.codeIn K cd12 "_law_order" = true) (kk12 : PySem.W.keepIn K (.ref f12) = true)
    (a13 : PySem.W.nsIn K mainGlobals "_law_code" = some (some (.ref f13))) (l13 : K.lookup f13 = some ⟨oc13, od13, .func (PySem.W.fnOf "_law_code" "_law_code" (defArgs st__law_code) (defBody st__law_code) (defScope st__law_code) .none kV13 dc13 pm13 an13 cd13 ct13), sl13⟩) (cc13 : PySem.W.codeIn K cd13 "_law_code" = true) (kk13 : PySem.W.keepIn K (.ref f13) = true)
    (a14 : PySem.W.nsIn K mainGlobals "lengths" = some (some (.ref f14))) (l14 : K.lookup f14 = some ⟨oc14, od14, .func (PySem.W.fnOf "lengths" "lengths" (defArgs st_lengths) (defBody st_lengths) (defScope st_lengths) .none kV14 dc14 pm14 an14 cd14 ct14), sl14⟩) (cc14 : PySem.W.codeIn K cd14 "lengths" = true) (kk14 : PySem.W.keepIn K (.ref f14) = true)
    (a15 : PySem.W.nsIn K mainGlobals "branch_codes" = some (some (.ref f15))) (l15 : K.lookup f15 = some ⟨oc15, od15, .func (PySem.W.fnOf "branch_codes" "branch_codes" (defArgs st_branch_codes) (defBody st_branch_codes) (defScope st_branch_codes) .none kV15 dc15 pm15 an15 cd15 ct15), sl15⟩) (cc15 : PySem.W.codeIn K cd15 "branch_codes" = true) (kk15 : PySem.W.keepIn K (.ref f15) = true)
    (a16 : PySem.W.nsIn K mainGlobals "order_of" = some (some (.ref f16))) (l16 : K.lookup f16 = some ⟨oc16, od16, .func (PySem.W.fnOf "order_of" "order_of" (defArgs st_order_of) (defBody st_order_of) (defScope st_order_of) .none kV16 dc16 pm16 an16 (.ref cM16) ct16), sl16⟩) (cc16 : PySem.W.codeIn K (.ref cM16) "order_of" = true) (kk16 : PySem.W.keepIn K (.ref f16) = true)
    (a17 : PySem.W.nsIn K mainGlobals "_law_hedge" = some (some (.ref f17))) (l17 : K.lookup f17 = some ⟨oc17, od17, .func (PySem.W.fnOf "_law_hedge" "_law_hedge" (defArgs st__law_hedge) (defBody st__law_hedge) (defScope st__law_hedge) .none kV17 dc17 pm17 an17 cd17 ct17), sl17⟩) (cc17 : PySem.W.codeIn K cd17 "_law_hedge" = true) (kk17 : PySem.W.keepIn K (.ref f17) = true)
    (a18 : PySem.W.nsIn K mainGlobals "_law_shuffled" = some (some (.ref f18))) (l18 : K.lookup f18 = some ⟨oc18, od18, .func (PySem.W.fnOf "_law_shuffled" "_law_shuffled" (defArgs st__law_shuffled) (defBody st__law_shuffled) (defScope st__law_shuffled) .none kV18 dc18 pm18 an18 cd18 ct18), sl18⟩) (cc18 : PySem.W.codeIn K cd18 "_law_shuffled" = true) (kk18 : PySem.W.keepIn K (.ref f18) = true)
    (a19 : PySem.W.nsIn K mainGlobals "reaches" = some (some (.ref f19))) (l19 : K.lookup f19 = some ⟨oc19, od19, .func (PySem.W.fnOf "reaches" "reaches" (defArgs st_reaches) (defBody st_reaches) (defScope st_reaches) .none kV19 dc19 pm19 an19 cd19 ct19), sl19⟩) (cc19 : PySem.W.codeIn K cd19 "reaches" = true) (kk19 : PySem.W.keepIn K (.ref f19) = true)
    (a20 : PySem.W.nsIn K mainGlobals "turnings_at" = some (some (.ref f20))) (l20 : K.lookup f20 = some ⟨oc20, od20, .func (PySem.W.fnOf "turnings_at" "turnings_at" (defArgs st_turnings_at) (defBody st_turnings_at) (defScope st_turnings_at) .none kV20 dc20 pm20 an20 cd20 ct20), sl20⟩) (cc20 : PySem.W.codeIn K cd20 "turnings_at" = true) (kk20 : PySem.W.keepIn K (.ref f20) = true)
    (a21 : PySem.W.nsIn K mainGlobals "sorts" = some (some (.ref f21))) (l21 : K.lookup f21 = some ⟨oc21, od21, .func (PySem.W.fnOf "sorts" "sorts" (defArgs st_sorts) (defBody st_sorts) (defScope st_sorts) .none kV21 dc21 pm21 an21 cd21 ct21), sl21⟩) (cc21 : PySem.W.codeIn K cd21 "sorts" = true) (kk21 : PySem.W.keepIn K (.ref f21) = true)
    (a22 : PySem.W.nsIn K mainGlobals "middle" = some (some (.ref f22))) (l22 : K.lookup f22 = some ⟨oc22, od22, .func (PySem.W.fnOf "middle" "middle" (defArgs st_middle) (defBody st_middle) (defScope st_middle) .none kV22 dc22 pm22 an22 cd22 ct22), sl22⟩) (cc22 : PySem.W.codeIn K cd22 "middle" = true) (kk22 : PySem.W.keepIn K (.ref f22) = true)
    (a23 : PySem.W.nsIn K mainGlobals "turnings" = some (some (.ref f23))) (l23 : K.lookup f23 = some ⟨oc23, od23, .func (PySem.W.fnOf "turnings" "turnings" (defArgs st_turnings) (defBody st_turnings) (defScope st_turnings) .none kV23 dc23 pm23 an23 cd23 ct23), sl23⟩) (cc23 : PySem.W.codeIn K cd23 "turnings" = true) (kk23 : PySem.W.keepIn K (.ref f23) = true)
    (a24 : PySem.W.nsIn K mainGlobals "law" = some (some (.ref f24))) (l24 : K.lookup f24 = some ⟨oc24, od24, .func (PySem.W.fnOf "law" "law" (defArgs st_law) (defBody st_law) (defScope st_law) .none kV24 dc24 pm24 an24 cd24 ct24), sl24⟩) (cc24 : PySem.W.codeIn K cd24 "law" = true) (kk24 : PySem.W.keepIn K (.ref f24) = true)
    (z_len : PySem.W.nsIn K mainGlobals "len" = some none)
    (z_range : PySem.W.nsIn K mainGlobals "range" = some none)
    (z_sorted : PySem.W.nsIn K mainGlobals "sorted" = some none)
    (z_min : PySem.W.nsIn K mainGlobals "min" = some none)
    (z_max : PySem.W.nsIn K mainGlobals "max" = some none)
    (z_sum : PySem.W.nsIn K mainGlobals "sum" = some none)
    (z_isinstance : PySem.W.nsIn K mainGlobals "isinstance" = some none)
    (z_list : PySem.W.nsIn K mainGlobals "list" = some none)
    (z_tuple : PySem.W.nsIn K mainGlobals "tuple" = some none)
    (z_dict : PySem.W.nsIn K mainGlobals "dict" = some none)
    (z_int : PySem.W.nsIn K mainGlobals "int" = some none)
    (z_str : PySem.W.nsIn K mainGlobals "str" = some none)
    (z_bool : PySem.W.nsIn K mainGlobals "bool" = some none)
    (z_set : PySem.W.nsIn K mainGlobals "set" = some none)
    (z_enumerate : PySem.W.nsIn K mainGlobals "enumerate" = some none)
    (z_reversed : PySem.W.nsIn K mainGlobals "reversed" = some none)
    (z_zip : PySem.W.nsIn K mainGlobals "zip" = some none) (hq : TB.q tP = some (("order_of" : Str) ++ ".<locals>." ++ "<lambda>")) :
    ∃ fd : FuncData, (∀ (s : Shared) (v : Value), BindsTo s fd ⟨[v], []⟩ [("_law_script", v)]) ∧ ∀ base : Heap, K.In base → base.Ns mainGlobals mg → LamX.TabB base mg cM16 tP → FnOk l.prog w K mg base CX0 7 fa fd ["_law_script"] (spF K [] 1 s_law_k19) := by
  have e := hfa.symm.trans (PySem.W.mg_of X G a24)
  cases e
  have bf : Bf mg := ⟨PySem.W.mg_none_of X G z_len, PySem.W.mg_none_of X G z_range, PySem.W.mg_none_of X G z_sorted, PySem.W.mg_none_of X G z_min, PySem.W.mg_none_of X G z_max, PySem.W.mg_none_of X G z_sum, PySem.W.mg_none_of X G z_isinstance, PySem.W.mg_none_of X G z_list, PySem.W.mg_none_of X G z_tuple, PySem.W.mg_none_of X G z_dict, PySem.W.mg_none_of X G z_int, PySem.W.mg_none_of X G z_str, PySem.W.mg_none_of X G z_bool, PySem.W.mg_none_of X G z_set, PySem.W.mg_none_of X G z_enumerate, PySem.W.mg_none_of X G z_reversed, PySem.W.mg_none_of X G z_zip⟩
  have F0 := fun_mk (st := st_neighbours) l0 cc0 kk0
  have b0 := F0.binds (ps := ["hedge"]) fun _ _ _ _ _ _ us hl => match us, hl with | [_], _ => rfl
  have F1 := fun_mk (st := st_times_alike) l1 cc1 kk1
  have b1 := F1.binds (ps := ["some"]) fun _ _ _ _ _ _ us hl => match us, hl with | [_], _ => rfl
  have F2 := fun_mk (st := st_runs) l2 cc2 kk2
  have b2 := F2.binds (ps := ["texts"]) fun _ _ _ _ _ _ us hl => match us, hl with | [_], _ => rfl
  have F3 := fun_mk (st := st_orders) l3 cc3 kk3
  have b3 := F3.binds (ps := ["many"]) fun _ _ _ _ _ _ us hl => match us, hl with | [_], _ => rfl
  have F4 := fun_mk (st := st__law_cell) l4 cc4 kk4
  have b4 := F4.binds (ps := ["_law_script", "_law_k"]) fun _ _ _ _ _ _ us hl => match us, hl with | [_, _], _ => rfl
  have F5 := fun_mk (st := st__law_mix) l5 cc5 kk5
  have b5 := F5.binds (ps := ["_law_cell_here", "_law_prime", "_law_many"]) fun _ _ _ _ _ _ us hl => match us, hl with | [_, _, _], _ => rfl
  have F6 := fun_mk (st := st__law_whole) l6 cc6 kk6
  have b6 := F6.binds (ps := ["_law_found"]) fun _ _ _ _ _ _ us hl => match us, hl with | [_], _ => rfl
  have F7 := fun_mk (st := st__law_copy) l7 cc7 kk7
  have b7 := F7.binds (ps := ["_law_hedge_here"]) fun _ _ _ _ _ _ us hl => match us, hl with | [_], _ => rfl
  have F8 := fun_mk (st := st__law_beside) l8 cc8 kk8
  have b8 := F8.binds (ps := ["_law_hedge_here"]) fun _ _ _ _ _ _ us hl => match us, hl with | [_], _ => rfl
  have F9 := fun_mk (st := st__law_tree) l9 cc9 kk9
  have b9 := F9.binds (ps := ["_law_beside_here", "_law_knot"]) fun _ _ _ _ _ _ us hl => match us, hl with | [_, _], _ => rfl
  have F10 := fun_mk (st := st_parents) l10 cc10 kk10
  have b10 := F10.binds (ps := ["hedge", "knot"]) fun _ _ _ _ _ _ us hl => match us, hl with | [_, _], _ => rfl
  have F11 := fun_mk (st := st__law_large) l11 cc11 kk11
  have b11 := F11.binds (ps := ["_law_script"]) fun _ _ _ _ _ _ us hl => match us, hl with | [_], _ => rfl
  have F12 := fun_mk (st := st__law_order) l12 cc12 kk12
  have b12 := F12.binds (ps := ["_law_script", "_law_at", "_law_many"]) fun _ _ _ _ _ _ us hl => match us, hl with | [_, _, _], _ => rfl
  have F13 := fun_mk (st := st__law_code) l13 cc13 kk13
  have b13 := F13.binds (ps := ["_law_beside_here", "_law_knot"]) fun _ _ _ _ _ _ us hl => match us, hl with | [_, _], _ => rfl
  have F14 := fun_mk (st := st_lengths) l14 cc14 kk14
  have b14 := F14.binds (ps := ["hedge", "knot"]) fun _ _ _ _ _ _ us hl => match us, hl with | [_, _], _ => rfl
  have F15 := fun_mk (st := st_branch_codes) l15 cc15 kk15
  have b15 := F15.binds (ps := ["hedge", "knot"]) fun _ _ _ _ _ _ us hl => match us, hl with | [_, _], _ => rfl
  have F16 := fun_mk (st := st_order_of) l16 cc16 kk16
  have b16 := F16.binds (ps := ["hedge", "knot", "codes"]) fun _ _ _ _ _ _ us hl => match us, hl with | [_, _, _], _ => rfl
  have F17 := fun_mk (st := st__law_hedge) l17 cc17 kk17
  have b17 := F17.binds (ps := ["_law_script", "_law_at"]) fun _ _ _ _ _ _ us hl => match us, hl with | [_, _], _ => rfl
  have F18 := fun_mk (st := st__law_shuffled) l18 cc18 kk18
  have b18 := F18.binds (ps := ["_law_hedge_here", "_law_script", "_law_at"]) fun _ _ _ _ _ _ us hl => match us, hl with | [_, _, _], _ => rfl
  have F19 := fun_mk (st := st_reaches) l19 cc19 kk19
  have b19 := F19.binds (ps := ["hedge"]) fun _ _ _ _ _ _ us hl => match us, hl with | [_], _ => rfl
  have F20 := fun_mk (st := st_turnings_at) l20 cc20 kk20
  have b20 := F20.binds (ps := ["hedge", "knot"]) fun _ _ _ _ _ _ us hl => match us, hl with | [_, _], _ => rfl
  have F21 := fun_mk (st := st_sorts) l21 cc21 kk21
  have b21 := F21.binds (ps := ["hedge"]) fun _ _ _ _ _ _ us hl => match us, hl with | [_], _ => rfl
  have F22 := fun_mk (st := st_middle) l22 cc22 kk22
  have b22 := F22.binds (ps := ["hedge"]) fun _ _ _ _ _ _ us hl => match us, hl with | [_], _ => rfl
  have F23 := fun_mk (st := st_turnings) l23 cc23 kk23
  have b23 := F23.binds (ps := ["hedge"]) fun _ _ _ _ _ _ us hl => match us, hl with | [_], _ => rfl
  have F24 := fun_mk (st := st_law) l24 cc24 kk24
  have b24 := F24.binds (ps := ["_law_script"]) fun _ _ _ _ _ _ us hl => match us, hl with | [_], _ => rfl
  refine ⟨PySem.W.fnOf "law" "law" (defArgs st_law) (defBody st_law) (defScope st_law) .none kV24 dc24 pm24 an24 cd24 ct24, fun s v => .of_eq rfl, fun base _ _ tb => ?_⟩
  have c_neighbours := cal_of F0 (w_neighbours (P := l.prog) (w := w) (base := base) F0 bf  ) (PySem.W.mg_of X G a0) b0
  have c_times_alike := cal_of F1 (w_times_alike (P := l.prog) (w := w) (base := base) F1 bf  ) (PySem.W.mg_of X G a1) b1
  have c_runs := cal_of F2 (w_runs (P := l.prog) (w := w) (base := base) F2 bf  ) (PySem.W.mg_of X G a2) b2
  have c_orders := cal_of F3 (w_orders (P := l.prog) (w := w) (base := base) F3 bf  ) (PySem.W.mg_of X G a3) b3
  have c__law_cell := cal_of F4 (w__law_cell (P := l.prog) (w := w) (base := base) F4 bf  ) (PySem.W.mg_of X G a4) b4
  have c__law_mix := cal_of F5 (w__law_mix (P := l.prog) (w := w) (base := base) F5 bf  ) (PySem.W.mg_of X G a5) b5
  have c__law_whole := cal_of F6 (w__law_whole (P := l.prog) (w := w) (base := base) F6 bf  ) (PySem.W.mg_of X G a6) b6
  have c__law_copy := cal_of F7 (w__law_copy (P := l.prog) (w := w) (base := base) F7 bf  ) (PySem.W.mg_of X G a7) b7
  have c__law_beside := cal_of F8 (w__law_beside (P := l.prog) (w := w) (base := base) F8 bf  ) (PySem.W.mg_of X G a8) b8
  have c__law_tree := cal_of F9 (w__law_tree (P := l.prog) (w := w) (base := base) F9 bf  ) (PySem.W.mg_of X G a9) b9
  have c_parents := cal_of F10 (w_parents (P := l.prog) (w := w) (base := base) F10 bf c_neighbours ) (PySem.W.mg_of X G a10) b10
  have c__law_large := cal_of F11 (w__law_large (P := l.prog) (w := w) (base := base) F11 bf c__law_mix c__law_cell ) (PySem.W.mg_of X G a11) b11
  have c__law_order := cal_of F12 (w__law_order (P := l.prog) (w := w) (base := base) F12 bf c__law_mix c__law_cell ) (PySem.W.mg_of X G a12) b12
  have c__law_code := cal_of F13 (w__law_code (P := l.prog) (w := w) (base := base) F13 bf c__law_tree ) (PySem.W.mg_of X G a13) b13
  have c_lengths := cal_of F14 (w_lengths (P := l.prog) (w := w) (base := base) F14 bf c_parents ) (PySem.W.mg_of X G a14) b14
  have c_branch_codes := cal_of F15 (w_branch_codes (P := l.prog) (w := w) (base := base) F15 bf c_parents ) (PySem.W.mg_of X G a15) b15
  have c_order_of := cal_of F16 (w_order_of (P := l.prog) (w := w) (base := base) l16 cc16 bf tb hq c_parents c_neighbours ) (PySem.W.mg_of X G a16) b16
  have c__law_hedge := cal_of F17 (w__law_hedge (P := l.prog) (w := w) (base := base) F17 bf c__law_large c__law_cell c__law_order c__law_mix ) (PySem.W.mg_of X G a17) b17
  have c__law_shuffled := cal_of F18 (w__law_shuffled (P := l.prog) (w := w) (base := base) F18 bf c__law_order ) (PySem.W.mg_of X G a18) b18
  have c_reaches := cal_of F19 (w_reaches (P := l.prog) (w := w) (base := base) F19 bf c_lengths ) (PySem.W.mg_of X G a19) b19
  have c_turnings_at := cal_of F20 (w_turnings_at (P := l.prog) (w := w) (base := base) F20 bf c_branch_codes c_order_of c_times_alike c_runs c_orders ) (PySem.W.mg_of X G a20) b20
  have c_sorts := cal_of F21 (w_sorts (P := l.prog) (w := w) (base := base) F21 bf c_branch_codes ) (PySem.W.mg_of X G a21) b21
  have c_middle := cal_of F22 (w_middle (P := l.prog) (w := w) (base := base) F22 bf c_reaches ) (PySem.W.mg_of X G a22) b22
  have c_turnings := cal_of F23 (w_turnings (P := l.prog) (w := w) (base := base) F23 bf c_middle c_branch_codes c_turnings_at ) (PySem.W.mg_of X G a23) b23
  exact w_law F24 bf c__law_hedge c__law_shuffled c__law_cell c__law_beside c__law_code c_sorts c__law_copy c_turnings c__law_whole 
theorem law_at {l : PySem.W.OpenLaw} {w : World} {K : PySem.W.Frag} {h : Heap} {mg : Str → Option Value} {fa : Addr} (X : K.In h) (G : h.Ns mainGlobals mg) (hfa : mg "law" = some (.ref fa))
    {f0 : Addr} {od0 an0 : Option Addr} {sl0 : Array (Option Value)} {oc0 kV0 dc0 pm0 cd0 ct0 : Value}
    {f1 : Addr} {od1 an1 : Option Addr} {sl1 : Array (Option Value)} {oc1 kV1 dc1 pm1 cd1 ct1 : Value}
    {f2 : Addr} {od2 an2 : Option Addr} {sl2 : Array (Option Value)} {oc2 kV2 dc2 pm2 cd2 ct2 : Value}
    {f3 : Addr} {od3 an3 : Option Addr} {sl3 : Array (Option Value)} {oc3 kV3 dc3 pm3 cd3 ct3 : Value}
    {f4 : Addr} {od4 an4 : Option Addr} {sl4 : Array (Option Value)} {oc4 kV4 dc4 pm4 cd4 ct4 : Value}
    {f5 : Addr} {od5 an5 : Option Addr} {sl5 : Array (Option Value)} {oc5 kV5 dc5 pm5 cd5 ct5 : Value}
    {f6 : Addr} {od6 an6 : Option Addr} {sl6 : Array (Option Value)} {oc6 kV6 dc6 pm6 cd6 ct6 : Value}
    {f7 : Addr} {od7 an7 : Option Addr} {sl7 : Array (Option Value)} {oc7 kV7 dc7 pm7 cd7 ct7 : Value}
    {f8 : Addr} {od8 an8 : Option Addr} {sl8 : Array (Option Value)} {oc8 kV8 dc8 pm8 cd8 ct8 : Value}
    {f9 : Addr} {od9 an9 : Option Addr} {sl9 : Array (Option Value)} {oc9 kV9 dc9 pm9 cd9 ct9 : Value}
    {f10 : Addr} {od10 an10 : Option Addr} {sl10 : Array (Option Value)} {oc10 kV10 dc10 pm10 cd10 ct10 : Value}
    {f11 : Addr} {od11 an11 : Option Addr} {sl11 : Array (Option Value)} {oc11 kV11 dc11 pm11 cd11 ct11 : Value}
    {f12 : Addr} {od12 an12 : Option Addr} {sl12 : Array (Option Value)} {oc12 kV12 dc12 pm12 cd12 ct12 : Value}
    {f13 : Addr} {od13 an13 : Option Addr} {sl13 : Array (Option Value)} {oc13 kV13 dc13 pm13 cd13 ct13 : Value}
    {f14 : Addr} {od14 an14 : Option Addr} {sl14 : Array (Option Value)} {oc14 kV14 dc14 pm14 cd14 ct14 : Value}
    {f15 : Addr} {od15 an15 : Option Addr} {sl15 : Array (Option Value)} {oc15 kV15 dc15 pm15 cd15 ct15 : Value}
    {f16 : Addr} {od16 an16 : Option Addr} {sl16 : Array (Option Value)} {oc16 kV16 dc16 pm16 ct16 : Value} {cM16 tP : Addr}
    {f17 : Addr} {od17 an17 : Option Addr} {sl17 : Array (Option Value)} {oc17 kV17 dc17 pm17 cd17 ct17 : Value}
    {f18 : Addr} {od18 an18 : Option Addr} {sl18 : Array (Option Value)} {oc18 kV18 dc18 pm18 cd18 ct18 : Value}
    {f19 : Addr} {od19 an19 : Option Addr} {sl19 : Array (Option Value)} {oc19 kV19 dc19 pm19 cd19 ct19 : Value}
    {f20 : Addr} {od20 an20 : Option Addr} {sl20 : Array (Option Value)} {oc20 kV20 dc20 pm20 cd20 ct20 : Value}
    {f21 : Addr} {od21 an21 : Option Addr} {sl21 : Array (Option Value)} {oc21 kV21 dc21 pm21 cd21 ct21 : Value}
    {f22 : Addr} {od22 an22 : Option Addr} {sl22 : Array (Option Value)} {oc22 kV22 dc22 pm22 cd22 ct22 : Value}
    {f23 : Addr} {od23 an23 : Option Addr} {sl23 : Array (Option Value)} {oc23 kV23 dc23 pm23 cd23 ct23 : Value}
    {f24 : Addr} {od24 an24 : Option Addr} {sl24 : Array (Option Value)} {oc24 kV24 dc24 pm24 cd24 ct24 : Value}
    (a0 : PySem.W.nsIn K mainGlobals "neighbours" = some (some (.ref f0))) (l0 : K.lookup f0 = some ⟨oc0, od0, .func (PySem.W.fnOf "neighbours" "neighbours" (defArgs st_neighbours) (defBody st_neighbours) (defScope st_neighbours) .none kV0 dc0 pm0 an0 cd0 ct0), sl0⟩) (cc0 : PySem.W.codeIn K cd0 "neighbours" = true) (kk0 : PySem.W.keepIn K (.ref f0) = true)
    (a1 : PySem.W.nsIn K mainGlobals "times_alike" = some (some (.ref f1))) (l1 : K.lookup f1 = some ⟨oc1, od1, .func (PySem.W.fnOf "times_alike" "times_alike" (defArgs st_times_alike) (defBody st_times_alike) (defScope st_times_alike) .none kV1 dc1 pm1 an1 cd1 ct1), sl1⟩) (cc1 : PySem.W.codeIn K cd1 "times_alike" = true) (kk1 : PySem.W.keepIn K (.ref f1) = true)
    (a2 : PySem.W.nsIn K mainGlobals "runs" = some (some (.ref f2))) (l2 : K.lookup f2 = some ⟨oc2, od2, .func (PySem.W.fnOf "runs" "runs" (defArgs st_runs) (defBody st_runs) (defScope st_runs) .none kV2 dc2 pm2 an2 cd2 ct2), sl2⟩) (cc2 : PySem.W.codeIn K cd2 "runs" = true) (kk2 : PySem.W.keepIn K (.ref f2) = true)
    (a3 : PySem.W.nsIn K mainGlobals "orders" = some (some (.ref f3))) (l3 : K.lookup f3 = some ⟨oc3, od3, .func (PySem.W.fnOf "orders" "orders" (defArgs st_orders) (defBody st_orders) (defScope st_orders) .none kV3 dc3 pm3 an3 cd3 ct3), sl3⟩) (cc3 : PySem.W.codeIn K cd3 "orders" = true) (kk3 : PySem.W.keepIn K (.ref f3) = true)
    (a4 : PySem.W.nsIn K mainGlobals "_law_cell" = some (some (.ref f4))) (l4 : K.lookup f4 = some ⟨oc4, od4, .func (PySem.W.fnOf "_law_cell" "_law_cell" (defArgs st__law_cell) (defBody st__law_cell) (defScope st__law_cell) .none kV4 dc4 pm4 an4 cd4 ct4), sl4⟩) (cc4 : PySem.W.codeIn K cd4 "_law_cell" = true) (kk4 : PySem.W.keepIn K (.ref f4) = true)
    (a5 : PySem.W.nsIn K mainGlobals "_law_mix" = some (some (.ref f5))) (l5 : K.lookup f5 = some ⟨oc5, od5, .func (PySem.W.fnOf "_law_mix" "_law_mix" (defArgs st__law_mix) (defBody st__law_mix) (defScope st__law_mix) .none kV5 dc5 pm5 an5 cd5 ct5), sl5⟩) (cc5 : PySem.W.codeIn K cd5 "_law_mix" = true) (kk5 : PySem.W.keepIn K (.ref f5) = true)
    (a6 : PySem.W.nsIn K mainGlobals "_law_whole" = some (some (.ref f6))) (l6 : K.lookup f6 = some ⟨oc6, od6, .func (PySem.W.fnOf "_law_whole" "_law_whole" (defArgs st__law_whole) (defBody st__law_whole) (defScope st__law_whole) .none kV6 dc6 pm6 an6 cd6 ct6), sl6⟩) (cc6 : PySem.W.codeIn K cd6 "_law_whole" = true) (kk6 : PySem.W.keepIn K (.ref f6) = true)
    (a7 : PySem.W.nsIn K mainGlobals "_law_copy" = some (some (.ref f7))) (l7 : K.lookup f7 = some ⟨oc7, od7, .func (PySem.W.fnOf "_law_copy" "_law_copy" (defArgs st__law_copy) (defBody st__law_copy) (defScope st__law_copy) .none kV7 dc7 pm7 an7 cd7 ct7), sl7⟩) (cc7 : PySem.W.codeIn K cd7 "_law_copy" = true) (kk7 : PySem.W.keepIn K (.ref f7) = true)
    (a8 : PySem.W.nsIn K mainGlobals "_law_beside" = some (some (.ref f8))) (l8 : K.lookup f8 = some ⟨oc8, od8, .func (PySem.W.fnOf "_law_beside" "_law_beside" (defArgs st__law_beside) (defBody st__law_beside) (defScope st__law_beside) .none kV8 dc8 pm8 an8 cd8 ct8), sl8⟩) (cc8 : PySem.W.codeIn K cd8 "_law_beside" = true) (kk8 : PySem.W.keepIn K (.ref f8) = true)
    (a9 : PySem.W.nsIn K mainGlobals "_law_tree" = some (some (.ref f9))) (l9 : K.lookup f9 = some ⟨oc9, od9, .func (PySem.W.fnOf "_law_tree" "_law_tree" (defArgs st__law_tree) (defBody st__law_tree) (defScope st__law_tree) .none kV9 dc9 pm9 an9 cd9 ct9), sl9⟩) (cc9 : PySem.W.codeIn K cd9 "_law_tree" = true) (kk9 : PySem.W.keepIn K (.ref f9) = true)
    (a10 : PySem.W.nsIn K mainGlobals "parents" = some (some (.ref f10))) (l10 : K.lookup f10 = some ⟨oc10, od10, .func (PySem.W.fnOf "parents" "parents" (defArgs st_parents) (defBody st_parents) (defScope st_parents) .none kV10 dc10 pm10 an10 cd10 ct10), sl10⟩) (cc10 : PySem.W.codeIn K cd10 "parents" = true) (kk10 : PySem.W.keepIn K (.ref f10) = true)
    (a11 : PySem.W.nsIn K mainGlobals "_law_large" = some (some (.ref f11))) (l11 : K.lookup f11 = some ⟨oc11, od11, .func (PySem.W.fnOf "_law_large" "_law_large" (defArgs st__law_large) (defBody st__law_large) (defScope st__law_large) .none kV11 dc11 pm11 an11 cd11 ct11), sl11⟩) (cc11 : PySem.W.codeIn K cd11 "_law_large" = true) (kk11 : PySem.W.keepIn K (.ref f11) = true)
    (a12 : PySem.W.nsIn K mainGlobals "_law_order" = some (some (.ref f12))) (l12 : K.lookup f12 = some ⟨oc12, od12, .func (PySem.W.fnOf "_law_order" "_law_order" (defArgs st__law_order) (defBody st__law_order) (defScope st__law_order) .none kV12 dc12 pm12 an12 cd12 ct12), sl12⟩) (cc12 : PySem.W.codeIn K cd12 "_law_order" = true) (kk12 : PySem.W.keepIn K (.ref f12) = true)
    (a13 : PySem.W.nsIn K mainGlobals "_law_code" = some (some (.ref f13))) (l13 : K.lookup f13 = some ⟨oc13, od13, .func (PySem.W.fnOf "_law_code" "_law_code" (defArgs st__law_code) (defBody st__law_code) (defScope st__law_code) .none kV13 dc13 pm13 an13 cd13 ct13), sl13⟩) (cc13 : PySem.W.codeIn K cd13 "_law_code" = true) (kk13 : PySem.W.keepIn K (.ref f13) = true)
    (a14 : PySem.W.nsIn K mainGlobals "lengths" = some (some (.ref f14))) (l14 : K.lookup f14 = some ⟨oc14, od14, .func (PySem.W.fnOf "lengths" "lengths" (defArgs st_lengths) (defBody st_lengths) (defScope st_lengths) .none kV14 dc14 pm14 an14 cd14 ct14), sl14⟩) (cc14 : PySem.W.codeIn K cd14 "lengths" = true) (kk14 : PySem.W.keepIn K (.ref f14) = true)
    (a15 : PySem.W.nsIn K mainGlobals "branch_codes" = some (some (.ref f15))) (l15 : K.lookup f15 = some ⟨oc15, od15, .func (PySem.W.fnOf "branch_codes" "branch_codes" (defArgs st_branch_codes) (defBody st_branch_codes) (defScope st_branch_codes) .none kV15 dc15 pm15 an15 cd15 ct15), sl15⟩) (cc15 : PySem.W.codeIn K cd15 "branch_codes" = true) (kk15 : PySem.W.keepIn K (.ref f15) = true)
    (a16 : PySem.W.nsIn K mainGlobals "order_of" = some (some (.ref f16))) (l16 : K.lookup f16 = some ⟨oc16, od16, .func (PySem.W.fnOf "order_of" "order_of" (defArgs st_order_of) (defBody st_order_of) (defScope st_order_of) .none kV16 dc16 pm16 an16 (.ref cM16) ct16), sl16⟩) (cc16 : PySem.W.codeIn K (.ref cM16) "order_of" = true) (kk16 : PySem.W.keepIn K (.ref f16) = true)
    (a17 : PySem.W.nsIn K mainGlobals "_law_hedge" = some (some (.ref f17))) (l17 : K.lookup f17 = some ⟨oc17, od17, .func (PySem.W.fnOf "_law_hedge" "_law_hedge" (defArgs st__law_hedge) (defBody st__law_hedge) (defScope st__law_hedge) .none kV17 dc17 pm17 an17 cd17 ct17), sl17⟩) (cc17 : PySem.W.codeIn K cd17 "_law_hedge" = true) (kk17 : PySem.W.keepIn K (.ref f17) = true)
    (a18 : PySem.W.nsIn K mainGlobals "_law_shuffled" = some (some (.ref f18))) (l18 : K.lookup f18 = some ⟨oc18, od18, .func (PySem.W.fnOf "_law_shuffled" "_law_shuffled" (defArgs st__law_shuffled) (defBody st__law_shuffled) (defScope st__law_shuffled) .none kV18 dc18 pm18 an18 cd18 ct18), sl18⟩) (cc18 : PySem.W.codeIn K cd18 "_law_shuffled" = true) (kk18 : PySem.W.keepIn K (.ref f18) = true)
    (a19 : PySem.W.nsIn K mainGlobals "reaches" = some (some (.ref f19))) (l19 : K.lookup f19 = some ⟨oc19, od19, .func (PySem.W.fnOf "reaches" "reaches" (defArgs st_reaches) (defBody st_reaches) (defScope st_reaches) .none kV19 dc19 pm19 an19 cd19 ct19), sl19⟩) (cc19 : PySem.W.codeIn K cd19 "reaches" = true) (kk19 : PySem.W.keepIn K (.ref f19) = true)
    (a20 : PySem.W.nsIn K mainGlobals "turnings_at" = some (some (.ref f20))) (l20 : K.lookup f20 = some ⟨oc20, od20, .func (PySem.W.fnOf "turnings_at" "turnings_at" (defArgs st_turnings_at) (defBody st_turnings_at) (defScope st_turnings_at) .none kV20 dc20 pm20 an20 cd20 ct20), sl20⟩) (cc20 : PySem.W.codeIn K cd20 "turnings_at" = true) (kk20 : PySem.W.keepIn K (.ref f20) = true)
    (a21 : PySem.W.nsIn K mainGlobals "sorts" = some (some (.ref f21))) (l21 : K.lookup f21 = some ⟨oc21, od21, .func (PySem.W.fnOf "sorts" "sorts" (defArgs st_sorts) (defBody st_sorts) (defScope st_sorts) .none kV21 dc21 pm21 an21 cd21 ct21), sl21⟩) (cc21 : PySem.W.codeIn K cd21 "sorts" = true) (kk21 : PySem.W.keepIn K (.ref f21) = true)
    (a22 : PySem.W.nsIn K mainGlobals "middle" = some (some (.ref f22))) (l22 : K.lookup f22 = some ⟨oc22, od22, .func (PySem.W.fnOf "middle" "middle" (defArgs st_middle) (defBody st_middle) (defScope st_middle) .none kV22 dc22 pm22 an22 cd22 ct22), sl22⟩) (cc22 : PySem.W.codeIn K cd22 "middle" = true) (kk22 : PySem.W.keepIn K (.ref f22) = true)
    (a23 : PySem.W.nsIn K mainGlobals "turnings" = some (some (.ref f23))) (l23 : K.lookup f23 = some ⟨oc23, od23, .func (PySem.W.fnOf "turnings" "turnings" (defArgs st_turnings) (defBody st_turnings) (defScope st_turnings) .none kV23 dc23 pm23 an23 cd23 ct23), sl23⟩) (cc23 : PySem.W.codeIn K cd23 "turnings" = true) (kk23 : PySem.W.keepIn K (.ref f23) = true)
    (a24 : PySem.W.nsIn K mainGlobals "law" = some (some (.ref f24))) (l24 : K.lookup f24 = some ⟨oc24, od24, .func (PySem.W.fnOf "law" "law" (defArgs st_law) (defBody st_law) (defScope st_law) .none kV24 dc24 pm24 an24 cd24 ct24), sl24⟩) (cc24 : PySem.W.codeIn K cd24 "law" = true) (kk24 : PySem.W.keepIn K (.ref f24) = true)
    (z_len : PySem.W.nsIn K mainGlobals "len" = some none)
    (z_range : PySem.W.nsIn K mainGlobals "range" = some none)
    (z_sorted : PySem.W.nsIn K mainGlobals "sorted" = some none)
    (z_min : PySem.W.nsIn K mainGlobals "min" = some none)
    (z_max : PySem.W.nsIn K mainGlobals "max" = some none)
    (z_sum : PySem.W.nsIn K mainGlobals "sum" = some none)
    (z_isinstance : PySem.W.nsIn K mainGlobals "isinstance" = some none)
    (z_list : PySem.W.nsIn K mainGlobals "list" = some none)
    (z_tuple : PySem.W.nsIn K mainGlobals "tuple" = some none)
    (z_dict : PySem.W.nsIn K mainGlobals "dict" = some none)
    (z_int : PySem.W.nsIn K mainGlobals "int" = some none)
    (z_str : PySem.W.nsIn K mainGlobals "str" = some none)
    (z_bool : PySem.W.nsIn K mainGlobals "bool" = some none)
    (z_set : PySem.W.nsIn K mainGlobals "set" = some none)
    (z_enumerate : PySem.W.nsIn K mainGlobals "enumerate" = some none)
    (z_reversed : PySem.W.nsIn K mainGlobals "reversed" = some none)
    (z_zip : PySem.W.nsIn K mainGlobals "zip" = some none)
    (hT : h.get? tP = some (PySem.W.tabObj #[])) (nT : K.lookup tP = none) (hC : PySem.W.codeHdIn K cM16 tP = true) : LamX.LawAtS l w K L2.CX0 7 63 "_law_script" mg fa h := by
  letI TB : Tabl := ⟨fun P => if P = tP then some (("order_of" : Str) ++ ".<locals>." ++ "<lambda>") else none⟩
  obtain ⟨fd, hb, hF⟩ := all_mk (l := l) (w := w) (tP := tP) X G hfa a0 l0 cc0 kk0 a1 l1 cc1 kk1 a2 l2 cc2 kk2 a3 l3 cc3 kk3 a4 l4 cc4 kk4 a5 l5 cc5 kk5 a6 l6 cc6 kk6 a7 l7 cc7 kk7 a8 l8 cc8 kk8 a9 l9 cc9 kk9 a10 l10 cc10 kk10 a11 l11 cc11 kk11 a12 l12 cc12 kk12 a13 l13 cc13 kk13 a14 l14 cc14 kk14 a15 l15 cc15 kk15 a16 l16 cc16 kk16 a17 l17 cc17 kk17 a18 l18 cc18 kk18 a19 l19 cc19 kk19 a20 l20 cc20 kk20 a21 l21 cc21 kk21 a22 l22 cc22 kk22 a23 l23 cc23 kk23 a24 l24 cc24 kk24 z_len z_range z_sorted z_min z_max z_sum z_isinstance z_list z_tuple z_dict z_int z_str z_bool z_set z_enumerate z_reversed z_zip (if_pos rfl)
  refine ⟨fd, [(cM16, tP)], spF K [] 1 s_law_k19, fun p hp => ?_, fun p hp => ?_, fun p hp => ?_, hb, fun H a ns hl _ hH hS => ?_, fun base k1 k2 k3 => hF base k1 k2 (k3 (cM16, tP) (by simp))⟩
  · simp at hp; subst hp; exact hT
  · simp at hp; subst hp; exact nT
  · simp at hp; subst hp; exact PySem.W.codeHd_of_K X hC
  · refine law_sp hS (law_true ns hl) (fun P q hq => ?_) (.inl rfl)
    have hq' : (if P = tP then some (("order_of" : Str) ++ ".<locals>." ++ "<lambda>") else none) = some q := hq
    by_cases z : P = tP
    · rw [if_pos z] at hq'
      cases hq'
      subst z
      exact LamX.TabS.nil (hH (cM16, P) (by simp))
    · rw [if_neg z] at hq'
      cases hq'
end HgW
open PySem PySem.W PyProof.Rows
set_option maxHeartbeats 0 in
theorem PySem.Challenge.cw_hedgerow_k19_whole_sorts_and_turnings_holds : PySem.Challenge.rw_hedgerow_k19_whole_sorts_and_turnings.Holds := by
  w_on; o_law; k_head; (case hw => w_witness2)
  k_fill
  refine LamX.walk_ofTs (l := PySem.Challenge.rw_hedgerow_k19_whole_sorts_and_turnings) (n := 63) (k := 7) (x := "_law_script") (CX := fun _ => L2.CX0) rfl (by decide) rfl ⟨rfl, by decide, by decide⟩ (fun w h Y => PySem.W.km_in_of Y) ?F (fun _ _ _ _ _ h => h)
  case F =>
    intro w mg fa h Y KX G hmg
    refine' HgW.law_at KX G hmg ?a0 ?l0 ?cc0 ?kk0 ?a1 ?l1 ?cc1 ?kk1 ?a2 ?l2 ?cc2 ?kk2 ?a3 ?l3 ?cc3 ?kk3 ?a4 ?l4 ?cc4 ?kk4 ?a5 ?l5 ?cc5 ?kk5 ?a6 ?l6 ?cc6 ?kk6 ?a7 ?l7 ?cc7 ?kk7 ?a8 ?l8 ?cc8 ?kk8 ?a9 ?l9 ?cc9 ?kk9 ?a10 ?l10 ?cc10 ?kk10 ?a11 ?l11 ?cc11 ?kk11 ?a12 ?l12 ?cc12 ?kk12 ?a13 ?l13 ?cc13 ?kk13 ?a14 ?l14 ?cc14 ?kk14 ?a15 ?l15 ?cc15 ?kk15 ?a16 ?l16 ?cc16 ?kk16 ?a17 ?l17 ?cc17 ?kk17 ?a18 ?l18 ?cc18 ?kk18 ?a19 ?l19 ?cc19 ?kk19 ?a20 ?l20 ?cc20 ?kk20 ?a21 ?l21 ?cc21 ?kk21 ?a22 ?l22 ?cc22 ?kk22 ?a23 ?l23 ?cc23 ?kk23 ?a24 ?l24 ?cc24 ?kk24 ?z_len ?z_range ?z_sorted ?z_min ?z_max ?z_sum ?z_isinstance ?z_list ?z_tuple ?z_dict ?z_int ?z_str ?z_bool ?z_set ?z_enumerate ?z_reversed ?z_zip ?hT ?nT ?hC
    (case a0 => k_is); (case l0 => k_is); (case cc0 => k_is); (case kk0 => k_is); (case a1 => k_is); (case l1 => k_is); (case cc1 => k_is); (case kk1 => k_is); (case a2 => k_is); (case l2 => k_is); (case cc2 => k_is); (case kk2 => k_is); (case a3 => k_is); (case l3 => k_is); (case cc3 => k_is); (case kk3 => k_is); (case a4 => k_is); (case l4 => k_is); (case cc4 => k_is); (case kk4 => k_is); (case a5 => k_is); (case l5 => k_is); (case cc5 => k_is); (case kk5 => k_is); (case a6 => k_is); (case l6 => k_is); (case cc6 => k_is); (case kk6 => k_is); (case a7 => k_is); (case l7 => k_is); (case cc7 => k_is); (case kk7 => k_is); (case a8 => k_is); (case l8 => k_is); (case cc8 => k_is); (case kk8 => k_is); (case a9 => k_is); (case l9 => k_is); (case cc9 => k_is); (case kk9 => k_is); (case a10 => k_is); (case l10 => k_is); (case cc10 => k_is); (case kk10 => k_is); (case a11 => k_is); (case l11 => k_is); (case cc11 => k_is); (case kk11 => k_is); (case a12 => k_is); (case l12 => k_is); (case cc12 => k_is); (case kk12 => k_is); (case a13 => k_is); (case l13 => k_is); (case cc13 => k_is); (case kk13 => k_is); (case a14 => k_is); (case l14 => k_is); (case cc14 => k_is); (case kk14 => k_is); (case a15 => k_is); (case l15 => k_is); (case cc15 => k_is); (case kk15 => k_is); (case a16 => k_is); (case l16 => k_is); (case cc16 => k_is); (case kk16 => k_is); (case a17 => k_is); (case l17 => k_is); (case cc17 => k_is); (case kk17 => k_is); (case a18 => k_is); (case l18 => k_is); (case cc18 => k_is); (case kk18 => k_is); (case a19 => k_is); (case l19 => k_is); (case cc19 => k_is); (case kk19 => k_is); (case a20 => k_is); (case l20 => k_is); (case cc20 => k_is); (case kk20 => k_is); (case a21 => k_is); (case l21 => k_is); (case cc21 => k_is); (case kk21 => k_is); (case a22 => k_is); (case l22 => k_is); (case cc22 => k_is); (case kk22 => k_is); (case a23 => k_is); (case l23 => k_is); (case cc23 => k_is); (case kk23 => k_is); (case a24 => k_is); (case l24 => k_is); (case cc24 => k_is); (case kk24 => k_is); (case z_len => k_is); (case z_range => k_is); (case z_sorted => k_is); (case z_min => k_is); (case z_max => k_is); (case z_sum => k_is); (case z_isinstance => k_is); (case z_list => k_is); (case z_tuple => k_is); (case z_dict => k_is); (case z_int => k_is); (case z_str => k_is); (case z_bool => k_is); (case z_set => k_is); (case z_enumerate => k_is); (case z_reversed => k_is); (case z_zip => k_is)
    (case hT => exact PySem.W.km_tabs_of Y _ (List.mem_cons_self ..)); (case nT => kernel_rfl); (case hC => kernel_rfl)
end
