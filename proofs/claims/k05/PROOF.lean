import PyProof.Rows.All
import Wide.All
import OpenK.AllK
import Wide.FinOn
import HandS.ForMost
import HandS.Deep
import HandS.Rev
import HandS.SortInts
import HandS.SortRule
import HandS.SortKw
import HandS.TupLe
import HandS.IsInst
import HandS.SetFor
import HandS.Conv
import HandS.EndBits
import HandS.ListItems
import HandS.Lambda
import KE.DatumOrd
import KE.DatumIndex
import KE.SortData
import KE.KRevIter
import HandS.Zip
import HandS.RevTup
import HandS.SetKeys
import KE.KDictList
import PyProof.StrBlock2
import HandS.Codes
import HandS.Text
import HandS.Exc
import HandS.ExcOwn
import HandS.ExcIs
import HandS.TryOnly
import HandS.WordsExc
import KE.GoesMore
import PyProof.EnumMake
import HandS.ExcInit
import HandS.ExcField
import KE.KExcIs
import HandS.SuiteRaise
import HandS.ExcInitHot
import HandS.StrMore
import PySem.Challenge.RW_hedgerow_k05_spoilt_texts
set_option linter.all false
section
/-! Val: a small Python over values. Plain data D, expressions E, tests T, iterables It, statements S; an evaluator without a heap. Plain Lean, no library. -/
set_option autoImplicit false
namespace Hg
noncomputable section

abbrev Ky := Sum Int (List Nat)
inductive D where
  | non | bl (b : Bool) | int (i : Int) | str (s : List Nat) | tup (xs : List D) | lst (xs : List D) | dic (kvs : List (Ky × D))
/-- what is known of a value: it stays as it is; a local's own object (its items stay; its items are its own too); one lent by the caller; a new one -/
inductive Kd where | frz | own1 | own2 | lent | new1 | new2
  deriving DecidableEq
inductive Slot where | un | val (d : D) (k : Kd)
abbrev Env := List Slot
inductive Ty where | int | bool | str | lst | tup
inductive CO where | lt | le
inductive Tg where | nm (i : Nat) | tp (is : List Nat)

mutual
inductive E where
  | var (i : Nat) | c (d : D)
  | add (a b : E) | sub (a b : E) | mul (a b : E) | mulS (a b : E) | mulL (a b : E) | md (a b : E) | fd (a b : E) | pow (a b : E) | neg (a : E)
  | lt (a b : E) | le (a b : E) | gt (a b : E) | ge (a b : E) | eq (a b : E) | ne (a b : E) | isN (a : E) | notN (a : E) | mem (a b : E) | nmem (a b : E) | ltL (a b : E) | leL (a b : E) | gtL (a b : E) | geL (a b : E)
  | ch (o1 o2 : CO) (a b c : E)
  | and_ (a b : E) | or_ (a b : E) | one (a : E) | not_ (a : E) | ite (t : T) (a b : E)
  | ix (a b : E) | sl (a : E) (lo hi : O)
  | tup (es : Es) | lst (es : Es) | dic0 | dic2 (ks vs : Es)
  | call (f : Nat) (mask : List Bool) (es : Es)
  | len (a : E) | sum (a : E) | max1 (a : E) | maxS (a : E) | min1 (a : E) | max2 (a b : E) | min2 (a b : E) | maxd (a : E)
  | sorted (a : E) | sortedD (a : E) | sortedK0 (a : E) | sortedR (a : E) | sortedK (a : E) (i : Nat)
  | list (a : E) | listRng (a : E) | listRev (a : E) | listVals (a : E) | listKeys (a : E) | tuple (a : E) | dictP (a : E) | strI (a : E) | intE (a : E) | intT (a : E)
  | isin (a : E) (t : Ty) | lenset (a : E) | sortset (a : E)
  | join (s a : E) | split (a s : E) | find (a b i : E) | get (a k x : E) | index (a b : E)
  | comp (deep : Bool) (elt : E) (tg : Tg) (it : It) (cond : T)
inductive Es where | nil | cons (e : E) (r : Es)
inductive O where | no | so (e : E)
inductive T where | yes | val (e : E) | tru (e : E) | and_ (a b : T) | or_ (a b : T) | one (a : T) | not_ (a : T)
inductive It where | lst (e : E) | rng1 (a : E) | rng2 (a b : E) | enum (e : E) | enumS (e : E) | rev (e : E) | zip (a b : E) | items (e : E) | cst (xs : List D)
end

def Es.count : Es → Nat | .nil => 0 | .cons _ r => Es.count r + 1
inductive S where
  | skip | seq (a b : S) | asg (i m : Nat) (e : E) | asgT (is : List Nat) (e : E) | asgIx (i : Nat) (e1 e2 : E)
  | app (i : Nat) (e : E) | appIx (i : Nat) (e1 e2 : E) | ext (i : Nat) (e : E)
  | pop (tg : Option Tg) (y : Nat) (at0 : Bool) | dpop (y : Nat) (e k : E) | rem (y : Nat) (e : E) | setdef (y : Nat) (k v : E) | setdefApp (y : Nat) (k e : E)
  | ret (e : E) | ite (t : T) (a b : S) | wh (t : T) (s : S) | for_ (tg : Tg) (it : It) (s : S) | drop (e : E)
  | frz (is : List Nat) | kill (is : List Nat) | never | tryN (s : S)

/-! ### plain operations -/
def D.atom : D → Bool | .non => true | .bl _ => true | .int _ => true | .str _ => true | _ => false
def D.isNon : D → Bool | .non => true | _ => false
/-- lists and texts are at most so long -/
def L : Nat := 100000
mutual
def eqD : D → D → Bool
  | .non, .non => true
  | .bl a, .bl b => a == b
  | .bl a, .int j => (if a then 1 else 0) == j
  | .int i, .bl b => i == (if b then 1 else 0)
  | .int i, .int j => i == j
  | .str x, .str y => x == y
  | .lst xs, .lst ys => eqDs xs ys
  | .tup xs, .tup ys => eqDs xs ys
  | _, _ => false
def eqDs : List D → List D → Bool
  | [], [] => true
  | x :: xs, y :: ys => eqD x y && eqDs xs ys
  | _, _ => false
end
/-- no dicts, at most so deep -/
def plainD : Nat → D → Bool
  | _, .non => true
  | _, .bl _ => true
  | _, .int _ => true
  | _, .str s => s.all fun c => decide (c < 128)
  | n + 1, .tup xs => xs.all (plainD n)
  | n + 1, .lst xs => xs.all (plainD n)
  | _, _ => false
def PD : Nat := 8
/-- the place that an index means -/
def ixN (n : Nat) (i : Int) : Option Nat := if 0 ≤ i then (if i < n then some i.toNat else none) else if -(n : Int) ≤ i then some (i + n).toNat else none
def getIx {α : Type} (xs : List α) (i : Int) : Option α := (ixN xs.length i).bind fun j => xs[j]?
def cutIx (n d : Nat) : Option Int → Nat
  | none => d
  | some v => if v < 0 then (v + (n : Int)).toNat else min v.toNat n
def cut {α : Type} (xs : List α) (lo hi : Option Int) : List α := (xs.drop (cutIx xs.length 0 lo)).take (cutIx xs.length xs.length hi - cutIx xs.length 0 lo)
def keyD : D → Option Ky | .int i => some (.inl i) | .str s => some (.inr s) | _ => none
def kyD : Ky → D | .inl i => .int i | .inr s => .str s
def look {α : Type} (kvs : List (Ky × α)) (k : Ky) : Option α := (kvs.find? fun kv => decide (kv.1 = k)).map (·.2)
def put {α : Type} (kvs : List (Ky × α)) (k : Ky) (v : α) : List (Ky × α) :=
  if (kvs.any fun kv => decide (kv.1 = k)) = true then kvs.map (fun kv => if kv.1 = k then (kv.1, v) else kv) else kvs ++ [(k, v)]
def dropKy {α : Type} (kvs : List (Ky × α)) (k : Ky) : List (Ky × α) := kvs.filter fun kv => decide (kv.1 ≠ k)
def mergeKy {α : Type} (kvs more : List (Ky × α)) : List (Ky × α) := more.foldl (fun acc kv => put acc kv.1 kv.2) kvs
def asInt : D → Option Int | .int i => some i | _ => none
def asStr : D → Option (List Nat) | .str s => some s | _ => none
def asBl : D → Option Bool | .bl b => some b | _ => none
def asPair : D → Option (Int × Int) | .tup [.int i, .int j] => some (i, j) | _ => none
def pairD (p : Int × Int) : D := .tup [.int p.1, .int p.2]
def optAll {α β : Type} (f : α → Option β) : List α → Option (List β)
  | [] => some []
  | x :: xs => (f x).bind fun y => (optAll f xs).bind fun ys => some (y :: ys)
def intsD (xs : List D) : Option (List Int) := optAll asInt xs
def strsD (xs : List D) : Option (List (List Nat)) := optAll asStr xs
def pairsD (xs : List D) : Option (List (Int × Int)) := optAll asPair xs
/-- texts and lists of numbers by their first difference -/
def lexS : List Nat → List Nat → Bool
  | [], [] => false
  | [], _ :: _ => true
  | _ :: _, [] => false
  | x :: xs, y :: ys => if x = y then lexS xs ys else decide (x < y)
def lexI : List Int → List Int → Bool
  | [], [] => false
  | [], _ :: _ => true
  | _ :: _, [] => false
  | x :: xs, y :: ys => if x = y then lexI xs ys else decide (x < y)
def leP (p q : Int × Int) : Bool := decide (p.1 < q.1 ∨ (p.1 = q.1 ∧ p.2 ≤ q.2))
def sortI (xs : List Int) : List Int := xs.mergeSort fun a b => decide (a ≤ b)
def sortS (xs : List (List Nat)) : List (List Nat) := xs.mergeSort fun a b => !lexS b a
def sortP (xs : List (Int × Int)) : List (Int × Int) := xs.mergeSort leP
def sortD (xs : List D) : Option (List D) :=
  match intsD xs with
  | some ns => some ((sortI ns).map D.int)
  | none => (pairsD xs).map fun ps => (sortP ps).map pairD
def ltA : D → D → Option Bool
  | .int i, .int j => some (decide (i < j))
  | .str x, .str y => some (lexS x y)
  | _, _ => none
def ltD : D → D → Option Bool
  | .int i, .int j => some (decide (i < j))
  | .str x, .str y => some (lexS x y)
  | .tup xs, .tup ys => (intsD xs).bind fun ns => (intsD ys).bind fun ms => some (lexI ns ms)
  | .lst xs, .lst ys => (intsD xs).bind fun ns => (intsD ys).bind fun ms => some (lexI ns ms)
  | _, _ => none
def addD : D → D → Option D
  | .int i, .int j => some (.int (i + j))
  | .str x, .str y => if x.length + y.length ≤ L then some (.str (x ++ y)) else none
  | .lst x, .lst y => if x.length + y.length ≤ L then some (.lst (x ++ y)) else none
  | _, _ => none
theorem mulOk_ex : ∃ f : Int → Int → Bool, ∀ i j, f i j = true ↔ ((-(2 ^ 64) < i ∧ i < 2 ^ 64) ∨ (-(2 ^ 64) < j ∧ j < 2 ^ 64)) :=
  ⟨fun i j => decide ((-(2 ^ 64) < i ∧ i < 2 ^ 64) ∨ (-(2 ^ 64) < j ∧ j < 2 ^ 64)), fun _ _ => decide_eq_true_iff⟩
/-- one of the two is small; not to be unfolded -/
def mulOk : Int → Int → Bool := Classical.choose mulOk_ex
theorem mulOk_iff (i j : Int) : mulOk i j = true ↔ ((-(2 ^ 64) < i ∧ i < 2 ^ 64) ∨ (-(2 ^ 64) < j ∧ j < 2 ^ 64)) := Classical.choose_spec mulOk_ex i j
def mulD : D → D → Option D
  | .str x, .int j => if 0 ≤ j ∧ j ≤ 1000 ∧ x.length * j.toNat ≤ L then some (.str (List.replicate j.toNat x).flatten) else none
  | _, _ => none
def memD (x : D) : D → Option Bool
  | .lst xs => if plainD PD x ∧ plainD PD (.lst xs) then some (xs.any fun y => eqD y x) else none
  | .tup xs => if x.atom ∧ xs.all D.atom then some (xs.any fun y => eqD y x) else none
  | .dic kvs => (keyD x).map fun k => (look kvs k).isSome
  | .str s => match x with | .str [c] => some (decide (c ∈ s)) | _ => none
  | _ => none
def truD : D → Option Bool
  | .non => some false
  | .bl b => some b
  | .int i => some (i != 0)
  | .str s => some (!s.isEmpty)
  | .lst xs => some (!xs.isEmpty)
  | .tup xs => some (!xs.isEmpty)
  | .dic kvs => some (!kvs.isEmpty)
def truL : D → Option Bool
  | .str s => if s.length ≤ L then some (!s.isEmpty) else none
  | d => truD d
def lenD : D → Option Int
  | .str s => some s.length
  | .lst xs => some xs.length
  | .tup xs => some xs.length
  | .dic kvs => some kvs.length
  | _ => none
def lenL : D → Option Int
  | .str s => if s.length ≤ L then some s.length else none
  | d => lenD d
def isTy : D → Ty → Bool
  | .int _, .int => true | .bl _, .int => true | .bl _, .bool => true | .str _, .str => true | .lst _, .lst => true | .tup _, .tup => true
  | _, _ => false
def maxL : List Int → Option Int | [] => none | x :: xs => some (xs.foldl max x)
def minL : List Int → Option Int | [] => none | x :: xs => some (xs.foldl min x)
def maxS : List (List Nat) → Option (List Nat) | [] => none | x :: xs => some (xs.foldl (fun a b => if lexS a b then b else a) x)
def glue (sep : List Nat) : List (List Nat) → List Nat
  | [] => []
  | [x] => x
  | x :: y :: r => x ++ sep ++ glue sep (y :: r)
def enumFrom (n : Nat) : List D → List D
  | [] => []
  | x :: xs => .tup [.int n, x] :: enumFrom (n + 1) xs
def zipD : List D → List D → List D
  | x :: xs, y :: ys => .tup [x, y] :: zipD xs ys
  | _, _ => []
def rngD (a : Int) (n : Nat) : List D := (List.range n).map fun i => .int (a + (i : Nat))
/-- the decimal figures of a number below 10^10 or so -/
def strOf (i : Int) : List Nat := (toString i).toList.map Char.toNat

/-- the parts of a text between signs -/
def splitC (c : Nat) : List Nat → List Nat → List (List Nat)
  | acc, [] => [acc]
  | acc, x :: r => if x = c then acc :: splitC c [] r else splitC c (acc ++ [x]) r
def digit (c : Nat) : Option Int := if 48 ≤ c ∧ c ≤ 57 then some (c - 48 : Nat) else none
def intOf : List Nat → Option Int
  | [a] => digit a
  | [a, b] => (digit a).bind fun i => (digit b).map fun j => 10 * i + j
  | _ => none
/-! ### kinds -/
def subK : Kd → Kd | .own2 => .own1 | .lent => .lent | _ => .frz
/-- a value that may be kept -/
def vm : Option (D × Kd) → Option D
  | some (d, k) => if k = .frz ∨ k = .new1 ∨ k = .new2 ∨ d.atom = true then some d else none
  | none => none
/-- one whose items may be kept -/
def em : Option (D × Kd) → Option D
  | some (d, k) => if k = .frz ∨ k = .new1 ∨ k = .new2 ∨ k = .own1 ∨ d.atom = true then some d else none
  | none => none
/-- one that is only looked at -/
def bm : Option (D × Kd) → Option D
  | some (d, _) => some d
  | none => none
def fr (o : Option D) : Option (D × Kd) := o.map fun d => (d, .frz)
def frB (o : Option Bool) : Option (D × Kd) := o.map fun d => (.bl d, .frz)
def frI (o : Option Int) : Option (D × Kd) := o.map fun d => (.int d, .frz)
def kdOf : D → Kd | .lst _ => .new1 | .dic _ => .new1 | _ => .frz
def nw (o : Option D) : Option (D × Kd) := o.map fun d => (d, kdOf d)
def setSlots : List Nat → List D → Env → Option Env
  | [], [], env => some env
  | i :: is, d :: ds, env => setSlots is ds (env.set i (.val d .frz))
  | _, _, _ => none
def bindT : Tg → D → Env → Option Env
  | .nm i, d, env => some (env.set i (.val d .frz))
  | .tp is, .tup ds, env => setSlots is ds env
  | _, _, _ => none
def unset (is : List Nat) (env : Env) : Env := is.foldl (fun (e : Env) (i : Nat) => e.set i .un) env
def Tg.slots : Tg → List Nat | .nm i => [i] | .tp is => is
def coB : CO → Int → Int → Bool | .lt, i, j => decide (i < j) | .le, i, j => decide (i ≤ j)
/-- the items that a comprehension gives -/
def compL (f : D → Option (Option (D × Kd))) : List D → Option (List (D × Kd))
  | [] => some []
  | x :: xs => (f x).bind fun o => (compL f xs).bind fun r => some (match o with | some p => p :: r | none => r)
def keepD (p : D × Kd) : Option D := vm (some p)
def isNew1 (p : D × Kd) : Bool := decide (p.2 = .new1)
def compR (deep : Bool) (ps : List (D × Kd)) : Option (D × Kd) :=
  if ps.length < L then
    if deep then (if ps.all isNew1 then some (.lst (ps.map (·.1)), .new2) else none)
    else (optAll keepD ps).map fun ds => (.lst ds, .new1)
  else none
def addK (o : Option D) : Option (D × Kd) := nw o

/-! ### the evaluator -/
section
variable (C : Nat → List D → Option D)
mutual
def ev : E → Env → Option (D × Kd)
  | .var i, env => match env[i]? with | some (.val d k) => some (d, k) | _ => none
  | .c d, _ => if d.atom then some (d, .frz) else none
  | .add a b, env => nw ((em (ev a env)).bind fun x => (em (ev b env)).bind fun y => addD x y)
  | .sub a b, env => (bm (ev a env)).bind fun x => (bm (ev b env)).bind fun y => frI ((asInt x).bind fun i => (asInt y).map fun j => i - j)
  | .mul a b, env => nw ((em (ev a env)).bind fun x => (em (ev b env)).bind fun y => match x, y with | .int i, .int j => if mulOk i j then some (.int (i * j)) else none | _, _ => none)
  | .mulS a b, env => nw ((em (ev a env)).bind fun x => (em (ev b env)).bind fun y => mulD x y)
  | .mulL a b, env => (ev a env).bind fun p => (bm (ev b env)).bind fun y => match p.1, p.2, y with
      | .lst xs, .new1, .int j => if 0 ≤ j ∧ j ≤ 1000 ∧ xs.length * j.toNat ≤ L then some (.lst (List.replicate j.toNat xs).flatten, .new1) else none
      | _, _, _ => none
  | .md a b, env => (bm (ev a env)).bind fun x => (bm (ev b env)).bind fun y => frI ((asInt x).bind fun i => (asInt y).bind fun j => if 0 < j then some (i % j) else none)
  | .fd a b, env => (bm (ev a env)).bind fun x => (bm (ev b env)).bind fun y => frI ((asInt x).bind fun i => (asInt y).bind fun j => if 0 < j ∧ j < 1073741824 then some (i / j) else none)
  | .pow a b, env => (bm (ev a env)).bind fun x => (bm (ev b env)).bind fun y => frI ((asInt x).bind fun i => (asInt y).bind fun j => if 0 ≤ j ∧ j ≤ 1000 ∧ i.natAbs < 1000 then some (i ^ j.toNat) else none)
  | .neg a, env => frI ((bm (ev a env)).bind fun x => (asInt x).map fun i => -i)
  | .lt a b, env => (bm (ev a env)).bind fun x => (bm (ev b env)).bind fun y => frB (ltA x y)
  | .le a b, env => (bm (ev a env)).bind fun x => (bm (ev b env)).bind fun y => frB ((ltA y x).map fun r => !r)
  | .gt a b, env => (bm (ev a env)).bind fun x => (bm (ev b env)).bind fun y => frB (ltA y x)
  | .ge a b, env => (bm (ev a env)).bind fun x => (bm (ev b env)).bind fun y => frB ((ltA x y).map fun r => !r)
  | .ltL a b, env => (bm (ev a env)).bind fun x => (bm (ev b env)).bind fun y => frB (ltD x y)
  | .leL a b, env => (bm (ev a env)).bind fun x => (bm (ev b env)).bind fun y => frB ((ltD y x).map fun r => !r)
  | .gtL a b, env => (bm (ev a env)).bind fun x => (bm (ev b env)).bind fun y => frB (ltD y x)
  | .geL a b, env => (bm (ev a env)).bind fun x => (bm (ev b env)).bind fun y => frB ((ltD x y).map fun r => !r)
  | .eq a b, env => (bm (ev a env)).bind fun x => (bm (ev b env)).bind fun y => if plainD PD x ∧ plainD PD y then some (.bl (eqD x y), .frz) else none
  | .ne a b, env => (bm (ev a env)).bind fun x => (bm (ev b env)).bind fun y => if plainD PD x ∧ plainD PD y then some (.bl (!eqD x y), .frz) else none
  | .isN a, env => (bm (ev a env)).bind fun x => some (.bl x.isNon, .frz)
  | .notN a, env => (bm (ev a env)).bind fun x => some (.bl (!x.isNon), .frz)
  | .mem a b, env => (bm (ev a env)).bind fun x => (bm (ev b env)).bind fun y => frB (memD x y)
  | .nmem a b, env => (bm (ev a env)).bind fun x => (bm (ev b env)).bind fun y => frB ((memD x y).map fun r => !r)
  | .ch o1 o2 a b c, env => (bm (ev a env)).bind fun x => (bm (ev b env)).bind fun y => (asInt x).bind fun i => (asInt y).bind fun j =>
      if coB o1 i j then (bm (ev c env)).bind fun z => (asInt z).bind fun k => some (.bl (coB o2 j k), .frz) else some (.bl false, .frz)
  | .and_ a b, env => (bm (ev a env)).bind fun x => (asBl x).bind fun p => if p then ((bm (ev b env)).bind fun y => (asBl y).bind fun q => some (.bl q, .frz)) else some (.bl false, .frz)
  | .or_ a b, env => (bm (ev a env)).bind fun x => (asBl x).bind fun p => if p then some (.bl true, .frz) else ((bm (ev b env)).bind fun y => (asBl y).bind fun q => some (.bl q, .frz))
  | .one a, env => ev a env
  | .not_ a, env => (bm (ev a env)).bind fun x => (asBl x).bind fun p => some (.bl (!p), .frz)
  | .ite t a b, env => (evT t env).bind fun p => if p then fr (vm (ev a env)) else fr (vm (ev b env))
  | .ix a b, env => (ev a env).bind fun p => (bm (ev b env)).bind fun y => match p.1 with
      | .lst xs => (asInt y).bind fun i => (getIx xs i).map fun d => (d, subK p.2)
      | .tup xs => (asInt y).bind fun i => (getIx xs i).map fun d => (d, subK p.2)
      | .dic kvs => (keyD y).bind fun k => (look kvs k).map fun d => (d, subK p.2)
      | .str s => (asInt y).bind fun i => if s.length ≤ L then (getIx s i).map fun d => (.str [d], .frz) else none
      | _ => none
  | .sl a lo hi, env => (em (ev a env)).bind fun x => (evO lo env).bind fun l => (evO hi env).bind fun h => match x with
      | .lst xs => some (.lst (cut xs l h), .new1)
      | .str s => if s.length ≤ L then some (.str (cut s l h), .frz) else none
      | _ => none
  | .tup es, env => (evs es env).bind fun ds => if ds.length ≤ L then some (.tup ds, .frz) else none
  | .lst es, env => (evs es env).bind fun ds => if ds.length ≤ L then some (.lst ds, .new1) else none
  | .dic0, _ => some (.dic [], .new1)
  | .dic2 ks vs, env => (evs ks env).bind fun ds => (evs vs env).bind fun es => (optAll keyD ds).bind fun kk => if kk.length = es.length ∧ kk.length ≤ 8 then some (.dic (mergeKy [] (kk.zip es)), .new1) else none
  | .call f mask es, env => (evm mask es env).bind fun ds => fr (C f ds)
  | .len a, env => frI ((bm (ev a env)).bind lenL)
  | .sum a, env => (bm (ev a env)).bind fun x => match x with | .lst xs => frI ((intsD xs).map fun ns => ns.sum) | _ => none
  | .max1 a, env => (bm (ev a env)).bind fun x => match x with | .lst xs => frI ((intsD xs).bind maxL) | _ => none
  | .maxS a, env => (bm (ev a env)).bind fun x => match x with | .lst xs => fr (((strsD xs).bind maxS).map D.str) | _ => none
  | .min1 a, env => (bm (ev a env)).bind fun x => match x with | .lst xs => frI ((intsD xs).bind minL) | _ => none
  | .max2 a b, env => (bm (ev a env)).bind fun x => (bm (ev b env)).bind fun y => frI ((asInt x).bind fun i => (asInt y).map fun j => max i j)
  | .min2 a b, env => (bm (ev a env)).bind fun x => (bm (ev b env)).bind fun y => frI ((asInt x).bind fun i => (asInt y).map fun j => min i j)
  | .maxd a, env => (bm (ev a env)).bind fun x => match x with | .lst xs => frI ((intsD xs).map fun ns => (maxL ns).getD 0) | _ => none
  | .sorted a, env => (em (ev a env)).bind fun x => match x with
      | .lst xs => if xs.length < L then (sortD xs).map fun ys => (.lst ys, .new1) else none
      | _ => none
  | .sortedD a, env => (bm (ev a env)).bind fun x => match x with
      | .dic kvs => if kvs.length < 64 then (intsD (kvs.map fun kv => kyD kv.1)).map fun ns => (.lst ((sortI ns).map D.int), .new1) else none
      | _ => none
  | .sortedK0 a, env => (bm (ev a env)).bind fun x => match x with
      | .dic kvs => if kvs.length < L then (strsD (kvs.map fun kv => kyD kv.1)).map fun ss => (.lst ((sortS ss).map D.str), .new1) else none
      | _ => none
  | .sortedR a, env => (bm (ev a env)).bind fun x => match x with | .lst xs => if xs.length < L then (strsD xs).map fun ss => (.lst ((sortS ss).reverse.map D.str), .new1) else none | _ => none
  | .sortedK a i, env => (bm (ev a env)).bind fun x => match x, env[i]? with
      | .lst xs, some (.val (.lst cs) k) => if xs.length < L then (intsD xs).bind fun ns => (strsD cs).bind fun ss =>
          if ns.all (fun n => decide (0 ≤ n ∧ n < ss.length)) then some (.lst ((ns.mergeSort fun a b => !lexS (ss.getD a.toNat []) (ss.getD b.toNat [])).map D.int), .new1) else none else none
      | _, _ => none
  | .list a, env => (em (ev a env)).bind fun x => match x with | .lst xs => some (.lst xs, .new1) | .tup xs => some (.lst xs, .new1) | _ => none
  | .listRng a, env => (bm (ev a env)).bind fun x => (asInt x).bind fun n => if 0 ≤ n ∧ n ≤ 1000 then some (.lst (rngD 0 n.toNat), .new1) else none
  | .listRev a, env => (em (ev a env)).bind fun x => match x with | .lst xs => some (.lst xs.reverse, .new1) | _ => none
  | .listVals a, env => (em (ev a env)).bind fun x => match x with | .dic kvs => some (.lst (kvs.map (·.2)), .new1) | _ => none
  | .listKeys a, env => (bm (ev a env)).bind fun x => match x with | .dic kvs => some (.lst (kvs.map fun kv => kyD kv.1), .new1) | _ => none
  | .tuple a, env => (em (ev a env)).bind fun x => match x with | .lst xs => some (.tup xs, .frz) | .tup xs => some (.tup xs, .frz) | _ => none
  | .dictP a, env => (em (ev a env)).bind fun x => match x with
      | .lst xs => (optAll (fun d => match d with | .tup [k, v] => (keyD k).map fun k => (k, v) | _ => none) xs).bind fun kvs => if kvs.length < L then some (.dic (mergeKy [] kvs), .new1) else none
      | _ => none
  | .strI a, env => (bm (ev a env)).bind fun x => (asInt x).bind fun i => if 0 ≤ i ∧ i < 1000 then some (.str (strOf i), .frz) else none
  | .intE a, env => (bm (ev a env)).bind fun x => match x with | .bl b => some (.int (if b then 1 else 0), .frz) | _ => none
  | .isin a t, env => (bm (ev a env)).bind fun x => some (.bl (isTy x t), .frz)
  | .intT a, env => (bm (ev a env)).bind fun x => match x with | .str s => frI (intOf s) | _ => none
  | .lenset a, env => (bm (ev a env)).bind fun x => match x with | .lst xs => if xs.length ≤ 1000 then frI ((intsD xs).bind fun ns => if ns.Nodup then some (ns.length : Int) else none) else none | _ => none
  | .sortset a, env => (bm (ev a env)).bind fun x => match x with | .lst xs => if xs.length ≤ 1000 then (intsD xs).map fun ns => (.lst ((sortI ns.eraseDups).map D.int), .new1) else none | _ => none
  | .join s a, env => (bm (ev s env)).bind fun x => (bm (ev a env)).bind fun y => match x, y with
      | .str z, .lst xs => (strsD xs).bind fun ss => if (ss.map List.length).sum + ss.length * z.length ≤ L then some (.str (glue z ss), .frz) else none
      | _, _ => none
  | .split a z, env => (bm (ev a env)).bind fun x => (bm (ev z env)).bind fun y => match x, y with
      | .str t, .str [c] => if t.length + 2 ≤ L ∧ c < 128 then some (.lst ((splitC c [] t).map D.str), .new1) else none
      | _, _ => none
  | .find _ _ _, _ => none
  | .get a k x, env => (em (ev a env)).bind fun y => (bm (ev k env)).bind fun q => (vm (ev x env)).bind fun z => match y with | .dic kvs => (keyD q).map fun kk => ((look kvs kk).getD z, .frz) | _ => none
  | .index a b, env => (bm (ev a env)).bind fun x => (bm (ev b env)).bind fun y => match x with
      | .lst xs => match intsD xs, asInt y with
        | some ns, some n => if xs.length ≤ 1000 ∧ n ∈ ns then some (.int (ns.idxOf n : Nat), .frz) else none
        | _, _ => match pairsD xs, asPair y with
          | some ps, some q => if xs.length ≤ 1000 ∧ q ∈ ps then some (.int (ps.idxOf q : Nat), .frz) else none
          | _, _ => none
      | _ => none
  | .comp deep elt tg it cond, env => (evI it (unset tg.slots env)).bind fun xs => (compL (fun d => (bindT tg d (unset tg.slots env)).bind fun e1 => (evT cond e1).bind fun p => if p then (ev elt e1).map some else some none) xs.1).bind (compR deep)
def evs : Es → Env → Option (List D)
  | .nil, _ => some []
  | .cons e r, env => (vm (ev e env)).bind fun d => (evs r env).bind fun ds => some (d :: ds)
/-- arguments: those that the callee is lent are only looked at -/
def evm : List Bool → Es → Env → Option (List D)
  | _, .nil, _ => some []
  | m, .cons e r, env => (if m.headD false then bm (ev e env) else vm (ev e env)).bind fun d => (evm m.tail r env).bind fun ds => some (d :: ds)
def evO : O → Env → Option (Option Int)
  | .no, _ => some none
  | .so e, env => (bm (ev e env)).bind fun x => (asInt x).map some
def evT : T → Env → Option Bool
  | .yes, _ => some true
  | .val e, env => (bm (ev e env)).bind asBl
  | .tru e, env => (bm (ev e env)).bind truL
  | .and_ a b, env => (evT a env).bind fun p => if p then evT b env else some false
  | .or_ a b, env => (evT a env).bind fun p => if p then some true else evT b env
  | .one a, env => evT a env
  | .not_ a, env => (evT a env).map fun p => !p
/-- the items, and whether they are a local's own object's -/
def evI : It → Env → Option (List D × Bool)
  | .lst e, env => (ev e env).bind fun p => match p.1 with
      | .lst xs => if p.2 = .own2 then none else if p.2 = .lent then (if xs.all D.atom then some (xs, false) else none) else some (xs, decide (p.2 = .own1))
      | .tup xs => if p.2 = .frz then some (xs, false) else none
      | .str s => some (s.map fun c => .str [c], false)
      | _ => none
  | .rng1 a, env => (bm (ev a env)).bind fun x => (asInt x).bind fun n => if -1000000 ≤ n ∧ n ≤ 1000000 then some (rngD 0 n.toNat, false) else none
  | .rng2 a b, env => (bm (ev a env)).bind fun x => (bm (ev b env)).bind fun y => (asInt x).bind fun m => (asInt y).bind fun n =>
      if -1000000 ≤ m ∧ m ≤ 1000000 ∧ -1000000 ≤ n ∧ n ≤ 1000000 then some (rngD m (n - m).toNat, false) else none
  | .enum e, env => (ev e env).bind fun p => match p.1 with
      | .lst xs => if p.2 = .own2 ∨ p.2 = .lent then none else some (enumFrom 0 xs, decide (p.2 = .own1))
      | _ => none
  | .enumS e, env => (bm (ev e env)).bind fun x => match x with
      | .str s => some (enumFrom 0 (s.map fun c => D.str [c]), false)
      | _ => none
  | .rev e, env => (ev e env).bind fun p => match p.1 with
      | .lst xs => if p.2 = .own2 ∨ p.2 = .lent then none else some (xs.reverse, decide (p.2 = .own1))
      | _ => none
  | .zip a b, env => (ev a env).bind fun p => (ev b env).bind fun q => match p.1, q.1 with
      | .lst xs, .lst ys => if p.2 = .frz ∧ q.2 = .frz then some (zipD xs ys, false) else none
      | _, _ => none
  | .cst xs, _ => some (xs, true)
  | .items e, env => (ev e env).bind fun p => match p.1 with
      | .dic kvs => if p.2 = .own1 then some (kvs.map fun kv => .tup [kyD kv.1, kv.2], true) else none
      | _ => none
end

inductive Out where | nx (e : Env) | rt (d : D)
def andThen (o : Option Out) (f : Env → Option Out) : Option Out := match o with | some (.nx e) => f e | r => r
def loopF (f : D → Env → Option Out) : List D → Env → Option Out
  | [], env => some (.nx env)
  | x :: xs, env => andThen (f x env) (loopF f xs)
def loopW (t : Env → Option Bool) (f : Env → Option Out) : Nat → Env → Option Out
  | 0, _ => none
  | n + 1, env => (t env).bind fun p => if p then andThen (f env) (loopW t f n) else some (.nx env)
def freeze1 (env : Env) (i : Nat) : Env := match env[i]? with | some (.val d .own1) => env.set i (.val d .frz) | some (.val d .own2) => env.set i (.val d .frz) | _ => env
def freeze : List Nat → Env → Env
  | [], env => env
  | i :: is, env => freeze is (freeze1 env i)
/-- the kind of a name that is given a value: m says how deep the def changes it -/
def slotK (m : Nat) (k : Kd) : Kd := match m, k with | 0, _ => .frz | 1, .new2 => .frz | _, .new1 => .own1 | _, .new2 => .own2 | _, _ => .frz
def exec (fuel : Nat) : S → Env → Option Out
  | .skip, env => some (.nx env)
  | .seq a b, env => andThen (exec fuel a env) (exec fuel b)
  | .asg i m e, env => (ev C e env).bind fun p => (vm (some p)).bind fun d => some (.nx (env.set i (.val d (slotK m p.2))))
  | .asgT is e, env => (vm (ev C e env)).bind fun d => (bindT (.tp is) d env).map .nx
  | .asgIx i e1 e2, env => (vm (ev C e2 env)).bind fun v => (bm (ev C e1 env)).bind fun x => match env[i]? with
      | some (.val (.lst xs) .own1) => (asInt x).bind fun j => (ixN xs.length j).map fun n => .nx (env.set i (.val (.lst (xs.set n v)) .own1))
      | some (.val (.dic kvs) .own1) => (keyD x).bind fun k => if kvs.length < L then some (.nx (env.set i (.val (.dic (put kvs k v)) .own1))) else none
      | _ => none
  | .app i e, env => (vm (ev C e env)).bind fun v => match env[i]? with
      | some (.val (.lst xs) .own1) => if xs.length < L then some (.nx (env.set i (.val (.lst (xs ++ [v])) .own1))) else none
      | _ => none
  | .appIx i e1 e2, env => (bm (ev C e1 env)).bind fun x => (vm (ev C e2 env)).bind fun v => match env[i]? with
      | some (.val (.lst xs) .own2) => (asInt x).bind fun j => (ixN xs.length j).bind fun n => match xs[n]? with
          | some (.lst ys) => if ys.length < L then some (.nx (env.set i (.val (.lst (xs.set n (.lst (ys ++ [v])))) .own2))) else none
          | _ => none
      | _ => none
  | .ext i e, env => (ev C e env).bind fun p => match env[i]?, p with
      | some (.val (.lst xs) .own1), (.lst ys, .new1) => if xs.length + ys.length < L then some (.nx (env.set i (.val (.lst (xs ++ ys)) .own1))) else none
      | _, _ => none
  | .pop tg y at0, env => match env[y]? with
      | some (.val (.lst xs) .own1) => ((if at0 then xs[0]? else xs[xs.length - 1]?)).bind fun d =>
          (match tg with | none => some (env.set y (.val (.lst (if at0 then xs.tail else xs.dropLast)) .own1)) | some t => bindT t d (env.set y (.val (.lst (if at0 then xs.tail else xs.dropLast)) .own1))).map .nx
      | _ => none
  | .dpop y e k, env => (bm (ev C e env)).bind fun x => (bm (ev C k env)).bind fun z => match env[y]? with
      | some (.val (.lst xs) .own2) => (asInt x).bind fun j => (ixN xs.length j).bind fun n => match xs[n]? with
          | some (.dic kvs) => (keyD z).bind fun kk => if (look kvs kk).isSome then some (.nx (env.set y (.val (.lst (xs.set n (.dic (dropKy kvs kk)))) .own2))) else none
          | _ => none
      | _ => none
  | .rem y e, env => (bm (ev C e env)).bind fun x => match env[y]? with
      | some (.val (.lst xs) .own1) => (asInt x).bind fun j => (intsD xs).bind fun ns => if j ∈ ns then some (.nx (env.set y (.val (.lst ((ns.erase j).map D.int)) .own1))) else none
      | _ => none
  | .setdef y k v, env => (bm (ev C k env)).bind fun x => (vm (ev C v env)).bind fun z => match env[y]? with
      | some (.val (.dic kvs) .own1) => (keyD x).bind fun kk => if kvs.length < L then some (.nx (env.set y (.val (.dic (if (look kvs kk).isSome then kvs else kvs ++ [(kk, z)])) .own1))) else none
      | _ => none
  | .setdefApp _ _ _, _ => none
  | .ret e, env => (vm (ev C e env)).map .rt
  | .ite t a b, env => (evT C t env).bind fun p => if p then exec fuel a env else exec fuel b env
  | .wh t s, env => loopW (evT C t) (exec fuel s) fuel env
  | .for_ tg it s, env => (evI C it env).bind fun xs => if xs.2 then none else loopF (fun d e => (bindT tg d e).bind (exec fuel s)) xs.1 env
  | .drop e, env => (ev C e env).map fun _ => .nx env
  | .frz is, env => some (.nx (freeze is env))
  | .kill is, env => some (.nx (unset is env))
  | .never, _ => none
  | .tryN s, env => exec fuel s env
end

/-! ### defs -/
structure FDef where
  params : Nat
  slots : Nat
  lent : List Bool
  body : S
def startEnv (f : FDef) (ds : List D) : Env := (ds.zipIdx.map fun p => Slot.val p.1 (if f.lent.getD p.2 false then .lent else .frz)) ++ List.replicate (f.slots - ds.length) .un
/-- turns of a while, at most -/
def FU : Nat := 100000
def runF (C : Nat → List D → Option D) (f : FDef) (ds : List D) : Option D :=
  if ds.length = f.params then (match exec C FU f.body (startEnv f ds) with | some (.rt d) => some d | some (.nx _) => some .non | none => none) else none
/-- the defs that a def calls, by their numbers -/
def calls : List (Nat × (List D → Option D)) → Nat → List D → Option D
  | [], _, _ => none
  | p :: r, n, ds => if n = p.1 then p.2 ds else calls r n ds
end
end Hg
end

section
set_option Elab.async false
set_option maxRecDepth 100000
set_option maxHeartbeats 4000000
/-! Snd0: what stands in a heap for plain data; who owns what; the state. -/
namespace Hg
open PySem PySem.Spec PyProof.Rows L2

def sv (s : List Nat) : Str := ⟨s.toArray⟩
def ky : Ky → L2.Key | .inl i => .inl i | .inr s => .inr (sv s)
/-- the tables of code objects that lambdas are put into: the name that is written there -/
class Tabl where
  q : Addr → Option Str
variable [TB : Tabl]
/-- a table has grown by code objects of its name alone -/
def Grows (H' : Hp) (a : Addr) (ps ps' : Array Value) : Prop := ∀ q, TB.q a = some q → (TriplesOk ps.toList → TriplesOk ps'.toList) ∧
  ∀ (pos : Pos) (cv : Value), codeAmong pos ps'.toList = some cv → codeAmong pos ps.toList = some cv ∨ ∃ c, cv = .ref c ∧ H' c = some (LamX.CodeO c q)
def Nt (o : HO) : Prop := ∀ ps, o ≠ .tbl ps
theorem nt_lst {xs : List V} : Nt (.lst xs) := fun _ z => nomatch z
theorem nt_tup {xs : List V} : Nt (.tup xs) := fun _ z => nomatch z
theorem nt_dK {xs : List (L2.Key × V)} : Nt (.dK xs) := fun _ z => nomatch z
theorem nt_frz {o : Obj} {u : HO} : Nt (.frz o u) := fun _ z => nomatch z
theorem nt_code {c : Addr} {q : Str} : Nt (LamX.CodeO c q) := fun ps => LamX.codeO_ne ps
theorem code_lst {c : Addr} {q : Str} {xs : List V} : some (HO.lst xs) ≠ some (LamX.CodeO c q) := fun z => by unfold LamX.CodeO at z; cases z
theorem code_frz {c : Addr} {q : Str} {o : Obj} {u : HO} : some (HO.frz o u) ≠ some (LamX.CodeO c q) := fun z => by unfold LamX.CodeO at z; cases z
theorem code_dK {c : Addr} {q : Str} {xs : List (L2.Key × V)} : some (HO.dK xs) ≠ some (LamX.CodeO c q) := fun z => by unfold LamX.CodeO at z; cases z
/-- what stood stays; tables may grow -/
def Ext (H H' : Hp) : Prop := ∀ a o, H a = some o → H' a = some o ∨ ∃ ps ps', o = .tbl ps ∧ H' a = some (.tbl ps') ∧ Grows H' a ps ps'
theorem Ext.at {H H' : Hp} {a : Addr} {o : HO} (e : Ext H H') (h : H a = some o) (n : Nt o) : H' a = some o := by
  rcases e a o h with q | ⟨ps, ps', rfl, _⟩
  · exact q
  · exact absurd rfl (n ps)
theorem Ext.refl (H : Hp) : Ext H H := fun _ _ h => .inl h
theorem Ext.trans {H H1 H2 : Hp} (a : Ext H H1) (b : Ext H1 H2) : Ext H H2 := fun x o h => by
  rcases a x o h with q | ⟨ps, ps', rfl, q, g⟩
  · exact b x o q
  · rcases b x _ q with q2 | ⟨ps1, ps2, e, q2, g2⟩
    · exact .inr ⟨ps, ps', rfl, q2, fun n hn => ⟨(g n hn).1, fun pos cv hc => ((g n hn).2 pos cv hc).imp id fun ⟨c, e1, e2⟩ => ⟨c, e1, b.at e2 nt_code⟩⟩⟩
    · cases e
      refine .inr ⟨ps, ps2, rfl, q2, fun n hn => ⟨fun t => (g2 n hn).1 ((g n hn).1 t), fun pos cv hc => ?_⟩⟩
      rcases (g2 n hn).2 pos cv hc with z | z
      · exact ((g n hn).2 pos cv z).imp id fun ⟨c, e1, e2⟩ => ⟨c, e1, b.at e2 nt_code⟩
      · exact .inr z
theorem Ext.back {H H' : Hp} {p : Addr} (e : Ext H H') (h : H' p = none) : H p = none := by
  cases h1 : H p with
  | none => rfl
  | some o =>
    rcases e p o h1 with q | ⟨_, _, _, q, _⟩
    · rw [q] at h; cases h
    · rw [q] at h; cases h
theorem Ext.ne {H H' : Hp} {p : Addr} (e : Ext H H') (h : H p ≠ none) : H' p ≠ none := fun q => h (e.back q)
theorem Ext.new {H : Hp} {p : Addr} {o : HO} (h : H p = none) : Ext H (upd H p o) := fun a u e => by
  rw [upd_ne (ne_of_none e h)]; exact .inl e
theorem Ext.upd {H H' : Hp} {p : Addr} {o : HO} (e : Ext H H') (h : H p = none) (hn : ∀ q, H' p ≠ some (LamX.CodeO p q)) : Ext H (upd H' p o) := fun a u ha => by
  rw [upd_ne (ne_of_none ha h)]
  rcases e a u ha with q | ⟨ps, ps', e1, q, g⟩
  · exact .inl q
  · exact .inr ⟨ps, ps', e1, q, fun n ht => ⟨(g n ht).1, fun pos cv hc => ((g n ht).2 pos cv hc).imp id fun ⟨c, e2, e3⟩ => ⟨c, e2, by
      rw [upd_ne fun z => by rw [z] at e3; exact hn n e3]; exact e3⟩⟩⟩
theorem Ext.updB {H H' : Hp} {p : Addr} {o : HO} (e : Ext H H') (hp : H' p = none) : Ext (L2.upd H p o) (L2.upd H' p o) := fun a u ha => by
  by_cases h : a = p
  · subst h; rw [upd_same] at ha ⊢; exact .inl ha
  · rw [upd_ne h] at ha ⊢
    rcases e a u ha with q | ⟨ps, ps', e1, q, g⟩
    · exact .inl q
    · exact .inr ⟨ps, ps', e1, q, fun n ht => ⟨(g n ht).1, fun pos cv hc => ((g n ht).2 pos cv hc).imp id fun ⟨c, e2, e3⟩ => ⟨c, e2, by
        rw [upd_ne (ne_of_none e3 hp)]; exact e3⟩⟩⟩
theorem Ext.put {H H' : Hp} {p : Addr} {o1 o2 : HO} (e : Ext (L2.upd H p o1) H') (hp : H p = none ∨ H p = some o2) (hn : ∀ q, H' p ≠ some (LamX.CodeO p q)) : Ext H (L2.upd H' p o2) := fun a u ha => by
  by_cases h : a = p
  · subst h
    rw [upd_same]
    rcases hp with z | z
    · rw [z] at ha; cases ha
    · rw [← z]; exact .inl ha
  · rw [upd_ne h]
    rcases e a u (by rw [upd_ne h]; exact ha) with q | ⟨ps, ps', e1, q, g⟩
    · exact .inl q
    · exact .inr ⟨ps, ps', e1, q, fun n ht => ⟨(g n ht).1, fun pos cv hc => ((g n ht).2 pos cv hc).imp id fun ⟨c, e2, e3⟩ => ⟨c, e2, by
        rw [upd_ne fun z => by rw [z] at e3; exact hn n e3]; exact e3⟩⟩⟩
theorem Ext.rd {H H' : Hp} {a : Addr} {u : HO} (e : Ext H H') (h : Rd H a u) (n : Nt u) : Rd H' a u := by
  rcases h with h | ⟨o, h⟩
  · exact .inl (e.at h n)
  · exact .inr ⟨o, e.at h nt_frz⟩
theorem Ext.sq {K : PySem.W.Frag} {H H' : Hp} {a : Addr} {xs : List V} (e : Ext H H') (h : SqL K H a xs) : SqL K H' a xs := by
  rcases h with h | h
  · exact .inl (e.rd h nt_lst)
  · exact .inr h
/-- the tables that are watched -/
def TabsOk (H : Hp) : Prop := ∀ P q, TB.q P = some q → LamX.TabS H P q
theorem TabsOk.ext {H H' : Hp} (t : TabsOk H) (e : Ext H H') : TabsOk H' := fun P q hq => by
  obtain ⟨ps, h1, h2, h3⟩ := t P q hq
  rcases e P _ h1 with z | ⟨ps1, ps', e1, z, g⟩
  · exact ⟨ps, z, h2, fun pos cv hc => by obtain ⟨c, a1, a2⟩ := h3 pos cv hc; exact ⟨c, a1, e.at a2 nt_code⟩⟩
  · cases e1
    refine ⟨ps', z, (g q hq).1 h2, fun pos cv hc => ?_⟩
    rcases (g q hq).2 pos cv hc with w | w
    · obtain ⟨c, a1, a2⟩ := h3 pos cv w; exact ⟨c, a1, e.at a2 nt_code⟩
    · exact w

/-! ### data in a heap -/
mutual
def Rep (K : PySem.W.Frag) (B : Hp) : D → V → Prop
  | .non, v => v = .non
  | .bl b, v => v = .bl b
  | .int i, v => v = .int i
  | .str s, v => v = .str (sv s)
  | .tup ds, v => ∃ a vs, v = .ref a ∧ B a = some (.tup vs) ∧ Reps K B ds vs
  | .lst ds, v => ∃ a vs, v = .ref a ∧ SqL K B a vs ∧ Reps K B ds vs
  | .dic kvs, v => ∃ a vs, v = .ref a ∧ B a = some (.dK vs) ∧ RepK K B kvs vs
def Reps (K : PySem.W.Frag) (B : Hp) : List D → List V → Prop
  | [], vs => vs = []
  | d :: ds, vs => ∃ v r, vs = v :: r ∧ Rep K B d v ∧ Reps K B ds r
def RepK (K : PySem.W.Frag) (B : Hp) : List (Ky × D) → List (L2.Key × V) → Prop
  | [], vs => vs = []
  | (k, d) :: ds, vs => ∃ v r, vs = (ky k, v) :: r ∧ Rep K B d v ∧ RepK K B ds r
end
mutual
theorem Rep.mono {K : PySem.W.Frag} {B B' : Hp} (e : Ext B B') : ∀ (d : D) (v : V), Rep K B d v → Rep K B' d v
  | .non, v, h => by rw [Rep] at h ⊢; exact h
  | .bl b, v, h => by rw [Rep] at h ⊢; exact h
  | .int i, v, h => by rw [Rep] at h ⊢; exact h
  | .str s, v, h => by rw [Rep] at h ⊢; exact h
  | .tup ds, v, h => by
    rw [Rep] at h ⊢
    obtain ⟨a, vs, h1, h2, h3⟩ := h
    exact ⟨a, vs, h1, e.at h2 nt_tup, Reps.mono e ds vs h3⟩
  | .lst ds, v, h => by
    rw [Rep] at h ⊢
    obtain ⟨a, vs, h1, h2, h3⟩ := h
    exact ⟨a, vs, h1, e.sq h2, Reps.mono e ds vs h3⟩
  | .dic ds, v, h => by
    rw [Rep] at h ⊢
    obtain ⟨a, vs, h1, h2, h3⟩ := h
    exact ⟨a, vs, h1, e.at h2 nt_dK, RepK.mono e ds vs h3⟩
theorem Reps.mono {K : PySem.W.Frag} {B B' : Hp} (e : Ext B B') : ∀ (ds : List D) (vs : List V), Reps K B ds vs → Reps K B' ds vs
  | [], vs, h => by rw [Reps] at h ⊢; exact h
  | d :: ds, vs, h => by
    rw [Reps] at h ⊢
    obtain ⟨v, r, h1, h2, h3⟩ := h
    exact ⟨v, r, h1, Rep.mono e d v h2, Reps.mono e ds r h3⟩
theorem RepK.mono {K : PySem.W.Frag} {B B' : Hp} (e : Ext B B') : ∀ (ds : List (Ky × D)) (vs : List (L2.Key × V)), RepK K B ds vs → RepK K B' ds vs
  | [], vs, h => by rw [RepK] at h ⊢; exact h
  | (k, d) :: ds, vs, h => by
    rw [RepK] at h ⊢
    obtain ⟨v, r, h1, h2, h3⟩ := h
    exact ⟨v, r, h1, Rep.mono e d v h2, RepK.mono e ds r h3⟩
end
section
variable {K : PySem.W.Frag} {B H : Hp}
theorem Rep.atom {B' : Hp} : ∀ {d : D} {v : V}, d.atom = true → Rep K B d v → Rep K B' d v
  | .non, v, _, h => by rw [Rep] at h ⊢; exact h
  | .bl b, v, _, h => by rw [Rep] at h ⊢; exact h
  | .int i, v, _, h => by rw [Rep] at h ⊢; exact h
  | .str s, v, _, h => by rw [Rep] at h ⊢; exact h
theorem rep_int {i : Int} {v : V} (h : Rep K B (.int i) v) : v = .int i := by rw [Rep] at h; exact h
theorem rep_bl {i : Bool} {v : V} (h : Rep K B (.bl i) v) : v = .bl i := by rw [Rep] at h; exact h
theorem rep_str {s : List Nat} {v : V} (h : Rep K B (.str s) v) : v = .str (sv s) := by rw [Rep] at h; exact h
theorem rep_non {v : V} (h : Rep K B .non v) : v = .non := by rw [Rep] at h; exact h
theorem rep_lst {ds : List D} {v : V} (h : Rep K B (.lst ds) v) : ∃ a vs, v = .ref a ∧ SqL K B a vs ∧ Reps K B ds vs := by rw [Rep] at h; exact h
theorem rep_tup {ds : List D} {v : V} (h : Rep K B (.tup ds) v) : ∃ a vs, v = .ref a ∧ B a = some (.tup vs) ∧ Reps K B ds vs := by rw [Rep] at h; exact h
theorem rep_dic {ds : List (Ky × D)} {v : V} (h : Rep K B (.dic ds) v) : ∃ a vs, v = .ref a ∧ B a = some (.dK vs) ∧ RepK K B ds vs := by rw [Rep] at h; exact h
theorem int_rep {i : Int} : Rep K B (.int i) (.int i) := by rw [Rep]
theorem bl_rep {i : Bool} : Rep K B (.bl i) (.bl i) := by rw [Rep]
theorem str_rep {s : List Nat} : Rep K B (.str s) (.str (sv s)) := by rw [Rep]
theorem non_rep : Rep K B .non .non := by rw [Rep]
theorem lst_rep {ds : List D} {a : Addr} {vs : List V} (h : SqL K B a vs) (r : Reps K B ds vs) : Rep K B (.lst ds) (.ref a) := by rw [Rep]; exact ⟨a, vs, rfl, h, r⟩
theorem tup_rep {ds : List D} {a : Addr} {vs : List V} (h : B a = some (.tup vs)) (r : Reps K B ds vs) : Rep K B (.tup ds) (.ref a) := by rw [Rep]; exact ⟨a, vs, rfl, h, r⟩
theorem dic_rep {ds : List (Ky × D)} {a : Addr} {vs : List (L2.Key × V)} (h : B a = some (.dK vs)) (r : RepK K B ds vs) : Rep K B (.dic ds) (.ref a) := by rw [Rep]; exact ⟨a, vs, rfl, h, r⟩
theorem reps_nil : Reps K B [] [] := by rw [Reps]
theorem reps_cons {d : D} {ds : List D} {v : V} {vs : List V} (h : Rep K B d v) (t : Reps K B ds vs) : Reps K B (d :: ds) (v :: vs) := by rw [Reps]; exact ⟨v, vs, rfl, h, t⟩
theorem Reps.cons_of {d : D} {ds : List D} {vs : List V} (h : Reps K B (d :: ds) vs) : ∃ v r, vs = v :: r ∧ Rep K B d v ∧ Reps K B ds r := by rw [Reps] at h; exact h
theorem Reps.nil_of {vs : List V} (h : Reps K B [] vs) : vs = [] := by rw [Reps] at h; exact h
theorem Reps.length : ∀ {ds : List D} {vs : List V}, Reps K B ds vs → vs.length = ds.length
  | [], vs, h => by rw [h.nil_of]; rfl
  | d :: ds, vs, h => by
    obtain ⟨v, r, rfl, _, t⟩ := h.cons_of
    rw [List.length_cons, List.length_cons, t.length]
theorem Reps.get : ∀ {ds : List D} {vs : List V} {i : Nat} {d : D}, Reps K B ds vs → ds[i]? = some d → ∃ v, vs[i]? = some v ∧ Rep K B d v
  | [], vs, i, d, h, e => by simp at e
  | d' :: ds, vs, 0, d, h, e => by
    obtain ⟨v, r, rfl, h1, _⟩ := h.cons_of
    have e' : d' = d := by simpa using e
    subst e'
    exact ⟨v, rfl, h1⟩
  | d' :: ds, vs, i + 1, d, h, e => by
    obtain ⟨v, r, rfl, _, t⟩ := h.cons_of
    obtain ⟨u, h1, h2⟩ := t.get (i := i) (d := d) (by simpa using e)
    exact ⟨u, by simpa using h1, h2⟩
theorem Reps.append : ∀ {ds es : List D} {vs us : List V}, Reps K B ds vs → Reps K B es us → Reps K B (ds ++ es) (vs ++ us)
  | [], es, vs, us, h, t => by rw [h.nil_of]; exact t
  | d :: ds, es, vs, us, h, t => by
    obtain ⟨v, r, rfl, h1, h2⟩ := h.cons_of
    exact reps_cons h1 (h2.append t)
theorem Reps.take : ∀ {ds : List D} {vs : List V} (n : Nat), Reps K B ds vs → Reps K B (ds.take n) (vs.take n)
  | _, _, 0, _ => by simpa using reps_nil
  | [], vs, n + 1, h => by rw [h.nil_of]; simpa using reps_nil
  | d :: ds, vs, n + 1, h => by
    obtain ⟨v, r, rfl, h1, h2⟩ := h.cons_of
    exact reps_cons h1 (h2.take n)
theorem Reps.drop : ∀ {ds : List D} {vs : List V} (n : Nat), Reps K B ds vs → Reps K B (ds.drop n) (vs.drop n)
  | _, _, 0, h => by simpa using h
  | [], vs, n + 1, h => by rw [h.nil_of]; simpa using reps_nil
  | d :: ds, vs, n + 1, h => by
    obtain ⟨v, r, rfl, h1, h2⟩ := h.cons_of
    exact h2.drop n
theorem Reps.reverse : ∀ {ds : List D} {vs : List V}, Reps K B ds vs → Reps K B ds.reverse vs.reverse
  | [], vs, h => by rw [h.nil_of]; exact reps_nil
  | d :: ds, vs, h => by
    obtain ⟨v, r, rfl, h1, h2⟩ := h.cons_of
    rw [List.reverse_cons, List.reverse_cons]
    exact h2.reverse.append (reps_cons h1 reps_nil)
theorem Reps.set : ∀ {ds : List D} {vs : List V} (i : Nat) {d : D} {v : V}, Reps K B ds vs → Rep K B d v → Reps K B (ds.set i d) (vs.set i v)
  | [], vs, i, d, v, h, _ => by rw [h.nil_of]; exact reps_nil
  | d' :: ds, vs, 0, d, v, h, hd => by
    obtain ⟨u, r, rfl, _, t⟩ := h.cons_of
    exact reps_cons hd t
  | d' :: ds, vs, i + 1, d, v, h, hd => by
    obtain ⟨u, r, rfl, h1, t⟩ := h.cons_of
    exact reps_cons h1 (t.set i hd)
theorem Reps.ints : ∀ {ds : List D} {ns : List Int} {vs : List V}, Hg.intsD ds = some ns → Reps K B ds vs → vs = ns.map V.int
  | [], ns, vs, e, h => by
    have e' : ns = [] := by simpa [Hg.intsD, optAll] using e.symm
    subst e'
    exact h.nil_of
  | d :: ds, ns, vs, e, h => by
    obtain ⟨v, r, rfl, h1, h2⟩ := h.cons_of
    simp only [Hg.intsD, optAll, Option.bind_eq_some_iff] at e
    obtain ⟨i, hi, ms, hm, e⟩ := e
    cases e
    have h3 := Reps.ints (ns := ms) hm h2
    cases d <;> simp [asInt] at hi
    subst hi
    rw [rep_int h1, h3]; rfl
theorem Reps.strs : ∀ {ds : List D} {ns : List (List Nat)} {vs : List V}, Hg.strsD ds = some ns → Reps K B ds vs → vs = (ns.map sv).map V.str
  | [], ns, vs, e, h => by
    have e' : ns = [] := by simpa [Hg.strsD, optAll] using e.symm
    subst e'
    exact h.nil_of
  | d :: ds, ns, vs, e, h => by
    obtain ⟨v, r, rfl, h1, h2⟩ := h.cons_of
    simp only [Hg.strsD, optAll, Option.bind_eq_some_iff] at e
    obtain ⟨i, hi, ms, hm, e⟩ := e
    cases e
    have h3 := Reps.strs (ns := ms) hm h2
    cases d <;> simp [asStr] at hi
    subst hi
    rw [rep_str h1, h3]; rfl
theorem reps_ints : ∀ (ns : List Int), Reps K B (ns.map D.int) (ns.map V.int)
  | [] => reps_nil
  | n :: ns => reps_cons int_rep (reps_ints ns)
theorem reps_strs : ∀ (ns : List (List Nat)), Reps K B (ns.map D.str) ((ns.map sv).map V.str)
  | [] => reps_nil
  | n :: ns => reps_cons str_rep (reps_strs ns)

/-! dicts -/
theorem repk_nil : RepK K B [] [] := by rw [RepK]
theorem repk_cons {k : Ky} {d : D} {ds : List (Ky × D)} {v : V} {vs : List (L2.Key × V)} (h : Rep K B d v) (t : RepK K B ds vs) : RepK K B ((k, d) :: ds) ((ky k, v) :: vs) := by rw [RepK]; exact ⟨v, vs, rfl, h, t⟩
theorem RepK.cons_of {k : Ky} {d : D} {ds : List (Ky × D)} {vs : List (L2.Key × V)} (h : RepK K B ((k, d) :: ds) vs) : ∃ v r, vs = (ky k, v) :: r ∧ Rep K B d v ∧ RepK K B ds r := by rw [RepK] at h; exact h
theorem RepK.nil_of {vs : List (L2.Key × V)} (h : RepK K B [] vs) : vs = [] := by rw [RepK] at h; exact h
theorem RepK.length : ∀ {ds : List (Ky × D)} {vs : List (L2.Key × V)}, RepK K B ds vs → vs.length = ds.length
  | [], vs, h => by rw [h.nil_of]; rfl
  | (k, d) :: ds, vs, h => by
    obtain ⟨v, r, rfl, _, t⟩ := h.cons_of
    rw [List.length_cons, List.length_cons, t.length]
theorem RepK.append : ∀ {ds es : List (Ky × D)} {vs us : List (L2.Key × V)}, RepK K B ds vs → RepK K B es us → RepK K B (ds ++ es) (vs ++ us)
  | [], es, vs, us, h, t => by rw [h.nil_of]; exact t
  | (k, d) :: ds, es, vs, us, h, t => by
    obtain ⟨v, r, rfl, h1, h2⟩ := h.cons_of
    exact repk_cons h1 (h2.append t)
theorem RepK.vals : ∀ {ds : List (Ky × D)} {vs : List (L2.Key × V)}, RepK K B ds vs → Reps K B (ds.map (·.2)) (vs.map (·.2))
  | [], vs, h => by rw [h.nil_of]; exact reps_nil
  | (k, d) :: ds, vs, h => by
    obtain ⟨v, r, rfl, h1, h2⟩ := h.cons_of
    exact reps_cons h1 h2.vals
theorem RepK.keys : ∀ {ds : List (Ky × D)} {vs : List (L2.Key × V)}, RepK K B ds vs → vs.map (·.1) = ds.map fun p => ky p.1
  | [], vs, h => by rw [h.nil_of]; rfl
  | (k, d) :: ds, vs, h => by
    obtain ⟨v, r, rfl, h1, h2⟩ := h.cons_of
    rw [List.map_cons, List.map_cons, h2.keys]
end
theorem sv_inj {s t : List Nat} (h : sv s = sv t) : s = t := by
  have h1 : s.toArray = t.toArray := congrArg Str.cps h
  simpa using h1
theorem ky_inj {k l : Ky} (h : ky k = ky l) : k = l := by
  cases k <;> cases l <;> simp [ky] at h
  · rw [h]
  · rw [sv_inj h]
theorem ky_iff {k l : Ky} : ky k = ky l ↔ k = l := ⟨ky_inj, fun h => by rw [h]⟩
theorem kV_ky {d : D} {k : Ky} {K : PySem.W.Frag} {B : Hp} {v : V} (h : keyD d = some k) (r : Rep K B d v) : v = kV (ky k) := by
  cases d <;> simp [keyD] at h
  · subst h; rw [rep_int r]; rfl
  · subst h; rw [rep_str r]; rfl
section
variable {K : PySem.W.Frag} {B H : Hp}
theorem RepK.look_some : ∀ {ds : List (Ky × D)} {vs : List (L2.Key × V)} {k : Ky} {d : D}, RepK K B ds vs → look ds k = some d → ∃ v, valV vs (ky k) = some v ∧ Rep K B d v
  | [], vs, k, d, h, e => by simp [look] at e
  | (k', d') :: ds, vs, k, d, h, e => by
    obtain ⟨v, r, rfl, h1, h2⟩ := h.cons_of
    by_cases hk : k' = k
    · subst hk
      have e' : d' = d := by simpa [look, List.find?_cons] using e
      subst e'
      exact ⟨v, valV_pos rfl, h1⟩
    · have e' : look ds k = some d := by simpa [look, List.find?_cons, hk] using e
      obtain ⟨u, q1, q2⟩ := h2.look_some e'
      exact ⟨u, (valV_neg fun z => hk (ky_inj z)).trans q1, q2⟩
theorem RepK.look_none : ∀ {ds : List (Ky × D)} {vs : List (L2.Key × V)} {k : Ky}, RepK K B ds vs → look ds k = none → valV vs (ky k) = none
  | [], vs, k, h, e => by rw [h.nil_of]; rfl
  | (k', d') :: ds, vs, k, h, e => by
    obtain ⟨v, r, rfl, h1, h2⟩ := h.cons_of
    by_cases hk : k' = k
    · subst hk
      simp [look, List.find?_cons] at e
    · have e' : look ds k = none := by simpa [look, List.find?_cons, hk] using e
      exact (valV_neg fun z => hk (ky_inj z)).trans (h2.look_none e')
theorem RepK.any : ∀ {ds : List (Ky × D)} {vs : List (L2.Key × V)} (k : Ky), RepK K B ds vs → (vs.any fun kv => decide (kv.1 = ky k)) = ds.any fun kv => decide (kv.1 = k)
  | [], vs, k, h => by rw [h.nil_of]; rfl
  | (k', d') :: ds, vs, k, h => by
    obtain ⟨v, r, rfl, h1, h2⟩ := h.cons_of
    rw [List.any_cons, List.any_cons, h2.any k]
    congr 1
    exact decide_eq_decide.mpr ky_iff
theorem RepK.mapPut {d : D} {v : V} {k : Ky} (hd : Rep K B d v) : ∀ {ds : List (Ky × D)} {vs : List (L2.Key × V)}, RepK K B ds vs → RepK K B (ds.map fun kv => if kv.1 = k then (kv.1, d) else kv) (vs.map fun kv => if kv.1 = ky k then (kv.1, v) else kv)
  | [], vs, h => by rw [h.nil_of]; exact repk_nil
  | (k', d') :: ds, vs, h => by
    obtain ⟨u, r, rfl, h1, h2⟩ := h.cons_of
    rw [List.map_cons, List.map_cons]
    by_cases hk : k' = k
    · subst hk
      simp only [if_pos]
      exact repk_cons hd (RepK.mapPut hd h2)
    · have hk' : ¬ ky k' = ky k := fun z => hk (ky_inj z)
      simp only [if_neg hk, if_neg hk']
      exact repk_cons h1 (RepK.mapPut hd h2)
theorem RepK.put {d : D} {v : V} {k : Ky} {ds : List (Ky × D)} {vs : List (L2.Key × V)} (h : RepK K B ds vs) (hd : Rep K B d v) : RepK K B (Hg.put ds k d) (putK vs (ky k) v) := by
  unfold Hg.put putK
  rw [h.any k]
  split
  · exact RepK.mapPut hd h
  · exact h.append (repk_cons hd repk_nil)
theorem RepK.drop {k : Ky} : ∀ {ds : List (Ky × D)} {vs : List (L2.Key × V)}, RepK K B ds vs → RepK K B (dropKy ds k) (dropK vs (ky k))
  | [], vs, h => by rw [h.nil_of]; exact repk_nil
  | (k', d') :: ds, vs, h => by
    obtain ⟨u, r, rfl, h1, h2⟩ := h.cons_of
    unfold dropKy dropK
    by_cases hk : k' = k
    · subst hk
      simp only [List.filter_cons, ne_eq, not_true_eq_false, decide_false, Bool.false_eq_true, if_false]
      exact h2.drop
    · have hk' : ¬ ky k' = ky k := fun z => hk (ky_inj z)
      simp only [List.filter_cons, ne_eq, hk, hk', not_false_eq_true, decide_true, if_true]
      exact repk_cons h1 h2.drop
theorem RepK.merge : ∀ {es ds : List (Ky × D)} {us vs : List (L2.Key × V)}, RepK K B es us → RepK K B ds vs → RepK K B (mergeKy ds es) (mergeK vs us)
  | [], ds, us, vs, h, t => by rw [h.nil_of]; exact t
  | (k', d') :: es, ds, us, vs, h, t => by
    obtain ⟨u, r, rfl, h1, h2⟩ := h.cons_of
    exact RepK.merge (es := es) (us := r) h2 (t.put h1)
end

/-! ### steps: what stood stays, what is new is told -/
structure Step (B H B' H' : Hp) : Prop where
  bb : Ext B B'
  hh : Ext H H'
  bh : Ext B' H'
  nw : ∀ a, B' a ≠ none → B a ≠ none ∨ H a = none
theorem Step.refl {B H : Hp} (h : Ext B H) : Step B H B H := ⟨Ext.refl _, Ext.refl _, h, fun _ h => .inl h⟩
theorem Step.trans {B H B1 H1 B2 H2 : Hp} (s : Step B H B1 H1) (t : Step B1 H1 B2 H2) : Step B H B2 H2 :=
  ⟨s.bb.trans t.bb, s.hh.trans t.hh, t.bh, fun a h => (t.nw a h).elim (s.nw a) fun q => .inr (s.hh.back q)⟩
/-- a new thing that nobody changes -/
theorem Step.new {B H : Hp} {p : Addr} {o : HO} (h : Ext B H) (hp : H p = none) : Step B H (upd B p o) (upd H p o) :=
  ⟨Ext.new (h.back hp), Ext.new hp, h.updB hp, fun a ha => by
    by_cases e : a = p
    · subst e; exact .inr hp
    · rw [upd_ne e] at ha; exact .inl ha⟩
/-- a new thing of one's own -/
theorem Step.own {B H : Hp} {p : Addr} {o : HO} (h : Ext B H) (hp : H p = none) : Step B H B (upd H p o) :=
  ⟨Ext.refl _, Ext.new hp, h.upd (h.back hp) (fun q z => by rw [hp] at z; cases z), fun _ h => .inl h⟩
/-- the objects at F are given up: they stay as they are from here on -/
def joinH (B H : Hp) (F : List Addr) : Hp := fun a => if a ∈ F then H a else B a
theorem joinH_in {B H : Hp} {F : List Addr} {a : Addr} (h : a ∈ F) : joinH B H F a = H a := if_pos h
theorem joinH_out {B H : Hp} {F : List Addr} {a : Addr} (h : a ∉ F) : joinH B H F a = B a := if_neg h
theorem joinH_b {B H : Hp} {F : List Addr} (h : ∀ a ∈ F, B a = none) : Ext B (joinH B H F) := fun a o e => by
  by_cases q : a ∈ F
  · rw [h a q] at e; cases e
  · rw [joinH_out q]; exact .inl e
theorem joinH_h {B H : Hp} {F : List Addr} (h : Ext B H) : Ext (joinH B H F) H := fun a o e => by
  by_cases q : a ∈ F
  · rw [joinH_in q] at e; exact .inl e
  · rw [joinH_out q] at e; exact h a o e
theorem joinH_nil {B H : Hp} : joinH B H [] = B := by
  funext a; exact joinH_out (by simp)

/-! ### one's own objects -/
def OwnL (P : V → D → List Addr → Prop) : List V → List D → List Addr → Prop
  | [], [], F => F = []
  | v :: vs, d :: ds, F => ∃ F1 F2, F = F1 ++ F2 ∧ P v d F1 ∧ OwnL P vs ds F2
  | _, _, _ => False
section
variable (K : PySem.W.Frag) (B H : Hp)
def Own1 (v : V) (d : D) (F : List Addr) : Prop :=
  ∃ a, v = .ref a ∧ F = [a] ∧ ((∃ vs ds, d = .lst ds ∧ H a = some (.lst vs) ∧ Reps K B ds vs) ∨ ∃ vs ds, d = .dic ds ∧ H a = some (.dK vs) ∧ RepK K B ds vs)
def Own2 (v : V) (d : D) (F : List Addr) : Prop :=
  ∃ a F' vs ds, v = .ref a ∧ F = a :: F' ∧ d = .lst ds ∧ H a = some (.lst vs) ∧ OwnL (Own1 K B H) vs ds F'
end
section
variable {K : PySem.W.Frag} {B H B' H' : Hp}
theorem OwnL.imp {P Q : V → D → List Addr → Prop} (f : ∀ v d F, P v d F → Q v d F) : ∀ {vs : List V} {ds : List D} {F : List Addr}, OwnL P vs ds F → OwnL Q vs ds F
  | [], [], F, h => h
  | v :: vs, d :: ds, F, h => by
    obtain ⟨F1, F2, e, h1, h2⟩ := h
    exact ⟨F1, F2, e, f _ _ _ h1, h2.imp f⟩
  | [], _ :: _, F, h => h.elim
  | _ :: _, [], F, h => h.elim
/-- it stays where its own objects stay -/
theorem Own1.keep {v : V} {d : D} {F : List Addr} (h : Own1 K B H v d F) (e : Ext B B') (k : ∀ a ∈ F, H' a = H a) : Own1 K B' H' v d F := by
  obtain ⟨a, rfl, rfl, h⟩ := h
  refine ⟨a, rfl, rfl, ?_⟩
  have ka := k a (by simp)
  rcases h with ⟨vs, ds, rfl, h1, h2⟩ | ⟨vs, ds, rfl, h1, h2⟩
  · exact .inl ⟨vs, ds, rfl, ka.trans h1, Reps.mono e _ _ h2⟩
  · exact .inr ⟨vs, ds, rfl, ka.trans h1, RepK.mono e _ _ h2⟩
theorem Own1.thereN {v : V} {d : D} {F : List Addr} (h : Own1 K B H v d F) : ∀ a ∈ F, ∃ o, H a = some o ∧ Nt o ∧ ∀ q, some o ≠ some (LamX.CodeO a q) := by
  obtain ⟨a, rfl, rfl, h⟩ := h
  intro b hb
  have e : b = a := by simpa using hb
  subst e
  rcases h with ⟨vs, ds, rfl, h1, h2⟩ | ⟨vs, ds, rfl, h1, h2⟩
  · exact ⟨_, h1, nt_lst, fun q => code_lst⟩
  · exact ⟨_, h1, nt_dK, fun q => code_dK⟩
theorem there_of {F : List Addr} (h : ∀ a ∈ F, ∃ o, H a = some o ∧ Nt o ∧ ∀ q, some o ≠ some (LamX.CodeO a q)) : ∀ a ∈ F, H a ≠ none := fun a ha => by
  obtain ⟨o, e, _⟩ := h a ha
  rw [e]; exact fun z => nomatch z
theorem Own1.there {v : V} {d : D} {F : List Addr} (h : Own1 K B H v d F) : ∀ a ∈ F, H a ≠ none := there_of h.thereN
theorem OwnL.keep : ∀ {vs : List V} {ds : List D} {F : List Addr}, OwnL (Own1 K B H) vs ds F → Ext B B' → (∀ a ∈ F, H' a = H a) → OwnL (Own1 K B' H') vs ds F
  | [], [], F, h, _, _ => h
  | v :: vs, d :: ds, F, h, e, k => by
    obtain ⟨F1, F2, rfl, h1, h2⟩ := h
    exact ⟨F1, F2, rfl, h1.keep e fun a ha => k a (List.mem_append_left _ ha), h2.keep e fun a ha => k a (List.mem_append_right _ ha)⟩
  | [], _ :: _, F, h, _, _ => h.elim
  | _ :: _, [], F, h, _, _ => h.elim
theorem OwnL.thereN : ∀ {vs : List V} {ds : List D} {F : List Addr}, OwnL (Own1 K B H) vs ds F → ∀ a ∈ F, ∃ o, H a = some o ∧ Nt o ∧ ∀ q, some o ≠ some (LamX.CodeO a q)
  | [], [], F, h, a, ha => by rw [show F = [] from h] at ha; simp at ha
  | v :: vs, d :: ds, F, h, a, ha => by
    obtain ⟨F1, F2, rfl, h1, h2⟩ := h
    rcases List.mem_append.mp ha with q | q
    · exact h1.thereN a q
    · exact h2.thereN a q
  | [], _ :: _, F, h, _, _ => h.elim
  | _ :: _, [], F, h, _, _ => h.elim
theorem Own2.keep {v : V} {d : D} {F : List Addr} (h : Own2 K B H v d F) (e : Ext B B') (k : ∀ a ∈ F, H' a = H a) : Own2 K B' H' v d F := by
  obtain ⟨a, F', vs, ds, rfl, rfl, rfl, h1, h2⟩ := h
  exact ⟨a, F', vs, ds, rfl, rfl, rfl, (k a (by simp)).trans h1, h2.keep e fun b hb => k b (List.mem_cons_of_mem _ hb)⟩
theorem Own2.thereN {v : V} {d : D} {F : List Addr} (h : Own2 K B H v d F) : ∀ a ∈ F, ∃ o, H a = some o ∧ Nt o ∧ ∀ q, some o ≠ some (LamX.CodeO a q) := by
  obtain ⟨a, F', vs, ds, rfl, rfl, rfl, h1, h2⟩ := h
  intro b hb
  rcases List.mem_cons.mp hb with rfl | q
  · exact ⟨_, h1, nt_lst, fun q => code_lst⟩
  · exact h2.thereN b q
theorem OwnL.there {vs : List V} {ds : List D} {F : List Addr} (h : OwnL (Own1 K B H) vs ds F) : ∀ a ∈ F, H a ≠ none := there_of h.thereN
theorem Own2.there {v : V} {d : D} {F : List Addr} (h : Own2 K B H v d F) : ∀ a ∈ F, H a ≠ none := there_of h.thereN
theorem ext_eq {H H' : Hp} {F : List Addr} (e : Ext H H') (t : ∀ a ∈ F, ∃ o, H a = some o ∧ Nt o ∧ ∀ q, some o ≠ some (LamX.CodeO a q)) : ∀ a ∈ F, H' a = H a := fun a ha => by
  obtain ⟨o, q, n, _⟩ := t a ha
  rw [q]; exact e.at q n
theorem Own1.mono {v : V} {d : D} {F : List Addr} (h : Own1 K B H v d F) (e : Ext B B') (e' : Ext H H') : Own1 K B' H' v d F := h.keep e (ext_eq e' h.thereN)
theorem Own2.mono {v : V} {d : D} {F : List Addr} (h : Own2 K B H v d F) (e : Ext B B') (e' : Ext H H') : Own2 K B' H' v d F := h.keep e (ext_eq e' h.thereN)
theorem OwnL.mono {vs : List V} {ds : List D} {F : List Addr} (h : OwnL (Own1 K B H) vs ds F) (e : Ext B B') (e' : Ext H H') : OwnL (Own1 K B' H') vs ds F := h.keep e (ext_eq e' h.thereN)
/-- to be looked at -/
theorem Own1.rep {v : V} {d : D} {F : List Addr} (h : Own1 K B H v d F) (e : Ext B H) : Rep K H d v := by
  obtain ⟨a, rfl, rfl, h⟩ := h
  rcases h with ⟨vs, ds, rfl, h1, h2⟩ | ⟨vs, ds, rfl, h1, h2⟩
  · exact lst_rep (SqL.of h1) (Reps.mono e _ _ h2)
  · exact dic_rep h1 (RepK.mono e _ _ h2)
theorem OwnL.reps : ∀ {vs : List V} {ds : List D} {F : List Addr}, OwnL (Own1 K B H) vs ds F → Ext B H → Reps K H ds vs
  | [], [], F, h, _ => reps_nil
  | v :: vs, d :: ds, F, h, e => by
    obtain ⟨F1, F2, rfl, h1, h2⟩ := h
    exact reps_cons (h1.rep e) (h2.reps e)
  | [], _ :: _, F, h, _ => h.elim
  | _ :: _, [], F, h, _ => h.elim
theorem Own2.rep {v : V} {d : D} {F : List Addr} (h : Own2 K B H v d F) (e : Ext B H) : Rep K H d v := by
  obtain ⟨a, F', vs, ds, rfl, rfl, rfl, h1, h2⟩ := h
  exact lst_rep (SqL.of h1) (h2.reps e)
/-- given up -/
theorem Own1.give {v : V} {d : D} {F G : List Addr} (h : Own1 K B H v d F) (hn : ∀ a ∈ G, B a = none) (hg : ∀ a ∈ F, a ∈ G) : Rep K (joinH B H G) d v := by
  obtain ⟨a, rfl, rfl, h⟩ := h
  have ha : joinH B H G a = H a := joinH_in (hg a (by simp))
  rcases h with ⟨vs, ds, rfl, h1, h2⟩ | ⟨vs, ds, rfl, h1, h2⟩
  · exact lst_rep (SqL.of (ha.trans h1)) (Reps.mono (joinH_b hn) _ _ h2)
  · exact dic_rep (ha.trans h1) (RepK.mono (joinH_b hn) _ _ h2)
theorem OwnL.give {G : List Addr} (hn : ∀ a ∈ G, B a = none) : ∀ {vs : List V} {ds : List D} {F : List Addr}, OwnL (Own1 K B H) vs ds F → (∀ a ∈ F, a ∈ G) → Reps K (joinH B H G) ds vs
  | [], [], F, h, _ => reps_nil
  | v :: vs, d :: ds, F, h, hg => by
    obtain ⟨F1, F2, rfl, h1, h2⟩ := h
    exact reps_cons (h1.give hn fun a ha => hg a (List.mem_append_left _ ha)) (h2.give hn fun a ha => hg a (List.mem_append_right _ ha))
  | [], _ :: _, F, h, _ => h.elim
  | _ :: _, [], F, h, _ => h.elim
theorem Own2.give {v : V} {d : D} {F G : List Addr} (h : Own2 K B H v d F) (hn : ∀ a ∈ G, B a = none) (hg : ∀ a ∈ F, a ∈ G) : Rep K (joinH B H G) d v := by
  obtain ⟨a, F', vs, ds, rfl, rfl, rfl, h1, h2⟩ := h
  exact lst_rep (SqL.of ((joinH_in (hg a (by simp))).trans h1)) (h2.give hn fun b hb => hg b (List.mem_cons_of_mem _ hb))
end

/-! ### the state -/
/-- the value of a slot, by its kind; F its own objects -/
def KOk (K : PySem.W.Frag) (H0 B H : Hp) : Kd → D → V → List Addr → Prop
  | .frz, d, v, F => F = [] ∧ Rep K B d v
  | .own1, d, v, F => Own1 K B H v d F
  | .own2, d, v, F => Own2 K B H v d F
  | .lent, d, v, F => F = [] ∧ Rep K H0 d v
  | _, _, _, _ => False
theorem KOk.keep {K : PySem.W.Frag} {H0 B H B' H' : Hp} {k : Kd} {d : D} {v : V} {F : List Addr} (h : KOk K H0 B H k d v F) (e : Ext B B') (q : ∀ a ∈ F, H' a = H a) : KOk K H0 B' H' k d v F := by
  cases k with
  | frz => exact ⟨h.1, Rep.mono e _ _ h.2⟩
  | own1 => exact Own1.keep h e q
  | new1 => exact h
  | own2 => exact Own2.keep h e q
  | new2 => exact h
  | lent => exact h
theorem KOk.thereN {K : PySem.W.Frag} {H0 B H : Hp} {k : Kd} {d : D} {v : V} {F : List Addr} (h : KOk K H0 B H k d v F) : ∀ a ∈ F, ∃ o, H a = some o ∧ Nt o ∧ ∀ q, some o ≠ some (LamX.CodeO a q) := by
  cases k with
  | frz => rw [h.1]; intro a ha; simp at ha
  | lent => rw [h.1]; intro a ha; simp at ha
  | own1 => exact Own1.thereN h
  | new1 => exact h.elim
  | own2 => exact Own2.thereN h
  | new2 => exact h.elim
theorem KOk.there {K : PySem.W.Frag} {H0 B H : Hp} {k : Kd} {d : D} {v : V} {F : List Addr} (h : KOk K H0 B H k d v F) : ∀ a ∈ F, H a ≠ none := there_of h.thereN
theorem KOk.rep {K : PySem.W.Frag} {H0 B H : Hp} {k : Kd} {d : D} {v : V} {F : List Addr} (h : KOk K H0 B H k d v F) (e : Ext B H) (e0 : Ext H0 H) : Rep K H d v := by
  cases k with
  | frz => exact Rep.mono e _ _ h.2
  | lent => exact Rep.mono e0 _ _ h.2
  | own1 => exact Own1.rep h e
  | new1 => exact h.elim
  | own2 => exact Own2.rep h e
  | new2 => exact h.elim

structure Rel (K : PySem.W.Frag) (B0 H0 B : Hp) (env : Env) (σ : L2.St) (H : Hp) (o : Addr → Option Nat) : Prop where
  b0 : Ext B0 B
  h0 : Ext H0 H
  bh : Ext B H
  tt : TabsOk H0
  gr : ∀ a, B a ≠ none → B0 a ≠ none ∨ H0 a = none
  len : σ.length = env.length
  sl : ∀ i d k, env[i]? = some (.val d k) → ∃ v F, σ[i]? = some (some v) ∧ KOk K H0 B H k d v F ∧ F.Nodup ∧ ∀ a ∈ F, o a = some i
  fr : ∀ a i, o a = some i → B a = none ∧ H0 a = none ∧ H a ≠ none
  nc : ∀ a i, o a = some i → ∀ q, H a ≠ some (LamX.CodeO a q)
theorem Rel.step {K : PySem.W.Frag} {B0 H0 B B' H H' : Hp} {env : Env} {σ : L2.St} {o : Addr → Option Nat} (R : Rel K B0 H0 B env σ H o) (s : Step B H B' H') : Rel K B0 H0 B' env σ H' o where
  b0 := R.b0.trans s.bb
  h0 := R.h0.trans s.hh
  bh := s.bh
  tt := R.tt
  gr := fun a h => (s.nw a h).elim (R.gr a) fun q => .inr (R.h0.back q)
  len := R.len
  sl := fun i d k e => by
    obtain ⟨v, F, h1, h2, h3, h4⟩ := R.sl i d k e
    exact ⟨v, F, h1, h2.keep s.bb (ext_eq s.hh h2.thereN), h3, h4⟩
  fr := fun a i e => by
    obtain ⟨h1, h2, h3⟩ := R.fr a i e
    refine ⟨?_, h2, s.hh.ne h3⟩
    cases q : B' a with
    | none => rfl
    | some u => exact ((s.nw a (by rw [q]; exact fun z => nomatch z)).elim (fun z => z h1) fun z => h3 z).elim
  nc := fun a i e q => by
    obtain ⟨h1, h2, h3⟩ := R.fr a i e
    have h4 := R.nc a i e
    cases hu : H a with
    | none => exact absurd hu h3
    | some u =>
      rcases s.hh a u hu with z | ⟨ps, ps', z1, z, _⟩
      · rw [z]; rw [hu] at h4; exact h4 q
      · rw [z]; exact fun w => LamX.codeO_ne ps' (Option.some.inj w).symm

/-- what an expression gives -/
def ROk (K : PySem.W.Frag) (H0 B H : Hp) : Kd → D → V → List Addr → Prop
  | .frz, d, v, F => F = [] ∧ Rep K B d v
  | .new1, d, v, F => Own1 K B H v d F
  | .new2, d, v, F => Own2 K B H v d F
  | .own1, d, v, F => F = [] ∧ ∃ G, Own1 K B H v d G
  | .own2, d, v, F => F = [] ∧ ∃ G, Own2 K B H v d G
  | .lent, d, v, F => F = [] ∧ Rep K H0 d v
/-- new objects -/
structure FrF (H B' : Hp) (F : List Addr) : Prop where
  nd : F.Nodup
  h : ∀ a ∈ F, H a = none
  b : ∀ a ∈ F, B' a = none
theorem FrF.nil {H B' : Hp} : FrF H B' [] := ⟨List.nodup_nil, by simp, by simp⟩
theorem FrF.one {H B' : Hp} {a : Addr} (h : H a = none) (b : B' a = none) : FrF H B' [a] := ⟨by simp, by simpa using h, by simpa using b⟩
theorem ROk.rep {K : PySem.W.Frag} {H0 B H : Hp} {k : Kd} {d : D} {v : V} {F : List Addr} (h : ROk K H0 B H k d v F) (e : Ext B H) (e0 : Ext H0 H) : Rep K H d v := by
  cases k with
  | frz => exact Rep.mono e _ _ h.2
  | lent => exact Rep.mono e0 _ _ h.2
  | own1 => obtain ⟨_, _, h⟩ := h; exact Own1.rep h e
  | new1 => exact Own1.rep h e
  | own2 => obtain ⟨_, _, h⟩ := h; exact Own2.rep h e
  | new2 => exact Own2.rep h e
/-- given up: it stays -/
theorem Step.give {B H B' H' : Hp} {F : List Addr} (s : Step B H B' H') (f : FrF H B' F) : Step B H (joinH B' H' F) H' :=
  ⟨s.bb.trans (joinH_b f.b), s.hh, joinH_h s.bh, fun a h => by
    by_cases q : a ∈ F
    · exact .inr (f.h a q)
    · rw [joinH_out q] at h; exact s.nw a h⟩
end Hg
end

section
set_option Elab.async false
set_option maxRecDepth 100000
set_option maxHeartbeats 4000000
/-! Snd1: readings made of the evaluator; the rules of expressions. -/
namespace Hg
open PySem PySem.Spec PyProof.Rows L2
variable [TB : Tabl]

/-- what a body may lean on -/
structure Gd (X : Cx) : Prop where
  calm : X.calm = true
  nd : X.N.Nodup
  un : X.A.units + 80 < cLine
  len : X.mg ("len" : Str) = none
  range : X.mg ("range" : Str) = none
  sorted : X.mg ("sorted" : Str) = none
  min : X.mg ("min" : Str) = none
  max : X.mg ("max" : Str) = none
  sum : X.mg ("sum" : Str) = none
  isi : X.mg ("isinstance" : Str) = none
  list : X.mg ("list" : Str) = none
  tuple : X.mg ("tuple" : Str) = none
  dict : X.mg ("dict" : Str) = none
  int : X.mg ("int" : Str) = none
  str : X.mg ("str" : Str) = none
  bool : X.mg ("bool" : Str) = none
  set : X.mg ("set" : Str) = none
  enum : X.mg ("enumerate" : Str) = none
  rev : X.mg ("reversed" : Str) = none
  zip : X.mg ("zip" : Str) = none

section
variable (C : Nat → List D → Option D)
/-- the reading of an expression, of a test, of arguments -/
def tE (K : PySem.W.Frag) (e : E) : TE := fun σ H Q => ∃ B0 H0 B env o d k, Rel K B0 H0 B env σ H o ∧ ev C e env = some (d, k) ∧
  ∀ B' H' v F, Step B H B' H' → ROk K H0 B' H' k d v F → FrF H B' F → Q v H'
def tT (K : PySem.W.Frag) (t : T) : TT := fun σ H Q => ∃ B0 H0 B env o b, Rel K B0 H0 B env σ H o ∧ evT C t env = some b ∧ ∀ B' H', Step B H B' H' → Q b H'
def tA (K : PySem.W.Frag) (es : Es) : TA := fun σ H Q => ∃ B0 H0 B env o ds, Rel K B0 H0 B env σ H o ∧ evs C es env = some ds ∧ ∀ B' H' vs, Step B H B' H' → Reps K B' ds vs → Q vs H'
end
/-- a weaker reading -/
theorem imp_e {X : Cx} {x : Expr} {t u : TE} (h : PE X x t) (f : ∀ σ H Q, u σ H Q → t σ H Q) : PE X x u := ⟨fun pins s σ H Q I q => h.run pins s σ H Q I (f σ H Q q)⟩
theorem imp_t {X : Cx} {x : Expr} {t u : TT} (h : PT X x t) (f : ∀ σ H Q, u σ H Q → t σ H Q) : PT X x u := ⟨fun pins s σ H Q I q => h.run pins s σ H Q I (f σ H Q q)⟩
theorem imp_w {X : Cx} {x : Expr} {t u : TT} (h : PW X x t) (f : ∀ σ H Q, u σ H Q → t σ H Q) : PW X x u := ⟨fun wh pins s σ H Q I q => h.run wh pins s σ H Q I (f σ H Q q)⟩
theorem imp_a {X : Cx} {x : List Expr} {t u : TA} (h : PA X x t) (f : ∀ σ H Q, u σ H Q → t σ H Q) : PA X x u := ⟨fun pos pins s σ H Q I q => h.run pos pins s σ H Q I (f σ H Q q)⟩
theorem imp_s {X : Cx} {x : Stmt} {t u : TS} (h : PS X x t) (f : ∀ D σ H, u D σ H → t D σ H) : PS X x u := ⟨fun pins s σ H D I q => h.run pins s σ H D I (f D σ H q)⟩
theorem imp_ss {X : Cx} {x : List Stmt} {t u : TS} (h : PSs X x t) (f : ∀ D σ H, u D σ H → t D σ H) : PSs X x u := ⟨fun pins s σ H D I q => h.run pins s σ H D I (f D σ H q)⟩

section
variable (C : Nat → List D → Option D)
abbrev SE (X : Cx) (e : E) (x : Expr) : Prop := PE X x (tE C X.K e)
abbrev ST (X : Cx) (t : T) (x : Expr) : Prop := PT X x (tT C X.K t)
abbrev SW (X : Cx) (t : T) (x : Expr) : Prop := PW X x (tT C X.K t)
abbrev SA (X : Cx) (es : Es) (xs : List Expr) : Prop := PA X xs (tA C X.K es)
end

section
variable {C : Nat → List D → Option D} {K : PySem.W.Frag} {B0 H0 B H : Hp} {env : Env} {σ : L2.St} {o : Addr → Option Nat} {e : E} {d : D} {k : Kd} {Q : VK}
/-- what is looked at -/
theorem use_b (R : Rel K B0 H0 B env σ H o) (h : bm (ev C e env) = some d) (q : ∀ B' H' v, Step B H B' H' → Rep K H' d v → Q v H') : tE C K e σ H Q := by
  cases he : ev C e env with
  | none => rw [he] at h; cases h
  | some p =>
    obtain ⟨d', k⟩ := p
    rw [he] at h
    cases h
    exact ⟨B0, H0, B, env, o, d, k, R, he, fun B' H' v F s r f => q B' H' v s (r.rep s.bh (R.h0.trans s.hh))⟩
/-- what is kept -/
theorem use_v (R : Rel K B0 H0 B env σ H o) (h : vm (ev C e env) = some d) (q : ∀ B' H' v, Step B H B' H' → Rep K B' d v → Q v H') : tE C K e σ H Q := by
  cases he : ev C e env with
  | none => rw [he] at h; cases h
  | some p =>
    obtain ⟨d', k⟩ := p
    rw [he] at h
    have h' : (if k = .frz ∨ k = .new1 ∨ k = .new2 ∨ d'.atom = true then some d' else none) = some d := h
    by_cases hk : k = .frz ∨ k = .new1 ∨ k = .new2 ∨ d'.atom = true
    · rw [if_pos hk] at h'
      cases h'
      refine ⟨B0, H0, B, env, o, d, k, R, he, fun B' H' v F s r f => ?_⟩
      by_cases ha : d.atom = true
      · exact q B' H' v s (Rep.atom ha (r.rep s.bh (R.h0.trans s.hh)))
      · rcases hk with rfl | rfl | rfl | z
        · exact q B' H' v s r.2
        · exact q _ H' v (s.give f) (Own1.give r f.b fun a h => h)
        · exact q _ H' v (s.give f) (Own2.give r f.b fun a h => h)
        · exact absurd z ha
    · rw [if_neg hk] at h'
      cases h'
/-- one whose items are kept -/
def Elem (K : PySem.W.Frag) (B H : Hp) : D → V → Prop
  | .lst ds, v => ∃ a vs, v = .ref a ∧ SqL K H a vs ∧ Reps K B ds vs
  | .dic ds, v => ∃ a vs, v = .ref a ∧ H a = some (.dK vs) ∧ RepK K B ds vs
  | d, v => Rep K B d v
theorem el_int {B H : Hp} {i : Int} {v : V} (h : Elem K B H (.int i) v) : v = .int i := rep_int (K := K) (B := B) h
theorem el_str {B H : Hp} {i : List Nat} {v : V} (h : Elem K B H (.str i) v) : v = .str (sv i) := rep_str (K := K) (B := B) h
theorem Rep.elem {B H : Hp} {d : D} {v : V} (r : Rep K B d v) (e : Ext B H) : Elem K B H d v := by
  cases d with
  | lst ds => obtain ⟨a, vs, h1, h2, h3⟩ := rep_lst r; exact ⟨a, vs, h1, e.sq h2, h3⟩
  | dic ds => obtain ⟨a, vs, h1, h2, h3⟩ := rep_dic r; exact ⟨a, vs, h1, e.at h2 nt_dK, h3⟩
  | non => exact r
  | bl b => exact r
  | int i => exact r
  | str s => exact r
  | tup ds => exact r
theorem Own1.elem {B H : Hp} {d : D} {v : V} {F : List Addr} (r : Own1 K B H v d F) : Elem K B H d v := by
  obtain ⟨a, rfl, rfl, h⟩ := r
  rcases h with ⟨vs, ds, rfl, h1, h2⟩ | ⟨vs, ds, rfl, h1, h2⟩
  · exact ⟨a, vs, rfl, SqL.of h1, h2⟩
  · exact ⟨a, vs, rfl, h1, h2⟩
theorem Elem.mono {B H B' H' : Hp} {d : D} {v : V} (r : Elem K B H d v) (e : Ext B B') (e' : Ext H H') : Elem K B' H' d v := by
  cases d with
  | lst ds => obtain ⟨a, vs, h1, h2, h3⟩ := r; exact ⟨a, vs, h1, e'.sq h2, Reps.mono e _ _ h3⟩
  | dic ds => obtain ⟨a, vs, h1, h2, h3⟩ := r; exact ⟨a, vs, h1, e'.at h2 nt_dK, RepK.mono e _ _ h3⟩
  | non => exact Rep.mono e _ _ r
  | bl b => exact Rep.mono e _ _ r
  | int i => exact Rep.mono e _ _ r
  | str s => exact Rep.mono e _ _ r
  | tup ds => exact Rep.mono e _ _ r
theorem use_e (R : Rel K B0 H0 B env σ H o) (h : em (ev C e env) = some d) (q : ∀ B' H' v, Step B H B' H' → Elem K B' H' d v → Q v H') : tE C K e σ H Q := by
  cases he : ev C e env with
  | none => rw [he] at h; cases h
  | some p =>
    obtain ⟨d', k⟩ := p
    by_cases hk : k = .own1
    · subst hk
      rw [he] at h
      have h' : (if (Kd.own1 = .frz ∨ Kd.own1 = .new1 ∨ Kd.own1 = .new2 ∨ Kd.own1 = .own1 ∨ d'.atom = true) then some d' else none) = some d := h
      rw [if_pos (.inr (.inr (.inr (.inl rfl))))] at h'
      cases h'
      refine ⟨B0, H0, B, env, o, d, .own1, R, he, fun B' H' v F s r f => ?_⟩
      obtain ⟨_, G, r⟩ := r
      exact q B' H' v s (Own1.elem r)
    · have hv : vm (ev C e env) = some d := by
        rw [he] at h ⊢
        have h' : (if k = .frz ∨ k = .new1 ∨ k = .new2 ∨ k = .own1 ∨ d'.atom = true then some d' else none) = some d := h
        by_cases hq : k = .frz ∨ k = .new1 ∨ k = .new2 ∨ k = .own1 ∨ d'.atom = true
        · rw [if_pos hq] at h'
          have hq' : k = .frz ∨ k = .new1 ∨ k = .new2 ∨ d'.atom = true := by
            rcases hq with z | z | z | z | z
            · exact .inl z
            · exact .inr (.inl z)
            · exact .inr (.inr (.inl z))
            · exact absurd z hk
            · exact .inr (.inr (.inr z))
          show (if k = .frz ∨ k = .new1 ∨ k = .new2 ∨ d'.atom = true then some d' else none) = some d
          rw [if_pos hq']
          exact h'
        · rw [if_neg hq] at h'
          cases h'
      exact use_v R hv fun B' H' v s r => q B' H' v s (r.elem s.bh)
end

/-! ### helpers for what comes back -/
section
variable {K : PySem.W.Frag} {H0 B H B' H' : Hp} {d : D} {v : V}
theorem bm_of {o : Option (D × Kd)} {d : D} {k : Kd} (h : o = some (d, k)) : bm o = some d := by rw [h]; rfl
theorem fr_some {o : Option D} {d : D} {k : Kd} (h : fr o = some (d, k)) : o = some d ∧ k = .frz := by
  cases o with
  | none => cases h
  | some x => cases h; exact ⟨rfl, rfl⟩
theorem frB_some {o : Option Bool} {d : D} {k : Kd} (h : frB o = some (d, k)) : ∃ b, o = some b ∧ d = .bl b ∧ k = .frz := by
  cases o with
  | none => cases h
  | some x => cases h; exact ⟨x, rfl, rfl, rfl⟩
theorem frI_some {o : Option Int} {d : D} {k : Kd} (h : frI o = some (d, k)) : ∃ b, o = some b ∧ d = .int b ∧ k = .frz := by
  cases o with
  | none => cases h
  | some x => cases h; exact ⟨x, rfl, rfl, rfl⟩
theorem nw_some {o : Option D} {d : D} {k : Kd} (h : nw o = some (d, k)) : o = some d ∧ k = kdOf d := by
  cases o with
  | none => cases h
  | some x => cases h; exact ⟨rfl, rfl⟩
theorem asInt_some {d : D} {i : Int} (h : asInt d = some i) : d = .int i := by cases d <;> simp [asInt] at h; rw [h]
theorem asStr_some {d : D} {i : List Nat} (h : asStr d = some i) : d = .str i := by cases d <;> simp [asStr] at h; rw [h]
theorem asBl_some {d : D} {i : Bool} (h : asBl d = some i) : d = .bl i := by cases d <;> simp [asBl] at h; rw [h]
end

section
variable {C : Nat → List D → Option D} {X : Cx} {a b : E} {x y : Expr} {pos : Pos}
/-- a name -/
theorem se_var {i : Nat} {n : Str} (hN : X.N[i]? = some n := by rfl) (hv : Vis X.env.scope n := by first | exact Or.inl rfl | exact Or.inr (Or.inl rfl) | exact Or.inr (Or.inr rfl)) (hd : (n == ("__debug__" : Str)) = false := by decide)
    (hcd : (n == ("__classdict__" : Str)) = false := by decide) : SE C X (.var i) (.Name n pos) := by
  refine imp_e (pe_var hN hv hd hcd) fun σ H Q h => ?_
  obtain ⟨B0, H0, B, env, o, d, k, R, he, q⟩ := h
  have he' : (match env[i]? with | some (.val d k) => some (d, k) | _ => none) = some (d, k) := he
  cases hs : env[i]? with
  | none => rw [hs] at he'; cases he'
  | some s =>
    cases s with
    | un => rw [hs] at he'; cases he'
    | val d' k' =>
      rw [hs] at he'
      cases he'
      obtain ⟨v, F, h1, h2, h3, h4⟩ := R.sl i d k hs
      refine ⟨v, h1, ?_⟩
      cases k with
      | frz => exact q B H v [] (Step.refl R.bh) ⟨rfl, h2.2⟩ FrF.nil
      | lent => exact q B H v [] (Step.refl R.bh) ⟨rfl, h2.2⟩ FrF.nil
      | own1 => exact q B H v [] (Step.refl R.bh) ⟨rfl, F, h2⟩ FrF.nil
      | own2 => exact q B H v [] (Step.refl R.bh) ⟨rfl, F, h2⟩ FrF.nil
      | new1 => exact h2.elim
      | new2 => exact h2.elim
end

/-! ### two parts in a row -/
section
variable {C : Nat → List D → Option D} {K : PySem.W.Frag} {B0 H0 B H : Hp} {env : Env} {σ : L2.St} {o : Addr → Option Nat} {a b : E} {dx dy : D} {Q : V → V → Hp → Prop}
theorem two_b (R : Rel K B0 H0 B env σ H o) (hx : bm (ev C a env) = some dx) (hy : bm (ev C b env) = some dy) (q : ∀ B' H' u v, Step B H B' H' → Rep K H' dx u → Rep K H' dy v → Q u v H') :
    tE C K a σ H fun u H1 => tE C K b σ H1 fun v H2 => Q u v H2 :=
  use_b R hx fun B1 H1 u s1 r1 => use_b (R.step s1) hy fun B2 H2 v s2 r2 => q B2 H2 u v (s1.trans s2) (Rep.mono s2.hh _ _ r1) r2
theorem two_e (R : Rel K B0 H0 B env σ H o) (hx : em (ev C a env) = some dx) (hy : em (ev C b env) = some dy) (q : ∀ B' H' u v, Step B H B' H' → Elem K B' H' dx u → Elem K B' H' dy v → Q u v H') :
    tE C K a σ H fun u H1 => tE C K b σ H1 fun v H2 => Q u v H2 :=
  use_e R hx fun B1 H1 u s1 r1 => use_e (R.step s1) hy fun B2 H2 v s2 r2 => q B2 H2 u v (s1.trans s2) (r1.mono s2.bb s2.hh) r2
end

section
variable {C : Nat → List D → Option D} {X : Cx} {a b c : E} {x y z : Expr} {pos : Pos}
/-! ### constants -/
theorem se_int {i : Int} {j : Bool} : True := trivial
theorem fin_atom {K : PySem.W.Frag} {H0 B H : Hp} {Q : VK} {d : D} {k : Kd} {v : V} (hb : Ext B H) (q : ∀ B' H' v F, Step B H B' H' → ROk K H0 B' H' k d v F → FrF H B' F → Q v H') (hk : k = .frz) (r : Rep K B d v) : Q v H := by
  subst hk
  exact q B H v [] (Step.refl hb) ⟨rfl, r⟩ FrF.nil
theorem se_const {d : D} {v : V} (h : PE X x (tC v)) (r : ∀ K B, Rep K B d v) : SE C X (.c d) x := by
  refine imp_e h fun σ H Q h => ?_
  obtain ⟨B0, H0, B, env, o, d', k, R, he, q⟩ := h
  have he' : (if d.atom then some (d, Kd.frz) else none) = some (d', k) := he
  by_cases hd : d.atom = true
  · rw [if_pos hd] at he'
    cases he'
    exact fin_atom R.bh q rfl (r _ _)
  · rw [if_neg hd] at he'
    cases he'
theorem se_i {i j pos} : SE C X (.c (.int i)) (.Constant (.int i) j pos) := se_const pe_int fun _ _ => int_rep
theorem se_b {i j pos} : SE C X (.c (.bl i)) (.Constant (.bool i) j pos) := se_const pe_bl fun _ _ => bl_rep
theorem se_n {j pos} : SE C X (.c .non) (.Constant .none j pos) := se_const pe_non fun _ _ => non_rep
theorem se_s {s : List Nat} {t : Str} {j pos} (h : t = sv s := by rfl) : SE C X (.c (.str s)) (.Constant (.str t) j pos) := by
  subst h
  exact se_const pe_str fun _ _ => str_rep
/-- a number of the module -/
theorem se_g {i : Int} {n : Str} {pos : Pos} {u : Value} (hm : X.mg n = some u) (r : RelV (.int i) u) (hg : Gl X n := by rfl) (hd : (n == ("__debug__" : Str)) = false := by decide) : SE C X (.c (.int i)) (.Name n pos) := se_const (pe_glob hg hm r hd) fun _ _ => int_rep

/-! ### operators of two numbers -/
theorem bind2_some {α β γ : Type} {p : Option α} {q : Option β} {f : α → β → Option γ} {r : γ} (h : (p.bind fun x => q.bind fun y => f x y) = some r) : ∃ x y, p = some x ∧ q = some y ∧ f x y = some r := by
  rw [Option.bind_eq_some_iff] at h
  obtain ⟨x, h1, h⟩ := h
  rw [Option.bind_eq_some_iff] at h
  obtain ⟨y, h2, h⟩ := h
  exact ⟨x, y, h1, h2, h⟩
theorem int2_some {dx dy : D} {f : Int → Int → Option Int} {d : D} {k : Kd} (h : frI ((asInt dx).bind fun i => (asInt dy).bind fun j => f i j) = some (d, k)) : ∃ i j n, dx = .int i ∧ dy = .int j ∧ f i j = some n ∧ d = .int n ∧ k = .frz := by
  obtain ⟨n, h1, rfl, rfl⟩ := frI_some h
  obtain ⟨i, j, h2, h3, h4⟩ := bind2_some h1
  exact ⟨i, j, n, asInt_some h2, asInt_some h3, h4, rfl, rfl⟩
theorem map_bind {α β : Type} {p : Option α} {f : α → β} : (p.map f) = p.bind fun x => some (f x) := by cases p <;> rfl
theorem se_bin {op : Operator} {r : R2} (ho : OpR X (binaryOp op) r) (ha : SE C X a x) (hb : SE C X b y) {e : E}
    (h : ∀ (K : PySem.W.Frag) B0 H0 B env σ H o d k (Q : VK), Rel K B0 H0 B env σ H o → ev C e env = some (d, k) → (∀ B' H' v F, Step B H B' H' → ROk K H0 B' H' k d v F → FrF H B' F → Q v H') → K = X.K →
      tE C K a σ H fun u H1 => tE C K b σ H1 fun v H2 => r u v H2 Q) : SE C X e (.BinOp x op y pos) :=
  imp_e (pe_op ho ha hb) fun σ H Q ⟨B0, H0, B, env, o, d, k, R, he, q⟩ => h _ _ _ _ _ _ _ _ _ _ _ R he q rfl
theorem se_sub (ha : SE C X a x) (hb : SE C X b y) : SE C X (.sub a b) (.BinOp x .Sub y pos) := by
  refine se_bin op_sub ha hb fun K B0 H0 B env σ H o d k Q R he q _ => ?_
  have he' : ((bm (ev C a env)).bind fun x => (bm (ev C b env)).bind fun y => frI ((asInt x).bind fun i => (asInt y).map fun j => i - j)) = some (d, k) := he
  obtain ⟨dx, dy, h1, h2, h3⟩ := bind2_some he'
  simp only [map_bind] at h3
  obtain ⟨i, j, n, rfl, rfl, hn, rfl, rfl⟩ := int2_some h3
  cases hn
  refine two_b R h1 h2 fun B' H' u v s ru rv => ?_
  exact ⟨i, j, rep_int ru, rep_int rv, q B' H' _ [] s ⟨rfl, int_rep⟩ FrF.nil⟩
theorem se_md (ha : SE C X a x) (hb : SE C X b y) : SE C X (.md a b) (.BinOp x .Mod y pos) := by
  refine se_bin op_mod ha hb fun K B0 H0 B env σ H o d k Q R he q _ => ?_
  have he' : ((bm (ev C a env)).bind fun x => (bm (ev C b env)).bind fun y => frI ((asInt x).bind fun i => (asInt y).bind fun j => if 0 < j then some (i % j) else none)) = some (d, k) := he
  obtain ⟨dx, dy, h1, h2, h3⟩ := bind2_some he'
  obtain ⟨i, j, n, rfl, rfl, hn, rfl, rfl⟩ := int2_some h3
  by_cases hj : 0 < j
  · rw [if_pos hj] at hn
    cases hn
    refine two_b R h1 h2 fun B' H' u v s ru rv => ?_
    exact ⟨i, j, rep_int ru, rep_int rv, hj, q B' H' _ [] s ⟨rfl, int_rep⟩ FrF.nil⟩
  · rw [if_neg hj] at hn
    cases hn
theorem se_fd (ha : SE C X a x) (hb : SE C X b y) : SE C X (.fd a b) (.BinOp x .FloorDiv y pos) := by
  refine se_bin op_fdiv ha hb fun K B0 H0 B env σ H o d k Q R he q _ => ?_
  have he' : ((bm (ev C a env)).bind fun x => (bm (ev C b env)).bind fun y => frI ((asInt x).bind fun i => (asInt y).bind fun j => if 0 < j ∧ j < 1073741824 then some (i / j) else none)) = some (d, k) := he
  obtain ⟨dx, dy, h1, h2, h3⟩ := bind2_some he'
  obtain ⟨i, j, n, rfl, rfl, hn, rfl, rfl⟩ := int2_some h3
  by_cases hj : 0 < j ∧ j < 1073741824
  · rw [if_pos hj] at hn
    cases hn
    refine two_b R h1 h2 fun B' H' u v s ru rv => ?_
    exact ⟨i, j, rep_int ru, rep_int rv, hj, q B' H' _ [] s ⟨rfl, int_rep⟩ FrF.nil⟩
  · rw [if_neg hj] at hn
    cases hn
theorem se_pow (ha : SE C X a x) (hb : SE C X b y) : SE C X (.pow a b) (.BinOp x .Pow y pos) := by
  refine se_bin op_pow ha hb fun K B0 H0 B env σ H o d k Q R he q _ => ?_
  have he' : ((bm (ev C a env)).bind fun x => (bm (ev C b env)).bind fun y => frI ((asInt x).bind fun i => (asInt y).bind fun j => if 0 ≤ j ∧ j ≤ 1000 ∧ i.natAbs < 1000 then some (i ^ j.toNat) else none)) = some (d, k) := he
  obtain ⟨dx, dy, h1, h2, h3⟩ := bind2_some he'
  obtain ⟨i, j, n, rfl, rfl, hn, rfl, rfl⟩ := int2_some h3
  by_cases hj : 0 ≤ j ∧ j ≤ 1000 ∧ i.natAbs < 1000
  · rw [if_pos hj] at hn
    cases hn
    refine two_b R h1 h2 fun B' H' u v s ru rv => ?_
    exact ⟨i, j, rep_int ru, rep_int rv, ⟨hj.1, by omega, by omega⟩, q B' H' _ [] s ⟨rfl, int_rep⟩ FrF.nil⟩
  · rw [if_neg hj] at hn
    cases hn
theorem se_neg (ha : SE C X a x) : SE C X (.neg a) (.UnaryOp .USub x pos) := by
  refine imp_e (pe_un un_neg ha) fun σ H Q h => ?_
  obtain ⟨B0, H0, B, env, o, d, k, R, he, q⟩ := h
  have he' : frI ((bm (ev C a env)).bind fun x => (asInt x).map fun i => -i) = some (d, k) := he
  obtain ⟨n, h1, rfl, rfl⟩ := frI_some he'
  simp only [map_bind] at h1
  rw [Option.bind_eq_some_iff] at h1
  obtain ⟨dx, h1, h2⟩ := h1
  rw [Option.bind_eq_some_iff] at h2
  obtain ⟨i, h2, h3⟩ := h2
  cases h3
  obtain rfl := asInt_some h2
  exact use_b R h1 fun B' H' u s ru => ⟨i, rep_int ru, q B' H' _ [] s ⟨rfl, int_rep⟩ FrF.nil⟩

/-- lists one behind the other -/
def rCatS (K : PySem.W.Frag) : R2 := fun x y H Q => ∃ l b xs zs, x = .ref l ∧ y = .ref b ∧ SqL K H l xs ∧ SqL K H b zs ∧ xs.length + zs.length ≤ sizeLine ∧ ∀ p, H p = none → Q (.ref p) (upd H p (.lst (xs ++ zs)))
theorem op_catS : OpR X (binaryOp .Add) (rCatS X.K) := by
  intro pins s σ H x y v u Q I rx ry h
  obtain ⟨l, b, xs, zs, rfl, rfl, hH, hB, hz, q⟩ := h
  cases rx
  cases ry
  obtain ⟨its, r, pl, hl⟩ := I.list hH
  obtain ⟨its2, r2, pl2, hl2⟩ := I.list hB
  obtain ⟨⟨cls, dd, data, sl⟩, n, ho, hc, hd, hdt⟩ := pl
  obtain ⟨⟨cls2, dd2, data2, sl2⟩, n2, ho2, hc2, hd2, hdt2⟩ := pl2
  simp only at hc hd hdt hc2 hd2 hdt2
  subst hc hd hdt hc2 hd2 hdt2
  have e1 := r.length
  have e2 := r2.length
  have e : its.toArray ++ its2.toArray = (its ++ its2).toArray := by simp
  refine concat_meets ⟨_, ho, rfl⟩ ⟨_, ho2, rfl⟩ noFill_list_add seq_list_add PySem.F.slot_list_add PySem.F.entry_list_add (PySem.F.args_list_add_2 _ _)
    (list_addW l b its.toArray its2.toArray n n2 none none sl sl2 (by rw [List.size_toArray, List.size_toArray]; omega)) ⟨ho, ho2, ?_⟩
  rw [e]
  exact ⟨.ref _, _, I.lnew (t' := s.toks) (r.append r2) (by rw [List.length_append]; omega), rfl, q _ I.fresh⟩
theorem sizeL {n : Nat} (h : n ≤ L) : n ≤ sizeLine := Nat.le_trans h (by decide)
theorem sizeLt {n : Nat} (h : n < L) : n < sizeLine := Nat.lt_of_lt_of_le h (by decide)
theorem sv_append (s t : List Nat) : sv s ++ sv t = sv (s ++ t) := by
  show (⟨s.toArray ++ t.toArray⟩ : Str) = ⟨(s ++ t).toArray⟩
  rw [List.append_toArray]
theorem sv_length (s : List Nat) : (sv s).length = s.length := by
  show s.toArray.size = s.length
  simp
/-- a new list of one's own -/
theorem fin_list {K : PySem.W.Frag} {H0 B H B' H' : Hp} {Q : VK} {ds : List D} {vs : List V} {k : Kd} (q : ∀ B' H' v F, Step B H B' H' → ROk K H0 B' H' k (.lst ds) v F → FrF H B' F → Q v H') (hk : k = .new1) (s : Step B H B' H')
    (r : Reps K B' ds vs) : ∀ p, H' p = none → Q (.ref p) (upd H' p (.lst vs)) := fun p hp => by
  subst hk
  exact q B' _ _ [p] (s.trans (Step.own s.bh hp)) ⟨p, rfl, rfl, .inl ⟨vs, ds, rfl, upd_same, r⟩⟩ (FrF.one (s.hh.back hp) (s.bh.back hp))
theorem se_add (ha : SE C X a x) (hb : SE C X b y) : SE C X (.add a b) (.BinOp x .Add y pos) := by
  refine se_bin (op_add.or (op_add_str.or op_catS)) ha hb fun K B0 H0 B env σ H o d k Q R he q hK => ?_
  subst hK
  have he' : nw ((em (ev C a env)).bind fun x => (em (ev C b env)).bind fun y => addD x y) = some (d, k) := he
  obtain ⟨he1, hk⟩ := nw_some he'
  obtain ⟨dx, dy, h1, h2, h3⟩ := bind2_some he1
  refine two_e R h1 h2 fun B' H' u v s ru rv => ?_
  cases dx <;> cases dy <;> simp [addD] at h3
  · subst h3
    exact .inl ⟨_, _, el_int ru, el_int rv, q B' H' _ [] s (by rw [hk]; exact ⟨rfl, int_rep⟩) FrF.nil⟩
  · obtain ⟨h4, rfl⟩ := h3
    refine .inr (.inl ⟨_, _, el_str ru, el_str rv, by rw [sv_length, sv_length]; exact sizeL h4, ?_⟩)
    rw [sv_append]
    exact q B' H' _ [] s (by rw [hk]; exact ⟨rfl, str_rep⟩) FrF.nil
  · obtain ⟨h4, rfl⟩ := h3
    obtain ⟨p1, vs1, rfl, q1, r1⟩ := ru
    obtain ⟨p2, vs2, rfl, q2, r2⟩ := rv
    refine .inr (.inr ⟨p1, p2, vs1, vs2, rfl, rfl, q1, q2, by rw [r1.length, r2.length]; exact sizeL h4, ?_⟩)
    exact fin_list q hk s (r1.append r2)
theorem mulOk_of {i j : Int} (h : mulOk i j = true) : CMul i j := by
  exact (mulOk_iff i j).mp h
theorem se_mul (ha : SE C X a x) (hb : SE C X b y) : SE C X (.mul a b) (.BinOp x .Mult y pos) := by
  refine se_bin op_mul ha hb fun K B0 H0 B env σ H o d k Q R he q hK => ?_
  subst hK
  have he' : nw ((em (ev C a env)).bind fun x => (em (ev C b env)).bind fun y => match x, y with | .int i, .int j => if mulOk i j then some (.int (i * j)) else none | _, _ => none) = some (d, k) := he
  obtain ⟨he1, hk⟩ := nw_some he'
  obtain ⟨dx, dy, h1, h2, h3⟩ := bind2_some he1
  refine two_e R h1 h2 fun B' H' u v s ru rv => ?_
  cases dx <;> cases dy <;> simp at h3
  obtain ⟨h4, rfl⟩ := h3
  exact ⟨_, _, el_int ru, el_int rv, mulOk_of h4, q B' H' _ [] s (by rw [hk]; exact ⟨rfl, int_rep⟩) FrF.nil⟩
end
end Hg
end

section
set_option Elab.async false
set_option maxRecDepth 100000
set_option maxHeartbeats 4000000
/-! Snd2: comparisons, tests, subscripts, displays, arguments. -/
namespace Hg
open PySem PySem.Spec PyProof.Rows L2
variable [TB : Tabl]

/-! ### data as the library's data -/
mutual
def toPD : D → PyData
  | .non => .none
  | .bl b => .bool b
  | .int i => .int i
  | .str s => .str (sv s)
  | .tup xs => .tuple (toPDs xs)
  | .lst xs => .list (toPDs xs)
  | .dic _ => .none
def toPDs : List D → List PyData
  | [] => []
  | x :: xs => toPD x :: toPDs xs
end
theorem sv_ok {s : List Nat} (h : (s.all fun c => decide (c < 128)) = true) : PyData.strOk (sv s) = true := by
  unfold PyData.strOk sv
  rw [Array.all_eq_true']
  intro x hx
  have h1 : x ∈ s := by simpa using hx
  have h2 := of_decide_eq_true (List.all_eq_true.mp h x h1)
  exact decide_eq_true (Nat.lt_trans h2 (by decide))
mutual
theorem plain_lay : ∀ (n : Nat) (d : D), plainD n d = true → (toPD d).canLay0 = true ∧ (toPD d).depth ≤ n
  | n, .non, _ => by simp [toPD, PyData.canLay0, PyData.depth]
  | n, .bl _, _ => by simp [toPD, PyData.canLay0, PyData.depth]
  | n, .int _, _ => by simp [toPD, PyData.canLay0, PyData.depth]
  | n, .str s, h => by
    have h' : (s.all fun c => decide (c < 128)) = true := by
      cases n <;> simpa [plainD] using h
    simp [toPD, PyData.canLay0, PyData.depth, sv_ok h']
  | 0, .tup xs, h => by simp [plainD] at h
  | 0, .lst xs, h => by simp [plainD] at h
  | n + 1, .tup xs, h => by
    have h' : xs.all (plainD n) = true := by simpa [plainD] using h
    obtain ⟨h1, h2⟩ := plains_lay n xs h'
    simp only [toPD, PyData.canLay0, PyData.depth]
    exact ⟨h1, by omega⟩
  | n + 1, .lst xs, h => by
    have h' : xs.all (plainD n) = true := by simpa [plainD] using h
    obtain ⟨h1, h2⟩ := plains_lay n xs h'
    simp only [toPD, PyData.canLay0, PyData.depth]
    exact ⟨h1, by omega⟩
  | n, .dic _, h => by cases n <;> simp [plainD] at h
theorem plains_lay : ∀ (n : Nat) (ds : List D), ds.all (plainD n) = true → PyData.canLayAll0 (toPDs ds) = true ∧ PyData.depthAll (toPDs ds) ≤ n
  | n, [], _ => by simp [toPDs, PyData.canLayAll0, PyData.depthAll]
  | n, d :: ds, h => by
    rw [List.all_cons, Bool.and_eq_true] at h
    obtain ⟨h1, h2⟩ := plain_lay n d h.1
    obtain ⟨h3, h4⟩ := plains_lay n ds h.2
    simp only [toPDs, PyData.canLayAll0, PyData.depthAll, h1, h3, Bool.and_self, true_and]
    omega
end
theorem plain_shaped {d : D} (h : plainD PD d = true) : SeqAt.shaped (toPD d) = true := by
  obtain ⟨h1, h2⟩ := plain_lay PD d h
  show ((toPD d).canLay0 && decide ((toPD d).depth ≤ 64)) = true
  rw [h1, Bool.true_and]
  exact decide_eq_true (Nat.le_trans h2 (by decide))
theorem sv_beq (x y : List Nat) : (sv x == sv y) = (x == y) := by
  by_cases h : x = y
  · subst h; simp
  · have h' : ¬ sv x = sv y := fun z => h (sv_inj z)
    rw [beq_eq_false_iff_ne.mpr h, beq_eq_false_iff_ne.mpr h']
mutual
theorem eqv_D : ∀ (a b : D) (n : Nat), plainD n a = true → plainD n b = true → PyData.eqv (toPD a) (toPD b) = eqD a b
  | .non, b, n, _, hb => by cases b <;> first | rfl | (cases n <;> simp [plainD] at hb)
  | .bl _, b, n, _, hb => by cases b <;> first | rfl | (cases n <;> simp [plainD] at hb)
  | .int _, b, n, _, hb => by cases b <;> first | rfl | (cases n <;> simp [plainD] at hb)
  | .str x, b, n, _, hb => by
    cases b with
    | str y => show (sv x == sv y) = (x == y); exact sv_beq x y
    | dic _ => cases n <;> simp [plainD] at hb
    | _ => rfl
  | .tup xs, b, n, ha, hb => by
    cases n with
    | zero => simp [plainD] at ha
    | succ n =>
      cases b with
      | tup ys =>
        simp only [toPD, PyData.eqv, eqD]
        exact eqvs_D xs ys n (by simpa [plainD] using ha) (by simpa [plainD] using hb)
      | dic _ => simp [plainD] at hb
      | _ => simp [toPD, PyData.eqv, eqD]
  | .lst xs, b, n, ha, hb => by
    cases n with
    | zero => simp [plainD] at ha
    | succ n =>
      cases b with
      | lst ys =>
        simp only [toPD, PyData.eqv, eqD]
        exact eqvs_D xs ys n (by simpa [plainD] using ha) (by simpa [plainD] using hb)
      | dic _ => simp [plainD] at hb
      | _ => simp [toPD, PyData.eqv, eqD]
  | .dic _, b, n, ha, _ => by cases n <;> simp [plainD] at ha
theorem eqvs_D : ∀ (a b : List D) (n : Nat), a.all (plainD n) = true → b.all (plainD n) = true → PyData.eqvAll (toPDs a) (toPDs b) = eqDs a b
  | [], b, n, _, _ => by cases b <;> rfl
  | x :: xs, b, n, ha, hb => by
    cases b with
    | nil => rfl
    | cons y ys =>
      rw [List.all_cons, Bool.and_eq_true] at ha hb
      simp only [toPDs, PyData.eqvAll, eqDs]
      rw [eqv_D x y n ha.1 hb.1, eqvs_D xs ys n ha.2 hb.2]
end
mutual
theorem Rep.dp {K : PySem.W.Frag} {H : Hp} : ∀ (d : D) (v : V) (n : Nat), plainD n d = true → Rep K H d v → Dp K H v (toPD d)
  | .non, v, n, _, h => by rw [rep_non h]; exact .non
  | .bl _, v, n, _, h => by rw [rep_bl h]; exact .bl _
  | .int _, v, n, _, h => by rw [rep_int h]; exact .int _
  | .str _, v, n, _, h => by rw [rep_str h]; exact .str _
  | .tup xs, v, n, hp, h => by
    cases n with
    | zero => simp [plainD] at hp
    | succ n =>
      obtain ⟨a, vs, rfl, h1, h2⟩ := rep_tup h
      rw [toPD]
      exact .tup (SqT.of h1) (Reps.dp xs vs n (by simpa [plainD] using hp) h2)
  | .lst xs, v, n, hp, h => by
    cases n with
    | zero => simp [plainD] at hp
    | succ n =>
      obtain ⟨a, vs, rfl, h1, h2⟩ := rep_lst h
      rw [toPD]
      exact .lst h1 (Reps.dp xs vs n (by simpa [plainD] using hp) h2)
  | .dic _, v, n, hp, _ => by cases n <;> simp [plainD] at hp
theorem Reps.dp {K : PySem.W.Frag} {H : Hp} : ∀ (ds : List D) (vs : List V) (n : Nat), ds.all (plainD n) = true → Reps K H ds vs → DpAll K H vs (toPDs ds)
  | [], vs, n, _, h => by rw [h.nil_of]; exact .nil
  | d :: ds, vs, n, hp, h => by
    obtain ⟨v, r, rfl, h1, h2⟩ := h.cons_of
    rw [List.all_cons, Bool.and_eq_true] at hp
    exact .cons (Rep.dp d v n hp.1 h1) (Reps.dp ds r n hp.2 h2)
end
theorem any_eqv : ∀ (xs : List D) (x : D) (n : Nat), xs.all (plainD n) = true → plainD n x = true → ((toPDs xs).any fun z => PyData.eqv z (toPD x)) = xs.any fun z => eqD z x
  | [], x, n, _, _ => rfl
  | y :: ys, x, n, hp, hx => by
    rw [List.all_cons, Bool.and_eq_true] at hp
    rw [toPDs, List.any_cons, List.any_cons, any_eqv ys x n hp.2 hx, eqv_D y x n hp.1 hx]
theorem plain_mono : ∀ (n : Nat) (d : D), plainD n d = true → plainD (n + 1) d = true
  | n, .non, _ => by simp [plainD]
  | n, .bl _, _ => by simp [plainD]
  | n, .int _, _ => by simp [plainD]
  | n, .str s, h => by cases n <;> simpa [plainD] using h
  | 0, .tup xs, h => by simp [plainD] at h
  | 0, .lst xs, h => by simp [plainD] at h
  | n + 1, .tup xs, h => by
    have h' : xs.all (plainD n) = true := by simpa [plainD] using h
    show xs.all (plainD (n + 1)) = true
    exact List.all_eq_true.mpr fun x hx => plain_mono n x (List.all_eq_true.mp h' x hx)
  | n + 1, .lst xs, h => by
    have h' : xs.all (plainD n) = true := by simpa [plainD] using h
    show xs.all (plainD (n + 1)) = true
    exact List.all_eq_true.mpr fun x hx => plain_mono n x (List.all_eq_true.mp h' x hx)
  | n, .dic _, h => by cases n <;> simp [plainD] at h
theorem lexS_lt : ∀ x y : List Nat, decide (x < y) = lexS x y
  | [], [] => by simp [lexS]
  | [], _ :: _ => by simp [lexS]
  | _ :: _, [] => by simp [lexS]
  | a :: x, b :: y => by
    unfold lexS
    by_cases h : a = b
    · subst h
      rw [if_pos rfl, ← lexS_lt x y]
      exact decide_eq_decide.mpr (by simp [List.cons_lt_cons_iff])
    · rw [if_neg h]
      refine decide_eq_decide.mpr ?_
      rw [List.cons_lt_cons_iff]
      constructor
      · rintro (q | ⟨q, _⟩)
        · exact q
        · exact absurd q h
      · exact .inl

section
variable {C : Nat → List D → Option D} {X : Cx} {a b c : E} {x y z : Expr} {pos : Pos}
theorem imp_c {X : Cx} {op : CmpOp} {x y : Expr} {t u : TE} (h : PC X op x y t) (f : ∀ σ H Q, u σ H Q → t σ H Q) : PC X op x y u := ⟨fun pins s σ H Q I q => h.run pins s σ H Q I (f σ H Q q)⟩
theorem pc_op {op : CmpOp} {r : R2} {ta tb : TE} (ho : OpR X (compareOp op) r) (ha : PE X x ta) (hb : PE X y tb) : PC X op x y (tOp r ta tb) :=
  ⟨fun pins s σ H Q I h => binT ha hb I h fun v u s2 x y H2 I2 rx ry q => ho pins s2 σ H2 x y v u Q I2 rx ry q⟩
abbrev SC (C : Nat → List D → Option D) (X : Cx) (e : E) (op : CmpOp) (x y : Expr) : Prop := PC X op x y (tE C X.K e)
theorem se_pc {e : E} {op : CmpOp} (h : SC C X e op x y) (hm : behindInMarks op y = false := by first | exact nobehind _ (by decide) (by decide) | rfl) : SE C X e (.Compare x [op] [y] pos) := pe_cmp h hm
theorem se_cmp {op : CmpOp} {r : R2} (ho : OpR X (compareOp op) r) (ha : SE C X a x) (hb : SE C X b y) {e : E}
    (h : ∀ (K : PySem.W.Frag) B0 H0 B env σ H o d k (Q : VK), Rel K B0 H0 B env σ H o → ev C e env = some (d, k) → (∀ B' H' v F, Step B H B' H' → ROk K H0 B' H' k d v F → FrF H B' F → Q v H') → K = X.K →
      tE C K a σ H fun u H1 => tE C K b σ H1 fun v H2 => r u v H2 Q) : SC C X e op x y :=
  imp_c (pc_op ho ha hb) fun σ H Q ⟨B0, H0, B, env, o, d, k, R, he, q⟩ => h _ _ _ _ _ _ _ _ _ _ _ R he q rfl
theorem bm2_some {p q : Option (D × Kd)} {f : D → D → Option (D × Kd)} {d : D × Kd} (h : ((bm p).bind fun x => (bm q).bind fun y => f x y) = some d) : ∃ x y, bm p = some x ∧ bm q = some y ∧ f x y = some d := bind2_some h
theorem sc_lt (ha : SE C X a x) (hb : SE C X b y) : SC C X (.lt a b) .Lt x y := by
  refine se_cmp (op_lt.or op_lt_str) ha hb fun K B0 H0 B env σ H o d k Q R he q hK => ?_
  obtain ⟨dx, dy, h1, h2, h3⟩ := bm2_some (f := fun x y => frB (ltA x y)) he
  obtain ⟨r, h4, rfl, rfl⟩ := frB_some h3
  refine two_b R h1 h2 fun B' H' u v s ru rv => ?_
  cases dx <;> cases dy <;> simp [ltA] at h4
  · subst h4
    exact .inl ⟨_, _, rep_int ru, rep_int rv, q B' H' _ [] s ⟨rfl, bl_rep⟩ FrF.nil⟩
  · subst h4
    refine .inr ⟨_, _, rep_str ru, rep_str rv, ?_⟩
    rw [show (sv _).cps.toList = _ from rfl, show (sv _).cps.toList = _ from rfl, lexS_lt]
    exact q B' H' _ [] s ⟨rfl, bl_rep⟩ FrF.nil
theorem sc_gt (ha : SE C X a x) (hb : SE C X b y) : SC C X (.gt a b) .Gt x y := by
  refine se_cmp (op_gt.or op_gt_str) ha hb fun K B0 H0 B env σ H o d k Q R he q hK => ?_
  obtain ⟨dx, dy, h1, h2, h3⟩ := bm2_some (f := fun x y => frB (ltA y x)) he
  obtain ⟨r, h4, rfl, rfl⟩ := frB_some h3
  refine two_b R h1 h2 fun B' H' u v s ru rv => ?_
  cases dx <;> cases dy <;> simp [ltA] at h4
  · subst h4
    exact .inl ⟨_, _, rep_int ru, rep_int rv, q B' H' _ [] s ⟨rfl, bl_rep⟩ FrF.nil⟩
  · subst h4
    refine .inr ⟨_, _, rep_str ru, rep_str rv, ?_⟩
    rw [show (sv _).cps.toList = _ from rfl, show (sv _).cps.toList = _ from rfl, lexS_lt]
    exact q B' H' _ [] s ⟨rfl, bl_rep⟩ FrF.nil
theorem not_lt_dec (i j : Int) : (!decide (i < j)) = decide (j ≤ i) := by
  by_cases h : i < j
  · rw [decide_eq_true h, decide_eq_false (by omega)]; rfl
  · rw [decide_eq_false h, decide_eq_true (by omega)]; rfl
theorem sc_le (ha : SE C X a x) (hb : SE C X b y) : SC C X (.le a b) .LtE x y := by
  refine se_cmp (op_le.or op_le_str) ha hb fun K B0 H0 B env σ H o d k Q R he q hK => ?_
  obtain ⟨dx, dy, h1, h2, h3⟩ := bm2_some (f := fun x y => frB ((ltA y x).map fun r => !r)) he
  obtain ⟨r, h4, rfl, rfl⟩ := frB_some h3
  rw [Option.map_eq_some_iff] at h4
  obtain ⟨t, h4, rfl⟩ := h4
  refine two_b R h1 h2 fun B' H' u v s ru rv => ?_
  cases dx <;> cases dy <;> simp [ltA] at h4
  · subst h4
    refine .inl ⟨_, _, rep_int ru, rep_int rv, ?_⟩
    show Q (.bl (decide (_ ≤ _))) H'
    rw [← not_lt_dec]
    exact q B' H' _ [] s ⟨rfl, bl_rep⟩ FrF.nil
  · subst h4
    refine .inr ⟨_, _, rep_str ru, rep_str rv, ?_⟩
    rw [show (sv _).cps.toList = _ from rfl, show (sv _).cps.toList = _ from rfl, lexS_lt]
    exact q B' H' _ [] s ⟨rfl, bl_rep⟩ FrF.nil
theorem sc_ge (ha : SE C X a x) (hb : SE C X b y) : SC C X (.ge a b) .GtE x y := by
  refine se_cmp (op_ge.or op_ge_str) ha hb fun K B0 H0 B env σ H o d k Q R he q hK => ?_
  obtain ⟨dx, dy, h1, h2, h3⟩ := bm2_some (f := fun x y => frB ((ltA x y).map fun r => !r)) he
  obtain ⟨r, h4, rfl, rfl⟩ := frB_some h3
  rw [Option.map_eq_some_iff] at h4
  obtain ⟨t, h4, rfl⟩ := h4
  refine two_b R h1 h2 fun B' H' u v s ru rv => ?_
  cases dx <;> cases dy <;> simp [ltA] at h4
  · subst h4
    refine .inl ⟨_, _, rep_int ru, rep_int rv, ?_⟩
    show Q (.bl (decide (_ ≤ _))) H'
    rw [← not_lt_dec]
    exact q B' H' _ [] s ⟨rfl, bl_rep⟩ FrF.nil
  · subst h4
    refine .inr ⟨_, _, rep_str ru, rep_str rv, ?_⟩
    rw [show (sv _).cps.toList = _ from rfl, show (sv _).cps.toList = _ from rfl, lexS_lt]
    exact q B' H' _ [] s ⟨rfl, bl_rep⟩ FrF.nil
theorem if_some {c : Prop} [Decidable c] {α : Type} {p q : α} (h : (if c then some p else none) = some q) : c ∧ p = q := by
  by_cases hc : c
  · rw [if_pos hc] at h; exact ⟨hc, Option.some.inj h⟩
  · rw [if_neg hc] at h; cases h
theorem sc_eq (G : Gd X) (ha : SE C X a x) (hb : SE C X b y) : SC C X (.eq a b) .Eq x y := by
  refine se_cmp (op_eqD (by have := G.un; omega)) ha hb fun K B0 H0 B env σ H o d k Q R he q hK => ?_
  subst hK
  obtain ⟨dx, dy, h1, h2, h3⟩ := bm2_some (f := fun x y => if plainD PD x ∧ plainD PD y then some (.bl (eqD x y), .frz) else none) he
  obtain ⟨⟨p1, p2⟩, h4⟩ := if_some h3
  cases h4
  refine two_b R h1 h2 fun B' H' u v s ru rv => ?_
  refine ⟨_, _, Rep.dp dx u PD p1 ru, Rep.dp dy v PD p2 rv, plain_shaped p1, plain_shaped p2, ?_⟩
  rw [eqv_D dx dy PD p1 p2]
  exact q B' H' _ [] s ⟨rfl, bl_rep⟩ FrF.nil
theorem sc_ne (G : Gd X) (ha : SE C X a x) (hb : SE C X b y) : SC C X (.ne a b) .NotEq x y := by
  refine se_cmp (op_neD (by have := G.un; omega)) ha hb fun K B0 H0 B env σ H o d k Q R he q hK => ?_
  subst hK
  obtain ⟨dx, dy, h1, h2, h3⟩ := bm2_some (f := fun x y => if plainD PD x ∧ plainD PD y then some (.bl (!eqD x y), .frz) else none) he
  obtain ⟨⟨p1, p2⟩, h4⟩ := if_some h3
  cases h4
  refine two_b R h1 h2 fun B' H' u v s ru rv => ?_
  refine ⟨_, _, Rep.dp dx u PD p1 ru, Rep.dp dy v PD p2 rv, plain_shaped p1, plain_shaped p2, ?_⟩
  rw [eqv_D dx dy PD p1 p2]
  exact q B' H' _ [] s ⟨rfl, bl_rep⟩ FrF.nil
theorem rep_isN {K : PySem.W.Frag} {H : Hp} {d : D} {v : V} (r : Rep K H d v) : decide (v = .non) = d.isNon := by
  cases d with
  | non => rw [rep_non r]; rfl
  | bl _ => rw [rep_bl r]; rfl
  | int _ => rw [rep_int r]; rfl
  | str _ => rw [rep_str r]; rfl
  | tup _ => obtain ⟨a, vs, rfl, _⟩ := rep_tup r; rfl
  | lst _ => obtain ⟨a, vs, rfl, _⟩ := rep_lst r; rfl
  | dic _ => obtain ⟨a, vs, rfl, _⟩ := rep_dic r; rfl
theorem sc_isN {j pos'} (ha : SE C X a x) : SC C X (.isN a) .Is x (.Constant .none j pos') := by
  refine imp_c (pc_isN ha) fun σ H Q h => ?_
  obtain ⟨B0, H0, B, env, o, d, k, R, he, q⟩ := h
  have he' : ((bm (ev C a env)).bind fun x => some ((D.bl x.isNon, Kd.frz) : D × Kd)) = some (d, k) := he
  rw [Option.bind_eq_some_iff] at he'
  obtain ⟨dx, h1, h2⟩ := he'
  cases h2
  refine use_b R h1 fun B' H' u s ru => ?_
  rw [rep_isN ru]
  exact q B' H' _ [] s ⟨rfl, bl_rep⟩ FrF.nil
theorem sc_notN {j pos'} (ha : SE C X a x) : SC C X (.notN a) .IsNot x (.Constant .none j pos') := by
  refine imp_c (pc_notN ha) fun σ H Q h => ?_
  obtain ⟨B0, H0, B, env, o, d, k, R, he, q⟩ := h
  have he' : ((bm (ev C a env)).bind fun x => some ((D.bl (!x.isNon), Kd.frz) : D × Kd)) = some (d, k) := he
  rw [Option.bind_eq_some_iff] at he'
  obtain ⟨dx, h1, h2⟩ := he'
  cases h2
  refine use_b R h1 fun B' H' u s ru => ?_
  show Q (.bl (!decide (u = .non))) H'
  rw [rep_isN ru]
  exact q B' H' _ [] s ⟨rfl, bl_rep⟩ FrF.nil
/-! ### and, or, not as values -/
theorem se_one {op} (ha : SE C X a x) : SE C X (.one a) (.BoolOp op [x] pos) := imp_e (pe_one ha) fun σ H Q h => h
theorem se_and {r : List Expr} (ha : SE C X a x) (hb : SE C X b (.BoolOp .And (y :: r) pos)) : SE C X (.and_ a b) (.BoolOp .And (x :: y :: r) pos) := by
  refine imp_e (pe_and ha hb) fun σ H Q h => ?_
  obtain ⟨B0, H0, B, env, o, d, k, R, he, q⟩ := h
  have he' : ((bm (ev C a env)).bind fun x => (asBl x).bind fun p => if p then ((bm (ev C b env)).bind fun y => (asBl y).bind fun q => some (.bl q, .frz)) else some ((.bl false, .frz) : D × Kd)) = some (d, k) := he
  rw [Option.bind_eq_some_iff] at he'
  obtain ⟨dx, h1, h2⟩ := he'
  rw [Option.bind_eq_some_iff] at h2
  obtain ⟨p, h2, h3⟩ := h2
  obtain rfl := asBl_some h2
  refine use_b R h1 fun B' H' u s ru => ⟨p, rep_bl ru, ?_⟩
  cases p with
  | false =>
    cases h3
    show Q (.bl false) H'
    exact q B' H' _ [] s ⟨rfl, bl_rep⟩ FrF.nil
  | true =>
    have h3' : ((bm (ev C b env)).bind fun y => (asBl y).bind fun q => some ((.bl q, .frz) : D × Kd)) = some (d, k) := h3
    rw [Option.bind_eq_some_iff] at h3'
    obtain ⟨dy, h4, h5⟩ := h3'
    rw [Option.bind_eq_some_iff] at h5
    obtain ⟨p', h5, h6⟩ := h5
    obtain rfl := asBl_some h5
    cases h6
    show tE C X.K b σ H' Q
    refine use_b (R.step s) h4 fun B2 H2 v s2 rv => ?_
    rw [rep_bl rv]
    exact q B2 H2 _ [] (s.trans s2) ⟨rfl, bl_rep⟩ FrF.nil
theorem se_or {r : List Expr} (ha : SE C X a x) (hb : SE C X b (.BoolOp .Or (y :: r) pos)) : SE C X (.or_ a b) (.BoolOp .Or (x :: y :: r) pos) := by
  refine imp_e (pe_or ha hb) fun σ H Q h => ?_
  obtain ⟨B0, H0, B, env, o, d, k, R, he, q⟩ := h
  have he' : ((bm (ev C a env)).bind fun x => (asBl x).bind fun p => if p then some ((.bl true, .frz) : D × Kd) else ((bm (ev C b env)).bind fun y => (asBl y).bind fun q => some (.bl q, .frz))) = some (d, k) := he
  rw [Option.bind_eq_some_iff] at he'
  obtain ⟨dx, h1, h2⟩ := he'
  rw [Option.bind_eq_some_iff] at h2
  obtain ⟨p, h2, h3⟩ := h2
  obtain rfl := asBl_some h2
  refine use_b R h1 fun B' H' u s ru => ⟨p, rep_bl ru, ?_⟩
  cases p with
  | true =>
    cases h3
    show Q (.bl true) H'
    exact q B' H' _ [] s ⟨rfl, bl_rep⟩ FrF.nil
  | false =>
    have h3' : ((bm (ev C b env)).bind fun y => (asBl y).bind fun q => some ((.bl q, .frz) : D × Kd)) = some (d, k) := h3
    rw [Option.bind_eq_some_iff] at h3'
    obtain ⟨dy, h4, h5⟩ := h3'
    rw [Option.bind_eq_some_iff] at h5
    obtain ⟨p', h5, h6⟩ := h5
    obtain rfl := asBl_some h5
    cases h6
    show tE C X.K b σ H' Q
    refine use_b (R.step s) h4 fun B2 H2 v s2 rv => ?_
    rw [rep_bl rv]
    exact q B2 H2 _ [] (s.trans s2) ⟨rfl, bl_rep⟩ FrF.nil
theorem se_not (ha : SE C X a x) : SE C X (.not_ a) (.UnaryOp .Not x pos) := by
  refine imp_e (pe_not ha) fun σ H Q h => ?_
  obtain ⟨B0, H0, B, env, o, d, k, R, he, q⟩ := h
  have he' : ((bm (ev C a env)).bind fun x => (asBl x).bind fun p => some ((.bl (!p), .frz) : D × Kd)) = some (d, k) := he
  rw [Option.bind_eq_some_iff] at he'
  obtain ⟨dx, h1, h2⟩ := he'
  rw [Option.bind_eq_some_iff] at h2
  obtain ⟨p, h2, h3⟩ := h2
  obtain rfl := asBl_some h2
  cases h3
  exact use_b R h1 fun B' H' u s ru => ⟨p, rep_bl ru, q B' H' _ [] s ⟨rfl, bl_rep⟩ FrF.nil⟩

/-! ### tests -/
variable {t t' : T}
theorem bind1_some {α β : Type} {p : Option α} {f : α → Option β} {r : β} (h : p.bind f = some r) : ∃ x, p = some x ∧ f x = some r := Option.bind_eq_some_iff.mp h
theorem use_t {K : PySem.W.Frag} {B0 H0 B H : Hp} {env : Env} {σ : L2.St} {o : Addr → Option Nat} {b : Bool} {Q : Bool → Hp → Prop} (R : Rel K B0 H0 B env σ H o) (h : evT C t env = some b) (q : ∀ B' H', Step B H B' H' → Q b H') : tT C K t σ H Q := ⟨B0, H0, B, env, o, b, R, h, q⟩
theorem st_val (ha : SE C X a x) (he : ∀ whole, isTrue x X.env whole = (do let v ← whole; standAt x.pos; holding [v] (truthy v)) := by intro _; rfl) : ST C X (.val a) x := by
  refine imp_t (pt_val ha he) fun σ H Q h => ?_
  obtain ⟨B0, H0, B, env, o, b, R, he, q⟩ := h
  obtain ⟨dx, h1, h2⟩ := bind1_some (show (bm (ev C a env)).bind asBl = some b from he)
  obtain rfl := asBl_some h2
  exact use_b R h1 fun B' H' u s ru => ⟨b, rep_bl ru, q B' H' s⟩
/-- a comparison as a test -/
theorem st_pc {e : E} {op : CmpOp} (h : SC C X e op x y) (hm : behindInMarks op y = false := by first | exact nobehind _ (by decide) (by decide) | rfl) : ST C X (.val e) (.Compare x [op] [y] pos) := by
  refine imp_t (pt_cmp h hm) fun σ H Q h => ?_
  obtain ⟨B0, H0, B, env, o, b, R, he, q⟩ := h
  obtain ⟨dx, h1, h2⟩ := bind1_some (show (bm (ev C e env)).bind asBl = some b from he)
  obtain rfl := asBl_some h2
  exact use_b R h1 fun B' H' u s ru => ⟨b, rep_bl ru, q B' H' s⟩
theorem emp_len {α β : Type} {l : List α} {m : List β} (h : l.length = m.length) : (!m.isEmpty) = !l.isEmpty := by
  cases l <;> cases m <;> simp at h ⊢
theorem rep_tru {K : PySem.W.Frag} {H : Hp} {d : D} {v : V} {b : Bool} (r : Rep K H d v) (h : truD d = some b) (hl : ∀ s, d = .str s → s.length ≤ L) : TruV K v H b := by
  cases d with
  | non => rw [rep_non r]; exact (Option.some.inj h).symm
  | bl _ => rw [rep_bl r]; exact (Option.some.inj h).symm
  | int _ => rw [rep_int r]; exact (Option.some.inj h).symm
  | str s =>
    rw [rep_str r]
    refine ⟨by rw [sv_length]; exact sizeL (hl s rfl), ?_⟩
    have h' : (!s.isEmpty) = b := Option.some.inj h
    rw [← h', sv_length]
    cases s <;> rfl
  | tup _ =>
    obtain ⟨a, vs, rfl, h1, h2⟩ := rep_tup r
    have h' := Option.some.inj h
    refine .inr (.inl ⟨vs, SqT.of h1, ?_⟩)
    rw [← h']
    exact emp_len h2.length
  | lst _ =>
    obtain ⟨a, vs, rfl, h1, h2⟩ := rep_lst r
    have h' := Option.some.inj h
    refine .inl ⟨vs, h1, ?_⟩
    rw [← h']
    exact emp_len h2.length
  | dic _ =>
    obtain ⟨a, vs, rfl, h1, h2⟩ := rep_dic r
    have h' := Option.some.inj h
    refine .inr (.inr ⟨vs, h1, ?_⟩)
    rw [← h']
    exact emp_len h2.length
theorem st_tru (ha : SE C X a x) (he : ∀ whole, isTrue x X.env whole = (do let v ← whole; standAt x.pos; holding [v] (truthy v)) := by intro _; rfl) : ST C X (.tru a) x := by
  refine imp_t (pt_truth ha he) fun σ H Q h => ?_
  obtain ⟨B0, H0, B, env, o, b, R, he, q⟩ := h
  obtain ⟨dx, h1, h2⟩ := bind1_some (show (bm (ev C a env)).bind truL = some b from he)
  have h3 : truD dx = some b ∧ ∀ s, dx = .str s → s.length ≤ L := by
    cases dx <;> first | exact ⟨h2, fun _ z => nomatch z⟩ | skip
    rename_i s
    obtain ⟨hl, h4⟩ := if_some (show (if s.length ≤ L then some (!s.isEmpty) else none) = some b from h2)
    exact ⟨by rw [truD, h4], fun _ z => by cases z; exact hl⟩
  exact use_b R h1 fun B' H' u s ru => ⟨b, rep_tru ru h3.1 h3.2, q B' H' s⟩
theorem st_w (h : SW C X t x) : ST C X t x := PW.pt h
theorem sw_one_and (ha : ST C X t x) : SW C X (.one t) (.BoolOp .And [x] pos) := imp_w (pw_and1 ha) fun σ H Q h => h
theorem sw_one_or (ha : ST C X t x) : SW C X (.one t) (.BoolOp .Or [x] pos) := imp_w (pw_or1 ha) fun σ H Q h => h
theorem sw_and {r : List Expr} (ha : ST C X t x) (hb : SW C X t' (.BoolOp .And (y :: r) pos)) : SW C X (.and_ t t') (.BoolOp .And (x :: y :: r) pos) := by
  refine imp_w (pw_and ha hb) fun σ H Q h => ?_
  obtain ⟨B0, H0, B, env, o, b, R, he, q⟩ := h
  obtain ⟨p, h1, h2⟩ := bind1_some (show ((evT C t env).bind fun p => if p then evT C t' env else some false) = some b from he)
  refine use_t R h1 fun B' H' s => ?_
  cases p with
  | true => exact use_t (R.step s) h2 fun B2 H2 s2 => q B2 H2 (s.trans s2)
  | false =>
    cases h2
    exact q B' H' s
theorem sw_or {r : List Expr} (ha : ST C X t x) (hb : SW C X t' (.BoolOp .Or (y :: r) pos)) : SW C X (.or_ t t') (.BoolOp .Or (x :: y :: r) pos) := by
  refine imp_w (pw_or ha hb) fun σ H Q h => ?_
  obtain ⟨B0, H0, B, env, o, b, R, he, q⟩ := h
  obtain ⟨p, h1, h2⟩ := bind1_some (show ((evT C t env).bind fun p => if p then some true else evT C t' env) = some b from he)
  refine use_t R h1 fun B' H' s => ?_
  cases p with
  | false => exact use_t (R.step s) h2 fun B2 H2 s2 => q B2 H2 (s.trans s2)
  | true =>
    cases h2
    exact q B' H' s
theorem st_not (ha : ST C X t x) : ST C X (.not_ t) (.UnaryOp .Not x pos) := by
  refine imp_t (pt_not ha) fun σ H Q h => ?_
  obtain ⟨B0, H0, B, env, o, b, R, he, q⟩ := h
  have he' : (evT C t env).map (fun p => !p) = some b := he
  rw [Option.map_eq_some_iff] at he'
  obtain ⟨p, h1, h2⟩ := he'
  subst h2
  exact use_t R h1 fun B' H' s => q B' H' s
theorem se_ite (ht : ST C X t z) (ha : SE C X a x) (hb : SE C X b y) : SE C X (.ite t a b) (.IfExp z x y pos) := by
  refine imp_e (pe_ifExp ht ha hb) fun σ H Q h => ?_
  obtain ⟨B0, H0, B, env, o, d, k, R, he, q⟩ := h
  obtain ⟨p, h1, h2⟩ := bind1_some (show ((evT C t env).bind fun p => if p then fr (vm (ev C a env)) else fr (vm (ev C b env))) = some (d, k) from he)
  refine use_t R h1 fun B' H' s => ?_
  cases p with
  | true =>
    obtain ⟨h3, rfl⟩ := fr_some (show fr (vm (ev C a env)) = some (d, k) from h2)
    exact use_v (R.step s) h3 fun B2 H2 v s2 r => q B2 H2 v [] (s.trans s2) ⟨rfl, r⟩ FrF.nil
  | false =>
    obtain ⟨h3, rfl⟩ := fr_some (show fr (vm (ev C b env)) = some (d, k) from h2)
    exact use_v (R.step s) h3 fun B2 H2 v s2 r => q B2 H2 v [] (s.trans s2) ⟨rfl, r⟩ FrF.nil
end
end Hg
end

section
set_option Elab.async false
set_option maxRecDepth 100000
set_option maxHeartbeats 4000000
/-! Snd3: subscripts, slices, displays, arguments, built-in functions. -/
namespace Hg
open PySem PySem.Spec PyProof.Rows L2
variable [TB : Tabl]

section
variable {C : Nat → List D → Option D} {X : Cx} {a b c : E} {x y z : Expr} {pos p pos1 : Pos} {n : Str}
/-! ### subscripts -/
theorem ixN_eq (n : Nat) (i : Int) : L2.ixN n i = Hg.ixN n i := rfl
theorem reps_at {K : PySem.W.Frag} {B : Hp} {ds : List D} {vs : List V} {i : Int} {d : D} (r : Reps K B ds vs) (h : getIx ds i = some d) : ∃ v, atI vs i = some v ∧ Rep K B d v := by
  unfold getIx at h
  obtain ⟨j, h1, h2⟩ := Option.bind_eq_some_iff.mp h
  obtain ⟨v, h3, h4⟩ := r.get h2
  refine ⟨v, ?_, h4⟩
  unfold atI
  rw [r.length, ixN_eq, h1]
  exact h3
theorem ownl_at {K : PySem.W.Frag} {B H : Hp} : ∀ {vs : List V} {ds : List D} {F : List Addr} {j : Nat} {d : D}, OwnL (Own1 K B H) vs ds F → ds[j]? = some d → ∃ v G, vs[j]? = some v ∧ Own1 K B H v d G ∧ ∀ a ∈ G, a ∈ F
  | [], [], F, j, d, h, e => by simp at e
  | v :: vs, d' :: ds, F, 0, d, h, e => by
    obtain ⟨F1, F2, rfl, h1, h2⟩ := h
    have e' : d' = d := by simpa using e
    subst e'
    exact ⟨v, F1, rfl, h1, fun a ha => List.mem_append_left _ ha⟩
  | v :: vs, d' :: ds, F, j + 1, d, h, e => by
    obtain ⟨F1, F2, rfl, h1, h2⟩ := h
    obtain ⟨u, G, q1, q2, q3⟩ := ownl_at (j := j) (d := d) h2 (by simpa using e)
    exact ⟨u, G, by simpa using q1, q2, fun a ha => List.mem_append_right _ (q3 a ha)⟩
  | [], _ :: _, F, j, d, h, e => h.elim
  | _ :: _, [], F, j, d, h, e => h.elim
theorem OwnL.length {K : PySem.W.Frag} {B H : Hp} : ∀ {vs : List V} {ds : List D} {F : List Addr}, OwnL (Own1 K B H) vs ds F → vs.length = ds.length
  | [], [], F, h => rfl
  | v :: vs, d' :: ds, F, h => by
    obtain ⟨F1, F2, rfl, h1, h2⟩ := h
    rw [List.length_cons, List.length_cons, h2.length]
  | [], _ :: _, F, h => h.elim
  | _ :: _, [], F, h => h.elim
/-- a subscript by one of two rules -/
def tOr2 (t u : TE) : TE := fun σ H Q => t σ H Q ∨ u σ H Q
theorem pe_or2 {t u : TE} (h : PE X x t) (h' : PE X x u) : PE X x (tOr2 t u) := ⟨fun pins s σ H Q I q => q.elim (h.run pins s σ H Q I) (h'.run pins s σ H Q I)⟩

theorem give_rep {K : PySem.W.Frag} {H0 B H B' H' : Hp} {k : Kd} {v : V} {F : List Addr} {d : D} (s : Step B H B' H') (hk : k = .frz ∨ k = .new1 ∨ k = .new2) (r : ROk K H0 B' H' k d v F) (f : FrF H B' F) : ∃ B2, Step B H B2 H' ∧ Rep K B2 d v := by
  rcases hk with rfl | rfl | rfl
  · exact ⟨B', s, r.2⟩
  · exact ⟨_, s.give f, Own1.give r f.b fun a h => h⟩
  · exact ⟨_, s.give f, Own2.give r f.b fun a h => h⟩
theorem subK_of {k : Kd} (hk : k = .frz ∨ k = .new1 ∨ k = .new2) : subK k = .frz := by rcases hk with rfl | rfl | rfl <;> rfl
theorem kd_split (k : Kd) : (k = .frz ∨ k = .new1 ∨ k = .new2) ∨ k = .own1 ∨ k = .own2 ∨ k = .lent := by cases k <;> simp
theorem se_ix (G : Gd X) (ha : SE C X a x) (hb : SE C X b y) (hs : PlainIx y := by exact fun _ _ => rfl) (hn : NoSl y := by exact fun _ _ => rfl) : SE C X (.ix a b) (.Subscript x y pos) := by
  refine imp_e (pe_or2 (pe_ix ix_seq ha hb hs) (pe_dget (by have := G.un; omega) ha hb hn)) fun σ H Q h => ?_
  obtain ⟨B0, H0, B, env, o, d, k, R, he, q⟩ := h
  obtain ⟨⟨da, ka⟩, h1, h2⟩ := bind1_some (show ((ev C a env).bind fun p => (bm (ev C b env)).bind fun y => match p.1 with
      | .lst xs => (asInt y).bind fun i => (getIx xs i).map fun d => (d, subK p.2)
      | .tup xs => (asInt y).bind fun i => (getIx xs i).map fun d => (d, subK p.2)
      | .dic kvs => (keyD y).bind fun k => (look kvs k).map fun d => (d, subK p.2)
      | .str s => (asInt y).bind fun i => if s.length ≤ L then (getIx s i).map fun d => (.str [d], .frz) else none
      | _ => none) = some (d, k) from he)
  obtain ⟨dy, h3, h4⟩ := bind1_some h2
  -- what is shown of the first part, for the second
  have go : ∀ (Q' : V → V → Hp → Prop), (∀ B' H' u v F, Step B H B' H' → ROk X.K H0 B' H' ka da u F → FrF H B' F → Rep X.K H' dy v → Q' u v H') → tE C X.K a σ H fun u H1 => tE C X.K b σ H1 fun v H2 => Q' u v H2 := fun Q' q' =>
    ⟨B0, H0, B, env, o, da, ka, R, h1, fun B1 H1 u F s1 r1 f1 => use_b (R.step s1) h3 fun B2 H2 v s2 r2 => by
      have hn : ∀ a ∈ F, B2 a = none := fun a ha => by
        cases q : B2 a with
        | none => rfl
        | some w =>
          have := s2.nw a (by rw [q]; exact fun z => nomatch z)
          rcases this with z | z
          · exact absurd (f1.b a ha) z
          · refine absurd z ?_
            cases ka with
            | frz => rw [r1.1] at ha; simp at ha
            | lent => rw [r1.1] at ha; simp at ha
            | own1 => rw [r1.1] at ha; simp at ha
            | own2 => rw [r1.1] at ha; simp at ha
            | new1 => exact Own1.there r1 a ha
            | new2 => exact Own2.there r1 a ha
      refine q' B2 H2 u v F (s1.trans s2) ?_ ⟨f1.nd, f1.h, hn⟩ r2
      cases ka with
      | frz => exact ⟨r1.1, Rep.mono s2.bb _ _ r1.2⟩
      | lent => exact r1
      | own1 => obtain ⟨z, G, r⟩ := r1; exact ⟨z, G, r.mono s2.bb s2.hh⟩
      | own2 => obtain ⟨z, G, r⟩ := r1; exact ⟨z, G, r.mono s2.bb s2.hh⟩
      | new1 => exact Own1.mono r1 s2.bb s2.hh
      | new2 => exact Own2.mono r1 s2.bb s2.hh⟩
  cases da with
  | non => simp at h4
  | bl _ => simp at h4
  | int _ => simp at h4
  | str s =>
    simp only at h4
    obtain ⟨i, h5, h6⟩ := bind1_some h4
    obtain rfl := asInt_some h5
    by_cases hl : s.length ≤ L
    · rw [if_pos hl, Option.map_eq_some_iff] at h6
      obtain ⟨ch, h7, h8⟩ := h6
      cases h8
      refine .inl (go _ fun B' H' u v F s1 r f rv => .inr (.inr ⟨sv s, i, ch, rep_str (r.rep s1.bh (R.h0.trans s1.hh)), rep_int rv, by rw [sv_length]; exact sizeL hl, ?_, ?_⟩))
      · exact (show atI s i = some ch from h7)
      · exact q B' H' _ [] s1 ⟨rfl, str_rep⟩ FrF.nil
    · rw [if_neg hl] at h6
      cases h6
  | tup ds =>
    simp only at h4
    obtain ⟨i, h5, h6⟩ := bind1_some h4
    obtain rfl := asInt_some h5
    rw [Option.map_eq_some_iff] at h6
    obtain ⟨dd, h7, h8⟩ := h6
    cases h8
    refine .inl (go _ fun B' H' u v F s1 r f rv => .inr (.inl ?_))
    rcases kd_split ka with hk | rfl | rfl | rfl
    · obtain ⟨B2, s2, r2⟩ := give_rep s1 hk r f
      obtain ⟨p, vs, rfl, q1, q2⟩ := rep_tup r2
      obtain ⟨w, q3, q4⟩ := reps_at q2 h7
      refine ⟨p, vs, i, w, rfl, rep_int rv, SqT.of (s2.bh.at q1 nt_tup), q3, q B2 H' w [] s2 ?_ FrF.nil⟩
      rw [subK_of hk]
      exact ⟨rfl, q4⟩
    · obtain ⟨_, G, a', rfl, rfl, z⟩ := r
      rcases z with ⟨_, _, z, _⟩ | ⟨_, _, z, _⟩ <;> cases z
    · obtain ⟨_, G, a', _, _, _, _, _, z, _⟩ := r
      cases z
    · obtain ⟨p, vs, rfl, q1, q2⟩ := rep_tup r.2
      obtain ⟨w, q3, q4⟩ := reps_at q2 h7
      exact ⟨p, vs, i, w, rfl, rep_int rv, SqT.of ((R.h0.trans s1.hh).at q1 nt_tup), q3, q B' H' w [] s1 ⟨rfl, q4⟩ FrF.nil⟩
  | lst ds =>
    simp only at h4
    obtain ⟨i, h5, h6⟩ := bind1_some h4
    obtain rfl := asInt_some h5
    rw [Option.map_eq_some_iff] at h6
    obtain ⟨dd, h7, h8⟩ := h6
    cases h8
    refine .inl (go _ fun B' H' u v F s1 r f rv => .inl ?_)
    rcases kd_split ka with hk | rfl | rfl | rfl
    · obtain ⟨B2, s2, r2⟩ := give_rep s1 hk r f
      obtain ⟨p, vs, rfl, q1, q2⟩ := rep_lst r2
      obtain ⟨w, q3, q4⟩ := reps_at q2 h7
      refine ⟨p, vs, i, w, rfl, rep_int rv, s2.bh.sq q1, q3, q B2 H' w [] s2 ?_ FrF.nil⟩
      rw [subK_of hk]
      exact ⟨rfl, q4⟩
    · obtain ⟨_, G, a', rfl, rfl, z⟩ := r
      rcases z with ⟨vs, ds', z, q1, q2⟩ | ⟨_, _, z, _⟩
      · cases z
        obtain ⟨w, q3, q4⟩ := reps_at q2 h7
        exact ⟨a', vs, i, w, rfl, rep_int rv, SqL.of q1, q3, q B' H' w [] s1 ⟨rfl, q4⟩ FrF.nil⟩
      · cases z
    · obtain ⟨_, G, a', F', vs, ds', rfl, _, z, q1, q2⟩ := r
      cases z
      unfold getIx at h7
      obtain ⟨j, hj, hd⟩ := Option.bind_eq_some_iff.mp h7
      obtain ⟨w, G', q3, q4, _⟩ := ownl_at q2 hd
      refine ⟨a', vs, i, w, rfl, rep_int rv, SqL.of q1, ?_, q B' H' w [] s1 ⟨rfl, G', q4⟩ FrF.nil⟩
      unfold atI
      rw [q2.length, ixN_eq, hj]
      exact q3
    · obtain ⟨p, vs, rfl, q1, q2⟩ := rep_lst r.2
      obtain ⟨w, q3, q4⟩ := reps_at q2 h7
      exact ⟨p, vs, i, w, rfl, rep_int rv, (R.h0.trans s1.hh).sq q1, q3, q B' H' w [] s1 ⟨rfl, q4⟩ FrF.nil⟩
  | dic ds =>
    simp only at h4
    obtain ⟨kk, h5, h6⟩ := bind1_some h4
    rw [Option.map_eq_some_iff] at h6
    obtain ⟨dd, h7, h8⟩ := h6
    cases h8
    refine .inr (go _ fun B' H' u v F s1 r f rv => ?_)
    rcases kd_split ka with hk | rfl | rfl | rfl
    · obtain ⟨B2, s2, r2⟩ := give_rep s1 hk r f
      obtain ⟨p, vs, rfl, q1, q2⟩ := rep_dic r2
      obtain ⟨w, q3, q4⟩ := q2.look_some h7
      refine ⟨p, w, rfl, ?_, q B2 H' w [] s2 ?_ FrF.nil⟩
      · rw [kV_ky h5 rv, ← q3]
        exact DGet.k (s2.bh.at q1 nt_dK)
      · rw [subK_of hk]
        exact ⟨rfl, q4⟩
    · obtain ⟨_, G, a', rfl, rfl, z⟩ := r
      rcases z with ⟨_, _, z, _⟩ | ⟨vs, ds', z, q1, q2⟩
      · cases z
      · cases z
        obtain ⟨w, q3, q4⟩ := q2.look_some h7
        refine ⟨a', w, rfl, ?_, q B' H' w [] s1 ⟨rfl, q4⟩ FrF.nil⟩
        rw [kV_ky h5 rv, ← q3]
        exact DGet.k q1
    · obtain ⟨_, G, a', F', vs, ds', rfl, _, z, q1, q2⟩ := r
      cases z
    · obtain ⟨p, vs, rfl, q1, q2⟩ := rep_dic r.2
      obtain ⟨w, q3, q4⟩ := q2.look_some h7
      refine ⟨p, w, rfl, ?_, q B' H' w [] s1 ⟨rfl, q4⟩ FrF.nil⟩
      rw [kV_ky h5 rv, ← q3]
      exact DGet.k ((R.h0.trans s1.hh).at q1 nt_dK)

/-! ### slices -/
def tO (C : Nat → List D → Option D) (K : PySem.W.Frag) (e : O) : TO := fun σ H Q => ∃ B0 H0 B env o r, Rel K B0 H0 B env σ H o ∧ evO C e env = some r ∧ ∀ B' H', Step B H B' H' → Q r H'
abbrev SO (C : Nat → List D → Option D) (X : Cx) (e : O) (x : Option Expr) : Prop := PO X x (tO C X.K e)
theorem imp_o {x : Option Expr} {t u : TO} (h : PO X x t) (f : ∀ σ H Q, u σ H Q → t σ H Q) : PO X x u := ⟨fun pins s σ H Q I q => h.run pins s σ H Q I (f σ H Q q)⟩
theorem so_no : SO C X .no none := imp_o po_none fun σ H Q ⟨B0, H0, B, env, o, r, R, he, q⟩ => by
  cases (show some (none : Option Int) = some r from he)
  exact q B H (Step.refl R.bh)
theorem so_so (ha : SE C X a x) : SO C X (.so a) (some x) := imp_o (po_some ha) fun σ H Q ⟨B0, H0, B, env, o, r, R, he, q⟩ => by
  obtain ⟨d, h1, h2⟩ := bind1_some (show ((bm (ev C a env)).bind fun x => (asInt x).map some) = some r from he)
  rw [Option.map_eq_some_iff] at h2
  obtain ⟨i, h2, rfl⟩ := h2
  obtain rfl := asInt_some h2
  exact use_b R h1 fun B' H' u s ru => ⟨i, rep_int ru, q B' H' s⟩
theorem use_o {K : PySem.W.Frag} {B0 H0 B H : Hp} {env : Env} {σ : L2.St} {o : Addr → Option Nat} {b : O} {r : Option Int} {Q : Option Int → Hp → Prop} (R : Rel K B0 H0 B env σ H o) (h : evO C b env = some r) (q : ∀ B' H', Step B H B' H' → Q r H') : tO C K b σ H Q := ⟨B0, H0, B, env, o, r, R, h, q⟩
theorem cutIx_eq (n d : Nat) (o : Option Int) : HT.sIx n d o = cutIx n d o := by cases o <;> rfl
theorem reps_cut {K : PySem.W.Frag} {B : Hp} {ds : List D} {vs : List V} (lo hi : Option Int) (r : Reps K B ds vs) : Reps K B (cut ds lo hi) (cutV vs lo hi) := by
  unfold cut cutV
  rw [r.length, cutIx_eq, cutIx_eq]
  exact (r.drop _).take _
theorem sv_cut (s : List Nat) (lo hi : Option Int) : cutS (sv s) lo hi = sv (cut s lo hi) := by
  unfold cutS cut
  rw [sv_length, cutIx_eq, cutIx_eq]
  rfl
variable {lo hi : O} {xl xh : Option Expr} {p2 : Pos}
theorem se_sl (ha : SE C X a x) (hl : SO C X lo xl) (hh : SO C X hi xh) : SE C X (.sl a lo hi) (.Subscript x (.Slice xl xh none p2) pos) := by
  refine imp_e (pe_slice (sl_list.or sl_str) ha hl hh) fun σ H Q h => ?_
  obtain ⟨B0, H0, B, env, o, d, k, R, he, q⟩ := h
  obtain ⟨da, h1, h2⟩ := bind1_some (show ((em (ev C a env)).bind fun x => (evO C lo env).bind fun l => (evO C hi env).bind fun h => match x with
      | .lst xs => some (.lst (cut xs l h), .new1)
      | .str s => if s.length ≤ L then some (.str (cut s l h), .frz) else none
      | _ => none) = some (d, k) from he)
  obtain ⟨l, h3, h4⟩ := bind1_some h2
  obtain ⟨g, h5, h6⟩ := bind1_some h4
  refine use_e R h1 fun B1 H1 u s1 ru => use_o (R.step s1) h3 fun B2 H2 s2 => use_o ((R.step s1).step s2) h5 fun B3 H3 s3 => ?_
  have s := (s1.trans s2).trans s3
  have ru3 := (ru.mono s2.bb s2.hh).mono s3.bb s3.hh
  cases da <;> simp only [reduceCtorEq] at h6
  · obtain ⟨hz, h7⟩ := if_some h6
    cases h7
    refine .inr ⟨_, el_str ru3, by rw [sv_length]; exact sizeL hz, ?_⟩
    rw [sv_cut]
    exact q B3 H3 _ [] s ⟨rfl, str_rep⟩ FrF.nil
  · cases h6
    obtain ⟨p1, vs, rfl, q1, r1⟩ := ru3
    exact .inl ⟨p1, vs, rfl, q1, fin_list q rfl s (reps_cut l g r1)⟩

/-! ### arguments and displays -/
variable {es : Es} {xs : List Expr}
theorem sa_nil : SA C X .nil [] := imp_a pa_nil fun σ H Q ⟨B0, H0, B, env, o, ds, R, he, q⟩ => by
  cases (show some ([] : List D) = some ds from he)
  exact q B H [] (Step.refl R.bh) reps_nil
theorem use_a {K : PySem.W.Frag} {B0 H0 B H : Hp} {env : Env} {σ : L2.St} {o : Addr → Option Nat} {ds : List D} {Q : List V → Hp → Prop} (R : Rel K B0 H0 B env σ H o) (h : evs C es env = some ds) (q : ∀ B' H' vs, Step B H B' H' → Reps K B' ds vs → Q vs H') : tA C K es σ H Q := ⟨B0, H0, B, env, o, ds, R, h, q⟩
theorem sa_cons (ha : SE C X a x) (hr : SA C X es xs) (hs : starEach (x :: xs) X.env = (false, eval x X.env) :: starEach xs X.env := by rfl) : SA C X (.cons a es) (x :: xs) := imp_a (pa_cons ha hr hs) fun σ H Q ⟨B0, H0, B, env, o, ds, R, he, q⟩ => by
  obtain ⟨d, h1, h2⟩ := bind1_some (show ((vm (ev C a env)).bind fun d => (evs C es env).bind fun ds => some (d :: ds)) = some ds from he)
  obtain ⟨dr, h3, h4⟩ := bind1_some h2
  cases h4
  exact use_v R h1 fun B1 H1 v s1 r1 => use_a (R.step s1) h3 fun B2 H2 vs s2 r2 => q B2 H2 (v :: vs) (s1.trans s2) (reps_cons (Rep.mono s2.bb _ _ r1) r2)
theorem se_tup {kk : Nat} (h : SA C X es xs) : SE C X (.tup es) (.Tuple xs kk pos) := imp_e (pe_tup h) fun σ H Q ⟨B0, H0, B, env, o, d, k, R, he, q⟩ => by
  obtain ⟨ds, h1, h2⟩ := bind1_some (show ((evs C es env).bind fun ds => if ds.length ≤ L then some ((.tup ds, .frz) : D × Kd) else none) = some (d, k) from he)
  obtain ⟨hz, h3⟩ := if_some h2
  cases h3
  refine use_a R h1 fun B' H' vs s r => ⟨by rw [r.length]; exact sizeL hz, fun p hp => ?_⟩
  exact q _ _ _ [] (s.trans (Step.new s.bh hp)) ⟨rfl, tup_rep upd_same (Reps.mono (Ext.new (s.bh.back hp)) _ _ r)⟩ FrF.nil
theorem se_lst (h : SA C X es xs) : SE C X (.lst es) (.List xs pos) := imp_e (pe_lst h) fun σ H Q ⟨B0, H0, B, env, o, d, k, R, he, q⟩ => by
  obtain ⟨ds, h1, h2⟩ := bind1_some (show ((evs C es env).bind fun ds => if ds.length ≤ L then some ((.lst ds, .new1) : D × Kd) else none) = some (d, k) from he)
  obtain ⟨hz, h3⟩ := if_some h2
  cases h3
  exact use_a R h1 fun B' H' vs s r => ⟨by rw [r.length]; exact sizeL hz, fin_list q rfl s r⟩
theorem fin_dict {K : PySem.W.Frag} {H0 B H B' H' : Hp} {Q : VK} {ds : List (Ky × D)} {vs : List (L2.Key × V)} {k : Kd} (q : ∀ B' H' v F, Step B H B' H' → ROk K H0 B' H' k (.dic ds) v F → FrF H B' F → Q v H') (hk : k = .new1) (s : Step B H B' H')
    (r : RepK K B' ds vs) : ∀ p, H' p = none → Q (.ref p) (upd H' p (.dK vs)) := fun p hp => by
  subst hk
  exact q B' _ _ [p] (s.trans (Step.own s.bh hp)) ⟨p, rfl, rfl, .inr ⟨vs, ds, rfl, upd_same, r⟩⟩ (FrF.one (s.hh.back hp) (s.bh.back hp))
theorem se_dic0 : SE C X .dic0 (.Dict [] [] pos) := imp_e pe_dnewK fun σ H Q ⟨B0, H0, B, env, o, d, k, R, he, q⟩ => by
  cases (show some ((.dic [], .new1) : D × Kd) = some (d, k) from he)
  exact fin_dict q rfl (Step.refl R.bh) repk_nil

/-! ### built-in functions -/
theorem pe_b1 {id : String} {r : List V → Hp → VK → Prop} (hc : CallR X (.builtin id) r) (hm : X.mg n = none) (hv : bootBuiltins n = some (.builtin id)) (ha : SE C X a x) (hg : Gl X n) (he : starEach [x] X.env = (false, eval x X.env) :: starEach [] X.env)
    (hn : n ≠ "__name__") (hdb : (n == ("__debug__" : Str)) = false) : PE X (.Call (.Name n p) [x] [] pos) (tCB r (tCons (tE C X.K a) tNil)) := pe_callB hc hg hm hv (pa_cons ha pa_nil he) hn hdb he rfl
theorem pe_t1 {id : String} {r : List V → Hp → VK → Prop} (hc : CallR X (.type id) r) (hm : X.mg n = none) (hv : bootBuiltins n = some (.type id)) (ha : SE C X a x) (hg : Gl X n) (he : starEach [x] X.env = (false, eval x X.env) :: starEach [] X.env)
    (hn : n ≠ "__name__") (hdb : (n == ("__debug__" : Str)) = false) : PE X (.Call (.Name n p) [x] [] pos) (tCB r (tCons (tE C X.K a) tNil)) := pe_callTy hc hg hm hv (pa_cons ha pa_nil he) hn hdb he rfl
theorem pe_b2 {id : String} {r : List V → Hp → VK → Prop} (hc : CallR X (.builtin id) r) (hm : X.mg n = none) (hv : bootBuiltins n = some (.builtin id)) (ha : SE C X a x) (hb : SE C X b y) (hg : Gl X n) (he : starEach [x, y] X.env = (false, eval x X.env) :: starEach [y] X.env) (he2 : starEach [y] X.env = (false, eval y X.env) :: starEach [] X.env)
    (hn : n ≠ "__name__") (hdb : (n == ("__debug__" : Str)) = false) : PE X (.Call (.Name n p) [x, y] [] pos) (tCB r (tCons (tE C X.K a) (tCons (tE C X.K b) tNil))) := pe_callB hc hg hm hv (pa_cons ha (pa_cons hb pa_nil he2) he) hn hdb he (by rw [he2]; rfl)
theorem call_lenK : CallR X (.builtin "len") (fun xs H Q => ∃ a kvs, xs = [V.ref a] ∧ H a = some (.dK kvs) ∧ Q (.int kvs.length) H) := call_lenD
theorem se_len (G : Gd X) (ha : SE C X a x) (hg : Gl X ("len" : Str) := by rfl) (hs : starEach [x] X.env = (false, eval x X.env) :: starEach [] X.env := by rfl) : SE C X (.len a) (.Call (.Name ("len" : Str) p) [x] [] pos) := by
  refine imp_e (pe_b1 (call_len_seq.or (call_len_str.or call_lenD)) G.len boot_len ha hg hs (by decide) (by decide)) fun σ H Q h => ?_
  obtain ⟨B0, H0, B, env, o, d, k, R, he, q⟩ := h
  obtain ⟨i, h1, rfl, rfl⟩ := frI_some (show frI ((bm (ev C a env)).bind lenL) = some (d, k) from he)
  obtain ⟨da, h2, h3⟩ := bind1_some h1
  refine use_b R h2 fun B' H' u s ru => ?_
  have fin : ∀ j, j = i → Q (.int j) H' := fun j e => by rw [e]; exact q B' H' _ [] s ⟨rfl, int_rep⟩ FrF.nil
  cases da <;> simp only [lenL, lenD, reduceCtorEq, Option.some.injEq] at h3
  · obtain ⟨hz, h4⟩ := if_some h3
    exact .inr (.inl ⟨_, by rw [rep_str ru], by rw [sv_length]; exact sizeL hz, fin _ (by rw [sv_length]; exact h4)⟩)
  · obtain ⟨p1, vs, rfl, q1, r1⟩ := rep_tup ru
    exact .inl ⟨p1, vs, rfl, .inr (SqT.of q1), fin _ (by rw [r1.length]; exact h3)⟩
  · obtain ⟨p1, vs, rfl, q1, r1⟩ := rep_lst ru
    exact .inl ⟨p1, vs, rfl, .inl q1, fin _ (by rw [r1.length]; exact h3)⟩
  · obtain ⟨p1, vs, rfl, q1, r1⟩ := rep_dic ru
    exact .inr (.inr ⟨p1, vs, rfl, q1, fin _ (by rw [r1.length]; exact h3)⟩)
theorem se_max2 (G : Gd X) (ha : SE C X a x) (hb : SE C X b y) (hg : Gl X ("max" : Str) := by rfl) (hs : starEach [x, y] X.env = (false, eval x X.env) :: starEach [y] X.env := by rfl) (hs2 : starEach [y] X.env = (false, eval y X.env) :: starEach [] X.env := by rfl) :
    SE C X (.max2 a b) (.Call (.Name ("max" : Str) p) [x, y] [] pos) := by
  refine imp_e (pe_b2 (call_max2 G.calm) G.max boot_max ha hb hg hs hs2 (by decide) (by decide)) fun σ H Q h => ?_
  obtain ⟨B0, H0, B, env, o, d, k, R, he, q⟩ := h
  obtain ⟨dx, dy, h1, h2, h3⟩ := bm2_some (f := fun x y => frI ((asInt x).bind fun i => (asInt y).map fun j => max i j)) he
  simp only [map_bind] at h3
  obtain ⟨i, j, m, rfl, rfl, hn, rfl, rfl⟩ := int2_some h3
  cases hn
  refine two_b R h1 h2 fun B' H' u v s ru rv => ⟨i, j, by rw [rep_int ru, rep_int rv], ?_⟩
  have e : (if j > i then j else i) = max i j := by split <;> omega
  rw [e]
  exact q B' H' _ [] s ⟨rfl, int_rep⟩ FrF.nil
theorem se_min2 (G : Gd X) (ha : SE C X a x) (hb : SE C X b y) (hg : Gl X ("min" : Str) := by rfl) (hs : starEach [x, y] X.env = (false, eval x X.env) :: starEach [y] X.env := by rfl) (hs2 : starEach [y] X.env = (false, eval y X.env) :: starEach [] X.env := by rfl) :
    SE C X (.min2 a b) (.Call (.Name ("min" : Str) p) [x, y] [] pos) := by
  refine imp_e (pe_b2 (call_min2 G.calm) G.min boot_min ha hb hg hs hs2 (by decide) (by decide)) fun σ H Q h => ?_
  obtain ⟨B0, H0, B, env, o, d, k, R, he, q⟩ := h
  obtain ⟨dx, dy, h1, h2, h3⟩ := bm2_some (f := fun x y => frI ((asInt x).bind fun i => (asInt y).map fun j => min i j)) he
  simp only [map_bind] at h3
  obtain ⟨i, j, m, rfl, rfl, hn, rfl, rfl⟩ := int2_some h3
  cases hn
  refine two_b R h1 h2 fun B' H' u v s ru rv => ⟨i, j, by rw [rep_int ru, rep_int rv], ?_⟩
  have e : (if j < i then j else i) = min i j := by split <;> omega
  rw [e]
  exact q B' H' _ [] s ⟨rfl, int_rep⟩ FrF.nil
theorem use_ints {K : PySem.W.Frag} {H : Hp} {ds : List D} {ns : List Int} {v : V} (h : intsD ds = some ns) (r : Rep K H (.lst ds) v) : ∃ p, v = .ref p ∧ SqL K H p (ns.map V.int) := by
  obtain ⟨p, vs, rfl, q1, q2⟩ := rep_lst r
  rw [Reps.ints h q2] at q1
  exact ⟨p, rfl, q1⟩
theorem se_sum (G : Gd X) (ha : SE C X a x) (hg : Gl X ("sum" : Str) := by rfl) (hs : starEach [x] X.env = (false, eval x X.env) :: starEach [] X.env := by rfl) : SE C X (.sum a) (.Call (.Name ("sum" : Str) p) [x] [] pos) := by
  refine imp_e (pe_b1 (cr_sum G.calm) G.sum (by decide +kernel) ha hg hs (by decide) (by decide)) fun σ H Q h => ?_
  obtain ⟨B0, H0, B, env, o, d, k, R, he, q⟩ := h
  obtain ⟨da, h2, h3⟩ := bind1_some (show ((bm (ev C a env)).bind fun x => match x with | .lst xs => frI ((intsD xs).map fun ns => ns.sum) | _ => none) = some (d, k) from he)
  refine use_b R h2 fun B' H' u s ru => ?_
  cases da <;> simp only [reduceCtorEq] at h3
  obtain ⟨i, h4, rfl, rfl⟩ := frI_some h3
  rw [Option.map_eq_some_iff] at h4
  obtain ⟨ns, h4, rfl⟩ := h4
  obtain ⟨p1, rfl, q1⟩ := use_ints h4 ru
  exact ⟨p1, ns, rfl, q1, q B' H' _ [] s ⟨rfl, int_rep⟩ FrF.nil⟩
theorem foldl_max_le : ∀ (xs : List Int) (x : Int), (∀ y ∈ x :: xs, y ≤ xs.foldl max x) ∧ xs.foldl max x ∈ x :: xs
  | [], x => by simp
  | z :: zs, x => by
    obtain ⟨h1, h2⟩ := foldl_max_le zs (max x z)
    rw [List.foldl_cons]
    refine ⟨fun y hy => ?_, ?_⟩
    · rcases List.mem_cons.mp hy with rfl | hy
      · exact Int.le_trans (Int.le_max_left _ _) (h1 _ (List.mem_cons_self ..))
      · rcases List.mem_cons.mp hy with rfl | hy
        · exact Int.le_trans (Int.le_max_right _ _) (h1 _ (List.mem_cons_self ..))
        · exact h1 y (List.mem_cons_of_mem _ hy)
    · rcases List.mem_cons.mp h2 with h | h
      · rw [h]
        rcases Int.le_total x z with q | q
        · rw [Int.max_eq_right q]; simp
        · rw [Int.max_eq_left q]; simp
      · exact List.mem_cons_of_mem _ (List.mem_cons_of_mem _ h)
theorem foldl_min_le : ∀ (xs : List Int) (x : Int), (∀ y ∈ x :: xs, xs.foldl min x ≤ y) ∧ xs.foldl min x ∈ x :: xs
  | [], x => by simp
  | z :: zs, x => by
    obtain ⟨h1, h2⟩ := foldl_min_le zs (min x z)
    rw [List.foldl_cons]
    refine ⟨fun y hy => ?_, ?_⟩
    · rcases List.mem_cons.mp hy with rfl | hy
      · exact Int.le_trans (h1 _ (List.mem_cons_self ..)) (Int.min_le_left _ _)
      · rcases List.mem_cons.mp hy with rfl | hy
        · exact Int.le_trans (h1 _ (List.mem_cons_self ..)) (Int.min_le_right _ _)
        · exact h1 y (List.mem_cons_of_mem _ hy)
    · rcases List.mem_cons.mp h2 with h | h
      · rw [h]
        rcases Int.le_total x z with q | q
        · rw [Int.min_eq_left q]; simp
        · rw [Int.min_eq_right q]; simp
      · exact List.mem_cons_of_mem _ (List.mem_cons_of_mem _ h)
theorem maxL_some {ns : List Int} {m : Int} (h : maxL ns = some m) : 0 < ns.length ∧ ∀ n, n ∈ ns → (∀ y ∈ ns, y ≤ n) → n = m := by
  cases ns with
  | nil => cases h
  | cons x xs =>
    cases h
    obtain ⟨h1, h2⟩ := foldl_max_le xs x
    refine ⟨by simp, fun n hn hle => ?_⟩
    have a1 := hle _ h2
    have a2 := h1 n hn
    omega
theorem minL_some {ns : List Int} {m : Int} (h : minL ns = some m) : 0 < ns.length ∧ ∀ n, n ∈ ns → (∀ y ∈ ns, n ≤ y) → n = m := by
  cases ns with
  | nil => cases h
  | cons x xs =>
    cases h
    obtain ⟨h1, h2⟩ := foldl_min_le xs x
    refine ⟨by simp, fun n hn hle => ?_⟩
    have a1 := hle _ h2
    have a2 := h1 n hn
    omega
theorem se_max1 (G : Gd X) (ha : SE C X a x) (hg : Gl X ("max" : Str) := by rfl) (hs : starEach [x] X.env = (false, eval x X.env) :: starEach [] X.env := by rfl) : SE C X (.max1 a) (.Call (.Name ("max" : Str) p) [x] [] pos) := by
  refine imp_e (pe_b1 (cr_max G.calm) G.max boot_max ha hg hs (by decide) (by decide)) fun σ H Q h => ?_
  obtain ⟨B0, H0, B, env, o, d, k, R, he, q⟩ := h
  obtain ⟨da, h2, h3⟩ := bind1_some (show ((bm (ev C a env)).bind fun x => match x with | .lst xs => frI ((intsD xs).bind maxL) | _ => none) = some (d, k) from he)
  refine use_b R h2 fun B' H' u s ru => ?_
  cases da <;> simp only [reduceCtorEq] at h3
  obtain ⟨i, h4, rfl, rfl⟩ := frI_some h3
  obtain ⟨ns, h4, h5⟩ := bind1_some h4
  obtain ⟨p1, rfl, q1⟩ := use_ints h4 ru
  obtain ⟨h6, h7⟩ := maxL_some h5
  exact ⟨p1, ns, rfl, q1, h6, fun m hm hle => by rw [h7 m hm hle]; exact q B' H' _ [] s ⟨rfl, int_rep⟩ FrF.nil⟩
theorem se_min1 (G : Gd X) (ha : SE C X a x) (hg : Gl X ("min" : Str) := by rfl) (hs : starEach [x] X.env = (false, eval x X.env) :: starEach [] X.env := by rfl) : SE C X (.min1 a) (.Call (.Name ("min" : Str) p) [x] [] pos) := by
  refine imp_e (pe_b1 (cr_min G.calm) G.min boot_min ha hg hs (by decide) (by decide)) fun σ H Q h => ?_
  obtain ⟨B0, H0, B, env, o, d, k, R, he, q⟩ := h
  obtain ⟨da, h2, h3⟩ := bind1_some (show ((bm (ev C a env)).bind fun x => match x with | .lst xs => frI ((intsD xs).bind minL) | _ => none) = some (d, k) from he)
  refine use_b R h2 fun B' H' u s ru => ?_
  cases da <;> simp only [reduceCtorEq] at h3
  obtain ⟨i, h4, rfl, rfl⟩ := frI_some h3
  obtain ⟨ns, h4, h5⟩ := bind1_some h4
  obtain ⟨p1, rfl, q1⟩ := use_ints h4 ru
  obtain ⟨h6, h7⟩ := minL_some h5
  exact ⟨p1, ns, rfl, q1, h6, fun m hm hle => by rw [h7 m hm hle]; exact q B' H' _ [] s ⟨rfl, int_rep⟩ FrF.nil⟩
/-- list(..) -/
theorem se_list (G : Gd X) (ha : SE C X a x) (hg : Gl X ("list" : Str) := by rfl) (hs : starEach [x] X.env = (false, eval x X.env) :: starEach [] X.env := by rfl) : SE C X (.list a) (.Call (.Name ("list" : Str) p) [x] [] pos) := by
  refine imp_e (pe_t1 call_list_of G.list (by decide +kernel) ha hg hs (by decide) (by decide)) fun σ H Q h => ?_
  obtain ⟨B0, H0, B, env, o, d, k, R, he, q⟩ := h
  obtain ⟨da, h2, h3⟩ := bind1_some (show ((em (ev C a env)).bind fun x => match x with | .lst xs => some ((.lst xs, .new1) : D × Kd) | .tup xs => some (.lst xs, .new1) | _ => none) = some (d, k) from he)
  refine use_e R h2 fun B' H' u s ru => ?_
  cases da <;> simp only [reduceCtorEq] at h3
  · cases h3
    obtain ⟨p1, vs, rfl, q1, r1⟩ := rep_tup (K := X.K) (B := B') ru
    exact ⟨p1, vs, rfl, .inr (SqT.of (s.bh.at q1 nt_tup)), fin_list q rfl s r1⟩
  · cases h3
    obtain ⟨p1, vs, rfl, q1, r1⟩ := ru
    exact ⟨p1, vs, rfl, .inl q1, fin_list q rfl s r1⟩
/-! ### isinstance -/
theorem sq_ty {K : PySem.W.Frag} {H : Hp} {a : Addr} {vs : List V} (h : SqL K H a vs) : TyX K H (.ref a) (.type "list") := by
  rcases h with (h | ⟨o, h⟩) | ⟨o, its, n, h1, h2, _⟩
  · exact .base (.lst h)
  · exact .base (.frz h)
  · exact .kList h1 h2
def D.tyN : D → String | .non => "NoneType" | .bl _ => "bool" | .int _ => "int" | .str _ => "str" | .tup _ => "tuple" | .lst _ => "list" | .dic _ => "dict"
theorem rep_ty {K : PySem.W.Frag} {H : Hp} {d : D} {v : V} (r : Rep K H d v) : TyX K H v (.type d.tyN) := by
  cases d with
  | non => rw [rep_non r]; exact .base .non
  | bl _ => rw [rep_bl r]; exact .base (.bl _)
  | int _ => rw [rep_int r]; exact .base (.int _)
  | str _ => rw [rep_str r]; exact .base (.str _)
  | tup _ => obtain ⟨a, vs, rfl, h, _⟩ := rep_tup r; exact .base (.tup h)
  | lst _ => obtain ⟨a, vs, rfl, h, _⟩ := rep_lst r; exact sq_ty h
  | dic _ => obtain ⟨a, vs, rfl, h, _⟩ := rep_dic r; exact .base (.dK h)
def Ty.nm : Ty → String | .int => "int" | .bool => "bool" | .str => "str" | .lst => "list" | .tup => "tuple"
theorem kit_D (d : D) (t : Ty) : kitB d.tyN t.nm = some (isTy d t) := by
  cases d <;> cases t <;> (show kitB _ _ = some _) <;> simp only [D.tyN, Ty.nm, isTy] <;> decide +kernel
theorem se_isin (G : Gd X) {t : Ty} (ha : SE C X a x) (hy : PE X y (tC (.ty t.nm))) (hg : Gl X ("isinstance" : Str) := by rfl) (hs : starEach [x, y] X.env = (false, eval x X.env) :: starEach [y] X.env := by rfl) (hs2 : starEach [y] X.env = (false, eval y X.env) :: starEach [] X.env := by rfl) :
    SE C X (.isin a t) (.Call (.Name ("isinstance" : Str) p) [x, y] [] pos) := by
  refine imp_e (pe_callB call_isi hg G.isi boot_isinstance (pa_cons ha (pa_cons hy pa_nil hs2) hs) (by decide) (by decide) hs (by rw [hs2]; rfl)) fun σ H Q h => ?_
  obtain ⟨B0, H0, B, env, o, d, k, R, he, q⟩ := h
  obtain ⟨da, h2, h3⟩ := bind1_some (show ((bm (ev C a env)).bind fun x => some ((.bl (isTy x t), .frz) : D × Kd)) = some (d, k) from he)
  cases h3
  refine use_b R h2 fun B' H' u s ru => ?_
  exact ⟨u, .ty t.nm, .type da.tyN, .type t.nm, isTy da t, rfl, .ty _, rep_ty ru, kit_ty (kit_D da t), q B' H' _ [] s ⟨rfl, bl_rep⟩ FrF.nil⟩
theorem ty_int (G : Gd X) (hg : Gl X ("int" : Str) := by rfl) : PE X (.Name ("int" : Str) pos) (tC (.ty Ty.int.nm)) := pe_bltn hg G.int (show bootBuiltins _ = some (.type "int") by decide +kernel) rfl (by decide) (by decide)
theorem ty_bool (G : Gd X) (hg : Gl X ("bool" : Str) := by rfl) : PE X (.Name ("bool" : Str) pos) (tC (.ty Ty.bool.nm)) := pe_bltn hg G.bool (show bootBuiltins _ = some (.type "bool") by decide +kernel) rfl (by decide) (by decide)
theorem ty_str (G : Gd X) (hg : Gl X ("str" : Str) := by rfl) : PE X (.Name ("str" : Str) pos) (tC (.ty Ty.str.nm)) := pe_bltn hg G.str (show bootBuiltins _ = some (.type "str") by decide +kernel) rfl (by decide) (by decide)
theorem ty_lst (G : Gd X) (hg : Gl X ("list" : Str) := by rfl) : PE X (.Name ("list" : Str) pos) (tC (.ty Ty.lst.nm)) := pe_bltn hg G.list (show bootBuiltins _ = some (.type "list") by decide +kernel) rfl (by decide) (by decide)
theorem ty_tup (G : Gd X) (hg : Gl X ("tuple" : Str) := by rfl) : PE X (.Name ("tuple" : Str) pos) (tC (.ty Ty.tup.nm)) := pe_bltn hg G.tuple (show bootBuiltins _ = some (.type "tuple") by decide +kernel) rfl (by decide) (by decide)
end
end Hg
end

section
set_option Elab.async false
set_option maxRecDepth 100000
set_option maxHeartbeats 4000000
/-! Snd4: sorted, in; targets, iterables, comprehensions; calls. -/
namespace Hg
open PySem PySem.Spec PyProof.Rows L2
variable [TB : Tabl]

/-! ### sorted -/
theorem perm_sorted {α : Type} {r : α → α → Prop} (anti : ∀ a b, r a b → r b a → a = b) : ∀ (l m : List α), l.Perm m → l.Pairwise r → m.Pairwise r → l = m
  | [], m, h, _, _ => h.nil_eq
  | x :: l, m, h, h1, h2 => by
    cases m with
    | nil => exact absurd h.symm.nil_eq (by simp)
    | cons y m =>
      have e : x = y := by
        have hx : x ∈ y :: m := h.mem_iff.mp (List.mem_cons_self ..)
        have hy : y ∈ x :: l := h.mem_iff.mpr (List.mem_cons_self ..)
        rcases List.mem_cons.mp hx with q | q
        · exact q
        · rcases List.mem_cons.mp hy with z | z
          · exact z.symm
          · exact anti x y ((List.pairwise_cons.mp h1).1 y z) ((List.pairwise_cons.mp h2).1 x q)
      subst e
      rw [perm_sorted anti l m h.cons_inv (List.pairwise_cons.mp h1).2 (List.pairwise_cons.mp h2).2]
theorem sortI_eq {ns ms : List Int} (h : ms.Perm ns) (s : ms.Pairwise (· ≤ ·)) : ms = sortI ns := by
  refine perm_sorted (r := (· ≤ ·)) (fun a b => Int.le_antisymm) _ _ (h.trans (List.mergeSort_perm ns _).symm) s ?_
  have := List.pairwise_mergeSort (le := fun a b : Int => decide (a ≤ b)) (fun a b c h1 h2 => decide_eq_true (Int.le_trans (of_decide_eq_true h1) (of_decide_eq_true h2)))
    (fun a b => by rcases Int.le_total a b with q | q <;> simp [q]) ns
  exact this.imp fun {a b} h => of_decide_eq_true h
theorem leP_iff {p q : Int × Int} : leP p q = true ↔ p.1 < q.1 ∨ (p.1 = q.1 ∧ p.2 ≤ q.2) := by
  unfold leP
  exact decide_eq_true_iff
theorem sortP_eq {ns ms : List (Int × Int)} (h : ms.Perm ns) (s : ms.Pairwise fun a b => leP a b = true) : ms = sortP ns := by
  refine perm_sorted (r := fun a b => leP a b = true) (fun a b h1 h2 => ?_) _ _ (h.trans (List.mergeSort_perm ns _).symm) s ?_
  · rw [leP_iff] at h1 h2
    apply Prod.ext <;> omega
  · refine List.pairwise_mergeSort (le := leP) (fun a b c h1 h2 => ?_) (fun a b => ?_) ns
    · rw [leP_iff] at h1 h2 ⊢
      omega
    · rw [Bool.or_eq_true, leP_iff, leP_iff]
      omega
/-- the pair that a value stands for -/
def pairAt (H : Hp) : V → Int × Int
  | .ref t => match H t with | some (.tup [.int i, .int j]) => (i, j) | _ => (0, 0)
  | _ => (0, 0)
theorem pairsD_reps {K : PySem.W.Frag} {B H : Hp} (e : Ext B H) : ∀ {ds : List D} {ps : List (Int × Int)} {vs : List V}, pairsD ds = some ps → Reps K B ds vs →
    vs.map (pairAt H) = ps ∧ ∀ v ∈ vs, (∃ t, v = .ref t ∧ H t = some (.tup [.int (pairAt H v).1, .int (pairAt H v).2])) ∧ Rep K B (pairD (pairAt H v)) v
  | [], ps, vs, h, r => by
    have e' : ps = [] := by simpa [pairsD, optAll] using h.symm
    subst e'
    rw [r.nil_of]
    exact ⟨rfl, fun v hv => by simp at hv⟩
  | d :: ds, ps, vs, h, r => by
    obtain ⟨v, r1, rfl, h1, h2⟩ := r.cons_of
    simp only [pairsD, optAll, Option.bind_eq_some_iff] at h
    obtain ⟨p, hp, qs, hq, h⟩ := h
    cases h
    obtain ⟨h3, h4⟩ := pairsD_reps e (ps := qs) hq h2
    have hd : d = pairD p := by
      cases d with
      | tup xs =>
        match xs, hp with
        | [.int i, .int j], hp => cases hp; rfl
      | _ => cases hp
    subst hd
    obtain ⟨t, us, rfl, q1, q2⟩ := rep_tup h1
    have hu : us = [.int p.1, .int p.2] := by
      have h5 := Reps.ints (ns := [p.1, p.2]) rfl q2
      exact h5
    subst hu
    have hp' : pairAt H (.ref t) = p := by
      show (match H t with | some (.tup [.int i, .int j]) => (i, j) | _ => (0, 0)) = p
      rw [e.at q1 nt_tup]
    refine ⟨by rw [List.map_cons, hp', h3], fun w hw => ?_⟩
    rcases List.mem_cons.mp hw with rfl | hw
    · rw [hp']
      exact ⟨⟨t, rfl, e.at q1 nt_tup⟩, h1⟩
    · exact h4 w hw
theorem reps_pairs {K : PySem.W.Frag} {B H : Hp} : ∀ (vs : List V), (∀ v ∈ vs, Rep K B (pairD (pairAt H v)) v) → Reps K B ((vs.map (pairAt H)).map pairD) vs
  | [], _ => reps_nil
  | v :: vs, h => reps_cons (h v (List.mem_cons_self ..)) (reps_pairs vs fun w hw => h w (List.mem_cons_of_mem _ hw))
section
variable {C : Nat → List D → Option D} {X : Cx} {a b c : E} {x y z : Expr} {pos p pos1 : Pos} {n : Str}
theorem se_sorted (G : Gd X) (ha : SE C X a x) (hg : Gl X ("sorted" : Str) := by rfl) (hs : starEach [x] X.env = (false, eval x X.env) :: starEach [] X.env := by rfl) : SE C X (.sorted a) (.Call (.Name ("sorted" : Str) p) [x] [] pos) := by
  refine imp_e (pe_b1 (cr_sortedI.or cr_sortedPO) G.sorted boot_sorted ha hg hs (by decide) (by decide)) fun σ H Q h => ?_
  obtain ⟨B0, H0, B, env, o, d, k, R, he, q⟩ := h
  obtain ⟨da, h2, h3⟩ := bind1_some (show ((em (ev C a env)).bind fun x => match x with
      | .lst xs => if xs.length < L then (sortD xs).map fun ys => ((.lst ys, .new1) : D × Kd) else none
      | _ => none) = some (d, k) from he)
  refine use_e R h2 fun B' H' u s ru => ?_
  cases da <;> simp only [reduceCtorEq] at h3
  rename_i xs
  by_cases hz : xs.length < L
  · rw [if_pos hz, Option.map_eq_some_iff] at h3
    obtain ⟨ys, h4, h5⟩ := h3
    cases h5
    obtain ⟨p1, vs, rfl, q1, r1⟩ := ru
    unfold sortD at h4
    cases hi : intsD xs with
    | some ns =>
      rw [hi] at h4
      cases h4
      rw [Reps.ints hi r1] at q1
      refine .inl ⟨p1, ns, rfl, q1, fun ms w hp hm hw => ?_⟩
      rw [sortI_eq hp hm]
      exact fin_list q rfl s (reps_ints _) w hw
    | none =>
      rw [hi] at h4
      simp only [Option.map_eq_some_iff] at h4
      obtain ⟨ps, h4, rfl⟩ := h4
      obtain ⟨e1, e2⟩ := pairsD_reps s.bh h4 r1
      refine .inr ⟨p1, vs, pairAt H', rfl, q1, fun v hv => (e2 v hv).1, fun ys w h5 h6 hw => ?_⟩
      have e3 : ys.map (pairAt H') = sortP ps := by
        rw [← e1]
        refine sortP_eq (h6.perm.map _) (List.pairwise_map.mpr (h5.imp fun {v u} h => ?_))
        rw [leP_iff]
        have h7 := SrtO.lexB_no.mp h
        omega
      have r2 := reps_pairs (K := X.K) (B := B') (H := H') ys fun v hv => (e2 v (h6.perm.mem_iff.mp hv)).2
      rw [e3] at r2
      exact fin_list q rfl s r2 w hw
  · rw [if_neg hz] at h3
    cases h3

/-! ### in -/
theorem atom_flat {K : PySem.W.Frag} {B : Hp} {d : D} {v : V} (h : d.atom = true) (r : Rep K B d v) : flatV v = true := by
  cases d <;> first | (cases h; done) | skip
  · rw [rep_non r]; rfl
  · rw [rep_bl r]; rfl
  · rw [rep_int r]; rfl
  · rw [rep_str r]; rfl
theorem atom_eqv {K : PySem.W.Frag} {B : Hp} {d e : D} {v w : V} (h : d.atom = true) (h' : e.atom = true) (r : Rep K B d v) (r' : Rep K B e w) : eqV v w = eqD d e := by
  cases d <;> first | (cases h; done) | skip
  all_goals cases e <;> first | (cases h'; done) | skip
  all_goals first | rw [rep_non r] | rw [rep_bl r] | rw [rep_int r] | rw [rep_str r]
  all_goals first | rw [rep_non r'] | rw [rep_bl r'] | rw [rep_int r'] | rw [rep_str r']
  all_goals first | rfl | exact sv_beq _ _
theorem atoms_any {K : PySem.W.Frag} {B : Hp} {x : D} {v : V} (hx : x.atom = true) (rx : Rep K B x v) : ∀ {ds : List D} {vs : List V}, ds.all D.atom = true → Reps K B ds vs → vs.all flatV = true ∧ inV v vs = ds.any fun y => eqD y x
  | [], vs, _, r => by rw [r.nil_of]; exact ⟨rfl, rfl⟩
  | d :: ds, vs, h, r => by
    obtain ⟨w, r1, rfl, h1, h2⟩ := r.cons_of
    rw [List.all_cons, Bool.and_eq_true] at h
    obtain ⟨h3, h4⟩ := atoms_any hx rx h.2 h2
    refine ⟨by rw [List.all_cons, h3, atom_flat h.1 h1]; rfl, ?_⟩
    have e : inV v (w :: r1) = (eqV w v || inV v r1) := rfl
    rw [e, h4, List.any_cons, atom_eqv h.1 hx h1 rx]
theorem all_plain {n : Nat} {ds : List D} (h : plainD (n + 1) (.lst ds) = true) : ds.all (plainD (n + 1)) = true := by
  have h' : ds.all (plainD n) = true := by simpa [plainD] using h
  exact List.all_eq_true.mpr fun x hx => plain_mono n x (List.all_eq_true.mp h' x hx)
theorem RepK.isSome {K : PySem.W.Frag} {B : Hp} {ds : List (Ky × D)} {vs : List (L2.Key × V)} (r : RepK K B ds vs) (k : Ky) : (valV vs (ky k)).isSome = (look ds k).isSome := by
  cases hl : look ds k with
  | none => rw [r.look_none hl]; rfl
  | some w =>
    obtain ⟨w', e1, _⟩ := r.look_some hl
    rw [e1]; rfl
theorem pc_or2 {op : CmpOp} {t u : TE} (h : PC X op x y t) (h' : PC X op x y u) : PC X op x y (tOr2 t u) := ⟨fun pins s σ H Q I q => q.elim (h.run pins s σ H Q I) (h'.run pins s σ H Q I)⟩
theorem sc_mem (G : Gd X) (ha : SE C X a x) (hb : SE C X b y) : SC C X (.mem a b) .In x y := by
  refine imp_c (pc_or2 (pc_op ((op_inD (by have := G.un; omega)).or (op_in_seq.or op_in_sign)) ha hb) (pc_din (by have := G.un; omega) ha hb)) fun σ H Q h => ?_
  obtain ⟨B0, H0, B, env, o, d, k, R, he, q⟩ := h
  obtain ⟨dx, dy, h1, h2, h3⟩ := bm2_some (f := fun x y => frB (memD x y)) he
  obtain ⟨r, h4, rfl, rfl⟩ := frB_some h3
  cases dy <;> simp only [memD, reduceCtorEq] at h4
  · rename_i s
    match dx, h4 with
    | .str [ch], h4 =>
      cases h4
      refine .inl (two_b R h1 h2 fun B' H' u v st ru rv => .inr (.inr ⟨ch, sv s, rep_str ru, rep_str rv, ?_⟩))
      exact q B' H' _ [] st ⟨rfl, bl_rep⟩ FrF.nil
  · obtain ⟨⟨p1, p2⟩, h5⟩ := if_some h4
    subst h5
    refine .inl (two_b R h1 h2 fun B' H' u v st ru rv => .inr (.inl ?_))
    obtain ⟨p3, vs, rfl, q1, r1⟩ := rep_tup rv
    obtain ⟨h6, h7⟩ := atoms_any p1 ru p2 r1
    refine ⟨p3, vs, rfl, .inr (SqT.of q1), atom_flat p1 ru, h6, ?_⟩
    show Q (.bl (inV u vs)) H'
    rw [h7]
    exact q B' H' _ [] st ⟨rfl, bl_rep⟩ FrF.nil
  · obtain ⟨⟨p1, p2⟩, h5⟩ := if_some h4
    subst h5
    refine .inl (two_b R h1 h2 fun B' H' u v st ru rv => .inl ?_)
    refine ⟨toPD dx, toPDs _, Rep.dp dx u PD p1 ru, Rep.dp _ v PD p2 rv, plain_shaped p1, plain_shaped p2, ?_⟩
    rw [any_eqv _ dx PD (all_plain p2) p1]
    exact q B' H' _ [] st ⟨rfl, bl_rep⟩ FrF.nil
  · rw [Option.map_eq_some_iff] at h4
    obtain ⟨kk, h5, rfl⟩ := h4
    refine .inr (two_b R h1 h2 fun B' H' u v st ru rv => ?_)
    obtain ⟨p3, vs, rfl, q1, r1⟩ := rep_dic rv
    refine ⟨p3, valV vs (ky kk), rfl, ?_, ?_⟩
    · rw [kV_ky h5 ru]
      exact DGet.k q1
    · rw [r1.isSome kk]
      exact q B' H' _ [] st ⟨rfl, bl_rep⟩ FrF.nil
theorem sc_nmem (G : Gd X) (ha : SE C X a x) (hb : SE C X b y) : SC C X (.nmem a b) .NotIn x y := by
  refine imp_c (pc_or2 (pc_op ((op_notInD (by have := G.un; omega)).or (op_notIn_seq.or op_notIn_sign)) ha hb) (pc_dnotin (by have := G.un; omega) ha hb)) fun σ H Q h => ?_
  obtain ⟨B0, H0, B, env, o, d, k, R, he, q⟩ := h
  obtain ⟨dx, dy, h1, h2, h3⟩ := bm2_some (f := fun x y => frB ((memD x y).map fun r => !r)) he
  obtain ⟨r, h4, rfl, rfl⟩ := frB_some h3
  rw [Option.map_eq_some_iff] at h4
  obtain ⟨r', h4, rfl⟩ := h4
  cases dy <;> simp only [memD, reduceCtorEq] at h4
  · rename_i s
    match dx, h4 with
    | .str [ch], h4 =>
      cases h4
      refine .inl (two_b R h1 h2 fun B' H' u v st ru rv => .inr (.inr ⟨ch, sv s, rep_str ru, rep_str rv, ?_⟩))
      exact q B' H' _ [] st ⟨rfl, bl_rep⟩ FrF.nil
  · obtain ⟨⟨p1, p2⟩, h5⟩ := if_some h4
    subst h5
    refine .inl (two_b R h1 h2 fun B' H' u v st ru rv => .inr (.inl ?_))
    obtain ⟨p3, vs, rfl, q1, r1⟩ := rep_tup rv
    obtain ⟨h6, h7⟩ := atoms_any p1 ru p2 r1
    refine ⟨p3, vs, rfl, .inr (SqT.of q1), atom_flat p1 ru, h6, ?_⟩
    show Q (.bl (!inV u vs)) H'
    rw [h7]
    exact q B' H' _ [] st ⟨rfl, bl_rep⟩ FrF.nil
  · obtain ⟨⟨p1, p2⟩, h5⟩ := if_some h4
    subst h5
    refine .inl (two_b R h1 h2 fun B' H' u v st ru rv => .inl ?_)
    refine ⟨toPD dx, toPDs _, Rep.dp dx u PD p1 ru, Rep.dp _ v PD p2 rv, plain_shaped p1, plain_shaped p2, ?_⟩
    rw [any_eqv _ dx PD (all_plain p2) p1]
    exact q B' H' _ [] st ⟨rfl, bl_rep⟩ FrF.nil
  · rw [Option.map_eq_some_iff] at h4
    obtain ⟨kk, h5, rfl⟩ := h4
    refine .inr (two_b R h1 h2 fun B' H' u v st ru rv => ?_)
    obtain ⟨p3, vs, rfl, q1, r1⟩ := rep_dic rv
    refine ⟨p3, valV vs (ky kk), rfl, ?_, ?_⟩
    · rw [kV_ky h5 ru]
      exact DGet.k q1
    · rw [r1.isSome kk]
      exact q B' H' _ [] st ⟨rfl, bl_rep⟩ FrF.nil
end
end Hg
end

section
set_option Elab.async false
set_option maxRecDepth 100000
set_option autoImplicit false
set_option maxHeartbeats 4000000
/-! Snd5: targets, iterables, comprehensions. -/
namespace Hg
open PySem PySem.Spec PyProof.Rows L2
variable [TB : Tabl]

/-! ### names given a value -/
def dropO (o : Addr → Option Nat) (i : Nat) : Addr → Option Nat := fun a => if o a = some i then none else o a
theorem dropO_some {o : Addr → Option Nat} {i j : Nat} {a : Addr} (h : dropO o i a = some j) : o a = some j ∧ j ≠ i := by
  unfold dropO at h
  by_cases e : o a = some i
  · rw [if_pos e] at h; cases h
  · rw [if_neg e] at h
    exact ⟨h, fun z => e (by rw [← z]; exact h)⟩
theorem dropO_ne {o : Addr → Option Nat} {i j : Nat} {a : Addr} (h : o a = some j) (n : j ≠ i) : dropO o i a = some j := by
  unfold dropO
  rw [if_neg (by rw [h]; exact fun z => n (Option.some.inj z))]
  exact h
theorem Rel.put {K : PySem.W.Frag} {B0 H0 B H : Hp} {env : Env} {σ : L2.St} {o : Addr → Option Nat} {i : Nat} {d : D} {v : V} (R : Rel K B0 H0 B env σ H o) (r : Rep K B d v) : Rel K B0 H0 B (env.set i (.val d .frz)) (σ.set i (some v)) H (dropO o i) where
  b0 := R.b0
  h0 := R.h0
  bh := R.bh
  tt := R.tt
  gr := R.gr
  len := by rw [List.length_set, List.length_set]; exact R.len
  sl := fun j d' k e => by
    rw [List.getElem?_set] at e
    by_cases hj : i = j
    · subst hj
      rw [if_pos rfl] at e
      by_cases hl : i < env.length
      · rw [if_pos hl] at e
        cases e
        refine ⟨v, [], ?_, ⟨rfl, r⟩, List.nodup_nil, by simp⟩
        rw [List.getElem?_set, if_pos rfl, if_pos (by rw [R.len]; exact hl)]
      · rw [if_neg hl] at e; cases e
    · rw [if_neg hj] at e
      obtain ⟨w, F, h1, h2, h3, h4⟩ := R.sl j d' k e
      refine ⟨w, F, ?_, h2, h3, fun a ha => dropO_ne (h4 a ha) (Ne.symm hj)⟩
      rw [List.getElem?_set, if_neg hj]
      exact h1
  fr := fun a j e => R.fr a j (dropO_some e).1
  nc := fun a j e => R.nc a j (dropO_some e).1
/-- only these slots are others -/
def Kept (is : List Nat) (σ σ' : L2.St) : Prop := σ'.length = σ.length ∧ ∀ i, i ∉ is → σ'[i]? = σ[i]?
/-- a target's reading -/
def tG (K : PySem.W.Frag) (t : Tg) : TG := fun v σ H Q => ∃ B0 H0 B env o d env', Rel K B0 H0 B env σ H o ∧ Rep K B d v ∧ bindT t d env = some env' ∧
  ∀ σ' o', Rel K B0 H0 B env' σ' H o' → Kept t.slots σ σ' → Q σ' H
def tGs (K : PySem.W.Frag) (is : List Nat) : TGs := fun vs σ H Q => ∃ B0 H0 B env o ds env', Rel K B0 H0 B env σ H o ∧ Reps K B ds vs ∧ setSlots is ds env = some env' ∧
  ∀ σ' o', Rel K B0 H0 B env' σ' H o' → Kept is σ σ' → Q σ' H
theorem imp_g {X : Cx} {x : Expr} {t u : TG} (h : PG X x t) (f : ∀ v σ H Q, u v σ H Q → t v σ H Q) : PG X x u := ⟨fun pins s σ H v w Q I r q => h.run pins s σ H v w Q I r (f v σ H Q q)⟩
theorem imp_gs {X : Cx} {x : List Expr} {t u : TGs} (h : PGs X x t) (f : ∀ v σ H Q, u v σ H Q → t v σ H Q) : PGs X x u := ⟨fun pins s σ H v w Q I r q => h.run pins s σ H v w Q I r (f v σ H Q q)⟩
abbrev SG (X : Cx) (t : Tg) (x : Expr) : Prop := PG X x (tG X.K t)
abbrev SGs (X : Cx) (is : List Nat) (xs : List Expr) : Prop := PGs X xs (tGs X.K is)
section
variable {C : Nat → List D → Option D} {X : Cx} {a b c : E} {x y z : Expr} {pos p pos1 : Pos} {n : Str} {i : Nat}
theorem sg_nm (G : Gd X) (hi : X.N[i]? = some n := by rfl) (hx : Loc X.env.scope n := by first | exact .inl rfl | exact .inr rfl) (hf : X.fn n = true ∨ X.env.scope.names.lookup n = some .local := by first | exact .inl rfl | exact .inr rfl) : SG X (.nm i) (.Name n pos) :=
  imp_g (pg_name G.nd hi hx hf) fun v σ H Q ⟨B0, H0, B, env, o, d, env', R, r, hb, q⟩ => by
    cases (show some (env.set i (.val d .frz)) = some env' from hb)
    refine q _ _ (R.put r) ⟨by rw [List.length_set], fun j hj => ?_⟩
    rw [List.getElem?_set, if_neg]
    intro e
    subst e
    exact hj (by simp [Tg.slots])
theorem sgs_nil : SGs X [] [] := imp_gs pgs_nil fun vs σ H Q ⟨B0, H0, B, env, o, ds, env', R, r, hb, q⟩ => by
  cases ds with
  | cons d ds => cases hb
  | nil =>
    cases hb
    exact ⟨r.nil_of, q _ _ R ⟨rfl, fun _ _ => rfl⟩⟩
theorem sgs_cons {is : List Nat} {xs : List Expr} (G : Gd X) (hr : SGs X is xs) (hi : X.N[i]? = some n := by rfl) (hx : Loc X.env.scope n := by first | exact .inl rfl | exact .inr rfl)
    (hf : X.fn n = true ∨ X.env.scope.names.lookup n = some .local := by first | exact .inl rfl | exact .inr rfl) (hs : (assignEach (.Name n pos :: xs) X.env).map (·.2) = assign (.Name n pos) X.env :: (assignEach xs X.env).map (·.2) := by rfl) : SGs X (i :: is) (.Name n pos :: xs) :=
  imp_gs (pgs_cons (pg_name G.nd hi hx hf) hr hs) fun vs σ H Q ⟨B0, H0, B, env, o, ds, env', R, r, hb, q⟩ => by
    cases ds with
    | nil => cases hb
    | cons d ds =>
      obtain ⟨v, w, rfl, h1, h2⟩ := r.cons_of
      refine ⟨v, w, rfl, B0, H0, B, _, _, ds, env', R.put h1, h2, hb, fun σ' o' R' h => q σ' o' R' ⟨by rw [h.1, List.length_set], fun j hj => ?_⟩⟩
      rw [h.2 j fun z => hj (List.mem_cons_of_mem _ z), List.getElem?_set, if_neg]
      intro e
      subst e
      exact hj (List.mem_cons_self ..)
theorem setSlots_length : ∀ {is : List Nat} {ds : List D} {env env' : Env}, setSlots is ds env = some env' → ds.length = is.length
  | [], [], _, _, _ => rfl
  | _ :: is, _ :: ds, env, env', h => by rw [List.length_cons, List.length_cons, setSlots_length (env := env.set _ _) h]
  | [], _ :: _, _, _, h => nomatch h
  | _ :: _, [], _, _, h => nomatch h
theorem sg_tp {is : List Nat} {xs : List Expr} {kk : Nat} (G : Gd X) (h : SGs X is xs) (hn : (assignEach xs X.env).length = is.length := by rfl) (hst : (assignEach xs X.env).findIdx? (·.1) = none := by rfl) : SG X (.tp is) (.Tuple xs kk pos) :=
  imp_g (pg_tup G.calm h hn hst) fun v σ H Q ⟨B0, H0, B, env, o, d, env', R, r, hb, q⟩ => by
    cases d with
    | tup ds =>
      obtain ⟨a, vs, rfl, h1, h2⟩ := rep_tup r
      have hb' : setSlots is ds env = some env' := hb
      exact ⟨a, vs, rfl, SqT.of (R.bh.at h1 nt_tup), by rw [h2.length, setSlots_length hb'], B0, H0, B, env, o, ds, env', R, h2, hb', q⟩
    | _ => cases hb

/-! ### what a for walks -/
structure ItOk (K : PySem.W.Frag) (B1 G : Hp) (xs : List D) (J : L2.It) : Prop where
  go : ∀ i H, i < xs.length → Ext G H → J.go i H
  yl : ∀ i H x H' Bc d, xs[i]? = some d → Ext B1 Bc → Ext Bc H → Ext G H → J.yld i H x H' → ∃ Bn, Step Bc H Bn H' ∧ Rep K Bn d x
  st : ∀ i H, i = xs.length → Ext G H → J.stop i H
def tI (C : Nat → List D → Option D) (K : PySem.W.Frag) (it : Hg.It) : TI := fun σ H R => ∃ B0 H0 B env o xs own, Rel K B0 H0 B env σ H o ∧ evI C it env = some (xs, own) ∧
  ∀ B' H' J G, Step B H B' H' → Ext G H' → (own = false → ∀ Hx, Ext B' Hx → Ext H0 Hx → Ext G Hx) → ItOk K B' G xs J → R J H'
theorem imp_i {X : Cx} {tg x : Expr} {t u : TI} (h : PI X tg x t) (f : ∀ σ H R, u σ H R → t σ H R) : PI X tg x u := ⟨fun pins s σ H R I q => h.run pins s σ H R I (f σ H R q)⟩
abbrev SI (C : Nat → List D → Option D) (X : Cx) (tg : Expr) (it : Hg.It) (x : Expr) : Prop := PI X tg x (tI C X.K it)
theorem step_same {K : PySem.W.Frag} {B1 Bc H : Hp} {d : D} {x : V} (e : Ext Bc H) (r : Rep K Bc d x) : ∃ Bn, Step Bc H Bn H ∧ Rep K Bn d x := ⟨Bc, Step.refl e, r⟩
theorem it_rng {K : PySem.W.Frag} {B1 G : Hp} {lo : Int} {n : Nat} : ItOk K B1 G (rngD lo n) (Itr lo n) where
  go := fun i H hi _ => by simpa [rngD, Itr] using hi
  yl := fun i H x H' Bc d hd e1 e2 e3 hy => by
    obtain ⟨rfl, rfl⟩ := hy
    refine ⟨Bc, Step.refl e2, ?_⟩
    have h : i < n := by
      have := (List.getElem?_eq_some_iff.mp hd).1
      simpa [rngD] using this
    have hd' : d = .int (lo + (i : Nat)) := by
      simp [rngD, List.getElem?_map, List.getElem?_range h] at hd
      exact hd.symm
    rw [hd']
    exact int_rep
  st := fun i H hi _ => by
    show n ≤ i
    rw [hi]; simp [rngD]
theorem si_rng1 {tg : Expr} (G : Gd X) (ha : SE C X a x) (hg : Gl X ("range" : Str) := by rfl) (hs : starEach [x] X.env = [(false, eval x X.env)] := by rfl) : SI C X tg (.rng1 a) (.Call (.Name ("range" : Str) p) [x] [] pos) :=
  imp_i (pi_range1 hg G.range (pa_cons ha pa_nil hs) hs) fun σ H Rr ⟨B0, H0, B, env, o, xs, own, R, he, q⟩ => by
    obtain ⟨d, h1, h2⟩ := bind1_some (show ((bm (ev C a env)).bind fun x => (asInt x).bind fun n => if -1000000 ≤ n ∧ n ≤ 1000000 then some (rngD 0 n.toNat, false) else none) = some (xs, own) from he)
    obtain ⟨m, h2, h3⟩ := bind1_some h2
    obtain rfl := asInt_some h2
    obtain ⟨⟨b1, b2⟩, h4⟩ := if_some h3
    cases h4
    exact use_b R h1 fun B' H' u s ru => ⟨m, by rw [rep_int ru], by omega, by omega, q B' H' _ B' s s.bh (fun _ Hx e _ => e) it_rng⟩
theorem si_rng2 {tg : Expr} (G : Gd X) (ha : SE C X a x) (hb : SE C X b y) (hg : Gl X ("range" : Str) := by rfl) (hs : starEach [x, y] X.env = [(false, eval x X.env), (false, eval y X.env)] := by rfl) (hs2 : starEach [y] X.env = [(false, eval y X.env)] := by rfl) :
    SI C X tg (.rng2 a b) (.Call (.Name ("range" : Str) p) [x, y] [] pos) :=
  imp_i (pi_range2 hg G.range (pa_cons ha (pa_cons hb pa_nil hs2) (by rw [hs, hs2])) hs hs2) fun σ H Rr ⟨B0, H0, B, env, o, xs, own, R, he, q⟩ => by
    obtain ⟨dx, dy, h1, h2, h3⟩ := bind2_some (show ((bm (ev C a env)).bind fun x => (bm (ev C b env)).bind fun y => (asInt x).bind fun m => (asInt y).bind fun n =>
      if -1000000 ≤ m ∧ m ≤ 1000000 ∧ -1000000 ≤ n ∧ n ≤ 1000000 then some (rngD m (n - m).toNat, false) else none) = some (xs, own) from he)
    obtain ⟨m, n, h4, h5, h6⟩ := bind2_some h3
    obtain rfl := asInt_some h4
    obtain rfl := asInt_some h5
    obtain ⟨⟨b1, b2, b3, b4⟩, h7⟩ := if_some h6
    cases h7
    exact two_b R h1 h2 fun B' H' u v s ru rv => ⟨m, n, by rw [rep_int ru, rep_int rv], ⟨by omega, by omega, by omega, by omega⟩, q B' H' _ B' s s.bh (fun _ Hx e _ => e) it_rng⟩
/-- a list that stands still; it is known at G, its items at B1 -/
theorem it_list {K : PySem.W.Frag} {B1 G : Hp} {p : Addr} {ds : List D} {vs : List V} (h : SqL K G p vs) (r : Reps K B1 ds vs) : ItOk K B1 G ds (Itl K p) where
  go := fun i H hi e => by
    have hi' : i < vs.length := by rw [r.length]; exact hi
    exact ⟨vs, vs[i], e.sq h, List.getElem?_eq_getElem hi'⟩
  yl := fun i H x H' Bc d hd e1 e2 e3 hy => by
    obtain ⟨rfl, hy⟩ := hy
    obtain ⟨v, h1, h2⟩ := r.get hd
    have h3 := hy vs (e3.sq h)
    rw [h1] at h3
    cases h3
    exact ⟨Bc, Step.refl e2, Rep.mono e1 _ _ h2⟩
  st := fun i H hi e => ⟨vs, e.sq h, by rw [r.length, hi]; exact Nat.le_refl _⟩
theorem it_rev {K : PySem.W.Frag} {B1 G : Hp} {p : Addr} {ds : List D} {vs : List V} (h : SqL K G p vs) (r : Reps K B1 ds vs) : ItOk K B1 G ds.reverse (Itv K p vs.length) where
  go := fun i H hi e => by
    have hi' : i < vs.length := by rw [r.length]; simpa using hi
    exact ⟨hi', vs, vs[vs.length - 1 - i], e.sq h, List.getElem?_eq_getElem (by omega)⟩
  yl := fun i H x H' Bc d hd e1 e2 e3 hy => by
    obtain ⟨rfl, hy⟩ := hy
    obtain ⟨v, h1, h2⟩ := r.reverse.get hd
    have h3 := hy vs (e3.sq h)
    have hi : i < vs.length := by
      have := (List.getElem?_eq_some_iff.mp h1).1
      simpa using this
    rw [List.getElem?_reverse hi, h3] at h1
    cases h1
    exact ⟨Bc, Step.refl e2, Rep.mono e1 _ _ h2⟩
  st := fun i H hi e => by
    show vs.length ≤ i
    rw [hi, r.length]; simp
theorem enumFrom_get : ∀ (xs : List D) (n i : Nat) {d : D}, (enumFrom n xs)[i]? = some d → ∃ x, xs[i]? = some x ∧ d = .tup [.int ((n + i : Nat) : Int), x]
  | [], n, i, d, h => by simp [enumFrom] at h
  | x :: xs, n, 0, d, h => by
    have h' : D.tup [.int n, x] = d := by simpa [enumFrom] using h
    exact ⟨x, rfl, by rw [← h']; rfl⟩
  | x :: xs, n, i + 1, d, h => by
    obtain ⟨y, h1, h2⟩ := enumFrom_get xs (n + 1) i (d := d) (by simpa [enumFrom] using h)
    exact ⟨y, by simpa using h1, by rw [h2]; congr 3; omega⟩
theorem enumFrom_length : ∀ (xs : List D) (n : Nat), (enumFrom n xs).length = xs.length
  | [], _ => rfl
  | x :: xs, n => by rw [enumFrom, List.length_cons, List.length_cons, enumFrom_length xs]
theorem it_enum {K : PySem.W.Frag} {B1 G : Hp} {p : Addr} {ds : List D} {vs : List V} (h : SqL K G p vs) (r : Reps K B1 ds vs) : ItOk K B1 G (enumFrom 0 ds) (Ite K p) where
  go := fun i H hi e => by
    have hi' : i < vs.length := by rw [r.length]; rw [enumFrom_length] at hi; exact hi
    exact ⟨vs, vs[i], e.sq h, List.getElem?_eq_getElem hi'⟩
  yl := fun i H x H' Bc d hd e1 e2 e3 hy => by
    obtain ⟨T, w, rfl, hT, rfl, hy⟩ := hy
    obtain ⟨d', h1, rfl⟩ := enumFrom_get ds 0 i hd
    obtain ⟨v, h2, h3⟩ := r.get h1
    have h4 := hy vs (e3.sq h)
    rw [h2] at h4
    cases h4
    refine ⟨upd Bc T (.tup [.int (i : Nat), w]), Step.new e2 hT, tup_rep upd_same ?_⟩
    have e4 : Ext Bc (upd Bc T (.tup [.int (i : Nat), w])) := Ext.new (e2.back hT)
    rw [show ((0 + i : Nat) : Int) = ((i : Nat) : Int) by omega]
    exact reps_cons int_rep (reps_cons (Rep.mono (e1.trans e4) _ _ h3) reps_nil)
  st := fun i H hi e => ⟨vs, e.sq h, by rw [r.length, hi, enumFrom_length]; exact Nat.le_refl _⟩
theorem it_str {K : PySem.W.Frag} {B1 G : Hp} {s : List Nat} : ItOk K B1 G (s.map fun c => .str [c]) (Its (sv s)) where
  go := fun i H hi e => by
    show i < s.toArray.size
    simpa using hi
  yl := fun i H x H' Bc d hd e1 e2 e3 hy => by
    obtain ⟨rfl, ch, h1, rfl⟩ := hy
    refine ⟨Bc, Step.refl e2, ?_⟩
    have h2 : s[i]? = some ch := by simpa [sv] using h1
    rw [List.getElem?_map, h2] at hd
    cases hd
    exact str_rep
  st := fun i H hi e => by
    show s.toArray.size ≤ i
    rw [hi]; simp
/-- how a walked list comes: (frozen | new) given up, one's own, lent -/
theorem src_ok {K : PySem.W.Frag} {B0 H0 B H B' H' : Hp} {env : Env} {σ : L2.St} {o : Addr → Option Nat} {k : Kd} {ds : List D} {v : V} {F : List Addr} (R : Rel K B0 H0 B env σ H o) (s : Step B H B' H') (r : ROk K H0 B' H' k (.lst ds) v F) (f : FrF H B' F)
    (hk : k ≠ .own2) (hl : k = .lent → ds.all D.atom = true) :
    ∃ p vs B2 G, v = .ref p ∧ Step B H B2 H' ∧ SqL K H' p vs ∧ SqL K G p vs ∧ Reps K B2 ds vs ∧ Ext G H' ∧ (decide (k = .own1) = false → ∀ Hx, Ext B2 Hx → Ext H0 Hx → Ext G Hx) := by
  rcases kd_split k with hk' | rfl | rfl | rfl
  · obtain ⟨B2, s2, r2⟩ := give_rep s hk' r f
    obtain ⟨p, vs, rfl, q1, q2⟩ := rep_lst r2
    exact ⟨p, vs, B2, B2, rfl, s2, s2.bh.sq q1, q1, q2, s2.bh, fun _ Hx e _ => e⟩
  · obtain ⟨_, G, a', rfl, rfl, z⟩ := r
    rcases z with ⟨vs, ds', z, q1, q2⟩ | ⟨_, _, z, _⟩
    · cases z
      exact ⟨a', vs, B', H', rfl, s, SqL.of q1, SqL.of q1, q2, Ext.refl _, fun z => by simp at z⟩
    · cases z
  · exact absurd rfl hk
  · obtain ⟨p, vs, rfl, q1, q2⟩ := rep_lst r.2
    have q3 : Reps K B' ds vs := by
      have h := hl rfl
      clear hl r f
      induction ds generalizing vs with
      | nil => rw [q2.nil_of]; exact reps_nil
      | cons d ds ih =>
        obtain ⟨w, rr, rfl, h1, h2⟩ := q2.cons_of
        rw [List.all_cons, Bool.and_eq_true] at h
        refine reps_cons (Rep.atom h.1 h1) ?_
        have : ∀ (vs : List V) (ds : List D), ds.all D.atom = true → Reps K H0 ds vs → Reps K B' ds vs := by
          intro vs ds
          induction ds generalizing vs with
          | nil => intro _ r; rw [r.nil_of]; exact reps_nil
          | cons d ds ih =>
            intro h r
            obtain ⟨w, rr, rfl, h1, h2⟩ := r.cons_of
            rw [List.all_cons, Bool.and_eq_true] at h
            exact reps_cons (Rep.atom h.1 h1) (ih rr h.2 h2)
        exact this rr ds h.2 h2
    exact ⟨p, vs, B', H0, rfl, s, (R.h0.trans s.hh).sq q1, q1, q3, R.h0.trans s.hh, fun _ Hx _ e => e⟩
theorem si_lst {tg : Expr} (ha : SE C X a x) : SI C X tg (.lst a) x := by
  have h1 : PI X tg x (iList X.K (tE C X.K a)) := pi_list ha
  have h2 : PI X tg x (iStr (tE C X.K a)) := pi_str ha
  have h3 : PI X tg x (iTup X.K (tE C X.K a)) := pi_tup ha
  refine ⟨fun pins s σ H Rr I q => ?_⟩
  obtain ⟨B0, H0, B, env, o, xs, own, R, he, q⟩ := q
  obtain ⟨⟨d, k⟩, e1, e2⟩ := bind1_some (show ((ev C a env).bind fun p => match p.1 with
      | .lst xs => if p.2 = .own2 then none else if p.2 = .lent then (if xs.all D.atom then some (xs, false) else none) else some (xs, decide (p.2 = .own1))
      | .tup xs => if p.2 = .frz then some (xs, false) else none
      | .str s => some (s.map fun c => .str [c], false)
      | _ => none) = some (xs, own) from he)
  cases d with
  | lst ds =>
    refine h1.run pins s σ H Rr I ⟨B0, H0, B, env, o, .lst ds, k, R, e1, fun B' H' v F st r f => ?_⟩
    have e3 : k ≠ .own2 ∧ (k = .lent → ds.all D.atom = true) ∧ xs = ds ∧ own = decide (k = .own1) := by
      simp only at e2
      by_cases z : k = .own2
      · rw [if_pos z] at e2; cases e2
      · rw [if_neg z] at e2
        by_cases z2 : k = .lent
        · rw [if_pos z2] at e2
          obtain ⟨e4, e5⟩ := if_some e2
          cases e5
          exact ⟨z, fun _ => e4, rfl, by rw [z2]; rfl⟩
        · rw [if_neg z2] at e2
          cases e2
          exact ⟨z, fun w => absurd w z2, rfl, rfl⟩
    obtain ⟨e4, e5, rfl, rfl⟩ := e3
    obtain ⟨p, vs, B2, G, rfl, s2, q1, q2, q3, q4, q5⟩ := src_ok R st r f e4 e5
    exact ⟨p, rfl, ⟨vs, q1⟩, q B2 H' _ G s2 q4 q5 (it_list q2 q3)⟩
  | tup ds =>
    refine h3.run pins s σ H Rr I ⟨B0, H0, B, env, o, .tup ds, k, R, e1, fun B' H' v F st r f => ?_⟩
    obtain ⟨e3, e4⟩ := if_some e2
    cases e4
    simp only at e3
    subst e3
    obtain ⟨p, vs, rfl, q1, q2⟩ := rep_tup r.2
    refine ⟨p, rfl, ⟨vs, SqT.of (st.bh.at q1 nt_tup)⟩, q B' H' _ B' st st.bh (fun _ Hx e _ => e) ⟨fun i H hi e => ?_, fun i H x H2 Bc d hd e1 e2 e3 hy => ?_, fun i H hi e => ?_⟩⟩
    · have hi' : i < vs.length := by rw [q2.length]; exact hi
      exact ⟨vs, vs[i], SqT.of (e.at q1 nt_tup), List.getElem?_eq_getElem hi'⟩
    · obtain ⟨rfl, hy⟩ := hy
      obtain ⟨w, h5, h6⟩ := q2.get hd
      have h7 := hy vs (SqT.of (e3.at q1 nt_tup))
      rw [h5] at h7
      cases h7
      exact ⟨Bc, Step.refl e2, Rep.mono e1 _ _ h6⟩
    · exact ⟨vs, SqT.of (e.at q1 nt_tup), by rw [q2.length, hi]; exact Nat.le_refl _⟩
  | str t =>
    refine h2.run pins s σ H Rr I ⟨B0, H0, B, env, o, .str t, k, R, e1, fun B' H' v F st r f => ?_⟩
    cases e2
    exact ⟨sv t, rep_str (r.rep st.bh (R.h0.trans st.hh)), q B' H' _ B' st st.bh (fun _ Hx e _ => e) it_str⟩
  | non => cases e2
  | bl _ => cases e2
  | int _ => cases e2
  | dic _ => cases e2
theorem two_ifs {k : Kd} {α : Type} {p q : α} (h : (if k = .own2 ∨ k = .lent then none else some p) = some q) : k ≠ .own2 ∧ k ≠ .lent ∧ p = q := by
  by_cases z : k = .own2 ∨ k = .lent
  · rw [if_pos z] at h; cases h
  · rw [if_neg z] at h
    exact ⟨fun w => z (.inl w), fun w => z (.inr w), Option.some.inj h⟩
theorem si_enum {es : List Expr} {kk : Nat} {tp : Pos} (G : Gd X) (ha : SE C X a x) (hg : Gl X ("enumerate" : Str) := by rfl) (hs : starEach [x] X.env = [(false, eval x X.env)] := by rfl) : SI C X (.Tuple es kk tp) (.enum a) (.Call (.Name ("enumerate" : Str) p) [x] [] pos) :=
  imp_i (pi_enum hg G.enum (pa_cons ha pa_nil hs) hs) fun σ H Rr ⟨B0, H0, B, env, o, xs, own, R, he, q⟩ => by
    obtain ⟨⟨d, k⟩, e1, e2⟩ := bind1_some (show ((ev C a env).bind fun p => match p.1 with
      | .lst xs => if p.2 = .own2 ∨ p.2 = .lent then none else some (enumFrom 0 xs, decide (p.2 = .own1))
      | _ => none) = some (xs, own) from he)
    refine ⟨B0, H0, B, env, o, d, k, R, e1, fun B' H' v F st r f => ?_⟩
    cases d <;> simp only [reduceCtorEq] at e2
    obtain ⟨e4, e5, e6⟩ := two_ifs e2
    cases e6
    obtain ⟨p, vs, B2, G, rfl, s2, q1, q2, q3, q4, q5⟩ := src_ok R st r f e4 fun z => absurd z e5
    exact ⟨p, vs, rfl, q1, q B2 H' _ G s2 q4 q5 (it_enum q2 q3)⟩
theorem si_rev {tg : Expr} (G : Gd X) (ha : SE C X a x) (hg : Gl X ("reversed" : Str) := by rfl) (hs : starEach [x] X.env = [(false, eval x X.env)] := by rfl) : SI C X tg (.rev a) (.Call (.Name ("reversed" : Str) p) [x] [] pos) :=
  imp_i (pi_reversed hg G.rev (pa_cons ha pa_nil hs) hs) fun σ H Rr ⟨B0, H0, B, env, o, xs, own, R, he, q⟩ => by
    obtain ⟨⟨d, k⟩, e1, e2⟩ := bind1_some (show ((ev C a env).bind fun p => match p.1 with
      | .lst xs => if p.2 = .own2 ∨ p.2 = .lent then none else some (xs.reverse, decide (p.2 = .own1))
      | _ => none) = some (xs, own) from he)
    refine ⟨B0, H0, B, env, o, d, k, R, e1, fun B' H' v F st r f => ?_⟩
    cases d <;> simp only [reduceCtorEq] at e2
    obtain ⟨e4, e5, e6⟩ := two_ifs e2
    cases e6
    obtain ⟨p, vs, B2, G, rfl, s2, q1, q2, q3, q4, q5⟩ := src_ok R st r f e4 fun z => absurd z e5
    exact ⟨p, vs, rfl, q1, q B2 H' _ G s2 q4 q5 (it_rev q2 q3)⟩
end
end Hg
end

section
set_option Elab.async false
set_option maxRecDepth 100000
set_option autoImplicit false
set_option maxHeartbeats 4000000
/-! Snd6: comprehensions; calls. -/
namespace Hg
open PySem PySem.Spec PyProof.Rows L2
variable [TB : Tabl]

theorem Gd.blk {X : Cx} (G : Gd X) {s : Shared} {H : Hp} {scope : Scope} {env : PySem.Env} {fp : List Addr} : Gd (X.blk s H scope env fp) :=
  ⟨G.calm, G.nd, G.un, G.len, G.range, G.sorted, G.min, G.max, G.sum, G.isi, G.list, G.tuple, G.dict, G.int, G.str, G.bool, G.set, G.enum, G.rev, G.zip⟩

/-! ### forgotten slots -/
theorem unset_length : ∀ (is : List Nat) (env : Hg.Env), (unset is env).length = env.length
  | [], env => rfl
  | i :: is, env => by
    show (unset is (env.set i .un)).length = _
    rw [unset_length is, List.length_set]
theorem unset_val : ∀ {is : List Nat} {env : Hg.Env} {j : Nat} {d : D} {k : Kd}, (unset is env)[j]? = some (.val d k) → j ∉ is ∧ env[j]? = some (.val d k)
  | [], env, j, d, k, h => ⟨by simp, h⟩
  | i :: is, env, j, d, k, h => by
    obtain ⟨h1, h2⟩ := unset_val (is := is) (env := env.set i .un) h
    rw [List.getElem?_set] at h2
    by_cases hj : i = j
    · subst hj
      rw [if_pos rfl] at h2
      by_cases hl : i < env.length
      · rw [if_pos hl] at h2; cases h2
      · rw [if_neg hl] at h2; cases h2
    · rw [if_neg hj] at h2
      refine ⟨fun z => ?_, h2⟩
      rcases List.mem_cons.mp z with z | z
      · exact hj z.symm
      · exact h1 z
theorem wipe_len (σ : L2.St) (vs : List Nat) : (wipe σ vs).length = σ.length := wipe_length σ vs
theorem wipe_get (σ : L2.St) : ∀ (vs : List Nat) (j : Nat), (wipe σ vs)[j]? = if j ∈ vs then (if j < σ.length then some none else none) else σ[j]?
  | [], j => by simp [wipe]
  | v :: vs, j => by
    show ((wipe σ vs).set v none)[j]? = _
    rw [List.getElem?_set, wipe_len]
    by_cases hj : v = j
    · subst hj
      rw [if_pos rfl, if_pos (List.mem_cons_self ..)]
    · rw [if_neg hj, wipe_get σ vs j]
      by_cases h : j ∈ vs
      · rw [if_pos h, if_pos (List.mem_cons_of_mem _ h)]
      · rw [if_neg h, if_neg]
        intro z
        rcases List.mem_cons.mp z with z | z
        · exact hj z.symm
        · exact h z
theorem wipe_kept {σ σ2 : L2.St} {vs : List Nat} (h : Kept vs (wipe σ vs) σ2) : wipe σ2 vs = wipe σ vs := by
  apply List.ext_getElem?
  intro j
  have hl : σ2.length = σ.length := by rw [h.1, wipe_len]
  rw [wipe_get, wipe_get, hl]
  by_cases hj : j ∈ vs
  · rw [if_pos hj, if_pos hj]
  · rw [if_neg hj, if_neg hj, h.2 j hj, wipe_get, if_neg hj]
section
variable {K : PySem.W.Frag} {B0 H0 B H : Hp} {env : Hg.Env} {σ : L2.St} {o : Addr → Option Nat}
theorem Rel.unset (R : Rel K B0 H0 B env σ H o) (is : List Nat) : Rel K B0 H0 B (unset is env) σ H o where
  b0 := R.b0
  h0 := R.h0
  bh := R.bh
  tt := R.tt
  gr := R.gr
  len := by rw [unset_length]; exact R.len
  sl := fun i d k h => R.sl i d k (unset_val h).2
  fr := R.fr
  nc := R.nc
theorem Rel.wiped (R : Rel K B0 H0 B env σ H o) (is : List Nat) : Rel K B0 H0 B (Hg.unset is env) (wipe σ is) H o where
  b0 := R.b0
  h0 := R.h0
  bh := R.bh
  tt := R.tt
  gr := R.gr
  len := by rw [unset_length, wipe_len]; exact R.len
  sl := fun i d k h => by
    obtain ⟨h1, h2⟩ := unset_val h
    obtain ⟨v, F, q1, q2, q3, q4⟩ := R.sl i d k h2
    exact ⟨v, F, by rw [wipe_get, if_neg h1]; exact q1, q2, q3, q4⟩
  fr := R.fr
  nc := R.nc
end
theorem Step.none {B H B' H' : Hp} {a : Addr} (s : Step B H B' H') (h : B a = none) (h' : H a ≠ none) : B' a = none := by
  cases q : B' a with
  | none => rfl
  | some u => exact ((s.nw a (by rw [q]; exact fun z => nomatch z)).elim (fun z => z h) fun z => h' z).elim
theorem optAll_length {α β : Type} {f : α → Option β} : ∀ {xs : List α} {ys : List β}, optAll f xs = some ys → ys.length = xs.length
  | [], ys, h => by cases h; rfl
  | x :: xs, ys, h => by
    simp only [optAll, Option.bind_eq_some_iff] at h
    obtain ⟨y, _, zs, h2, h3⟩ := h
    cases h3
    rw [List.length_cons, List.length_cons, optAll_length h2]
theorem optAll_get {α β : Type} {f : α → Option β} : ∀ {xs : List α} {ys : List β} {i : Nat} {x : α}, optAll f xs = some ys → xs[i]? = some x → ∃ y, ys[i]? = some y ∧ f x = some y
  | [], ys, i, x, _, e => by simp at e
  | x' :: xs, ys, i, x, h, e => by
    simp only [optAll, Option.bind_eq_some_iff] at h
    obtain ⟨y, h1, zs, h2, h3⟩ := h
    cases h3
    cases i with
    | zero =>
      have e' : x' = x := by simpa using e
      subst e'
      exact ⟨y, rfl, h1⟩
    | succ i =>
      obtain ⟨w, q1, q2⟩ := optAll_get h2 (i := i) (x := x) (by simpa using e)
      exact ⟨w, by simpa using q1, q2⟩
theorem OwnL.snoc {P : V → D → List Addr → Prop} {v : V} {d : D} {G : List Addr} (h : P v d G) : ∀ {vs : List V} {ds : List D} {F : List Addr}, OwnL P vs ds F → OwnL P (vs ++ [v]) (ds ++ [d]) (F ++ G)
  | [], [], F, q => by
    have q' : F = [] := q
    subst q'
    exact ⟨G, [], by simp, h, rfl⟩
  | w :: vs, e :: ds, F, q => by
    obtain ⟨F1, F2, rfl, q1, q2⟩ := q
    exact ⟨F1, F2 ++ G, by simp, q1, q2.snoc h⟩
  | [], _ :: _, F, q => q.elim
  | _ :: _, [], F, q => q.elim

/-! ### comprehensions -/
/-- the list so far: n of what ps gives -/
def Acc (K : PySem.W.Frag) (deep : Bool) (H1 Bc Hc : Hp) (Dl : Addr) (ps : List (D × Kd)) (dsA : List D) (n : Nat) (acc : List V) : Prop :=
  if deep = true then ∃ F, OwnL (Own1 K Bc Hc) acc (dsA.take n) F ∧ F.Nodup ∧ ∀ a ∈ F, H1 a = none ∧ Bc a = none ∧ a ≠ Dl else Reps K Bc (dsA.take n) acc
theorem Acc.length {K : PySem.W.Frag} {deep : Bool} {H1 Bc Hc : Hp} {Dl : Addr} {ps : List (D × Kd)} {dsA : List D} {n : Nat} {acc : List V} (h : Acc K deep H1 Bc Hc Dl ps dsA n acc) : acc.length ≤ dsA.length := by
  unfold Acc at h
  by_cases hd : deep = true
  · rw [if_pos hd] at h
    obtain ⟨F, h, _⟩ := h
    rw [h.length, List.length_take]
    exact Nat.min_le_right _ _
  · rw [if_neg hd] at h
    rw [h.length, List.length_take]
    exact Nat.min_le_right _ _
theorem Acc.step {K : PySem.W.Frag} {deep : Bool} {H1 Bc Hc B' H' : Hp} {Dl : Addr} {ps : List (D × Kd)} {dsA : List D} {n : Nat} {acc : List V} (h : Acc K deep H1 Bc Hc Dl ps dsA n acc) (s : Step Bc Hc B' H') : Acc K deep H1 B' H' Dl ps dsA n acc := by
  unfold Acc at h ⊢
  by_cases hd : deep = true
  · rw [if_pos hd] at h ⊢
    obtain ⟨F, h1, h2, h3⟩ := h
    exact ⟨F, h1.mono s.bb s.hh, h2, fun a ha => ⟨(h3 a ha).1, s.none (h3 a ha).2.1 (h1.there a ha), (h3 a ha).2.2⟩⟩
  · rw [if_neg hd] at h ⊢
    exact Reps.mono s.bb _ _ h
section
variable {C : Nat → List D → Option D} {X : Cx} {elt : E} {ex tgx iter : Expr} {tg : Tg} {it : Hg.It} {cond : T} {pos : Pos} {ifs : List Expr} {scope : Scope} {own : List (Str × Nat)} {deep : Bool}
theorem lc_body {B0 H0 B H : Hp} {env : Hg.Env} {σ : L2.St} {o : Addr → Option Nat} {d : D} {k : Kd} {Q : VK} {xs : List D} {ps : List (D × Kd)} (R : Rel X.K B0 H0 B env σ H o)
    (h3 : compL (fun d => (bindT tg d (unset tg.slots env)).bind fun e1 => (evT C cond e1).bind fun p => if p then (ev C elt e1).map some else some none) xs = some ps) (h4 : compR deep ps = some (d, k)) (q : ∀ B' H' v F, Step B H B' H' → ROk X.K H0 B' H' k d v F → FrF H B' F → Q v H')
    {B1 H1 : Hp} {J : L2.It} {Gh : Hp} (s1 : Step B H B1 H1) (eG : Ext Gh H1) (hJ : ItOk X.K B1 Gh xs J) : tLc (fun _ H R => R J H) (tG X.K tg) (tT C X.K cond) (tE C X.K elt) tg.slots σ H1 Q := by
  show ∀ D, H1 D = none → _
  intro Dl hD
  -- what the list is in the end
  obtain ⟨dsA, hA1, hA2, hA3, hA4⟩ : ∃ dsA : List D, d = .lst dsA ∧ dsA.length = ps.length ∧ ps.length < L ∧ (if deep = true then k = .new2 ∧ dsA = ps.map (·.1) ∧ ps.all isNew1 = true else k = .new1 ∧ optAll keepD ps = some dsA) := by
    unfold compR at h4
    by_cases hl : ps.length < L
    · rw [if_pos hl] at h4
      by_cases hd : deep = true
      · rw [if_pos hd] at h4
        by_cases ha : ps.all isNew1 = true
        · rw [if_pos ha] at h4
          cases h4
          exact ⟨_, rfl, by simp, hl, by rw [if_pos hd]; exact ⟨rfl, rfl, ha⟩⟩
        · rw [if_neg ha] at h4
          cases h4
      · rw [if_neg hd, Option.map_eq_some_iff] at h4
        obtain ⟨ds, h5, h6⟩ := h4
        cases h6
        exact ⟨ds, rfl, optAll_length h5, hl, by rw [if_neg hd]; exact ⟨rfl, h5⟩⟩
    · rw [if_neg hl] at h4
      cases h4
  subst hA1
  refine ⟨fun i m Hc => ∃ Bc n rest acc, Step B1 H1 Bc Hc ∧ Bc Dl = none ∧ Hc Dl = some (.lst acc) ∧ m = xs.length - i ∧ i ≤ xs.length ∧
    compL (fun d => (bindT tg d (unset tg.slots env)).bind fun e1 => (evT C cond e1).bind fun p => if p then (ev C elt e1).map some else some none) (xs.drop i) = some rest ∧ ps.drop n = rest ∧ n ≤ ps.length ∧ Acc X.K deep H1 Bc Hc Dl ps dsA n acc,
    ⟨xs.length, B1, 0, ps, [], Step.own s1.bh hD, s1.bh.back hD, upd_same, by omega, Nat.zero_le _, h3, rfl, Nat.zero_le _, ?_⟩, ?_⟩
  · unfold Acc
    by_cases hd : deep = true
    · rw [if_pos hd]
      exact ⟨[], by simp [OwnL], List.nodup_nil, by simp⟩
    · rw [if_neg hd]
      simpa using reps_nil
  · rintro i m Hc ⟨Bc, n, rest, acc, sc, hb, hh, rfl, hi, hrest, hdrop, hn, hacc⟩
    have eGc : Ext Gh Hc := eG.trans sc.hh
    by_cases hlt : i < xs.length
    · refine .inr ⟨hJ.go i Hc hlt eGc, _, fun H' hN => ⟨xs.length - (i + 1), by omega, hN⟩, fun x H' hy => ?_⟩
      have hxi : xs[i]? = some xs[i] := List.getElem?_eq_getElem hlt
      obtain ⟨Bn, sn, rn⟩ := hJ.yl i Hc x H' Bc xs[i] hxi sc.bb sc.bh eGc hy
      rw [List.drop_eq_getElem_cons hlt] at hrest
      obtain ⟨ov, h5, h6⟩ := bind1_some hrest
      obtain ⟨rest', h7, h8⟩ := bind1_some h6
      obtain ⟨env1, h9, h10⟩ := bind1_some h5
      obtain ⟨b, h11, h12⟩ := bind1_some h10
      have Rw := ((R.wiped tg.slots).step s1).step (sc.trans sn)
      refine ⟨B0, H0, Bn, unset tg.slots env, o, xs[i], env1, Rw, rn, h9, fun σ2 o2 R2 hk => ⟨wipe_kept hk, ?_⟩⟩
      refine use_t R2 h11 fun B3 H3 s3 => ?_
      have sB := (sc.trans sn).trans s3
      have hb3 : B3 Dl = none := (sn.trans s3).none hb (by rw [hh]; exact fun z => nomatch z)
      have hh3 : H3 Dl = some (.lst acc) := s3.hh.at (sn.hh.at hh nt_lst) nt_lst
      cases b with
      | false =>
        cases h12
        have h8' : rest' = rest := Option.some.inj h8
        subst h8'
        exact ⟨B3, n, rest', acc, sB, hb3, hh3, rfl, hlt, h7, hdrop, hn, (hacc.step sn).step s3⟩
      | true =>
        have h12' : (ev C elt env1).map some = some ov := h12
        rw [Option.map_eq_some_iff] at h12'
        obtain ⟨⟨dv, kv⟩, h13, rfl⟩ := h12'
        have h8' : (dv, kv) :: rest' = rest := Option.some.inj h8
        subst h8'
        have hn' : n < ps.length := by
          rcases Nat.lt_or_ge n ps.length with z | z
          · exact z
          · rw [List.drop_of_length_le z] at hdrop
            cases hdrop
        have hpn : ps[n]? = some (dv, kv) := by
          rw [List.drop_eq_getElem_cons hn'] at hdrop
          rw [List.getElem?_eq_getElem hn']
          exact congrArg some (List.cons.inj hdrop).1
        have hdrop' : ps.drop (n + 1) = rest' := by
          rw [List.drop_eq_getElem_cons hn'] at hdrop
          exact (List.cons.inj hdrop).2
        show tE C X.K elt σ2 H3 _
        refine ⟨B0, H0, B3, env1, o2, dv, kv, R2.step s3, h13, fun B4 H4 v F s4 r4 f4 => ?_⟩
        have hacc4 := ((hacc.step sn).step s3).step s4
        have hh4 : H4 Dl = some (.lst acc) := s4.hh.at hh3 nt_lst
        have hb4 : B4 Dl = none := s4.none hb3 (by rw [hh3]; exact fun z => nomatch z)
        refine ⟨acc, hh4, Nat.lt_of_le_of_lt hacc.length (by rw [hA2]; exact sizeLt hA3), ?_⟩
        have up : Ext H4 (upd H4 Dl (.lst (acc ++ [v]))) → True := fun _ => trivial
        by_cases hd : deep = true
        · rw [if_pos hd] at hA4
          obtain ⟨_, hA5, hA6⟩ := hA4
          have hkv : kv = .new1 := by
            have := List.all_eq_true.mp hA6 (dv, kv) (List.mem_of_getElem? hpn)
            exact of_decide_eq_true this
          subst hkv
          have hacc3 := (hacc.step sn).step s3
          unfold Acc at hacc3
          rw [if_pos hd] at hacc3
          obtain ⟨F0, c1, a2, c3⟩ := hacc3
          have hF0 : ∀ a ∈ F0, H3 a ≠ none := c1.there
          have a1 := c1.mono s4.bb s4.hh
          have a3 : ∀ a ∈ F0, H1 a = none ∧ B4 a = none ∧ a ≠ Dl := fun a ha => ⟨(c3 a ha).1, s4.none (c3 a ha).2.1 (hF0 a ha), (c3 a ha).2.2⟩
          have hdn : dsA[n]? = some dv := by rw [hA5, List.getElem?_map, hpn]; rfl
          have hFD : ∀ a ∈ F, a ≠ Dl := fun a ha z => by
            have := f4.h a ha
            rw [z, hh3] at this
            cases this
          refine ⟨B4, n + 1, rest', acc ++ [v], ⟨(sB.trans s4).bb, (sB.trans s4).hh.upd hD (fun q => by rw [hh4]; exact code_lst), (sB.trans s4).bh.upd hb4 (fun q => by rw [hh4]; exact code_lst), (sB.trans s4).nw⟩, hb4, upd_same, rfl, hlt, h7, hdrop', hn', ?_⟩
          unfold Acc
          rw [if_pos hd]
          refine ⟨F0 ++ F, ?_, ?_, ?_⟩
          · rw [List.take_add_one, hdn]
            refine OwnL.snoc (Own1.keep r4 (Ext.refl _) fun a ha => upd_ne (hFD a ha)) (a1.keep (Ext.refl _) fun a ha => upd_ne (a3 a ha).2.2)
          · refine List.nodup_append.mpr ⟨a2, f4.nd, fun a ha b hb e => ?_⟩
            subst e
            exact hF0 a ha (f4.h a hb)
          · intro a ha
            rcases List.mem_append.mp ha with z | z
            · exact a3 a z
            · exact ⟨sB.hh.back (f4.h a z), f4.b a z, hFD a z⟩
        · rw [if_neg hd] at hA4
          obtain ⟨_, hA5⟩ := hA4
          obtain ⟨dp, e1, e2⟩ := optAll_get hA5 hpn
          unfold Acc at hacc4
          rw [if_neg hd] at hacc4
          -- given up
          obtain ⟨B5, s5, r5, hdp⟩ : ∃ B5, Step B3 H3 B5 H4 ∧ Rep X.K B5 dp v ∧ Ext B4 B5 := by
            have e2' : (if kv = .frz ∨ kv = .new1 ∨ kv = .new2 ∨ dv.atom = true then some dv else none) = some dp := e2
            obtain ⟨e3, rfl⟩ := if_some e2'
            by_cases ha : dv.atom = true
            · exact ⟨B4, s4, Rep.atom ha (r4.rep s4.bh ((R2.step s3).h0.trans s4.hh)), Ext.refl _⟩
            · rcases e3 with rfl | rfl | rfl | z
              · exact ⟨B4, s4, r4.2, Ext.refl _⟩
              · exact ⟨_, s4.give f4, Own1.give r4 f4.b fun a h => h, joinH_b f4.b⟩
              · exact ⟨_, s4.give f4, Own2.give r4 f4.b fun a h => h, joinH_b f4.b⟩
              · exact absurd z ha
          have hb5 : B5 Dl = none := s5.none hb3 (by rw [hh3]; exact fun z => nomatch z)
          refine ⟨B5, n + 1, rest', acc ++ [v], ⟨(sB.trans s5).bb, (sB.trans s5).hh.upd hD (fun q => by rw [hh4]; exact code_lst), (sB.trans s5).bh.upd hb5 (fun q => by rw [hh4]; exact code_lst), (sB.trans s5).nw⟩, hb5, upd_same, rfl, hlt, h7, hdrop', hn', ?_⟩
          unfold Acc
          rw [if_neg hd, List.take_add_one, e1]
          exact (Reps.mono hdp _ _ hacc4).append (reps_cons r5 reps_nil)
    · have hie : i = xs.length := by omega
      refine .inl ⟨hJ.st i Hc hie eGc, ?_⟩
      rw [hie, List.drop_length] at hrest
      have hr : rest = [] := (Option.some.inj hrest).symm
      subst hr
      have hne : n = ps.length := by
        have := congrArg List.length hdrop
        rw [List.length_drop] at this
        simp at this
        omega
      have htk : dsA.take n = dsA := List.take_of_length_le (by rw [hA2, hne]; exact Nat.le_refl _)
      unfold Acc at hacc
      rw [htk] at hacc
      have hDH : H Dl = none := s1.hh.back hD
      by_cases hd : deep = true
      · rw [if_pos hd] at hA4 hacc
        obtain ⟨rfl, _, _⟩ := hA4
        obtain ⟨F, a1, a2, a3⟩ := hacc
        refine q Bc Hc (.ref Dl) (Dl :: F) (s1.trans sc) ⟨Dl, F, acc, dsA, rfl, rfl, rfl, hh, a1⟩ ⟨List.nodup_cons.mpr ⟨fun z => (a3 Dl z).2.2 rfl, a2⟩, fun a ha => ?_, fun a ha => ?_⟩
        · rcases List.mem_cons.mp ha with rfl | z
          · exact hDH
          · exact s1.hh.back (a3 a z).1
        · rcases List.mem_cons.mp ha with rfl | z
          · exact hb
          · exact (a3 a z).2.1
      · rw [if_neg hd] at hA4 hacc
        obtain ⟨rfl, _⟩ := hA4
        exact q Bc Hc (.ref Dl) [Dl] (s1.trans sc) ⟨Dl, rfl, rfl, .inl ⟨acc, dsA, rfl, hh, hacc⟩⟩ (FrF.one hDH hb)

theorem lc_read (G : Gd X) (hown : own.map (·.2) = tg.slots) : ∀ σ H Q, tE C X.K (.comp deep elt tg it cond) σ H Q → tLc (tI C X.K it) (tG X.K tg) (tT C X.K cond) (tE C X.K elt) (own.map (·.2)) σ H Q := by
  intro σ H Q h
  obtain ⟨B0, H0, B, env, o, d, k, R, he, q⟩ := h
  rw [hown]
  obtain ⟨⟨xs, ow⟩, h1, h2⟩ := bind1_some (show ((evI C it (unset tg.slots env)).bind fun xs => (compL (fun d => (bindT tg d (unset tg.slots env)).bind fun e1 => (evT C cond e1).bind fun p => if p then (ev C elt e1).map some else some none) xs.1).bind (compR deep)) = some (d, k) from he)
  obtain ⟨ps, h3, h4⟩ := bind1_some h2
  exact ⟨B0, H0, B, unset tg.slots env, o, xs, ow, R.unset _, h1, fun B1 H1 J Gh s1 eG hG hJ => lc_body R h3 h4 q s1 eG hJ⟩

/-- a comprehension as a value -/
theorem se_comp (G : Gd X) (own : List (Str × Nat)) (hi : SI C X tgx it iter)
    (hg : ∀ (s : Shared) (H : Hp) (Cl : Addr) (cl : List (Str × Addr)) (fp : List Addr), SG (X.blk s H scope (compEnvC scope cl Cl X.env) fp) tg tgx)
    (ht : ∀ (s : Shared) (H : Hp) (Cl : Addr) (cl : List (Str × Addr)) (fp : List Addr), PTs (X.blk s H scope (compEnvC scope cl Cl X.env) fp) ifs (tT C X.K cond))
    (he : ∀ (s : Shared) (H : Hp) (Cl : Addr) (cl : List (Str × Addr)) (fp : List Addr), SE C (X.blk s H scope (compEnvC scope cl Cl X.env) fp) elt ex)
    (ok : BlkOk X.N X.env.scope scope own := by exact blkOk_by (by kernel_rfl)) (hown : own.map (·.2) = tg.slots := by rfl) (hs : ∀ x, foldedSetIterable iter X.env x = pure x := by intro _; rfl) : SE C X (.comp deep elt tg it cond) (.ListComp ex [⟨tgx, iter, ifs, 0⟩] scope pos) :=
  imp_e (pe_lc G.calm G.nd hi ok hg ht he hs) (lc_read G hown)
theorem sts_yes : PTs X [] (tT C X.K .yes) := ⟨fun pins s σ H Q I q => by
  obtain ⟨B0, H0, B, env, o, b, R, he, q⟩ := q
  cases (show some true = some b from he)
  exact pts_nil.run pins s σ H Q I (q B H (Step.refl R.bh))⟩
theorem sts_one {c : Expr} {t : T} (h : ST C X t c) : PTs X [c] (tT C X.K t) := pts_one h

/-! ### calls -/
/-- arguments: those at places that the callee is lent are only looked at -/
def RepM (K : PySem.W.Frag) (B H : Hp) : List Bool → List D → List V → Prop
  | _, [], vs => vs = []
  | m, d :: ds, vs => ∃ v r, vs = v :: r ∧ (if m.headD false then Rep K H d v else Rep K B d v) ∧ RepM K B H m.tail ds r
theorem RepM.mono {K : PySem.W.Frag} {B H B' H' : Hp} (e : Ext B B') (e' : Ext H H') : ∀ {m : List Bool} {ds : List D} {vs : List V}, RepM K B H m ds vs → RepM K B' H' m ds vs
  | _, [], vs, h => h
  | m, d :: ds, vs, h => by
    obtain ⟨v, r, rfl, h1, h2⟩ := h
    refine ⟨v, r, rfl, ?_, h2.mono e e'⟩
    by_cases hm : m.headD false = true
    · rw [if_pos hm] at h1 ⊢
      exact Rep.mono e' _ _ h1
    · rw [if_neg hm] at h1 ⊢
      exact Rep.mono e _ _ h1
theorem RepM.length {K : PySem.W.Frag} {B H : Hp} : ∀ {m : List Bool} {ds : List D} {vs : List V}, RepM K B H m ds vs → vs.length = ds.length
  | _, [], vs, h => by rw [show vs = [] from h]; rfl
  | m, d :: ds, vs, h => by
    obtain ⟨v, r, rfl, h1, h2⟩ := h
    rw [List.length_cons, List.length_cons, h2.length]
def tM (C : Nat → List D → Option D) (K : PySem.W.Frag) (m : List Bool) (es : Es) : TA := fun σ H Q => ∃ B0 H0 B env o ds, Rel K B0 H0 B env σ H o ∧ evm C m es env = some ds ∧ ∀ B' H' vs, Step B H B' H' → RepM K B' H' m ds vs → Q vs H'
abbrev SM (C : Nat → List D → Option D) (X : Cx) (m : List Bool) (es : Es) (xs : List Expr) : Prop := PA X xs (tM C X.K m es)
theorem use_m {K : PySem.W.Frag} {B0 H0 B H : Hp} {env : Hg.Env} {σ : L2.St} {o : Addr → Option Nat} {m : List Bool} {es : Es} {ds : List D} {Q : List V → Hp → Prop} (R : Rel K B0 H0 B env σ H o) (h : evm C m es env = some ds) (q : ∀ B' H' vs, Step B H B' H' → RepM K B' H' m ds vs → Q vs H') : tM C K m es σ H Q := ⟨B0, H0, B, env, o, ds, R, h, q⟩
theorem sm_nil {m : List Bool} : SM C X m .nil [] := imp_a pa_nil fun σ H Q ⟨B0, H0, B, env, o, ds, R, he, q⟩ => by
  cases (show some ([] : List D) = some ds from he)
  exact q B H [] (Step.refl R.bh) rfl
theorem sm_cons {m : List Bool} {a : E} {x : Expr} {es : Es} {xs : List Expr} (ha : SE C X a x) (hr : SM C X m.tail es xs) (hs : starEach (x :: xs) X.env = (false, eval x X.env) :: starEach xs X.env := by rfl) : SM C X m (.cons a es) (x :: xs) := imp_a (pa_cons ha hr hs) fun σ H Q ⟨B0, H0, B, env, o, ds, R, he, q⟩ => by
  obtain ⟨d, h1, h2⟩ := bind1_some (show ((if m.headD false then bm (ev C a env) else vm (ev C a env)).bind fun d => (evm C m.tail es env).bind fun ds => some (d :: ds)) = some ds from he)
  obtain ⟨dr, h3, h4⟩ := bind1_some h2
  cases h4
  by_cases hm : m.headD false = true
  · rw [if_pos hm] at h1
    exact use_b R h1 fun B1 H1 v s1 r1 => use_m (R.step s1) h3 fun B2 H2 vs s2 r2 => q B2 H2 (v :: vs) (s1.trans s2) ⟨v, vs, rfl, by rw [if_pos hm]; exact Rep.mono s2.hh _ _ r1, r2⟩
  · rw [if_neg hm] at h1
    exact use_v R h1 fun B1 H1 v s1 r1 => use_m (R.step s1) h3 fun B2 H2 vs s2 r2 => q B2 H2 (v :: vs) (s1.trans s2) ⟨v, vs, rfl, by rw [if_neg hm]; exact Rep.mono s2.bb _ _ r1, r2⟩
/-- what a def promises: its value, by sem -/
def spF (K : PySem.W.Frag) (lent : List Bool) (np : Nat) (sem : List D → Option D) : Sp := fun vs H Q _ => ∃ B ds d, Ext B H ∧ vs.length = np ∧ RepM K B H lent ds vs ∧ sem ds = some d ∧ TabsOk H ∧ ∀ B' H' v, Step B H B' H' → Rep K B' d v → Q v H'
/-- a def that stands at the module's top and keeps it -/
def Cal (P : Program) (w : World) (K : PySem.W.Frag) (mg : Str → Option Value) (base : Heap) (k : Nat) (n : Str) (lent : List Bool) (np : Nat) (sem : List D → Option D) : Prop :=
  ∃ f fd ps, FnOk P w K mg base CX0 k f fd ps (spF K lent np sem) ∧ mg n = some (.ref f) ∧ PySem.W.keepIn K (.ref f) = true ∧ Binds K fd ps []
theorem evm_length : ∀ {m : List Bool} {es : Es} {env : Hg.Env} {ds : List D}, evm C m es env = some ds → ds.length = Es.count es
  | m, .nil, env, ds, h => by cases (show some ([] : List D) = some ds from h); rfl
  | m, .cons e r, env, ds, h => by
    obtain ⟨d, h1, h2⟩ := bind1_some (show ((if m.headD false then bm (ev C e env) else vm (ev C e env)).bind fun d => (evm C m.tail r env).bind fun ds => some (d :: ds)) = some ds from h)
    obtain ⟨dr, h3, h4⟩ := bind1_some h2
    cases h4
    rw [List.length_cons, evm_length h3]; rfl
theorem se_call {k j id : Nat} {n : Str} {p : Pos} {m : List Bool} {np : Nat} {sem : List D → Option D} {x : Expr} {es : Es} {xs : List Expr} (c : Cal X.prog X.w X.K X.mg X.base j n m np sem) (hr : Room k X.A) (hk : j ≤ k) (ha : SM C X m es (x :: xs)) (hC : C id = sem := by rfl)
    (hnp : Es.count es = np := by rfl) (hg : Gl X n := by rfl) (hdb : (n == ("__debug__" : Str)) = false := by decide) (he : starEach (x :: xs) X.env = (false, eval x X.env) :: starEach xs X.env := by rfl) (hpl : (backTo pos (starEach xs X.env)).any (·.1) = false := by rfl) :
    SE C X (.call id m es) (.Call (.Name n p) (x :: xs) [] pos) := by
  obtain ⟨f, fd, ps, F, h1, h2, h3⟩ := c
  refine imp_e (pe_call F (hr.mono hk) hg h1 h2 h3 .nil pass0 ha hdb he hpl) fun σ H Q ⟨B0, H0, B, env, o, d, k, R, hev, q⟩ => ?_
  obtain ⟨ds, h4, h5⟩ := bind1_some (show ((evm C m es env).bind fun ds => fr (C id ds)) = some (d, k) from hev)
  obtain ⟨h6, rfl⟩ := fr_some h5
  rw [hC] at h6
  refine use_m R h4 fun B' H' vs s r => ?_
  rw [List.append_nil]
  exact ⟨B', ds, d, s.bh, by rw [r.length, evm_length h4, hnp], r, h6, R.tt.ext (R.h0.trans s.hh), fun B2 H2 v s2 r2 => q B2 H2 v [] (s.trans s2) ⟨rfl, r2⟩ FrF.nil⟩
end
end Hg
end

section
set_option Elab.async false
set_option maxRecDepth 100000
set_option autoImplicit false
set_option maxHeartbeats 4000000
/-! Snd7: statements; a def; the end. -/
namespace Hg
open PySem PySem.Spec PyProof.Rows L2
variable [TB : Tabl]

def OutOk (K : PySem.W.Frag) (B0 H0 B : Hp) (Dn : Ends) : Out → Prop
  | .nx env' => ∀ B' σ' H' o', Rel K B0 H0 B' env' σ' H' o' → Ext B B' → Dn.nx σ' H'
  | .rt d => ∀ B' H' v, Step B0 H0 B' H' → Rep K B' d v → Dn.rt v H'
theorem OutOk.mono {K : PySem.W.Frag} {B0 H0 B B1 : Hp} {Dn : Ends} {out : Out} (h : OutOk K B0 H0 B Dn out) (e : Ext B B1) : OutOk K B0 H0 B1 Dn out := by
  cases out with
  | nx env' => exact fun B' σ' H' o' R e' => h B' σ' H' o' R (e.trans e')
  | rt d => exact h
theorem Rel.done {K : PySem.W.Frag} {B0 H0 B H : Hp} {env : Hg.Env} {σ : L2.St} {o : Addr → Option Nat} (R : Rel K B0 H0 B env σ H o) : Step B0 H0 B H := ⟨R.b0, R.h0, R.bh, R.gr⟩
def tS (C : Nat → List D → Option D) (K : PySem.W.Frag) (s : Hg.S) : TS := fun Dn σ H => ∃ B0 H0 B env o out, Rel K B0 H0 B env σ H o ∧ exec C FU s env = some out ∧ OutOk K B0 H0 B Dn out
abbrev SS (C : Nat → List D → Option D) (X : Cx) (s : Hg.S) (st : Stmt) : Prop := PS X st (tS C X.K s)
abbrev SB (C : Nat → List D → Option D) (X : Cx) (s : Hg.S) (sts : List Stmt) : Prop := PSs X sts (tS C X.K s)

section
variable {K : PySem.W.Frag} {B0 H0 B H : Hp} {env : Hg.Env} {σ : L2.St} {o : Addr → Option Nat}
/-! ### ghosts -/
theorem freeze_ok (R : Rel K B0 H0 B env σ H o) {i : Nat} {d : D} {k : Kd} {F : List Addr} {v : V} (hi : env[i]? = some (.val d k)) (hv : σ[i]? = some (some v)) (hF : ∀ a ∈ F, o a = some i) (hr : Rep K (joinH B H F) d v) :
    Rel K B0 H0 (joinH B H F) (env.set i (.val d .frz)) σ H (dropO o i) where
  b0 := R.b0.trans (joinH_b fun a ha => (R.fr a i (hF a ha)).1)
  h0 := R.h0
  bh := joinH_h R.bh
  tt := R.tt
  gr := fun a h => by
    by_cases q : a ∈ F
    · exact .inr (R.fr a i (hF a q)).2.1
    · rw [joinH_out q] at h; exact R.gr a h
  len := by rw [List.length_set]; exact R.len
  sl := fun j d' k' e => by
    rw [List.getElem?_set] at e
    by_cases hj : i = j
    · subst hj
      rw [if_pos rfl] at e
      by_cases hl : i < env.length
      · rw [if_pos hl] at e
        cases e
        exact ⟨v, [], hv, ⟨rfl, hr⟩, List.nodup_nil, by simp⟩
      · rw [if_neg hl] at e; cases e
    · rw [if_neg hj] at e
      obtain ⟨w, F', h1, h2, h3, h4⟩ := R.sl j d' k' e
      exact ⟨w, F', h1, h2.keep (joinH_b fun a ha => (R.fr a i (hF a ha)).1) (fun _ _ => rfl), h3, fun a ha => dropO_ne (h4 a ha) (Ne.symm hj)⟩
  fr := fun a j e => by
    obtain ⟨e1, e2⟩ := dropO_some e
    obtain ⟨h1, h2, h3⟩ := R.fr a j e1
    refine ⟨?_, h2, h3⟩
    rw [joinH_out fun q => e2 (Option.some.inj (e1.symm.trans (hF a q)))]
    exact h1
  nc := fun a j e => R.nc a j (dropO_some e).1
theorem Rel.frz1 (R : Rel K B0 H0 B env σ H o) (i : Nat) : ∃ B' o', Rel K B0 H0 B' (freeze1 env i) σ H o' ∧ Ext B B' := by
  unfold freeze1
  cases hi : env[i]? with
  | none => exact ⟨B, o, R, Ext.refl _⟩
  | some s =>
    cases s with
    | un => exact ⟨B, o, R, Ext.refl _⟩
    | val d k =>
      obtain ⟨v, F, h1, h2, h3, h4⟩ := R.sl i d k hi
      have hn : ∀ a ∈ F, B a = none := fun a ha => (R.fr a i (h4 a ha)).1
      cases k with
      | own1 => exact ⟨_, _, freeze_ok R hi h1 h4 (Own1.give h2 hn fun a h => h), joinH_b hn⟩
      | own2 => exact ⟨_, _, freeze_ok R hi h1 h4 (Own2.give h2 hn fun a h => h), joinH_b hn⟩
      | frz => exact ⟨B, o, R, Ext.refl _⟩
      | lent => exact ⟨B, o, R, Ext.refl _⟩
      | new1 => exact ⟨B, o, R, Ext.refl _⟩
      | new2 => exact ⟨B, o, R, Ext.refl _⟩
theorem Rel.frz : ∀ (is : List Nat) {B : Hp} {env : Hg.Env} {o : Addr → Option Nat}, Rel K B0 H0 B env σ H o → ∃ B' o', Rel K B0 H0 B' (freeze is env) σ H o' ∧ Ext B B'
  | [], B, env, o, R => ⟨B, o, R, Ext.refl _⟩
  | i :: is, B, env, o, R => by
    obtain ⟨B1, o1, R1, e1⟩ := R.frz1 i
    obtain ⟨B2, o2, R2, e2⟩ := Rel.frz is R1
    exact ⟨B2, o2, R2, e1.trans e2⟩
/-- a name gets a new object -/
theorem Rel.putO {B' H' : Hp} (R : Rel K B0 H0 B env σ H o) (s : Step B H B' H') {i : Nat} {d : D} {k : Kd} {v : V} {F : List Addr} (hk : KOk K H0 B' H' k d v F) (f : FrF H B' F) :
    Rel K B0 H0 B' (env.set i (.val d k)) (σ.set i (some v)) H' (fun a => if a ∈ F then some i else dropO o i a) := by
  have R' := R.step s
  refine ⟨R'.b0, R'.h0, R'.bh, R'.tt, R'.gr, by rw [List.length_set, List.length_set]; exact R.len, fun j d' k' e => ?_, fun a j e => ?_, fun a j e q => ?_⟩
  · rw [List.getElem?_set] at e
    by_cases hj : i = j
    · subst hj
      rw [if_pos rfl] at e
      by_cases hl : i < env.length
      · rw [if_pos hl] at e
        cases e
        refine ⟨v, F, ?_, hk, f.nd, fun a ha => if_pos ha⟩
        rw [List.getElem?_set, if_pos rfl, if_pos (by rw [R.len]; exact hl)]
      · rw [if_neg hl] at e; cases e
    · rw [if_neg hj] at e
      obtain ⟨w, F', h1, h2, h3, h4⟩ := R'.sl j d' k' e
      refine ⟨w, F', by rw [List.getElem?_set, if_neg hj]; exact h1, h2, h3, fun a ha => ?_⟩
      have hnF : a ∉ F := fun q => by
        have q1 := f.h a q
        have q2 := (R.fr a j (h4 a ha)).2.2
        exact q2 q1
      show (if a ∈ F then some i else dropO o i a) = some j
      rw [if_neg hnF]
      exact dropO_ne (h4 a ha) (Ne.symm hj)
  · by_cases hF : a ∈ F
    · refine ⟨f.b a hF, ?_, hk.there a hF⟩
      exact R.h0.back (f.h a hF)
    · have e' : dropO o i a = some j := by
        have e2 : (if a ∈ F then some i else dropO o i a) = some j := e
        rw [if_neg hF] at e2
        exact e2
      exact R'.fr a j (dropO_some e').1
  · by_cases hF : a ∈ F
    · obtain ⟨ob, e1, _, n⟩ := hk.thereN a hF
      rw [e1]; exact n q
    · have e' : dropO o i a = some j := by
        have e2 : (if a ∈ F then some i else dropO o i a) = some j := e
        rw [if_neg hF] at e2
        exact e2
      exact R'.nc a j (dropO_some e').1 q
/-- an object of one's own changes -/
theorem Rel.mut (R : Rel K B0 H0 B env σ H o) {i : Nat} {d d' : D} {k : Kd} {a : Addr} {ob : HO} (hi : env[i]? = some (.val d k)) (ha : o a = some i) (hk : ∀ v F, σ[i]? = some (some v) → KOk K H0 B H k d v F → F.Nodup → (∀ b ∈ F, o b = some i) → KOk K H0 B (upd H a ob) k d' v F) (hob : ∀ q, some ob ≠ some (LamX.CodeO a q) := by first | exact fun q => code_lst | exact fun q => code_dK) :
    Rel K B0 H0 B (env.set i (.val d' k)) σ (upd H a ob) o := by
  obtain ⟨f1, f2, f3⟩ := R.fr a i ha
  refine ⟨R.b0, R.h0.upd f2 (R.nc a i ha), R.bh.upd f1 (R.nc a i ha), R.tt, R.gr, by rw [List.length_set]; exact R.len, fun j d2 k2 e => ?_, fun b j e => ?_, fun b j e q => ?_⟩
  · rw [List.getElem?_set] at e
    by_cases hj : i = j
    · subst hj
      rw [if_pos rfl] at e
      by_cases hl : i < env.length
      · rw [if_pos hl] at e
        cases e
        obtain ⟨w, F, h1, h2, h3, h4⟩ := R.sl i d k hi
        exact ⟨w, F, h1, hk w F h1 h2 h3 h4, h3, h4⟩
      · rw [if_neg hl] at e; cases e
    · rw [if_neg hj] at e
      obtain ⟨w, F', h1, h2, h3, h4⟩ := R.sl j d2 k2 e
      refine ⟨w, F', h1, h2.keep (Ext.refl _) (fun b hb => upd_ne fun z => ?_), h3, h4⟩
      subst z
      exact hj (Option.some.inj (ha.symm.trans (h4 b hb)))
  · obtain ⟨g1, g2, g3⟩ := R.fr b j e
    refine ⟨g1, g2, ?_⟩
    by_cases z : b = a
    · subst z; rw [upd_same]; exact fun z => nomatch z
    · rw [upd_ne z]; exact g3
  · by_cases z : b = a
    · subst z; rw [upd_same]; exact hob q
    · rw [upd_ne z]; exact R.nc b j e q
end

section
variable {C : Nat → List D → Option D} {X : Cx} {a b c : E} {x y z : Expr} {pos p pos1 pos2 : Pos} {n : Str} {s s1 s2 : Hg.S} {st : Stmt} {sts : List Stmt} {t : T}
theorem sb_skip : SB C X .skip [] := imp_ss pss_nil fun Dn σ H ⟨B0, H0, B, env, o, out, R, he, q⟩ => by
  cases (show some (Out.nx env) = some out from he)
  exact q B σ H o R (Ext.refl _)
theorem sb_seq (h1 : SS C X s1 st) (h2 : SB C X s2 sts) : SB C X (.seq s1 s2) (st :: sts) := imp_ss (pss_cons h1 h2) fun Dn σ H ⟨B0, H0, B, env, o, out, R, he, q⟩ => by
  have he' : andThen (exec C FU s1 env) (exec C FU s2) = some out := he
  cases e1 : exec C FU s1 env with
  | none => rw [e1] at he'; cases he'
  | some o1 =>
    rw [e1] at he'
    refine ⟨B0, H0, B, env, o, o1, R, e1, ?_⟩
    cases o1 with
    | nx env1 => exact fun B' σ' H' o' R' e => ⟨B0, H0, B', env1, o', out, R', he', q.mono e⟩
    | rt d =>
      cases he'
      exact q
theorem sb_kill {is : List Nat} (h : SB C X s sts) : SB C X (.seq (.kill is) s) sts := imp_ss h fun Dn σ H ⟨B0, H0, B, env, o, out, R, he, q⟩ =>
  ⟨B0, H0, B, unset is env, o, out, R.unset is, he, q⟩
theorem sb_frz {is : List Nat} (h : SB C X s sts) : SB C X (.seq (.frz is) s) sts := imp_ss h fun Dn σ H ⟨B0, H0, B, env, o, out, R, he, q⟩ => by
  obtain ⟨B', o', R', e⟩ := Rel.frz is R
  exact ⟨B0, H0, B', freeze is env, o', out, R', he, q.mono e⟩
theorem ss_frz {is : List Nat} (h : SS C X s st) : SS C X (.seq (.frz is) s) st := imp_s h fun Dn σ H ⟨B0, H0, B, env, o, out, R, he, q⟩ => by
  obtain ⟨B', o', R', e⟩ := Rel.frz is R
  exact ⟨B0, H0, B', freeze is env, o', out, R', he, q.mono e⟩
theorem ss_ret (h : SE C X a x) : SS C X (.ret a) (.Return (some x) pos) := imp_s (ps_ret h) fun Dn σ H ⟨B0, H0, B, env, o, out, R, he, q⟩ => by
  have he' : (vm (ev C a env)).map Out.rt = some out := he
  rw [Option.map_eq_some_iff] at he'
  obtain ⟨d, h1, rfl⟩ := he'
  exact use_v R h1 fun B' H' v s r => q B' H' v (R.step s).done r
theorem ss_ite {xs ys : List Stmt} (ht : ST C X t z) (h1 : SB C X s1 xs) (h2 : SB C X s2 ys) : SS C X (.ite t s1 s2) (.If z xs ys pos) := imp_s (ps_if ht h1 h2) fun Dn σ H ⟨B0, H0, B, env, o, out, R, he, q⟩ => by
  obtain ⟨b, h1, h2⟩ := bind1_some (show ((evT C t env).bind fun p => if p then exec C FU s1 env else exec C FU s2 env) = some out from he)
  refine use_t R h1 fun B' H' s => ?_
  cases b with
  | true => exact ⟨B0, H0, B', env, o, out, R.step s, h2, q.mono s.bb⟩
  | false => exact ⟨B0, H0, B', env, o, out, R.step s, h2, q.mono s.bb⟩
theorem ss_drop (h : SE C X a x) (hs : swapsWith x none pos.line X.env = pure false := by rfl) : SS C X (.drop a) (.Expr x pos) := imp_s (ps_expr h hs) fun Dn σ H ⟨B0, H0, B, env, o, out, R, he, q⟩ => by
  have he' : (ev C a env).map (fun _ => Out.nx env) = some out := he
  rw [Option.map_eq_some_iff] at he'
  obtain ⟨⟨d, k⟩, h1, rfl⟩ := he'
  exact ⟨B0, H0, B, env, o, d, k, R, h1, fun B' H' v F s r f => q B' σ H' o (R.step s) s.bb⟩

/-! ### a name is given a value -/
theorem asg_read {i m : Nat} : ∀ Dn σ H, tS C X.K (.asg i m a) Dn σ H → tAsg (tE C X.K a) (gName i) Dn σ H := fun Dn σ H ⟨B0, H0, B, env, o, out, R, he, q⟩ => by
  obtain ⟨⟨d, k⟩, h1, h2⟩ := bind1_some (show ((ev C a env).bind fun p => (vm (some p)).bind fun d => some (Out.nx (env.set i (.val d (slotK m p.2))))) = some out from he)
  obtain ⟨d', h3, h4⟩ := bind1_some h2
  cases h4
  have hv : vm (ev C a env) = some d' := by rw [h1]; exact h3
  have h3' : (if k = .frz ∨ k = .new1 ∨ k = .new2 ∨ d.atom = true then some d else none) = some d' := h3
  obtain ⟨hk, rfl⟩ := if_some h3'
  by_cases hs : slotK m k = .frz
  · show tE C X.K a σ H fun v H1 => Dn.nx (σ.set i (some v)) H1
    refine use_v R hv fun B' H' v s r => ?_
    have R2 := (R.step s).put (i := i) r
    rw [← hs] at R2
    exact q B' _ H' _ R2 s.bb
  · refine ⟨B0, H0, B, env, o, d, k, R, h1, fun B' H' v F s r f => ?_⟩
    refine q B' _ H' _ (R.putO s ?_ f) s.bb
    cases k with
    | new1 =>
      have e : slotK m .new1 = .own1 := by
        match m, hs with
        | 0, hs => exact absurd rfl hs
        | 1, _ => rfl
        | m + 2, _ => rfl
      show KOk _ _ _ _ (slotK m .new1) _ _ _
      rw [e]
      exact r
    | new2 =>
      have e : slotK m .new2 = .own2 := by
        match m, hs with
        | 0, hs => exact absurd rfl hs
        | 1, hs => exact absurd rfl hs
        | m + 2, _ => rfl
      show KOk _ _ _ _ (slotK m .new2) _ _ _
      rw [e]
      exact r
    | frz => exact absurd (by match m with | 0 => rfl | 1 => rfl | m + 2 => rfl) hs
    | own1 => exact absurd (by match m with | 0 => rfl | 1 => rfl | m + 2 => rfl) hs
    | own2 => exact absurd (by match m with | 0 => rfl | 1 => rfl | m + 2 => rfl) hs
    | lent => exact absurd (by match m with | 0 => rfl | 1 => rfl | m + 2 => rfl) hs
theorem ss_asg {i m : Nat} (G : Gd X) (h : SE C X a x) (hi : X.N[i]? = some n := by rfl) (hx : Loc X.env.scope n := by first | exact .inl rfl | exact .inr rfl) (hs : swapsWith x (some (.Name n pos1)) pos.line X.env = pure false := by rfl)
    (hf : X.fn n = true ∨ X.env.scope.names.lookup n = some .local := by first | exact .inl rfl | exact .inr rfl) : SS C X (.asg i m a) (.Assign [.Name n pos1] x pos) := imp_s (ps_set G.nd hi hx h hs hf) asg_read
/-- a comprehension given to a name -/
theorem ss_asgC {i m : Nat} {elt : E} {ex tgx iter : Expr} {tg : Tg} {it : Hg.It} {cond : T} {posc : Pos} {ifs : List Expr} {scope : Scope} {deep : Bool} (G : Gd X) (own : List (Str × Nat)) (hi : SI C X tgx it iter)
    (hg : ∀ (s : Shared) (H : Hp) (Cl : Addr) (cl : List (Str × Addr)) (fp : List Addr), SG (X.blk s H scope (compEnvC scope cl Cl X.env) fp) tg tgx)
    (ht : ∀ (s : Shared) (H : Hp) (Cl : Addr) (cl : List (Str × Addr)) (fp : List Addr), PTs (X.blk s H scope (compEnvC scope cl Cl X.env) fp) ifs (tT C X.K cond))
    (he : ∀ (s : Shared) (H : Hp) (Cl : Addr) (cl : List (Str × Addr)) (fp : List Addr), SE C (X.blk s H scope (compEnvC scope cl Cl X.env) fp) elt ex)
    (ok : BlkOk X.N X.env.scope scope own := by exact blkOk_by (by kernel_rfl)) (hown : own.map (·.2) = tg.slots := by rfl) (hs : ∀ x, foldedSetIterable iter X.env x = pure x := by intro _; rfl)
    (hy : X.N[i]? = some n := by rfl) (hyl : X.env.scope.names.lookup n = some .local := by rfl) (hsw : swapsWith (.ListComp ex [⟨tgx, iter, ifs, 0⟩] scope posc) (some (.Name n pos1)) pos.line X.env = pure true := by exact sw_true rfl rfl rfl (by decide +kernel)) :
    SS C X (.asg i m (.comp deep elt tg it cond)) (.Assign [.Name n pos1] (.ListComp ex [⟨tgx, iter, ifs, 0⟩] scope posc) pos) :=
  imp_s (ps_setLc G.calm G.nd hy hyl hsw hi ok hg ht he hs) fun Dn σ H q => lc_read G hown σ H _ (asg_read Dn σ H q)
theorem ss_asgT {is : List Nat} {xs : List Expr} {kk : Nat} (h : SE C X a x) (hg : SG X (.tp is) (.Tuple xs kk pos1)) (hs : swapsWithSole [.Tuple xs kk pos1] x pos.line X.env = pure false := by rfl) (hw : swappedStores [.Tuple xs kk pos1] x X.env = pure none := by rfl)
    (h1 : (assignEach [.Tuple xs kk pos1] X.env).map (·.2) = [assign (.Tuple xs kk pos1) X.env] := by rfl) : SS C X (.asgT is a) (.Assign [.Tuple xs kk pos1] x pos) := imp_s (ps_asg h hg hs hw h1) fun Dn σ H ⟨B0, H0, B, env, o, out, R, he, q⟩ => by
  obtain ⟨d, h1, h2⟩ := bind1_some (show ((vm (ev C a env)).bind fun d => (bindT (.tp is) d env).map Out.nx) = some out from he)
  rw [Option.map_eq_some_iff] at h2
  obtain ⟨env', h2, rfl⟩ := h2
  exact use_v R h1 fun B' H' v s r => ⟨B0, H0, B', env, o, d, env', R.step s, r, h2, fun σ' o' R' _ => q B' σ' H' o' R' s.bb⟩

/-! ### one's own lists and dicts change -/
theorem own1_lst {K : PySem.W.Frag} {B H : Hp} {v : V} {ds : List D} {F : List Addr} (h : Own1 K B H v (.lst ds) F) : ∃ a vs, v = .ref a ∧ F = [a] ∧ H a = some (.lst vs) ∧ Reps K B ds vs := by
  obtain ⟨a, rfl, rfl, h⟩ := h
  rcases h with ⟨vs, ds', z, h1, h2⟩ | ⟨vs, ds', z, _, _⟩
  · cases z
    exact ⟨a, vs, rfl, rfl, h1, h2⟩
  · cases z
theorem own1_dic {K : PySem.W.Frag} {B H : Hp} {v : V} {ds : List (Ky × D)} {F : List Addr} (h : Own1 K B H v (.dic ds) F) : ∃ a vs, v = .ref a ∧ F = [a] ∧ H a = some (.dK vs) ∧ RepK K B ds vs := by
  obtain ⟨a, rfl, rfl, h⟩ := h
  rcases h with ⟨vs, ds', z, _, _⟩ | ⟨vs, ds', z, h1, h2⟩
  · cases z
  · cases z
    exact ⟨a, vs, rfl, rfl, h1, h2⟩
/-- the list of a name of one's own, and how it is changed -/
theorem Rel.lst1 {K : PySem.W.Frag} {B0 H0 B H : Hp} {env : Hg.Env} {σ : L2.St} {o : Addr → Option Nat} (R : Rel K B0 H0 B env σ H o) {i : Nat} {ds : List D} (hi : env[i]? = some (.val (.lst ds) .own1)) :
    ∃ p vs, σ[i]? = some (some (.ref p)) ∧ H p = some (.lst vs) ∧ Reps K B ds vs ∧ ∀ ds' vs', Reps K B ds' vs' → Rel K B0 H0 B (env.set i (.val (.lst ds') .own1)) σ (upd H p (.lst vs')) o := by
  obtain ⟨v, F, h1, h2, h3, h4⟩ := R.sl i _ _ hi
  obtain ⟨p, vs, rfl, rfl, h5, h6⟩ := own1_lst h2
  have hp := h4 p (by simp)
  exact ⟨p, vs, h1, h5, h6, fun ds' vs' r => R.mut hi hp fun w F h7 h8 _ _ => by
    rw [h1] at h7
    cases h7
    obtain ⟨p2, vs2, e, rfl, h9, _⟩ := own1_lst h8
    cases e
    exact ⟨p, rfl, rfl, .inl ⟨vs', ds', rfl, upd_same, r⟩⟩⟩
theorem Rel.dic1 {K : PySem.W.Frag} {B0 H0 B H : Hp} {env : Hg.Env} {σ : L2.St} {o : Addr → Option Nat} (R : Rel K B0 H0 B env σ H o) {i : Nat} {ds : List (Ky × D)} (hi : env[i]? = some (.val (.dic ds) .own1)) :
    ∃ p vs, σ[i]? = some (some (.ref p)) ∧ H p = some (.dK vs) ∧ RepK K B ds vs ∧ ∀ ds' vs', RepK K B ds' vs' → Rel K B0 H0 B (env.set i (.val (.dic ds') .own1)) σ (upd H p (.dK vs')) o := by
  obtain ⟨v, F, h1, h2, h3, h4⟩ := R.sl i _ _ hi
  obtain ⟨p, vs, rfl, rfl, h5, h6⟩ := own1_dic h2
  have hp := h4 p (by simp)
  exact ⟨p, vs, h1, h5, h6, fun ds' vs' r => R.mut hi hp fun w F h7 h8 _ _ => by
    rw [h1] at h7
    cases h7
    obtain ⟨p2, vs2, e, rfl, h9, _⟩ := own1_dic h8
    cases e
    exact ⟨p, rfl, rfl, .inr ⟨vs', ds', rfl, upd_same, r⟩⟩⟩
theorem ss_app {i : Nat} (h : SE C X a x) (hi : X.N[i]? = some n := by rfl) (hv : Vis X.env.scope n := by first | exact Or.inl rfl | exact Or.inr (Or.inl rfl) | exact Or.inr (Or.inr rfl)) (hd : (n == ("__debug__" : Str)) = false := by decide) (hcd : (n == ("__classdict__" : Str)) = false := by decide)
    (hs : swapsWith (.Call (.Attribute (.Name n pos1) "append" pos2) [x] [] p) none pos.line X.env = pure false := by rfl) (hbase : attributeBase (.Name n pos1) "append" X.env (eval (.Name n pos1) X.env) = eval (.Name n pos1) X.env := by rfl)
    (hfew : ((backTo p (starEach [x] X.env)).all (fun x => !x.1) && (backToKw p (keywordEach [] X.env)).all (fun x => x.1.isSome) && decide ([x].length + ([] : List Keyword).length + (if ([] : List Keyword).isEmpty then 0 else 1) < 30)) = true := by rfl)
    (hline : (pos2.endLine == p.line) = true := by rfl) (hst : starEach [x] X.env = (false, eval x X.env) :: starEach [] X.env := by rfl) : SS C X (.app i a) (.Expr (.Call (.Attribute (.Name n pos1) "append" pos2) [x] [] p) pos) := by
  refine imp_s (ps_expr (pe_bm PySem.F.plainAttrs_list PySem.F.slot_list_append PySem.F.type_list_append mt_append (pv i hi hv hd hcd) (pa_cons h pa_nil hst) hbase hfew hline hst rfl) hs) fun Dn σ H ⟨B0, H0, B, env, o, out, R, he, q⟩ => ?_
  obtain ⟨d, h1, h2⟩ := bind1_some (show ((vm (ev C a env)).bind fun v => match env[i]? with
      | some (.val (.lst xs) .own1) => if xs.length < L then some (Out.nx (env.set i (.val (.lst (xs ++ [v])) .own1))) else none
      | _ => none) = some out from he)
  cases hi : env[i]? with
  | none => rw [hi] at h2; cases h2
  | some sl =>
    match sl, hi with
    | .val (.lst xs) .own1, hi =>
      rw [hi] at h2
      obtain ⟨hz, h3⟩ := if_some h2
      cases h3
      obtain ⟨p, vs, h4, h5, h6, _⟩ := R.lst1 hi
      refine ⟨.ref p, h4, .inl ⟨rfl, vs, SqL.of h5⟩, ?_⟩
      refine use_v R h1 fun B' H' v s r => ?_
      obtain ⟨p', vs', h4', h5', h6', mk⟩ := (R.step s).lst1 hi
      rw [h4] at h4'
      cases h4'
      refine ⟨p, vs', v, rfl, rfl, h5', by rw [h6'.length]; exact sizeLt hz, ?_⟩
      exact q B' σ _ o (mk _ _ (h6'.append (reps_cons r reps_nil))) s.bb
    | .un, hi => rw [hi] at h2; cases h2
    | .val (.lst xs) .frz, hi => rw [hi] at h2; cases h2
    | .val (.lst xs) .own2, hi => rw [hi] at h2; cases h2
    | .val (.lst xs) .lent, hi => rw [hi] at h2; cases h2
    | .val (.lst xs) .new1, hi => rw [hi] at h2; cases h2
    | .val (.lst xs) .new2, hi => rw [hi] at h2; cases h2
    | .val .non _, hi => rw [hi] at h2; cases h2
    | .val (.bl _) _, hi => rw [hi] at h2; cases h2
    | .val (.int _) _, hi => rw [hi] at h2; cases h2
    | .val (.str _) _, hi => rw [hi] at h2; cases h2
    | .val (.tup _) _, hi => rw [hi] at h2; cases h2
    | .val (.dic _) _, hi => rw [hi] at h2; cases h2
end
end Hg
end

section
set_option Elab.async false
set_option maxRecDepth 100000
set_option autoImplicit false
set_option maxHeartbeats 4000000
/-! Snd8: stores into rows, loops; a def; the end. -/
namespace Hg
open PySem PySem.Spec PyProof.Rows L2
variable [TB : Tabl]

theorem ownl_set {K : PySem.W.Frag} {B H : Hp} {r : Addr} {ob : HO} {d' : D} (hn : Own1 K B (upd H r ob) (.ref r) d' [r]) : ∀ {vs : List V} {ds : List D} {F : List Addr} {j : Nat}, OwnL (Own1 K B H) vs ds F → F.Nodup → vs[j]? = some (.ref r) →
    r ∈ F ∧ OwnL (Own1 K B (upd H r ob)) vs (ds.set j d') F
  | [], [], F, j, h, _, e => by simp at e
  | v :: vs, d :: ds, F, 0, h, nd, e => by
    obtain ⟨F1, F2, rfl, h1, h2⟩ := h
    have e' : v = .ref r := by simpa using e
    subst e'
    obtain ⟨a, e1, rfl, h1⟩ := h1
    cases e1
    refine ⟨by simp, [r], F2, rfl, hn, h2.keep (Ext.refl _) fun b hb => upd_ne fun z => ?_⟩
    subst z
    exact (List.nodup_append.mp nd).2.2 b (by simp) b hb rfl
  | v :: vs, d :: ds, F, j + 1, h, nd, e => by
    obtain ⟨F1, F2, rfl, h1, h2⟩ := h
    obtain ⟨n1, n2, n3⟩ := List.nodup_append.mp nd
    obtain ⟨q1, q2⟩ := ownl_set hn (j := j) h2 n2 (by simpa using e)
    exact ⟨List.mem_append_right _ q1, F1, F2, rfl, h1.keep (Ext.refl _) fun b hb => upd_ne fun z => n3 b hb r q1 z, q2⟩
  | [], _ :: _, F, j, h, _, e => h.elim
  | _ :: _, [], F, j, h, _, e => h.elim
theorem slot_own2 {env : Hg.Env} {i : Nat} {α : Type} {f : List D → Option α} {out : α} (h : (match env[i]? with | some (.val (.lst xs) .own2) => f xs | _ => none) = some out) : ∃ xs, env[i]? = some (.val (.lst xs) .own2) ∧ f xs = some out := by
  split at h
  · rename_i xs e
    exact ⟨xs, e, h⟩
  · cases h
theorem slot_own1 {env : Hg.Env} {i : Nat} {α : Type} {f : List D → Option α} {out : α} (h : (match env[i]? with | some (.val (.lst xs) .own1) => f xs | _ => none) = some out) : ∃ xs, env[i]? = some (.val (.lst xs) .own1) ∧ f xs = some out := by
  split at h
  · rename_i xs e
    exact ⟨xs, e, h⟩
  · cases h
/-- a row of a name's own rows, and how it is changed -/
theorem Rel.row {K : PySem.W.Frag} {B0 H0 B H : Hp} {env : Hg.Env} {σ : L2.St} {o : Addr → Option Nat} (R : Rel K B0 H0 B env σ H o) {i j : Nat} {ds : List D} {d : D} (hi : env[i]? = some (.val (.lst ds) .own2)) (hj : ds[j]? = some d) :
    ∃ p vs r, σ[i]? = some (some (.ref p)) ∧ H p = some (.lst vs) ∧ vs.length = ds.length ∧ vs[j]? = some (.ref r) ∧ Own1 K B H (.ref r) d [r] ∧
      ∀ d' ob, Own1 K B (upd H r ob) (.ref r) d' [r] → Rel K B0 H0 B (env.set i (.val (.lst (ds.set j d')) .own2)) σ (upd H r ob) o := by
  obtain ⟨v, F, h1, h2, h3, h4⟩ := R.sl i _ _ hi
  obtain ⟨p, F', vs, ds', rfl, rfl, e, h5, h6⟩ := h2
  cases e
  obtain ⟨w, G, q1, q2, q3⟩ := ownl_at h6 hj
  obtain ⟨r, rfl, rfl, q4⟩ := q2
  have hr : r ∈ F' := q3 r (by simp)
  have hpr : p ≠ r := fun z => (List.nodup_cons.mp h3).1 (by rw [z]; exact hr)
  refine ⟨p, vs, r, h1, h5, h6.length, q1, ⟨r, rfl, rfl, q4⟩, fun d' ob hn => R.mut hi (h4 r (List.mem_cons_of_mem _ hr)) (fun w F h7 h8 h9 _ => ?_) (fun q => by
    obtain ⟨o', e1, _, nn⟩ := hn.thereN r (by simp)
    rw [upd_same] at e1
    rw [e1]; exact nn q)⟩
  rw [h1] at h7
  cases h7
  obtain ⟨p2, F2, vs2, ds2, e1, rfl, e2, g1, g2⟩ := h8
  cases e1
  cases e2
  rw [h5] at g1
  cases g1
  exact ⟨p, F2, vs, _, rfl, rfl, rfl, by rw [upd_ne hpr]; exact h5, (ownl_set hn g2 (List.nodup_cons.mp h9).2 q1).2⟩
section
variable {C : Nat → List D → Option D} {X : Cx} {a b c : E} {x y z : Expr} {pos p pos1 pos2 pos3 : Pos} {n : Str} {s s1 s2 : Hg.S} {st : Stmt} {sts : List Stmt} {t : T}
theorem ss_appIx {i : Nat} (ha : SE C X a x) (hb : SE C X b y) (hpl : PlainIx x := by exact fun _ _ => rfl) (hi : X.N[i]? = some n := by rfl) (hv : Vis X.env.scope n := by first | exact Or.inl rfl | exact Or.inr (Or.inl rfl) | exact Or.inr (Or.inr rfl)) (hd : (n == ("__debug__" : Str)) = false := by decide) (hcd : (n == ("__classdict__" : Str)) = false := by decide)
    (hs : swapsWith (.Call (.Attribute (.Subscript (.Name n pos1) x pos3) "append" pos2) [y] [] p) none pos.line X.env = pure false := by rfl) (hbase : attributeBase (.Subscript (.Name n pos1) x pos3) "append" X.env (eval (.Subscript (.Name n pos1) x pos3) X.env) = eval (.Subscript (.Name n pos1) x pos3) X.env := by rfl)
    (hfew : ((backTo p (starEach [y] X.env)).all (fun x => !x.1) && (backToKw p (keywordEach [] X.env)).all (fun x => x.1.isSome) && decide ([y].length + ([] : List Keyword).length + (if ([] : List Keyword).isEmpty then 0 else 1) < 30)) = true := by rfl)
    (hline : (pos2.endLine == p.line) = true := by rfl) (hst : starEach [y] X.env = (false, eval y X.env) :: starEach [] X.env := by rfl) : SS C X (.appIx i a b) (.Expr (.Call (.Attribute (.Subscript (.Name n pos1) x pos3) "append" pos2) [y] [] p) pos) := by
  refine imp_s (ps_expr (pe_bm PySem.F.plainAttrs_list PySem.F.slot_list_append PySem.F.type_list_append mt_append (pe_ix ix_list (pv i hi hv hd hcd) ha hpl) (pa_cons hb pa_nil hst) hbase hfew hline hst rfl) hs) fun Dn σ H ⟨B0, H0, B, env, o, out, R, he, q⟩ => ?_
  obtain ⟨dx, h1, h2⟩ := bind1_some (show ((bm (ev C a env)).bind fun x => (vm (ev C b env)).bind fun v => match env[i]? with
      | some (.val (.lst xs) .own2) => (asInt x).bind fun j => (Hg.ixN xs.length j).bind fun n => match xs[n]? with
          | some (.lst ys) => if ys.length < L then some (Out.nx (env.set i (.val (.lst (xs.set n (.lst (ys ++ [v])))) .own2))) else none
          | _ => none
      | _ => none) = some out from he)
  obtain ⟨dv, h3, h4⟩ := bind1_some h2
  obtain ⟨xs, hi', h5⟩ := slot_own2 (f := fun xs => (asInt dx).bind fun j => (Hg.ixN xs.length j).bind fun n => match xs[n]? with
          | some (.lst ys) => if ys.length < L then some (Out.nx (env.set i (.val (.lst (xs.set n (.lst (ys ++ [dv])))) .own2))) else none
          | _ => none) h4
  obtain ⟨j, h6, h7⟩ := bind1_some h5
  obtain rfl := asInt_some h6
  obtain ⟨m, h8, h9⟩ := bind1_some h7
  cases hr : xs[m]? with
  | none => rw [hr] at h9; cases h9
  | some row =>
    rw [hr] at h9
    cases row <;> simp only [reduceCtorEq] at h9
    rename_i ys
    obtain ⟨hz, h10⟩ := if_some h9
    cases h10
    obtain ⟨p, vs, r, k1, k2, k3, k4, k5, _⟩ := R.row hi' hr
    refine ⟨.ref p, k1, use_b R h1 fun B1 H1 u s1 ru => ?_⟩
    obtain ⟨p', vs', r', k1', k2', k3', k4', k5', _⟩ := (R.step s1).row hi' hr
    rw [k1] at k1'
    cases k1'
    refine ⟨p, vs', j, .ref r', rfl, rep_int ru, SqL.of k2', ?_, ?_⟩
    · unfold atI
      rw [k3', ixN_eq, h8]
      exact k4'
    · obtain ⟨r2, ws, e1, _, k6, k7⟩ := own1_lst k5'
      cases e1
      refine ⟨.inl ⟨rfl, ws, SqL.of k6⟩, use_v (R.step s1) h3 fun B2 H2 v s2 rv => ?_⟩
      obtain ⟨p3, vs3, r3, k1'', k2'', k3'', k4'', k5'', mk⟩ := ((R.step s1).step s2).row hi' hr
      rw [k1] at k1''
      cases k1''
      have e3 : vs3 = vs' := by
        have := s2.hh.at k2' nt_lst
        rw [k2''] at this
        cases this
        rfl
      subst e3
      rw [k4'] at k4''
      cases k4''
      obtain ⟨r4, ws2, e4, _, k8, k9⟩ := own1_lst k5''
      cases e4
      refine ⟨r', ws2, v, rfl, rfl, k8, by rw [k9.length]; exact sizeLt hz, ?_⟩
      exact q B2 σ _ o (mk _ _ ⟨r', rfl, rfl, .inl ⟨_, _, rfl, upd_same, k9.append (reps_cons rv reps_nil)⟩⟩) (s1.bb.trans s2.bb)
/-- x[i] = e: a list or a dict -/
theorem ps_or {st : Stmt} {t u : TS} (h : PS X st t) (h' : PS X st u) : PS X st (fun Dn σ H => t Dn σ H ∨ u Dn σ H) := ⟨fun pins s σ H Dn I q => q.elim (h.run pins s σ H Dn I) (h'.run pins s σ H Dn I)⟩
theorem ss_asgIx {i : Nat} (G : Gd X) (ha : SE C X a x) (hb : SE C X b y) (hi : X.N[i]? = some n := by rfl) (hv : Vis X.env.scope n := by first | exact Or.inl rfl | exact Or.inr (Or.inl rfl) | exact Or.inr (Or.inr rfl)) (hd : (n == ("__debug__" : Str)) = false := by decide) (hcd : (n == ("__classdict__" : Str)) = false := by decide)
    (hs : swapsWithSole [.Subscript (.Name n pos1) x pos2] y pos.line X.env = pure false := by rfl) (hw : swappedStores [.Subscript (.Name n pos1) x pos2] y X.env = pure none := by rfl) (h1 : (assignEach [.Subscript (.Name n pos1) x pos2] X.env).map (·.2) = [assign (.Subscript (.Name n pos1) x pos2) X.env] := by rfl)
    (hs2 : swapsWith y (some (.Subscript (.Name n pos1) x pos2)) pos.line X.env = pure false := by rfl)
    (hga : ∀ v, assign (.Subscript (.Name n pos1) x pos2) X.env v = (do
      let ov ← holding [v] (eval (.Name n pos1) X.env)
      let iv ← holding [v, ov] (eval x X.env)
      standAt pos2
      holding [v, ov, iv] (setItem ov iv v)
      release [v, ov, iv] []) := by intro _; rfl) : SS C X (.asgIx i a b) (.Assign [.Subscript (.Name n pos1) x pos2] y pos) := by
  refine imp_s (ps_or (ps_asg hb (pg_sub (pv i hi hv hd hcd) ha set_list hga) hs hw h1) (ps_dput (by have := G.un; omega) (pv i hi hv hd hcd) ha hb hs2)) fun Dn σ H ⟨B0, H0, B, env, o, out, R, he, q⟩ => ?_
  obtain ⟨dv, h1, h2⟩ := bind1_some (show ((vm (ev C b env)).bind fun v => (bm (ev C a env)).bind fun x => match env[i]? with
      | some (.val (.lst xs) .own1) => (asInt x).bind fun j => (Hg.ixN xs.length j).map fun n => Out.nx (env.set i (.val (.lst (xs.set n v)) .own1))
      | some (.val (.dic kvs) .own1) => (keyD x).bind fun k => if kvs.length < L then some (.nx (env.set i (.val (.dic (put kvs k v)) .own1))) else none
      | _ => none) = some out from he)
  obtain ⟨dx, h3, h4⟩ := bind1_some h2
  split at h4
  · rename_i xs hi'
    obtain ⟨j, h5, h6⟩ := bind1_some h4
    obtain rfl := asInt_some h5
    rw [Option.map_eq_some_iff] at h6
    obtain ⟨m, h7, rfl⟩ := h6
    refine .inl (use_v R h1 fun B1 H1 v s1 rv => ?_)
    obtain ⟨p, vs, k1, k2, k3, _⟩ := (R.step s1).lst1 hi'
    refine ⟨.ref p, k1, use_b (R.step s1) h3 fun B2 H2 u s2 ru => ?_⟩
    obtain ⟨p', vs', k1', k2', k3', mk⟩ := ((R.step s1).step s2).lst1 hi'
    rw [k1] at k1'
    cases k1'
    refine ⟨p, vs', j, m, rfl, rep_int ru, k2', by rw [k3'.length]; exact h7, ?_⟩
    exact q B2 σ _ o (mk _ _ (k3'.set m (Rep.mono s2.bb _ _ rv))) (s1.bb.trans s2.bb)
  · rename_i kvs hi'
    obtain ⟨kk, h5, h6⟩ := bind1_some h4
    obtain ⟨hz, h7⟩ := if_some h6
    cases h7
    refine .inr (use_v R h1 fun B1 H1 v s1 rv => ?_)
    obtain ⟨p, vs, k1, k2, k3, _⟩ := (R.step s1).dic1 hi'
    refine ⟨.ref p, k1, use_b (R.step s1) h3 fun B2 H2 u s2 ru => ?_⟩
    obtain ⟨p', vs', k1', k2', k3', mk⟩ := ((R.step s1).step s2).dic1 hi'
    rw [k1] at k1'
    cases k1'
    refine ⟨p, _, rfl, ?_, q B2 σ _ o (mk _ _ (k3'.put (Rep.mono s2.bb _ _ rv))) (s1.bb.trans s2.bb)⟩
    rw [kV_ky h5 ru]
    exact DPut.k k2' (by rw [k3'.length]; exact sizeLt hz)
  · cases h4

/-! ### loops -/
theorem andThen_some {o1 : Option Out} {f : Hg.Env → Option Out} {out : Out} (h : andThen o1 f = some out) : (∃ e, o1 = some (.nx e) ∧ f e = some out) ∨ ∃ d, o1 = some (.rt d) ∧ out = .rt d := by
  match o1, h with
  | some (.nx e), h => exact .inl ⟨e, rfl, h⟩
  | some (.rt d), h => exact .inr ⟨d, rfl, (Option.some.inj h).symm⟩
theorem ss_wh {xs : List Stmt} (hp : PassesOwn (model X.prog X.w) X.A X.env X.xe) (ht : ST C X t z) (hb : SB C X s xs) : SS C X (.wh t s) (.While z xs [] pos) := imp_s (ps_while hp ht hb) fun Dn σ H ⟨B0, H0, B, env, o, out, R, he, q⟩ => by
  refine ⟨fun m σ' H' => ∃ B' env' o', Rel X.K B0 H0 B' env' σ' H' o' ∧ Ext B B' ∧ loopW (evT C t) (exec C FU s) m env' = some out, ⟨FU, B, env, o, R, Ext.refl _, he⟩, ?_⟩
  rintro m σ' H' ⟨B1, env1, o1, R1, e1, h1⟩
  cases m with
  | zero => cases h1
  | succ m =>
    obtain ⟨b, h2, h3⟩ := bind1_some (show ((evT C t env1).bind fun p => if p then andThen (exec C FU s env1) (loopW (evT C t) (exec C FU s) m) else some (.nx env1)) = some out from h1)
    refine use_t R1 h2 fun B2 H2 s2 => ?_
    cases b with
    | false =>
      cases h3
      exact q B2 σ' H2 o1 (R1.step s2) (e1.trans s2.bb)
    | true =>
      refine ⟨fun σ3 H3 => ∃ B' env' o', Rel X.K B0 H0 B' env' σ3 H3 o' ∧ Ext B B' ∧ loopW (evT C t) (exec C FU s) m env' = some out, fun σ3 H3 h => ⟨m, Nat.lt_succ_self _, h⟩, ?_⟩
      rcases andThen_some h3 with ⟨e, h4, h5⟩ | ⟨d, h4, h5⟩
      · exact ⟨B0, H0, B2, env1, o1, .nx e, R1.step s2, h4, fun B' σ4 H4 o4 R4 e4 => ⟨B', e, o4, R4, (e1.trans s2.bb).trans e4, h5⟩⟩
      · subst h5
        exact ⟨B0, H0, B2, env1, o1, .rt d, R1.step s2, h4, q⟩
theorem ss_for {xs : List Stmt} {tgx iter : Expr} {tg : Tg} {it : Hg.It} (G : Gd X) (hp : PassesOwn (model X.prog X.w) X.A X.env X.xe) (hi : SI C X tgx it iter) (hg : SG X tg tgx) (hb : SB C X s xs) (hs : ∀ x, foldedSetIterable iter X.env x = pure x := by intro _; rfl) :
    SS C X (.for_ tg it s) (.For tgx iter xs [] pos) := imp_s (ps_for hp G.calm hi hg hb hs) fun Dn σ H ⟨B0, H0, B, env, o, out, R, he, q⟩ => by
  obtain ⟨⟨ds, ow⟩, h1, h2⟩ := bind1_some (show ((evI C it env).bind fun xs => if xs.2 then none else loopF (fun d e => (bindT tg d e).bind (exec C FU s)) xs.1 env) = some out from he)
  have ho : ow = false := by
    cases ow with
    | false => rfl
    | true => cases h2
  subst ho
  have h2' : loopF (fun d e => (bindT tg d e).bind (exec C FU s)) ds env = some out := h2
  refine ⟨B0, H0, B, env, o, ds, false, R, h1, fun B1 H1 J Gh s1 eG hG hJ => ?_⟩
  refine ⟨fun i m σ' H' => ∃ B' env' o', Rel X.K B0 H0 B' env' σ' H' o' ∧ Ext B1 B' ∧ m = ds.length - i ∧ i ≤ ds.length ∧ loopF (fun d e => (bindT tg d e).bind (exec C FU s)) (ds.drop i) env' = some out,
    ⟨ds.length, B1, env, o, R.step s1, Ext.refl _, by omega, Nat.zero_le _, h2'⟩, ?_⟩
  rintro i m σ' H' ⟨B2, env2, o2, R2, e2, rfl, hle, hlp⟩
  have eGc : Ext Gh H' := hG rfl H' (e2.trans R2.bh) R2.h0
  by_cases hlt : i < ds.length
  · refine .inr ⟨hJ.go i H' hlt eGc, _, fun σ3 H3 h => ⟨ds.length - (i + 1), by omega, h⟩, fun x H3 hy => ?_⟩
    obtain ⟨Bn, sn, rn⟩ := hJ.yl i H' x H3 B2 ds[i] (List.getElem?_eq_getElem hlt) e2 R2.bh eGc hy
    rw [List.drop_eq_getElem_cons hlt] at hlp
    have hlp' : andThen ((bindT tg ds[i] env2).bind (exec C FU s)) (loopF (fun d e => (bindT tg d e).bind (exec C FU s)) (ds.drop (i + 1))) = some out := hlp
    have key : ∀ o1, (bindT tg ds[i] env2).bind (exec C FU s) = some o1 → ∃ env3, bindT tg ds[i] env2 = some env3 ∧ exec C FU s env3 = some o1 := fun o1 h => bind1_some h
    rcases andThen_some hlp' with ⟨e, h4, h5⟩ | ⟨d, h4, h5⟩
    · obtain ⟨env3, h6, h7⟩ := key _ h4
      refine ⟨B0, H0, Bn, env2, o2, ds[i], env3, R2.step sn, rn, h6, fun σ4 o4 R4 _ => ⟨B0, H0, Bn, env3, o4, .nx e, R4, h7, fun B' σ5 H5 o5 R5 e5 => ⟨B', e, o5, R5, (e2.trans sn.bb).trans e5, rfl, hlt, h5⟩⟩⟩
    · subst h5
      obtain ⟨env3, h6, h7⟩ := key _ h4
      exact ⟨B0, H0, Bn, env2, o2, ds[i], env3, R2.step sn, rn, h6, fun σ4 o4 R4 _ => ⟨B0, H0, Bn, env3, o4, .rt d, R4, h7, q⟩⟩
  · have hie : i = ds.length := by omega
    rw [hie, List.drop_length] at hlp
    cases hlp
    exact .inl ⟨hJ.st i H' hie eGc, q B2 σ' H' o2 R2 (s1.bb.trans e2)⟩
end

/-! ### a def -/
structure Bf (mg : Str → Option Value) : Prop where
  len : mg ("len" : Str) = none
  range : mg ("range" : Str) = none
  sorted : mg ("sorted" : Str) = none
  min : mg ("min" : Str) = none
  max : mg ("max" : Str) = none
  sum : mg ("sum" : Str) = none
  isi : mg ("isinstance" : Str) = none
  list : mg ("list" : Str) = none
  tuple : mg ("tuple" : Str) = none
  dict : mg ("dict" : Str) = none
  int : mg ("int" : Str) = none
  str : mg ("str" : Str) = none
  bool : mg ("bool" : Str) = none
  set : mg ("set" : Str) = none
  enum : mg ("enumerate" : Str) = none
  rev : mg ("reversed" : Str) = none
  zip : mg ("zip" : Str) = none
abbrev cx0 (P : Program) (w : World) (K : PySem.W.Frag) (mg : Str → Option Value) (base : Heap) (N : List Str) (ql : Str) (st : Stmt) (f : Addr) (cdv : Value) (A : Around) (outer : List PySem.Env) (s : Shared) (H : Hp) (E : XK) : Cx := (cxOf CX0 P w K mg base N ql (defScope st) f cdv A outer s H E).nox
theorem startEnv_length (fd : FDef) (ds : List D) (h : ds.length ≤ fd.slots) : (startEnv fd ds).length = fd.slots := by
  unfold startEnv
  rw [List.length_append, List.length_map, List.length_zipIdx, List.length_replicate]
  omega
theorem repM_get {K : PySem.W.Frag} {B H : Hp} : ∀ {m : List Bool} {ds : List D} {vs : List V} {i : Nat} {d : D}, RepM K B H m ds vs → ds[i]? = some d → ∃ v, vs[i]? = some v ∧ (if m.getD i false then Rep K H d v else Rep K B d v)
  | m, [], vs, i, d, h, e => by simp at e
  | m, d' :: ds, vs, 0, d, h, e => by
    obtain ⟨v, r, rfl, h1, h2⟩ := h
    have e' : d' = d := by simpa using e
    subst e'
    refine ⟨v, rfl, ?_⟩
    cases m <;> exact h1
  | m, d' :: ds, vs, i + 1, d, h, e => by
    obtain ⟨v, r, rfl, h1, h2⟩ := h
    obtain ⟨u, q1, q2⟩ := repM_get h2 (i := i) (d := d) (by simpa using e)
    refine ⟨u, by simpa using q1, ?_⟩
    cases m with
    | nil => simpa using q2
    | cons b m => simpa using q2
theorem fn_in {P : Program} {w : World} {K : PySem.W.Frag} {mg : Str → Option Value} {base : Heap} {C : Nat → List D → Option D} {ql : Str} {st : Stmt} {f : Addr} {N ps : List Str} {k : Nat} (fdef : FDef) (S : FnScope N ps (defScope st)) (bf : Bf mg) (hN : N.length = fdef.slots) (hle : fdef.params ≤ fdef.slots)
    {cdv : Value} {A : Around} {outer : List PySem.Env} {s : Shared} {H : Hp} {vs : List V} {Q : VK} {E : XK} (hb : Gd (cx0 P w K mg base N ql st f cdv A outer s H E) → SB C (cx0 P w K mg base N ql st f cdv A outer s H E) fdef.body (defBody st))
    (hr : Room k (A.deeper (envOfC ql (defScope st) s.heap.objs.size f cdv))) (h : spF K fdef.lent fdef.params (runF C fdef) vs H Q E) :
    ∃ t, PSs (cxOf CX0 P w K mg base N ql (defScope st) f cdv A outer s H E).nox (defBody st) t ∧ t { nx := fun _ H' => Q .non H', rt := Q } (L2.start N vs) H := by
  obtain ⟨B, ds, d, e1, e2, e3, e4, ett, q⟩ := h
  have hu : Gd (cx0 P w K mg base N ql st f cdv A outer s H E) := ⟨rfl, S.nd, by have := hr.un; show (A.deeper _).units + 80 < cLine; omega, bf.len, bf.range, bf.sorted, bf.min, bf.max, bf.sum, bf.isi, bf.list, bf.tuple, bf.dict, bf.int, bf.str, bf.bool, bf.set, bf.enum, bf.rev, bf.zip⟩
  refine ⟨tS C K fdef.body, hb hu, ?_⟩
  unfold runF at e4
  by_cases hd : ds.length = fdef.params
  · rw [if_pos hd] at e4
    cases hx : exec C FU fdef.body (startEnv fdef ds) with
    | none => rw [hx] at e4; cases e4
    | some out =>
      rw [hx] at e4
      have hsl : (startEnv fdef ds).length = fdef.slots := startEnv_length fdef ds (by omega)
      have hvl : vs.length = ds.length := e3.length
      refine ⟨B, H, B, startEnv fdef ds, fun _ => none, out, ⟨Ext.refl _, Ext.refl _, e1, ett, fun a h => .inl h, ?_, fun i d' k' hi => ?_, (fun a i h => nomatch h), (fun a i h => nomatch h)⟩, hx, ?_⟩
      · rw [hsl]
        unfold L2.start
        rw [List.length_append, List.length_map, List.length_replicate]
        omega
      · unfold startEnv at hi
        by_cases hil : i < ds.length
        · rw [List.getElem?_append_left (by rw [List.length_map, List.length_zipIdx]; exact hil), List.getElem?_map, List.getElem?_zipIdx, List.getElem?_eq_getElem hil] at hi
          have hi2 : some (Slot.val ds[i] (if fdef.lent.getD (0 + i) false then .lent else .frz)) = some (.val d' k') := hi
          injection hi2 with hi3
          injection hi3 with hi4 hi5
          obtain ⟨v, g1, g2⟩ := repM_get e3 (List.getElem?_eq_getElem hil)
          refine ⟨v, [], ?_, ?_, List.nodup_nil, by simp⟩
          · unfold L2.start
            rw [List.getElem?_append_left (by rw [List.length_map, hvl]; exact hil), List.getElem?_map, g1]
            rfl
          · subst hi4 hi5
            rw [Nat.zero_add]
            by_cases hm : fdef.lent.getD i false = true
            · rw [if_pos hm] at g2 ⊢
              exact ⟨rfl, g2⟩
            · rw [if_neg hm] at g2 ⊢
              exact ⟨rfl, g2⟩
        · rw [List.getElem?_append_right (by rw [List.length_map, List.length_zipIdx]; omega), List.getElem?_replicate] at hi
          split at hi
          · cases hi
          · cases hi
      · cases out with
        | rt d2 =>
          cases e4
          exact fun B' H' v s r => q B' H' v s r
        | nx env' =>
          cases e4
          exact fun B' σ' H' o' R e => q B' H' .non R.done non_rep
  · rw [if_neg hd] at e4
    cases e4
theorem fn_ok {P : Program} {w : World} {K : PySem.W.Frag} {mg : Str → Option Value} {base : Heap} {C : Nat → List D → Option D} {n ql : Str} {st : Stmt} {f : Addr} {fd : FuncData} {N ps : List Str} {k : Nat} (fdef : FDef)
    (F : Fun K n ql st f fd) (S : FnScope N ps (defScope st)) (bf : Bf mg) (hN : N.length = fdef.slots) (hps : ps.length = fdef.params) (hle : fdef.params ≤ fdef.slots)
    (hb : ∀ (cdv : Value) (A : Around) (outer : List PySem.Env) (s : Shared) (H : Hp) (E : XK), Room k (cx0 P w K mg base N ql st f cdv A outer s H E).A → Gd (cx0 P w K mg base N ql st f cdv A outer s H E) → SB C (cx0 P w K mg base N ql st f cdv A outer s H E) fdef.body (defBody st)) :
    FnOk P w K mg base CX0 (k + 1) f fd ps (spF K fdef.lent fdef.params (runF C fdef)) := by
  refine F.ok S (fun vs H Q E ⟨B, ds, d, _, h, _⟩ => by rw [h, hps]) (fun cdv A outer s H vs Q E hr h => ?_)
  exact fn_in fdef S bf hN hle (fun hu => hb cdv A outer s H E hr hu) hr h
/-- a def whose code object is known -/
theorem fn_okC {P : Program} {w : World} {K : PySem.W.Frag} {mg : Str → Option Value} {base : Heap} {C : Nat → List D → Option D} {n : Str} {st : Stmt} {f cM : Addr} {oc kV doc pm ct : Value} {od an : Option Addr} {osl : Array (Option Value)} {N ps : List Str} {k : Nat} (fdef : FDef)
    (lk : K.lookup f = some ⟨oc, od, .func (PySem.W.fnOf n n (defArgs st) (defBody st) (defScope st) .none kV doc pm an (.ref cM) ct), osl⟩) (hcd : PySem.W.codeIn K (.ref cM) n = true)
    (S : FnScope N ps (defScope st)) (bf : Bf mg) (hN : N.length = fdef.slots) (hps : ps.length = fdef.params) (hle : fdef.params ≤ fdef.slots)
    (hb : ∀ (A : Around) (outer : List PySem.Env) (s : Shared) (H : Hp) (E : XK), Room k (cx0 P w K mg base N n st f (.ref cM) A outer s H E).A → Gd (cx0 P w K mg base N n st f (.ref cM) A outer s H E) → SB C (cx0 P w K mg base N n st f (.ref cM) A outer s H E) fdef.body (defBody st)) :
    FnOk P w K mg base CX0 (k + 1) f (PySem.W.fnOf n n (defArgs st) (defBody st) (defScope st) .none kV doc pm an (.ref cM) ct) ps (spF K fdef.lent fdef.params (runF C fdef)) := by
  refine fn_of lk hcd S (fun vs H Q E ⟨B, ds, d, _, h, _⟩ => by rw [h, hps]) fun A outer s H vs Q E hr h => ?_
  obtain ⟨t, ht, q⟩ := fn_in fdef S bf hN hle (fun hu => hb A outer s H E hr hu) hr h
  exact ⟨t, ht.nox, q⟩
/-- a def as what is called -/
theorem cal_of {P : Program} {w : World} {K : PySem.W.Frag} {mg : Str → Option Value} {base : Heap} {k : Nat} {n ql : Str} {st : Stmt} {f : Addr} {fd : FuncData} {ps : List Str} {lent : List Bool} {np : Nat} {sem : List D → Option D} (F : Fun K n ql st f fd)
    (h : FnOk P w K mg base CX0 k f fd ps (spF K lent np sem)) (g : mg n = some (.ref f)) (b : Binds K fd ps []) : Cal P w K mg base k n lent np sem := ⟨f, fd, ps, h, g, F.kp, b⟩
/-- the law's own promise, from its value -/
theorem law_sp {K : PySem.W.Frag} {H : Hp} {a : Addr} {ns : List Int} {sem : List D → Option D} {lent : List Bool} (hS : SqL K H a (ns.map V.int)) (h : sem [.lst (ns.map D.int)] = some (.bl true)) (ht : TabsOk H) (hl : lent = [] ∨ lent = [false]) :
    spF K lent 1 sem [.ref a] H (fun v _ => v = .bl true) fun _ _ _ => False := by
  refine ⟨H, [.lst (ns.map D.int)], .bl true, Ext.refl _, rfl, ⟨.ref a, [], rfl, ?_, rfl⟩, h, ht, fun B' H' v s r => rep_bl r⟩
  have r : Rep K H (.lst (ns.map D.int)) (.ref a) := lst_rep hS (reps_ints ns)
  rcases hl with rfl | rfl <;> exact r
end Hg
end

section
set_option Elab.async false
set_option maxRecDepth 100000
set_option maxHeartbeats 4000000
/-! Snd9: extend, pop. -/
namespace Hg
open PySem PySem.Spec PyProof.Rows L2
variable [TB : Tabl]
variable {C : Nat → List D → Option D} {X : Cx} {a b e : E} {x y z : Expr} {n : Str} {pos pos1 pos2 p : Pos}
theorem ss_ext {i : Nat} (h : SE C X a x) (hi : X.N[i]? = some n := by rfl) (hv : Vis X.env.scope n := by first | exact Or.inl rfl | exact Or.inr (Or.inl rfl) | exact Or.inr (Or.inr rfl)) (hd : (n == ("__debug__" : Str)) = false := by decide) (hcd : (n == ("__classdict__" : Str)) = false := by decide)
    (hs : swapsWith (.Call (.Attribute (.Name n pos1) "extend" pos2) [x] [] p) none pos.line X.env = pure false := by rfl) (hbase : attributeBase (.Name n pos1) "extend" X.env (eval (.Name n pos1) X.env) = eval (.Name n pos1) X.env := by rfl)
    (hfew : ((backTo p (starEach [x] X.env)).all (fun x => !x.1) && (backToKw p (keywordEach [] X.env)).all (fun x => x.1.isSome) && decide ([x].length + ([] : List Keyword).length + (if ([] : List Keyword).isEmpty then 0 else 1) < 30)) = true := by rfl)
    (hline : (pos2.endLine == p.line) = true := by rfl) (hst : starEach [x] X.env = (false, eval x X.env) :: starEach [] X.env := by rfl) : SS C X (.ext i a) (.Expr (.Call (.Attribute (.Name n pos1) "extend" pos2) [x] [] p) pos) := by
  refine imp_s (ps_expr (pe_bm PySem.F.plainAttrs_list PySem.F.slot_list_extend PySem.F.type_list_extend mt_extend (pv i hi hv hd hcd) (pa_cons h pa_nil hst) hbase hfew hline hst rfl) hs) fun Dn σ H ⟨B0, H0, B, env, o, out, R, he, q⟩ => ?_
  obtain ⟨⟨d, k⟩, h1, h2⟩ := bind1_some (show ((ev C a env).bind fun p => match env[i]?, p with
      | some (.val (.lst xs) .own1), (.lst ys, .new1) => if xs.length + ys.length < L then some (Out.nx (env.set i (.val (.lst (xs ++ ys)) .own1))) else none
      | _, _ => none) = some out from he)
  cases hi : env[i]? with
  | none => rw [hi] at h2; cases h2
  | some sl =>
    rw [hi] at h2
    match sl, hi, h2 with
    | .val (.lst xs) .own1, hi, h2 =>
      match d, k, h1, h2 with
      | .lst ys, .new1, h1, h2 =>
        obtain ⟨hz, h3⟩ := if_some h2
        cases h3
        obtain ⟨p, vs, h4, h5, h6, _⟩ := R.lst1 hi
        refine ⟨.ref p, h4, .inl ⟨rfl, vs, SqL.of h5⟩, ?_⟩
        refine ⟨B0, H0, B, env, o, _, _, R, h1, fun B' H' v F s r f => ?_⟩
        obtain ⟨p2, vs2, rfl, rfl, h7, r2⟩ := own1_lst (show Own1 X.K B' H' v (.lst ys) F from r)
        obtain ⟨p', vs', h4', h5', h6', mk⟩ := (R.step s).lst1 hi
        rw [h4] at h4'
        cases h4'
        refine ⟨p, p2, vs', vs2, rfl, rfl, h5', h7, by rw [h6'.length, r2.length]; exact Nat.le_of_lt (sizeLt hz), ?_⟩
        exact q B' σ _ o (mk _ _ (h6'.append r2)) s.bb
/-! ### pop -/
theorem pop_read {K : PySem.W.Frag} {B0 H0 B H : Hp} {env : Hg.Env} {σ : L2.St} {o : Addr → Option Nat} {out : Out} {tg : Option Tg} {i : Nat} {at0 : Bool} (R : Rel K B0 H0 B env σ H o) (h : exec C FU (.pop tg i at0) env = some out) :
    ∃ p vs v d env1, σ[i]? = some (some (.ref p)) ∧ H p = some (.lst vs) ∧ (if at0 then vs[0]? else vs[vs.length - 1]?) = some v ∧ Rep K B d v ∧
      Rel K B0 H0 B env1 σ (upd H p (.lst (if at0 then vs.tail else vs.dropLast))) o ∧ (match tg with | none => some env1 | some t => bindT t d env1).map Out.nx = some out := by
  have h' : (match env[i]? with
      | some (.val (.lst xs) .own1) => ((if at0 then xs[0]? else xs[xs.length - 1]?)).bind fun d =>
          (match tg with | none => some (env.set i (.val (.lst (if at0 then xs.tail else xs.dropLast)) .own1)) | some t => bindT t d (env.set i (.val (.lst (if at0 then xs.tail else xs.dropLast)) .own1))).map Out.nx
      | _ => none) = some out := h
  cases hi : env[i]? with
  | none => rw [hi] at h'; cases h'
  | some sl =>
    rw [hi] at h'
    match sl, hi, h' with
    | .val (.lst xs) .own1, hi, h' =>
      obtain ⟨d, h1, h2⟩ := bind1_some h'
      obtain ⟨p, vs, h4, h5, h6, mk⟩ := R.lst1 hi
      cases at0 with
      | true =>
        obtain ⟨v, h7, h8⟩ := h6.get (show xs[0]? = some d from h1)
        exact ⟨p, vs, v, d, _, h4, h5, h7, h8, mk xs.tail vs.tail (by rw [← List.drop_one, ← List.drop_one]; exact h6.drop 1), h2⟩
      | false =>
        obtain ⟨v, h7, h8⟩ := h6.get (show xs[xs.length - 1]? = some d from h1)
        exact ⟨p, vs, v, d, _, h4, h5, by rw [if_neg (by decide), h6.length]; exact h7, h8, mk xs.dropLast vs.dropLast (by rw [List.dropLast_eq_take, List.dropLast_eq_take, h6.length]; exact h6.take _), h2⟩
section
variable {m : Str} {pos3 : Pos}
theorem ss_popD {i : Nat} (hi : X.N[i]? = some n := by rfl) (hv : Vis X.env.scope n := by first | exact Or.inl rfl | exact Or.inr (Or.inl rfl) | exact Or.inr (Or.inr rfl)) (hd : (n == ("__debug__" : Str)) = false := by decide) (hcd : (n == ("__classdict__" : Str)) = false := by decide)
    (hs : swapsWith (.Call (.Attribute (.Name n pos1) "pop" pos2) [] [] p) none pos.line X.env = pure false := by rfl) (hbase : attributeBase (.Name n pos1) "pop" X.env (eval (.Name n pos1) X.env) = eval (.Name n pos1) X.env := by rfl)
    (hline : (pos2.endLine == p.line) = true := by rfl) : SS C X (.pop none i false) (.Expr (.Call (.Attribute (.Name n pos1) "pop" pos2) [] [] p) pos) := by
  refine imp_s (ps_expr (pe_bm0 PySem.F.plainAttrs_list PySem.F.slot_list_pop PySem.F.type_list_pop mt_pop (pv i hi hv hd hcd) hbase hline) hs) fun Dn σ H ⟨B0, H0, B, env, o, out, R, he, q⟩ => ?_
  obtain ⟨p, vs, v, d, env1, h1, h2, h3, h4, R1, h5⟩ := pop_read R he
  cases h5
  exact ⟨.ref p, h1, .inl ⟨rfl, vs, SqL.of h2⟩, p, vs, v, rfl, rfl, h2, h3, q B σ _ o R1 (Ext.refl _)⟩
theorem ss_popN {i j : Nat} (G : Gd X) (hi : X.N[i]? = some n := by rfl) (hv : Vis X.env.scope n := by first | exact Or.inl rfl | exact Or.inr (Or.inl rfl) | exact Or.inr (Or.inr rfl)) (hd : (n == ("__debug__" : Str)) = false := by decide) (hcd : (n == ("__classdict__" : Str)) = false := by decide)
    (hj : X.N[j]? = some m := by rfl) (hx : Loc X.env.scope m := by first | exact .inl rfl | exact .inr rfl) (hf : X.fn m = true ∨ X.env.scope.names.lookup m = some .local := by first | exact .inl rfl | exact .inr rfl)
    (hs : swapsWith (.Call (.Attribute (.Name n pos1) "pop" pos2) [] [] p) (some (.Name m pos3)) pos.line X.env = pure false := by rfl) (hbase : attributeBase (.Name n pos1) "pop" X.env (eval (.Name n pos1) X.env) = eval (.Name n pos1) X.env := by rfl)
    (hline : (pos2.endLine == p.line) = true := by rfl) : SS C X (.pop (some (.nm j)) i false) (.Assign [.Name m pos3] (.Call (.Attribute (.Name n pos1) "pop" pos2) [] [] p) pos) := by
  refine imp_s (ps_set G.nd hj hx (pe_bm0 PySem.F.plainAttrs_list PySem.F.slot_list_pop PySem.F.type_list_pop mt_pop (pv i hi hv hd hcd) hbase hline) hs hf) fun Dn σ H ⟨B0, H0, B, env, o, out, R, he, q⟩ => ?_
  obtain ⟨p, vs, v, d, env1, h1, h2, h3, h4, R1, h5⟩ := pop_read R he
  cases h5
  exact ⟨.ref p, h1, .inl ⟨rfl, vs, SqL.of h2⟩, p, vs, v, rfl, rfl, h2, h3, q B _ _ _ (R1.put (i := j) h4) (Ext.refl _)⟩
theorem ss_popN0 {i j : Nat} {x : Expr} (G : Gd X) (h0 : SE C X (.c (.int 0)) x) (hi : X.N[i]? = some n := by rfl) (hv : Vis X.env.scope n := by first | exact Or.inl rfl | exact Or.inr (Or.inl rfl) | exact Or.inr (Or.inr rfl)) (hd : (n == ("__debug__" : Str)) = false := by decide) (hcd : (n == ("__classdict__" : Str)) = false := by decide)
    (hj : X.N[j]? = some m := by rfl) (hx : Loc X.env.scope m := by first | exact .inl rfl | exact .inr rfl) (hf : X.fn m = true ∨ X.env.scope.names.lookup m = some .local := by first | exact .inl rfl | exact .inr rfl)
    (hs : swapsWith (.Call (.Attribute (.Name n pos1) "pop" pos2) [x] [] p) (some (.Name m pos3)) pos.line X.env = pure false := by rfl) (hbase : attributeBase (.Name n pos1) "pop" X.env (eval (.Name n pos1) X.env) = eval (.Name n pos1) X.env := by rfl)
    (hfew : ((backTo p (starEach [x] X.env)).all (fun x => !x.1) && (backToKw p (keywordEach [] X.env)).all (fun x => x.1.isSome) && decide ([x].length + ([] : List Keyword).length + (if ([] : List Keyword).isEmpty then 0 else 1) < 30)) = true := by rfl)
    (hline : (pos2.endLine == p.line) = true := by rfl) (hst : starEach [x] X.env = (false, eval x X.env) :: starEach [] X.env := by rfl) : SS C X (.pop (some (.nm j)) i true) (.Assign [.Name m pos3] (.Call (.Attribute (.Name n pos1) "pop" pos2) [x] [] p) pos) := by
  refine imp_s (ps_set G.nd hj hx (pe_bm PySem.F.plainAttrs_list PySem.F.slot_list_pop PySem.F.type_list_pop mt_popAt (pv i hi hv hd hcd) (pa_cons h0 pa_nil hst) hbase hfew hline hst rfl) hs hf) fun Dn σ H ⟨B0, H0, B, env, o, out, R, he, q⟩ => ?_
  obtain ⟨p, vs, v, d, env1, h1, h2, h3, h4, R1, h5⟩ := pop_read R he
  have h2' := h2
  refine ⟨.ref p, h1, .inl ⟨rfl, vs, SqL.of h2⟩, ?_⟩
  refine use_b R (d := .int 0) rfl fun B' H' u s ru => ?_
  have hu := rep_int ru
  subst hu
  obtain ⟨p, vs, v, d, env1, h1', h2, h3, h4, R1, h5⟩ := pop_read (R.step s) he
  rw [h1] at h1'
  cases h1'
  cases h5
  cases vs with
  | nil => cases h3
  | cons w ws =>
    refine ⟨p, w :: ws, 0, 0, v, rfl, rfl, h2, by decide, by decide, ?_, h3, q B' _ _ _ (R1.put (i := j) h4) s.bb⟩
    unfold seqIndex?
    simp
theorem ss_popT {i : Nat} {is : List Nat} {xs : List Expr} {kk : Nat} (hg : SG X (.tp is) (.Tuple xs kk pos3)) (hi : X.N[i]? = some n := by rfl) (hv : Vis X.env.scope n := by first | exact Or.inl rfl | exact Or.inr (Or.inl rfl) | exact Or.inr (Or.inr rfl)) (hd : (n == ("__debug__" : Str)) = false := by decide) (hcd : (n == ("__classdict__" : Str)) = false := by decide)
    (hs : swapsWithSole [.Tuple xs kk pos3] (.Call (.Attribute (.Name n pos1) "pop" pos2) [] [] p) pos.line X.env = pure false := by rfl) (hw : swappedStores [.Tuple xs kk pos3] (.Call (.Attribute (.Name n pos1) "pop" pos2) [] [] p) X.env = pure none := by rfl)
    (ha : (assignEach [.Tuple xs kk pos3] X.env).map (·.2) = [assign (.Tuple xs kk pos3) X.env] := by rfl)
    (hbase : attributeBase (.Name n pos1) "pop" X.env (eval (.Name n pos1) X.env) = eval (.Name n pos1) X.env := by rfl)
    (hline : (pos2.endLine == p.line) = true := by rfl) : SS C X (.pop (some (.tp is)) i false) (.Assign [.Tuple xs kk pos3] (.Call (.Attribute (.Name n pos1) "pop" pos2) [] [] p) pos) := by
  refine imp_s (ps_asg (pe_bm0 PySem.F.plainAttrs_list PySem.F.slot_list_pop PySem.F.type_list_pop mt_pop (pv i hi hv hd hcd) hbase hline) hg hs hw ha) fun Dn σ H ⟨B0, H0, B, env, o, out, R, he, q⟩ => ?_
  obtain ⟨p, vs, v, d, env1, h1, h2, h3, h4, R1, h5⟩ := pop_read R he
  rw [Option.map_eq_some_iff] at h5
  obtain ⟨env', h5, rfl⟩ := h5
  refine ⟨.ref p, h1, .inl ⟨rfl, vs, SqL.of h2⟩, p, vs, v, rfl, rfl, h2, h3, ?_⟩
  exact ⟨B0, H0, B, env1, o, d, env', R1, h4, h5, fun σ' o' R' _ => q B σ' _ o' R' (Ext.refl _)⟩
end
end Hg
end

section
set_option Elab.async false
set_option maxRecDepth 100000
set_option maxHeartbeats 4000000
/-! Snd10: dict of pairs. -/
namespace Hg
open PySem PySem.Spec PyProof.Rows L2
variable [TB : Tabl]
variable {C : Nat → List D → Option D} {X : Cx} {a b e : E} {x y z : Expr} {n : Str} {pos pos1 pos2 p : Pos}
def pairKV (d : D) : Option (Ky × D) := match d with | .tup [k, v] => (keyD k).map fun k => (k, v) | _ => none
theorem rep_key {K : PySem.W.Frag} {B : Hp} {d : D} {k : Ky} {v : V} (h : keyD d = some k) (r : Rep K B d v) : v = kV (ky k) := by
  cases d with
  | int i => cases h; exact rep_int r
  | str s => cases h; exact rep_str r
  | non => cases h
  | bl b => cases h
  | tup xs => cases h
  | lst xs => cases h
  | dic xs => cases h
theorem paired_of {K : PySem.W.Frag} {B H : Hp} (hb : Ext B H) : ∀ {ds : List D} {kvs : List (Ky × D)} {vs : List V}, optAll pairKV ds = some kvs → Reps K B ds vs →
    ∃ (ps : List Addr) (us : List (L2.Key × V)), vs = ps.map V.ref ∧ RepK K B kvs us ∧ Paired (fun p kv => SqT K H p [kV kv.1, kv.2]) ps us
  | [], kvs, vs, h, r => by
    cases h
    rw [r.nil_of]
    exact ⟨[], [], rfl, repk_nil, .nil⟩
  | d :: ds, kvs, vs, h, r => by
    simp only [optAll, Option.bind_eq_some_iff] at h
    obtain ⟨kv, h1, kvs', h2, h3⟩ := h
    cases h3
    obtain ⟨v, r', rfl, r1, r2⟩ := r.cons_of
    obtain ⟨ps, us, rfl, q1, q2⟩ := paired_of hb h2 r2
    match d, h1, r1 with
    | .tup [dk, dv], h1, r1 =>
      obtain ⟨k, h4, h5⟩ := Option.map_eq_some_iff.mp (show (keyD dk).map (fun k => (k, dv)) = some kv from h1)
      cases h5
      obtain ⟨q, ws, rfl, h6, h7⟩ := rep_tup r1
      obtain ⟨w1, r3, rfl, s1, h8⟩ := h7.cons_of
      obtain ⟨w2, r4, rfl, s2, h9⟩ := h8.cons_of
      have := h9.nil_of
      subst this
      have hk := rep_key h4 s1
      subst hk
      exact ⟨q :: ps, (ky k, w2) :: us, rfl, repk_cons s2 q1, .cons (SqT.of (hb.at h6 nt_tup)) q2⟩
theorem se_dictP (G : Gd X) (ha : SE C X a x) (hg : Gl X ("dict" : Str) := by rfl) (hs : starEach [x] X.env = (false, eval x X.env) :: starEach [] X.env := by rfl) : SE C X (.dictP a) (.Call (.Name ("dict" : Str) p) [x] [] pos) := by
  refine imp_e (pe_t1 (call_dictP G.calm) G.dict (by decide +kernel) ha hg hs (by decide) (by decide)) fun σ H Q h => ?_
  obtain ⟨B0, H0, B, env, o, d, k, R, he, q⟩ := h
  obtain ⟨da, h2, h3⟩ := bind1_some (show ((em (ev C a env)).bind fun x => match x with
      | .lst xs => (optAll pairKV xs).bind fun kvs => if kvs.length < L then some ((.dic (mergeKy [] kvs), .new1) : D × Kd) else none
      | _ => none) = some (d, k) from he)
  refine use_e R h2 fun B' H' u s ru => ?_
  cases da <;> simp only [reduceCtorEq] at h3
  obtain ⟨kvs, h4, h5⟩ := bind1_some h3
  obtain ⟨hz, h6⟩ := if_some h5
  cases h6
  obtain ⟨p1, vs, rfl, q1, r1⟩ := ru
  obtain ⟨ps, us, rfl, r2, r3⟩ := paired_of s.bh h4 r1
  exact ⟨p1, ps, us, rfl, q1, r3, fin_dict q rfl s (RepK.merge r2 repk_nil)⟩
end Hg
end

section
set_option Elab.async false
set_option maxRecDepth 100000
set_option maxHeartbeats 4000000
/-! Snd11: further built-in functions. -/
namespace Hg
open PySem PySem.Spec PyProof.Rows L2
variable [TB : Tabl]
variable {C : Nat → List D → Option D} {X : Cx} {a b c e : E} {x y z : Expr} {n : Str} {pos pos1 pos2 p p2 : Pos}
/-- list(range(n)) -/
theorem se_listRng (G : Gd X) (ha : SE C X a x) (hg : Gl X ("list" : Str) := by rfl) (hg2 : Gl X ("range" : Str) := by rfl) (hs : starEach [x] X.env = (false, eval x X.env) :: starEach [] X.env := by rfl)
    (hs2 : starEach [.Call (.Name ("range" : Str) p2) [x] [] pos2] X.env = (false, eval (.Call (.Name ("range" : Str) p2) [x] [] pos2) X.env) :: starEach [] X.env := by rfl) :
    SE C X (.listRng a) (.Call (.Name ("list" : Str) p) [.Call (.Name ("range" : Str) p2) [x] [] pos2] [] pos) := by
  refine imp_e (pe_listRg G.calm hg G.list (prg_1 hg2 G.range ha hs) hs2) fun σ H Q h => ?_
  obtain ⟨B0, H0, B, env, o, d, k, R, he, q⟩ := h
  obtain ⟨da, h1, h2⟩ := bind1_some (show ((bm (ev C a env)).bind fun x => (asInt x).bind fun n => if 0 ≤ n ∧ n ≤ 1000 then some ((.lst (rngD 0 n.toNat), .new1) : D × Kd) else none) = some (d, k) from he)
  obtain ⟨m, h3, h4⟩ := bind1_some h2
  obtain rfl := asInt_some h3
  obtain ⟨⟨hz0, hz⟩, h5⟩ := if_some h4
  cases h5
  refine use_b R h1 fun B' H' u s ru => ?_
  refine ⟨m, rep_int ru, RgOk.of_le (by omega) (by omega) (by omega) hz0, ?_⟩
  refine fin_list q rfl s ?_
  have e1 : rngD 0 m.toNat = (((List.range m.toNat).map fun i => (0 : Int) + (i : Nat))).map D.int := by
    unfold rngD; rw [List.map_map]; rfl
  have e2 : rgV 0 m = (((List.range m.toNat).map fun i => (0 : Int) + (i : Nat))).map V.int := by
    unfold rgV; rw [Int.sub_zero, List.map_map]; rfl
  rw [e1, e2]
  exact reps_ints _
/-! ### lists in order -/
theorem listLt_lexI : ∀ xs ys : List Int, PySem.W.listLt xs ys = lexI xs ys
  | [], [] => rfl
  | [], _ :: _ => rfl
  | _ :: _, [] => rfl
  | x :: xs, y :: ys => by
    unfold PySem.W.listLt lexI
    rw [listLt_lexI xs ys]
    rfl
def rLtL (K : PySem.W.Frag) : R2 := fun x y H Q => ∃ (a b : Addr) (ns ms : List Int), x = .ref a ∧ y = .ref b ∧ SqL K H a (ns.map V.int) ∧ SqL K H b (ms.map V.int) ∧ Q (.bl (lexI ns ms)) H
def rLeL (K : PySem.W.Frag) : R2 := fun x y H Q => ∃ (a b : Addr) (ns ms : List Int), x = .ref a ∧ y = .ref b ∧ SqL K H a (ns.map V.int) ∧ SqL K H b (ms.map V.int) ∧ Q (.bl (!lexI ms ns)) H
def rLtT2 (K : PySem.W.Frag) : R2 := fun x y H Q => ∃ (a b : Addr) (ns ms : List Int), x = .ref a ∧ y = .ref b ∧ H a = some (.tup (ns.map V.int)) ∧ H b = some (.tup (ms.map V.int)) ∧ Q (.bl (lexI ns ms)) H
def rLeT2 (K : PySem.W.Frag) : R2 := fun x y H Q => ∃ (a b : Addr) (ns ms : List Int), x = .ref a ∧ y = .ref b ∧ H a = some (.tup (ns.map V.int)) ∧ H b = some (.tup (ms.map V.int)) ∧ Q (.bl (!lexI ms ns)) H
theorem op_ltL (hu : X.A.units + 80 < cLine) : OpR X (compareOp .Lt) (rLtL X.K) := by
  intro pins s σ H x y v u Q I rx ry h
  obtain ⟨a, b, ns, ms, rfl, rfl, h1, h2, q⟩ := h
  cases rx; cases ry
  obtain ⟨its, rv, hl, hz⟩ := I.list h1
  obtain ⟨its2, rv2, hl2, hz2⟩ := I.list h2
  refine PySem.W.lt_datum (α := List Int) (x := ns) (y := ms) (PySem.W.holds_list hl.isList (by simpa using PySem.W.HoldAll.of_ints rv.ints)) (PySem.W.holds_list hl2.isList (by simpa using PySem.W.HoldAll.of_ints rv2.ints)) (by show X.A.units + (0 + 1) < cLine; omega) ⟨.bl _, H, I, rfl, ?_⟩
  rw [show PySem.W.DatumOrd.lt ns ms = PySem.W.listLt ns ms from rfl, listLt_lexI]
  exact q
theorem op_leL (hu : X.A.units + 80 < cLine) : OpR X (compareOp .LtE) (rLeL X.K) := by
  intro pins s σ H x y v u Q I rx ry h
  obtain ⟨a, b, ns, ms, rfl, rfl, h1, h2, q⟩ := h
  cases rx; cases ry
  obtain ⟨its, rv, hl, hz⟩ := I.list h1
  obtain ⟨its2, rv2, hl2, hz2⟩ := I.list h2
  refine PySem.W.le_datum (α := List Int) (x := ns) (y := ms) (PySem.W.holds_list hl.isList (by simpa using PySem.W.HoldAll.of_ints rv.ints)) (PySem.W.holds_list hl2.isList (by simpa using PySem.W.HoldAll.of_ints rv2.ints)) (by show X.A.units + (0 + 1) < cLine; omega) ⟨.bl _, H, I, rfl, ?_⟩
  rw [show PySem.W.DatumOrd.lt ms ns = PySem.W.listLt ms ns from rfl, listLt_lexI]
  exact q
theorem op_ltT2 (hu : X.A.units + 80 < cLine) : OpR X (compareOp .Lt) (rLtT2 X.K) := by
  intro pins s σ H x y v u Q I rx ry h
  obtain ⟨a, b, ns, ms, rfl, rfl, h1, h2, q⟩ := h
  cases rx; cases ry
  obtain ⟨its, rv, hl, hz⟩ := I.tuple (SqT.of h1)
  obtain ⟨its2, rv2, hl2, hz2⟩ := I.tuple (SqT.of h2)
  refine PySem.W.lt_datum (α := PySem.W.Tup Int) (x := ⟨ns⟩) (y := ⟨ms⟩) (PySem.W.holds_tup hl (by simpa using PySem.W.HoldAll.of_ints (Vals.ints rv))) (PySem.W.holds_tup hl2 (by simpa using PySem.W.HoldAll.of_ints (Vals.ints rv2))) (by show X.A.units + (0 + 1) < cLine; omega) ⟨.bl _, H, I, rfl, ?_⟩
  rw [show PySem.W.DatumOrd.lt (⟨ns⟩ : PySem.W.Tup Int) ⟨ms⟩ = PySem.W.listLt ns ms from rfl, listLt_lexI]
  exact q
theorem op_leT2 (hu : X.A.units + 80 < cLine) : OpR X (compareOp .LtE) (rLeT2 X.K) := by
  intro pins s σ H x y v u Q I rx ry h
  obtain ⟨a, b, ns, ms, rfl, rfl, h1, h2, q⟩ := h
  cases rx; cases ry
  obtain ⟨its, rv, hl, hz⟩ := I.tuple (SqT.of h1)
  obtain ⟨its2, rv2, hl2, hz2⟩ := I.tuple (SqT.of h2)
  refine PySem.W.le_datum (α := PySem.W.Tup Int) (x := ⟨ns⟩) (y := ⟨ms⟩) (PySem.W.holds_tup hl (by simpa using PySem.W.HoldAll.of_ints (Vals.ints rv))) (PySem.W.holds_tup hl2 (by simpa using PySem.W.HoldAll.of_ints (Vals.ints rv2))) (by show X.A.units + (0 + 1) < cLine; omega) ⟨.bl _, H, I, rfl, ?_⟩
  rw [show PySem.W.DatumOrd.lt (⟨ms⟩ : PySem.W.Tup Int) ⟨ns⟩ = PySem.W.listLt ms ns from rfl, listLt_lexI]
  exact q
theorem use_intsT {K : PySem.W.Frag} {H : Hp} {ds : List D} {ns : List Int} {v : V} (h : intsD ds = some ns) (r : Rep K H (.tup ds) v) : ∃ p, v = .ref p ∧ H p = some (.tup (ns.map V.int)) := by
  obtain ⟨p, vs, rfl, h1, h2⟩ := rep_tup r
  exact ⟨p, rfl, by rw [h1, Reps.ints h h2]⟩
theorem sc_ltL (G : Gd X) (ha : SE C X a x) (hb : SE C X b y) : SC C X (.ltL a b) .Lt x y := by
  refine se_cmp ((op_lt.or op_lt_str).or ((op_ltL G.un).or (op_ltT2 G.un))) ha hb fun K B0 H0 B env σ H o d k Q R he q hK => ?_
  subst hK
  obtain ⟨dx, dy, h1, h2, h3⟩ := bm2_some (f := fun x y => frB (ltD x y)) he
  obtain ⟨r, h4, rfl, rfl⟩ := frB_some h3
  refine two_b R h1 h2 fun B' H' u v s ru rv => ?_
  cases dx <;> cases dy <;> simp only [ltD, reduceCtorEq] at h4
  · cases h4
    exact .inl (.inl ⟨_, _, rep_int ru, rep_int rv, q B' H' _ [] s ⟨rfl, bl_rep⟩ FrF.nil⟩)
  · cases h4
    refine .inl (.inr ⟨_, _, rep_str ru, rep_str rv, ?_⟩)
    rw [show (sv _).cps.toList = _ from rfl, show (sv _).cps.toList = _ from rfl, lexS_lt]
    exact q B' H' _ [] s ⟨rfl, bl_rep⟩ FrF.nil
  · obtain ⟨ns, h5, h6⟩ := bind1_some h4
    obtain ⟨ms, h7, h8⟩ := bind1_some h6
    cases h8
    obtain ⟨p1, rfl, q1⟩ := use_intsT h5 ru
    obtain ⟨p2, rfl, q2⟩ := use_intsT h7 rv
    exact .inr (.inr ⟨p1, p2, ns, ms, rfl, rfl, q1, q2, q B' H' _ [] s ⟨rfl, bl_rep⟩ FrF.nil⟩)
  · obtain ⟨ns, h5, h6⟩ := bind1_some h4
    obtain ⟨ms, h7, h8⟩ := bind1_some h6
    cases h8
    obtain ⟨p1, rfl, q1⟩ := use_ints h5 ru
    obtain ⟨p2, rfl, q2⟩ := use_ints h7 rv
    exact .inr (.inl ⟨p1, p2, ns, ms, rfl, rfl, q1, q2, q B' H' _ [] s ⟨rfl, bl_rep⟩ FrF.nil⟩)
theorem sc_leL (G : Gd X) (ha : SE C X a x) (hb : SE C X b y) : SC C X (.leL a b) .LtE x y := by
  refine se_cmp ((op_le.or op_le_str).or ((op_leL G.un).or (op_leT2 G.un))) ha hb fun K B0 H0 B env σ H o d k Q R he q hK => ?_
  subst hK
  obtain ⟨dx, dy, h1, h2, h3⟩ := bm2_some (f := fun x y => frB ((ltD y x).map fun r => !r)) he
  obtain ⟨r, h4, rfl, rfl⟩ := frB_some h3
  rw [Option.map_eq_some_iff] at h4
  obtain ⟨t, h4, rfl⟩ := h4
  refine two_b R h1 h2 fun B' H' u v s ru rv => ?_
  cases dx <;> cases dy <;> simp only [ltD, reduceCtorEq] at h4
  · cases h4
    refine .inl (.inl ⟨_, _, rep_int ru, rep_int rv, ?_⟩)
    show Q (.bl (decide (_ ≤ _))) H'
    rw [← not_lt_dec]
    exact q B' H' _ [] s ⟨rfl, bl_rep⟩ FrF.nil
  · cases h4
    refine .inl (.inr ⟨_, _, rep_str ru, rep_str rv, ?_⟩)
    rw [show (sv _).cps.toList = _ from rfl, show (sv _).cps.toList = _ from rfl, lexS_lt]
    exact q B' H' _ [] s ⟨rfl, bl_rep⟩ FrF.nil
  · obtain ⟨ns, h5, h6⟩ := bind1_some h4
    obtain ⟨ms, h7, h8⟩ := bind1_some h6
    cases h8
    obtain ⟨p1, rfl, q1⟩ := use_intsT h7 ru
    obtain ⟨p2, rfl, q2⟩ := use_intsT h5 rv
    exact .inr (.inr ⟨p1, p2, ms, ns, rfl, rfl, q1, q2, q B' H' _ [] s ⟨rfl, bl_rep⟩ FrF.nil⟩)
  · obtain ⟨ns, h5, h6⟩ := bind1_some h4
    obtain ⟨ms, h7, h8⟩ := bind1_some h6
    cases h8
    obtain ⟨p1, rfl, q1⟩ := use_ints h7 ru
    obtain ⟨p2, rfl, q2⟩ := use_ints h5 rv
    exact .inr (.inl ⟨p1, p2, ms, ns, rfl, rfl, q1, q2, q B' H' _ [] s ⟨rfl, bl_rep⟩ FrF.nil⟩)
/-! ### max with default, of texts -/
theorem maxOf_int (x : Int) : ∀ xs : List Int, PySem.W.maxOf x xs = xs.foldl max x := by
  intro xs
  unfold PySem.W.maxOf
  congr 1
  funext a y
  show (if decide (a < y) = true then y else a) = max a y
  by_cases h : a < y
  · simp [h]; omega
  · simp [h]; omega
def rMaxDf (K : PySem.W.Frag) : List V → List V → Hp → VK → Prop := fun vs zs H Q => ∃ (a : Addr) (ns : List Int) (d : Int), vs = [V.ref a] ∧ zs = [.int d] ∧ SqL K H a (ns.map V.int) ∧ Q (.int ((maxL ns).getD d)) H
theorem cr_maxDf (hc : X.calm = true) (hu : X.A.units + 80 < cLine) : CallRK X (.builtin "max") [Str.ofString "default"] (rMaxDf X.K) := by
  intro pins s σ H vs zs us ws Q I r rz h
  obtain ⟨a, ns, d, rfl, rfl, hs, q⟩ := h
  obtain rfl := Vals.ref1 r
  obtain ⟨w1, rfl, t, e1⟩ := vals1 rz
  subst e1
  obtain ⟨its, rv, hl, hz⟩ := I.list hs
  refine PySem.W.max_list_datum_default (α := Int) (xs := ns) (I.ok.hd hc) hl.isList (by simpa using PySem.W.HoldAll.of_ints rv.ints) (by show X.A.units + 1 + 0 < cLine; omega) (fun e h' tk hk => ⟨.int d, H, I.kept hk, ⟨t, rfl⟩, by rw [e] at q; exact q⟩) ?_
  intro y ys i v h' tk e hi Hv hk
  obtain ⟨t', rfl⟩ := PySem.W.int_of_holds Hv
  refine ⟨.int _, H, I.kept hk, ⟨t', rfl⟩, ?_⟩
  rw [maxOf_int]
  rw [e] at q
  exact q
theorem se_maxd {j : Nat} {kpos pc : Pos} (G : Gd X) (ha : SE C X a x) (hg : Gl X ("max" : Str) := by rfl) (hs : backTo pos (starEach [x] X.env) = (false, eval x X.env) :: backTo pos (starEach [] X.env) := by rfl) (hs1 : starEach [x] X.env = (false, eval x X.env) :: starEach [] X.env := by rfl)
    (hpl : (backTo pos (starEach [x] X.env)).any (·.1) = false := by rfl) (hall : (backToKw pos (keywordEach [⟨some ("default" : Str), .Constant (.int 0) j pc, kpos⟩] X.env)).all (·.1.isSome) = true := by rfl)
    (hnone : (backToKw pos (keywordEach [⟨some ("default" : Str), .Constant (.int 0) j pc, kpos⟩] X.env)).any (·.1.isNone) = false := by rfl) (hks : (backToKw pos (keywordEach [⟨some ("default" : Str), .Constant (.int 0) j pc, kpos⟩] X.env)).filterMap (·.1) = [Str.ofString "default"] := by rfl) :
    SE C X (.maxd a) (.Call (.Name ("max" : Str) p) [x] [⟨some ("default" : Str), .Constant (.int 0) j pc, kpos⟩] pos) := by
  refine imp_e (pe_callBK (cr_maxDf G.calm G.un) hg G.max (by decide +kernel) (pa_cons ha pa_nil hs1) (pk_cons pe_int pk_nil) (by decide) (by decide) hs hpl hall hnone hks) fun σ H Q h => ?_
  obtain ⟨B0, H0, B, env, o, d, k, R, he, q⟩ := h
  obtain ⟨da, h1, h2⟩ := bind1_some (show ((bm (ev C a env)).bind fun x => match x with | .lst xs => frI ((intsD xs).map fun ns => (maxL ns).getD 0) | _ => none) = some (d, k) from he)
  refine use_b R h1 fun B' H' u s ru => ?_
  cases da <;> simp only [reduceCtorEq] at h2
  obtain ⟨m, h3, rfl, rfl⟩ := frI_some h2
  rw [Option.map_eq_some_iff] at h3
  obtain ⟨ns, h4, rfl⟩ := h3
  obtain ⟨p1, rfl, q1⟩ := use_ints h4 ru
  exact ⟨p1, ns, 0, rfl, rfl, q1, q B' H' _ [] s ⟨rfl, int_rep⟩ FrF.nil⟩
end Hg
end

section
set_option Elab.async false
set_option maxRecDepth 100000
set_option maxHeartbeats 4000000
/-! Snd12: texts: greatest, sorted down, joined; sets; index; others. -/
namespace Hg
open PySem PySem.Spec PyProof.Rows L2
variable [TB : Tabl]
variable {C : Nat → List D → Option D} {X : Cx} {a b c e : E} {x y z : Expr} {n : Str} {pos pos1 pos2 p p2 : Pos}
theorem sv_lt (s t : List Nat) : PySem.W.DatumOrd.lt (sv s) (sv t) = lexS s t := by
  show decide ((sv s).cps.toList < (sv t).cps.toList) = _
  rw [show (sv s).cps.toList = s from rfl, show (sv t).cps.toList = t from rfl, lexS_lt]
theorem maxOf_sv (x : List Nat) : ∀ xs : List (List Nat), PySem.W.maxOf (sv x) (xs.map sv) = sv (xs.foldl (fun a b => if lexS a b then b else a) x) := by
  intro xs
  unfold PySem.W.maxOf
  induction xs generalizing x with
  | nil => rfl
  | cons y ys ih =>
    rw [List.map_cons, List.foldl_cons, List.foldl_cons, sv_lt, ← ih]
    cases lexS x y <;> rfl
def rMaxS (K : PySem.W.Frag) : List V → Hp → VK → Prop := fun vs H Q => ∃ (a : Addr) (ss : List (List Nat)) (m : List Nat), vs = [V.ref a] ∧ SqL K H a ((ss.map sv).map V.str) ∧ maxS ss = some m ∧ Q (.str (sv m)) H
theorem cr_maxS (hc : X.calm = true) (hu : X.A.units + 80 < cLine) : CallR X (.builtin "max") (rMaxS X.K) := by
  intro pins s σ H vs us Q I r h
  obtain ⟨a, ss, m, rfl, hs, hm, q⟩ := h
  obtain rfl := Vals.ref1 r
  obtain ⟨its, rv, hl, hz⟩ := I.list hs
  cases ss with
  | nil => cases hm
  | cons x xs =>
    have hm' : xs.foldl (fun a b => if lexS a b then b else a) x = m := by simpa [maxS] using hm
    refine PySem.W.max_list_datum (α := Str) (x := sv x) (xs := xs.map sv) (I.ok.hd hc) hl.isList (by simpa using PySem.W.HoldAll.of_strs (Vals.strs rv)) (by show X.A.units + 1 + 0 < cLine; omega) ?_
    intro i v h' tk hi Hv hk
    obtain ⟨t', rfl⟩ := PySem.W.str_of_holds Hv
    refine ⟨.str _, H, I.kept hk, ⟨t', rfl⟩, ?_⟩
    rw [maxOf_sv, hm']
    exact q
theorem use_strs {K : PySem.W.Frag} {H : Hp} {ds : List D} {ns : List (List Nat)} {v : V} (h : strsD ds = some ns) (r : Rep K H (.lst ds) v) : ∃ p, v = .ref p ∧ SqL K H p ((ns.map sv).map V.str) := by
  obtain ⟨p, vs, rfl, h1, h2⟩ := rep_lst r
  exact ⟨p, rfl, by rw [← Reps.strs h h2]; exact h1⟩
theorem se_maxS (G : Gd X) (ha : SE C X a x) (hg : Gl X ("max" : Str) := by rfl) (hs : starEach [x] X.env = (false, eval x X.env) :: starEach [] X.env := by rfl) : SE C X (.maxS a) (.Call (.Name ("max" : Str) p) [x] [] pos) := by
  refine imp_e (pe_b1 (cr_maxS G.calm G.un) G.max (by decide +kernel) ha hg hs (by decide) (by decide)) fun σ H Q h => ?_
  obtain ⟨B0, H0, B, env, o, d, k, R, he, q⟩ := h
  obtain ⟨da, h1, h2⟩ := bind1_some (show ((bm (ev C a env)).bind fun x => match x with | .lst xs => fr (((strsD xs).bind maxS).map D.str) | _ => none) = some (d, k) from he)
  refine use_b R h1 fun B' H' u s ru => ?_
  cases da <;> simp only [reduceCtorEq] at h2
  obtain ⟨h3, rfl⟩ := fr_some h2
  rw [Option.map_eq_some_iff] at h3
  obtain ⟨m, h4, rfl⟩ := h3
  obtain ⟨ss, h5, h6⟩ := bind1_some h4
  obtain ⟨p1, rfl, q1⟩ := use_strs h5 ru
  exact ⟨p1, ss, m, rfl, q1, h6, q B' H' _ [] s ⟨rfl, str_rep⟩ FrF.nil⟩
/-! ### sorted, the greatest first -/
theorem q_lexS_irr (s : List Nat) : lexS s s = false := by
  rw [← lexS_lt]; simp
theorem q_lexS_tri {s t : List Nat} (h1 : lexS s t = false) (h2 : lexS t s = false) : s = t := by
  rw [← lexS_lt, decide_eq_false_iff_not] at h1 h2
  exact List.le_antisymm (List.not_lt.mp h2) (List.not_lt.mp h1)
theorem lexS_tr {s t u : List Nat} (h1 : lexS t s = false) (h2 : lexS u t = false) : lexS u s = false := by
  rw [← lexS_lt, decide_eq_false_iff_not, List.not_lt] at h1 h2 ⊢
  exact List.le_trans h1 h2
theorem q_sortS_pw (ss : List (List Nat)) : (sortS ss).Pairwise fun a b => lexS b a = false := by
  have h := List.pairwise_mergeSort (le := fun a b : List Nat => !lexS b a) (fun a b c h1 h2 => by
    simp only [Bool.not_eq_true'] at *
    exact lexS_tr h1 h2) (fun a b => by
    cases h1 : lexS b a with
    | false => rfl
    | true =>
      cases h2 : lexS a b with
      | false => rfl
      | true =>
        rw [← lexS_lt, decide_eq_true_eq] at h1 h2
        exact absurd (List.lt_trans h1 h2) (List.lt_irrefl _)) ss
  exact h.imp fun h => by simpa using h
theorem each_vals : ∀ {out : List Value} {bs : List (List Nat)}, PySem.W.EachIs (fun v b => ∃ t, v = Value.str (sv b) t) out bs → Vals ((bs.map sv).map V.str) out
  | _, _, .nil => .nil
  | _, _, .cons ⟨t, e⟩ h => by subst e; exact .cons ⟨t, rfl⟩ (each_vals h)
theorem each_of : ∀ {ss : List (List Nat)} {us : List Value}, Vals ((ss.map sv).map V.str) us → PySem.W.EachIs (fun v b => ∃ t, v = Value.str (sv b) t) us ss
  | [], us, h => by cases h; exact .nil
  | s :: ss, us, h => by
    rw [List.map_cons, List.map_cons] at h
    cases h with
    | cons r t =>
      obtain ⟨k, rfl⟩ := r
      exact .cons ⟨k, rfl⟩ (each_of t)
def rSortedSR (K : PySem.W.Frag) : List V → List V → Hp → VK → Prop := fun vs zs H Q => ∃ (a : Addr) (ss : List (List Nat)), vs = [V.ref a] ∧ zs = [.bl true] ∧ SqL K H a ((ss.map sv).map V.str) ∧
  ∀ (p : Addr), H p = none → Q (.ref p) (upd H p (.lst (((sortS ss).reverse.map sv).map V.str)))
theorem cr_sortedSR (hu : X.A.units + 80 < cLine) : CallRK X (.builtin "sorted") [Str.ofString "reverse"] (rSortedSR X.K) := by
  intro pins s σ H vs zs us ws Q I r rz h
  obtain ⟨a, ss, rfl, rfl, hs, q⟩ := h
  obtain rfl := Vals.ref1 r
  obtain ⟨w1, rfl, e1⟩ := vals1 rz
  obtain rfl : w1 = Value.bool true := e1
  obtain ⟨its, rv, hl, hz⟩ := I.list hs
  have he := each_of rv
  have hlen : ss.length ≤ sizeLine := by simpa using hz
  refine PySem.W.sorted_rev_data (enc := fun b : List Nat => PyData.str (sv b)) (R := fun v b => ∃ t, v = Value.str (sv b) t) hl.isList he (he.mono fun v b ⟨t, e⟩ => ⟨[], by subst e; exact .str _ t⟩) (PySem.W.AllAlike.of fun b b' => by simp [PySem.W.alike]) (PySem.W.Sortable.others fun b => ⟨(by intro z; cases z), fun xs z => by cases z⟩) hlen (fun b _ => by show X.A.units + 2 + 0 < cLine; omega) fun out ho heo => ?_
  have e2 : ss.mergeSort (PySem.W.dataLe true fun b => PyData.str (sv b)) = (sortS ss).reverse := by
    refine perm_sorted (r := fun a b => lexS a b = false) (fun a b h1 h2 => q_lexS_tri h1 h2) _ _ ((List.mergeSort_perm _ _).trans ((List.mergeSort_perm _ _).symm.trans (List.reverse_perm _).symm)) ?_ ?_
    · rw [PySem.W.dataGe_str fun b => sv b]
      have h := List.pairwise_mergeSort (le := fun a b : List Nat => decide ((sv b).cps.toList ≤ (sv a).cps.toList)) (fun a b c h1 h2 => decide_eq_true (List.le_trans (of_decide_eq_true h2) (of_decide_eq_true h1))) (fun a b => by
        rw [Bool.or_eq_true, decide_eq_true_eq, decide_eq_true_eq]
        exact List.le_total b a) ss
      refine h.imp fun {a b} h => ?_
      rw [← lexS_lt, decide_eq_false_iff_not, List.not_lt]
      exact of_decide_eq_true h
    · rw [List.pairwise_reverse]
      exact (q_sortS_pw ss).imp fun h => h
  obtain ⟨ep, he'⟩ := PyProof.Rows.sortedAll_at s.heap its out.toArray
  rw [e2] at heo
  have hv := each_vals heo
  have hlen2 : (((sortS ss).reverse.map sv).map V.str).length ≤ sizeLine := by
    rw [List.length_map, List.length_map, List.length_reverse]; unfold sortS; rw [(List.mergeSort_perm _ _).length_eq]
    exact hlen
  exact ⟨.ref _, upd H (s.heap.objs.size + 1) (.lst (((sortS ss).reverse.map sv).map V.str)), I.laid (t' := s.toks) (fun _ _ => PyProof.Rows.sortedAll_old) (Nat.le_succ _) ⟨hlen2, out, ep, hv, he'⟩, rfl, q _ (I.hok.fresh (Nat.le_succ _))⟩
end Hg
end

section
set_option Elab.async false
set_option maxRecDepth 100000
set_option maxHeartbeats 4000000
/-! Snd13: joined texts, chains, dicts of two, sorted keys, sets' sizes, index. -/
namespace Hg
open PySem PySem.Spec PyProof.Rows L2
variable [TB : Tabl]
variable {C : Nat → List D → Option D} {X : Cx} {a b c e k1 k2 v1 v2 : E} {x y z xk1 xk2 xv1 xv2 : Expr} {n : Str} {pos pos1 pos2 pos3 p p2 : Pos}
theorem se_sortedR {j : Nat} {kpos pc : Pos} (G : Gd X) (ha : SE C X a x) (hg : Gl X ("sorted" : Str) := by rfl) (hs : backTo pos (starEach [x] X.env) = (false, eval x X.env) :: backTo pos (starEach [] X.env) := by rfl) (hs1 : starEach [x] X.env = (false, eval x X.env) :: starEach [] X.env := by rfl)
    (hpl : (backTo pos (starEach [x] X.env)).any (·.1) = false := by rfl) (hall : (backToKw pos (keywordEach [⟨some ("reverse" : Str), .Constant (.bool true) j pc, kpos⟩] X.env)).all (·.1.isSome) = true := by rfl)
    (hnone : (backToKw pos (keywordEach [⟨some ("reverse" : Str), .Constant (.bool true) j pc, kpos⟩] X.env)).any (·.1.isNone) = false := by rfl) (hks : (backToKw pos (keywordEach [⟨some ("reverse" : Str), .Constant (.bool true) j pc, kpos⟩] X.env)).filterMap (·.1) = [Str.ofString "reverse"] := by rfl) :
    SE C X (.sortedR a) (.Call (.Name ("sorted" : Str) p) [x] [⟨some ("reverse" : Str), .Constant (.bool true) j pc, kpos⟩] pos) := by
  refine imp_e (pe_callBK (cr_sortedSR G.un) hg G.sorted (by decide +kernel) (pa_cons ha pa_nil hs1) (pk_cons pe_bl pk_nil) (by decide) (by decide) hs hpl hall hnone hks) fun σ H Q h => ?_
  obtain ⟨B0, H0, B, env, o, d, k, R, he, q⟩ := h
  obtain ⟨da, h1, h2⟩ := bind1_some (show ((bm (ev C a env)).bind fun x => match x with | .lst xs => if xs.length < L then (strsD xs).map fun ss => ((.lst ((sortS ss).reverse.map D.str), .new1) : D × Kd) else none | _ => none) = some (d, k) from he)
  refine use_b R h1 fun B' H' u s ru => ?_
  cases da <;> simp only [reduceCtorEq] at h2
  rename_i xs
  by_cases hz : xs.length < L
  · rw [if_pos hz, Option.map_eq_some_iff] at h2
    obtain ⟨ss, h3, h4⟩ := h2
    cases h4
    obtain ⟨p1, rfl, q1⟩ := use_strs h3 ru
    exact ⟨p1, ss, rfl, rfl, q1, fin_list q rfl s (reps_strs _)⟩
  · rw [if_neg hz] at h2
    cases h2
theorem join_sv (zz : List Nat) : ∀ ss : List (List Nat), Str.join (sv zz) (ss.map sv) = sv (glue zz ss)
  | [] => rfl
  | [s] => rfl
  | s :: t :: r => by
    show sv s ++ sv zz ++ Str.join (sv zz) ((t :: r).map sv) = sv (s ++ zz ++ glue zz (t :: r))
    rw [join_sv zz (t :: r), sv_append, sv_append]
theorem se_join (G : Gd X) (ha : SE C X a x) (hb : SE C X b y) (hs : starEach [y] X.env = [(false, eval y X.env)] := by rfl) (hbase : attributeBase x "join" X.env (eval x X.env) = eval x X.env := by rfl) (hline : (pos1.endLine == pos.line) = true := by rfl) :
    SE C X (.join a b) (.Call (.Attribute x "join" pos1) [y] [] pos) := by
  refine imp_e (pe_join ha hb hs hbase hline) fun σ H Q h => ?_
  obtain ⟨B0, H0, B, env, o, d, k, R, he, q⟩ := h
  obtain ⟨da, h1, h2⟩ := bind1_some (show ((bm (ev C a env)).bind fun x => (bm (ev C b env)).bind fun y => match x, y with
      | .str z, .lst xs => (strsD xs).bind fun ss => if (ss.map List.length).sum + ss.length * z.length ≤ L then some ((.str (glue z ss), .frz) : D × Kd) else none
      | _, _ => none) = some (d, k) from he)
  obtain ⟨db, h3, h4⟩ := bind1_some h2
  refine use_b R h1 fun B1 H1 u s1 ru => ?_
  cases da <;> cases db <;> simp only [reduceCtorEq] at h4
  obtain ⟨ss, h5, h6⟩ := bind1_some h4
  obtain ⟨hz, h7⟩ := if_some h6
  cases h7
  refine ⟨⟨_, rep_str ru⟩, use_b (R.step s1) h3 fun B2 H2 v s2 rv => ?_⟩
  obtain ⟨p1, rfl, q1⟩ := use_strs h5 rv
  refine ⟨_, p1, ss.map sv, rep_str ru, rfl, .inl q1, ?_, ?_⟩
  · have e1 : (ss.map sv).map (·.length) = ss.map List.length := by
      rw [List.map_map]; apply List.map_congr_left; intro s _; exact sv_length s
    rw [e1, List.length_map, sv_length]
    exact Nat.le_trans hz (by decide)
  · rw [TL.join_eq, join_sv]
    exact q B2 H2 _ [] (s1.trans s2) ⟨rfl, str_rep⟩ FrF.nil
/-! ### a < b < c -/
theorem se_ch {op op' : CmpOp} {o1 o2 : CO} (ho : OpR X (compareOp op) (rI0 fun i j => .bl (coB o1 i j))) (ho' : OpR X (compareOp op') (rI0 fun i j => .bl (coB o2 i j))) (ha : SE C X a x) (hb : SE C X b y) (hc : SE C X c z) (hm : lastMarks [op, op'] [y, z] = false := by with_unfolding_all rfl) :
    SE C X (.ch o1 o2 a b c) (.Compare x [op, op'] [y, z] pos) := by
  refine imp_e (pe_chain ho ho' ha hb hc hm) fun σ H Q h => ?_
  obtain ⟨B0, H0, B, env, o, d, k, R, he, q⟩ := h
  obtain ⟨da, h1, h2⟩ := bind1_some (show ((bm (ev C a env)).bind fun x => (bm (ev C b env)).bind fun y => (asInt x).bind fun i => (asInt y).bind fun j =>
      if coB o1 i j then (bm (ev C c env)).bind fun z => (asInt z).bind fun k => some ((.bl (coB o2 j k), .frz) : D × Kd) else some (.bl false, .frz)) = some (d, k) from he)
  obtain ⟨db, h3, h4⟩ := bind1_some h2
  obtain ⟨i, h5, h6⟩ := bind1_some h4
  obtain ⟨j, h7, h8⟩ := bind1_some h6
  obtain rfl := asInt_some h5
  obtain rfl := asInt_some h7
  refine two_b R h1 h3 fun B' H' u v s ru rv => ?_
  refine ⟨i, j, rep_int ru, rep_int rv, coB o1 i j, rfl, ?_⟩
  by_cases hc1 : coB o1 i j = true
  · rw [if_pos hc1] at h8 ⊢
    obtain ⟨dc, h9, h10⟩ := bind1_some h8
    obtain ⟨m, h11, h12⟩ := bind1_some h10
    obtain rfl := asInt_some h11
    cases h12
    refine use_b (R.step s) h9 fun B2 H2 w s2 rw' => ?_
    exact ⟨j, m, rep_int rv, rep_int rw', q B2 H2 _ [] (s.trans s2) ⟨rfl, bl_rep⟩ FrF.nil⟩
  · rw [if_neg hc1] at h8 ⊢
    cases h8
    exact q B' H' _ [] s ⟨rfl, bl_rep⟩ FrF.nil
theorem se_ch_lt_lt (ha : SE C X a x) (hb : SE C X b y) (hc : SE C X c z) (hm : lastMarks [.Lt, .Lt] [y, z] = false := by with_unfolding_all rfl) : SE C X (.ch .lt .lt a b c) (.Compare x [.Lt, .Lt] [y, z] pos) := se_ch op_lt op_lt ha hb hc hm
theorem se_ch_le_le (ha : SE C X a x) (hb : SE C X b y) (hc : SE C X c z) (hm : lastMarks [.LtE, .LtE] [y, z] = false := by with_unfolding_all rfl) : SE C X (.ch .le .le a b c) (.Compare x [.LtE, .LtE] [y, z] pos) := se_ch op_le op_le ha hb hc hm
/-- int of a truth -/
theorem se_intE (G : Gd X) (ha : SE C X a x) (hg : Gl X ("int" : Str) := by rfl) (hs : starEach [x] X.env = (false, eval x X.env) :: starEach [] X.env := by rfl) : SE C X (.intE a) (.Call (.Name ("int" : Str) p) [x] [] pos) := by
  refine imp_e (pe_t1 call_int1 G.int (by decide +kernel) ha hg hs (by decide) (by decide)) fun σ H Q h => ?_
  obtain ⟨B0, H0, B, env, o, d, k, R, he, q⟩ := h
  obtain ⟨da, h1, h2⟩ := bind1_some (show ((bm (ev C a env)).bind fun x => match x with | .bl b => some ((.int (if b then 1 else 0), .frz) : D × Kd) | _ => none) = some (d, k) from he)
  refine use_b R h1 fun B' H' u s ru => ?_
  cases da <;> simp only [reduceCtorEq] at h2
  cases h2
  exact .inr ⟨_, congrArg (fun z => [z]) (rep_bl ru), q B' H' _ [] s ⟨rfl, int_rep⟩ FrF.nil⟩
/-- len(set(xs)) -/
theorem se_lenset (G : Gd X) (ha : SE C X a x) (hg : Gl X ("len" : Str) := by rfl) (hg2 : Gl X ("set" : Str) := by rfl) (hs : starEach [x] X.env = (false, eval x X.env) :: starEach [] X.env := by rfl) : SE C X (.lenset a) (.Call (.Name ("len" : Str) p) [.Call (.Name ("set" : Str) p2) [x] [] pos2] [] pos) := by
  refine imp_e (RZ.pe_lenSetI hg G.len hg2 G.set ha G.calm hs) fun σ H Q h => ?_
  obtain ⟨B0, H0, B, env, o, d, k, R, he, q⟩ := h
  obtain ⟨da, h1, h2⟩ := bind1_some (show ((bm (ev C a env)).bind fun x => match x with | .lst xs => if xs.length ≤ 1000 then frI ((intsD xs).bind fun ns => if ns.Nodup then some (ns.length : Int) else none) else none | _ => none) = some (d, k) from he)
  refine use_b R h1 fun B' H' u s ru => ?_
  cases da <;> simp only [reduceCtorEq] at h2
  rename_i xs
  by_cases hz : xs.length ≤ 1000
  · rw [if_pos hz] at h2
    obtain ⟨m, h3, rfl, rfl⟩ := frI_some h2
    obtain ⟨ns, h4, h5⟩ := bind1_some h3
    obtain ⟨hnd, h6⟩ := if_some h5
    cases h6
    have hl : ns.length = xs.length := by
      obtain ⟨p1, vs, rfl, k1, k2⟩ := rep_lst ru
      have := Reps.ints h4 k2
      have h7 := k2.length
      rw [this, List.length_map] at h7
      exact h7
    obtain ⟨p1, rfl, q1⟩ := use_ints h4 ru
    exact ⟨p1, ns, rfl, q1, hnd, by omega, q B' H' _ [] s ⟨rfl, int_rep⟩ FrF.nil⟩
  · rw [if_neg hz] at h2
    cases h2
theorem repk_ints {K : PySem.W.Frag} {B : Hp} : ∀ {ds : List (Ky × D)} {vs : List (L2.Key × V)} {ns : List Int}, RepK K B ds vs → intsD (ds.map fun kv => kyD kv.1) = some ns → vs.map (·.1) = ns.map Sum.inl
  | [], vs, ns, h, e => by
    rw [h.nil_of]
    cases e
    rfl
  | (kk, d) :: ds, vs, ns, h, e => by
    obtain ⟨v, r, rfl, h1, h2⟩ := h.cons_of
    simp only [List.map_cons, intsD, optAll, Option.bind_eq_some_iff] at e
    obtain ⟨i, e1, ns', e2, e3⟩ := e
    cases e3
    cases kk with
    | inl j =>
      cases e1
      rw [List.map_cons, List.map_cons, repk_ints h2 e2]
      rfl
    | inr s => cases e1
/-- sorted(d), whole numbers as keys -/
theorem se_sortedD (G : Gd X) (ha : SE C X a x) (hg : Gl X ("sorted" : Str) := by rfl) (hs : starEach [x] X.env = (false, eval x X.env) :: starEach [] X.env := by rfl) : SE C X (.sortedD a) (.Call (.Name ("sorted" : Str) p) [x] [] pos) := by
  refine imp_e (pe_b1 (call_sortedDI G.calm) G.sorted (by decide +kernel) ha hg hs (by decide) (by decide)) fun σ H Q h => ?_
  obtain ⟨B0, H0, B, env, o, d, k, R, he, q⟩ := h
  obtain ⟨da, h1, h2⟩ := bind1_some (show ((bm (ev C a env)).bind fun x => match x with
      | .dic kvs => if kvs.length < 64 then (intsD (kvs.map fun kv => kyD kv.1)).map fun ns => ((.lst ((sortI ns).map D.int), .new1) : D × Kd) else none
      | _ => none) = some (d, k) from he)
  refine use_b R h1 fun B' H' u s ru => ?_
  cases da <;> simp only [reduceCtorEq] at h2
  rename_i kvs
  by_cases hz : kvs.length < 64
  · rw [if_pos hz, Option.map_eq_some_iff] at h2
    obtain ⟨ns, h3, h4⟩ := h2
    cases h4
    obtain ⟨p1, vs, rfl, k1, k2⟩ := rep_dic ru
    have e1 := repk_ints k2 h3
    have e2 : ns.length = kvs.length := by
      have := congrArg List.length e1
      rw [List.length_map, List.length_map, k2.length] at this
      exact this.symm
    refine ⟨p1, vs, ns, rfl, .inl k1, e1, by omega, fun ys pp hp hs' hf => ?_⟩
    have := sortI_eq hp hs'
    subst this
    exact fin_list q rfl s (reps_ints _) pp hf
  · rw [if_neg hz] at h2
    cases h2
/-- a def's statement that is never reached -/
theorem ss_never {st : Stmt} : SS C X .never st := imp_s ps_never fun Dn σ H ⟨B0, H0, B, env, o, out, R, he, q⟩ => by
  cases (show (none : Option Out) = some out from he)
end Hg
end

section
set_option Elab.async false
set_option maxRecDepth 100000
set_option maxHeartbeats 4000000
/-! Snd14: dicts of two, setdefault, get, keys; index. -/
namespace Hg
open PySem PySem.Spec PyProof.Rows L2
variable [TB : Tabl]
variable {C : Nat → List D → Option D} {X : Cx} {a b c e k1 k2 v1 v2 : E} {x y z xk1 xk2 xv1 xv2 : Expr} {n : Str} {pos pos1 pos2 pos3 p p2 : Pos}
theorem se_dic2 (G : Gd X) (hk1 : SE C X k1 xk1) (hv1 : SE C X v1 xv1) (hk2 : SE C X k2 xk2) (hv2 : SE C X v2 xv2) : SE C X (.dic2 (.cons k1 (.cons k2 .nil)) (.cons v1 (.cons v2 .nil))) (.Dict [some xk1, some xk2] [xv1, xv2] pos) := by
  refine imp_e (pe_disp (pps_cons hk1 hv1 (pps_cons hk2 hv2 pps_nil)) (by rfl) (by rfl) (fun z => by cases z) (by show 2 ≤ 15; decide)) fun σ H Q h => ?_
  obtain ⟨B0, H0, B, env, o, d, k, R, he, q⟩ := h
  obtain ⟨ds, h1, h2⟩ := bind1_some (show ((evs C (.cons k1 (.cons k2 .nil)) env).bind fun ds => (evs C (.cons v1 (.cons v2 .nil)) env).bind fun es => (optAll keyD ds).bind fun kk => if kk.length = es.length ∧ kk.length ≤ 8 then some ((.dic (mergeKy [] (kk.zip es)), .new1) : D × Kd) else none) = some (d, k) from he)
  obtain ⟨es, h3, h4⟩ := bind1_some h2
  obtain ⟨kk, h5, h6⟩ := bind1_some h4
  obtain ⟨dk1, g1, h7⟩ := bind1_some (show ((vm (ev C k1 env)).bind fun d => (evs C (.cons k2 .nil) env).bind fun ds => some (d :: ds)) = some ds from h1)
  obtain ⟨r1, h8, h9⟩ := bind1_some h7
  cases h9
  obtain ⟨dk2, g2, h10⟩ := bind1_some (show ((vm (ev C k2 env)).bind fun d => (some ([] : List D)).bind fun ds => some (d :: ds)) = some r1 from h8)
  cases h10
  obtain ⟨dv1, g3, h11⟩ := bind1_some (show ((vm (ev C v1 env)).bind fun d => (evs C (.cons v2 .nil) env).bind fun ds => some (d :: ds)) = some es from h3)
  obtain ⟨r2, h12, h13⟩ := bind1_some h11
  cases h13
  obtain ⟨dv2, g4, h14⟩ := bind1_some (show ((vm (ev C v2 env)).bind fun d => (some ([] : List D)).bind fun ds => some (d :: ds)) = some r2 from h12)
  cases h14
  simp only [optAll, Option.bind_eq_some_iff] at h5
  obtain ⟨y1, e1, ys1, ⟨y2, e2, ys2, e3, e4⟩, e5⟩ := h5
  cases e3; cases e4; cases e5
  obtain ⟨_, h15⟩ := if_some h6
  cases h15
  intro pp hp
  have s0 : Step B H B (upd H pp (.dK [])) := Step.own R.bh hp
  refine use_v (R.step s0) g1 fun B1 H1 u1 s1 ru1 => ?_
  refine use_v ((R.step s0).step s1) g3 fun B2 H2 u2 s2 ru2 => ?_
  refine use_v (((R.step s0).step s1).step s2) g2 fun B3 H3 u3 s3 ru3 => ?_
  refine use_v ((((R.step s0).step s1).step s2).step s3) g4 fun B4 H4 u4 s4 ru4 => ?_
  have sA := ((s1.trans s2).trans s3).trans s4
  have hbp : B pp = none := R.bh.back hp
  have hb4 : B4 pp = none := by
    cases hq : B4 pp with
    | none => rfl
    | some w =>
      rcases sA.nw pp (by rw [hq]; exact fun z => nomatch z) with z | z
      · exact absurd hbp z
      · rw [upd_same] at z; cases z
  refine ⟨sA.hh.at upd_same nt_dK, [(ky y1, u2), (ky y2, u4)], ?_, by show 2 ≤ 15; decide, ?_⟩
  · rw [kV_ky e1 ru1, kV_ky e2 ru3]
    rfl
  · have hr : RepK X.K B4 (mergeKy [] ([y1, y2].zip [dv1, dv2])) (mergeK [] [(ky y1, u2), (ky y2, u4)]) :=
      RepK.merge (repk_cons (Rep.mono (s3.bb.trans s4.bb) _ _ ru2) (repk_cons ru4 repk_nil)) repk_nil
    refine q B4 _ _ [pp] ⟨sA.bb, sA.hh.put (.inl hp) (fun q => by rw [sA.hh.at upd_same nt_dK]; exact code_dK), sA.bh.upd hb4 (fun q => by rw [sA.hh.at upd_same nt_dK]; exact code_dK), fun w hw => ?_⟩ ⟨pp, rfl, rfl, .inr ⟨_, _, rfl, upd_same, hr⟩⟩ (FrF.one hp hb4)
    · rcases sA.nw w hw with z | z
      · exact .inl z
      · by_cases hne : w = pp
        · subst hne; rw [upd_same] at z; cases z
        · rw [upd_ne hne] at z; exact .inr z
/-- list(d): the keys -/
theorem se_listKeys (G : Gd X) (ha : SE C X a x) (hg : Gl X ("list" : Str) := by rfl) (hs : starEach [x] X.env = (false, eval x X.env) :: starEach [] X.env := by rfl) : SE C X (.listKeys a) (.Call (.Name ("list" : Str) p) [x] [] pos) := by
  refine imp_e (pe_t1 (call_listD G.calm) G.list (by decide +kernel) ha hg hs (by decide) (by decide)) fun σ H Q h => ?_
  obtain ⟨B0, H0, B, env, o, d, k, R, he, q⟩ := h
  obtain ⟨da, h1, h2⟩ := bind1_some (show ((bm (ev C a env)).bind fun x => match x with | .dic kvs => some ((.lst (kvs.map fun kv => kyD kv.1), .new1) : D × Kd) | _ => none) = some (d, k) from he)
  refine use_b R h1 fun B' H' u s ru => ?_
  cases da <;> simp only [reduceCtorEq] at h2
  rename_i kvs
  cases h2
  obtain ⟨p1, vs, rfl, k1, k2⟩ := rep_dic ru
  refine ⟨p1, vs, rfl, .inl k1, ?_⟩
  refine fin_list q rfl s ?_
  have : ∀ {ds : List (Ky × D)} {vs : List (L2.Key × V)}, RepK X.K H' ds vs → Reps X.K B' (ds.map fun kv => kyD kv.1) (vs.map fun kv => kV kv.1) := by
    intro ds
    induction ds with
    | nil => intro vs h; rw [h.nil_of]; exact reps_nil
    | cons kd ds ih =>
      intro vs h
      obtain ⟨kk, dd⟩ := kd
      obtain ⟨v, r, rfl, h1, h2⟩ := h.cons_of
      rw [List.map_cons, List.map_cons]
      refine reps_cons ?_ (ih h2)
      cases kk with
      | inl i => exact int_rep
      | inr t => exact str_rep
  exact this k2
/-- d.get(k, x) -/
theorem se_get (G : Gd X) (ha : SE C X a x) (hb : SE C X b y) (hc : SE C X c z) (m : M2 X x "get" pos1 y z pos := by exact ⟨rfl, rfl, rfl, rfl⟩) : SE C X (.get a b c) (.Call (.Attribute x "get" pos1) [y, z] [] pos) := by
  refine imp_e (pe_dget2 (by have := G.un; omega) ha hb hc m) fun σ H Q h => ?_
  obtain ⟨B0, H0, B, env, o, d, k, R, he, q⟩ := h
  obtain ⟨da, h1, h2⟩ := bind1_some (show ((em (ev C a env)).bind fun y => (bm (ev C b env)).bind fun q => (vm (ev C c env)).bind fun z => match y with | .dic kvs => (keyD q).map fun kk => (((look kvs kk).getD z, .frz) : D × Kd) | _ => none) = some (d, k) from he)
  obtain ⟨db, h3, h4⟩ := bind1_some h2
  obtain ⟨dc, h5, h6⟩ := bind1_some h4
  cases da <;> simp only [reduceCtorEq] at h6
  rw [Option.map_eq_some_iff] at h6
  obtain ⟨kk, h7, h8⟩ := h6
  cases h8
  refine use_e R h1 fun B1 H1 u s1 ru => ?_
  obtain ⟨p1, vs, rfl, q1, r1⟩ := ru
  refine ⟨p1, rfl, .inl ⟨vs, .inl q1⟩, use_b (R.step s1) h3 fun B2 H2 v s2 rv => use_v ((R.step s1).step s2) h5 fun B3 H3 w s3 rw' => ?_⟩
  have r3 : RepK X.K B3 _ vs := RepK.mono (s2.bb.trans s3.bb) _ _ r1
  refine ⟨valV vs (ky kk), ?_, ?_⟩
  · rw [kV_ky h7 rv]
    exact DGet.k (s3.hh.at (s2.hh.at q1 nt_dK) nt_dK)
  · have s := (s1.trans s2).trans s3
    cases hl : look _ kk with
    | none =>
      rw [hl] at q
      rw [r3.look_none hl]
      exact q B3 H3 _ [] s ⟨rfl, rw'⟩ FrF.nil
    | some dd =>
      rw [hl] at q
      obtain ⟨vv, h9, h10⟩ := r3.look_some hl
      rw [h9]
      exact q B3 H3 _ [] s ⟨rfl, h10⟩ FrF.nil
theorem slot_dic1 {env : Hg.Env} {i : Nat} {α : Type} {f : List (Ky × D) → Option α} {out : α} (h : (match env[i]? with | some (.val (.dic xs) .own1) => f xs | _ => none) = some out) : ∃ xs, env[i]? = some (.val (.dic xs) .own1) ∧ f xs = some out := by
  split at h
  · rename_i xs hi
    exact ⟨xs, hi, h⟩
  · cases h
/-- d.setdefault(k, v), as a statement -/
theorem ss_setdef {i : Nat} (G : Gd X) (ha : SE C X a x) (hb : SE C X b y) (hi : X.N[i]? = some n := by rfl) (hv : Vis X.env.scope n := by first | exact Or.inl rfl | exact Or.inr (Or.inl rfl) | exact Or.inr (Or.inr rfl)) (hd : (n == ("__debug__" : Str)) = false := by decide) (hcd : (n == ("__classdict__" : Str)) = false := by decide)
    (hs : swapsWith (.Call (.Attribute (.Name n pos1) "setdefault" pos2) [x, y] [] p) none pos.line X.env = pure false := by rfl) (m : M2 X (.Name n pos1) "setdefault" pos2 x y p := by exact ⟨rfl, rfl, rfl, rfl⟩) : SS C X (.setdef i a b) (.Expr (.Call (.Attribute (.Name n pos1) "setdefault" pos2) [x, y] [] p) pos) := by
  refine imp_s (ps_expr (pe_dsetd (pv i hi hv hd hcd) ha hb m) hs) fun Dn σ H ⟨B0, H0, B, env, o, out, R, he, q⟩ => ?_
  obtain ⟨dx, h1, h2⟩ := bind1_some (show ((bm (ev C a env)).bind fun x => (vm (ev C b env)).bind fun z => match env[i]? with
      | some (.val (.dic kvs) .own1) => (keyD x).bind fun kk => if kvs.length < L then some (Out.nx (env.set i (.val (.dic (if (look kvs kk).isSome then kvs else kvs ++ [(kk, z)])) .own1))) else none
      | _ => none) = some out from he)
  obtain ⟨dz, h3, h4⟩ := bind1_some h2
  obtain ⟨kvs, hi', h5⟩ := slot_dic1 h4
  obtain ⟨kk, h6, h7⟩ := bind1_some h5
  obtain ⟨hz, h8⟩ := if_some h7
  cases h8
  obtain ⟨p1, vs, k1, k2, k3, _⟩ := R.dic1 hi'
  refine ⟨.ref p1, k1, p1, rfl, .inl ⟨vs, .inl k2⟩, use_b R h1 fun B1 H1 u s1 ru => use_v (R.step s1) h3 fun B2 H2 v s2 rv => ?_⟩
  obtain ⟨p', vs', k1', k2', k3', mk⟩ := ((R.step s1).step s2).dic1 hi'
  rw [k1] at k1'
  cases k1'
  refine ⟨vs', ky kk, k2', kV_ky h6 ru, by rw [k3'.length]; exact sizeLt hz, fun w hw => ?_, fun hw => ?_⟩
  · have hl : (look kvs kk).isSome = true := by
      cases hq : look kvs kk with
      | some _ => rfl
      | none => rw [k3'.look_none hq] at hw; cases hw
    rw [if_pos hl] at q
    refine q B2 σ H2 o ?_ (s1.bb.trans s2.bb)
    have R2 := ((R.step s1).step s2)
    have e1 : env.set i (.val (.dic kvs) .own1) = env := by
      apply List.ext_getElem?
      intro j
      rw [List.getElem?_set]
      by_cases hj : i = j
      · subst hj
        have hl2 : i < env.length := (List.getElem?_eq_some_iff.mp hi').1
        rw [if_pos rfl, if_pos hl2, hi']
      · rw [if_neg hj]
    rw [e1]
    exact R2
  · have hl : (look kvs kk).isSome = false := by
      cases hq : look kvs kk with
      | none => rfl
      | some dd =>
        obtain ⟨vv, h9, _⟩ := k3'.look_some hq
        rw [h9] at hw; cases hw
    rw [hl] at q
    refine q B2 σ _ o (mk _ _ ?_) (s1.bb.trans s2.bb)
    have hp := k3'.put (k := kk) rv
    have e1 : put kvs kk dz = kvs ++ [(kk, dz)] := by
      unfold put
      rw [if_neg]
      intro hany
      rw [List.any_eq_true] at hany
      obtain ⟨kv, hkv, he'⟩ := hany
      have : (look kvs kk).isSome = true := by
        unfold look
        rw [Option.isSome_map, List.find?_isSome]
        exact ⟨kv, hkv, he'⟩
      rw [hl] at this
      cases this
    rw [e1] at hp
    exact hp
end Hg
end

section
set_option Elab.async false
set_option maxRecDepth 100000
set_option maxHeartbeats 4000000
/-! Snd15: index, a key of a row's dict popped. -/
namespace Hg
open PySem PySem.Spec PyProof.Rows L2
variable [TB : Tabl]
variable {C : Nat → List D → Option D} {X : Cx} {a b c e k1 k2 v1 v2 : E} {x y z : Expr} {n : Str} {pos pos1 pos2 pos3 p p2 : Pos}
def rIndexI (K : PySem.W.Frag) : V → List V → Hp → VK → Prop := fun x xs H Q => ∃ (l : Addr) (ns : List Int) (m : Int), x = .ref l ∧ xs = [.int m] ∧ SqL K H l (ns.map V.int) ∧ m ∈ ns ∧ Q (.int (ns.idxOf m : Nat)) H
theorem mt_indexI (hu : X.A.units + 80 < cLine) : MtR X "list.index" (rIndexI X.K) := by
  intro pins s σ H x xs v us Q I rx rxs h
  obtain ⟨l, ns, m, rfl, rfl, hs, hm, q⟩ := h
  cases rx
  obtain ⟨u1, rfl, t, e⟩ := vals1 rxs
  subst e
  obtain ⟨its, rv, hl, hz⟩ := I.list hs
  exact PySem.W.index_list_datum (α := Int) hl.isList (PySem.W.HoldAll.of_ints rv.ints) (PySem.W.holds_int m t) (by show X.A.units + 1 + 0 < cLine; omega) (by simpa using hz) hm ⟨.int _, H, I.tok _, ⟨_, rfl⟩, q⟩
def rIndexP (K : PySem.W.Frag) : V → List V → Hp → VK → Prop := fun x xs H Q => ∃ (l t : Addr) (vs : List V) (ps : List (Int × Int)) (m : Int × Int), x = .ref l ∧ xs = [.ref t] ∧ SqL K H l vs ∧ vs.map (pairAt H) = ps ∧
  (∀ v ∈ vs, ∃ t, v = .ref t ∧ H t = some (.tup [.int (pairAt H v).1, .int (pairAt H v).2])) ∧ H t = some (.tup [.int m.1, .int m.2]) ∧ m ∈ ps ∧ Q (.int (ps.idxOf m : Nat)) H
theorem holds_tupP {pins : List (Addr × Obj)} {s : Shared} {σ : L2.St} {H : Hp} (I : L2.Inv X pins σ H s) {t : Addr} {m : Int × Int} (h : H t = some (.tup [.int m.1, .int m.2])) : PySem.W.Holds s.heap (.ref t) m := by
  obtain ⟨its, rv, hl, hz⟩ := I.tuple (SqT.of h)
  obtain ⟨u, w, rfl, ⟨t1, e1⟩, ⟨t2, e2⟩⟩ := vals2 rv
  subst e1 e2
  exact PySem.W.holds_pair hl (PySem.W.holds_int _ _) (PySem.W.holds_int _ _)
theorem hold_pairs {pins : List (Addr × Obj)} {s : Shared} {σ : L2.St} {H : Hp} (I : L2.Inv X pins σ H s) : ∀ {vs : List V} {its : List Value}, Vals vs its → (∀ v ∈ vs, ∃ t, v = .ref t ∧ H t = some (.tup [.int (pairAt H v).1, .int (pairAt H v).2])) →
    PySem.W.HoldAll s.heap its (vs.map (pairAt H))
  | [], its, r, _ => by cases r; exact PySem.W.HoldAll.nil
  | v :: vs, its, r, h => by
    cases r with
    | cons r1 r2 =>
      obtain ⟨t, e, ht⟩ := h v (List.mem_cons_self ..)
      rw [List.map_cons]
      refine PySem.W.HoldAll.cons ?_ (hold_pairs I r2 fun w hw => h w (List.mem_cons_of_mem _ hw))
      have hh := holds_tupP I (m := pairAt H v) ht
      subst e
      cases r1
      exact hh
theorem idxOf_inst (m : Int × Int) (ps : List (Int × Int)) : @List.idxOf _ instBEqOfDecidableEq m ps = ps.idxOf m := by
  unfold List.idxOf
  congr 1
  funext x
  rw [Bool.eq_iff_iff]
  simp
theorem mt_indexP (hu : X.A.units + 80 < cLine) : MtR X "list.index" (rIndexP X.K) := by
  intro pins s σ H x xs v us Q I rx rxs h
  obtain ⟨l, t, vs, ps, m, rfl, rfl, hs, hps, hv, ht, hm, q⟩ := h
  cases rx
  obtain ⟨u1, rfl, e⟩ := vals1 rxs
  obtain rfl : u1 = Value.ref t := e
  obtain ⟨its, rv, hl, hz⟩ := I.list hs
  have hA := hold_pairs I rv hv
  rw [hps] at hA
  exact PySem.W.index_list_datum (α := Int × Int) hl.isList hA (holds_tupP I ht) (by show X.A.units + 1 + (max 0 0 + 1) < cLine; omega) (by rw [← hps, List.length_map]; exact hz) hm ⟨.int _, H, I.tok _, ⟨_, rfl⟩, by rw [idxOf_inst]; exact q⟩
theorem mtr_or2 {id : String} {r r' : V → List V → Hp → VK → Prop} (h : MtR X id r) (h' : MtR X id r') : MtR X id (fun x xs H Q => r x xs H Q ∨ r' x xs H Q) := fun pins s σ H x xs v us Q I rx rxs q => q.elim (h pins s σ H x xs v us Q I rx rxs) (h' pins s σ H x xs v us Q I rx rxs)
theorem se_index (G : Gd X) (ha : SE C X a x) (hb : SE C X b y) (hbase : attributeBase x "index" X.env (eval x X.env) = eval x X.env := by rfl)
    (hfew : ((backTo p (starEach [y] X.env)).all (fun x => !x.1) && (backToKw p (keywordEach [] X.env)).all (fun x => x.1.isSome) && decide ([y].length + ([] : List Keyword).length + (if ([] : List Keyword).isEmpty then 0 else 1) < 30)) = true := by rfl)
    (hline : (pos2.endLine == p.line) = true := by rfl) (hst : starEach [y] X.env = (false, eval y X.env) :: starEach [] X.env := by rfl) : SE C X (.index a b) (.Call (.Attribute x "index" pos2) [y] [] p) := by
  refine imp_e (pe_bm PySem.F.plainAttrs_list PySem.F.slot_list_index PySem.F.type_list_index (mtr_or2 (mt_indexI G.un) (mt_indexP G.un)) ha (pa_cons hb pa_nil hst) hbase hfew hline hst rfl) fun σ H Q h => ?_
  obtain ⟨B0, H0, B, env, o, d, k, R, he, q⟩ := h
  obtain ⟨da, h1, h2⟩ := bind1_some (show ((bm (ev C a env)).bind fun x => (bm (ev C b env)).bind fun y => match x with
      | .lst xs => match intsD xs, asInt y with
        | some ns, some n => if xs.length ≤ 1000 ∧ n ∈ ns then some ((.int (ns.idxOf n : Nat), .frz) : D × Kd) else none
        | _, _ => match pairsD xs, asPair y with
          | some ps, some q => if xs.length ≤ 1000 ∧ q ∈ ps then some (.int (ps.idxOf q : Nat), .frz) else none
          | _, _ => none
      | _ => none) = some (d, k) from he)
  obtain ⟨db, h3, h4⟩ := bind1_some h2
  refine use_b R h1 fun B1 H1 u s1 ru => ?_
  cases da <;> simp only [reduceCtorEq] at h4
  rename_i xs
  obtain ⟨p1, vs, rfl, k1, k2⟩ := rep_lst ru
  refine ⟨.inl ⟨rfl, vs, k1⟩, use_b (R.step s1) h3 fun B2 H2 v s2 rv => ?_⟩
  have k1' := s2.hh.sq k1
  have k2' := Reps.mono s2.hh _ _ k2
  have s := s1.trans s2
  split at h4
  · rename_i ns m hn hm
    obtain ⟨⟨_, hz⟩, h5⟩ := if_some h4
    cases h5
    obtain rfl := asInt_some hm
    have e1 := Reps.ints hn k2'
    subst e1
    exact .inl ⟨p1, ns, m, rfl, congrArg (fun z => [z]) (rep_int rv), k1', hz, q B2 H2 _ [] s ⟨rfl, int_rep⟩ FrF.nil⟩
  · split at h4
    · rename_i ps m hn hm
      obtain ⟨⟨_, hz⟩, h5⟩ := if_some h4
      cases h5
      obtain ⟨g1, g2⟩ := pairsD_reps (Ext.refl H2) hn k2'
      have hd : db = pairD m := by
        cases db with
        | tup xs =>
          match xs, hm with
          | [.int i, .int j], hm => cases hm; rfl
        | _ => cases hm
      subst hd
      obtain ⟨t, us, rfl, q1, q2⟩ := rep_tup rv
      have hu : us = [.int m.1, .int m.2] := Reps.ints (ns := [m.1, m.2]) rfl q2
      subst hu
      exact .inr ⟨p1, t, vs, ps, m, rfl, rfl, k1', g1, fun v hv => (g2 v hv).1, q1, hz, q B2 H2 _ [] s ⟨rfl, int_rep⟩ FrF.nil⟩
    · cases h4
/-- rows[i].pop(k), as a statement -/
theorem ss_dpop {i : Nat} (G : Gd X) (ha : SE C X a x) (hb : SE C X b y) (hpl : PlainIx x := by exact fun _ _ => rfl) (hi : X.N[i]? = some n := by rfl) (hv : Vis X.env.scope n := by first | exact Or.inl rfl | exact Or.inr (Or.inl rfl) | exact Or.inr (Or.inr rfl)) (hd : (n == ("__debug__" : Str)) = false := by decide) (hcd : (n == ("__classdict__" : Str)) = false := by decide)
    (hs : swapsWith (.Call (.Attribute (.Subscript (.Name n pos1) x pos3) "pop" pos2) [y] [] p) none pos.line X.env = pure false := by rfl) (m : M1 X (.Subscript (.Name n pos1) x pos3) "pop" pos2 y p := by exact ⟨rfl, rfl, rfl, rfl⟩) :
    SS C X (.dpop i a b) (.Expr (.Call (.Attribute (.Subscript (.Name n pos1) x pos3) "pop" pos2) [y] [] p) pos) := by
  refine imp_s (ps_expr (pe_dpop1 (pe_ix ix_list (pv i hi hv hd hcd) ha hpl) hb m) hs) fun Dn σ H ⟨B0, H0, B, env, o, out, R, he, q⟩ => ?_
  obtain ⟨dx, h1, h2⟩ := bind1_some (show ((bm (ev C a env)).bind fun x => (bm (ev C b env)).bind fun z => match env[i]? with
      | some (.val (.lst xs) .own2) => (asInt x).bind fun j => (Hg.ixN xs.length j).bind fun n => match xs[n]? with
          | some (.dic kvs) => (keyD z).bind fun kk => if (look kvs kk).isSome then some (Out.nx (env.set i (.val (.lst (xs.set n (.dic (dropKy kvs kk)))) .own2))) else none
          | _ => none
      | _ => none) = some out from he)
  obtain ⟨dv, h3, h4⟩ := bind1_some h2
  obtain ⟨xs, hi', h5⟩ := slot_own2 (f := fun xs => (asInt dx).bind fun j => (Hg.ixN xs.length j).bind fun n => match xs[n]? with
          | some (.dic kvs) => (keyD dv).bind fun kk => if (look kvs kk).isSome then some (Out.nx (env.set i (.val (.lst (xs.set n (.dic (dropKy kvs kk)))) .own2))) else none
          | _ => none) h4
  obtain ⟨j, h6, h7⟩ := bind1_some h5
  obtain rfl := asInt_some h6
  obtain ⟨m', h8, h9⟩ := bind1_some h7
  cases hr : xs[m']? with
  | none => rw [hr] at h9; cases h9
  | some row =>
    rw [hr] at h9
    cases row <;> simp only [reduceCtorEq] at h9
    rename_i kvs
    obtain ⟨kk, h10, h11⟩ := bind1_some h9
    obtain ⟨hz, h12⟩ := if_some h11
    cases h12
    obtain ⟨p, vs, r, g1, g2, g3, g4, g5, _⟩ := R.row hi' hr
    refine ⟨.ref p, g1, use_b R h1 fun B1 H1 u s1 ru => ?_⟩
    obtain ⟨p', vs', r', g1', g2', g3', g4', g5', _⟩ := (R.step s1).row hi' hr
    rw [g1] at g1'
    cases g1'
    refine ⟨p, vs', j, .ref r', rfl, rep_int ru, SqL.of g2', ?_, ?_⟩
    · unfold atI
      rw [g3', ixN_eq, h8]
      exact g4'
    · obtain ⟨r2, ws, e1, _, k6, k7⟩ := own1_dic g5'
      cases e1
      refine ⟨r', rfl, .inl ⟨ws, .inl k6⟩, use_b (R.step s1) h3 fun B2 H2 v s2 rv => ?_⟩
      obtain ⟨p3, vs3, r3, g1'', g2'', g3'', g4'', g5'', mk⟩ := ((R.step s1).step s2).row hi' hr
      rw [g1] at g1''
      cases g1''
      have e3 : vs3 = vs' := by
        have := s2.hh.at g2' nt_lst
        rw [g2''] at this
        cases this
        rfl
      subst e3
      rw [g4'] at g4''
      cases g4''
      obtain ⟨r4, ws2, e4, _, k8, k9⟩ := own1_dic g5''
      cases e4
      obtain ⟨dd, hdd⟩ := Option.isSome_iff_exists.mp hz
      obtain ⟨vv, h13, _⟩ := k9.look_some hdd
      refine ⟨ws2, ky kk, vv, k8, kV_ky h10 rv, h13, ?_⟩
      exact q B2 σ _ o (mk _ _ ⟨r', rfl, rfl, .inr ⟨_, _, rfl, upd_same, k9.drop⟩⟩) (s1.bb.trans s2.bb)
end Hg
end

section
set_option Elab.async false
set_option maxRecDepth 100000
set_option maxHeartbeats 4000000
/-! Snd16: list(reversed(x)). -/
namespace Hg
open PySem PySem.Spec PyProof.Rows L2 RT
variable [TB : Tabl]
section
variable {prog : Program} {w : World} {A : Around} {E : Value → Shared → Prop} {s : Shared}
/-- the new list at S is filled from the iterator -/
theorem lrev_extend {Rr : Result → Shared → Prop} {it l : Addr} {items : Array Value} (hh : A.handled = none) (hit : s.heap.IsRevIter it l ((items.size : Int) - 1)) (hl : s.heap.IsList l items) (hne : l ≠ it) (hn : items.size ≤ sizeLine)
    (S : Addr) (hSi : S ≠ it) (hSl : S ≠ l) (c₀ : Nat) (hS : s.heap.get? S = some { cls := .type "list", data := .seq #[] c₀ })
    (hR : ∀ h' tk acc' c', (∀ b o, b ≠ S → b ≠ it → s.heap.get? b = some o → h'.get? b = some o) → h'.get? S = some { cls := .type "list", dict := none, data := .seq acc' c', slots := #[] } → ItemsOf (fun i v => items[items.size - 1 - i]? = some v) acc' items.size → Rr (.ok (.ret .none)) { s with heap := h', toks := tk }) :
    wpAny (model prog w) A.in1 (Builtin.List.listExtendWith (.ref S) (.ref it) .none)
      (fun fin s' => match fin with | .done f => Rr (.ok f) s' | .again c' => c'.quiet = true ∧ codeAny (model prog w) A c' Rr s') (fun e s' => Rr (.error e) s') s := by
  have W := (Walks.listRev (prog := prog) (w := w) (A := A.in1) hh it l hne items).toS
  have hSf : S ∉ [it, l] := by simp only [List.mem_cons, List.not_mem_nil, or_false, not_or]; exact ⟨hSi, hSl⟩
  have hTy : s.TypeIs (.ref it) "list_reverseiterator" := hit.typeIs
  have hsr : Builtin.List.listSameRef (.ref S) (.ref it) = false := by simp [Builtin.List.listSameRef, hSi]
  unfold Builtin.List.listExtendWith
  refine wpAny_bind (wpAny_typeOf hTy ?_)
  rw [if_neg (by rw [hsr]; decide)]
  refine wpAny_bind (wpAny_pyIter_revIter hit ?_)
  refine wpAny_bind (wpAny_holding ?_)
  unfold Builtin.List.listLengthHint
  refine wpAny_bind (wpAny_specialOf hTy nolen_lri ?_)
  show wpAny _ A.in1 (specialOf (Value.ref it) (Str.ofString "__length_hint__") >>= _) _ _ _
  refine wpAny_bind (wpAny_specialOf hTy hint_lri ?_)
  generalize hid : ("list_reverseiterator.__length_hint__" : String) = id0
  wp_delta
  rw [show splitId id0 = some ("list_reverseiterator", "__length_hint__") from by subst hid; decide +kernel]
  subst hid
  refine wpAny_bind (wpAny_isInstance (b := true) hTy (by rw [isSubtype_type]; kernel_rfl) ?_)
  refine wpAny_pure ?_
  rw [if_neg (by decide)]
  have e0 : ((items.size : Nat) : Int) - 1 - ((0 : Nat) : Int) = (items.size : Int) - 1 := by omega
  refine wpAny_pure ⟨plainId_quiet F.plain_extend_loop _, codeAny_extend_loopS W hn _ hSf _ items.size 0 _ _ _ rfl (Nat.zero_le _) ⟨Nat.zero_le _, by rw [e0]; exact hit, hl⟩ hS (ItemsOf.nil _) fun s' acc' c' hm hS' hacc => ?_⟩
  rw [Moved.eq_with hm]
  refine hR s'.heap s'.toks acc' c' (fun b o hb hb2 e => hm.heap b o (fun hmem => ?_) e) hS' hacc
  rcases List.mem_cons.mp hmem with e' | hmem
  · exact hb e'
  · exact hb2 (List.mem_singleton.mp hmem)
theorem lrev_call {Q : Value → Shared → Prop} {it l : Addr} {items : Array Value} (hh : A.handled = none) (hit : s.heap.IsRevIter it l ((items.size : Int) - 1)) (hl : s.heap.IsList l items) (hne : l ≠ it) (hn : items.size ≤ sizeLine)
    (hQ : ∀ h' tk acc' c', (∀ b o, b ≠ it → s.heap.get? b = some o → h'.get? b = some o) → h'.get? s.heap.objs.size = some { cls := .type "list", dict := none, data := .seq acc' c', slots := #[] } → ItemsOf (fun i v => items[items.size - 1 - i]? = some v) acc' items.size → Q (.ref s.heap.objs.size) { s with heap := h', toks := tk }) :
    wpAny (model prog w) A (call (.type "list") [.ref it]) Q E s := by
  refine callType_codes (Q₁ := fun obj s₁ => obj = .ref s.heap.objs.size ∧ s₁ = { s with heap := s.heap.push { cls := .type "list", data := .seq #[] } }) PySem.F.called_list (PySem.F.typeCall_list_1 _) PySem.F.entry_list_init
    (code_list_new _ ⟨rfl, rfl⟩) fun obj s₁ h₁ => ?_
  obtain ⟨rfl, rfl⟩ := h₁
  obtain ⟨oi, hoi, _⟩ := id hit
  obtain ⟨ol, hol, _⟩ := id hl
  have hli : it < s.heap.objs.size := Heap.lt_size hoi
  have hll : l < s.heap.objs.size := Heap.lt_size hol
  have hS : (s.heap.push { cls := .type "list", data := .seq #[] }).get? s.heap.objs.size = some { cls := .type "list", data := .seq #[] } := Heap.get?_push_size _ rfl
  refine ⟨⟨_, hS, rfl⟩, PySem.F.args_list_init_2 _ _, ?_⟩
  show wpAny _ _ (do let old ← Builtin.List.listItems (.ref s.heap.objs.size); Builtin.List.listUpdate (.ref s.heap.objs.size) (fun _ => #[]); letGo old.toList.reverse; Builtin.List.listExtendWith (.ref s.heap.objs.size) (.ref it) .none) _ _ _
  refine wpAny_bind ?_
  unfold Builtin.List.listItems
  refine wpAny_bind (wpAny_seqItems hS rfl (wpAny_pure ?_))
  show wpAny _ _ (updateSeq s.heap.objs.size (fun _ => #[]) >>= fun _ => letGo (#[] : Array Value).toList.reverse >>= fun _ => Builtin.List.listExtendWith (.ref s.heap.objs.size) (.ref it) .none) _ _ _
  refine wpAny_bind (wpAny_updateSeq hS rfl ?_)
  have hS₂ := Heap.get?_update_self (Obj.mapSeq (fun _ => (#[] : Array Value))) hS rfl
  have oth : ∀ b o, b ≠ s.heap.objs.size → s.heap.get? b = some o → ((s.heap.push { cls := .type "list", data := .seq #[] }).update s.heap.objs.size (Obj.mapSeq (fun _ => (#[] : Array Value)))).get? b = some o :=
    fun b o hb e => (Heap.get?_update_other _ _ (Ne.symm hb)).trans (Heap.get?_push_of_some _ e)
  refine wpAny_bind (wpAny_letGo ?_)
  have hlI : ((s.heap.push { cls := .type "list", data := .seq #[] }).update s.heap.objs.size (Obj.mapSeq (fun _ => (#[] : Array Value)))).IsList l items := by
    obtain ⟨o, ho, hc, n, hd⟩ := hl
    exact ⟨o, oth _ _ (Nat.ne_of_lt hll) ho, hc, n, hd⟩
  refine lrev_extend (A := A.in1) hh (hit.at fun o e => oth _ _ (Nat.ne_of_lt hli) e) hlI hne hn _ (Nat.ne_of_gt hli) (Nat.ne_of_gt hll) _ hS₂ fun h' tk acc' c' hk hS' hacc => ?_
  exact ⟨rfl, hQ h' tk acc' c' (fun b o hb e => hk b o (Nat.ne_of_lt (Heap.lt_size e)) hb (oth b o (Nat.ne_of_lt (Heap.lt_size e)) e)) hS' hacc⟩
end
section
variable {C : Nat → List D → Option D} {X : Cx} {a : E} {x : Expr} {pos pos2 p p2 : Pos}
def tLstRev (K : PySem.W.Frag) (te : TE) : TE := fun σ H Q => te σ H fun v H1 => ∃ (a : Addr) (xs : List V), v = .ref a ∧ SqL K H1 a xs ∧ ∀ q, H1 q = none → Q (.ref q) (upd H1 q (.lst xs.reverse))
theorem pe_lstRev {e : Expr} {te : TE} (hc : X.calm = true) (hg : Gl X "list") (hm : X.mg "list" = none) (hg2 : Gl X "reversed") (hm2 : X.mg "reversed" = none) (he : PE X e te)
    (hs : starEach [e] X.env = (false, eval e X.env) :: starEach [] X.env)
    (hs2 : starEach [.Call (.Name "reversed" p2) [e] [] pos2] X.env = (false, eval (.Call (.Name "reversed" p2) [e] [] pos2) X.env) :: starEach [] X.env) :
    PE X (.Call (.Name "list" p) [.Call (.Name "reversed" p2) [e] [] pos2] [] pos) (tLstRev X.K te) := by
  refine ⟨fun pins s σ H Q I h => ?_⟩
  refine Call_ (ld_blt I hg hm boot_list (PyProof.Rows.callWith_type1 (args_cons (Call_ (ld_blt I hg2 hm2 PyProof.Rows.boot_reversed (PyProof.Rows.callWith_type1 (args_cons (thn (he.run pins s σ H _ I h) fun u s1 ⟨v, H1, I1, r1, q1⟩ => args_nil ?_) hs) hs rfl))) hs2) hs2 rfl))
  obtain ⟨a, xs, ev, hq, q⟩ := q1
  subst ev
  obtain rfl : u = Value.ref a := r1
  obtain ⟨its, rv, p', hz⟩ := I1.list hq
  refine call_reversed_list p'.isList (args_nil ?_)
  have I2 : L2.Inv X pins σ H1 { s1 with heap := s1.heap.push (revObj a ((its.toArray.size : Int) - 1)) } := I1.kept (t' := s1.toks) fun b o e => Heap.get?_push_of_some _ e
  obtain ⟨f0, f1, f2, f3, f4, f5⟩ := I1.fpOk (H' := H1) (b := s1.heap.objs.size) (Nat.le_refl _) (I1.hok.fresh (Nat.le_refl _))
  have hl := p'.isList
  obtain ⟨ol, hol, _⟩ := id hl
  have hne : a ≠ s1.heap.objs.size := Nat.ne_of_lt (Heap.lt_size hol)
  have hn : its.toArray.size ≤ sizeLine := by rw [List.size_toArray, ← rv.length]; exact hz
  refine lrev_call (s := { s1 with heap := s1.heap.push (revObj a ((its.toArray.size : Int) - 1)) }) (I1.ok.hd hc) ⟨_, Heap.get?_push_size _ rfl, rfl, rfl⟩ (hl.push _) hne hn fun h' tk acc c' hk hS' hi => ?_
  have hsz : (s1.heap.push (revObj a ((its.toArray.size : Int) - 1))).objs.size = s1.heap.objs.size + 1 := by simp [Heap.push]
  refine ⟨.ref _, upd H1 _ (.lst xs.reverse), I1.laid (t' := tk) (a := (s1.heap.push (revObj a ((its.toArray.size : Int) - 1))).objs.size) (fun b o e => hk b o (Nat.ne_of_lt (Heap.lt_size e)) (Heap.get?_push_of_some _ e)) (by rw [hsz]; exact Nat.le_succ _) (show ObjOk X.prog X.w _ _ _ (.lst xs.reverse) from ⟨?_, acc.toList, c', vals_rev rv hi, ?_⟩), rfl, q _ (I1.hok.fresh (by rw [hsz]; exact Nat.le_succ _))⟩
  · rw [List.length_reverse]; exact hz
  · rw [Array.toArray_toList]; exact hS'
theorem se_listRev (G : Gd X) (ha : SE C X a x) (hg : Gl X ("list" : Str) := by rfl) (hg2 : Gl X ("reversed" : Str) := by rfl) (hs : starEach [x] X.env = (false, eval x X.env) :: starEach [] X.env := by rfl)
    (hs2 : starEach [.Call (.Name ("reversed" : Str) p2) [x] [] pos2] X.env = (false, eval (.Call (.Name ("reversed" : Str) p2) [x] [] pos2) X.env) :: starEach [] X.env := by rfl) :
    SE C X (.listRev a) (.Call (.Name ("list" : Str) p) [.Call (.Name ("reversed" : Str) p2) [x] [] pos2] [] pos) := by
  refine imp_e (pe_lstRev G.calm hg G.list hg2 G.rev ha hs hs2) fun σ H Q h => ?_
  obtain ⟨B0, H0, B, env, o, d, k, R, he, q⟩ := h
  obtain ⟨da, h1, h2⟩ := bind1_some (show ((em (ev C a env)).bind fun x => match x with | .lst xs => some ((.lst xs.reverse, .new1) : D × Kd) | _ => none) = some (d, k) from he)
  refine use_e R h1 fun B' H' u s ru => ?_
  cases da <;> simp only [reduceCtorEq] at h2
  cases h2
  obtain ⟨p1, vs, rfl, q1, r1⟩ := ru
  exact ⟨p1, vs, rfl, q1, fin_list q rfl s r1.reverse⟩
end
end Hg
end

section
set_option Elab.async false
set_option maxRecDepth 100000
set_option maxHeartbeats 4000000
/-! Snd17: a comprehension over a dict's entries; chains as tests. -/
namespace Hg
open PySem PySem.Spec PyProof.Rows L2
variable [TB : Tabl]
section
variable {C : Nat → List D → Option D} {X : Cx} {a b c e : E} {x y z : Expr} {n : Str} {pos pos1 pos2 pos3 p p2 : Pos}
theorem ch_read {o1 o2 : CO} : ∀ σ H Q, tE C X.K (.ch o1 o2 a b c) σ H Q → tChain (rI0 fun i j => .bl (coB o1 i j)) (rI0 fun i j => .bl (coB o2 i j)) (tE C X.K a) (tE C X.K b) (tE C X.K c) σ H Q := by
  intro σ H Q h
  obtain ⟨B0, H0, B, env, o, d, k, R, he, q⟩ := h
  obtain ⟨da, h1, h2⟩ := bind1_some (show ((bm (ev C a env)).bind fun x => (bm (ev C b env)).bind fun y => (asInt x).bind fun i => (asInt y).bind fun j =>
      if coB o1 i j then (bm (ev C c env)).bind fun z => (asInt z).bind fun k => some ((.bl (coB o2 j k), .frz) : D × Kd) else some (.bl false, .frz)) = some (d, k) from he)
  obtain ⟨db, h3, h4⟩ := bind1_some h2
  obtain ⟨i, h5, h6⟩ := bind1_some h4
  obtain ⟨j, h7, h8⟩ := bind1_some h6
  obtain rfl := asInt_some h5
  obtain rfl := asInt_some h7
  refine two_b R h1 h3 fun B' H' u v s ru rv => ?_
  refine ⟨i, j, rep_int ru, rep_int rv, coB o1 i j, rfl, ?_⟩
  by_cases hc1 : coB o1 i j = true
  · rw [if_pos hc1] at h8 ⊢
    obtain ⟨dc, h9, h10⟩ := bind1_some h8
    obtain ⟨m, h11, h12⟩ := bind1_some h10
    obtain rfl := asInt_some h11
    cases h12
    refine use_b (R.step s) h9 fun B2 H2 w s2 rw' => ?_
    exact ⟨j, m, rep_int rv, rep_int rw', q B2 H2 _ [] (s.trans s2) ⟨rfl, bl_rep⟩ FrF.nil⟩
  · rw [if_neg hc1] at h8 ⊢
    cases h8
    exact q B' H' _ [] s ⟨rfl, bl_rep⟩ FrF.nil
theorem st_ch {op op' : CmpOp} {o1 o2 : CO} (ho : OpR X (compareOp op) (rI0 fun i j => .bl (coB o1 i j))) (ho' : OpR X (compareOp op') (rI0 fun i j => .bl (coB o2 i j))) (ha : SE C X a x) (hb : SE C X b y) (hc : SE C X c z) (hm : lastMarks [op, op'] [y, z] = false := by with_unfolding_all rfl) :
    ST C X (.val (.ch o1 o2 a b c)) (.Compare x [op, op'] [y, z] pos) := by
  refine imp_t (pt_chain ho ho' ha hb hc hm) fun σ H Q h => ?_
  obtain ⟨B0, H0, B, env, o, b', R, he, q⟩ := h
  obtain ⟨dx, h1, h2⟩ := bind1_some (show (bm (ev C (.ch o1 o2 a b c) env)).bind asBl = some b' from he)
  obtain rfl := asBl_some h2
  exact ch_read σ H _ (use_b R h1 fun B' H' u s ru => ⟨b', rep_bl ru, q B' H' s⟩)
theorem st_ch_lt_lt (ha : SE C X a x) (hb : SE C X b y) (hc : SE C X c z) (hm : lastMarks [.Lt, .Lt] [y, z] = false := by with_unfolding_all rfl) : ST C X (.val (.ch .lt .lt a b c)) (.Compare x [.Lt, .Lt] [y, z] pos) := st_ch op_lt op_lt ha hb hc hm
theorem st_ch_le_le (ha : SE C X a x) (hb : SE C X b y) (hc : SE C X c z) (hm : lastMarks [.LtE, .LtE] [y, z] = false := by with_unfolding_all rfl) : ST C X (.val (.ch .le .le a b c)) (.Compare x [.LtE, .LtE] [y, z] pos) := st_ch op_le op_le ha hb hc hm
end
section
variable {C : Nat → List D → Option D} {X : Cx} {elt : E} {ex tgx : Expr} {tg : Tg} {cond : T} {pos pos1 pos2 pos3 : Pos} {ifs : List Expr} {scope : Scope} {own : List (Str × Nat)} {n : Str} {y : Nat} {elts : List Expr} {kk : Nat} {tpos : Pos}
theorem it_items {K : PySem.W.Frag} {B1 H : Hp} {pp : Addr} {od : Obj} {kvs : List (Ky × D)} {vs : List (L2.Key × V)} (hf : H pp = some (.frz od (.dK vs))) (r : RepK K B1 kvs vs) : ItOk K B1 H (kvs.map fun kv => .tup [kyD kv.1, kv.2]) (Iti pp od vs) where
  go := fun i H' hi e => ⟨e.at hf nt_frz, by rw [r.length]; simpa using hi⟩
  yl := fun i H' x H2 Bc d hd e1 e2 e3 hy => by
    obtain ⟨T, k, v, h1, rfl, h3, rfl⟩ := hy
    rw [List.getElem?_map, Option.map_eq_some_iff] at hd
    obtain ⟨kv, h4, rfl⟩ := hd
    have hget : ∀ {kvs : List (Ky × D)} {vs : List (L2.Key × V)} {i : Nat} {kv : Ky × D} {k : L2.Key} {v : V}, RepK K B1 kvs vs → kvs[i]? = some kv → vs[i]? = some (k, v) → k = ky kv.1 ∧ Rep K B1 kv.2 v := by
      intro kvs
      induction kvs with
      | nil => intro vs i kv k v h h1; simp at h1
      | cons q kvs ih =>
        intro vs i kv k v h h1 h2
        obtain ⟨qk, qd⟩ := q
        obtain ⟨u, r', rfl, g1, g2⟩ := h.cons_of
        cases i with
        | zero => simp at h1 h2; obtain ⟨rfl, rfl⟩ := h2; subst h1; exact ⟨rfl, g1⟩
        | succ i => exact ih g2 (by simpa using h1) (by simpa using h2)
    obtain ⟨rfl, g2⟩ := hget r h4 h1
    refine ⟨_, Step.new e2 h3, tup_rep upd_same (reps_cons ?_ (reps_cons (Rep.mono (e1.trans (Ext.new (e2.back h3))) _ _ g2) reps_nil))⟩
    obtain ⟨kk, dd⟩ := kv
    cases kk with
    | inl i => exact int_rep
    | inr t => exact str_rep
  st := fun i H' hi e => ⟨e.at hf nt_frz, by rw [r.length, hi]; simp⟩
/-- what is shown of a comprehension over the entries of one's own dict, under its lock -/
theorem compIt_read (G : Gd X) (hown : own.map (·.2) = tg.slots)
    (hind : ∀ (d : D) (env : Hg.Env), ((bindT tg d (unset tg.slots (env.set y .un))).bind fun e1 => (evT C cond e1).bind fun p => if p then (ev C elt e1).map some else some none) = (bindT tg d (unset tg.slots env)).bind fun e1 => (evT C cond e1).bind fun p => if p then (ev C elt e1).map some else some none) :
    ∀ σ H Q, tE C X.K (.comp false elt tg (.items (.var y)) cond) σ H Q → tLockE (tLc (iItems (tVar y)) (tG X.K tg) (tT C X.K cond) (tE C X.K elt) (own.map (·.2))) σ H Q := by
  intro σ H Q h
  obtain ⟨B0, H0, B, env, o, d, k, R, he, q⟩ := h
  obtain ⟨⟨xs, ow⟩, h1, h2⟩ := bind1_some (show ((evI C (.items (.var y)) (unset tg.slots env)).bind fun xs => (compL (fun d => (bindT tg d (unset tg.slots env)).bind fun e1 => (evT C cond e1).bind fun p => if p then (ev C elt e1).map some else some none) xs.1).bind (compR false)) = some (d, k) from he)
  obtain ⟨⟨dd, kd⟩, h3, h4⟩ := bind1_some (show ((ev C (.var y) (unset tg.slots env)).bind fun p => match p.1 with
      | .dic kvs => if p.2 = .own1 then some (kvs.map fun kv => D.tup [kyD kv.1, kv.2], true) else none
      | _ => none) = some (xs, ow) from h1)
  cases dd <;> simp only [reduceCtorEq] at h4
  rename_i kvs
  obtain ⟨hk, h5⟩ := if_some h4
  subst hk
  cases h5
  have hsl : (unset tg.slots env)[y]? = some (.val (.dic kvs) .own1) := by
    have h3' : (match (unset tg.slots env)[y]? with | some (.val d k) => some (d, k) | _ => none) = some (D.dic kvs, Kd.own1) := h3
    split at h3'
    · rename_i d' k' hq
      cases h3'
      exact hq
    · cases h3'
  obtain ⟨hyn, hye⟩ := unset_val hsl
  obtain ⟨v, F, g1, g2, g3, g4⟩ := R.sl y _ _ hye
  obtain ⟨pp, vs, rfl, rfl, g5, g6⟩ := own1_dic g2
  have hop := g4 pp (by simp)
  obtain ⟨f1, f2, f3⟩ := R.fr pp y hop
  refine ⟨pp, .dK vs, g5, trivial, fun od => ?_⟩
  have hk : k = .new1 := by
    obtain ⟨ps, _, h6⟩ := bind1_some h2
    unfold compR at h6
    by_cases hl : ps.length < L
    · rw [if_pos hl, if_neg (by decide), Option.map_eq_some_iff] at h6
      obtain ⟨_, _, h7⟩ := h6
      cases h7; rfl
    · rw [if_neg hl] at h6; cases h6
  subst hk
  have hn0 : ∀ q, H pp ≠ some (LamX.CodeO pp q) := fun q => by rw [g5]; exact code_dK
  have hBH : Ext B (upd H pp (.frz od (.dK vs))) := R.bh.upd f1 hn0
  have R2 : Rel X.K B0 H0 B (env.set y .un) σ (upd H pp (.frz od (.dK vs))) (dropO o y) := by
    refine ⟨R.b0, R.h0.upd f2 hn0, hBH, R.tt, R.gr, by rw [List.length_set]; exact R.len, fun i d' k' e => ?_, fun w i e => ?_, fun w i e q => ?_⟩
    · rw [List.getElem?_set] at e
      by_cases hi : y = i
      · rw [if_pos hi] at e
        split at e <;> cases e
      · rw [if_neg hi] at e
        obtain ⟨w, F', k1, k2, k3, k4⟩ := R.sl i d' k' e
        refine ⟨w, F', k1, k2.keep (Ext.refl _) (fun a ha => upd_ne fun z => ?_), k3, fun a ha => dropO_ne (k4 a ha) fun z => hi z.symm⟩
        subst z
        exact hi (Option.some.inj (hop.symm.trans (k4 a ha)))
    · obtain ⟨e1, e2⟩ := dropO_some e
      obtain ⟨k1, k2, k3⟩ := R.fr w i e1
      refine ⟨k1, k2, ?_⟩
      by_cases z : w = pp
      · subst z; rw [upd_same]; exact fun z => nomatch z
      · rw [upd_ne z]; exact k3
    · by_cases z : w = pp
      · subst z; rw [upd_same]; exact code_frz
      · rw [upd_ne z]; exact R.nc w i (dropO_some e).1 q
  obtain ⟨ps, h6, h7⟩ := bind1_some h2
  have hfun : (fun d => (bindT tg d (unset tg.slots (env.set y .un))).bind fun e1 => (evT C cond e1).bind fun p => if p then (ev C elt e1).map some else some none) = fun d => (bindT tg d (unset tg.slots env)).bind fun e1 => (evT C cond e1).bind fun p => if p then (ev C elt e1).map some else some none := funext fun d => hind d env
  rw [hown]
  refine ⟨.ref pp, g1, pp, od, vs, rfl, upd_same, ?_⟩
  refine lc_body (C := C) (X := X) (elt := elt) (tg := tg) (cond := cond) (deep := false) (ps := ps) (Q := fun v H' => H' pp = some (.frz od (.dK vs)) ∧ Q v (upd H' pp (.dK vs))) R2 (by rw [hfun]; exact h6) h7 (fun B' H' v F s r f => ?_) (Step.refl hBH) (Ext.refl _) (it_items upd_same g6)
  have hp' : H' pp = some (.frz od (.dK vs)) := s.hh.at upd_same nt_frz
  have hn1 : ∀ q, H' pp ≠ some (LamX.CodeO pp q) := fun q => by rw [hp']; exact code_frz
  refine ⟨hp', ?_⟩
  have hb' : B' pp = none := by
    cases hq : B' pp with
    | none => rfl
    | some w =>
      rcases s.nw pp (by rw [hq]; exact fun z => nomatch z) with z | z
      · exact absurd f1 z
      · rw [upd_same] at z; cases z
  have hFp : ∀ a ∈ F, a ≠ pp := fun a ha z => by
    subst z
    have := f.h a ha
    rw [upd_same] at this
    cases this
  refine q B' _ v F ⟨s.bb, s.hh.put (.inr g5) hn1, s.bh.upd hb' hn1, fun w hw => ?_⟩ (Own1.keep r (Ext.refl _) fun a ha => upd_ne (hFp a ha)) ⟨f.nd, fun a ha => ?_, f.b⟩
  · rcases s.nw w hw with z | z
    · exact .inl z
    · by_cases e : w = pp
      · subst e; rw [upd_same] at z; cases z
      · rw [upd_ne e] at z; exact .inr z
  · have := f.h a ha
    rw [upd_ne (hFp a ha)] at this
    exact this
/-- the same, as a rule -/
theorem se_compIt (G : Gd X) (own : List (Str × Nat)) (hi : X.N[y]? = some n := by rfl) (hv : Vis X.env.scope n := by first | exact Or.inl rfl | exact Or.inr (Or.inl rfl) | exact Or.inr (Or.inr rfl)) (hd : (n == ("__debug__" : Str)) = false := by decide) (hcd : (n == ("__classdict__" : Str)) = false := by decide)
    (hg : ∀ (s : Shared) (H : Hp) (Cl : Addr) (cl : List (Str × Addr)) (fp : List Addr), SG (X.blk s H scope (compEnvC scope cl Cl X.env) fp) tg (.Tuple elts kk tpos))
    (ht : ∀ (s : Shared) (H : Hp) (Cl : Addr) (cl : List (Str × Addr)) (fp : List Addr), PTs (X.blk s H scope (compEnvC scope cl Cl X.env) fp) ifs (tT C X.K cond))
    (he : ∀ (s : Shared) (H : Hp) (Cl : Addr) (cl : List (Str × Addr)) (fp : List Addr), SE C (X.blk s H scope (compEnvC scope cl Cl X.env) fp) elt ex)
    (hind : ∀ (d : D) (env : Hg.Env), ((bindT tg d (unset tg.slots (env.set y .un))).bind fun e1 => (evT C cond e1).bind fun p => if p then (ev C elt e1).map some else some none) = (bindT tg d (unset tg.slots env)).bind fun e1 => (evT C cond e1).bind fun p => if p then (ev C elt e1).map some else some none)
    (ok : BlkOk X.N X.env.scope scope own := by exact blkOk_by (by kernel_rfl)) (hown : own.map (·.2) = tg.slots := by rfl)
    (hs : ∀ x, foldedSetIterable (.Call (.Attribute (.Name n pos1) "items" pos2) [] [] pos3) X.env x = pure x := by intro _; rfl)
    (hbase : attributeBase (.Name n pos1) "items" X.env (eval (.Name n pos1) X.env) = eval (.Name n pos1) X.env := by rfl) (hline : (pos2.endLine == pos3.line) = true := by rfl) :
    SE C X (.comp false elt tg (.items (.var y)) cond) (.ListComp ex [⟨.Tuple elts kk tpos, .Call (.Attribute (.Name n pos1) "items" pos2) [] [] pos3, ifs, 0⟩] scope pos) :=
  imp_e (pe_lock (pe_lc G.calm G.nd (pi_items (pv y hi hv hd hcd) hbase hline) ok hg ht he hs)) (compIt_read G hown hind)
/-- [k for k, v in d.items() if v]: the dict itself is not read within -/
theorem ind_items {i j : Nat} (hij : i ≠ j) (hi : y ≠ i) (hj : y ≠ j) : ∀ (d : D) (env : Hg.Env), ((bindT (.tp [i, j]) d (unset (Tg.tp [i, j]).slots (env.set y .un))).bind fun e1 => (evT C (.tru (.var j)) e1).bind fun p => if p then (ev C (.var i) e1).map some else some none) = (bindT (.tp [i, j]) d (unset (Tg.tp [i, j]).slots env)).bind fun e1 => (evT C (.tru (.var j)) e1).bind fun p => if p then (ev C (.var i) e1).map some else some none := by
  intro d env
  cases d with
  | tup ds =>
    match ds with
    | [] => rfl
    | [u] => rfl
    | u :: w :: t :: r => rfl
    | [u, w] =>
      have e1 : ∀ env : Hg.Env, bindT (.tp [i, j]) (.tup [u, w]) (unset (Tg.tp [i, j]).slots env) = some ((((env.set i .un).set j .un).set i (.val u .frz)).set j (.val w .frz)) := fun _ => rfl
      have e2 : ∀ env : Hg.Env, ((((env.set i .un).set j .un).set i (.val u .frz)).set j (.val w .frz))[j]? = if j < env.length then some (.val w .frz) else none := by
        intro env
        rw [List.getElem?_set, if_pos rfl]
        simp only [List.length_set]
      have e3 : ∀ env : Hg.Env, ((((env.set i .un).set j .un).set i (.val u .frz)).set j (.val w .frz))[i]? = if i < env.length then some (.val u .frz) else none := by
        intro env
        rw [List.getElem?_set, if_neg (Ne.symm hij), List.getElem?_set, if_pos rfl]
        simp only [List.length_set]
      rw [e1, e1]
      simp only [Option.bind_some, evT, ev, e2, e3, List.length_set]
  | _ => rfl
end
end Hg
end

section
set_option Elab.async false
set_option maxRecDepth 100000
set_option maxHeartbeats 4000000
/-! Snd18: a text so many times. -/
namespace Hg
open PySem PySem.Spec PyProof.Rows L2
variable [TB : Tabl]
section
variable {C : Nat → List D → Option D} {X : Cx} {a b c e : E} {x y z : Expr} {n : Str} {pos pos1 pos2 pos3 p p2 : Pos}
theorem foldl_arr (s : List Nat) : ∀ (k : Nat) (acc : Array Nat), (List.replicate k s.toArray).foldl (· ++ ·) acc = acc ++ (List.replicate k s).flatten.toArray
  | 0, acc => by simp
  | k + 1, acc => by
    rw [List.replicate_succ, List.foldl_cons, foldl_arr s k, List.replicate_succ, List.flatten_cons]
    simp
theorem txt_mul (s : List Nat) (j : Int) : Txt.mul (sv s) j = sv (List.replicate j.toNat s).flatten := by
  unfold Txt.mul
  by_cases h1 : j < 1
  · rw [if_pos h1, show j.toNat = 0 by omega]; rfl
  · rw [if_neg h1]
    by_cases h2 : (j == 1 || (sv s).length == 0) = true
    · rw [if_pos h2]
      simp only [Bool.or_eq_true, beq_iff_eq] at h2
      rcases h2 with rfl | h2
      · simp
      · rw [sv_length] at h2
        have : s = [] := List.length_eq_zero_iff.mp h2
        subst this
        simp
    · rw [if_neg h2]
      show (⟨_⟩ : Str) = ⟨_⟩
      congr 1
      have := foldl_arr s j.toNat #[]
      simpa [sv] using this
def rMulS : R2 := fun x y H Q => ∃ (s : List Nat) (j : Int), x = .str (sv s) ∧ y = .int j ∧ 0 ≤ j ∧ j ≤ 1000 ∧ s.length * j.toNat ≤ L ∧ Q (.str (sv (List.replicate j.toNat s).flatten)) H
theorem op_mulS : OpR X (binaryOp .Mult) rMulS := by
  intro pins s σ H x y v u Q I rx ry h
  obtain ⟨z, j, rfl, rfl, h0, h1, hz, q⟩ := h
  obtain ⟨t, rfl⟩ := rx
  obtain ⟨t', rfl⟩ := ry
  refine SB.mul ⟨?_, fun g1 g2 => ?_, fun g1 g2 => ?_⟩ fun t' k => ?_
  · rw [decide_eq_false (by omega), decide_eq_false (by omega)]; rfl
  · rw [sv_length]
    have hzl : z.length ≤ 100000 := by
      have h2 : 1 ≤ j.toNat := by omega
      have h3 : z.length * 1 ≤ z.length * j.toNat := Nat.mul_le_mul_left _ h2
      unfold Hg.L at hz
      omega
    have h5 : (2 ^ 63 - 1 : Int) / 1000 ≤ (2 ^ 63 - 1) / j := by
      apply Int.le_ediv_of_mul_le (by omega)
      have : (2 ^ 63 - 1 : Int) / 1000 * j ≤ (2 ^ 63 - 1 : Int) / 1000 * 1000 := Int.mul_le_mul_of_nonneg_left h1 (by decide)
      omega
    have h6 : (100000 : Int) ≤ (2 ^ 63 - 1) / 1000 := by decide
    omega
  · rw [sv_length]
    show decide (_ > sizeLine) = false
    have := sizeL hz
    exact decide_eq_false (by omega)
  · rw [txt_mul]
    exact ⟨.str _, H, I.tok _, ⟨_, rfl⟩, q⟩
theorem se_mulS (ha : SE C X a x) (hb : SE C X b y) : SE C X (.mulS a b) (.BinOp x .Mult y pos) := by
  refine se_bin op_mulS ha hb fun K B0 H0 B env σ H o d k Q R he q hK => ?_
  subst hK
  have he' : nw ((em (ev C a env)).bind fun x => (em (ev C b env)).bind fun y => mulD x y) = some (d, k) := he
  obtain ⟨he1, hk⟩ := nw_some he'
  obtain ⟨dx, dy, h1, h2, h3⟩ := bind2_some he1
  refine two_e R h1 h2 fun B' H' u v s ru rv => ?_
  cases dx <;> cases dy <;> simp [mulD] at h3
  obtain ⟨⟨h4, h5, h6⟩, rfl⟩ := h3
  exact ⟨_, _, el_str ru, el_int rv, h4, h5, h6, q B' H' _ [] s (by rw [hk]; exact ⟨rfl, str_rep⟩) FrF.nil⟩
end
end Hg
end

section
set_option Elab.async false
set_option maxRecDepth 100000
set_option maxHeartbeats 4000000
/-! Snd19: list.remove of an int. -/
namespace Hg
open PySem PySem.Spec PyProof.Rows L2
variable [TB : Tabl]
section
variable {C : Nat → List D → Option D} {X : Cx} {a b c e : E} {x y z : Expr} {n : Str} {pos pos1 pos2 pos3 p p2 : Pos}
theorem erase_idx (ns : List Int) (k : Int) (h : k ∈ ns) : ∃ j, ns[j]? = some k ∧ (∀ m, m < j → ns[m]? ≠ some k) ∧ ns.eraseIdx j = ns.erase k := by
  induction ns with
  | nil => cases h
  | cons n ns ih =>
    by_cases c : n = k
    · subst c
      exact ⟨0, rfl, fun m hm => absurd hm (by omega), by simp⟩
    · have hk : k ∈ ns := by
        rcases List.mem_cons.mp h with q | q
        · exact absurd q.symm c
        · exact q
      obtain ⟨j, h1, h2, h3⟩ := ih hk
      refine ⟨j + 1, by simpa using h1, fun m hm => ?_, ?_⟩
      · cases m with
        | zero => simpa using c
        | succ m => simpa using h2 m (by omega)
      · rw [List.eraseIdx_cons_succ, h3, List.erase_cons_tail (by simpa using c)]
theorem ss_rem {i : Nat} (h : SE C X a x) (hi : X.N[i]? = some n := by rfl) (hv : Vis X.env.scope n := by first | exact Or.inl rfl | exact Or.inr (Or.inl rfl) | exact Or.inr (Or.inr rfl)) (hd : (n == ("__debug__" : Str)) = false := by decide) (hcd : (n == ("__classdict__" : Str)) = false := by decide)
    (hs : swapsWith (.Call (.Attribute (.Name n pos1) "remove" pos2) [x] [] p) none pos.line X.env = pure false := by rfl) (hbase : attributeBase (.Name n pos1) "remove" X.env (eval (.Name n pos1) X.env) = eval (.Name n pos1) X.env := by rfl)
    (hfew : ((backTo p (starEach [x] X.env)).all (fun x => !x.1) && (backToKw p (keywordEach [] X.env)).all (fun x => x.1.isSome) && decide ([x].length + ([] : List Keyword).length + (if ([] : List Keyword).isEmpty then 0 else 1) < 30)) = true := by rfl)
    (hline : (pos2.endLine == p.line) = true := by rfl) (hst : starEach [x] X.env = (false, eval x X.env) :: starEach [] X.env := by rfl) : SS C X (.rem i a) (.Expr (.Call (.Attribute (.Name n pos1) "remove" pos2) [x] [] p) pos) := by
  refine imp_s (ps_expr (pe_bm PySem.F.plainAttrs_list PySem.F.slot_list_remove PySem.F.type_list_remove mt_remove (pv i hi hv hd hcd) (pa_cons h pa_nil hst) hbase hfew hline hst rfl) hs) fun Dn σ H ⟨B0, H0, B, env, o, out, R, he, q⟩ => ?_
  obtain ⟨d, h1, h2⟩ := bind1_some (show ((bm (ev C a env)).bind fun x => match env[i]? with
      | some (.val (.lst xs) .own1) => (asInt x).bind fun j => (intsD xs).bind fun ns => if j ∈ ns then some (Out.nx (env.set i (.val (.lst ((ns.erase j).map D.int)) .own1))) else none
      | _ => none) = some out from he)
  obtain ⟨xs, hi', h3⟩ := slot_own1 (f := fun xs => (asInt d).bind fun j => (intsD xs).bind fun ns => if j ∈ ns then some (Out.nx (env.set i (.val (.lst ((ns.erase j).map D.int)) .own1))) else none) h2
  obtain ⟨j, h4, h5⟩ := bind1_some h3
  obtain rfl := asInt_some h4
  obtain ⟨ns, h6, h7⟩ := bind1_some h5
  obtain ⟨hj, h8⟩ := if_some h7
  cases h8
  obtain ⟨p1, vs, k1, k2, k3, _⟩ := R.lst1 hi'
  refine ⟨.ref p1, k1, .inl ⟨rfl, vs, SqL.of k2⟩, ?_⟩
  refine use_b R h1 fun B' H' v s r => ?_
  obtain ⟨p', vs', k1', k2', k3', mk⟩ := (R.step s).lst1 hi'
  rw [k1] at k1'
  cases k1'
  have e1 := Reps.ints h6 k3'
  subst e1
  obtain ⟨m, m1, m2, m3⟩ := erase_idx ns j hj
  have hv := rep_int r
  subst hv
  refine ⟨p1, ns, j, m, rfl, rfl, k2', m1, m2, ?_⟩
  rw [m3]
  exact q B' σ _ o (mk _ _ (reps_ints _)) s.bb
end
end Hg
end

section
set_option Elab.async false
set_option maxRecDepth 100000
set_option maxHeartbeats 4000000
/-! Snd20: split, str(int), int(text), a try that nothing is thrown in. -/
namespace Hg
open PySem PySem.Spec PyProof.Rows L2
variable [TB : Tabl]
section
variable {C : Nat → List D → Option D} {X : Cx} {a b c e : E} {x y z : Expr} {n : Str} {pos pos1 pos2 pos3 p p2 : Pos}
theorem spl_one (c : Nat) : ∀ (r acc : List Nat), TL.spl [c] 0 acc r = splitC c acc r
  | [], acc => rfl
  | x :: r, acc => by
    unfold TL.spl splitC
    by_cases h : x = c
    · subst h
      rw [if_pos (by simp [TL.pre]), if_pos rfl]
      exact congrArg (acc :: ·) (spl_one x r [])
    · rw [if_neg (by simp [TL.pre]; exact h), if_neg h]
      exact spl_one c r (acc ++ [x])
theorem split_C (t : List Nat) (c : Nat) (hc : c < 128) : Txt.split (sv t) (sv [c]) = (splitC c [] t).map sv := by
  have h := SX.split_S (a := t) (b := [c]) (by simp) (by simp; omega)
  rw [spl_one] at h
  exact h
theorem se_split (G : Gd X) (ha : SE C X a x) (hb : SE C X b y) (hst : starEach [y] X.env = (false, eval y X.env) :: starEach [] X.env := by rfl) (hbase : attributeBase x "split" X.env (eval x X.env) = eval x X.env := by rfl)
    (hfew : ((backTo pos (starEach [y] X.env)).all (fun x => !x.1) && (backToKw pos (keywordEach [] X.env)).all (fun x => x.1.isSome) && decide ([y].length + ([] : List Keyword).length + (if ([] : List Keyword).isEmpty then 0 else 1) < 30)) = true := by rfl)
    (hline : (pos1.endLine == pos.line) = true := by rfl) : SE C X (.split a b) (.Call (.Attribute x "split" pos1) [y] [] pos) := by
  refine imp_e (pe_bm PySem.F.plainAttrs_str PySem.F.slot_str_split PySem.F.type_str_split mt_split ha (pa_cons hb pa_nil hst) hbase hfew hline hst rfl) fun σ H Q h => ?_
  obtain ⟨B0, H0, B, env, o, d, k, R, he, q⟩ := h
  obtain ⟨da, h1, h2⟩ := bind1_some (show ((bm (ev C a env)).bind fun x => (bm (ev C b env)).bind fun y => match x, y with
      | .str t, .str [c] => if t.length + 2 ≤ L ∧ c < 128 then some ((.lst ((splitC c [] t).map D.str), .new1) : D × Kd) else none
      | _, _ => none) = some (d, k) from he)
  obtain ⟨db, h3, h4⟩ := bind1_some h2
  refine use_b R h1 fun B1 H1 u s1 ru => ?_
  cases da <;> cases db <;> (try (simp only [reduceCtorEq] at h4))
  rename_i t w
  have eu := rep_str ru
  subst eu
  refine ⟨rfl, use_b (R.step s1) h3 fun B2 H2 v s2 rv => ?_⟩
  match w, h4 with
  | [c], h4 =>
    obtain ⟨hz, h5⟩ := if_some (show (if t.length + 2 ≤ L ∧ c < 128 then some ((.lst ((splitC c [] t).map D.str), .new1) : D × Kd) else none) = some (d, k) from h4)
    cases h5
    refine ⟨sv t, sv [c], rfl, congrArg (fun z => [z]) (rep_str rv), rfl, by rw [sv_length]; exact sizeL hz.1, ?_⟩
    rw [split_C t c hz.2]
    have r := reps_strs (K := X.K) (B := B2) (splitC c [] t)
    have e : ((splitC c [] t).map sv).map V.str = (splitC c [] t).map fun s => V.str (sv s) := by rw [List.map_map]; rfl
    intro p2 hp2
    exact fin_list q rfl (s1.trans s2) r p2 hp2
theorem se_strI (G : Gd X) (ha : SE C X a x) (hg : Gl X ("str" : Str) := by rfl) (hs : starEach [x] X.env = (false, eval x X.env) :: starEach [] X.env := by rfl) : SE C X (.strI a) (.Call (.Name ("str" : Str) p) [x] [] pos) := by
  refine imp_e (pe_t1 call_str_int G.str (by decide +kernel) ha hg hs (by decide) (by decide)) fun σ H Q h => ?_
  obtain ⟨B0, H0, B, env, o, d, k, R, he, q⟩ := h
  obtain ⟨da, h1, h2⟩ := bind1_some (show ((bm (ev C a env)).bind fun x => (asInt x).bind fun i => if 0 ≤ i ∧ i < 1000 then some ((.str (strOf i), .frz) : D × Kd) else none) = some (d, k) from he)
  obtain ⟨i, h3, h4⟩ := bind1_some h2
  obtain rfl := asInt_some h3
  obtain ⟨hz, h5⟩ := if_some h4
  cases h5
  refine use_b R h1 fun B' H' u s ru => ?_
  refine ⟨i, congrArg (fun z => [z]) (rep_int ru), ?_, ?_⟩
  · have h20 : i.natAbs < 2 ^ 20 := by omega
    by_cases h0 : i.natAbs = 0
    · rw [h0]; decide
    · have := (Nat.log2_lt h0 (k := 20)).mpr h20
      omega
  · have e : Str.ofString (toString i) = sv (strOf i) := by rw [Str.ofString_eq_toList]; rfl
    show Q (.str (Str.ofString (toString i))) H'
    rw [e]
    exact q B' H' _ [] s ⟨rfl, str_rep⟩ FrF.nil
theorem digit_some {c : Nat} {i : Int} (h : digit c = some i) : ∃ k : Nat, k < 10 ∧ c = 48 + k ∧ i = k := by
  unfold digit at h
  split at h
  · cases h; exact ⟨c - 48, by omega, by omega, rfl⟩
  · cases h
theorem int_text1 : ∀ a : Fin 10, PySem.intText? (sv [48 + a.val]) = some (a.val : Int) := by decide +kernel
theorem int_text2 : ∀ a b : Fin 10, PySem.intText? (sv [48 + a.val, 48 + b.val]) = some (10 * (a.val : Int) + (b.val : Int)) := by decide +kernel
theorem intOf_text {s : List Nat} {i : Int} (h : intOf s = some i) : PySem.intText? (sv s) = some i ∧ s.length ≤ 2 := by
  match s, h with
  | [a], h =>
    obtain ⟨k, hk, rfl, rfl⟩ := digit_some (c := a) h
    exact ⟨int_text1 ⟨k, hk⟩, by simp⟩
  | [a, b], h =>
    have h : (digit a).bind (fun i => (digit b).map fun j => 10 * i + j) = some i := h
    rw [Option.bind_eq_some_iff] at h
    obtain ⟨u, h1, h2⟩ := h
    rw [Option.map_eq_some_iff] at h2
    obtain ⟨w, h2, rfl⟩ := h2
    obtain ⟨k, hk, rfl, rfl⟩ := digit_some h1
    obtain ⟨j, hj, rfl, rfl⟩ := digit_some h2
    exact ⟨int_text2 ⟨k, hk⟩ ⟨j, hj⟩, by simp⟩
theorem se_intT (G : Gd X) (ha : SE C X a x) (hg : Gl X ("int" : Str) := by rfl) (hs : starEach [x] X.env = (false, eval x X.env) :: starEach [] X.env := by rfl) : SE C X (.intT a) (.Call (.Name ("int" : Str) p) [x] [] pos) := by
  refine imp_e (pe_t1 call_int_str G.int (by decide +kernel) ha hg hs (by decide) (by decide)) fun σ H Q h => ?_
  obtain ⟨B0, H0, B, env, o, d, k, R, he, q⟩ := h
  obtain ⟨da, h1, h2⟩ := bind1_some (show ((bm (ev C a env)).bind fun x => match x with | .str s => frI (intOf s) | _ => none) = some (d, k) from he)
  refine use_b R h1 fun B' H' u s ru => ?_
  cases da <;> simp only [reduceCtorEq] at h2
  rename_i t
  obtain ⟨i, h3, rfl, rfl⟩ := frI_some h2
  obtain ⟨e1, e2⟩ := intOf_text h3
  exact ⟨sv t, i, congrArg (fun z => [z]) (rep_str ru), e1, by rw [sv_length]; omega, q B' H' _ [] s ⟨rfl, int_rep⟩ FrF.nil⟩
theorem ss_tryN {s : Hg.S} {xs : List Stmt} {h0 : ExceptHandler} {hs : List ExceptHandler} (hn : ∀ e s, ¬ X.xe e s) (hb : SB C X s xs) : SS C X (.tryN s) (.Try xs (h0 :: hs) [] [] pos) :=
  imp_s (ps_try_never hn hb pss_nil) fun Dn σ H ⟨B0, H0, B, env, o, out, R, he, q⟩ => ⟨B0, H0, B, env, o, out, R, he, q⟩
end
end Hg
end

section
/-! Vx: exceptions over values: raise, try, calls that may raise. Plain Lean, no library. -/
set_option autoImplicit false
namespace Hg
noncomputable section
/-- an exception: its class, what it tells -/
structure Ex where
  cls : Nat
  arg : Option D
inductive RV where | ok (d : D) | ex (x : Ex)
inductive OutX where | nx (e : Env) | rt (d : D) | ex (x : Ex) (e : Env)
mutual
/-- expressions that may raise -/
inductive EX where
  | ok (e : E) | call (f : Nat) (mask : List Bool) (es : Es) | tup (es : EXs) | comp (elt : EX) (tg : Tg) (it : It)
inductive EXs where | nil | cons (e : EX) (r : EXs)
end
inductive SX where
  | st (s : S) | seq (a b : SX) | ite (t : T) (a b : SX) | for_ (tg : Tg) (it : It) (s : SX)
  | raise (c : Nat) (a : Option E) | drop (e : EX) | asg (i : Nat) (e : EX) | ret (e : EX)
  | try_ (b : SX) (ks : List Nat) (c : Nat) (i : Option Nat) (h : Ex → SX)
/-- 0 HedgeError, 1 BadText, 2 BadCode, 3 BadNumbers, 4 TooBig, 5 TooSmall, 6 NoTip, 7 BadHedge, 8 ValueError -/
def subC (a c : Nat) : Bool := decide (a = c) || (decide (c = 0) && decide (a ≤ 7)) || (decide (c = 8) && decide (a ≤ 8))
def andX (o : Option OutX) (f : Env → Option OutX) : Option OutX := match o with | some (.nx e) => f e | r => r
def loopX (f : D → Env → Option OutX) : List D → Env → Option OutX
  | [], env => some (.nx env)
  | x :: xs, env => andX (f x env) (loopX f xs)
def toX : Out → OutX | .nx e => .nx e | .rt d => .rt d
def compX (f : D → Option RV) : List D → Option (Sum (List D) Ex)
  | [] => some (.inl [])
  | x :: xs => (f x).bind fun r => match r with
    | .ex e => some (.inr e)
    | .ok d => (compX f xs).map fun r => match r with | .inl ds => .inl (d :: ds) | .inr e => .inr e
def wipeX (i : Nat) : Option OutX → Option OutX | some (.nx e) => some (.nx (e.set i .un)) | r => r
/-- an except clause: the classes ks may come, those under c are taken; slot i is the name's -/
def catchX (ks : List Nat) (c : Nat) (i : Option Nat) (f : Ex → Env → Option OutX) : Option OutX → Option OutX
  | some (.ex x e) => if x.cls ∈ ks ∧ (x.arg.isNone = true ∨ x.cls = 7) then (if subC x.cls c then (match i with | some i => wipeX i (f x (e.set i .un)) | none => f x e) else some (.ex x e)) else none
  | r => r
section
variable (C : Nat → List D → Option D) (CX : Nat → List D → Option RV)
mutual
def evX : EX → Env → Option RV
  | .ok e, env => (vm (ev C e env)).map .ok
  | .call f m es, env => (evm C m es env).bind (CX f)
  | .tup es, env => (evXs es env).bind fun r => match r with
    | .inl ds => if ds.length ≤ L then some (.ok (.tup ds)) else none
    | .inr x => some (.ex x)
  | .comp elt tg it, env => (evI C it (unset tg.slots env)).bind fun xs => if xs.1.length < L then (compX (fun d => (bindT tg d (unset tg.slots env)).bind fun e1 => evX elt e1) xs.1).map fun r => match r with
    | .inl ds => .ok (.lst ds)
    | .inr x => .ex x
    else none
def evXs : EXs → Env → Option (Sum (List D) Ex)
  | .nil, _ => some (.inl [])
  | .cons e r, env => (evX e env).bind fun v => match v with
    | .ex x => some (.inr x)
    | .ok d => (evXs r env).map fun r => match r with | .inl ds => .inl (d :: ds) | .inr x => .inr x
end
def execX : SX → Env → Option OutX
  | .st s, env => (exec C FU s env).map toX
  | .seq a b, env => andX (execX a env) (execX b)
  | .ite t a b, env => (evT C t env).bind fun p => if p then execX a env else execX b env
  | .for_ tg it s, env => (evI C it env).bind fun xs => if xs.2 then none else loopX (fun d e => (bindT tg d e).bind (execX s)) xs.1 env
  | .raise c a, env => match a with
    | none => some (.ex ⟨c, none⟩ env)
    | some e => (vm (ev C e env)).map fun d => .ex ⟨c, some d⟩ env
  | .drop e, env => (evX C CX e env).map fun r => match r with | .ok _ => .nx env | .ex x => .ex x env
  | .asg i e, env => (evX C CX e env).map fun r => match r with | .ok d => .nx (env.set i (.val d .frz)) | .ex x => .ex x env
  | .ret e, env => (evX C CX e env).map fun r => match r with | .ok d => .rt d | .ex x => .ex x env
  | .try_ b ks c i h, env => catchX ks c i (fun x e => execX (h x) e) (execX b env)
end
structure XDef where
  params : Nat
  slots : Nat
  body : SX
def XDef.fd (f : XDef) : FDef := ⟨f.params, f.slots, [], .skip⟩
/-- a def that may raise -/
def runX (C : Nat → List D → Option D) (CX : Nat → List D → Option RV) (f : XDef) (ds : List D) : Option RV :=
  if ds.length = f.params then (match execX C CX f.body (startEnv f.fd ds) with | some (.rt d) => some (.ok d) | some (.nx _) => some (.ok .non) | some (.ex x _) => some (.ex x) | none => none) else none
/-- its value, where it raises nothing -/
def okD (s : List D → Option RV) (ds : List D) : Option D := match s ds with | some (.ok d) => some d | _ => none
/-- a handler that uses what BadHedge tells -/
def atS (e : D → S) (x : Ex) : S := if x.cls = 7 then x.arg.elim .never e else .never
/-- (True, e.at) -/
def atT (d0 : D) : S := .seq (.ret (.tup (.cons (.c (.bl true)) (.cons (.c d0) .nil)))) .skip
/-- the first place from lo on of a sign, or -1 -/
def firstAt (s : List Nat) (c : Nat) : Nat → Nat → Int
  | _, 0 => -1
  | i, m + 1 => if s[i]? = some c then (i : Int) else firstAt s c (i + 1) m
def findF (s : List Nat) (c : Nat) (i : Int) : Int := firstAt s c (max 0 (if i < 0 then i + s.length else i)).toNat (s.length + 1 - (max 0 (if i < 0 then i + s.length else i)).toNat)
/-- text.find(sign, place) -/
def semFind : List D → Option D
  | [.str s, .str [c], .int i] => some (.int (findF s c i))
  | _ => none
def callsX : List (Nat × (List D → Option RV)) → Nat → List D → Option RV
  | [], _, _ => none
  | p :: r, n, ds => if n = p.1 then p.2 ds else callsX r n ds
end
end Hg
end

section
set_option Elab.async false
set_option maxRecDepth 100000
set_option maxHeartbeats 4000000
/-! Snd30: defs that raise, calls of them, try and except. -/
namespace Hg
open PySem PySem.Spec PyProof.Rows L2
variable [TB : Tabl]

theorem ifn_some {p : Prop} [Decidable p] {α : Type} {a : Option α} {b : α} (h : (if p then a else none) = some b) : p ∧ a = some b := by
  by_cases z : p
  · rw [if_pos z] at h; exact ⟨z, h⟩
  · rw [if_neg z] at h; cases h
/-- what an exception tells -/
def ArgOk (K : PySem.W.Frag) (B H : Hp) : Option D → Option Addr → Prop
  | none, dd => dd = none
  | some d, dd => ∃ q v, dd = some q ∧ H q = some (.xd [("at", v)]) ∧ Rep K B d v
def OutOkX (K : PySem.W.Frag) (cv : Nat → Value) (B0 H0 B : Hp) (Dn : Ends) (W : WX) : OutX → Prop
  | .nx env' => ∀ B' σ' H' o', Rel K B0 H0 B' env' σ' H' o' → Ext B B' → Dn.nx σ' H'
  | .rt d => ∀ B' H' v, Step B0 H0 B' H' → Rep K B' d v → Dn.rt v H'
  | .ex x env' => ∀ B' σ' H' o' dd, Rel K B0 H0 B' env' σ' H' o' → Ext B B' → ArgOk K B' H' x.arg dd → W (cv x.cls) dd σ' H'
theorem OutOkX.mono {K : PySem.W.Frag} {cv : Nat → Value} {B0 H0 B B1 : Hp} {Dn : Ends} {W : WX} {out : OutX} (h : OutOkX K cv B0 H0 B Dn W out) (e : Ext B B1) : OutOkX K cv B0 H0 B1 Dn W out := by
  cases out with
  | nx env' => exact fun B' σ' H' o' R e' => h B' σ' H' o' R (e.trans e')
  | rt d => exact h
  | ex x env' => exact fun B' σ' H' o' dd R e' a => h B' σ' H' o' dd R (e.trans e') a
def tSX (C : Nat → List D → Option D) (CR : Nat → List D → Option RV) (K : PySem.W.Frag) (cv : Nat → Value) (W : WX) (s : SX) : TS := fun Dn σ H => ∃ B0 H0 B env o out, Rel K B0 H0 B env σ H o ∧ execX C CR s env = some out ∧ OutOkX K cv B0 H0 B Dn W out
abbrev SSX (C : Nat → List D → Option D) (CR : Nat → List D → Option RV) (cv : Nat → Value) (X : Cx) (s : SX) (st : Stmt) : Prop := ∀ W, Takes X W → PS X st (tSX C CR X.K cv W s)
abbrev SBX (C : Nat → List D → Option D) (CR : Nat → List D → Option RV) (cv : Nat → Value) (X : Cx) (s : SX) (sts : List Stmt) : Prop := ∀ W, Takes X W → PSs X sts (tSX C CR X.K cv W s)
def tEX (C : Nat → List D → Option D) (CR : Nat → List D → Option RV) (K : PySem.W.Frag) (cv : Nat → Value) (W : WX) (e : EX) : TE := fun σ H Q => ∃ B0 H0 B env o r, Rel K B0 H0 B env σ H o ∧ evX C CR e env = some r ∧
  match r with
  | .ok d => ∀ B' H' v, Step B H B' H' → Rep K B' d v → Q v H'
  | .ex x => ∀ B' H' dd, Step B H B' H' → ArgOk K B' H' x.arg dd → W (cv x.cls) dd σ H'
abbrev SEX (C : Nat → List D → Option D) (CR : Nat → List D → Option RV) (cv : Nat → Value) (X : Cx) (e : EX) (x : Expr) : Prop := ∀ W, Takes X W → PE X x (tEX C CR X.K cv W e)

section
variable {C : Nat → List D → Option D} {CR : Nat → List D → Option RV} {cv : Nat → Value} {X : Cx} {a b c : E} {x y z : Expr} {pos p pos1 pos2 : Pos} {n : Str} {s : Hg.S} {s1 s2 : SX} {st : Stmt} {sts : List Stmt} {t : T} {ex : EX}
theorem tox_out {C : Nat → List D → Option D} {CR : Nat → List D → Option RV} {K : PySem.W.Frag} {cv : Nat → Value} {W : WX} {s : Hg.S} : ∀ Dn σ H, tSX C CR K cv W (.st s) Dn σ H → tS C K s Dn σ H := fun Dn σ H ⟨B0, H0, B, env, o, out, R, he, q⟩ => by
  have he' : (exec C FU s env).map toX = some out := he
  rw [Option.map_eq_some_iff] at he'
  obtain ⟨o1, h1, rfl⟩ := he'
  refine ⟨B0, H0, B, env, o, o1, R, h1, ?_⟩
  cases o1 with
  | nx e => exact q
  | rt d => exact q
theorem sx_st (h : SS C X s st) : SSX C CR cv X (.st s) st := fun W _ => imp_s h tox_out
theorem sxb_nil : SBX C CR cv X (.st .skip) [] := fun W _ => imp_ss sb_skip tox_out
theorem sxb_cons (h1 : SSX C CR cv X s1 st) (h2 : SBX C CR cv X s2 sts) : SBX C CR cv X (.seq s1 s2) (st :: sts) := fun W tk => imp_ss (pss_cons (h1 W tk) (h2 W tk)) fun Dn σ H ⟨B0, H0, B, env, o, out, R, he, q⟩ => by
  have he' : andX (execX C CR s1 env) (execX C CR s2) = some out := he
  cases e1 : execX C CR s1 env with
  | none => rw [e1] at he'; cases he'
  | some o1 =>
    rw [e1] at he'
    refine ⟨B0, H0, B, env, o, o1, R, e1, ?_⟩
    cases o1 with
    | nx env1 => exact fun B' σ' H' o' R' e => ⟨B0, H0, B', env1, o', out, R', he', q.mono e⟩
    | rt d =>
      cases he'
      exact q
    | ex x env1 =>
      cases he'
      exact q
theorem sx_kill {is : List Nat} {s : SX} (h : SBX C CR cv X s sts) : SBX C CR cv X (.seq (.st (.kill is)) s) sts := fun W tk => imp_ss (h W tk) fun Dn σ H ⟨B0, H0, B, env, o, out, R, he, q⟩ =>
  ⟨B0, H0, B, unset is env, o, out, R.unset is, he, q⟩
theorem sx_frz {is : List Nat} {s : SX} (h : SSX C CR cv X s st) : SSX C CR cv X (.seq (.st (.frz is)) s) st := fun W tk => imp_s (h W tk) fun Dn σ H ⟨B0, H0, B, env, o, out, R, he, q⟩ => by
  obtain ⟨B', o', R', e⟩ := Rel.frz is R
  exact ⟨B0, H0, B', freeze is env, o', out, R', he, q.mono e⟩
theorem sx_ite {xs ys : List Stmt} (ht : ST C X t z) (h1 : SBX C CR cv X s1 xs) (h2 : SBX C CR cv X s2 ys) : SSX C CR cv X (.ite t s1 s2) (.If z xs ys pos) := fun W tk => imp_s (ps_if ht (h1 W tk) (h2 W tk)) fun Dn σ H ⟨B0, H0, B, env, o, out, R, he, q⟩ => by
  obtain ⟨b, h1, h2⟩ := bind1_some (show ((evT C t env).bind fun p => if p then execX C CR s1 env else execX C CR s2 env) = some out from he)
  refine use_t R h1 fun B' H' s => ?_
  cases b with
  | true => exact ⟨B0, H0, B', env, o, out, R.step s, h2, q.mono s.bb⟩
  | false => exact ⟨B0, H0, B', env, o, out, R.step s, h2, q.mono s.bb⟩
theorem andX_some {o1 : Option OutX} {f : Hg.Env → Option OutX} {out : OutX} (h : andX o1 f = some out) : (∃ e, o1 = some (.nx e) ∧ f e = some out) ∨ (o1 = some out ∧ ∀ e, out ≠ .nx e) := by
  match o1, h with
  | some (.nx e), h => exact .inl ⟨e, rfl, h⟩
  | some (.rt d), h => cases h; exact .inr ⟨rfl, fun e z => nomatch z⟩
  | some (.ex x e), h => cases h; exact .inr ⟨rfl, fun e z => nomatch z⟩
theorem OutOkX.still {K : PySem.W.Frag} {cv : Nat → Value} {B0 H0 B B1 : Hp} {Dn Dn' : Ends} {W : WX} {out : OutX} (h : OutOkX K cv B0 H0 B Dn W out) (n : ∀ e, out ≠ .nx e) (e : Ext B B1) (d : Dn'.rt = Dn.rt) : OutOkX K cv B0 H0 B1 Dn' W out := by
  cases out with
  | nx env' => exact absurd rfl (n env')
  | rt d' =>
    intro B' H' v s r
    have := h B' H' v s r
    rw [d]
    exact this
  | ex x env' => exact fun B' σ' H' o' dd R e' a => h B' σ' H' o' dd R (e.trans e') a
theorem sx_for {xs : List Stmt} {tgx iter : Expr} {tg : Tg} {it : Hg.It} {s : SX} (G : Gd X) (hp : PassesOwn (model X.prog X.w) X.A X.env X.xe) (hi : SI C X tgx it iter) (hg : SG X tg tgx) (hb : SBX C CR cv X s xs) (hs : ∀ x, foldedSetIterable iter X.env x = pure x := by intro _; rfl) :
    SSX C CR cv X (.for_ tg it s) (.For tgx iter xs [] pos) := fun W tk => imp_s (ps_for hp G.calm hi hg (hb W tk) hs) fun Dn σ H ⟨B0, H0, B, env, o, out, R, he, q⟩ => by
  obtain ⟨⟨ds, ow⟩, h1, h2⟩ := bind1_some (show ((evI C it env).bind fun xs => if xs.2 then none else loopX (fun d e => (bindT tg d e).bind (execX C CR s)) xs.1 env) = some out from he)
  have ho : ow = false := by
    cases ow with
    | false => rfl
    | true => cases h2
  subst ho
  have h2' : loopX (fun d e => (bindT tg d e).bind (execX C CR s)) ds env = some out := h2
  refine ⟨B0, H0, B, env, o, ds, false, R, h1, fun B1 H1 J Gh s1 eG hG hJ => ?_⟩
  refine ⟨fun i m σ' H' => ∃ B' env' o', Rel X.K B0 H0 B' env' σ' H' o' ∧ Ext B1 B' ∧ m = ds.length - i ∧ i ≤ ds.length ∧ loopX (fun d e => (bindT tg d e).bind (execX C CR s)) (ds.drop i) env' = some out,
    ⟨ds.length, B1, env, o, R.step s1, Ext.refl _, by omega, Nat.zero_le _, h2'⟩, ?_⟩
  rintro i m σ' H' ⟨B2, env2, o2, R2, e2, rfl, hle, hlp⟩
  have eGc : Ext Gh H' := hG rfl H' (e2.trans R2.bh) R2.h0
  by_cases hlt : i < ds.length
  · refine .inr ⟨hJ.go i H' hlt eGc, _, fun σ3 H3 h => ⟨ds.length - (i + 1), by omega, h⟩, fun x H3 hy => ?_⟩
    obtain ⟨Bn, sn, rn⟩ := hJ.yl i H' x H3 B2 ds[i] (List.getElem?_eq_getElem hlt) e2 R2.bh eGc hy
    rw [List.drop_eq_getElem_cons hlt] at hlp
    have hlp' : andX ((bindT tg ds[i] env2).bind (execX C CR s)) (loopX (fun d e => (bindT tg d e).bind (execX C CR s)) (ds.drop (i + 1))) = some out := hlp
    have key : ∀ o1, (bindT tg ds[i] env2).bind (execX C CR s) = some o1 → ∃ env3, bindT tg ds[i] env2 = some env3 ∧ execX C CR s env3 = some o1 := fun o1 h => bind1_some h
    rcases andX_some hlp' with ⟨e, h4, h5⟩ | ⟨h4, h5⟩
    · obtain ⟨env3, h6, h7⟩ := key _ h4
      refine ⟨B0, H0, Bn, env2, o2, ds[i], env3, R2.step sn, rn, h6, fun σ4 o4 R4 _ => ⟨B0, H0, Bn, env3, o4, .nx e, R4, h7, fun B' σ5 H5 o5 R5 e5 => ⟨B', e, o5, R5, (e2.trans sn.bb).trans e5, rfl, hlt, h5⟩⟩⟩
    · obtain ⟨env3, h6, h7⟩ := key _ h4
      refine ⟨B0, H0, Bn, env2, o2, ds[i], env3, R2.step sn, rn, h6, fun σ4 o4 R4 _ => ⟨B0, H0, Bn, env3, o4, out, R4, h7, ?_⟩⟩
      exact q.still h5 ((s1.bb.trans e2).trans sn.bb) rfl
  · have hie : i = ds.length := by omega
    rw [hie, List.drop_length] at hlp
    cases hlp
    exact .inl ⟨hJ.st i H' hie eGc, q B2 σ' H' o2 R2 (s1.bb.trans e2)⟩
/-! ### raise -/
/-- an own class that may be made with a text -/
structure ExK (K : PySem.W.Frag) (mg : Str → Option Value) (n : Str) (v : Value) : Prop where
  cls : ∃ Ca : Addr, v = .ref Ca ∧ mg n = some (.ref Ca) ∧ PySem.W.excIn K Ca [.type "ValueError", .type "Exception", .type "BaseException", .type "object"] "ValueError.__new__" = true ∧ PySem.W.keepIn K (.ref Ca) = true ∧
    PySem.W.subIn K (.ref Ca) (.type "BaseException") = some true ∧ PySem.W.typeIn K (.ref Ca) = some (.type "type")
theorem sx_raise {k : Nat} {m : Str} {j : Nat} {p2 : Pos} (G : Gd X) (hk : ExK X.K X.mg n (cv k)) (hg : Gl X n := by rfl) (hdb : (n == ("__debug__" : Str)) = false := by decide) :
    SSX C CR cv X (.raise k none) (.Raise (some (.Call (.Name n p) [.Constant (.str m) j p2] [] pos1)) none pos) := fun W tk => by
  obtain ⟨Ca, e, gP, xP, kP, bP, tP⟩ := hk.cls
  refine imp_s (ps_raise G.calm tk (pmk_own PySem.F.excBase_ValueError xP gP kP (raises_own bP tP) hg hdb)) fun Dn σ H ⟨B0, H0, B, env, o, out, R, he, q⟩ => ?_
  cases (show some (OutX.ex ⟨k, none⟩ env) = some out from he)
  have z := q B σ H o none R (Ext.refl _) rfl
  rw [e] at z
  exact z
/-! ### calls -/
/-- what a def that may raise promises -/
def spX (K : PySem.W.Frag) (cv : Nat → Value) (np : Nat) (sem : List D → Option RV) : Sp := fun vs H Q E => ∃ B ds r, Ext B H ∧ vs.length = np ∧ RepM K B H [] ds vs ∧ sem ds = some r ∧ TabsOk H ∧
  match r with
  | .ok d => ∀ B' H' v, Step B H B' H' → Rep K B' d v → Q v H'
  | .ex x => ∀ B' H' dd, Step B H B' H' → ArgOk K B' H' x.arg dd → E (cv x.cls) dd H'
def CalX (P : Program) (w : World) (K : PySem.W.Frag) (mg : Str → Option Value) (base : Heap) (cv : Nat → Value) (k : Nat) (n : Str) (np : Nat) (sem : List D → Option RV) : Prop :=
  ∃ f fd ps, FnOk P w K mg base (L2.CX P w) k f fd ps (spX K cv np sem) ∧ mg n = some (.ref f) ∧ PySem.W.keepIn K (.ref f) = true ∧ Binds K fd ps []
theorem sx_call {k j id : Nat} {np : Nat} {sem : List D → Option RV} {x : Expr} {es : Es} {xs : List Expr} (c : CalX X.prog X.w X.K X.mg X.base cv j n np sem) (hr : Room k X.A) (hk : j ≤ k) (ha : SM C X [] es (x :: xs)) (hC : CR id = sem := by rfl)
    (hnp : Es.count es = np := by rfl) (hg : Gl X n := by rfl) (hdb : (n == ("__debug__" : Str)) = false := by decide) (he : starEach (x :: xs) X.env = (false, eval x X.env) :: starEach xs X.env := by rfl) (hpl : (backTo pos (starEach xs X.env)).any (·.1) = false := by rfl) :
    SEX C CR cv X (.call id [] es) (.Call (.Name n p) (x :: xs) [] pos) := fun W tk => by
  obtain ⟨f, fd, ps, F, h1, h2, h3⟩ := c
  refine imp_e (pe_callS F (hr.mono hk) hg h1 h2 h3 (fun σ => passAt tk σ) ha hdb he hpl) fun σ H Q ⟨B0, H0, B, env, o, r, R, hev, q⟩ => ?_
  obtain ⟨ds, h4, h5⟩ := bind1_some (show (evm C [] es env).bind (CR id) = some r from hev)
  rw [hC] at h5
  refine use_m R h4 fun B' H' vs s rr => ?_
  refine ⟨B', ds, r, s.bh, by rw [rr.length, evm_length h4, hnp], rr, h5, R.tt.ext (R.h0.trans s.hh), ?_⟩
  cases r with
  | ok d => exact fun B2 H2 v s2 r2 => q B2 H2 v (s.trans s2) r2
  | ex x => exact fun B2 H2 dd s2 a => q B2 H2 dd (s.trans s2) a
/-- a call of a def that might raise, and does not -/
theorem se_callO {k j id : Nat} {np : Nat} {sem : List D → Option RV} {x : Expr} {es : Es} {xs : List Expr} (c : CalX X.prog X.w X.K X.mg X.base cv j n np sem) (hr : Room k X.A) (hk : j ≤ k) (ha : SM C X [] es (x :: xs)) (hC : C id = okD sem := by rfl)
    (hnp : Es.count es = np := by rfl) (hg : Gl X n := by rfl) (hdb : (n == ("__debug__" : Str)) = false := by decide) (he : starEach (x :: xs) X.env = (false, eval x X.env) :: starEach xs X.env := by rfl) (hpl : (backTo pos (starEach xs X.env)).any (·.1) = false := by rfl) :
    SE C X (.call id [] es) (.Call (.Name n p) (x :: xs) [] pos) := by
  obtain ⟨f, fd, ps, F, h1, h2, h3⟩ := c
  refine imp_e (pe_call F (hr.mono hk) hg h1 h2 h3 .nil passL ha hdb he hpl) fun σ H Q ⟨B0, H0, B, env, o, d, k, R, hev, q⟩ => ?_
  obtain ⟨ds, h4, h5⟩ := bind1_some (show ((evm C [] es env).bind fun ds => fr (C id ds)) = some (d, k) from hev)
  obtain ⟨h6, rfl⟩ := fr_some h5
  rw [hC] at h6
  have h7 : sem ds = some (.ok d) := by
    unfold okD at h6
    split at h6
    · cases h6; assumption
    · cases h6
  refine use_m R h4 fun B' H' vs s r => ?_
  rw [List.append_nil]
  exact ⟨B', ds, .ok d, s.bh, by rw [r.length, evm_length h4, hnp], r, h7, R.tt.ext (R.h0.trans s.hh), fun B2 H2 v s2 r2 => q B2 H2 v [] (s.trans s2) ⟨rfl, r2⟩ FrF.nil⟩
theorem sx_ok {a : E} (h : SE C X a x) : SEX C CR cv X (.ok a) x := fun W tk => imp_e h fun σ H Q ⟨B0, H0, B, env, o, r, R, he, q⟩ => by
  have he' : (vm (ev C a env)).map RV.ok = some r := he
  rw [Option.map_eq_some_iff] at he'
  obtain ⟨d, h1, rfl⟩ := he'
  exact use_v R h1 q
theorem sx_drop (h : SEX C CR cv X ex x) (hs : swapsWith x none pos.line X.env = pure false := by rfl) : SSX C CR cv X (.drop ex) (.Expr x pos) := fun W tk => imp_s (ps_expr (h W tk) hs) fun Dn σ H ⟨B0, H0, B, env, o, out, R, he, q⟩ => by
  have he' : (evX C CR ex env).map (fun r => match r with | .ok _ => OutX.nx env | .ex x => OutX.ex x env) = some out := he
  rw [Option.map_eq_some_iff] at he'
  obtain ⟨r, h1, h2⟩ := he'
  refine ⟨B0, H0, B, env, o, r, R, h1, ?_⟩
  cases r with
  | ok d =>
    cases h2
    exact fun B' H' v s r => q B' σ H' o (R.step s) s.bb
  | ex x =>
    cases h2
    exact fun B' H' dd s r => q B' σ H' o dd (R.step s) s.bb r
theorem sx_ret (h : SEX C CR cv X ex x) : SSX C CR cv X (.ret ex) (.Return (some x) pos) := fun W tk => imp_s (ps_ret (h W tk)) fun Dn σ H ⟨B0, H0, B, env, o, out, R, he, q⟩ => by
  have he' : (evX C CR ex env).map (fun r => match r with | .ok d => OutX.rt d | .ex x => OutX.ex x env) = some out := he
  rw [Option.map_eq_some_iff] at he'
  obtain ⟨r, h1, h2⟩ := he'
  refine ⟨B0, H0, B, env, o, r, R, h1, ?_⟩
  cases r with
  | ok d =>
    cases h2
    exact fun B' H' v s r => q B' H' v (R.step s).done r
  | ex x =>
    cases h2
    exact fun B' H' dd s r => q B' σ H' o dd (R.step s) s.bb r
theorem sx_asg {i : Nat} (G : Gd X) (h : SEX C CR cv X ex x) (hi : X.N[i]? = some n := by rfl) (hx : Loc X.env.scope n := by first | exact .inl rfl | exact .inr rfl) (hs : swapsWith x (some (.Name n pos1)) pos.line X.env = pure false := by rfl)
    (hf : X.fn n = true ∨ X.env.scope.names.lookup n = some .local := by first | exact .inl rfl | exact .inr rfl) : SSX C CR cv X (.asg i ex) (.Assign [.Name n pos1] x pos) := fun W tk => imp_s (ps_set G.nd hi hx (h W tk) hs hf) fun Dn σ H ⟨B0, H0, B, env, o, out, R, he, q⟩ => by
  have he' : (evX C CR ex env).map (fun r => match r with | .ok d => OutX.nx (env.set i (.val d .frz)) | .ex x => OutX.ex x env) = some out := he
  rw [Option.map_eq_some_iff] at he'
  obtain ⟨r, h1, h2⟩ := he'
  refine ⟨B0, H0, B, env, o, r, R, h1, ?_⟩
  cases r with
  | ok d =>
    cases h2
    exact fun B' H' v s r => q B' _ H' _ ((R.step s).put (i := i) r) s.bb
  | ex x =>
    cases h2
    exact fun B' H' dd s r => q B' σ H' o dd (R.step s) s.bb r
end
theorem se_tuple {C : Nat → List D → Option D} {X : Cx} {a : E} {x : Expr} {p pos : Pos} (G : Gd X) (ha : SE C X a x) (hg : Gl X ("tuple" : Str) := by rfl) (hs : starEach [x] X.env = (false, eval x X.env) :: starEach [] X.env := by rfl) : SE C X (.tuple a) (.Call (.Name ("tuple" : Str) p) [x] [] pos) := by
  refine imp_e (pe_tupleOf hg G.tuple ha hs) fun σ H Q h => ?_
  obtain ⟨B0, H0, B, env, o, d, k, R, he, q⟩ := h
  obtain ⟨da, h2, h3⟩ := bind1_some (show ((em (ev C a env)).bind fun x => match x with | .lst xs => some ((.tup xs, .frz) : D × Kd) | .tup xs => some (.tup xs, .frz) | _ => none) = some (d, k) from he)
  refine use_e R h2 fun B' H' u s ru => ?_
  cases da <;> simp only [reduceCtorEq] at h3
  · cases h3
    obtain ⟨p1, vs, rfl, q1, r1⟩ := rep_tup (K := X.K) (B := B') ru
    exact .inr ⟨p1, vs, rfl, SqT.of (s.bh.at q1 nt_tup), q B' H' _ [] s ⟨rfl, ru⟩ FrF.nil⟩
  · cases h3
    obtain ⟨p1, vs, rfl, q1, r1⟩ := ru
    exact .inl ⟨p1, vs, rfl, q1, fun p hp => q _ _ _ [] (s.trans (Step.new s.bh hp)) ⟨rfl, tup_rep upd_same (Reps.mono (Ext.new (s.bh.back hp)) _ _ r1)⟩ FrF.nil⟩
theorem Reps.rep {K : PySem.W.Frag} {B : Hp} {ds : List D} {vs : List V} (r : Reps K B ds vs) : ∀ n, Reps K B (List.replicate n ds).flatten (List.replicate n vs).flatten
  | 0 => reps_nil
  | n + 1 => by
    rw [List.replicate_succ, List.replicate_succ, List.flatten_cons, List.flatten_cons]
    exact r.append (r.rep n)
theorem mulL_some {α : Type} {da db : D} {ka : Kd} {f : List D → Int → Option α} {out : α} (h : (match da, ka, db with | .lst xs, .new1, .int j => f xs j | _, _, _ => none) = some out) : ∃ xs j, da = .lst xs ∧ ka = .new1 ∧ db = .int j ∧ f xs j = some out := by
  split at h
  · exact ⟨_, _, rfl, rfl, rfl, h⟩
  · cases h
theorem se_mulL {C : Nat → List D → Option D} {X : Cx} {a b : E} {x y : Expr} {pos : Pos} (ha : SE C X a x) (hb : SE C X b y) : SE C X (.mulL a b) (.BinOp x .Mult y pos) := by
  refine se_bin op_rep ha hb fun K B0 H0 B env σ H o d k Q R he q hK => ?_
  subst hK
  obtain ⟨⟨da, ka⟩, h1, h2⟩ := bind1_some (show ((ev C a env).bind fun p => (bm (ev C b env)).bind fun y => match p.1, p.2, y with
      | .lst xs, .new1, .int j => if 0 ≤ j ∧ j ≤ 1000 ∧ xs.length * j.toNat ≤ L then some ((.lst (List.replicate j.toNat xs).flatten, .new1) : D × Kd) else none
      | _, _, _ => none) = some (d, k) from he)
  obtain ⟨db, h3, h4⟩ := bind1_some h2
  refine ⟨B0, H0, B, env, o, da, ka, R, h1, fun B1 H1 u F s1 r1 f1 => ?_⟩
  refine use_b (R.step s1) h3 fun B2 H2 v s2 rv => ?_
  obtain ⟨xs, j, rfl, rfl, rfl, h6⟩ := mulL_some (f := fun xs j => if 0 ≤ j ∧ j ≤ 1000 ∧ xs.length * j.toNat ≤ L then some ((.lst (List.replicate j.toNat xs).flatten, .new1) : D × Kd) else none) h4
  obtain ⟨⟨z1, z2, z3⟩, h5⟩ := ifn_some h6
  cases h5
  obtain ⟨p, vs, rfl, rfl, h6, h7⟩ := own1_lst (show Own1 X.K B1 H1 u (.lst xs) F from r1)
  refine ⟨p, j, vs, rfl, rep_int rv, s2.hh.at h6 nt_lst, by omega, by omega, ?_, ?_⟩
  · rw [h7.length]; exact sizeL z3
  · exact fin_list q rfl (s1.trans s2) (Reps.rep (Reps.mono s2.bb _ _ h7) _)
/-! ### try -/
theorem Gd.tr {X : Cx} (G : Gd X) (pn : List (Addr × Obj)) (xe : Value → Shared → Prop) : Gd (X.tr pn xe) := ⟨G.calm, G.nd, G.un, G.len, G.range, G.sorted, G.min, G.max, G.sum, G.isi, G.list, G.tuple, G.dict, G.int, G.str, G.bool, G.set, G.enum, G.rev, G.zip⟩
theorem Rel.putUn {K : PySem.W.Frag} {B0 H0 B H : Hp} {env : Hg.Env} {σ : L2.St} {o : Addr → Option Nat} {i : Nat} {w : Option V} (R : Rel K B0 H0 B env σ H o) : Rel K B0 H0 B (env.set i .un) (σ.set i w) H (dropO o i) where
  b0 := R.b0
  h0 := R.h0
  bh := R.bh
  tt := R.tt
  gr := R.gr
  len := by rw [List.length_set, List.length_set]; exact R.len
  sl := fun j d k e => by
    rw [List.getElem?_set] at e
    by_cases hj : i = j
    · subst hj
      rw [if_pos rfl] at e
      split at e <;> cases e
    · rw [if_neg hj] at e
      obtain ⟨v, F, h1, h2, h3, h4⟩ := R.sl j d k e
      exact ⟨v, F, by rw [List.getElem?_set, if_neg hj]; exact h1, h2, h3, fun a ha => dropO_ne (h4 a ha) (Ne.symm hj)⟩
  fr := fun a j e => R.fr a j (dropO_some e).1
  nc := fun a j e => R.nc a j (dropO_some e).1
/-- what an except clause takes of these classes -/
def TrK (K : PySem.W.Frag) (cv : Nat → Value) (ks : List Nat) (c : Nat) : Prop := ∀ k ∈ ks, PySem.W.exmOne K (cv k) (cv c) = some (subC k c)
/-- an except suite without a name -/
def tH (C : Nat → List D → Option D) (K : PySem.W.Frag) (cv : Nat → Value) (hs : Ex → Hg.S) (cls : Value) : TS := fun Dn σ H => ∃ x, cv x.cls = cls ∧ tS C K (hs x) Dn σ H
/-- .. with one -/
def tHn (C : Nat → List D → Option D) (K : PySem.W.Frag) (cv : Nat → Value) (ks : List Nat) (i : Nat) (hs : Ex → Hg.S) (a : Addr) (cls : Value) (d : Option Addr) : TS := fun Dn σ H => ∃ x, cv x.cls = cls ∧ x.cls ∈ ks ∧ (x.arg.isNone = true ∨ x.cls = 7) ∧ (∃ σ0 : L2.St, σ = σ0.set i (some (.ref a))) ∧
  (x.arg = none → d = none) ∧ tS C K (hs x) Dn σ H
section
variable {C : Nat → List D → Option D} {CR : Nat → List D → Option RV} {cv : Nat → Value} {X : Cx} {x n : Str} {pos pos' np : Pos} {s : SX} {xs : List Stmt} {b₀ : Stmt} {suite : List Stmt} {hs : Ex → Hg.S} {ks : List Nat} {c : Nat}
theorem sx_try (G : Gd X) (hc : X.mg x = some (cv c)) (tr : TrK X.K cv ks c) (hb : ∀ (pn : List (Addr × Obj)) (xe : Value → Shared → Prop), Gd (X.tr pn xe) → SBX C CR cv (X.tr pn xe) s xs)
    (hsu : ∀ (a : Addr) (oe : Obj) (pn : List (Addr × Obj)), SB C (X.suite a ((a, oe) :: pn)) (hs ⟨0, none⟩) (b₀ :: suite)) (hk : ∀ x, hs x = hs ⟨0, none⟩ := by intro _; rfl)
    (hst : X.stack = X.env :: X.outer := by rfl) (hf : X.env.frame = some X.env.locals := by rfl) (hg : Gl X x := by rfl) (hdb : (x == ("__debug__" : Str)) = false := by decide) :
    SSX C CR cv X (.try_ s ks c none fun x => .st (hs x)) (.Try xs [.ExceptHandler (some (.Name x np)) none (b₀ :: suite) pos'] [] [] pos) := fun W tk =>
  imp_s (ps_try_only (tb := fun W => tSX C CR X.K cv W s) (ts := fun a cls d => tS C X.K (hs ⟨0, none⟩)) (c := cv c) hst hf ⟨hg, hdb, .inl hc⟩ tk (fun W pn xe tk' _ => hb pn xe (G.tr pn xe) W tk') (fun a oe cls d pn hz hf => hsu a oe pn)) fun Dn σ H ⟨B0, H0, B, env, o, out, R, he, q⟩ => by
  have he' : catchX ks c none (fun x e => execX C CR (.st (hs x)) e) (execX C CR s env) = some out := he
  cases e1 : execX C CR s env with
  | none => rw [e1] at he'; cases he'
  | some o1 =>
    rw [e1] at he'
    refine ⟨B0, H0, B, env, o, o1, R, e1, ?_⟩
    cases o1 with
    | nx env1 => cases he'; exact q
    | rt d => cases he'; exact q
    | ex x e =>
      obtain ⟨h1, h2⟩ := ifn_some (show (if x.cls ∈ ks ∧ (x.arg.isNone = true ∨ x.cls = 7) then (if subC x.cls c then execX C CR (.st (hs x)) e else some (.ex x e)) else none) = some out from he')
      intro B' σ' H' o' dd R' ee aa
      refine ⟨subC x.cls c, tr _ h1.1, fun hb a ha => ?_, fun hb => ?_⟩
      · rw [if_pos hb, hk x] at h2
        exact tox_out (C := C) (CR := CR) (cv := cv) (W := W) Dn σ' H' ⟨B0, H0, B', e, o', out, R', h2, q.mono ee⟩
      · rw [if_neg (by rw [hb]; decide)] at h2
        cases h2
        exact q B' σ' H' o' dd R' ee aa
theorem sx_tryAs {i : Nat} (G : Gd X) (hc : X.mg x = some (cv c)) (tr : TrK X.K cv ks c) (hb : ∀ (pn : List (Addr × Obj)) (xe : Value → Shared → Prop), Gd (X.tr pn xe) → SBX C CR cv (X.tr pn xe) s xs)
    (hsu : ∀ (a : Addr) (oe : Obj) (cls : Value) (d : Option Addr) (pn : List (Addr × Obj)), Zc cls d oe → (∃ vs, oe.data = .fields vs) → PSs (X.suite a ((a, oe) :: pn)) (b₀ :: suite) (tHn C X.K cv ks i hs a cls d))
    (hi : X.N[i]? = some n := by rfl) (hln : X.env.kindOf n = some .local := by rfl)
    (hst : X.stack = X.env :: X.outer := by rfl) (hf : X.env.frame = some X.env.locals := by rfl) (hg : Gl X x := by rfl) (hdb : (x == ("__debug__" : Str)) = false := by decide) :
    SSX C CR cv X (.try_ s ks c (some i) fun x => .st (hs x)) (.Try xs [.ExceptHandler (some (.Name x np)) (some n) (b₀ :: suite) pos'] [] [] pos) := fun W tk =>
  imp_s (ps_try_as (i := i) (tb := fun W => tSX C CR X.K cv W s) (ts := fun a cls d => tHn C X.K cv ks i hs a cls d) (c := cv c) hst hf G.nd hi hln ⟨hg, hdb, .inl hc⟩ tk (fun W pn xe tk' _ => hb pn xe (G.tr pn xe) W tk') hsu) fun Dn σ H ⟨B0, H0, B, env, o, out, R, he, q⟩ => by
  have he' : catchX ks c (some i) (fun x e => execX C CR (.st (hs x)) e) (execX C CR s env) = some out := he
  cases e1 : execX C CR s env with
  | none => rw [e1] at he'; cases he'
  | some o1 =>
    rw [e1] at he'
    refine ⟨B0, H0, B, env, o, o1, R, e1, ?_⟩
    cases o1 with
    | nx env1 => cases he'; exact q
    | rt d => cases he'; exact q
    | ex x e =>
      obtain ⟨h1, h2⟩ := ifn_some (show (if x.cls ∈ ks ∧ (x.arg.isNone = true ∨ x.cls = 7) then (if subC x.cls c then wipeX i (execX C CR (.st (hs x)) (e.set i .un)) else some (.ex x e)) else none) = some out from he')
      intro B' σ' H' o' dd R' ee aa
      refine ⟨subC x.cls c, tr _ h1.1, fun hb a ha => ?_, fun hb => ?_⟩
      · rw [if_pos hb] at h2
        cases e2 : execX C CR (.st (hs x)) (e.set i .un) with
        | none => rw [e2] at h2; cases h2
        | some o2 =>
          rw [e2] at h2
          refine ⟨x, rfl, h1.1, h1.2, ⟨σ', rfl⟩, fun z => ?_, tox_out (C := C) (CR := CR) (K := X.K) (cv := cv) (W := W) _ (σ'.set i (some (.ref a))) H' ⟨B0, H0, B', e.set i .un, _, o2, R'.putUn, e2, ?_⟩⟩
          · have aa' : ArgOk X.K B' H' x.arg dd := aa
            rw [z] at aa'
            exact aa'
          · cases o2 with
            | nx e3 =>
              cases h2
              exact fun B3 σ3 H3 o3 R3 e4 => q B3 _ H3 _ R3.putUn (ee.trans e4)
            | rt d => cases h2; exact q
            | ex x e3 =>
              cases h2
              exact fun B3 σ3 H3 o3 dd3 R3 e4 a3 => q B3 σ3 H3 o3 dd3 R3 (ee.trans e4) a3
      · rw [if_neg (by rw [hb]; decide)] at h2
        cases h2
        exact q B' σ' H' o' dd R' ee aa
end
/-! ### the suite: isinstance of what was caught -/
/-- what isinstance asks of these classes -/
def IsK (K : PySem.W.Frag) (cv : Nat → Value) (ks : List Nat) (c : Nat) : Prop := ∀ k ∈ ks, ∃ D : Addr, cv k = .ref D ∧ ExcC K D ∧ PySem.W.kitOne K (.ref D) (cv c) = some (subC k c)
def tEn (i : Nat) (a : Addr) (t : TE) : TE := fun σ H Q => (∃ σ0 : L2.St, σ = σ0.set i (some (.ref a))) ∧ t σ H Q
def tSn (i : Nat) (a : Addr) (t : TS) : TS := fun Dn σ H => (∃ σ0 : L2.St, σ = σ0.set i (some (.ref a))) ∧ t Dn σ H
section
variable {C : Nat → List D → Option D} {cv : Nat → Value} {X : Cx} {x n m : Str} {pos p p1 p2 : Pos} {sts : List Stmt} {st : Stmt} {hs : Ex → Hg.S} {ks : List Nat} {c i : Nat} {a : Addr} {oe : Obj} {cls : Value} {d : Option Addr} {pn : List (Addr × Obj)}
theorem sh_of (h7 : 7 ∉ ks) (h : ∀ x : Ex, cv x.cls = cls → x.cls ∈ ks → d = none → PSs X sts (tSn i a (tS C X.K (hs x)))) : PSs X sts (tHn C X.K cv ks i hs a cls d) :=
  ⟨fun pins s σ H D I ⟨x, e1, e2, e3, e4, e5, e6⟩ => (h x e1 e2 (e5 (by
    rcases e3 with z | z
    · exact Option.isNone_iff_eq_none.mp z
    · rw [z] at e2; exact absurd e2 h7))).run pins s σ H D I ⟨e4, e6⟩⟩
/-- a class that isinstance asks about -/
def PCl (X : Cx) (m : Str) (u : Value) : Prop := ∀ pos : Pos, ∃ v : V, (∀ w, RelV v w → w = u) ∧ PE X (.Name m pos) (tC v)
theorem pcl_own {v : Value} (hm : ∃ Ca : Addr, v = .ref Ca ∧ X.mg m = some (.ref Ca)) (hg : Gl X m := by rfl) (hdb : (m == ("__debug__" : Str)) = false := by decide) : PCl X m v := fun pos => by
  obtain ⟨Ca, rfl, hm⟩ := hm
  exact ⟨.ref Ca, fun w r => by cases r; rfl, pe_glob hg hm rfl hdb⟩
theorem pcl_VE (hm : X.mg ("ValueError" : Str) = none) (hg : Gl X ("ValueError" : Str) := by rfl) : PCl X ("ValueError" : Str) (.type "ValueError") := fun pos =>
  ⟨.ty "ValueError", fun w r => by cases r; rfl, pe_bltn hg hm (show bootBuiltins _ = some (.type "ValueError") by decide +kernel) rfl (by decide) (by decide)⟩
theorem pe_isE {y : Ex} (hz : Zc cls d oe) (hf : ∃ vs, oe.data = .fields vs) (ec : cv y.cls = cls) (hy : y.cls ∈ ks) (hd : d = none) (hk : IsK X.K cv ks c) (hc : PCl (X.suite a ((a, oe) :: pn)) m (cv c)) (hi : X.N[i]? = some n) (hb : X.mg ("isinstance" : Str) = none)
    (hv : Vis X.env.scope n := by first | exact Or.inl rfl | exact Or.inr (Or.inl rfl) | exact Or.inr (Or.inr rfl)) (hdb : (n == ("__debug__" : Str)) = false := by decide) (hcd : (n == ("__classdict__" : Str)) = false := by decide) (hg : Gl X ("isinstance" : Str) := by rfl)
    (hs : starEach [.Name n p1, .Name m p2] (X.suite a ((a, oe) :: pn)).env = (false, eval (.Name n p1) (X.suite a ((a, oe) :: pn)).env) :: starEach [.Name m p2] (X.suite a ((a, oe) :: pn)).env := by rfl) (hs2 : starEach [.Name m p2] (X.suite a ((a, oe) :: pn)).env = (false, eval (.Name m p2) (X.suite a ((a, oe) :: pn)).env) :: starEach [] (X.suite a ((a, oe) :: pn)).env := by rfl) :
    PE (X.suite a ((a, oe) :: pn)) (.Call (.Name ("isinstance" : Str) p) [.Name n p1, .Name m p2] [] pos) (tEn i a (tE C X.K (.c (.bl (subC y.cls c))))) := by
  obtain ⟨Da, e1, ex, ek⟩ := hk _ hy
  obtain ⟨vc, hvc, pc⟩ := hc p2
  subst hd
  rw [← ec, e1] at hz
  have hcall := pe_callB (X := X.suite a ((a, oe) :: pn)) (p := p) (pos := pos) (call_isE (X := X) (pn := pn) ex hz hf) hg hb boot_isinstance (pa_cons (pv (X := X.suite a ((a, oe) :: pn)) i hi hv hdb hcd) (pa_cons pc pa_nil hs2) hs) (by decide) (by decide) hs (by rw [hs2]; rfl)
  refine ⟨fun pins s σ H Q I ⟨⟨σ0, e0⟩, B0, H0, B, env, o, dd, k, R, he, q⟩ => hcall.run pins s σ H Q I ?_⟩
  have hl : i < σ.length := by
    have := I.len
    have h2 := (List.getElem?_eq_some_iff.mp hi).1
    exact this ▸ h2
  refine ⟨.ref a, ?_, ?_⟩
  · rw [e0] at hl ⊢
    rw [List.length_set] at hl
    rw [List.getElem?_set_self hl]
  · have he' : (if (D.bl (subC y.cls c)).atom = true then some (D.bl (subC y.cls c), Kd.frz) else none) = some (dd, k) := he
    cases he'
    exact ⟨vc, cv c, subC y.cls c, rfl, hvc, ek, q B H _ [] (Step.refl R.bh) ⟨rfl, bl_rep⟩ FrF.nil⟩
theorem sh_ret {e : E} {x : Expr} (h : PE X x (tEn i a (tE C X.K e))) : PSs X [.Return (some x) pos] (tSn i a (tS C X.K (.seq (.ret e) .skip))) :=
  imp_ss (pss_cons (ps_ret h) pss_nil) fun Dn σ H ⟨e0, B0, H0, B, env, o, out, R, he, q⟩ => by
    have he' : andThen ((vm (ev C e env)).map Out.rt) (exec C FU .skip) = some out := he
    cases e1 : vm (ev C e env) with
    | none => rw [e1] at he'; cases he'
    | some dd =>
      rw [e1] at he'
      cases he'
      exact ⟨e0, use_v R e1 fun B' H' v s r => q B' H' v (R.step s).done r⟩
def tAn (i : Nat) (a : Addr) (t : TA) : TA := fun σ H Q => (∃ σ0 : L2.St, σ = σ0.set i (some (.ref a))) ∧ t σ H Q
theorem san_nil : PA X [] (tAn i a (tA C X.K .nil)) := imp_a sa_nil fun σ H Q h => h.2
theorem san_cons {e : E} {x : Expr} {es : Es} {xs : List Expr} (ha : PE X x (tEn i a (tE C X.K e))) (hr : PA X xs (tAn i a (tA C X.K es))) (hs : starEach (x :: xs) X.env = (false, eval x X.env) :: starEach xs X.env := by rfl) : PA X (x :: xs) (tAn i a (tA C X.K (.cons e es))) :=
  imp_a (pa_cons ha hr hs) fun σ H Q ⟨e0, B0, H0, B, env, o, ds, R, he, q⟩ => by
    obtain ⟨d, h1, h2⟩ := bind1_some (show ((vm (ev C e env)).bind fun d => (evs C es env).bind fun ds => some (d :: ds)) = some ds from he)
    obtain ⟨dr, h3, h4⟩ := bind1_some h2
    cases h4
    exact ⟨e0, use_v R h1 fun B1 H1 v s1 r1 => ⟨e0, use_a (R.step s1) h3 fun B2 H2 vs s2 r2 => q B2 H2 (v :: vs) (s1.trans s2) (reps_cons (Rep.mono s2.bb _ _ r1) r2)⟩⟩
theorem sen_lst {es : Es} {xs : List Expr} (h : PA X xs (tAn i a (tA C X.K es))) : PE X (.List xs pos) (tEn i a (tE C X.K (.lst es))) := imp_e (pe_lst h) fun σ H Q ⟨e0, B0, H0, B, env, o, d, k, R, he, q⟩ => by
  obtain ⟨ds, h1, h2⟩ := bind1_some (show ((evs C es env).bind fun ds => if ds.length ≤ L then some ((.lst ds, .new1) : D × Kd) else none) = some (d, k) from he)
  obtain ⟨hz, h3⟩ := if_some h2
  cases h3
  exact ⟨e0, use_a R h1 fun B' H' vs s r => ⟨by rw [r.length]; exact sizeL hz, fin_list q rfl s r⟩⟩
theorem shs_asg {j m : Nat} {e : E} {x : Expr} {pos1 : Pos} (nd : X.N.Nodup) (h : PE X x (tEn i a (tE C X.K e))) (hi : X.N[j]? = some n := by rfl) (hx : Loc X.env.scope n := by first | exact .inl rfl | exact .inr rfl) (hs : swapsWith x (some (.Name n pos1)) pos.line X.env = pure false := by rfl)
    (hf : X.fn n = true ∨ X.env.scope.names.lookup n = some .local := by first | exact .inl rfl | exact .inr rfl) : PS X (.Assign [.Name n pos1] x pos) (tSn i a (tS C X.K (.asg j m e))) :=
  imp_s (ps_set nd hi hx h hs hf) fun Dn σ H ⟨e0, t⟩ => ⟨e0, asg_read Dn σ H t⟩
theorem sh_seq {s1 s2 : Hg.S} (h1 : PS X st (tSn i a (tS C X.K s1))) (h2 : SB C X s2 sts) : PSs X (st :: sts) (tSn i a (tS C X.K (.seq s1 s2))) := imp_ss (pss_cons h1 h2) fun Dn σ H ⟨e0, B0, H0, B, env, o, out, R, he, q⟩ => by
  have he' : andThen (exec C FU s1 env) (exec C FU s2) = some out := he
  cases e1 : exec C FU s1 env with
  | none => rw [e1] at he'; cases he'
  | some o1 =>
    rw [e1] at he'
    refine ⟨e0, B0, H0, B, env, o, o1, R, e1, ?_⟩
    cases o1 with
    | nx env1 => exact fun B' σ' H' o' R' e => ⟨B0, H0, B', env1, o', out, R', he', q.mono e⟩
    | rt d =>
      cases he'
      exact q
end
/-! ### the classes -/
def cname : Nat → Str
  | 0 => "HedgeError" | 1 => "BadText" | 2 => "BadCode" | 3 => "BadNumbers" | 4 => "TooBig" | 5 => "TooSmall" | 6 => "NoTip" | 7 => "BadHedge" | _ => "ValueError"
structure XF (K : PySem.W.Frag) (mg : Str → Option Value) (cv : Nat → Value) (ks : List Nat) : Prop where
  ex : ∀ k ∈ ks, ExK K mg (cname k) (cv k)
  tr : ∀ c ∈ ks, TrK K cv ks c
  is : ∀ c ∈ 8 :: ks, IsK K cv ks c
  ve : mg "ValueError" = none
  c8 : cv 8 = .type "ValueError"
theorem XF.own {K : PySem.W.Frag} {mg : Str → Option Value} {cv : Nat → Value} {ks : List Nat} (h : XF K mg cv ks) (k : Nat) (hk : k ∈ ks) : ∃ Ca : Addr, cv k = .ref Ca ∧ mg (cname k) = some (.ref Ca) := by
  obtain ⟨Ca, e, m, _⟩ := (h.ex k hk).cls
  exact ⟨Ca, e, m⟩
theorem XF.mg {K : PySem.W.Frag} {mg : Str → Option Value} {cv : Nat → Value} {ks : List Nat} (h : XF K mg cv ks) (k : Nat) (hk : k ∈ ks) : mg (cname k) = some (cv k) := by
  obtain ⟨Ca, e, m⟩ := h.own k hk
  rw [e]; exact m
theorem XF.pve {K : PySem.W.Frag} {mg : Str → Option Value} {cv : Nat → Value} {ks : List Nat} (h : XF K mg cv ks) {X : Cx} {m : Str} (p : PCl X m (.type "ValueError")) : PCl X m (cv 8) := by rw [h.c8]; exact p
def cvOf (l : List (Nat × Addr)) (k : Nat) : Value := if k = 8 then .type "ValueError" else match l.lookup k with | some a => .ref a | none => .none
def ecB (K : PySem.W.Frag) (D : Addr) : Bool :=
  decide (PySem.W.findIn K (.ref D) "__getattribute__" = some (some (.builtin "BaseException.__getattribute__"))) && decide (PySem.W.findIn K (.ref D) "__getattr__" = some none) && decide (PySem.W.subIn K (.ref D) (.type "BaseException") = some true) && PySem.W.hasDictIn K D &&
  decide (PySem.W.findIn K (.ref D) "__class__" = some (some (.builtin "object.__class__"))) && decide (PySem.W.specialIn K (.builtin "object.__class__") "__get__" = some (some (.builtin "getset_descriptor.__get__"))) && decide (PySem.W.takesIn K (.builtin "object.__class__") = some true) && decide (PySem.W.mroIn K D (.type "object") = some true)
theorem ecB_ok {K : PySem.W.Frag} {D : Addr} (h : ecB K D = true) : ExcC K D := by
  unfold ecB at h
  simp only [Bool.and_eq_true, decide_eq_true_eq] at h
  obtain ⟨⟨⟨⟨⟨⟨⟨h1, h2⟩, h3⟩, h4⟩, h5⟩, h6⟩, h7⟩, h8⟩ := h
  exact ⟨h1, h2, h3, h4, h5, h6, h7, h8⟩
def xfB2 (K : PySem.W.Frag) (l : List (Nat × Addr)) : Bool := l.all fun p =>
  PySem.W.excIn K p.2 [.type "ValueError", .type "Exception", .type "BaseException", .type "object"] "ValueError.__new__" && PySem.W.keepIn K (.ref p.2) && decide (PySem.W.subIn K (.ref p.2) (.type "BaseException") = some true) && decide (PySem.W.typeIn K (.ref p.2) = some (.type "type")) &&
  ecB K p.2 && decide (PySem.W.kitOne K (.ref p.2) (.type "ValueError") = some (subC p.1 8)) && decide (p.1 ≠ 8) && decide (cvOf l p.1 = .ref p.2) &&
  l.all fun q => decide (PySem.W.exmOne K (.ref p.2) (.ref q.2) = some (subC p.1 q.1)) && decide (PySem.W.kitOne K (.ref p.2) (.ref q.2) = some (subC p.1 q.1))
theorem xf_of {K : PySem.W.Frag} {mg : Str → Option Value} {l : List (Nat × Addr)} (h : xfB2 K l = true) (hm : ∀ p ∈ l, mg (cname p.1) = some (.ref p.2)) (ve : mg "ValueError" = none) : XF K mg (cvOf l) (l.map (·.1)) := by
  have h1 : ∀ p ∈ l, _ := List.all_eq_true.mp h
  have hp : ∀ p ∈ l, PySem.W.excIn K p.2 [.type "ValueError", .type "Exception", .type "BaseException", .type "object"] "ValueError.__new__" = true ∧ PySem.W.keepIn K (.ref p.2) = true ∧ PySem.W.subIn K (.ref p.2) (.type "BaseException") = some true ∧ PySem.W.typeIn K (.ref p.2) = some (.type "type") ∧
      ExcC K p.2 ∧ PySem.W.kitOne K (.ref p.2) (.type "ValueError") = some (subC p.1 8) ∧ cvOf l p.1 = .ref p.2 ∧ ∀ q ∈ l, PySem.W.exmOne K (.ref p.2) (.ref q.2) = some (subC p.1 q.1) ∧ PySem.W.kitOne K (.ref p.2) (.ref q.2) = some (subC p.1 q.1) := fun p hp => by
    have z := h1 p hp
    simp only [Bool.and_eq_true, decide_eq_true_eq] at z
    obtain ⟨⟨⟨⟨⟨⟨⟨⟨a1, a2⟩, a3⟩, a4⟩, a5⟩, a6⟩, a7⟩, a8⟩, a9⟩ := z
    refine ⟨a1, a2, a3, a4, ecB_ok a5, a6, a8, fun q hq => ?_⟩
    have z := List.all_eq_true.mp a9 q hq
    simp only [Bool.and_eq_true, decide_eq_true_eq] at z
    exact z
  have c8 : cvOf l 8 = .type "ValueError" := rfl
  refine ⟨fun k hk => ?_, fun c hc k hk => ?_, fun c hc k hk => ?_, ve, c8⟩
  · obtain ⟨p, h2, rfl⟩ := List.mem_map.mp hk
    obtain ⟨a1, a2, a3, a4, a5, a6, a7, a8⟩ := hp p h2
    exact ⟨p.2, a7, hm p h2, a1, a2, a3, a4⟩
  · obtain ⟨p, h2, rfl⟩ := List.mem_map.mp hk
    obtain ⟨q, h3, rfl⟩ := List.mem_map.mp hc
    obtain ⟨a1, a2, a3, a4, a5, a6, a7, a8⟩ := hp p h2
    obtain ⟨b1, b2, b3, b4, b5, b6, b7, b8⟩ := hp q h3
    rw [a7, b7]
    exact (a8 q h3).1
  · obtain ⟨p, h2, rfl⟩ := List.mem_map.mp hk
    obtain ⟨a1, a2, a3, a4, a5, a6, a7, a8⟩ := hp p h2
    refine ⟨p.2, a7, a5, ?_⟩
    rcases List.mem_cons.mp hc with rfl | hc
    · rw [c8]; exact a6
    · obtain ⟨q, h3, rfl⟩ := List.mem_map.mp hc
      obtain ⟨b1, b2, b3, b4, b5, b6, b7, b8⟩ := hp q h3
      rw [b7]
      exact (a8 q h3).2
/-! ### a def -/
abbrev cxX (P : Program) (w : World) (K : PySem.W.Frag) (mg : Str → Option Value) (base : Heap) (N : List Str) (ql : Str) (st : Stmt) (f : Addr) (cdv : Value) (A : Around) (outer : List PySem.Env) (s : Shared) (H : Hp) (E : XK) : Cx := cxOf (L2.CX P w) P w K mg base N ql (defScope st) f cdv A outer s H E
theorem startX {K : PySem.W.Frag} {H B : Hp} {N ps : List Str} {fdef : XDef} {ds : List D} {vs : List V} (hN : N.length = fdef.slots) (hle : fdef.params ≤ fdef.slots) (hd : ds.length = fdef.params) (e1 : Ext B H) (e3 : RepM K B H [] ds vs) (ett : TabsOk H) :
    Rel K B H B (startEnv fdef.fd ds) (L2.start N vs) H fun _ => none := by
  have hsl : (startEnv fdef.fd ds).length = fdef.slots := startEnv_length fdef.fd ds (by show ds.length ≤ fdef.slots; omega)
  have hvl : vs.length = ds.length := e3.length
  refine ⟨Ext.refl _, Ext.refl _, e1, ett, fun a h => .inl h, ?_, fun i d' k' hi => ?_, (fun a i h => nomatch h), (fun a i h => nomatch h)⟩
  · rw [hsl]
    unfold L2.start
    rw [List.length_append, List.length_map, List.length_replicate]
    omega
  · unfold startEnv at hi
    by_cases hil : i < ds.length
    · rw [List.getElem?_append_left (by rw [List.length_map, List.length_zipIdx]; exact hil), List.getElem?_map, List.getElem?_zipIdx, List.getElem?_eq_getElem hil] at hi
      have hi2 : some (Slot.val ds[i] (if fdef.fd.lent.getD (0 + i) false then .lent else .frz)) = some (.val d' k') := hi
      injection hi2 with hi3
      injection hi3 with hi4 hi5
      obtain ⟨v, g1, g2⟩ := repM_get e3 (List.getElem?_eq_getElem hil)
      refine ⟨v, [], ?_, ?_, List.nodup_nil, by simp⟩
      · unfold L2.start
        rw [List.getElem?_append_left (by rw [List.length_map, hvl]; exact hil), List.getElem?_map, g1]
        rfl
      · subst hi4 hi5
        exact ⟨rfl, g2⟩
    · rw [List.getElem?_append_right (by rw [List.length_map, List.length_zipIdx]; omega), List.getElem?_replicate] at hi
      split at hi
      · cases hi
      · cases hi
section
variable {P : Program} {w : World} {K : PySem.W.Frag} {mg : Str → Option Value} {base : Heap} {C : Nat → List D → Option D} {CR : Nat → List D → Option RV} {cv : Nat → Value} {n ql : Str} {st : Stmt} {f : Addr} {fd : FuncData} {N ps : List Str} {k : Nat}
/-- a def that may raise -/
theorem fn_okX (fdef : XDef) (F : Fun K n ql st f fd) (S : FnScope N ps (defScope st)) (bf : Bf mg) (hN : N.length = fdef.slots) (hps : ps.length = fdef.params) (hle : fdef.params ≤ fdef.slots)
    (hb : ∀ (cdv : Value) (A : Around) (outer : List PySem.Env) (s : Shared) (H : Hp) (E : XK), Room k (cxX P w K mg base N ql st f cdv A outer s H E).A → Gd (cxX P w K mg base N ql st f cdv A outer s H E) → PassesOwn (model P w) (cxX P w K mg base N ql st f cdv A outer s H E).A (cxX P w K mg base N ql st f cdv A outer s H E).env (cxX P w K mg base N ql st f cdv A outer s H E).xe →
      SBX C CR cv (cxX P w K mg base N ql st f cdv A outer s H E) fdef.body (defBody st)) :
    FnOk P w K mg base (L2.CX P w) (k + 1) f fd ps (spX K cv fdef.params (runX C CR fdef)) := by
  refine F.okX S (fun vs H Q E ⟨B, ds, d, _, h, _⟩ => by rw [h, hps]) (fun cdv A outer s H vs Q E hr h => ?_)
  obtain ⟨B, ds, r, e1, e2, e3, e4, ett, q⟩ := h
  have hu : Gd (cxX P w K mg base N ql st f cdv A outer s H E) := ⟨rfl, S.nd, by have := hr.un; show (A.deeper _).units + 80 < cLine; omega, bf.len, bf.range, bf.sorted, bf.min, bf.max, bf.sum, bf.isi, bf.list, bf.tuple, bf.dict, bf.int, bf.str, bf.bool, bf.set, bf.enum, bf.rev, bf.zip⟩
  refine ⟨tSX C CR K cv (fun cls d _ H => E cls d H) fdef.body, hb cdv A outer s H E hr hu (passes_of rfl) _ (takes_of rfl rfl rfl rfl), ?_⟩
  unfold runX at e4
  obtain ⟨hd, e5⟩ := ifn_some e4
  cases hx : execX C CR fdef.body (startEnv fdef.fd ds) with
  | none => rw [hx] at e5; cases e5
  | some out =>
    rw [hx] at e5
    refine ⟨B, H, B, startEnv fdef.fd ds, fun _ => none, out, startX hN hle hd e1 e3 ett (ps := ps), hx, ?_⟩
    cases out with
    | rt d2 =>
      cases e5
      exact fun B' H' v s r => q B' H' v s r
    | nx env' =>
      cases e5
      exact fun B' σ' H' o' R e => q B' H' .non R.done non_rep
    | ex x env' =>
      cases e5
      exact fun B' σ' H' o' dd R e a => q B' H' dd R.done a
/-- a def that takes what is raised within -/
theorem fn_okT (fdef : XDef) (F : Fun K n ql st f fd) (S : FnScope N ps (defScope st)) (bf : Bf mg) (hN : N.length = fdef.slots) (hps : ps.length = fdef.params) (hle : fdef.params ≤ fdef.slots)
    (hb : ∀ (cdv : Value) (A : Around) (outer : List PySem.Env) (s : Shared) (H : Hp) (E : XK), Room k (cx0 P w K mg base N ql st f cdv A outer s H E).A → Gd (cx0 P w K mg base N ql st f cdv A outer s H E) → SBX C CR cv (cx0 P w K mg base N ql st f cdv A outer s H E) fdef.body (defBody st)) :
    FnOk P w K mg base CX0 (k + 1) f fd ps (spF K [] fdef.params (okD (runX C CR fdef))) := by
  refine F.ok S (fun vs H Q E ⟨B, ds, d, _, h, _⟩ => by rw [h, hps]) (fun cdv A outer s H vs Q E hr h => ?_)
  obtain ⟨B, ds, d, e1, e2, e3, e4, ett, q⟩ := h
  have hu : Gd (cx0 P w K mg base N ql st f cdv A outer s H E) := ⟨rfl, S.nd, by have := hr.un; show (A.deeper _).units + 80 < cLine; omega, bf.len, bf.range, bf.sorted, bf.min, bf.max, bf.sum, bf.isi, bf.list, bf.tuple, bf.dict, bf.int, bf.str, bf.bool, bf.set, bf.enum, bf.rev, bf.zip⟩
  refine ⟨tSX C CR K cv (fun _ _ _ _ => False) fdef.body, hb cdv A outer s H E hr hu _ takes0, ?_⟩
  have e6 : runX C CR fdef ds = some (.ok d) := by
    unfold okD at e4
    split at e4
    · cases e4; assumption
    · cases e4
  unfold runX at e6
  obtain ⟨hd, e5⟩ := ifn_some e6
  cases hx : execX C CR fdef.body (startEnv fdef.fd ds) with
  | none => rw [hx] at e5; cases e5
  | some out =>
    rw [hx] at e5
    refine ⟨B, H, B, startEnv fdef.fd ds, fun _ => none, out, startX hN hle hd e1 e3 ett (ps := ps), hx, ?_⟩
    cases out with
    | rt d2 =>
      cases e5
      exact fun B' H' v s r => q B' H' v s r
    | nx env' =>
      cases e5
      exact fun B' σ' H' o' R e => q B' H' .non R.done non_rep
    | ex x env' => cases e5
theorem calX_of {ps : List Str} {np : Nat} {sem : List D → Option RV} (F : Fun K n ql st f fd) (h : FnOk P w K mg base (L2.CX P w) k f fd ps (spX K cv np sem)) (g : mg n = some (.ref f)) (b : Binds K fd ps []) : CalX P w K mg base cv k n np sem := ⟨f, fd, ps, h, g, F.kp, b⟩
end
end Hg
end

section
set_option Elab.async false
set_option maxRecDepth 100000
set_option maxHeartbeats 4000000
/-! Snd31: enumerate over a text. -/
namespace Hg
open PySem PySem.Spec PyProof.Rows L2
variable [TB : Tabl]
/-- the signs of a text, each in a new pair -/
def Ites (x : Str) : L2.It :=
  ⟨fun i _ => i < x.cps.size, fun i H v H' => ∃ T c, v = .ref T ∧ H T = none ∧ H' = upd H T (.tup [.int (i : Nat), .str ⟨#[c]⟩]) ∧ x.cps[i]? = some c, fun i _ => i = x.cps.size⟩
theorem turn_enumS {P : Program} {w : World} {K : PySem.W.Frag} {elts : List Expr} {kk : Nat} {tpos : Pos} (x : Str) (t : Tok) (e it : Addr) :
    Turn P w K (.Tuple elts kk tpos) (Ites x) [e, it] e (fun i h => (∃ old, IsEnum h e it ((i : Nat) : Int) old) ∧ h.IsStrIter it (strIterType x) x t i ∧ e ≠ it) where
  mem := by simp
  obj := fun i h st b hb => by
    obtain ⟨⟨old, he⟩, ⟨o, ho, hc, hd⟩, _⟩ := st
    have e' : b = e ∨ b = it := by simpa using hb
    rcases e' with z | z
    · rw [z]; exact ⟨_, he, fun v q => nomatch q⟩
    · rw [z]; exact ⟨o, ho, fun v q => by rw [hd] at q; cases q⟩
  keep := fun i h h' st k => let ⟨⟨old, he⟩, ⟨o, ho, r⟩, hne⟩ := st; ⟨⟨old, k e (by simp) _ he⟩, ⟨o, k it (by simp) o ho, r⟩, hne⟩
  item := by
    intro X hP hw hK hc i pins s σ H E I hf st hg
    subst hP hw hK
    obtain ⟨⟨old, he⟩, hit, hne⟩ := st
    have hel : e < s.heap.objs.size := Heap.lt_size he
    have hil : it < s.heap.objs.size := by obtain ⟨_, q, _⟩ := hit; exact Heap.lt_size q
    have D := Draws.text (prog := X.prog) (w := X.w) (A := X.A.in1) (I.ok.hd hc) it x t
    refine wpAny_pyNext_enum_itemD D he hit hg hne (by simpa using hne) fun v h' tk hP ho hit' hT hsz hk => ?_
    obtain ⟨c, u, hcx, rfl⟩ := hP
    refine ⟨_, rfl, wpAny_letOwnedTupleGo_enum (s := { s with heap := h', toks := tk + 1 }) ho fun h'' he' sb => ?_⟩
    have hT2 : h''.get? s.heap.objs.size = some { cls := .type "tuple", data := .seq #[.int i tk, .str ⟨#[c]⟩ u] } := (sb.2 _ (Nat.ne_of_gt hel)).trans hT
    have new : ObjOk X.prog X.w (upd H s.heap.objs.size (.tup [.int (i : Nat), .str ⟨#[c]⟩])) h'' s.heap.objs.size (.tup [.int (i : Nat), .str ⟨#[c]⟩]) :=
      ⟨by show 2 ≤ sizeLine; decide, [.int i tk, .str ⟨#[c]⟩ u], .cons ⟨_, rfl⟩ (.cons ⟨_, rfl⟩ .nil), ⟨_, hT2, rfl, _, rfl⟩⟩
    have I1 : Inv X pins σ (upd H s.heap.objs.size (.tup [.int (i : Nat), .str ⟨#[c]⟩])) { s with heap := h'', toks := tk + 1 } :=
      I.turnedNew (ch := [e, it]) (fun b ob hb q => (sb.2 b (fun z => hb (by simp [z]))).trans (hk b ob (fun z => hb (by simp [z])) (fun z => hb (by simp [z])) q)) hf (Nat.le_refl _) new
    refine ⟨.ref s.heap.objs.size, _, I1, rfl, ⟨_, c, rfl, I.hok.fresh (Nat.le_refl _), rfl, hcx⟩, ⟨⟨.str ⟨#[c]⟩ u, ?_⟩, ?_, hne⟩, fun b hb => ?_⟩
    · have e1 : ((i + 1 : Nat) : Int) = (i : Int) + 1 := by omega
      rw [e1]; exact he'
    · obtain ⟨o2, ho2, r2⟩ := hit'
      exact ⟨o2, (sb.2 it (Ne.symm hne)).trans ho2, r2⟩
    · have hb' : b < s.heap.objs.size := by
        have e' : b = e ∨ b = it := by simpa using hb
        rcases e' with z | z
        · rw [z]; exact hel
        · rw [z]; exact hil
      rw [upd_ne (Nat.ne_of_lt hb')]
      exact (hf b hb).1
  done := by
    intro X hP hw hK hc i pins s σ H E I hf st hg
    subst hP hw hK
    obtain ⟨⟨old, he⟩, hit, hne⟩ := st
    have hg' : i = x.cps.size := hg
    subst hg'
    obtain ⟨f0, f1, f2, f3, f4, f5⟩ := hf it (by simp)
    have D := Draws.text (prog := X.prog) (w := X.w) (A := X.A.in1) (I.ok.hd hc) it x t
    exact wpAny_pyNext_enum_endD D he hit fun h' eb => ⟨rfl, I.turned (t' := s.toks) (fun b o hb q => eb b o hb q) f0 f1 f3 f4 f5⟩
  self := fun A i s Q E st h => let ⟨⟨_, he⟩, _⟩ := st; wpAny_pyIter_enum he h
def iEnumS (ta : TA) : TI := fun σ H R => ta σ H fun vs H1 => ∃ x, vs = [.str x] ∧ R (Ites x) H1
theorem pi_enumS {X : Cx} {e : Expr} {ta : TA} {p pos tpos : Pos} {elts : List Expr} {kk : Nat} (hg : Gl X "enumerate") (hm : X.mg "enumerate" = none) (ha : PA X [e] ta) (hs : starEach [e] X.env = [(false, eval e X.env)] := by rfl) :
    PI X (.Tuple elts kk tpos) (.Call (.Name "enumerate" p) [e] [] pos) (iEnumS ta) := by
  refine ⟨fun pins s σ H R I h => ?_⟩
  refine Call_ (ld_blt I hg hm boot_enumerate (PyProof.Rows.callWith_type1 (thn (ha.run pos pins s σ H _ I h) fun us s1 ⟨vs, H1, I1, r1, q1⟩ => ?_) hs rfl))
  obtain ⟨x, ex, q⟩ := q1
  subst ex
  cases r1 with
  | cons r rr =>
    cases rr
    obtain ⟨t, rfl⟩ := r
    refine call_enumerate_str fun h' he hit hsz hk => wpAny_pyIter_enum he ?_
    have I2 : Inv X pins σ H1 { s1 with heap := h' } := I1.kept (t' := s1.toks) hk
    refine ⟨s1.heap.objs.size + 1, [s1.heap.objs.size + 1, s1.heap.objs.size], _, _, H1, rfl, I2, turn_enumS x t (s1.heap.objs.size + 1) s1.heap.objs.size, ⟨⟨.none, he⟩, hit, Nat.succ_ne_self _⟩, fun b hb => ?_, q⟩
    have e' : b = s1.heap.objs.size + 1 ∨ b = s1.heap.objs.size := by simpa using hb
    have hle : s1.heap.objs.size ≤ b := by
      rcases e' with z | z
      · rw [z]; exact Nat.le_add_right _ _
      · rw [z]; exact Nat.le_refl _
    exact I1.fpOk hle (I1.hok.fresh hle)
theorem it_enumS {K : PySem.W.Frag} {B1 G : Hp} {s : List Nat} : ItOk K B1 G (enumFrom 0 (s.map fun c => .str [c])) (Ites (sv s)) where
  go := fun i H hi e => by
    rw [enumFrom_length] at hi
    show i < s.toArray.size
    simpa using hi
  yl := fun i H x H' Bc d hd e1 e2 e3 hy => by
    obtain ⟨T, c, rfl, hT, rfl, hy⟩ := hy
    obtain ⟨d', h1, rfl⟩ := enumFrom_get _ 0 i hd
    have h2 : s[i]? = some c := by simpa [sv] using hy
    rw [List.getElem?_map, h2] at h1
    cases h1
    refine ⟨upd Bc T (.tup [.int (i : Nat), .str ⟨#[c]⟩]), Step.new e2 hT, tup_rep upd_same ?_⟩
    rw [show ((0 + i : Nat) : Int) = ((i : Nat) : Int) by omega]
    exact reps_cons int_rep (reps_cons str_rep reps_nil)
  st := fun i H hi e => by
    rw [enumFrom_length] at hi
    show i = s.toArray.size
    rw [hi]; simp
theorem si_enumS {C : Nat → List D → Option D} {X : Cx} {a : E} {x : Expr} {p pos : Pos} {es : List Expr} {kk : Nat} {tp : Pos} (G : Gd X) (ha : SE C X a x) (hg : Gl X ("enumerate" : Str) := by rfl) (hs : starEach [x] X.env = [(false, eval x X.env)] := by rfl) : SI C X (.Tuple es kk tp) (.enumS a) (.Call (.Name ("enumerate" : Str) p) [x] [] pos) :=
  imp_i (pi_enumS hg G.enum (pa_cons ha pa_nil hs) hs) fun σ H Rr ⟨B0, H0, B, env, o, xs, own, R, he, q⟩ => by
    obtain ⟨d, e1, e2⟩ := bind1_some (show ((bm (ev C a env)).bind fun x => match x with
      | .str s => some (enumFrom 0 (s.map fun c => D.str [c]), false)
      | _ => none) = some (xs, own) from he)
    refine use_b R e1 fun B' H' v s r => ?_
    cases d <;> simp only [reduceCtorEq] at e2
    rename_i str
    cases e2
    exact ⟨sv str, congrArg (fun z => [z]) (rep_str r), q B' H' _ B' s s.bh (fun _ Hx e _ => e) it_enumS⟩
end Hg
end

section
set_option Elab.async false
set_option maxRecDepth 100000
set_option maxHeartbeats 4000000
/-! Snd32: an exception that keeps what it is told; suites that ask for it. -/
namespace Hg
open PySem PySem.Spec PyProof.Rows L2
variable [TB : Tabl]
theorem nt_xd {fs : List (Str × V)} : Nt (.xd fs) := fun _ z => nomatch z
theorem ArgOk.mono {K : PySem.W.Frag} {B H B' H' : Hp} {a : Option D} {d : Option Addr} (h : ArgOk K B H a d) (e : Ext B B') (e' : Ext H H') : ArgOk K B' H' a d := by
  cases a with
  | none => exact h
  | some x =>
    obtain ⟨q, v, rfl, h1, h2⟩ := h
    exact ⟨q, v, rfl, e'.at h1 nt_xd, Rep.mono e _ _ h2⟩
/-! ### the suite -/
def tHnA (C : Nat → List D → Option D) (K : PySem.W.Frag) (cv : Nat → Value) (ks : List Nat) (i : Nat) (hs : Ex → Hg.S) (a : Addr) (cls : Value) (d : Option Addr) : TS := fun Dn σ H => ∃ x, cv x.cls = cls ∧ x.cls ∈ ks ∧ (∃ σ0 : L2.St, σ = σ0.set i (some (.ref a))) ∧
  ∃ B0 H0 B env o out, Rel K B0 H0 B env σ H o ∧ exec C FU (hs x) env = some out ∧ OutOk K B0 H0 B Dn out ∧ ArgOk K B H x.arg d
def tSA (C : Nat → List D → Option D) (K : PySem.W.Frag) (i : Nat) (a : Addr) (ar : Option D) (d : Option Addr) (s : Hg.S) : TS := fun Dn σ H => (∃ σ0 : L2.St, σ = σ0.set i (some (.ref a))) ∧
  ∃ B0 H0 B env o out, Rel K B0 H0 B env σ H o ∧ exec C FU s env = some out ∧ OutOk K B0 H0 B Dn out ∧ ArgOk K B H ar d
def tEA (C : Nat → List D → Option D) (K : PySem.W.Frag) (i : Nat) (a : Addr) (ar : Option D) (d : Option Addr) (e : E) : TE := fun σ H Q => (∃ σ0 : L2.St, σ = σ0.set i (some (.ref a))) ∧
  ∃ B0 H0 B env o dd k, Rel K B0 H0 B env σ H o ∧ ev C e env = some (dd, k) ∧ (∀ B' H' v F, Step B H B' H' → ROk K H0 B' H' k dd v F → FrF H B' F → Q v H') ∧ ArgOk K B H ar d
def tAA (C : Nat → List D → Option D) (K : PySem.W.Frag) (i : Nat) (a : Addr) (ar : Option D) (d : Option Addr) (es : Es) : TA := fun σ H Q => (∃ σ0 : L2.St, σ = σ0.set i (some (.ref a))) ∧
  ∃ B0 H0 B env o ds, Rel K B0 H0 B env σ H o ∧ evs C es env = some ds ∧ (∀ B' H' vs, Step B H B' H' → Reps K B' ds vs → Q vs H') ∧ ArgOk K B H ar d
section
variable {C : Nat → List D → Option D} {CR : Nat → List D → Option RV} {cv : Nat → Value} {X : Cx} {x n m : Str} {pos pos' np p p1 p2 : Pos} {s : SX} {xs : List Stmt} {b₀ : Stmt} {suite : List Stmt} {hs : Ex → Hg.S} {ks : List Nat} {c i : Nat} {st : Stmt} {sts : List Stmt} {a : Addr} {oe : Obj} {cls : Value} {d : Option Addr} {pn : List (Addr × Obj)} {ar : Option D}
theorem sx_tryAsA {i : Nat} (G : Gd X) (hc : X.mg x = some (cv c)) (tr : TrK X.K cv ks c) (hb : ∀ (pn : List (Addr × Obj)) (xe : Value → Shared → Prop), Gd (X.tr pn xe) → SBX C CR cv (X.tr pn xe) s xs)
    (hsu : ∀ (a : Addr) (oe : Obj) (cls : Value) (d : Option Addr) (pn : List (Addr × Obj)), Zc cls d oe → (∃ vs, oe.data = .fields vs) → PSs (X.suite a ((a, oe) :: pn)) (b₀ :: suite) (tHnA C X.K cv ks i hs a cls d))
    (hi : X.N[i]? = some n := by rfl) (hln : X.env.kindOf n = some .local := by rfl)
    (hst : X.stack = X.env :: X.outer := by rfl) (hf : X.env.frame = some X.env.locals := by rfl) (hg : Gl X x := by rfl) (hdb : (x == ("__debug__" : Str)) = false := by decide) :
    SSX C CR cv X (.try_ s ks c (some i) fun x => .st (hs x)) (.Try xs [.ExceptHandler (some (.Name x np)) (some n) (b₀ :: suite) pos'] [] [] pos) := fun W tk =>
  imp_s (ps_try_as (i := i) (tb := fun W => tSX C CR X.K cv W s) (ts := fun a cls d => tHnA C X.K cv ks i hs a cls d) (c := cv c) hst hf G.nd hi hln ⟨hg, hdb, .inl hc⟩ tk (fun W pn xe tk' _ => hb pn xe (G.tr pn xe) W tk') hsu) fun Dn σ H ⟨B0, H0, B, env, o, out, R, he, q⟩ => by
  have he' : catchX ks c (some i) (fun x e => execX C CR (.st (hs x)) e) (execX C CR s env) = some out := he
  cases e1 : execX C CR s env with
  | none => rw [e1] at he'; cases he'
  | some o1 =>
    rw [e1] at he'
    refine ⟨B0, H0, B, env, o, o1, R, e1, ?_⟩
    cases o1 with
    | nx env1 => cases he'; exact q
    | rt d => cases he'; exact q
    | ex x e =>
      obtain ⟨h1, h2⟩ := ifn_some (show (if x.cls ∈ ks ∧ (x.arg.isNone = true ∨ x.cls = 7) then (if subC x.cls c then wipeX i (execX C CR (.st (hs x)) (e.set i .un)) else some (.ex x e)) else none) = some out from he')
      intro B' σ' H' o' dd R' ee aa
      refine ⟨subC x.cls c, tr _ h1.1, fun hb a ha => ?_, fun hb => ?_⟩
      · rw [if_pos hb] at h2
        cases e2 : execX C CR (.st (hs x)) (e.set i .un) with
        | none => rw [e2] at h2; cases h2
        | some o2 =>
          rw [e2] at h2
          have e3 : (exec C FU (hs x) (e.set i .un)).map toX = some o2 := e2
          rw [Option.map_eq_some_iff] at e3
          obtain ⟨o3, e4, rfl⟩ := e3
          refine ⟨x, rfl, h1.1, ⟨σ', rfl⟩, B0, H0, B', e.set i .un, _, o3, R'.putUn, e4, ?_, aa⟩
          cases o3 with
          | nx e3 =>
            cases h2
            exact fun B3 σ3 H3 o3 R3 e4 => q B3 _ H3 _ R3.putUn (ee.trans e4)
          | rt d => cases h2; exact q
      · rw [if_neg (by rw [hb]; decide)] at h2
        cases h2
        exact q B' σ' H' o' dd R' ee aa
theorem sh_ofA (h : ∀ x : Ex, cv x.cls = cls → x.cls ∈ ks → PSs X sts (tSA C X.K i a x.arg d (hs x))) : PSs X sts (tHnA C X.K cv ks i hs a cls d) :=
  ⟨fun pins s σ H D I ⟨x, e1, e2, e4, r⟩ => (h x e1 e2).run pins s σ H D I ⟨e4, r⟩⟩
theorem sa_val {a : Addr} {B0 H0 B H : Hp} {env : Hg.Env} {σ : L2.St} {o : Addr → Option Nat} {e : E} {dd : D} {Q : VK} (hσ : ∃ σ0 : L2.St, σ = σ0.set i (some (.ref a))) (R : Rel X.K B0 H0 B env σ H o) (h : vm (ev C e env) = some dd) (ha : ArgOk X.K B H ar d) (q : ∀ B' H' v, Step B H B' H' → Rep X.K B' dd v → Q v H') : tEA C X.K i a ar d e σ H Q := by
  cases he' : ev C e env with
  | none => rw [he'] at h; cases h
  | some p =>
    obtain ⟨d1, k1⟩ := p
    rw [he'] at h
    have hk0 : (if k1 = .frz ∨ k1 = .new1 ∨ k1 = .new2 ∨ d1.atom = true then some d1 else none) = some dd := h
    obtain ⟨hk, h9⟩ := ifn_some hk0
    clear h hk0
    cases h9
    refine ⟨hσ, B0, H0, B, env, o, dd, k1, R, he', fun B2 H2 v F s r f => ?_, ha⟩
    by_cases hat : dd.atom = true
    · exact q B2 H2 v s (Rep.atom hat (r.rep s.bh (R.h0.trans s.hh)))
    · rcases hk with rfl | rfl | rfl | z
      · exact q B2 H2 v s r.2
      · exact q _ H2 v (s.give f) (Own1.give r f.b fun a h => h)
      · exact q _ H2 v (s.give f) (Own2.give r f.b fun a h => h)
      · exact absurd z hat
theorem sh_retA {e : E} {x : Expr} (h : PE X x (tEA C X.K i a ar d e)) : PSs X [.Return (some x) pos] (tSA C X.K i a ar d (.seq (.ret e) .skip)) :=
  imp_ss (pss_cons (ps_ret h) pss_nil) fun Dn σ H ⟨e0, B0, H0, B, env, o, out, R, he, q, ha⟩ => by
    have he' : andThen ((vm (ev C e env)).map Out.rt) (exec C FU .skip) = some out := he
    cases e1 : vm (ev C e env) with
    | none => rw [e1] at he'; cases he'
    | some dd =>
      rw [e1] at he'
      cases he'
      exact sa_val e0 R e1 ha fun B' H' v s r => q B' H' v (R.step s).done r
theorem pe_isEA {y : Ex} (hz : Zc cls d oe) (hf : ∃ vs, oe.data = .fields vs) (ec : cv y.cls = cls) (hy : y.cls ∈ ks) (hk : IsK X.K cv ks c) (hc : PCl (X.suite a ((a, oe) :: pn)) m (cv c)) (hi : X.N[i]? = some n) (hb : X.mg ("isinstance" : Str) = none)
    (hv : Vis X.env.scope n := by first | exact Or.inl rfl | exact Or.inr (Or.inl rfl) | exact Or.inr (Or.inr rfl)) (hdb : (n == ("__debug__" : Str)) = false := by decide) (hcd : (n == ("__classdict__" : Str)) = false := by decide) (hg : Gl X ("isinstance" : Str) := by rfl)
    (hs : starEach [.Name n p1, .Name m p2] (X.suite a ((a, oe) :: pn)).env = (false, eval (.Name n p1) (X.suite a ((a, oe) :: pn)).env) :: starEach [.Name m p2] (X.suite a ((a, oe) :: pn)).env := by rfl) (hs2 : starEach [.Name m p2] (X.suite a ((a, oe) :: pn)).env = (false, eval (.Name m p2) (X.suite a ((a, oe) :: pn)).env) :: starEach [] (X.suite a ((a, oe) :: pn)).env := by rfl) :
    PE (X.suite a ((a, oe) :: pn)) (.Call (.Name ("isinstance" : Str) p) [.Name n p1, .Name m p2] [] pos) (tEA C X.K i a y.arg d (.c (.bl (subC y.cls c)))) := by
  obtain ⟨Da, e1, ex, ek⟩ := hk _ hy
  obtain ⟨vc, hvc, pc⟩ := hc p2
  rw [← ec, e1] at hz
  have hcallR : CallR (X.suite a ((a, oe) :: pn)) (.builtin "isinstance") (fun xs H Q => rIsE X.K Da a xs H Q ∧ ∀ dd, d = some dd → ∃ fs, H dd = some (.xd fs)) := by
    intro pins s σ H xs us Q I r h
    obtain ⟨⟨c, cv, b, rfl, hcv, e, q⟩, hdd⟩ := h
    cases r with
    | cons rx rr =>
      cases rr with
      | cons rt rr =>
        cases rr
        cases rx
        have ec := hcv _ rt
        subst ec
        obtain ⟨hget, _⟩ := I.pin (a, oe) (List.mem_append.mpr (.inl List.mem_cons_self))
        obtain ⟨vs, hv⟩ := hf
        have J : ∃ od, PySem.W.InstAt s.heap a oe Da od := by
          cases d with
          | none => exact ⟨none, hget, hz.1, by unfold PySem.W.notCls; rw [hv] <;> rfl, by rw [hz.2]; trivial⟩
          | some dd =>
            obtain ⟨fs, hfs⟩ := hdd dd rfl
            have hx : ObjOk X.prog X.w H s.heap dd (.xd fs) := I.hok dd _ hfs
            obtain ⟨mA, hns, hr⟩ := hx
            obtain ⟨od, ho, hl⟩ := lookIn_ns hns
            exact ⟨some od, hget, hz.1, by unfold PySem.W.notCls; rw [hv] <;> rfl, by rw [hz.2]; exact ho⟩
        obtain ⟨od, J⟩ := J
        have hcl : (PySem.W.clsIn X.K Da).isSome = true := by
          have := ex.hd
          unfold PySem.W.hasDictIn at this
          cases z : PySem.W.clsIn X.K Da with
          | none => rw [z] at this; exact absurd this (by decide)
          | some _ => rfl
        exact PySem.W.kia_one (PySem.W.kitx_exc hcl ex.hg ex.hk ex.hs ex.ha ex.hn ex.ht ex.hm) I.kIn J e (fun z => nomatch z) fun tk => ⟨.bl b, H, I.kept (t' := tk) fun _ _ z => z, rfl, q⟩
  have hcall := pe_callB (X := X.suite a ((a, oe) :: pn)) (p := p) (pos := pos) hcallR hg hb boot_isinstance (pa_cons (pv (X := X.suite a ((a, oe) :: pn)) i hi hv hdb hcd) (pa_cons pc pa_nil hs2) hs) (by decide) (by decide) hs (by rw [hs2]; rfl)
  refine ⟨fun pins s σ H Q I ⟨⟨σ0, e0⟩, B0, H0, B, env, o, dd, k, R, he, q, ha⟩ => hcall.run pins s σ H Q I ?_⟩
  have hl : i < σ.length := by
    have := I.len
    have h2 := (List.getElem?_eq_some_iff.mp hi).1
    exact this ▸ h2
  refine ⟨.ref a, ?_, ?_⟩
  · rw [e0] at hl ⊢
    rw [List.length_set] at hl
    rw [List.getElem?_set_self hl]
  · have he' : (if (D.bl (subC y.cls c)).atom = true then some (D.bl (subC y.cls c), Kd.frz) else none) = some (dd, k) := he
    cases he'
    refine ⟨⟨vc, cv c, subC y.cls c, rfl, hvc, ek, q B H _ [] (Step.refl R.bh) ⟨rfl, bl_rep⟩ FrF.nil⟩, fun d2 hd2 => ?_⟩
    cases har : y.arg with
    | none => rw [har] at ha; rw [show d = none from ha] at hd2; cases hd2
    | some z =>
      rw [har] at ha
      obtain ⟨q2, v2, e2, e3, _⟩ := ha
      rw [e2] at hd2
      cases hd2
      exact ⟨_, e3⟩
theorem kx_at : (([(("at" : Str), (V.non))] : List (Str × V)).lookup ("at" : Str)) = some V.non := by decide +kernel
/-- e.at, what the exception was told -/
theorem pe_atA {dv : D} {Da : Addr} (T : XfC X.K Da) (hno : PySem.W.findIn X.K (.ref Da) ("at" : Str) = some none) (hz : Zc (.ref Da) d oe) (hf : ∃ vs, oe.data = .fields vs) (hat : dv.atom = true) (hi : X.N[i]? = some n)
    (hv : Vis X.env.scope n := by first | exact Or.inl rfl | exact Or.inr (Or.inl rfl) | exact Or.inr (Or.inr rfl)) (hdb : (n == ("__debug__" : Str)) = false := by decide) (hcd : (n == ("__classdict__" : Str)) = false := by decide)
    (hb : attributeBase (.Name n p1) ("at" : Str) X.env (eval (.Name n p1) X.env) = eval (.Name n p1) X.env := by rfl) :
    PE (X.suite a ((a, oe) :: pn)) (.Attribute (.Name n p1) ("at" : Str) pos) (tEA C X.K i a (some dv) d (.c dv)) := by
  have hp := pe_xf (pn := pn) (pos := pos) T hno hz hf (pv (X := X.suite a ((a, oe) :: pn)) i hi hv hdb hcd (pos := p1)) hb
  refine ⟨fun pins s σ H Q I ⟨⟨σ0, e0⟩, B0, H0, B, env, o, dd, k, R, he, q, ha⟩ => hp.run pins s σ H Q I ?_⟩
  have hl : i < σ.length := by
    have := I.len
    have h2 := (List.getElem?_eq_some_iff.mp hi).1
    exact this ▸ h2
  have he' : (if dv.atom = true then some (dv, Kd.frz) else none) = some (dd, k) := he
  rw [if_pos hat] at he'
  cases he'
  obtain ⟨q2, v2, e2, e3, e4⟩ := ha
  refine ⟨.ref a, ?_, rfl, rfl, q2, _, v2, e2, e3, ?_, q B H v2 [] (Step.refl R.bh) ⟨rfl, e4⟩ FrF.nil⟩
  · rw [e0] at hl ⊢
    rw [List.length_set] at hl
    rw [List.getElem?_set_self hl]
  · simp [List.lookup]
theorem saA_nil : PA X [] (tAA C X.K i a ar d .nil) := imp_a sa_nil fun σ H Q ⟨e0, B0, H0, B, env, o, ds, R, he, q, ha⟩ => ⟨B0, H0, B, env, o, ds, R, he, q⟩
theorem saA_cons {e : E} {x : Expr} {es : Es} {xs : List Expr} (hx : PE X x (tEA C X.K i a ar d e)) (hr : PA X xs (tAA C X.K i a ar d es)) (hs : starEach (x :: xs) X.env = (false, eval x X.env) :: starEach xs X.env := by rfl) : PA X (x :: xs) (tAA C X.K i a ar d (.cons e es)) :=
  imp_a (pa_cons hx hr hs) fun σ H Q ⟨e0, B0, H0, B, env, o, ds, R, he, q, ha⟩ => by
    obtain ⟨dd, h1, h2⟩ := bind1_some (show ((vm (ev C e env)).bind fun d => (evs C es env).bind fun ds => some (d :: ds)) = some ds from he)
    obtain ⟨dr, h3, h4⟩ := bind1_some h2
    cases h4
    exact sa_val e0 R h1 ha fun B1 H1 v s1 r1 => ⟨e0, B0, H0, B1, env, o, dr, R.step s1, h3, fun B2 H2 vs s2 r2 => q B2 H2 (v :: vs) (s1.trans s2) (reps_cons (Rep.mono s2.bb _ _ r1) r2), ha.mono s1.bb s1.hh⟩
theorem seA_tup {es : Es} {xs : List Expr} {kk : Nat} (h : PA X xs (tAA C X.K i a ar d es)) : PE X (.Tuple xs kk pos) (tEA C X.K i a ar d (.tup es)) := imp_e (pe_tup h) fun σ H Q ⟨e0, B0, H0, B, env, o, dd, k, R, he, q, ha⟩ => by
  obtain ⟨ds, h1, h2⟩ := bind1_some (show ((evs C es env).bind fun ds => if ds.length ≤ L then some ((.tup ds, .frz) : D × Kd) else none) = some (dd, k) from he)
  obtain ⟨hz, h3⟩ := if_some h2
  cases h3
  refine ⟨e0, B0, H0, B, env, o, ds, R, h1, fun B' H' vs s r => ⟨by rw [r.length]; exact sizeL hz, fun p hp => ?_⟩, ha⟩
  exact q _ _ _ [] (s.trans (Step.new s.bh hp)) ⟨rfl, tup_rep upd_same (Reps.mono (Ext.new (s.bh.back hp)) _ _ r)⟩ FrF.nil
/-- a plain expression in such a suite -/
theorem seA_of {e : E} {x : Expr} (h : SE C X e x) : PE X x (tEA C X.K i a ar d e) := imp_e h fun σ H Q ⟨e0, B0, H0, B, env, o, dd, k, R, he, q, ha⟩ => ⟨B0, H0, B, env, o, dd, k, R, he, q⟩
end
end Hg
end

section
set_option Elab.async false
set_option maxRecDepth 100000
set_option maxHeartbeats 1000000
/-! Snd37: a list comprehension whose step raises. -/
namespace Hg
open PySem PySem.Spec PyProof.Rows L2
/-- the end of a comprehension's run: told, or raised out of this frame -/
def cpX (M : Model) (A : Around) (E : Value → Shared → Prop) (R : Value → Shared → Prop) (lst : Value) (C : Addr) (fr : Option Addr) (r : Result) (t : Shared) : Prop :=
  match r with
  | .ok _ => ∃ m, t.heap.Ns C m ∧ ∀ g, Heap.SameBut C t.heap g → R lst { t with heap := g }
  | .error x => ∃ m, t.heap.Ns C m ∧ ∀ g, Heap.SameBut C t.heap g → ∀ ce : PySem.Env, ce.locals = C → ce.frame = fr → wpAny M A (PySem.passOn "comprehension.variables-let-go" x ce : Sem Value) (fun _ _ => False) E { t with heap := g }
theorem comp_runX {M : Model} {A : Around} {E : Value → Shared → Prop} {s : Shared} {env : PySem.Env} {e : Expr} {sc : Scope} {pos : Pos} {mk first : Sem Value} {g : Comprehension} {gs : List Comprehension} {cl : List (Str × Addr)} {R : Value → Shared → Prop}
    (h1 : clausesOf e = g :: gs) (h2 : ∀ x, foldedSetIterable g.iter env x = pure x) (h3 : closureFor sc env = pure cl) (h4 : sc.kind = .function) (h5 : ∀ x ∈ sc.names, x.2 = .local → sc.names.lookup x.1 = some .local)
    (h : wpAny M A first (fun x t1 => wpAny M A (pyIter x) (fun it t2 => wpAny M A mk (fun l t3 => wpAny M A (newFunctionEnv sc env.globals cl [] env.qual none .none (some env)) (fun ce t4 =>
      codeAny M A (.compStart e 0 it l { ce with scope := relabel sc env }) (cpX M A E R l ce.locals ce.frame) t4) E t3) E t2) E t1) E s) : wpAny M A (comprehension e sc env pos mk false first none) R E s := by
  unfold comprehension
  rw [h3, h1]
  refine wpAny_bind (wpAny_mono h (fun x t1 q1 => wpAny_bind (wpAny_standAt (wpAny_bind (wpAny_of_eq (h2 x) (wpAny_bind (wpAny_holding (wpAny_mono q1 (fun it t2 q2 => wpAny_standIf (wpAny_bind
    (wpAny_mono q2 (fun l t3 q3 => wpAny_bind (wpAny_pure (wpAny_bind (wpAny_mono q3 (fun ce t4 q4 => ?_) fun _ _ z => z)))) fun _ _ z => z))) fun _ _ z => z))))))) fun _ _ z => z)
  dsimp only
  have own : ∀ y ∈ (sc.names.filter fun y => (y.2 == .local || y.2 == .cell) && y.1 != (".0" : Str)).reverse, y.2 = .local → PySem.Env.kindOf { ce with scope := relabel sc env } y.1 = some .local :=
    fun y hy hl => lookup_relabel_local (h5 y (List.mem_filter.mp (List.mem_reverse.mp hy)).1 hl)
  refine wpAny_holding (wpAny_bind (wpAny_attempt (wpAny_holding (wpAny_run (codeAny_mono q4 fun r t hr => ?_)))))
  cases r with
  | ok f =>
    obtain ⟨m, hn, hr⟩ := hr
    exact wpAny_bind (wpAny_holding (wpAny_comp_letGo (cenv := { ce with scope := relabel sc env }) h4 _ t m own hn fun g _ _ hg => wpAny_pure (hr g hg)))
  | error x =>
    obtain ⟨m, hn, hr⟩ := hr
    exact wpAny_bind (wpAny_holding (wpAny_comp_letGo (cenv := { ce with scope := relabel sc env }) h4 _ t m own hn fun g _ _ hg => wpAny_mono (hr g hg _ rfl rfl) (fun _ _ z => z.elim) fun _ _ z => z))
/-! ### an exception leaves the block -/
theorem note_fr {e : Value} {env env' : PySem.Env} (h : env.frame = env'.frame) : noteFrame e env = noteFrame e env' := by
  unfold noteFrame PySem.frameOf
  simp only [h]
section
variable {M : Model} {A : Around} {E : Value → Shared → Prop} {s : Shared} {env : PySem.Env} {outer : List PySem.Env} {L C e : Addr} {B : Heap} {Z : Obj → Prop} {Q : Unit → Shared → Prop}
theorem note_held (hZ : HandSPX.Steady Z) (hfr : A.frames = some (env :: outer)) (hf : env.frame = some L) (hne : C ≠ L) (hh : HandSPX.HeldZ B (env :: outer) e Z C s.heap)
    (hQ : ∀ g, HandSPX.HeldZ B (env :: outer) e Z L g → s.heap.UpToSlots g → Q () { s with heap := g }) : wpAny M A (noteFrame (.ref e) env) Q E s := by
  obtain ⟨st, en, ff, oe, vs, T, oT, ts, ge, gz, gd, g1, nT, Te, gT, gdT, g3⟩ := hh
  unfold noteFrame
  simp only [hf]
  refine wpAny_bind (wpAny_field ge gd g1 ?_)
  rw [if_pos (show (Value.ref T != Value.none) = true from by simp)]
  refine wpAny_bind (wpAny_field gT gdT g3 ?_)
  rw [if_neg (show ¬ ((rawInt C == rawInt L) = true) from fun z => hne (Int.ofNat_inj.mp (by simpa [rawInt] using z)))]
  refine wpAny_bind (wpAny_setField gT gdT (Array.getElem?_eq_some_iff.mp g3).1 ?_)
  have oth : ∀ b, b ≠ T → (s.heap.update T (Obj.mapFields (·.setIfInBounds 3 Value.none))).get? b = s.heap.get? b := fun b nb => Heap.get?_update_other _ _ (Ne.symm nb)
  have noT : ∀ b o, s.heap.get? b = some o → (∀ vs, o.data ≠ .fields vs) → b ≠ T := fun b o gb nf q => by
    rw [q, gT] at gb
    cases gb
    exact nf ts gdT
  refine HandSPX.wpAny_entryZ hZ hfr (ff.of_keeps fun b o gb nf => ⟨o, (oth b (noT b o gb nf)).trans gb, rfl⟩) hf ((oth e (Ne.symm Te)).trans ge)
    (fun b o gb => (oth b fun q => by rw [q, nT] at gb; cases gb).trans (st b o gb)) en gd (Array.getElem?_eq_some_iff.mp g1).1 gz fun g hN => ?_
  obtain ⟨x1, x2, x3, x4⟩ := hN
  exact hQ g ⟨x1, en, x2, x3⟩ fun b o gb nf => x4 b o ((oth b (noT b o gb nf)).trans gb) nf
theorem note_sky (hZ : HandSPX.Steady Z) (hfr : A.frames = some (env :: outer)) (hf : env.frame = some L) (hne : C ≠ L) (hh : Sky B (env :: outer) e Z C s.heap)
    (hQ : ∀ g, HandSPX.HeldZ B (env :: outer) e Z L g → s.heap.UpToSlots g → Q () { s with heap := g }) : wpAny M A (noteFrame (.ref e) env) Q E s := by
  rcases hh with ⟨k1, k2, k3, oe, vs, k4, k5, k6, k7⟩ | hh | hh
  · exact HandSPX.look_newZ hZ hfr k3 hf k4 k1 k2 k6 k7 k5 hQ
  · exact HandSPX.looks_onZ hZ hfr hf hh hQ
  · exact note_held hZ hfr hf hne hh hQ
end
theorem funFr_but {C : Addr} {oC : Obj} {h g B : Heap} (hB : B.get? C = some oC) (hg : ∀ b, b ≠ C → g.get? b = h.get? b) : ∀ {l : List PySem.Env}, h.FunFrames B l → g.FunFrames (PySem.W.hideAll B [C]) l
  | [], _ => trivial
  | env :: l, ⟨k1, ⟨L, o, k2, k3, k4, k5⟩, k6⟩ => by
    have ne : L ≠ C := fun z => by rw [z, hB] at k3; cases k3
    refine ⟨k1, ⟨L, o, k2, ?_, (hg L ne).trans k4, k5⟩, funFr_but hB hg k6⟩
    cases q : (PySem.W.hideAll B [C]).get? L with
    | none => rfl
    | some o' => rw [PySem.W.of_hideAll _ q] at k3; cases k3
theorem hide_none {C b : Addr} {B : Heap} (h : B.get? b = none) : (PySem.W.hideAll B [C]).get? b = none := by
  cases q : (PySem.W.hideAll B [C]).get? b with
  | none => rfl
  | some o' => rw [PySem.W.of_hideAll _ q] at h; cases h
theorem hide_ne {C b : Addr} {o : Obj} {B : Heap} (h : (PySem.W.hideAll B [C]).get? b = some o) : b ≠ C ∧ B.get? b = some o :=
  ⟨fun z => (by rw [z, PySem.W.hideAll_none [C] (by simp)] at h; cases h), PySem.W.of_hideAll _ h⟩
theorem held_but {C a L : Addr} {oC : Obj} {h g B : Heap} {l : List PySem.Env} {Z : Obj → Prop} (hB : B.get? C = some oC) (hg : ∀ b, b ≠ C → g.get? b = h.get? b) (hh : HandSPX.HeldZ B l a Z L h) : HandSPX.HeldZ (PySem.W.hideAll B [C]) l a Z L g := by
  obtain ⟨st, en, ff, oe, vs, T, oT, ts, ge, gz, gd, g1, nT, Te, gT, gdT, g3⟩ := hh
  have na : a ≠ C := fun z => by rw [z, hB] at en; cases en
  have nTC : T ≠ C := fun z => by rw [z, hB] at nT; cases nT
  exact ⟨fun b o gb => (hg b (hide_ne gb).1).trans (st b o (hide_ne gb).2), hide_none en, funFr_but hB hg ff, oe, vs, T, oT, ts, (hg a na).trans ge, gz, gd, g1, hide_none nT, Te, (hg T nTC).trans gT, gdT, g3⟩
/-- the block's context, what is raised going to E -/
abbrev blkX (X : Cx) (s : Shared) (H : Hp) (sc : Scope) (ce : PySem.Env) (fp : List Addr) (E : Value → Shared → Prop) : Cx := { X.blk s H sc ce fp with xe := E }
theorem comp_err {X : Cx} {W : WX} {pins : List (Addr × Obj)} {σ : L2.St} {H3 : Hp} {s3 : Shared} {sc : Scope} {ce : PySem.Env} {fp : List Addr} {E0 : Value → Shared → Prop} {R : Value → Shared → Prop} {D : Value} (hst : X.stack = X.env :: X.outer) (hf : X.env.frame = some X.env.locals) (tk : Takes X W)
    (I3 : Inv X pins σ H3 s3) (hfp : ∀ b ∈ fp, FpOk X pins H3 b) (hcl : ce.locals = s3.heap.objs.size) (hcf : ce.frame = X.env.frame) {u : Value} {t : Shared} (x : XE (blkX X s3 H3 sc ce fp E0) (fun cls d _ H' => W cls d σ H') u t) :
    notedBy (model X.prog X.w) X.A ce (fun e t' => cpX (model X.prog X.w) X.A X.xe R D s3.heap.objs.size X.env.frame (.error e) t') u t := by
  obtain ⟨a, B, sI, pins', σ', H', cls, d, rfl, I6, nb, up, sky, na, os, ag, w⟩ := x
  have I7 : Inv X pins σ H' sI := I3.call' (ch := fp) I6.os I6.base I6.hok I6.bare fun b hb => ⟨(hfp b hb).2.2.2.1, (hfp b hb).2.1, (hfp b hb).2.2.2.2.1, (hfp b hb).2.2.2.2.2⟩
  have nC : H' s3.heap.objs.size = none := by
    have z : H' ce.locals = none := I6.free
    rw [hcl] at z
    exact z
  obtain ⟨m, hn, _⟩ := I6.loc
  have hn : sI.heap.Ns ce.locals m := hn
  rw [hcl] at hn
  have fC : FpOk X pins H' s3.heap.objs.size := I3.fpOk (Nat.le_refl _) nC
  have hfr : X.A.frames = some (X.env :: X.outer) := by rw [I3.ok.frames, hst]
  have sky' : Sky B (X.env :: X.outer) a (Zc cls d) s3.heap.objs.size t.heap := by
    have z : Sky B X.stack a (Zc cls d) ce.locals t.heap := sky
    rw [hcl, hst] at z
    exact z
  unfold notedBy
  rw [note_fr hcf]
  refine note_sky Zc.steady hfr hf fC.2.1 sky' fun h1 held up1 => ?_
  refine ⟨m, (up.trans up1).ns hn, fun h2 sb ce' e1 e2 => ?_⟩
  obtain ⟨oC, es, ep, hoC, _⟩ := id hn
  have nstk : s3.heap.objs.size ∉ frs X.stack := fun hm => (List.mem_cons.mp (I3.stkSub _ hm)).elim fC.2.1 fC.2.2.1
  have hB := nb _ _ hoC nstk
  have held2 := held_but hB sb.2 held
  have upI : (PySem.W.hideAll sI.heap [s3.heap.objs.size]).UpToSlots h2 := fun b o gb nf => by
    obtain ⟨n1, n2⟩ := hide_ne gb
    obtain ⟨sl, g1⟩ := (up.trans up1) b o n2 nf
    exact ⟨sl, (sb.2 b n1).trans g1⟩
  obtain ⟨st, en, ff, oe, vs, T, oT, ts, ge, gz, gd, g1, nT, Te, gT, gdT, g3⟩ := id held2
  unfold PySem.passOn
  refine wpAny_bind (wpAny_field ge gd g1 ?_)
  rw [if_neg (show ¬ ((Value.ref T == Value.none) = true) from by simp)]
  have fin : wpAny (model X.prog X.w) X.A (setFlight (.ref a) ce'.frame) (fun _ t4 => wpAny (model X.prog X.w) X.A (throw (.ref a) : Sem Value) (fun _ _ => False) X.xe t4) X.xe { t with heap := h2 } := by
    rw [e2, hf]
    refine HandSPX.setFlight_onZ held2 fun h4 hh4 up4 => wpAny_throw (tk _ _ ?_)
    refine ⟨a, PySem.W.hideAll B [s3.heap.objs.size], { sI with heap := PySem.W.hideAll sI.heap [s3.heap.objs.size] }, pins, σ, H', cls, d, rfl, ?_, fun b o gb nf => ?_, upI.trans up4, .inr (.inr (by rw [hst]; exact hh4)), na, os, ag, w⟩
    · obtain ⟨f0, f1, f2, f3, f4, f5⟩ := fC
      exact I7.turned (t' := sI.toks) (fun b o nbC gb => PySem.W.hideAll_get _ gb (by simpa using nbC)) f0 f1 f3 f4 f5
    · obtain ⟨n1, n2⟩ := hide_ne gb
      exact PySem.W.hideAll_get _ (nb b o n2 nf) (by simpa using n1)
  first
    | exact wpAny_bind (wpAny_pure (wpAny_bind fin))
    | exact wpAny_bind fin
end Hg
end

section
set_option Elab.async false
set_option maxRecDepth 100000
set_option maxHeartbeats 2000000
/-! Snd38: [e for x in xs], e may raise. -/
namespace Hg
open PySem PySem.Spec PyProof.Rows L2
theorem pe_lcX {X : Cx} {W : WX} {elt tg iter : Expr} {sc : Scope} {own : List (Str × Nat)} {pos : Pos} {wi : TI} {g : TG} {teF : WX → TE} (hc : X.calm = true) (hN : X.N.Nodup) (hst : X.stack = X.env :: X.outer) (hf : X.env.frame = some X.env.locals) (tk : Takes X W)
    (hi : PI X tg iter wi) (ok : BlkOk X.N X.env.scope sc own) (hg : ∀ (s : Shared) (H : Hp) (C : Addr) (cl : List (Str × Addr)) (fp : List Addr), PG (X.blk s H sc (compEnvC sc cl C X.env) fp) tg g)
    (he : ∀ (s : Shared) (H : Hp) (C : Addr) (cl : List (Str × Addr)) (fp : List Addr) (E : Value → Shared → Prop) (WB : WX), Takes (blkX X s H sc (compEnvC sc cl C X.env) fp E) WB → PE (blkX X s H sc (compEnvC sc cl C X.env) fp E) elt (teF WB))
    (hs : ∀ x, foldedSetIterable iter X.env x = pure x := by intro _; rfl) :
    PE X (.ListComp elt [⟨tg, iter, [], 0⟩] sc pos) (fun σ H Q => tLc wi g tYes (teF fun cls d _ H' => W cls d σ H') (own.map (·.2)) σ H Q) := by
  refine ⟨fun pins s σ H Q I h => ?_⟩
  rw [eval_ListComp]
  have hfree : ∀ y ∈ sc.names, y.2 = .free → ∃ c, X.env.cells.lookup y.1 = some c := fun y hy ey =>
    (ok.free y hy ey).elim (fun k => I.ok.has _ (.inl k)) fun k => I.ok.has _ (.inr k)
  refine comp_runX rfl hs (closure_ok hfree) ok.kind (fun y hy ey => by rw [ok.uniq y hy, ey]) (thn (hi.run pins s σ H _ I h) fun xv t1 hx => thn hx fun itv t2 h2 => ?_)
  obtain ⟨it, fp, tn, J, H2, ei, I2, T, st2, f2, q⟩ := h2
  subst ei
  refine wpAny_newObj_type (newEnv_comp ?_) (by show 0 ≤ sizeLine; decide)
  generalize hD : t2.heap.objs.size = D
  obtain ⟨WW, ⟨m0, w0⟩, turn⟩ := q D (I2.hok.fresh (Nat.le_of_eq hD))
  generalize ht3 : ({ t2 with heap := t2.heap.push { cls := .type "list", data := .seq ([] : List Value).toArray } } : Shared) = t3
  have I3 : Inv X pins σ (upd H2 D (.lst [])) t3 := by
    rw [← ht3]
    refine I2.laid (t' := t2.toks) (fun b o gb => Heap.get?_push_of_some _ gb) (Nat.le_of_eq hD) ⟨Nat.zero_le _, [], 0, .nil, ?_⟩
    rw [← hD]
    exact Heap.get?_push_size _ rfl
  have hp3 : t3.heap = t2.heap.push { cls := .type "list", data := .seq ([] : List Value).toArray } := by rw [← ht3]
  have f3 : ∀ b ∈ fp, FpOk X pins (upd H2 D (.lst [])) b ∧ b < t3.heap.objs.size := fun b hb => by
    have hlt : b < t2.heap.objs.size := by
      obtain ⟨o, gb, _⟩ := T.obj _ _ st2 b hb
      exact Heap.lt_size gb
    refine ⟨⟨?_, (f2 b hb).2⟩, by rw [hp3, Heap.size_push]; exact Nat.lt_succ_of_lt hlt⟩
    rw [upd_ne (by rw [← hD]; exact Nat.ne_of_lt hlt)]
    exact (f2 b hb).1
  have st3 : tn 0 t3.heap := T.keep _ _ _ st2 fun b _ o gb => by rw [hp3]; exact Heap.get?_push_of_some _ gb
  have I4 := block_start I3 ok hN f3
  have pg := hg t3 (upd H2 D (.lst [])) t3.heap.objs.size (cellsFrom (t3.heap.objs.size + 1) sc.names (cloFrom X.env.cells sc.names [])) fp
  have pe := he t3 (upd H2 D (.lst [])) t3.heap.objs.size (cellsFrom (t3.heap.objs.size + 1) sc.names (cloFrom X.env.cells sc.names [])) fp
  show codeAny _ _ (.compStart (.ListComp elt [⟨tg, iter, [], 0⟩] sc pos) 0 (.ref it) (.ref D) (compEnvC sc (cellsFrom (t3.heap.objs.size + 1) sc.names (cloFrom X.env.cells sc.names [])) t3.heap.objs.size X.env)) (cpX (model X.prog X.w) X.A X.xe (fun v t => EP X pins σ Q v t) (.ref D) t3.heap.objs.size X.env.frame) { t3 with heap := pushCells (t3.heap.push { cls := .type "dict", data := .dict #[] }) sc.names }
  have nfp : ∀ b ∈ fp, (upd H2 D (.lst [])) b = none := fun b hb => (f3 b hb).1.1
  generalize hce : compEnvC sc (cellsFrom (t3.heap.objs.size + 1) sc.names (cloFrom X.env.cells sc.names [])) t3.heap.objs.size X.env = ce at I4 pg pe ⊢
  have cL : ce.locals = t3.heap.objs.size := by subst hce; rfl
  have cF : ce.frame = X.env.frame := by subst hce; rfl
  generalize hH3 : upd H2 D (.lst []) = H3 at I3 I4 pg pe w0 nfp f3
  generalize ht4 : ({ t3 with heap := pushCells (t3.heap.push { cls := .type "dict", data := .dict #[] }) sc.names } : Shared) = t4 at I4 ⊢
  have st4 : tn 0 t4.heap := T.keep _ _ _ st3 fun b _ o gb => by rw [← ht4]; exact pushCells_keeps _ _ _ _ (Heap.get?_push_of_some _ gb)
  have stat : ∀ {σ' : L2.St} {H' : Hp} {t' : Shared}, Inv (X.blk t3 H3 sc ce fp) [] σ' H' t' → (∀ b ∈ fp, H' b = none) → ∀ b ∈ fp, FpOk (X.blk t3 H3 sc ce fp) [] H' b := fun {σ' H' t'} I' hn b hb =>
    ⟨hn b hb, (I'.ok.exf b hb).1, I'.ok.exfs b hb, .inl hb, fun x c z => (I'.ok.exf b hb).2 x c z, fun p hp => absurd (show p ∈ ([] : List (Addr × Obj)) ++ [] from hp) (by simp)⟩
  have loop : codeAny (model X.prog X.w) X.A (.compLoop (.ListComp elt [⟨tg, iter, [], 0⟩] sc pos) 0 (.ref it) (.ref D) ce) (cpX (model X.prog X.w) X.A X.xe (fun v t => EP X pins σ Q v t) (.ref D) t3.heap.objs.size X.env.frame) t4 := by
    refine compLoop_any (fun n t' => ∃ i H', Inv (X.blk t3 H3 sc ce fp) [] (wipe σ (own.map (·.2))) H' t' ∧ tn i t'.heap ∧ (∀ b ∈ fp, H' b = none) ∧ WW i n H') ?_ m0 ⟨0, H3, I4, st4, nfp, w0⟩
    rintro n t5 ⟨i, H5, I5, st5, n5, w5⟩
    rcases turn i n H5 w5 with ⟨stop, qq⟩ | ⟨go, Nx, hNx, step⟩
    · refine thnF (T.done (X.blk t3 H3 sc ce fp) rfl rfl rfl hc i [] t5 _ H5 (fun _ _ => False) I5 (stat I5 n5) st5 stop) fun r t6 ⟨hr, I6⟩ => ?_
      subst hr
      have I7 : Inv X pins σ H5 t6 := I3.call' (ch := fp) I6.os I6.base I6.hok I6.bare fun b hb => ⟨(f3 b hb).1.2.2.2.1, (f3 b hb).1.2.1, (f3 b hb).1.2.2.2.2.1, (f3 b hb).1.2.2.2.2.2⟩
      have nC : H5 t3.heap.objs.size = none := by
        have z : H5 ce.locals = none := I6.free
        rw [cL] at z
        exact z
      obtain ⟨m, hn, _⟩ := I6.loc
      have hn : t6.heap.Ns ce.locals m := hn
      rw [cL] at hn
      refine ⟨m, hn, fun h'' sb => ?_⟩
      obtain ⟨f0, f1, f2', f3', f4, f5⟩ := I3.fpOk (H' := H5) (Nat.le_refl t3.heap.objs.size) nC
      exact ⟨.ref D, H5, I7.turned (t' := t6.toks) (fun b o nb gb => (sb.2 b nb).trans gb) f0 f1 f3' f4 f5, rfl, qq⟩
    · refine thnF (T.item (X.blk t3 H3 sc ce fp) rfl rfl rfl hc i [] t5 _ H5 (fun _ _ => False) I5 (stat I5 n5) st5 go) fun r t6 ⟨u, hr, h6⟩ => ?_
      subst hr
      refine thnF h6 fun _ t7 ⟨x, H7, I7, r7, y7, st7, n7⟩ => ?_
      have I7' := I7.pinned (stat I7 n7) (T.obj _ _ st7)
      refine thnF (pg.run _ t7 _ H7 x u _ I7' r7 (step x H7 y7)) fun _ t8 ⟨σ8, H8, I8, hw8, q8⟩ => ?_
      refine wpAny_tests_nil ?_
      have q9 : teF (fun cls d _ H' => W cls d σ H') σ8 H8 fun y H4 => ∃ acc, H4 D = some (.lst acc) ∧ acc.length < sizeLine ∧ Nx (upd H4 D (.lst (acc ++ [y]))) := q8
      have fin : ∀ {t' : Shared} {H' : Hp}, Inv (X.blk t3 H3 sc ce fp) ([] ++ pinsAt fp t7.heap) σ8 H' t' → Nx H' → ∃ m, m < n ∧ ∃ i H', Inv (X.blk t3 H3 sc ce fp) [] (wipe σ (own.map (·.2))) H' t' ∧ tn i t'.heap ∧ (∀ b ∈ fp, H' b = none) ∧ WW i m H' := fun {t' H'} I' nx => by
        obtain ⟨m', hm, w'⟩ := hNx H' nx
        have pin' : ∀ b ∈ fp, ∀ o, t7.heap.get? b = some o → t'.heap.get? b = some o ∧ H' b = none := fun b hb o gb =>
          let z := I'.pin (b, o) (List.mem_append_right _ (List.mem_append_right _ (mem_pinsAt hb gb)))
          ⟨z.1, z.2.1⟩
        have hl : (wipe σ (own.map (·.2))).length = σ8.length := by rw [← hw8, wipe_length]
        refine ⟨m', hm, i + 1, H', (I'.unpinned (pins := [])).weak hl (fun j v z => ?_), T.keep _ _ _ st7 fun b hb o gb => (pin' b hb o gb).1, fun b hb => ?_, w'⟩
        · rw [← hw8] at z
          exact (wipe_some z).1
        · obtain ⟨o, gb, _⟩ := T.obj _ _ st7 b hb
          exact (pin' b hb o gb).2
      simp only [if_true]
      have tkB : Takes (blkX X t3 H3 sc ce fp (notedBy (model X.prog X.w) X.A ce fun e' t' => cpX (model X.prog X.w) X.A X.xe (fun v t => EP X pins σ Q v t) (.ref D) t3.heap.objs.size X.env.frame (.error e') t')) (fun cls d _ H' => W cls d σ H') :=
        fun u t x => comp_err hst hf tk I3 (fun b hb => (f3 b hb).1) cL cF x
      have I8' : Inv (blkX X t3 H3 sc ce fp (notedBy (model X.prog X.w) X.A ce fun e' t' => cpX (model X.prog X.w) X.A X.xe (fun v t => EP X pins σ Q v t) (.ref D) t3.heap.objs.size X.env.frame (.error e') t')) ([] ++ pinsAt fp t7.heap) σ8 H8 t8 := Inv.wish I8 _
      refine thn ((pe _ _ tkB).run _ t8 σ8 H8 _ I8' q9) fun z t10 ⟨yv, H10, I10, r10, acc, hD10, hz10, nx⟩ => ?_
      have I10' : Inv (X.blk t3 H3 sc ce fp) ([] ++ pinsAt fp t7.heap) σ8 H10 t10 := Inv.wish I10 _
      exact app_ok (X := X.blk t3 H3 sc ce fp) I10' hD10 hz10 r10 fun t11 I11 => fin I11 nx
  exact codeAny_compStart_list loop (T.self X.A 0 _ _ _ st4 loop)
variable [TB : Tabl]
theorem compX_cons {f : D → Option RV} {d : D} {ds : List D} {r : Sum (List D) Ex} (h : compX f (d :: ds) = some r) : (∃ x, f d = some (.ex x) ∧ r = .inr x) ∨ ∃ d' r', f d = some (.ok d') ∧ compX f ds = some r' ∧ r = match r' with | .inl ds => .inl (d' :: ds) | .inr x => .inr x := by
  obtain ⟨rv, h1, h2⟩ := bind1_some (show ((f d).bind fun r => match r with
    | .ex e => some (.inr e)
    | .ok d => (compX f ds).map fun r => match r with | .inl ds => .inl (d :: ds) | .inr e => .inr e) = some r from h)
  cases rv with
  | ex x => cases h2; exact .inl ⟨x, h1, rfl⟩
  | ok d' =>
    have h3 : (compX f ds).map (fun r => match r with | .inl ds => Sum.inl (d' :: ds) | .inr e => .inr e) = some r := h2
    rw [Option.map_eq_some_iff] at h3
    obtain ⟨r', h4, h5⟩ := h3
    exact .inr ⟨d', r', h1, h4, h5.symm⟩
section
variable {C : Nat → List D → Option D} {CR : Nat → List D → Option RV} {cv : Nat → Value} {X : Cx} {elt : EX} {ex tgx iter : Expr} {tg : Tg} {it : Hg.It} {pos : Pos} {scope : Scope} {W : WX}
theorem lc_bodyX {B0 H0 B H : Hp} {env : Hg.Env} {σ : L2.St} {o : Addr → Option Nat} {Q : VK} {xs : List D} {r0 : Sum (List D) Ex} (R : Rel X.K B0 H0 B env σ H o)
    (h3 : compX (fun d => (bindT tg d (unset tg.slots env)).bind fun e1 => evX C CR elt e1) xs = some r0) (hl : xs.length < L)
    (q1 : ∀ ds, r0 = .inl ds → ∀ B' H' v, Step B H B' H' → Rep X.K B' (.lst ds) v → Q v H') (q2 : ∀ x, r0 = .inr x → ∀ B' H' dd, Step B H B' H' → ArgOk X.K B' H' x.arg dd → W (cv x.cls) dd σ H')
    {B1 H1 : Hp} {J : L2.It} {Gh : Hp} (s1 : Step B H B1 H1) (eG : Ext Gh H1) (hJ : ItOk X.K B1 Gh xs J) : tLc (fun _ H R => R J H) (tG X.K tg) tYes (tEX C CR X.K cv (fun cls d _ H' => W cls d σ H') elt) tg.slots σ H1 Q := by
  show ∀ D, H1 D = none → _
  intro Dl hD
  refine ⟨fun i m Hc => ∃ Bc ds0 rest acc, Step B1 H1 Bc Hc ∧ Bc Dl = none ∧ Hc Dl = some (.lst acc) ∧ m = xs.length - i ∧ i ≤ xs.length ∧ ds0.length = i ∧
    compX (fun d => (bindT tg d (unset tg.slots env)).bind fun e1 => evX C CR elt e1) (xs.drop i) = some rest ∧ (r0 = match rest with | .inl ds => .inl (ds0 ++ ds) | .inr x => .inr x) ∧ Reps X.K Bc ds0 acc,
    ⟨xs.length, B1, [], r0, [], Step.own s1.bh hD, s1.bh.back hD, upd_same, by omega, Nat.zero_le _, rfl, h3, by cases r0 <;> rfl, reps_nil⟩, ?_⟩
  rintro i m Hc ⟨Bc, ds0, rest, acc, sc, hb, hh, rfl, hi, hd0, hrest, hr0, hacc⟩
  have eGc : Ext Gh Hc := eG.trans sc.hh
  by_cases hlt : i < xs.length
  · refine .inr ⟨hJ.go i Hc hlt eGc, _, fun H' hN => ⟨xs.length - (i + 1), by omega, hN⟩, fun x H' hy => ?_⟩
    have hxi : xs[i]? = some xs[i] := List.getElem?_eq_getElem hlt
    obtain ⟨Bn, sn, rn⟩ := hJ.yl i Hc x H' Bc xs[i] hxi sc.bb sc.bh eGc hy
    rw [List.drop_eq_getElem_cons hlt] at hrest
    have Rw := ((R.wiped tg.slots).step s1).step (sc.trans sn)
    have key : ∃ env1 rv, bindT tg xs[i] (unset tg.slots env) = some env1 ∧ evX C CR elt env1 = some rv ∧ ((∃ y, rv = .ex y ∧ rest = .inr y) ∨ ∃ d' r', rv = .ok d' ∧ compX (fun d => (bindT tg d (unset tg.slots env)).bind fun e1 => evX C CR elt e1) (xs.drop (i + 1)) = some r' ∧ rest = match r' with | .inl ds => .inl (d' :: ds) | .inr x => .inr x) := by
      rcases compX_cons hrest with ⟨y, h1, h2⟩ | ⟨d', r', h1, h2, h4⟩
      · obtain ⟨env1, h5, h6⟩ := bind1_some h1
        exact ⟨env1, _, h5, h6, .inl ⟨y, rfl, h2⟩⟩
      · obtain ⟨env1, h5, h6⟩ := bind1_some h1
        exact ⟨env1, _, h5, h6, .inr ⟨d', r', rfl, h2, h4⟩⟩
    obtain ⟨env1, rv, h9, h10, h11⟩ := key
    refine ⟨B0, H0, Bn, unset tg.slots env, o, xs[i], env1, Rw, rn, h9, fun σ2 o2 R2 hk => ⟨wipe_kept hk, ?_⟩⟩
    show tEX C CR X.K cv (fun cls d _ H' => W cls d σ H') elt σ2 H' _
    have sB := sc.trans sn
    have hb3 : Bn Dl = none := sn.none hb (by rw [hh]; exact fun z => nomatch z)
    have hh3 : H' Dl = some (.lst acc) := sn.hh.at hh nt_lst
    refine ⟨B0, H0, Bn, env1, o2, rv, R2, h10, ?_⟩
    rcases h11 with ⟨y, rfl, rfl⟩ | ⟨d', r', rfl, h12, rfl⟩
    · exact fun B4 H4 dd s4 a4 => q2 y hr0 B4 H4 dd ((s1.trans sB).trans s4) a4
    · intro B4 H4 v s4 r4
      have hh4 : H4 Dl = some (.lst acc) := s4.hh.at hh3 nt_lst
      have hb4 : B4 Dl = none := s4.none hb3 (by rw [hh3]; exact fun z => nomatch z)
      refine ⟨acc, hh4, ?_, ?_⟩
      · rw [hacc.length, hd0]
        exact Nat.lt_of_le_of_lt (Nat.le_of_lt hlt) (sizeLt hl)
      · refine ⟨B4, ds0 ++ [d'], r', acc ++ [v], ⟨(sB.trans s4).bb, (sB.trans s4).hh.upd hD (fun q => by rw [hh4]; exact code_lst), (sB.trans s4).bh.upd hb4 (fun q => by rw [hh4]; exact code_lst), (sB.trans s4).nw⟩, hb4, upd_same, rfl, hlt, ?_, h12, ?_, ?_⟩
        · rw [List.length_append, hd0]; rfl
        · rw [hr0]
          cases r' with
          | inl ds => simp
          | inr x => rfl
        · exact (Reps.mono ((sn.trans s4).bb) _ _ hacc).append (reps_cons r4 reps_nil)
  · have hie : i = xs.length := by omega
    refine .inl ⟨hJ.st i Hc hie eGc, ?_⟩
    rw [hie, List.drop_length] at hrest
    cases hrest
    have hDH : H Dl = none := s1.hh.back hD
    have f : FrF H Bc [Dl] := FrF.one hDH hb
    have hr1 : r0 = .inl ds0 := by
      have : r0 = .inl (ds0 ++ []) := hr0
      rw [List.append_nil] at this
      exact this
    refine q1 ds0 hr1 _ Hc (.ref Dl) ((s1.trans sc).give f) ?_
    exact lst_rep (SqL.of ((joinH_in (by simp)).trans hh)) (Reps.mono (joinH_b f.b) _ _ hacc)
/-- [e for x in xs]: e may raise -/
theorem sx_comp (G : Gd X) (own : List (Str × Nat)) (hi : SI C X tgx it iter) (hg : ∀ (s : Shared) (H : Hp) (Cl : Addr) (cl : List (Str × Addr)) (fp : List Addr), SG (X.blk s H scope (compEnvC scope cl Cl X.env) fp) tg tgx)
    (he : ∀ (s : Shared) (H : Hp) (Cl : Addr) (cl : List (Str × Addr)) (fp : List Addr) (E : Value → Shared → Prop), SEX C CR cv (blkX X s H scope (compEnvC scope cl Cl X.env) fp E) elt ex)
    (ok : BlkOk X.N X.env.scope scope own := by exact blkOk_by (by kernel_rfl)) (hown : own.map (·.2) = tg.slots := by rfl) (hs : ∀ x, foldedSetIterable iter X.env x = pure x := by intro _; rfl) (hst : X.stack = X.env :: X.outer := by rfl) (hf : X.env.frame = some X.env.locals := by rfl) :
    SEX C CR cv X (.comp elt tg it) (.ListComp ex [⟨tgx, iter, [], 0⟩] scope pos) := fun W tk =>
  imp_e (pe_lcX (teF := fun WB => tEX C CR X.K cv WB elt) G.calm G.nd hst hf tk hi ok hg (fun s H Cl cl fp E WB tb => he s H Cl cl fp E WB tb) hs) fun σ H Q ⟨B0, H0, B, env, o, r, R, hev, q⟩ => by
  rw [hown]
  obtain ⟨⟨xs, ow⟩, h1, h2⟩ := bind1_some (show ((evI C it (unset tg.slots env)).bind fun xs => if xs.1.length < L then (compX (fun d => (bindT tg d (unset tg.slots env)).bind fun e1 => evX C CR elt e1) xs.1).map fun r => match r with
    | .inl ds => RV.ok (.lst ds)
    | .inr x => .ex x
    else none) = some r from hev)
  obtain ⟨hl, h3⟩ := ifn_some h2
  rw [Option.map_eq_some_iff] at h3
  obtain ⟨r0, h4, h5⟩ := h3
  refine ⟨B0, H0, B, unset tg.slots env, o, xs, ow, R.unset _, h1, fun B1 H1 J Gh s1 eG hG hJ => lc_bodyX R h4 hl (fun ds e => ?_) (fun x e => ?_) s1 eG hJ⟩
  · subst e
    cases h5
    exact q
  · subst e
    cases h5
    exact q
/-! ### tuples -/
def tAX (C : Nat → List D → Option D) (CR : Nat → List D → Option RV) (K : PySem.W.Frag) (cv : Nat → Value) (W : WX) (es : EXs) : TA := fun σ H Q => ∃ B0 H0 B env o r, Rel K B0 H0 B env σ H o ∧ evXs C CR es env = some r ∧
  match r with
  | .inl ds => ∀ B' H' vs, Step B H B' H' → Reps K B' ds vs → Q vs H'
  | .inr x => ∀ B' H' dd, Step B H B' H' → ArgOk K B' H' x.arg dd → W (cv x.cls) dd σ H'
abbrev SAX (C : Nat → List D → Option D) (CR : Nat → List D → Option RV) (cv : Nat → Value) (X : Cx) (es : EXs) (xs : List Expr) : Prop := ∀ W, Takes X W → PA X xs (tAX C CR X.K cv W es)
theorem sxa_nil : SAX C CR cv X .nil [] := fun W _ => imp_a pa_nil fun σ H Q ⟨B0, H0, B, env, o, r, R, he, q⟩ => by
  cases (show some (Sum.inl []) = some r from he)
  exact q B H [] (Step.refl R.bh) reps_nil
theorem sxa_cons {e : EX} {x : Expr} {es : EXs} {xs : List Expr} (ha : SEX C CR cv X e x) (hr : SAX C CR cv X es xs) (hs : starEach (x :: xs) X.env = (false, eval x X.env) :: starEach xs X.env := by rfl) : SAX C CR cv X (.cons e es) (x :: xs) := fun W tk =>
  imp_a (pa_cons (ha W tk) (hr W tk) hs) fun σ H Q ⟨B0, H0, B, env, o, r, R, he, q⟩ => by
  obtain ⟨rv, h1, h2⟩ := bind1_some (show ((evX C CR e env).bind fun v => match v with
    | .ex x => some (.inr x)
    | .ok d => (evXs C CR es env).map fun r => match r with | .inl ds => .inl (d :: ds) | .inr x => .inr x) = some r from he)
  refine ⟨B0, H0, B, env, o, rv, R, h1, ?_⟩
  cases rv with
  | ex y =>
    cases h2
    exact q
  | ok d =>
    have h3 : (evXs C CR es env).map (fun r => match r with | .inl ds => Sum.inl (d :: ds) | .inr x => .inr x) = some r := h2
    rw [Option.map_eq_some_iff] at h3
    obtain ⟨r', h4, h5⟩ := h3
    intro B1 H1 v s1 r1
    refine ⟨B0, H0, B1, env, o, r', R.step s1, h4, ?_⟩
    cases r' with
    | inl ds =>
      cases h5
      exact fun B2 H2 vs s2 r2 => q B2 H2 (v :: vs) (s1.trans s2) (reps_cons (Rep.mono s2.bb _ _ r1) r2)
    | inr y =>
      cases h5
      exact fun B2 H2 dd s2 a => q B2 H2 dd (s1.trans s2) a
theorem sx_tup {es : EXs} {xs : List Expr} {kk : Nat} (h : SAX C CR cv X es xs) : SEX C CR cv X (.tup es) (.Tuple xs kk pos) := fun W tk => imp_e (pe_tup (h W tk)) fun σ H Q ⟨B0, H0, B, env, o, r, R, he, q⟩ => by
  obtain ⟨r', h1, h2⟩ := bind1_some (show ((evXs C CR es env).bind fun r => match r with
    | .inl ds => if ds.length ≤ L then some (.ok (.tup ds)) else none
    | .inr x => some (.ex x)) = some r from he)
  refine ⟨B0, H0, B, env, o, r', R, h1, ?_⟩
  cases r' with
  | inl ds =>
    obtain ⟨hz, h3⟩ := ifn_some (show (if ds.length ≤ L then some (RV.ok (.tup ds)) else none) = some r from h2)
    cases h3
    exact fun B' H' vs s rr => ⟨by rw [rr.length]; exact sizeL hz, fun p hp => q _ _ _ (s.trans (Step.new s.bh hp)) (tup_rep upd_same (Reps.mono (Ext.new (s.bh.back hp)) _ _ rr))⟩
  | inr y =>
    cases h2
    exact q
end
end Hg
end

section
set_option Elab.async false
set_option maxRecDepth 100000
set_option maxHeartbeats 4000000
/-! Snd33: BadHedge(at). -/
namespace Hg
open PySem PySem.Spec PyProof.Rows L2
variable [TB : Tabl]
/-- what the classes must be -/
structure BhF (K : PySem.W.Frag) (mg : Str → Option Value) (HE C fI : Addr) : Prop where
  ox : OexC K C
  iC : PySem.W.findIn K (.ref C) ("__init__" : Str) = some (some (.ref fI))
  tI : PySem.W.typeIn K (.ref fI) = some (.type "function")
  rd : PySem.W.readsIn K HE (.type "type") = true
  ga : PySem.W.specialIn K (.ref HE) ("__getattribute__" : Str) = some (some (.builtin "type.__getattribute__"))
  fi : PySem.W.findCls K (.ref HE) (.type "type") ("__init__" : Str) = some (.val (.builtin "ValueError.__init__"))
  hat : PySem.W.findIn K (.ref C) ("at" : Str) = some none
  xf : XfC K C
  mB : mg ("BadHedge" : Str) = some (.ref C)
  mH : mg ("HedgeError" : Str) = some (.ref HE)
section
variable {X : Cx} {e : Expr} {es : List Expr} {ta : TA} {p1 p2 pos : Pos} {HE : Addr}
theorem pe_heinit {pl : Sem Bool} (hg : Gl X ("HedgeError" : Str)) (hm : X.mg ("HedgeError" : Str) = some (.ref HE)) (rd : PySem.W.readsIn X.K HE (.type "type") = true) (ga : PySem.W.specialIn X.K (.ref HE) ("__getattribute__" : Str) = some (some (.builtin "type.__getattribute__")))
    (fi : PySem.W.findCls X.K (.ref HE) (.type "type") ("__init__" : Str) = some (.val (.builtin "ValueError.__init__"))) (ha : PA X (e :: es) ta)
    (hc : eval (.Call (.Attribute (.Name ("HedgeError" : Str) p1) ("__init__" : Str) p2) (e :: es) [] pos) X.env = (do
      let ov ← eval (.Name ("HedgeError" : Str) p1) X.env
      standAt p2.atName
      let (f, first) ← holding [ov] (getMethod ov ("__init__" : Str) pl)
      callWith pos f first (backTo pos (starEach (e :: es) X.env)) (backToKw pos (keywordEach [] X.env))) := by rfl)
    (he : starEach (e :: es) X.env = (false, eval e X.env) :: starEach es X.env := by rfl) (hpl : (backTo pos (starEach es X.env)).any (·.1) = false := by rfl) :
    PE X (.Call (.Attribute (.Name ("HedgeError" : Str) p1) ("__init__" : Str) p2) (e :: es) [] pos) (tVeI X.K ta) := by
  refine ⟨fun pins s σ H Q I h => ?_⟩
  refine PySem.W.methodCall_KW (ld_glob I hg hm ?_ (by decide)) hc
  refine PySem.W.method_cls I.kIn ga (PySem.W.cls_value I.kIn rd fi rfl ?_)
  show wpAny _ _ (callWith pos (Value.builtin "ValueError.__init__") [] (backTo pos (starEach (e :: es) X.env)) []) _ _ _
  refine PyProof.Rows.callWith_method1 (thn (ha.run pos pins _ σ H _ (I.tok _) h) fun us s1 ⟨vs, H1, I1, r1, a, C, ws, ev, hl, T, ea, q⟩ => ?_) he hpl
  subst ev
  cases r1 with
  | @cons _ u0 _ ur ra rw' =>
    obtain rfl : u0 = Value.ref a := ra
    have hlen : ur.length ≤ sizeLine := by
      rw [← Paired.length rw', sizeLine_eq]
      omega
    exact oinit_ok T I1 ea hlen fun s' J => ⟨.non, H1, J, rfl, q⟩
end
def spI (C : Addr) : Sp := fun vs H Q _ => ∃ a y, vs = [.ref a, y] ∧ H a = some (exo a C none) ∧ ∀ dx, H dx = none → dx ≠ a → Q .non (upd (upd H dx (exd dx [(("at" : Str), y)])) a (exo a C (some dx)))
theorem upd_del {H1 : Hp} {a dx : Addr} {C : Addr} {y : V} {o : HO} (ha : H1 a = none) (hne : dx ≠ a) : upd (del (upd (upd (upd H1 a (exo a C none)) dx (exd dx [(("at" : Str), y)])) a (exo a C (some dx))) a) dx o = upd H1 dx o := by
  funext b
  by_cases h1 : b = dx
  · rw [h1, upd_same, upd_same]
  · rw [upd_ne h1, upd_ne h1]
    by_cases h2 : b = a
    · rw [h2, del_same, ha]
    · rw [del_ne h2, upd_ne h2, upd_ne h1, upd_ne h2]
section
variable {C0 : Nat → List D → Option D} {CR : Nat → List D → Option RV} {cv : Nat → Value} {X : Cx} {e : E} {x : Expr} {HE C fI : Addr} {fd : FuncData} {k : Nat} {p pos pos1 : Pos}
/-- raise BadHedge(e) -/
theorem sx_raiseA (G : Gd X) (B : BhF X.K X.mg HE C fI) (hcv : cv 7 = .ref C) (F1 : FnOk X.prog X.w X.K X.mg X.base CX0 1 fI fd ["self", "at"] (spI C)) (hb : Binds X.K fd ["self", "at"] []) (hr : Room k X.A) (hk : 2 ≤ k) (ha : SE C0 X e x) (hg : Gl X ("BadHedge" : Str) := by rfl)
    (he : starEach [x] X.env = (false, eval x X.env) :: starEach [] X.env := by rfl) :
    SSX C0 CR cv X (.raise 7 (some e)) (.Raise (some (.Call (.Name ("BadHedge" : Str) p) [x] [] pos1)) none pos) := fun W tk => by
  refine imp_s (ps_raise G.calm tk (pmk_oex (dvs := []) (ds := []) B.ox B.iC B.tI F1 (hr.mono hk) hb .nil pass0 hg B.mB (sa_cons ha sa_nil he) (by decide) he)) fun Dn σ H ⟨B0, H0, Bf, env, o, out, R, hx, q⟩ => ?_
  have hx' : (vm (ev C0 e env)).map (fun d => OutX.ex ⟨7, some d⟩ env) = some out := hx
  rw [Option.map_eq_some_iff] at hx'
  obtain ⟨d, h1, rfl⟩ := hx'
  refine ⟨B0, H0, Bf, env, o, [d], R, ?_, fun B' H' vs s r => ?_⟩
  · show (vm (ev C0 e env)).bind (fun d => (evs C0 .nil env).bind fun ds => some (d :: ds)) = some [d]
    rw [h1]; rfl
  · obtain ⟨y, r0, rfl, ry, rn⟩ := r.cons_of
    rw [rn.nil_of]
    refine ⟨by simp, fun a ha2 => ⟨a, y, rfl, upd_same, fun dx hdx hne => ⟨rfl, dx, _, upd_same, by rw [upd_ne hne, upd_same], ?_, ?_⟩⟩⟩
    · rw [upd_ne hne] at hdx; exact hdx
    · have hdx' : H' dx = none := by rw [upd_ne hne] at hdx; exact hdx
      rw [upd_del ha2 hne, ← hcv]
      have st2 : Step B' H' B' (upd H' dx (.xd [(("at" : Str), y)])) := Step.own s.bh hdx'
      exact q B' σ _ o (some dx) ((R.step s).step st2) s.bb ⟨dx, y, rfl, upd_same, ry⟩
end
def clsS : Stmt → List Stmt | .ClassDef (body := b) .. => b | _ => []
/-! ### the classes, BadHedge among them -/
structure XG (K : PySem.W.Frag) (mg : Str → Option Value) (cv : Nat → Value) (ks : List Nat) : Prop where
  ex : ∀ k ∈ ks, k ≠ 7 → ExK K mg (cname k) (cv k)
  ow : ∀ k ∈ ks, ∃ Ca : Addr, cv k = .ref Ca ∧ mg (cname k) = some (.ref Ca)
  tr : ∀ c ∈ ks, TrK K cv ks c
  is : ∀ c ∈ 8 :: ks, IsK K cv ks c
  ve : mg "ValueError" = none
  c8 : cv 8 = .type "ValueError"
theorem XG.mg {K : PySem.W.Frag} {mg : Str → Option Value} {cv : Nat → Value} {ks : List Nat} (h : XG K mg cv ks) (k : Nat) (hk : k ∈ ks) : mg (cname k) = some (cv k) := by
  obtain ⟨Ca, e, m⟩ := h.ow k hk
  rw [e]; exact m
theorem XG.pve {K : PySem.W.Frag} {mg : Str → Option Value} {cv : Nat → Value} {ks : List Nat} (h : XG K mg cv ks) {X : Cx} {m : Str} (p : PCl X m (.type "ValueError")) : PCl X m (cv 8) := by rw [h.c8]; exact p
def xgB (K : PySem.W.Frag) (l : List (Nat × Addr)) : Bool := l.all fun p =>
  (decide (p.1 = 7) || PySem.W.excIn K p.2 [.type "ValueError", .type "Exception", .type "BaseException", .type "object"] "ValueError.__new__") && PySem.W.keepIn K (.ref p.2) && decide (PySem.W.subIn K (.ref p.2) (.type "BaseException") = some true) && decide (PySem.W.typeIn K (.ref p.2) = some (.type "type")) &&
  ecB K p.2 && decide (PySem.W.kitOne K (.ref p.2) (.type "ValueError") = some (subC p.1 8)) && decide (p.1 ≠ 8) && decide (cvOf l p.1 = .ref p.2) &&
  l.all fun q => decide (PySem.W.exmOne K (.ref p.2) (.ref q.2) = some (subC p.1 q.1)) && decide (PySem.W.kitOne K (.ref p.2) (.ref q.2) = some (subC p.1 q.1))
theorem xg_of {K : PySem.W.Frag} {mg : Str → Option Value} {l : List (Nat × Addr)} (h : xgB K l = true) (hm : ∀ p ∈ l, mg (cname p.1) = some (.ref p.2)) (ve : mg "ValueError" = none) : XG K mg (cvOf l) (l.map (·.1)) := by
  have h1 : ∀ p ∈ l, _ := List.all_eq_true.mp h
  have hp : ∀ p ∈ l, (p.1 ≠ 7 → PySem.W.excIn K p.2 [.type "ValueError", .type "Exception", .type "BaseException", .type "object"] "ValueError.__new__" = true) ∧ PySem.W.keepIn K (.ref p.2) = true ∧ PySem.W.subIn K (.ref p.2) (.type "BaseException") = some true ∧ PySem.W.typeIn K (.ref p.2) = some (.type "type") ∧
      ExcC K p.2 ∧ PySem.W.kitOne K (.ref p.2) (.type "ValueError") = some (subC p.1 8) ∧ cvOf l p.1 = .ref p.2 ∧ ∀ q ∈ l, PySem.W.exmOne K (.ref p.2) (.ref q.2) = some (subC p.1 q.1) ∧ PySem.W.kitOne K (.ref p.2) (.ref q.2) = some (subC p.1 q.1) := fun p hp => by
    have z := h1 p hp
    simp only [Bool.and_eq_true, Bool.or_eq_true, decide_eq_true_eq] at z
    obtain ⟨⟨⟨⟨⟨⟨⟨⟨a1, a2⟩, a3⟩, a4⟩, a5⟩, a6⟩, a7⟩, a8⟩, a9⟩ := z
    refine ⟨fun n7 => a1.resolve_left n7, a2, a3, a4, ecB_ok a5, a6, a8, fun q hq => ?_⟩
    have z := List.all_eq_true.mp a9 q hq
    simp only [Bool.and_eq_true, decide_eq_true_eq] at z
    exact z
  have c8 : cvOf l 8 = .type "ValueError" := rfl
  refine ⟨fun k hk n7 => ?_, fun k hk => ?_, fun c hc k hk => ?_, fun c hc k hk => ?_, ve, c8⟩
  · obtain ⟨p, h2, rfl⟩ := List.mem_map.mp hk
    obtain ⟨a1, a2, a3, a4, a5, a6, a7, a8⟩ := hp p h2
    exact ⟨p.2, a7, hm p h2, a1 n7, a2, a3, a4⟩
  · obtain ⟨p, h2, rfl⟩ := List.mem_map.mp hk
    obtain ⟨a1, a2, a3, a4, a5, a6, a7, a8⟩ := hp p h2
    exact ⟨p.2, a7, hm p h2⟩
  · obtain ⟨p, h2, rfl⟩ := List.mem_map.mp hk
    obtain ⟨q, h3, rfl⟩ := List.mem_map.mp hc
    obtain ⟨a1, a2, a3, a4, a5, a6, a7, a8⟩ := hp p h2
    obtain ⟨b1, b2, b3, b4, b5, b6, b7, b8⟩ := hp q h3
    rw [a7, b7]
    exact (a8 q h3).1
  · obtain ⟨p, h2, rfl⟩ := List.mem_map.mp hk
    obtain ⟨a1, a2, a3, a4, a5, a6, a7, a8⟩ := hp p h2
    refine ⟨p.2, a7, a5, ?_⟩
    rcases List.mem_cons.mp hc with rfl | hc
    · rw [c8]; exact a6
    · obtain ⟨q, h3, rfl⟩ := List.mem_map.mp hc
      obtain ⟨b1, b2, b3, b4, b5, b6, b7, b8⟩ := hp q h3
      rw [b7]
      exact (a8 q h3).2
/-- BadHedge's own facts, as one look -/
def bhB (K : PySem.W.Frag) (HE C fI : Addr) : Bool :=
  decide (PySem.W.findIn K (.ref C) ("__init__" : Str) = some (some (.ref fI))) && decide (PySem.W.typeIn K (.ref fI) = some (.type "function")) && PySem.W.readsIn K HE (.type "type") &&
  decide (PySem.W.specialIn K (.ref HE) ("__getattribute__" : Str) = some (some (.builtin "type.__getattribute__"))) &&
  decide (PySem.W.findIn K (.ref C) ("at" : Str) = some none) && xfB K C && decide (PySem.W.findIn K (.ref C) ("__setattr__" : Str) = some (some (.builtin "object.__setattr__"))) && decide (PySem.W.subIn K (.ref C) (.type "BaseException") = some true) &&
  decide (PySem.W.typeIn K (.ref C) = some (.type "type")) && PySem.W.keepIn K (.ref C)
theorem bh_of {K : PySem.W.Frag} {mg : Str → Option Value} {HE C fI : Addr} {nm q : Str} {N : Addr} {bs bm : List Value} {sn : List Str} {sub : List Value} {ab : Bool} {col : Option Bool} {dd : Option Addr} {k0 k1 k2 k3 k5 : Option Value}
    (h : bhB K HE C fI = true) (hf : PySem.W.findCls K (.ref HE) (.type "type") ("__init__" : Str) = some (.val (.builtin "ValueError.__init__"))) (hc : K.lookup C = some (excClassObj nm q C N bs bm true sn sub ab col dd k0 k1 k2 k3 k5 "ValueError.__new__")) (hbm : PySem.HandSPX.refsVE bm = true) (mB : mg ("BadHedge" : Str) = some (.ref C)) (mH : mg ("HedgeError" : Str) = some (.ref HE)) : BhF K mg HE C fI := by
  unfold bhB at h
  simp only [Bool.and_eq_true, decide_eq_true_eq] at h
  obtain ⟨⟨⟨⟨⟨⟨⟨⟨⟨h1, h2⟩, h3⟩, h4⟩, h5⟩, h6⟩, h7⟩, h8⟩, h9⟩, h10⟩ := h
  exact ⟨⟨⟨nm, q, N, bs, bm, sn, sub, ab, col, dd, k0, k1, k2, k3, k5, hc, hbm⟩, h7, h8, h9, h10⟩, h1, h2, h3, h4, hf, h5, xfB_ok h6, mB, mH⟩
end Hg
end

section
set_option Elab.async false
set_option maxRecDepth 100000
set_option maxHeartbeats 2000000
/-! Snd39: an except suite that raises; what may be raised within such a try. -/
namespace Hg
open PySem PySem.Spec PyProof.Rows L2
variable [TB : Tabl]
abbrev SSN (C : Nat → List D → Option D) (CR : Nat → List D → Option RV) (cv : Nat → Value) (X : Cx) (s : SX) (st : Stmt) : Prop := ∀ W, L2N.Takes X W → PS X st (tSX C CR X.K cv W s)
abbrev SBN (C : Nat → List D → Option D) (CR : Nat → List D → Option RV) (cv : Nat → Value) (X : Cx) (s : SX) (sts : List Stmt) : Prop := ∀ W, L2N.Takes X W → PSs X sts (tSX C CR X.K cv W s)
section
variable {C : Nat → List D → Option D} {CR : Nat → List D → Option RV} {cv : Nat → Value} {X : Cx} {a b c e : E} {x y z : Expr} {pos p pos1 pos2 : Pos} {n : Str} {s : Hg.S} {s1 s2 : SX} {st : Stmt} {sts : List Stmt} {t : T} {ex : EX}
theorem nx_st (h : SS C X s st) : SSN C CR cv X (.st s) st := fun W _ => imp_s h tox_out
theorem nxb_nil : SBN C CR cv X (.st .skip) [] := fun W _ => imp_ss sb_skip tox_out
theorem nxb_cons (h1 : SSN C CR cv X s1 st) (h2 : SBN C CR cv X s2 sts) : SBN C CR cv X (.seq s1 s2) (st :: sts) := fun W tk => imp_ss (pss_cons (h1 W tk) (h2 W tk)) fun Dn σ H ⟨B0, H0, B, env, o, out, R, he, q⟩ => by
  have he' : andX (execX C CR s1 env) (execX C CR s2) = some out := he
  rcases andX_some he' with ⟨e1, h1, h2⟩ | ⟨h1, h2⟩
  · exact ⟨B0, H0, B, env, o, _, R, h1, fun B' σ' H' o' R' e => ⟨B0, H0, B', e1, o', out, R', h2, q.mono e⟩⟩
  · exact ⟨B0, H0, B, env, o, out, R, h1, q.still h2 (Ext.refl _) rfl⟩
theorem nx_kill {is : List Nat} {s : SX} (h : SBN C CR cv X s sts) : SBN C CR cv X (.seq (.st (.kill is)) s) sts := fun W tk => imp_ss (h W tk) fun Dn σ H ⟨B0, H0, B, env, o, out, R, he, q⟩ =>
  ⟨B0, H0, B, unset is env, o, out, R.unset is, he, q⟩
theorem nx_ite {xs ys : List Stmt} (ht : ST C X t z) (h1 : SBN C CR cv X s1 xs) (h2 : SBN C CR cv X s2 ys) : SSN C CR cv X (.ite t s1 s2) (.If z xs ys pos) := fun W tk => imp_s (ps_if ht (h1 W tk) (h2 W tk)) fun Dn σ H ⟨B0, H0, B, env, o, out, R, he, q⟩ => by
  obtain ⟨b, h1, h2⟩ := bind1_some (show ((evT C t env).bind fun p => if p then execX C CR s1 env else execX C CR s2 env) = some out from he)
  refine use_t R h1 fun B' H' s => ?_
  cases b with
  | true => exact ⟨B0, H0, B', env, o, out, R.step s, h2, q.mono s.bb⟩
  | false => exact ⟨B0, H0, B', env, o, out, R.step s, h2, q.mono s.bb⟩
/-- what sx_for needs of the body, for one W -/
theorem forW {xs : List Stmt} {tgx iter : Expr} {tg : Tg} {it : Hg.It} {s : SX} {W : WX} (G : Gd X) (hp : PassesOwn (model X.prog X.w) X.A X.env X.xe) (hi : SI C X tgx it iter) (hg : SG X tg tgx) (hb : PSs X xs (tSX C CR X.K cv W s)) (hs : ∀ x, foldedSetIterable iter X.env x = pure x := by intro _; rfl) :
    PS X (.For tgx iter xs [] pos) (tSX C CR X.K cv W (.for_ tg it s)) := imp_s (ps_for hp G.calm hi hg hb hs) fun Dn σ H ⟨B0, H0, B, env, o, out, R, he, q⟩ => by
  obtain ⟨⟨ds, ow⟩, h1, h2⟩ := bind1_some (show ((evI C it env).bind fun xs => if xs.2 then none else loopX (fun d e => (bindT tg d e).bind (execX C CR s)) xs.1 env) = some out from he)
  have ho : ow = false := by
    cases ow with
    | false => rfl
    | true => cases h2
  subst ho
  have h2' : loopX (fun d e => (bindT tg d e).bind (execX C CR s)) ds env = some out := h2
  refine ⟨B0, H0, B, env, o, ds, false, R, h1, fun B1 H1 J Gh s1 eG hG hJ => ?_⟩
  refine ⟨fun i m σ' H' => ∃ B' env' o', Rel X.K B0 H0 B' env' σ' H' o' ∧ Ext B1 B' ∧ m = ds.length - i ∧ i ≤ ds.length ∧ loopX (fun d e => (bindT tg d e).bind (execX C CR s)) (ds.drop i) env' = some out,
    ⟨ds.length, B1, env, o, R.step s1, Ext.refl _, by omega, Nat.zero_le _, h2'⟩, ?_⟩
  rintro i m σ' H' ⟨B2, env2, o2, R2, e2, rfl, hle, hlp⟩
  have eGc : Ext Gh H' := hG rfl H' (e2.trans R2.bh) R2.h0
  by_cases hlt : i < ds.length
  · refine .inr ⟨hJ.go i H' hlt eGc, _, fun σ3 H3 h => ⟨ds.length - (i + 1), by omega, h⟩, fun x H3 hy => ?_⟩
    obtain ⟨Bn, sn, rn⟩ := hJ.yl i H' x H3 B2 ds[i] (List.getElem?_eq_getElem hlt) e2 R2.bh eGc hy
    rw [List.drop_eq_getElem_cons hlt] at hlp
    have hlp' : andX ((bindT tg ds[i] env2).bind (execX C CR s)) (loopX (fun d e => (bindT tg d e).bind (execX C CR s)) (ds.drop (i + 1))) = some out := hlp
    have key : ∀ o1, (bindT tg ds[i] env2).bind (execX C CR s) = some o1 → ∃ env3, bindT tg ds[i] env2 = some env3 ∧ execX C CR s env3 = some o1 := fun o1 h => bind1_some h
    rcases andX_some hlp' with ⟨e, h4, h5⟩ | ⟨h4, h5⟩
    · obtain ⟨env3, h6, h7⟩ := key _ h4
      refine ⟨B0, H0, Bn, env2, o2, ds[i], env3, R2.step sn, rn, h6, fun σ4 o4 R4 _ => ⟨B0, H0, Bn, env3, o4, .nx e, R4, h7, fun B' σ5 H5 o5 R5 e5 => ⟨B', e, o5, R5, (e2.trans sn.bb).trans e5, rfl, hlt, h5⟩⟩⟩
    · obtain ⟨env3, h6, h7⟩ := key _ h4
      refine ⟨B0, H0, Bn, env2, o2, ds[i], env3, R2.step sn, rn, h6, fun σ4 o4 R4 _ => ⟨B0, H0, Bn, env3, o4, out, R4, h7, ?_⟩⟩
      exact q.still h5 ((s1.bb.trans e2).trans sn.bb) rfl
  · have hie : i = ds.length := by omega
    rw [hie, List.drop_length] at hlp
    cases hlp
    exact .inl ⟨hJ.st i H' hie eGc, q B2 σ' H' o2 R2 (s1.bb.trans e2)⟩
theorem nx_for {xs : List Stmt} {tgx iter : Expr} {tg : Tg} {it : Hg.It} {s : SX} (G : Gd X) (hp : PassesOwn (model X.prog X.w) X.A X.env X.xe) (hi : SI C X tgx it iter) (hg : SG X tg tgx) (hb : SBN C CR cv X s xs) (hs : ∀ x, foldedSetIterable iter X.env x = pure x := by intro _; rfl) :
    SSN C CR cv X (.for_ tg it s) (.For tgx iter xs [] pos) := fun W tk => forW G hp hi hg (hb W tk) hs
theorem nx_ret (h : SE C X a x) : SSN C CR cv X (.ret (.ok a)) (.Return (some x) pos) := fun W tk => imp_s (ps_ret h) fun Dn σ H ⟨B0, H0, B, env, o, out, R, he, q⟩ => by
  have he' : ((vm (ev C a env)).map RV.ok).map (fun r => match r with | .ok d => OutX.rt d | .ex x => OutX.ex x env) = some out := he
  rw [Option.map_eq_some_iff] at he'
  obtain ⟨r, h1, h2⟩ := he'
  rw [Option.map_eq_some_iff] at h1
  obtain ⟨d, h3, rfl⟩ := h1
  cases h2
  exact use_v R h3 fun B' H' v s r => q B' H' v (R.step s).done r
end
/-! ### raise BadHedge(e) -/
section
variable {X : Cx} {CX : CXT} {x : Str} {e : Expr} {es : List Expr} {ta : TA} {p pos : Pos} {C fI : Addr} {k : Nat} {fd : FuncData} {ps : List Str} {sp : Sp}
theorem pmk_oexN (T : OexC X.K C) (iC : PySem.W.findIn X.K (.ref C) "__init__" = some (some (.ref fI))) (tI : PySem.W.typeIn X.K (.ref fI) = some (.type "function")) (F1 : FnOk X.prog X.w X.K X.mg X.base CX k fI fd ps sp) (hr : Room (k + 1) X.A) (hb : Binds X.K fd ps []) (hx : Passes CX X (fun _ _ _ => False)) (hg : Gl X x) (hm : X.mg x = some (.ref C))
    (ha : PA X (e :: es) ta) (hdb : (x == ("__debug__" : Str)) = false := by decide) (he : starEach (e :: es) X.env = (false, eval e X.env) :: starEach es X.env := by rfl) (hpl : (backTo pos (starEach es X.env)).any (·.1) = false := by rfl) :
    L2N.PMk X (.Call (.Name x p) (e :: es) [] pos) (tMkO C sp [] ta) := by
  intro pins s σ H Q I h
  obtain ⟨nm, qn, N, bs, bm, sn, sub, ab, col, dd, k0, k1, k2, k3, k5, hC, hbm⟩ := T.cls
  refine wpAny_Call_Name_kw (ld_glob I hg hm ?_ hdb)
  refine PySem.W.callWith_K (h₀ := X.base) I.ok.mod.kin T.kC (thn (ha.run pos pins s σ H _ I h) fun us t1 ⟨vs, H1, I1, r1, hz, q1⟩ => ⟨I1.kIn, ?_⟩) he hpl
  show wpAny _ _ (call (.ref C) us) _ _ _
  obtain ⟨g0, gs, dr, tk, os⟩ := t1
  have le1 : g0.objs.size ≤ g0.objs.size + 1 := Nat.le_succ _
  have q2 := q1 (g0.objs.size + 1) (I1.hok.fresh le1)
  have keep : ∀ b o, g0.get? b = some o → ((g0.push (PySem.W.kdv_tup us)).push (PySem.HandSPX.excO C g0.objs.size)).get? b = some o := fun b o gb => Heap.get?_push_of_some _ (Heap.get?_push_of_some _ gb)
  have gnew : ((g0.push (PySem.W.kdv_tup us)).push (PySem.HandSPX.excO C g0.objs.size)).get? (g0.objs.size + 1) = some (PySem.HandSPX.excO C g0.objs.size) := by heap_get
  have I2 : Inv X pins σ (upd H1 (g0.objs.size + 1) (exo (g0.objs.size + 1) C none)) ⟨(g0.push (PySem.W.kdv_tup us)).push (PySem.HandSPX.excO C g0.objs.size), gs, dr, tk, os⟩ :=
    I1.laid (t' := tk) (a := g0.objs.size + 1) (o := exo (g0.objs.size + 1) C none) (h' := (g0.push (PySem.W.kdv_tup us)).push (PySem.HandSPX.excO C g0.objs.size)) keep le1 (exo_ok gnew)
  have rr : Vals (V.ref (g0.objs.size + 1) :: (vs ++ [])) (Value.ref (g0.objs.size + 1) :: (us ++ [])) := .cons rfl (by rw [List.append_nil, List.append_nil]; exact r1)
  have ln : (Value.ref (g0.objs.size + 1) :: us ++ []).length = ps.length := by
    have z := rr.length
    rw [F1.len _ _ _ _ q2] at z
    exact z.symm
  have lu : us.length ≤ sizeLine := by
    rw [← Paired.length r1, sizeLine_eq]
    omega
  have b2 := hb _ (Value.ref (g0.objs.size + 1) :: us) I2.kIn ln
  rw [List.cons_append] at b2
  refine wpAny_call (PySem.HandSPX.call_own F.excBase_ValueError (fun Y => PySem.HandSPX.refsVE_contains Y bm hbm) (I1.kIn _ _ hC) (PySem.W.looks_findIn I1.kIn iC) (fun self => PySem.W.bind_fn I1.kIn self tI) lu
    (codeAny_mono (F1.run _ X.stack _ _ ⟨Value.ref (g0.objs.size + 1) :: us, []⟩ (Value.ref (g0.objs.size + 1) :: (us ++ [])) _ _ (fun _ _ _ => False) (hr.make C us []) (I2.env0.make C us []) b2 rr q2) fun r t' hq => ?_))
  cases r with
  | error er => exact hx pins σ _ _ er t' I2 hq
  | ok fl =>
    cases fl with
    | ret u =>
      obtain ⟨v, H2, os2, bare2, un2, hok2, rv, ev, d, fs, ea, ed, hd1, q3⟩ := hq
      subst ev
      obtain ⟨h2, g2, d2, t2, os'⟩ := t'
      obtain ⟨t0, G, J, kG, ge, hoe, na⟩ := mk_end0 (d2 := d2) (t2 := t2) I1 le1 keep un2 hok2 os2 bare2 ea ed hd1
      refine ⟨rv, g0.objs.size + 1, _, _, ⟨G, g2, d2, t2, os'⟩, _, .ref C, some d, rfl, J, kG, ge, hoe, ⟨rfl, rfl, fun ws hw => ?_⟩, rfl, rfl, na, rfl, bare2, raises_own T.exC T.tyC, q3⟩
      cases hw
      rfl
    | next => exact False.elim hq
    | brk => exact False.elim hq
    | cont => exact False.elim hq
end
section
variable {C0 : Nat → List D → Option D} {CR : Nat → List D → Option RV} {cv : Nat → Value} {X : Cx} {e : E} {x : Expr} {HE C fI : Addr} {fd : FuncData} {k : Nat} {p pos pos1 : Pos}
theorem nx_raiseA (G : Gd X) (B : BhF X.K X.mg HE C fI) (hcv : cv 7 = .ref C) (F1 : FnOk X.prog X.w X.K X.mg X.base CX0 1 fI fd ["self", "at"] (spI C)) (hb : Binds X.K fd ["self", "at"] []) (hr : Room k X.A) (hk : 2 ≤ k) (ha : SE C0 X e x) (hg : Gl X ("BadHedge" : Str) := by rfl)
    (he : starEach [x] X.env = (false, eval x X.env) :: starEach [] X.env := by rfl) :
    SSN C0 CR cv X (.raise 7 (some e)) (.Raise (some (.Call (.Name ("BadHedge" : Str) p) [x] [] pos1)) none pos) := fun W tk => by
  refine imp_s (L2N.ps_raise G.calm tk (pmk_oexN B.ox B.iC B.tI F1 (hr.mono hk) hb pass0 hg B.mB (sa_cons ha sa_nil he) (by decide) he)) fun Dn σ H ⟨B0, H0, Bf, env, o, out, R, hx, q⟩ => ?_
  have hx' : (vm (ev C0 e env)).map (fun d => OutX.ex ⟨7, some d⟩ env) = some out := hx
  rw [Option.map_eq_some_iff] at hx'
  obtain ⟨d, h1, rfl⟩ := hx'
  refine ⟨B0, H0, Bf, env, o, [d], R, ?_, fun B' H' vs s r => ?_⟩
  · show (vm (ev C0 e env)).bind (fun d => (evs C0 .nil env).bind fun ds => some (d :: ds)) = some [d]
    rw [h1]; rfl
  · obtain ⟨y, r0, rfl, ry, rn⟩ := r.cons_of
    rw [rn.nil_of]
    refine ⟨by simp, fun a ha2 => ⟨a, y, rfl, upd_same, fun dx hdx hne => ⟨rfl, dx, _, upd_same, by rw [upd_ne hne, upd_same], ?_, ?_⟩⟩⟩
    · rw [upd_ne hne] at hdx; exact hdx
    · have hdx' : H' dx = none := by rw [upd_ne hne] at hdx; exact hdx
      rw [upd_del ha2 hne, ← hcv]
      have st2 : Step B' H' B' (upd H' dx (.xd [(("at" : Str), y)])) := Step.own s.bh hdx'
      exact q B' σ _ o (some dx) ((R.step s).step st2) s.bb ⟨dx, y, rfl, upd_same, ry⟩
end
/-! ### a def called within such a try -/
def CalN (P : Program) (w : World) (K : PySem.W.Frag) (mg : Str → Option Value) (base : Heap) (cv : Nat → Value) (k : Nat) (n : Str) (np : Nat) (sem : List D → Option RV) : Prop :=
  ∃ f fd ps, FnOk P w K mg base (L2N.CX P w) k f fd ps (spX K cv np sem) ∧ mg n = some (.ref f) ∧ PySem.W.keepIn K (.ref f) = true ∧ Binds K fd ps []
abbrev cxN (P : Program) (w : World) (K : PySem.W.Frag) (mg : Str → Option Value) (base : Heap) (N : List Str) (ql : Str) (st : Stmt) (f : Addr) (cdv : Value) (A : Around) (outer : List PySem.Env) (s : Shared) (H : Hp) (E : XK) : Cx := cxOf (L2N.CX P w) P w K mg base N ql (defScope st) f cdv A outer s H E
section
variable {P : Program} {w : World} {K : PySem.W.Frag} {mg : Str → Option Value} {base : Heap} {C : Nat → List D → Option D} {CR : Nat → List D → Option RV} {cv : Nat → Value} {n ql : Str} {st : Stmt} {f : Addr} {fd : FuncData} {N ps : List Str} {k : Nat}
theorem fn_okN (fdef : XDef) (F : Fun K n ql st f fd) (S : FnScope N ps (defScope st)) (bf : Bf mg) (hN : N.length = fdef.slots) (hps : ps.length = fdef.params) (hle : fdef.params ≤ fdef.slots)
    (hb : ∀ (cdv : Value) (A : Around) (outer : List PySem.Env) (s : Shared) (H : Hp) (E : XK), Room k (cxN P w K mg base N ql st f cdv A outer s H E).A → Gd (cxN P w K mg base N ql st f cdv A outer s H E) → PassesOwn (model P w) (cxN P w K mg base N ql st f cdv A outer s H E).A (cxN P w K mg base N ql st f cdv A outer s H E).env (cxN P w K mg base N ql st f cdv A outer s H E).xe →
      SBN C CR cv (cxN P w K mg base N ql st f cdv A outer s H E) fdef.body (defBody st)) :
    FnOk P w K mg base (L2N.CX P w) (k + 1) f fd ps (spX K cv fdef.params (runX C CR fdef)) := by
  obtain ⟨oc, od, kV, doc, pm, an, cdv, ct, osl, rfl, lk, hcd⟩ := F.ex
  refine fn_of lk hcd S (fun vs H Q E ⟨B, ds, d, _, h, _⟩ => by rw [h, hps]) (fun A outer s H vs Q E hr h => ?_)
  obtain ⟨B, ds, r, e1, e2, e3, e4, ett, q⟩ := h
  have hu : Gd (cxN P w K mg base N ql st f cdv A outer s H E) := ⟨rfl, S.nd, by have := hr.un; show (A.deeper _).units + 80 < cLine; omega, bf.len, bf.range, bf.sorted, bf.min, bf.max, bf.sum, bf.isi, bf.list, bf.tuple, bf.dict, bf.int, bf.str, bf.bool, bf.set, bf.enum, bf.rev, bf.zip⟩
  refine ⟨tSX C CR K cv (fun cls d _ H => E cls d H) fdef.body, hb cdv A outer s H E hr hu (passes_of rfl) _ (L2N.takes_of rfl rfl rfl rfl), ?_⟩
  unfold runX at e4
  obtain ⟨hd, e5⟩ := ifn_some e4
  cases hx : execX C CR fdef.body (startEnv fdef.fd ds) with
  | none => rw [hx] at e5; cases e5
  | some out =>
    rw [hx] at e5
    refine ⟨B, H, B, startEnv fdef.fd ds, fun _ => none, out, startX hN hle hd e1 e3 ett (ps := ps), hx, ?_⟩
    cases out with
    | rt d2 =>
      cases e5
      exact fun B' H' v s r => q B' H' v s r
    | nx env' =>
      cases e5
      exact fun B' σ' H' o' R e => q B' H' .non R.done non_rep
    | ex x env' =>
      cases e5
      exact fun B' σ' H' o' dd R e a => q B' H' dd R.done a
theorem calN_of {ps : List Str} {np : Nat} {sem : List D → Option RV} (F : Fun K n ql st f fd) (h : FnOk P w K mg base (L2N.CX P w) k f fd ps (spX K cv np sem)) (g : mg n = some (.ref f)) (b : Binds K fd ps []) : CalN P w K mg base cv k n np sem := ⟨f, fd, ps, h, g, F.kp, b⟩
end
/-! ### try: return f(..), except c: raise k("..") -/
section
variable {C : Nat → List D → Option D} {CR : Nat → List D → Option RV} {cv : Nat → Value} {X : Cx} {pos p pos1 pos2 pos3 pos4 pos5 np p2 p3 : Pos} {n xc xr m : Str} {es : Es} {x : Expr} {xs : List Expr}
theorem nx_call {k j id : Nat} {nq : Nat} {sem : List D → Option RV} {W : WX} (c : CalN X.prog X.w X.K X.mg X.base cv j n nq sem) (hr : Room k X.A) (hk : j ≤ k) (tk : L2N.Takes X W) (ha : SM C X [] es (x :: xs)) (hC : CR id = sem) (hnp : Es.count es = nq) (hg : Gl X n)
    (hdb : (n == ("__debug__" : Str)) = false) (he : starEach (x :: xs) X.env = (false, eval x X.env) :: starEach xs X.env) (hpl : (backTo pos (starEach xs X.env)).any (·.1) = false) :
    PE X (.Call (.Name n p) (x :: xs) [] pos) (tEX C CR X.K cv W (.call id [] es)) := by
  obtain ⟨f, fd, ps, F, h1, h2, h3⟩ := c
  refine imp_e (pe_callS F (hr.mono hk) hg h1 h2 h3 (fun σ => L2N.passAt tk σ) ha hdb he hpl) fun σ H Q ⟨B0, H0, B, env, o, r, R, hev, q⟩ => ?_
  obtain ⟨ds, h4, h5⟩ := bind1_some (show (evm C [] es env).bind (CR id) = some r from hev)
  rw [hC] at h5
  refine use_m R h4 fun B' H' vs s rr => ?_
  refine ⟨B', ds, r, s.bh, by rw [rr.length, evm_length h4, hnp], rr, h5, R.tt.ext (R.h0.trans s.hh), ?_⟩
  cases r with
  | ok d => exact fun B2 H2 v s2 r2 => q B2 H2 v (s.trans s2) r2
  | ex x => exact fun B2 H2 dd s2 a => q B2 H2 dd (s.trans s2) a
theorem sx_tryR {k j id kr c : Nat} {nq : Nat} {ks : List Nat} {sem : List D → Option RV} {jj : Nat} (G : Gd X) (hpa : ∀ hd : Option Value, PassesOwnAt (model X.prog X.w) (X.A.mark hd) X.A X.env X.xe) (hc : X.mg xc = some (cv c)) (tr : TrK X.K cv ks c) (cN : CalN X.prog X.w X.K X.mg X.base cv j n nq sem) (hr : Room k X.A) (hk : j ≤ k)
    (ha : ∀ (pn : List (Addr × Obj)) (xe : Value → Shared → Prop), Gd (X.tr pn xe) → SM C (X.tr pn xe) [] es (x :: xs)) (hx : ExK X.K X.mg xr (cv kr)) (hC : CR id = sem := by rfl)
    (hnp : Es.count es = nq := by rfl) (hg : Gl X n := by rfl) (hdb : (n == ("__debug__" : Str)) = false := by decide) (he : starEach (x :: xs) X.env = (false, eval x X.env) :: starEach xs X.env := by rfl) (hpl : (backTo pos1 (starEach xs X.env)).any (·.1) = false := by rfl)
    (hst : X.stack = X.env :: X.outer := by rfl) (hf : X.env.frame = some X.env.locals := by rfl) (hgc : Gl X xc := by rfl) (hdc : (xc == ("__debug__" : Str)) = false := by decide) (hgr : Gl X xr := by rfl) (hdr : (xr == ("__debug__" : Str)) = false := by decide) :
    SSX C CR cv X (.try_ (.seq (.ret (.call id [] es)) (.st .skip)) ks c none fun _ => .seq (.raise kr none) (.st .skip))
      (.Try [.Return (some (.Call (.Name n p) (x :: xs) [] pos1)) pos2] [.ExceptHandler (some (.Name xc np)) none [.Raise (some (.Call (.Name xr p2) [.Constant (.str m) jj p3] [] pos3)) none pos4] pos5] [] [] pos) := fun W tk => by
  obtain ⟨Ca, e0, gP, xP, kP, bP, tP⟩ := hx.cls
  refine imp_s (L2H.ps_try_onlyX (tb := fun W => tSX C CR X.K cv W (.seq (.ret (.call id [] es)) (.st .skip))) (ts := fun a cls d => fun Dn σ H => W (.ref Ca) none σ H) (c := cv c) hst hf ⟨hgc, hdc, .inl hc⟩ hpa tk (fun W' pn xe tk' _ _ => ?_)
    (fun a oe cls d pn hz hfl tk' hot => ?_)) fun Dn σ H ⟨B0, H0, B, env, o, out, R, hex, q⟩ => ?_
  · refine imp_ss (pss_cons (ps_ret (nx_call (CR := CR) (cv := cv) (id := id) cN hr hk tk' (ha pn xe (G.tr pn xe)) hC hnp hg hdb he hpl)) pss_nil) fun Dn σ H ⟨B0, H0, B, env, o, out, R, hex, q⟩ => ?_
    have hex' : andX ((evX C CR (.call id [] es) env).map (fun r => match r with | .ok d => OutX.rt d | .ex x => OutX.ex x env)) (execX C CR (.st .skip)) = some out := hex
    cases e1 : evX C CR (.call id [] es) env with
    | none => rw [e1] at hex'; cases hex'
    | some r =>
      rw [e1] at hex'
      refine ⟨B0, H0, B, env, o, r, R, e1, ?_⟩
      cases r with
      | ok d =>
        cases hex'
        exact fun B' H' v s r => q B' H' v (R.step s).done r
      | ex y =>
        cases hex'
        exact fun B' H' dd s r => q B' σ H' o dd (R.step s) s.bb r
  · exact imp_ss (pss_cons (L2H.ps_raiseH hot tk' (L2N.pmk_own PySem.F.excBase_ValueError xP gP kP (raises_own bP tP) hgr hdr)) pss_nil) fun Dn σ H h => h
  · have he' : catchX ks c none (fun x e => execX C CR (.seq (.raise kr none) (.st .skip)) e) (execX C CR (.seq (.ret (.call id [] es)) (.st .skip)) env) = some out := hex
    cases e1 : execX C CR (.seq (.ret (.call id [] es)) (.st .skip)) env with
    | none => rw [e1] at he'; cases he'
    | some o1 =>
      rw [e1] at he'
      refine ⟨B0, H0, B, env, o, o1, R, e1, ?_⟩
      cases o1 with
      | nx env1 => cases he'; exact q
      | rt d => cases he'; exact q
      | ex y e =>
        obtain ⟨h1, h2⟩ := ifn_some (show (if y.cls ∈ ks ∧ (y.arg.isNone = true ∨ y.cls = 7) then (if subC y.cls c then execX C CR (.seq (.raise kr none) (.st .skip)) e else some (.ex y e)) else none) = some out from he')
        intro B' σ' H' o' dd R' ee aa
        refine ⟨subC y.cls c, tr _ h1.1, fun hb a ha => ?_, fun hb => ?_⟩
        · rw [if_pos hb] at h2
          cases (show some (OutX.ex ⟨kr, none⟩ e) = some out from h2)
          have z := q B' σ' H' o' none R' ee rfl
          rw [e0] at z
          exact z
        · rw [if_neg (by rw [hb]; decide)] at h2
          cases h2
          exact q B' σ' H' o' dd R' ee aa
end
end Hg
end

section
set_option Elab.async false
set_option maxRecDepth 100000
set_option maxHeartbeats 1000000
/-! Snd40: text.find(sign, place). -/
namespace Hg
open PySem PySem.Spec PyProof.Rows L2
variable [TB : Tabl]
theorem occ_keep (x y : Str) (hi : Nat) : ∀ (l : List Nat) (k f : Nat), (forIn l ((#[k] : Array Nat), f) (StrLaws.occBody x y hi 1)).run.fst = #[k]
  | [], k, f => rfl
  | a :: l, k, f => by
    rw [List.forIn_cons]
    unfold StrLaws.occBody
    rw [if_neg (fun z => absurd z.1.1.1 (by simp))]
    exact occ_keep x y hi l k f
theorem occ_first (s : List Nat) (c : Nat) : ∀ (m i f : Nat), f ≤ i → (match (forIn (List.range' i m) ((#[] : Array Nat), f) (StrLaws.occBody (sv s) (sv [c]) s.length 1)).run.fst.toList with | k :: _ => ((k : Nat) : Int) | [] => -1) = firstAt s c i m
  | 0, i, f, _ => rfl
  | m + 1, i, f, hf => by
    rw [List.range'_succ, List.forIn_cons]
    unfold firstAt
    have e := StrLaws.subAt_one (sv s) c i
    have e1 : (sv s).length = s.length := by simp [sv, Str.length]
    have e2 : (sv [c]).length = 1 := rfl
    have e3 : (sv s).cps.toList = s := rfl
    by_cases h : s[i]? = some c
    · rw [if_pos h]
      have h2 := e.mpr (by rw [e3]; exact h)
      unfold StrLaws.occBody
      rw [if_pos ⟨⟨⟨by simp, hf⟩, by rw [e2, ← e1]; exact h2.1⟩, h2.2⟩]
      show (match (forIn (List.range' (i + 1) m) ((#[i] : Array Nat), i + (sv [c]).length) (StrLaws.occBody (sv s) (sv [c]) s.length 1)).run.fst.toList with | k :: _ => ((k : Nat) : Int) | [] => -1) = _
      rw [occ_keep]
    · rw [if_neg h]
      unfold StrLaws.occBody
      rw [if_neg (fun z => h (by have := e.mp ⟨by have := z.1.2; rw [e2, ← e1] at this; exact this, z.2⟩; rw [e3] at this; exact this))]
      exact occ_first s c m (i + 1) f (by omega)
theorem find3_F (s : List Nat) (c : Nat) (i : Int) : Txt.find3 (sv s) (sv [c]) i = findF s c i := by
  unfold Txt.find3 findF
  have e1 : (sv s).length = s.length := by simp [sv, Str.length]
  rw [StrLaws.occ_eq, e1]
  exact occ_first s c _ _ _ (Nat.le_refl _)
section
variable {C : Nat → List D → Option D} {X : Cx} {a b c : E} {x y z : Expr} {pos p : Pos}
theorem semFind_some {ds : List D} {d : D} (h : semFind ds = some d) : ∃ s k i, ds = [.str s, .str [k], .int i] ∧ d = .int (findF s k i) := by
  unfold semFind at h
  split at h
  · cases h; exact ⟨_, _, _, rfl, rfl⟩
  · cases h
/-- text.find(sign, place) -/
theorem se_find {id : Nat} (ha : SE C X a x) (hb : SE C X b y) (hc : SE C X c z) (hC : C id = semFind := by rfl)
    (hbase : attributeBase x "find" X.env (eval x X.env) = eval x X.env := by rfl)
    (hfew : ((backTo pos (starEach [y, z] X.env)).all (fun x => !x.1) && (backToKw pos (keywordEach [] X.env)).all (fun x => x.1.isSome) && decide ([y, z].length + ([] : List Keyword).length + (if ([] : List Keyword).isEmpty then 0 else 1) < 30)) = true := by rfl)
    (hline : (p.endLine == pos.line) = true := by rfl) (hs : starEach [y, z] X.env = (false, eval y X.env) :: starEach [z] X.env := by rfl) (hs2 : starEach [z] X.env = (false, eval z X.env) :: starEach [] X.env := by rfl) (hpl : (backTo pos (starEach [z] X.env)).any (·.1) = false := by rfl) :
    SE C X (.call id [] (.cons a (.cons b (.cons c .nil)))) (.Call (.Attribute x "find" p) [y, z] [] pos) := by
  refine imp_e (pe_bm PySem.F.plainAttrs_str PySem.F.slot_str_find PySem.F.type_str_find mt_find3 ha (pa_cons hb (pa_cons hc pa_nil hs2) hs) hbase hfew hline hs hpl) fun σ H Q ⟨B0, H0, B, env, o, d, k, R, he, q⟩ => ?_
  obtain ⟨ds, h1, h2⟩ := bind1_some (show ((evm C [] (.cons a (.cons b (.cons c .nil))) env).bind fun ds => fr (C id ds)) = some (d, k) from he)
  obtain ⟨h3, rfl⟩ := fr_some h2
  rw [hC] at h3
  obtain ⟨s, ch, i, rfl, rfl⟩ := semFind_some h3
  obtain ⟨d1, g1, g2⟩ := bind1_some (show ((vm (ev C a env)).bind fun d => (evm C [] (.cons b (.cons c .nil)) env).bind fun ds => some (d :: ds)) = some [.str s, .str [ch], .int i] from h1)
  obtain ⟨r1, g3, g4⟩ := bind1_some g2
  cases g4
  obtain ⟨d2, g5, g6⟩ := bind1_some (show ((vm (ev C b env)).bind fun d => (evm C [] (.cons c .nil) env).bind fun ds => some (d :: ds)) = some [.str [ch], .int i] from g3)
  obtain ⟨r2, g7, g8⟩ := bind1_some g6
  cases g8
  obtain ⟨d3, g9, g10⟩ := bind1_some (show ((vm (ev C c env)).bind fun d => (evm C [] .nil env).bind fun ds => some (d :: ds)) = some [.int i] from g7)
  obtain ⟨r3, g11, g12⟩ := bind1_some g10
  cases g12
  refine use_v R g1 fun B1 H1 u s1 ru => ?_
  obtain rfl := rep_str ru
  refine ⟨rfl, use_v (R.step s1) g5 fun B2 H2 v s2 rv => use_v ((R.step s1).step s2) g9 fun B3 H3 w s3 rw' => ?_⟩
  obtain rfl := rep_str rv
  obtain rfl := rep_int rw'
  refine ⟨sv s, sv [ch], i, rfl, rfl, ?_⟩
  rw [find3_F]
  exact q B3 H3 _ [] ((s1.trans s2).trans s3) ⟨rfl, int_rep⟩ FrF.nil
end
end Hg
end

section
set_option Elab.async false
set_option maxRecDepth 100000
set_option maxHeartbeats 1000000
/-! Snd34: a def that returns a new pair of something and a new list; one who changes that list. -/
namespace Hg
open PySem PySem.Spec PyProof.Rows L2
variable [TB : Tabl]
def noRetS : Hg.S → Bool
  | .skip => true | .asg .. => true | .asgT .. => true | .frz _ => true | .kill _ => true | .never => true
  | _ => false
def noRet : SX → Bool
  | .st s => noRetS s | .seq a b => noRet a && noRet b | .ite _ a b => noRet a && noRet b | .for_ _ _ s => noRet s | .raise .. => true | .asg .. => true | .drop .. => true
  | _ => false
def endsX : SX → Bool
  | .ret _ => true | .raise .. => true | .seq a b => endsX a || endsX b | _ => false
section
variable {C : Nat → List D → Option D} {CR : Nat → List D → Option RV}
theorem noRetS_ok {s : Hg.S} (h : noRetS s = true) {env : Hg.Env} {d : D} : exec C FU s env ≠ some (.rt d) := fun z => by
  cases s <;> simp [noRetS] at h
  · cases z
  · rename_i i m e
    obtain ⟨p, h1, h2⟩ := bind1_some (show ((ev C e env).bind fun p => (vm (some p)).bind fun d => some (Out.nx (env.set i (.val d (slotK m p.2))))) = some (.rt d) from z)
    obtain ⟨d', h3, h4⟩ := bind1_some h2
    cases h4
  · rename_i is e
    unfold exec at z
    simp only [Option.bind_eq_some_iff] at z
    obtain ⟨a, h1, h2⟩ := z
    simp at h2
    try (first | contradiction | (split at h2 <;> simp at h2))
  · cases z
  · cases z
  · cases z
theorem loopX_noRet {f : D → Hg.Env → Option OutX} (hf : ∀ x e d, f x e ≠ some (.rt d)) : ∀ (xs : List D) (env : Hg.Env) (d : D), loopX f xs env ≠ some (.rt d)
  | [], env, d, z => by cases z
  | x :: xs, env, d, z => by
    have z' : andX (f x env) (loopX f xs) = some (.rt d) := z
    rcases andX_some z' with ⟨e, h1, h2⟩ | ⟨h1, h2⟩
    · exact loopX_noRet hf xs e d h2
    · exact hf x env d h1
theorem noRet_ok : ∀ (s : SX), noRet s = true → ∀ (env : Hg.Env) (d : D), execX C CR s env ≠ some (.rt d)
  | .st s, h, env, d, z => by
    have z' : (exec C FU s env).map toX = some (.rt d) := z
    rw [Option.map_eq_some_iff] at z'
    obtain ⟨o, h1, h2⟩ := z'
    cases o with
    | nx e => cases h2
    | rt d => exact noRetS_ok h h1
  | .seq a b, h, env, d, z => by
    have h' : noRet a = true ∧ noRet b = true := by simpa [noRet] using h
    have z' : andX (execX C CR a env) (execX C CR b) = some (.rt d) := z
    rcases andX_some z' with ⟨e, h1, h2⟩ | ⟨h1, h2⟩
    · exact noRet_ok b h'.2 e d h2
    · exact noRet_ok a h'.1 env d h1
  | .ite t a b, h, env, d, z => by
    have h' : noRet a = true ∧ noRet b = true := by simpa [noRet] using h
    obtain ⟨p, h1, h2⟩ := bind1_some (show ((evT C t env).bind fun p => if p then execX C CR a env else execX C CR b env) = some (.rt d) from z)
    cases p with
    | true => exact noRet_ok a h'.1 env d h2
    | false => exact noRet_ok b h'.2 env d h2
  | .for_ tg it s, h, env, d, z => by
    have h' : noRet s = true := h
    obtain ⟨xs, h1, h2⟩ := bind1_some (show ((evI C it env).bind fun xs => if xs.2 then none else loopX (fun d e => (bindT tg d e).bind (execX C CR s)) xs.1 env) = some (.rt d) from z)
    split at h2
    · cases h2
    · refine loopX_noRet (fun x e d w => ?_) _ _ _ h2
      obtain ⟨e1, h3, h4⟩ := bind1_some w
      exact noRet_ok s h' e1 d h4
  | .raise c a, h, env, d, z => by
    cases a with
    | none => cases z
    | some e =>
      have z' : (vm (ev C e env)).map (fun d => OutX.ex ⟨c, some d⟩ env) = some (.rt d) := z
      rw [Option.map_eq_some_iff] at z'
      obtain ⟨o, h1, h2⟩ := z'
      cases h2
  | .asg i e, h, env, d, z => by
    have z' : (evX C CR e env).map (fun r => match r with | .ok d => OutX.nx (env.set i (.val d .frz)) | .ex x => .ex x env) = some (.rt d) := z
    rw [Option.map_eq_some_iff] at z'
    obtain ⟨o, h1, h2⟩ := z'
    cases o <;> cases h2
  | .drop e, h, env, d, z => by
    have z' : (evX C CR e env).map (fun r => match r with | .ok _ => OutX.nx env | .ex x => .ex x env) = some (.rt d) := z
    rw [Option.map_eq_some_iff] at z'
    obtain ⟨o, h1, h2⟩ := z'
    cases o <;> cases h2
theorem ends_ok : ∀ (s : SX), endsX s = true → ∀ (env e : Hg.Env), execX C CR s env ≠ some (.nx e)
  | .seq a b, h, env, e, z => by
    have h' : endsX a = true ∨ endsX b = true := by simpa [endsX] using h
    have z' : andX (execX C CR a env) (execX C CR b) = some (.nx e) := z
    rcases andX_some z' with ⟨e1, h1, h2⟩ | ⟨h1, h2⟩
    · rcases h' with q | q
      · exact ends_ok a q env e1 h1
      · exact ends_ok b q e1 e h2
    · exact h2 e rfl
  | .ret x, h, env, e, z => by
    have z' : (evX C CR x env).map (fun r => match r with | .ok d => OutX.rt d | .ex x => .ex x env) = some (.nx e) := z
    rw [Option.map_eq_some_iff] at z'
    obtain ⟨o, h1, h2⟩ := z'
    cases o <;> cases h2
  | .raise c a, h, env, e, z => by
    cases a with
    | none => cases z
    | some x =>
      have z' : (vm (ev C x env)).map (fun d => OutX.ex ⟨c, some d⟩ env) = some (.nx e) := z
      rw [Option.map_eq_some_iff] at z'
      obtain ⟨o, h1, h2⟩ := z'
      cases h2
end
/-- a new pair of d0 and a new list -/
structure NewP (K : PySem.W.Frag) (B H B' H' : Hp) (d0 : D) (ds : List D) (t a : Addr) (v0 : V) (vs : List V) : Prop where
  st : Step B H B' H'
  ht : H' t = some (.tup [v0, .ref a])
  ha : H' a = some (.lst vs)
  bt : B' t = none
  ba : B' a = none
  nt : H t = none
  na : H a = none
  ne : t ≠ a
  r0 : Rep K B' d0 v0
  rs : Reps K B' ds vs
theorem NewP.give {K : PySem.W.Frag} {B H B' H' : Hp} {d0 : D} {ds : List D} {t a : Addr} {v0 : V} {vs : List V} (N : NewP K B H B' H' d0 ds t a v0 vs) : Step B H (joinH B' H' [t, a]) H' ∧ Rep K (joinH B' H' [t, a]) (.tup [d0, .lst ds]) (.ref t) := by
  have f : FrF H B' [t, a] := ⟨by simp [N.ne], by simpa using ⟨N.nt, N.na⟩, by simpa using ⟨N.bt, N.ba⟩⟩
  refine ⟨N.st.give f, ?_⟩
  have e : Ext B' (joinH B' H' [t, a]) := joinH_b f.b
  exact tup_rep ((joinH_in (by simp)).trans N.ht) (reps_cons (Rep.mono e _ _ N.r0) (reps_cons (lst_rep (SqL.of ((joinH_in (by simp)).trans N.ha)) (Reps.mono e _ _ N.rs)) reps_nil))
theorem NewP.pre {K : PySem.W.Frag} {B0 H0 B H B' H' : Hp} {d0 : D} {ds : List D} {t a : Addr} {v0 : V} {vs : List V} (N : NewP K B H B' H' d0 ds t a v0 vs) (s : Step B0 H0 B H) : NewP K B0 H0 B' H' d0 ds t a v0 vs :=
  ⟨s.trans N.st, N.ht, N.ha, N.bt, N.ba, s.hh.back N.nt, s.hh.back N.na, N.ne, N.r0, N.rs⟩
def OutOkO (K : PySem.W.Frag) (cv : Nat → Value) (B0 H0 B : Hp) (Dn : Ends) (W : WX) : OutX → Prop
  | .nx env' => ∀ B' σ' H' o', Rel K B0 H0 B' env' σ' H' o' → Ext B B' → Dn.nx σ' H'
  | .rt d => ∀ d0 ds, d = .tup [d0, .lst ds] → ∀ B' H' t a v0 vs, NewP K B0 H0 B' H' d0 ds t a v0 vs → Dn.rt (.ref t) H'
  | .ex x env' => ∀ B' σ' H' o' dd, Rel K B0 H0 B' env' σ' H' o' → Ext B B' → ArgOk K B' H' x.arg dd → W (cv x.cls) dd σ' H'
theorem OutOkO.mono {K : PySem.W.Frag} {cv : Nat → Value} {B0 H0 B B1 : Hp} {Dn : Ends} {W : WX} {out : OutX} (h : OutOkO K cv B0 H0 B Dn W out) (e : Ext B B1) : OutOkO K cv B0 H0 B1 Dn W out := by
  cases out with
  | nx env' => exact fun B' σ' H' o' R e' => h B' σ' H' o' R (e.trans e')
  | rt d => exact h
  | ex x env' => exact fun B' σ' H' o' dd R e' a => h B' σ' H' o' dd R (e.trans e') a
def tSO (C : Nat → List D → Option D) (CR : Nat → List D → Option RV) (K : PySem.W.Frag) (cv : Nat → Value) (W : WX) (s : SX) : TS := fun Dn σ H => ∃ B0 H0 B env o out, Rel K B0 H0 B env σ H o ∧ execX C CR s env = some out ∧ OutOkO K cv B0 H0 B Dn W out
abbrev SBO (C : Nat → List D → Option D) (CR : Nat → List D → Option RV) (cv : Nat → Value) (X : Cx) (s : SX) (sts : List Stmt) : Prop := ∀ W, Takes X W → PSs X sts (tSO C CR X.K cv W s)
def spO (K : PySem.W.Frag) (cv : Nat → Value) (np : Nat) (sem : List D → Option RV) : Sp := fun vs H Q E => ∃ B ds r, Ext B H ∧ vs.length = np ∧ RepM K B H [] ds vs ∧ sem ds = some r ∧ TabsOk H ∧
  match r with
  | .ok d => ∀ d0 ds, d = .tup [d0, .lst ds] → ∀ B' H' t a v0 vs, NewP K B H B' H' d0 ds t a v0 vs → Q (.ref t) H'
  | .ex x => ∀ B' H' dd, Step B H B' H' → ArgOk K B' H' x.arg dd → E (cv x.cls) dd H'
theorem spO_X {K : PySem.W.Frag} {cv : Nat → Value} {np : Nat} {sem : List D → Option RV} : ∀ vs H Q E, spX K cv np sem vs H Q E → spO K cv np sem vs H Q E := fun vs H Q E ⟨B, ds, r, h1, h2, h3, h4, h5, q⟩ => by
  refine ⟨B, ds, r, h1, h2, h3, h4, h5, ?_⟩
  cases r with
  | ok d => exact fun d0 es e B' H' t a v0 vs N => by subst e; exact q _ H' _ N.give.1 N.give.2
  | ex x => exact q
def CalO (P : Program) (w : World) (K : PySem.W.Frag) (mg : Str → Option Value) (base : Heap) (cv : Nat → Value) (k : Nat) (n : Str) (np : Nat) (sem : List D → Option RV) : Prop :=
  ∃ f fd ps, FnOk P w K mg base (L2.CX P w) k f fd ps (spO K cv np sem) ∧ mg n = some (.ref f) ∧ PySem.W.keepIn K (.ref f) = true ∧ Binds K fd ps []
theorem CalO.x {P : Program} {w : World} {K : PySem.W.Frag} {mg : Str → Option Value} {base : Heap} {cv : Nat → Value} {k : Nat} {n : Str} {np : Nat} {sem : List D → Option RV} (c : CalO P w K mg base cv k n np sem) : CalX P w K mg base cv k n np sem := by
  obtain ⟨f, fd, ps, F, h1, h2, h3⟩ := c
  exact ⟨f, fd, ps, F.imp spO_X, h1, h2, h3⟩
section
variable {C : Nat → List D → Option D} {CR : Nat → List D → Option RV} {cv : Nat → Value} {X : Cx} {a b c : E} {x y z : Expr} {pos p pos1 pos2 pos3 pos4 : Pos} {n : Str} {s1 s2 : SX} {st : Stmt} {sts : List Stmt} {t : T}
theorem so_cons (h1 : SSX C CR cv X s1 st) (h2 : SBO C CR cv X s2 sts) (hn : noRet s1 = true := by rfl) : SBO C CR cv X (.seq s1 s2) (st :: sts) := fun W tk => imp_ss (pss_cons (h1 W tk) (h2 W tk)) fun Dn σ H ⟨B0, H0, B, env, o, out, R, he, q⟩ => by
  have he' : andX (execX C CR s1 env) (execX C CR s2) = some out := he
  rcases andX_some he' with ⟨e1, h1, h2⟩ | ⟨h1, h2⟩
  · exact ⟨B0, H0, B, env, o, _, R, h1, fun B' σ' H' o' R' e => ⟨B0, H0, B', e1, o', out, R', h2, q.mono e⟩⟩
  · refine ⟨B0, H0, B, env, o, out, R, h1, ?_⟩
    cases out with
    | nx e => exact absurd rfl (h2 e)
    | rt d => exact absurd h1 (noRet_ok s1 hn env d)
    | ex x e => exact q
theorem so_kill {is : List Nat} {s : SX} (h : SBO C CR cv X s sts) : SBO C CR cv X (.seq (.st (.kill is)) s) sts := fun W tk => imp_ss (h W tk) fun Dn σ H ⟨B0, H0, B, env, o, out, R, he, q⟩ =>
  ⟨B0, H0, B, unset is env, o, out, R.unset is, he, q⟩
/-- return (e, list(l)) -/
theorem so_last {kk : Nat} (G : Gd X) (ha : SE C X a x) (hb : SE C X (.list b) y) (hs1 : starEach [x, y] X.env = (false, eval x X.env) :: starEach [y] X.env := by rfl) (hs2 : starEach [y] X.env = (false, eval y X.env) :: starEach [] X.env := by rfl) : SBO C CR cv X (.seq (.ret (.ok (.tup (.cons a (.cons (.list b) .nil))))) (.st .skip)) [.Return (some (.Tuple [x, y] kk pos)) pos1] := fun W tk => by
  refine imp_ss (pss_cons (ps_ret (pe_tup (pa_cons ha (pa_cons hb pa_nil hs2) hs1))) pss_nil) fun Dn σ H ⟨B0, H0, B, env, o, out, R, he, q⟩ => ?_
  have he' : andX ((evX C CR (.ok (.tup (.cons a (.cons (.list b) .nil)))) env).map (fun r => match r with | .ok d => OutX.rt d | .ex x => .ex x env)) (execX C CR (.st .skip)) = some out := he
  cases e1 : evX C CR (.ok (.tup (.cons a (.cons (.list b) .nil)))) env with
  | none => rw [e1] at he'; cases he'
  | some r =>
    have e2 : (vm (ev C (.tup (.cons a (.cons (.list b) .nil))) env)).map RV.ok = some r := e1
    rw [Option.map_eq_some_iff] at e2
    obtain ⟨d, e3, rfl⟩ := e2
    rw [e1] at he'
    cases he'
    cases e4 : ev C (.tup (.cons a (.cons (.list b) .nil))) env with
    | none => rw [e4] at e3; cases e3
    | some dk =>
      obtain ⟨d1, k1⟩ := dk
      rw [e4] at e3
      obtain ⟨ds, h1, h2⟩ := bind1_some (show ((evs C (.cons a (.cons (.list b) .nil)) env).bind fun ds => if ds.length ≤ L then some ((.tup ds, .frz) : D × Kd) else none) = some (d1, k1) from e4)
      obtain ⟨hz, h3⟩ := if_some h2
      cases h3
      have e5 : (if Kd.frz = .frz ∨ Kd.frz = .new1 ∨ Kd.frz = .new2 ∨ (D.tup ds).atom = true then some (D.tup ds) else none) = some d := e3
      rw [if_pos (.inl rfl)] at e5
      cases e5
      obtain ⟨d0, h4, h5⟩ := bind1_some (show ((vm (ev C a env)).bind fun d => (evs C (.cons (.list b) .nil) env).bind fun ds => some (d :: ds)) = some ds from h1)
      obtain ⟨dr, h6, h7⟩ := bind1_some h5
      cases h7
      obtain ⟨d2, h8, h9⟩ := bind1_some (show ((vm (ev C (.list b) env)).bind fun d => (evs C .nil env).bind fun ds => some (d :: ds)) = some dr from h6)
      obtain ⟨dn, h10, h11⟩ := bind1_some h9
      cases h11
      cases (show some [] = some dn from h10)
      cases e6 : ev C (.list b) env with
      | none => rw [e6] at h8; cases h8
      | some dk2 =>
        obtain ⟨d3, k3⟩ := dk2
        have e7 : ∃ xs, d3 = .lst xs ∧ k3 = .new1 := by
          obtain ⟨xx, g1, g2⟩ := bind1_some (show ((em (ev C b env)).bind fun x => match x with | .lst xs => some ((.lst xs, .new1) : D × Kd) | .tup xs => some (.lst xs, .new1) | _ => none) = some (d3, k3) from e6)
          cases xx <;> simp only [reduceCtorEq] at g2
          · cases g2; exact ⟨_, rfl, rfl⟩
          · cases g2; exact ⟨_, rfl, rfl⟩
        obtain ⟨xs, rfl, rfl⟩ := e7
        rw [e6] at h8
        have h8' : (if Kd.new1 = .frz ∨ Kd.new1 = .new1 ∨ Kd.new1 = .new2 ∨ (D.lst xs).atom = true then some (D.lst xs) else none) = some d2 := h8
        rw [if_pos (.inr (.inl rfl))] at h8'
        cases h8'
        refine use_v R h4 fun B1 H1 v0 s1 r1 => ?_
        refine ⟨B0, H0, B1, env, o, _, _, R.step s1, e6, fun B2 H2 v F s2 r2 f2 => ?_⟩
        obtain ⟨pa, vs, rfl, rfl, g1, g2⟩ := own1_lst (show Own1 X.K B2 H2 v (.lst xs) F from r2)
        refine ⟨by show 2 ≤ sizeLine; rw [sizeLine_eq]; decide, fun p hp => q d0 xs rfl B2 (upd H2 p (.tup [v0, .ref pa])) p pa v0 vs ?_⟩
        have st := (R.step (s1.trans s2)).done
        have hpa : pa ≠ p := fun z => by subst z; rw [g1] at hp; cases hp
        exact ⟨st.trans (Step.own s2.bh hp), upd_same, (upd_ne hpa).trans g1, s2.bh.back hp, f2.b pa (by simp), st.hh.back hp, (R.h0.trans s1.hh).back (f2.h pa (by simp)), fun z => hpa z.symm, Rep.mono s2.bb _ _ r1, g2⟩
theorem Rel.other {K : PySem.W.Frag} {B0 H0 B H : Hp} {env : Hg.Env} {σ : L2.St} {o : Addr → Option Nat} {a : Addr} {vs us : List V} (R : Rel K B0 H0 B env σ H o) (ha : H a = some (.lst vs)) (hb : B a = none) (h0 : H0 a = none) (ho : o a = none) : Rel K B0 H0 B env σ (upd H a (.lst us)) o where
  b0 := R.b0
  h0 := R.h0.upd h0 fun q z => by rw [ha] at z; exact code_lst z
  bh := R.bh.upd hb fun q z => by rw [ha] at z; exact code_lst z
  tt := R.tt
  gr := R.gr
  len := R.len
  sl := fun i d k e => by
    obtain ⟨v, F, h1, h2, h3, h4⟩ := R.sl i d k e
    refine ⟨v, F, h1, h2.keep (Ext.refl _) fun b hbF => upd_ne fun z => ?_, h3, h4⟩
    subst z
    rw [h4 _ hbF] at ho
    cases ho
  fr := fun b i e => by
    obtain ⟨h1, h2, h3⟩ := R.fr b i e
    refine ⟨h1, h2, ?_⟩
    rw [upd_ne fun z => by subst z; rw [e] at ho; cases ho]
    exact h3
  nc := fun b i e q => by
    rw [upd_ne fun z => by subst z; rw [e] at ho; cases ho]
    exact R.nc b i e q
theorem guard_ok {C : Nat → List D → Option D} {env : Hg.Env} {i : Nat} {d0 : D} {xs : List D} {out : Out} {s : Hg.S} (hi : env[i]? = some (.val (.tup [d0, .lst xs]) .frz)) (h : exec C FU (.seq (.ite (.val (.lt (.len (.ix (.var i) (.c (.int 1)))) (.c (.int 1000)))) .skip .never) s) env = some out) : xs.length < 1000 ∧ exec C FU s env = some out := by
  have h' : andThen ((evT C (.val (.lt (.len (.ix (.var i) (.c (.int 1)))) (.c (.int 1000)))) env).bind fun p => if p then some (Out.nx env) else none) (exec C FU s) = some out := h
  have e1 : ev C (.var i) env = some (.tup [d0, .lst xs], .frz) := by
    show (match env[i]? with | some (.val d k) => some (d, k) | _ => none) = _
    rw [hi]
  have e2 : ev C (.ix (.var i) (.c (.int 1))) env = some (.lst xs, .frz) := by
    show ((ev C (.var i) env).bind fun p => (bm (ev C (.c (.int 1)) env)).bind fun y => match p.1 with
      | .lst xs => (asInt y).bind fun i => (getIx xs i).map fun d => (d, subK p.2)
      | .tup xs => (asInt y).bind fun i => (getIx xs i).map fun d => (d, subK p.2)
      | .dic kvs => (keyD y).bind fun k => (look kvs k).map fun d => (d, subK p.2)
      | .str s => (asInt y).bind fun i => if s.length ≤ L then (getIx s i).map fun d => (.str [d], .frz) else none
      | _ => none) = _
    rw [e1]
    rfl
  have e3 : ev C (.len (.ix (.var i) (.c (.int 1)))) env = some (.int xs.length, .frz) := by
    show frI ((bm (ev C (.ix (.var i) (.c (.int 1))) env)).bind lenL) = _
    rw [e2]
    rfl
  have e4 : evT C (.val (.lt (.len (.ix (.var i) (.c (.int 1)))) (.c (.int 1000)))) env = some (decide ((xs.length : Int) < 1000)) := by
    show (bm ((bm (ev C (.len (.ix (.var i) (.c (.int 1)))) env)).bind fun x => (bm (ev C (.c (.int 1000)) env)).bind fun y => frB (ltA x y))).bind asBl = _
    rw [e3]
    rfl
  rw [e4] at h'
  by_cases z : (xs.length : Int) < 1000
  · rw [decide_eq_true z] at h'
    exact ⟨by omega, h'⟩
  · rw [decide_eq_false z] at h'
    cases h'
theorem guard_in {C : Nat → List D → Option D} {env : Hg.Env} {i : Nat} {out : Out} {s : Hg.S} (h : exec C FU (.seq (.ite (.val (.lt (.len (.ix (.var i) (.c (.int 1)))) (.c (.int 1000)))) .skip .never) s) env = some out) : i < env.length := by
  by_cases z : i < env.length
  · exact z
  · exfalso
    have h' : andThen ((evT C (.val (.lt (.len (.ix (.var i) (.c (.int 1)))) (.c (.int 1000)))) env).bind fun p => if p then some (Out.nx env) else none) (exec C FU s) = some out := h
    have e1 : ev C (.var i) env = none := by
      show (match env[i]? with | some (.val d k) => some (d, k) | _ => none) = _
      rw [List.getElem?_eq_none (by omega)]
    have e2 : ev C (.ix (.var i) (.c (.int 1))) env = none := by
      show ((ev C (.var i) env).bind fun p => (bm (ev C (.c (.int 1)) env)).bind fun y => match p.1 with
        | .lst xs => (asInt y).bind fun i => (getIx xs i).map fun d => (d, subK p.2)
        | .tup xs => (asInt y).bind fun i => (getIx xs i).map fun d => (d, subK p.2)
        | .dic kvs => (keyD y).bind fun k => (look kvs k).map fun d => (d, subK p.2)
        | .str s => (asInt y).bind fun i => if s.length ≤ L then (getIx s i).map fun d => (.str [d], .frz) else none
        | _ => none) = _
      rw [e1]
      rfl
    have e3 : ev C (.len (.ix (.var i) (.c (.int 1)))) env = none := by
      show frI ((bm (ev C (.ix (.var i) (.c (.int 1))) env)).bind lenL) = _
      rw [e2]
      rfl
    have e4 : evT C (.val (.lt (.len (.ix (.var i) (.c (.int 1)))) (.c (.int 1000)))) env = none := by
      show (bm ((bm (ev C (.len (.ix (.var i) (.c (.int 1)))) env)).bind fun x => (bm (ev C (.c (.int 1000)) env)).bind fun y => frB (ltA x y))).bind asBl = _
      rw [e3]
      rfl
    rw [e4] at h'
    cases h'
/-- n = f(..); if z: return False; n[1].append(0); return y -/
theorem sb_own {k j id i : Nat} {np k1 k2 k3 : Nat} {sem : List D → Option RV} {es : Es} {xs : List Expr} {m : Str} {pz p1 p2 p3 p4 p5 p6 p7 p8 p9 : Pos} (G : Gd X) (cO : CalO X.prog X.w X.K X.mg X.base cv j m np sem) (hr : Room k X.A) (hk : j ≤ k) (ha : SM C X [] es (x :: xs)) (ht : ST C X t z) (hy : SE C X a y)
    (hC : C id = okD sem := by rfl) (hnp : Es.count es = np := by rfl) (hg : Gl X m := by rfl) (hdb : (m == ("__debug__" : Str)) = false := by decide) (he : starEach (x :: xs) X.env = (false, eval x X.env) :: starEach xs X.env := by rfl) (hpl : (backTo p2 (starEach xs X.env)).any (·.1) = false := by rfl)
    (hi : X.N[i]? = some n := by rfl) (hx : Loc X.env.scope n := by first | exact .inl rfl | exact .inr rfl) (hs : swapsWith (.Call (.Name m p1) (x :: xs) [] p2) (some (.Name n p3)) p4.line X.env = pure false := by rfl)
    (hf : X.fn n = true ∨ X.env.scope.names.lookup n = some .local := by first | exact .inl rfl | exact .inr rfl)
    (hv : Vis X.env.scope n := by first | exact Or.inl rfl | exact Or.inr (Or.inl rfl) | exact Or.inr (Or.inr rfl)) (hd : (n == ("__debug__" : Str)) = false := by decide) (hcd : (n == ("__classdict__" : Str)) = false := by decide)
    (hs2 : swapsWith (.Call (.Attribute (.Subscript (.Name n pos1) (.Constant (.int 1) k1 pos2) pos3) "append" pos4) [.Constant (.int 0) k2 p] [] p5) none p6.line X.env = pure false := by rfl)
    (hbase : attributeBase (.Subscript (.Name n pos1) (.Constant (.int 1) k1 pos2) pos3) "append" X.env (eval (.Subscript (.Name n pos1) (.Constant (.int 1) k1 pos2) pos3) X.env) = eval (.Subscript (.Name n pos1) (.Constant (.int 1) k1 pos2) pos3) X.env := by rfl)
    (hfew : ((backTo p5 (starEach [.Constant (.int 0) k2 p] X.env)).all (fun x => !x.1) && (backToKw p5 (keywordEach [] X.env)).all (fun x => x.1.isSome) && decide ([Expr.Constant (.int 0) k2 p].length + ([] : List Keyword).length + (if ([] : List Keyword).isEmpty then 0 else 1) < 30)) = true := by rfl)
    (hline : (pos4.endLine == p5.line) = true := by rfl) (hst : starEach [.Constant (.int 0) k2 p] X.env = (false, eval (.Constant (.int 0) k2 p) X.env) :: starEach [] X.env := by rfl) :
    SB C X (.seq (.asg i 0 (.call id [] es)) (.seq (.ite t (.seq (.ret (.c (.bl false))) .skip) .skip) (.seq (.ite (.val (.lt (.len (.ix (.var i) (.c (.int 1)))) (.c (.int 1000)))) .skip .never) (.seq (.kill [i]) (.seq (.ret a) .skip)))))
      [.Assign [.Name n p3] (.Call (.Name m p1) (x :: xs) [] p2) p4, .If z [.Return (some (.Constant (.bool false) k3 p7)) p8] [] p9,
       .Expr (.Call (.Attribute (.Subscript (.Name n pos1) (.Constant (.int 1) k1 pos2) pos3) "append" pos4) [.Constant (.int 0) k2 p] [] p5) p6, .Return (some y) pz] := by
  obtain ⟨f, fd, ps, F, g1, g2, g3⟩ := cO
  have T4 : SB C X (.seq (.ret a) .skip) [.Return (some y) pz] := sb_seq (ss_ret hy) sb_skip
  have T2 : SB C X (.seq (.ret (.c (.bl false))) .skip) [.Return (some (.Constant (.bool false) k3 p7)) p8] := sb_seq (ss_ret se_b) sb_skip
  have T3 := ps_expr (pe_bm PySem.F.plainAttrs_list PySem.F.slot_list_append PySem.F.type_list_append mt_append (pe_ix ix_tup (pv i hi hv hd hcd) (pe_int (X := X) (i := 1) (j := k1) (pos := pos2)) (fun _ _ => rfl)) (pa_cons (pe_int (X := X) (i := 0) (j := k2) (pos := p)) pa_nil hst) hbase hfew hline hst rfl) hs2
  refine imp_ss (pss_cons (ps_set G.nd hi hx (pe_call (pos := p2) F (hr.mono hk) hg g1 g2 g3 .nil passL ha hdb he hpl) hs hf) (pss_cons (ps_if ht T2 pss_nil) (pss_cons T3 T4))) fun Dn σ H ⟨B0, H0, B, env, o, out, R, hx, q⟩ => ?_
  have hx1 : andThen ((ev C (.call id [] es) env).bind fun p => (vm (some p)).bind fun d => some (Out.nx (env.set i (.val d (slotK 0 p.2))))) (exec C FU (.seq (.ite t (.seq (.ret (.c (.bl false))) .skip) .skip) (.seq (.ite (.val (.lt (.len (.ix (.var i) (.c (.int 1)))) (.c (.int 1000)))) .skip .never) (.seq (.kill [i]) (.seq (.ret a) .skip))))) = some out := hx
  cases e1 : ev C (.call id [] es) env with
  | none => rw [e1] at hx1; cases hx1
  | some dk =>
    obtain ⟨d, kd⟩ := dk
    obtain ⟨ds, h4, h5⟩ := bind1_some (show ((evm C [] es env).bind fun ds => fr (C id ds)) = some (d, kd) from e1)
    obtain ⟨h6, rfl⟩ := fr_some h5
    rw [hC] at h6
    have h7 : sem ds = some (.ok d) := by
      unfold okD at h6
      split at h6
      · cases h6; assumption
      · cases h6
    rw [e1] at hx1
    have hx2 : exec C FU (.seq (.ite t (.seq (.ret (.c (.bl false))) .skip) .skip) (.seq (.ite (.val (.lt (.len (.ix (.var i) (.c (.int 1)))) (.c (.int 1000)))) .skip .never) (.seq (.kill [i]) (.seq (.ret a) .skip)))) (env.set i (.val d .frz)) = some out := hx1
    refine use_m R h4 fun B' H' vs s r => ?_
    rw [List.append_nil]
    refine ⟨B', ds, .ok d, s.bh, by rw [r.length, evm_length h4, hnp], r, h7, R.tt.ext (R.h0.trans s.hh), fun d0 xs e B2 H2 t2 a2 v0 ws N0 => ?_⟩
    subst e
    have N := N0.pre s
    have RU := (R.step N.st).putUn (i := i) (w := some (.ref t2))
    have RT := (R.step N.give.1).put (i := i) N.give.2
    have hx3 : andThen ((evT C t (env.set i (.val (.tup [d0, .lst xs]) .frz))).bind fun p => if p then exec C FU (.seq (.ret (.c (.bl false))) .skip) (env.set i (.val (.tup [d0, .lst xs]) .frz)) else some (Out.nx (env.set i (.val (.tup [d0, .lst xs]) .frz)))) (exec C FU (.seq (.ite (.val (.lt (.len (.ix (.var i) (.c (.int 1)))) (.c (.int 1000)))) .skip .never) (.seq (.kill [i]) (.seq (.ret a) .skip)))) = some out := hx2
    cases e2 : evT C t (env.set i (.val (.tup [d0, .lst xs]) .frz)) with
    | none => rw [e2] at hx3; cases hx3
    | some b =>
      rw [e2] at hx3
      refine use_t RT e2 fun B3 H3 s3 => ?_
      have RU' := RU.step (B' := B2) (H' := H3) ⟨Ext.refl _, s3.hh, RU.bh.trans s3.hh, fun _ h => .inl h⟩
      cases b with
      | true =>
        cases hx3
        exact ⟨B0, H0, B2, env.set i .un, _, _, RU', rfl, q⟩
      | false =>
        have hx4 : exec C FU (.seq (.ite (.val (.lt (.len (.ix (.var i) (.c (.int 1)))) (.c (.int 1000)))) .skip .never) (.seq (.kill [i]) (.seq (.ret a) .skip))) (env.set i (.val (.tup [d0, .lst xs]) .frz)) = some out := hx3
        have hil : i < env.length := by
          have := guard_in hx4
          rwa [List.length_set] at this
        obtain ⟨hz, hx5⟩ := guard_ok (by rw [List.getElem?_set_self hil]) hx4
        have hx6 : exec C FU (.seq (.ret a) .skip) (unset [i] (env.set i (.val (.tup [d0, .lst xs]) .frz))) = some out := hx5
        have hun : unset [i] (env.set i (.val (.tup [d0, .lst xs]) .frz)) = env.set i .un := by
          show (env.set i (.val (.tup [d0, .lst xs]) .frz)).set i .un = _
          rw [List.set_set]
        rw [hun] at hx6
        have ha3 : H3 a2 = some (.lst ws) := s3.hh.at N.ha nt_lst
        have hls : ws.length < sizeLine := by
          rw [N.rs.length, sizeLine_eq]
          omega
        refine ⟨.ref t2, ?_, t2, [v0, .ref a2], 1, .ref a2, rfl, rfl, SqT.of (s3.hh.at N.ht nt_tup), rfl, .inl ⟨rfl, ws, SqL.of ha3⟩, a2, ws, .int 0, rfl, rfl, ha3, hls, ?_⟩
        · rw [List.getElem?_set_self]
          rw [R.len]; exact hil
        · have ho : dropO o i a2 = none := by
            cases z : dropO o i a2 with
            | none => rfl
            | some j => exact absurd N.na (R.fr a2 j (dropO_some z).1).2.2
          exact ⟨B0, H0, B2, env.set i .un, _, _, RU'.other ha3 N.ba (R.h0.back N.na) ho, hx6, q.mono N.st.bb⟩
end
section
variable {P : Program} {w : World} {K : PySem.W.Frag} {mg : Str → Option Value} {base : Heap} {C : Nat → List D → Option D} {CR : Nat → List D → Option RV} {cv : Nat → Value} {n ql : Str} {st : Stmt} {f : Addr} {fd : FuncData} {N ps : List Str} {k : Nat}
/-- a def that may raise, and returns a new pair -/
theorem fn_okO (fdef : XDef) (F : Fun K n ql st f fd) (S : FnScope N ps (defScope st)) (bf : Bf mg) (hN : N.length = fdef.slots) (hps : ps.length = fdef.params) (hle : fdef.params ≤ fdef.slots) (hen : endsX fdef.body = true)
    (hb : ∀ (cdv : Value) (A : Around) (outer : List PySem.Env) (s : Shared) (H : Hp) (E : XK), Room k (cxX P w K mg base N ql st f cdv A outer s H E).A → Gd (cxX P w K mg base N ql st f cdv A outer s H E) → PassesOwn (model P w) (cxX P w K mg base N ql st f cdv A outer s H E).A (cxX P w K mg base N ql st f cdv A outer s H E).env (cxX P w K mg base N ql st f cdv A outer s H E).xe →
      SBO C CR cv (cxX P w K mg base N ql st f cdv A outer s H E) fdef.body (defBody st)) :
    FnOk P w K mg base (L2.CX P w) (k + 1) f fd ps (spO K cv fdef.params (runX C CR fdef)) := by
  refine F.okX S (fun vs H Q E ⟨B, ds, d, _, h, _⟩ => by rw [h, hps]) (fun cdv A outer s H vs Q E hr h => ?_)
  obtain ⟨B, ds, r, e1, e2, e3, e4, ett, q⟩ := h
  have hu : Gd (cxX P w K mg base N ql st f cdv A outer s H E) := ⟨rfl, S.nd, by have := hr.un; show (A.deeper _).units + 80 < cLine; omega, bf.len, bf.range, bf.sorted, bf.min, bf.max, bf.sum, bf.isi, bf.list, bf.tuple, bf.dict, bf.int, bf.str, bf.bool, bf.set, bf.enum, bf.rev, bf.zip⟩
  refine ⟨tSO C CR K cv (fun cls d _ H => E cls d H) fdef.body, hb cdv A outer s H E hr hu (passes_of rfl) _ (takes_of rfl rfl rfl rfl), ?_⟩
  unfold runX at e4
  obtain ⟨hd, e5⟩ := ifn_some e4
  cases hx : execX C CR fdef.body (startEnv fdef.fd ds) with
  | none => rw [hx] at e5; cases e5
  | some out =>
    rw [hx] at e5
    refine ⟨B, H, B, startEnv fdef.fd ds, fun _ => none, out, startX hN hle hd e1 e3 ett (ps := ps), hx, ?_⟩
    cases out with
    | rt d2 =>
      cases e5
      exact q
    | nx env' => exact absurd hx (ends_ok fdef.body hen _ _)
    | ex x env' =>
      cases e5
      exact fun B' σ' H' o' dd R e a => q B' H' dd R.done a
theorem calO_of {ps : List Str} {np : Nat} {sem : List D → Option RV} (F : Fun K n ql st f fd) (h : FnOk P w K mg base (L2.CX P w) k f fd ps (spO K cv np sem)) (g : mg n = some (.ref f)) (b : Binds K fd ps []) : CalO P w K mg base cv k n np sem := ⟨f, fd, ps, h, g, F.kp, b⟩
end
end Hg
end

section
set_option Elab.async false
set_option maxRecDepth 100000
set_option maxHeartbeats 1000000
/-! Snd35: BadHedge.__init__; a handler that asks e.at. -/
namespace Hg
open PySem PySem.Spec PyProof.Rows L2
variable [TB : Tabl]
theorem spI_len {C : Addr} {vs : List V} {H : Hp} {Q : VK} {E : XK} (h : spI C vs H Q E) : vs.length = 2 := by
  obtain ⟨a, y, rfl, _⟩ := h
  rfl
theorem init_rd {K : PySem.W.Frag} {mg : Str → Option Value} {HE C fI : Addr} {vs : List V} {H : Hp} {Q : VK} {E : XK} {m : Str} (bh : BhF K mg HE C fI) (h : spI C vs H Q E) :
    tSeq (tDrop (tVeI K (tCons (tVar 0) (tCons (tC (.str m)) tNil)))) (tSeq (tOst K ("at" : Str) (tVar 0) (tVar 1)) tNext) { nx := fun _ H' => Q .non H', rt := Q } (start ["self", "at"] vs) H := by
  obtain ⟨a, y, rfl, ha, q⟩ := h
  refine ⟨.ref a, rfl, a, C, [.str m], rfl, by simp, bh.ox, ha, ?_⟩
  exact ⟨y, rfl, .ref a, rfl, a, C, rfl, bh.ox, bh.hat, .inl ⟨ha, fun dx h1 h2 => q dx h1 h2⟩⟩
section
variable {C : Nat → List D → Option D} {X : Cx} {sts : List Stmt} {a : Addr} {cls : Value} {d : Option Addr} {i : Nat} {cv : Nat → Value} {ks : List Nat}
theorem sh_atW {e : D → Hg.S} (he : ∀ d0 env out, d0.atom = false → exec C FU (e d0) env ≠ some out) (h : cls = cv 7 → ∀ d0 : D, d0.atom = true → PSs X sts (tSA C X.K i a (some d0) d (e d0))) : PSs X sts (tHnA C X.K cv ks i (atS e) a cls d) :=
  ⟨fun pins s σ H Dn I ⟨x, e1, e2, e4, B0, H0, B, env, o, out, R, hx, q, ha⟩ => by
    by_cases z : x.cls = 7
    · cases har : x.arg with
      | none => simp only [atS, z, har, if_true, Option.elim] at hx; cases hx
      | some d0 =>
        have hx' : exec C FU (e d0) env = some out := by
          have : atS e x = e d0 := by simp [atS, z, har]
          rw [this] at hx
          exact hx
        cases hat : d0.atom with
        | false => exact absurd hx' (he d0 env out hat)
        | true =>
          rw [har] at ha
          exact (h (by rw [← e1, z]) d0 hat).run pins s σ H Dn I ⟨e4, B0, H0, B, env, o, out, R, hx', q, ha⟩
    · have : atS e x = .never := by simp [atS, z]
      rw [this] at hx
      cases hx⟩
end
theorem atT_at {C : Nat → List D → Option D} : ∀ d0 env out, d0.atom = false → exec C FU (atT d0) env ≠ some out := fun d0 env out h z => by
  have e1 : ev C (.c d0) env = none := by
    show (if d0.atom then some (d0, Kd.frz) else none) = none
    rw [h]; rfl
  have e2 : ev C (.tup (.cons (.c (.bl true)) (.cons (.c d0) .nil))) env = none := by
    show (((vm (ev C (.c (.bl true)) env)).bind fun d => ((vm (ev C (.c d0) env)).bind fun d => (evs C .nil env).bind fun ds => some (d :: ds)).bind fun ds => some (d :: ds)).bind fun ds => if ds.length ≤ L then some ((.tup ds, .frz) : D × Kd) else none) = none
    rw [e1]
    rfl
  have z' : andThen ((vm (ev C (.tup (.cons (.c (.bl true)) (.cons (.c d0) .nil))) env)).map Out.rt) (exec C FU .skip) = some out := z
  rw [e2] at z'
  cases z'
/-! ### > and >= of tuples and lists -/
section
variable {C : Nat → List D → Option D} {X : Cx} {a b : E} {x y : Expr}
def rGtL (K : PySem.W.Frag) : R2 := fun x y H Q => ∃ (a b : Addr) (ns ms : List Int), x = .ref a ∧ y = .ref b ∧ SqL K H a (ns.map V.int) ∧ SqL K H b (ms.map V.int) ∧ Q (.bl (lexI ms ns)) H
def rGeL (K : PySem.W.Frag) : R2 := fun x y H Q => ∃ (a b : Addr) (ns ms : List Int), x = .ref a ∧ y = .ref b ∧ SqL K H a (ns.map V.int) ∧ SqL K H b (ms.map V.int) ∧ Q (.bl (!lexI ns ms)) H
def rGtT2 (K : PySem.W.Frag) : R2 := fun x y H Q => ∃ (a b : Addr) (ns ms : List Int), x = .ref a ∧ y = .ref b ∧ H a = some (.tup (ns.map V.int)) ∧ H b = some (.tup (ms.map V.int)) ∧ Q (.bl (lexI ms ns)) H
def rGeT2 (K : PySem.W.Frag) : R2 := fun x y H Q => ∃ (a b : Addr) (ns ms : List Int), x = .ref a ∧ y = .ref b ∧ H a = some (.tup (ns.map V.int)) ∧ H b = some (.tup (ms.map V.int)) ∧ Q (.bl (!lexI ns ms)) H
theorem op_gtL (hu : X.A.units + 80 < cLine) : OpR X (compareOp .Gt) (rGtL X.K) := by
  intro pins s σ H x y v u Q I rx ry h
  obtain ⟨a, b, ns, ms, rfl, rfl, h1, h2, q⟩ := h
  cases rx; cases ry
  obtain ⟨its, rv, hl, hz⟩ := I.list h1
  obtain ⟨its2, rv2, hl2, hz2⟩ := I.list h2
  refine PySem.W.gt_datum (α := List Int) (x := ns) (y := ms) (PySem.W.holds_list hl.isList (by simpa using PySem.W.HoldAll.of_ints rv.ints)) (PySem.W.holds_list hl2.isList (by simpa using PySem.W.HoldAll.of_ints rv2.ints)) (by show X.A.units + (0 + 1) < cLine; omega) ⟨.bl _, H, I, rfl, ?_⟩
  rw [show PySem.W.DatumOrd.lt ms ns = PySem.W.listLt ms ns from rfl, listLt_lexI]
  exact q
theorem op_gtT2 (hu : X.A.units + 80 < cLine) : OpR X (compareOp .Gt) (rGtT2 X.K) := by
  intro pins s σ H x y v u Q I rx ry h
  obtain ⟨a, b, ns, ms, rfl, rfl, h1, h2, q⟩ := h
  cases rx; cases ry
  obtain ⟨its, rv, hl, hz⟩ := I.tuple (SqT.of h1)
  obtain ⟨its2, rv2, hl2, hz2⟩ := I.tuple (SqT.of h2)
  refine PySem.W.gt_datum (α := PySem.W.Tup Int) (x := ⟨ns⟩) (y := ⟨ms⟩) (PySem.W.holds_tup hl (by simpa using PySem.W.HoldAll.of_ints (Vals.ints rv))) (PySem.W.holds_tup hl2 (by simpa using PySem.W.HoldAll.of_ints (Vals.ints rv2))) (by show X.A.units + (0 + 1) < cLine; omega) ⟨.bl _, H, I, rfl, ?_⟩
  rw [show PySem.W.DatumOrd.lt (⟨ms⟩ : PySem.W.Tup Int) ⟨ns⟩ = PySem.W.listLt ms ns from rfl, listLt_lexI]
  exact q
theorem op_geL (hu : X.A.units + 80 < cLine) : OpR X (compareOp .GtE) (rGeL X.K) := by
  intro pins s σ H x y v u Q I rx ry h
  obtain ⟨a, b, ns, ms, rfl, rfl, h1, h2, q⟩ := h
  cases rx; cases ry
  obtain ⟨its, rv, hl, hz⟩ := I.list h1
  obtain ⟨its2, rv2, hl2, hz2⟩ := I.list h2
  refine PySem.W.ge_datum (α := List Int) (x := ns) (y := ms) (PySem.W.holds_list hl.isList (by simpa using PySem.W.HoldAll.of_ints rv.ints)) (PySem.W.holds_list hl2.isList (by simpa using PySem.W.HoldAll.of_ints rv2.ints)) (by show X.A.units + (0 + 1) < cLine; omega) ⟨.bl _, H, I, rfl, ?_⟩
  rw [show PySem.W.DatumOrd.lt ns ms = PySem.W.listLt ns ms from rfl, listLt_lexI]
  exact q
theorem op_geT2 (hu : X.A.units + 80 < cLine) : OpR X (compareOp .GtE) (rGeT2 X.K) := by
  intro pins s σ H x y v u Q I rx ry h
  obtain ⟨a, b, ns, ms, rfl, rfl, h1, h2, q⟩ := h
  cases rx; cases ry
  obtain ⟨its, rv, hl, hz⟩ := I.tuple (SqT.of h1)
  obtain ⟨its2, rv2, hl2, hz2⟩ := I.tuple (SqT.of h2)
  refine PySem.W.ge_datum (α := PySem.W.Tup Int) (x := ⟨ns⟩) (y := ⟨ms⟩) (PySem.W.holds_tup hl (by simpa using PySem.W.HoldAll.of_ints (Vals.ints rv))) (PySem.W.holds_tup hl2 (by simpa using PySem.W.HoldAll.of_ints (Vals.ints rv2))) (by show X.A.units + (0 + 1) < cLine; omega) ⟨.bl _, H, I, rfl, ?_⟩
  rw [show PySem.W.DatumOrd.lt (⟨ns⟩ : PySem.W.Tup Int) ⟨ms⟩ = PySem.W.listLt ns ms from rfl, listLt_lexI]
  exact q
theorem sc_gtL (G : Gd X) (ha : SE C X a x) (hb : SE C X b y) : SC C X (.gtL a b) .Gt x y := by
  refine se_cmp ((op_gt.or op_gt_str).or ((op_gtL G.un).or (op_gtT2 G.un))) ha hb fun K B0 H0 B env σ H o d k Q R he q hK => ?_
  subst hK
  obtain ⟨dx, dy, h1, h2, h3⟩ := bm2_some (f := fun x y => frB (ltD y x)) he
  obtain ⟨r, h4, rfl, rfl⟩ := frB_some h3
  refine two_b R h1 h2 fun B' H' u v s ru rv => ?_
  cases dx <;> cases dy <;> simp only [ltD, reduceCtorEq] at h4
  · cases h4
    exact .inl (.inl ⟨_, _, rep_int ru, rep_int rv, q B' H' _ [] s ⟨rfl, bl_rep⟩ FrF.nil⟩)
  · cases h4
    refine .inl (.inr ⟨_, _, rep_str ru, rep_str rv, ?_⟩)
    rw [show (sv _).cps.toList = _ from rfl, show (sv _).cps.toList = _ from rfl, lexS_lt]
    exact q B' H' _ [] s ⟨rfl, bl_rep⟩ FrF.nil
  · obtain ⟨ns, h5, h6⟩ := bind1_some h4
    obtain ⟨ms, h7, h8⟩ := bind1_some h6
    cases h8
    obtain ⟨p1, rfl, q1⟩ := use_intsT h7 ru
    obtain ⟨p2, rfl, q2⟩ := use_intsT h5 rv
    exact .inr (.inr ⟨p1, p2, ms, ns, rfl, rfl, q1, q2, q B' H' _ [] s ⟨rfl, bl_rep⟩ FrF.nil⟩)
  · obtain ⟨ns, h5, h6⟩ := bind1_some h4
    obtain ⟨ms, h7, h8⟩ := bind1_some h6
    cases h8
    obtain ⟨p1, rfl, q1⟩ := use_ints h7 ru
    obtain ⟨p2, rfl, q2⟩ := use_ints h5 rv
    exact .inr (.inl ⟨p1, p2, ms, ns, rfl, rfl, q1, q2, q B' H' _ [] s ⟨rfl, bl_rep⟩ FrF.nil⟩)
theorem sc_geL (G : Gd X) (ha : SE C X a x) (hb : SE C X b y) : SC C X (.geL a b) .GtE x y := by
  refine se_cmp ((op_ge.or op_ge_str).or ((op_geL G.un).or (op_geT2 G.un))) ha hb fun K B0 H0 B env σ H o d k Q R he q hK => ?_
  subst hK
  obtain ⟨dx, dy, h1, h2, h3⟩ := bm2_some (f := fun x y => frB ((ltD x y).map fun r => !r)) he
  obtain ⟨r, h4, rfl, rfl⟩ := frB_some h3
  rw [Option.map_eq_some_iff] at h4
  obtain ⟨t, h4, rfl⟩ := h4
  refine two_b R h1 h2 fun B' H' u v s ru rv => ?_
  cases dx <;> cases dy <;> simp only [ltD, reduceCtorEq] at h4
  · cases h4
    refine .inl (.inl ⟨_, _, rep_int ru, rep_int rv, ?_⟩)
    show Q (.bl (decide (_ ≤ _))) H'
    rw [← not_lt_dec]
    exact q B' H' _ [] s ⟨rfl, bl_rep⟩ FrF.nil
  · cases h4
    refine .inl (.inr ⟨_, _, rep_str ru, rep_str rv, ?_⟩)
    rw [show (sv _).cps.toList = _ from rfl, show (sv _).cps.toList = _ from rfl, lexS_lt]
    exact q B' H' _ [] s ⟨rfl, bl_rep⟩ FrF.nil
  · obtain ⟨ns, h5, h6⟩ := bind1_some h4
    obtain ⟨ms, h7, h8⟩ := bind1_some h6
    cases h8
    obtain ⟨p1, rfl, q1⟩ := use_intsT h5 ru
    obtain ⟨p2, rfl, q2⟩ := use_intsT h7 rv
    exact .inr (.inr ⟨p1, p2, ns, ms, rfl, rfl, q1, q2, q B' H' _ [] s ⟨rfl, bl_rep⟩ FrF.nil⟩)
  · obtain ⟨ns, h5, h6⟩ := bind1_some h4
    obtain ⟨ms, h7, h8⟩ := bind1_some h6
    cases h8
    obtain ⟨p1, rfl, q1⟩ := use_ints h5 ru
    obtain ⟨p2, rfl, q2⟩ := use_ints h7 rv
    exact .inr (.inl ⟨p1, p2, ns, ms, rfl, rfl, q1, q2, q B' H' _ [] s ⟨rfl, bl_rep⟩ FrF.nil⟩)
end
end Hg
end

section
set_option Elab.async false
set_option maxRecDepth 100000
set_option autoImplicit false
set_option maxHeartbeats 4000000
namespace Hg
/- is_within(thing, low, high); slots: thing, low, high -/
def d_is_within : FDef where
  params := 3
  slots := 3
  lent := []
  body := .seq (.ret (.and_ (.isin (.var 0) .int) (.and_ (.not_ (.isin (.var 0) .bool)) (.one (.ch .le .le (.var 1) (.var 0) (.var 2)))))) (.skip)
noncomputable def s_is_within : List D → Option D := runF (calls []) d_is_within
/- shown(hedge); slots: hedge, a, b -/
def d_shown : FDef where
  params := 1
  slots := 3
  lent := []
  body := .seq (.ret (.join (.c (.str [32])) (.add (.lst (.cons (.strI (.ix (.var 0) (.c (.int 0)))) (.nil))) (.comp false (.add (.add (.strI (.var 1)) (.c (.str [45]))) (.strI (.var 2))) (.tp [1, 2]) (.lst (.ix (.var 0) (.c (.int 1)))) (.yes))))) (.skip)
noncomputable def s_shown : List D → Option D := runF (calls []) d_shown
/- whole(text); slots: text, sign -/
def d_whole_2 : XDef where
  params := 1
  slots := 2
  body := .seq (.ite (.or_ (.not_ (.val (.ch .le .le (.c (.int 1)) (.len (.var 0)) (.c (.int 2))))) (.one (.and_ (.val (.eq (.len (.var 0)) (.c (.int 2)))) (.one (.val (.eq (.ix (.var 0) (.c (.int 0))) (.c (.str [48])))))))) (.seq (.raise 1 none) (.st .skip)) (.st .skip)) (.seq (.st (.kill [1])) (.seq (.for_ (.nm 1) (.lst (.var 0)) (.seq (.ite (.val (.nmem (.var 1) (.c (.str [48, 49, 50, 51, 52, 53, 54, 55, 56, 57])))) (.seq (.raise 1 none) (.st .skip)) (.st .skip)) (.seq (.st (.kill [1])) (.st .skip)))) (.seq (.st (.ret (.intT (.var 0)))) (.st .skip))))
noncomputable def s_whole_2 : List D → Option RV := runX (calls []) (callsX []) d_whole_2
/- _law_cell(_law_script, _law_k); slots: _law_script, _law_k -/
def d_l_cell : FDef where
  params := 2
  slots := 2
  lent := []
  body := .seq (.ite (.val (.lt (.var 1) (.len (.var 0)))) (.seq (.ret (.ix (.var 0) (.var 1))) (.skip)) (.skip)) (.seq (.ret (.c (.int 0))) (.skip))
noncomputable def s_l_cell : List D → Option D := runF (calls []) d_l_cell
/- _law_mix(_law_cell_here, _law_prime, _law_many); slots: _law_cell_here, _law_prime, _law_many -/
def d_l_mix : FDef where
  params := 3
  slots := 3
  lent := []
  body := .seq (.ret (.md (.md (.mul (.var 0) (.c (.int 48271))) (.var 1)) (.var 2))) (.skip)
noncomputable def s_l_mix : List D → Option D := runF (calls []) d_l_mix
/- _law_none(_law_text, _law_manner); slots: _law_text, _law_manner, _law_some -/
def d_l_none_2 : FDef where
  params := 2
  slots := 3
  lent := []
  body := .seq (.asg 2 0 (.lst (.cons (.c (.str [])) (.cons (.c (.str [32])) (.cons (.add (.var 0) (.c (.str [32]))) (.cons (.add (.c (.str [32])) (.var 0)) (.cons (.add (.c (.str [48])) (.var 0)) (.cons (.c .non) (.cons (.c (.int 7)) (.cons (.lst (.cons (.var 0) (.nil))) (.cons (.add (.var 0) (.c (.str [32, 48, 45, 48]))) (.nil)))))))))))) (.seq (.ret (.ix (.var 2) (.md (.var 1) (.c (.int 9))))) (.skip))
noncomputable def s_l_none_2 : List D → Option D := runF (calls []) d_l_none_2
/- _law_spoilt(_law_text, _law_manner, _law_place, _law_sign); slots: _law_text, _law_manner, _law_place, _law_sign, _law_at, _law_words, _law_turned -/
def d_l_spoilt_3 : FDef where
  params := 4
  slots := 7
  lent := []
  body := .seq (.asg 4 0 (.md (.var 2) (.len (.var 0)))) (.seq (.ite (.val (.eq (.var 1) (.c (.int 0)))) (.seq (.ret (.add (.sl (.var 0) .no (.so (.var 4))) (.sl (.var 0) (.so (.add (.var 4) (.c (.int 1)))) .no))) (.skip)) (.skip)) (.seq (.ite (.val (.eq (.var 1) (.c (.int 1)))) (.seq (.ret (.add (.sl (.var 0) .no (.so (.add (.var 4) (.c (.int 1))))) (.sl (.var 0) (.so (.var 4)) .no))) (.skip)) (.skip)) (.seq (.ite (.val (.eq (.var 1) (.c (.int 2)))) (.seq (.ret (.add (.add (.sl (.var 0) .no (.so (.var 4))) (.ix (.c (.str [48, 49, 50, 51, 52, 53, 54, 55, 56, 57, 32, 45, 97, 43, 95, 9, 10])) (.md (.var 3) (.c (.int 17))))) (.sl (.var 0) (.so (.add (.var 4) (.c (.int 1)))) .no))) (.skip)) (.skip)) (.seq (.ite (.val (.eq (.var 1) (.c (.int 3)))) (.seq (.asg 4 0 (.add (.call 999 [] (.cons (.var 0) (.cons (.c (.str [32])) (.cons (.var 4) .nil)))) (.c (.int 1)))) (.seq (.ret (.add (.add (.sl (.var 0) .no (.so (.var 4))) (.c (.str [48]))) (.sl (.var 0) (.so (.var 4)) .no))) (.skip))) (.skip)) (.seq (.asg 5 0 (.split (.var 0) (.c (.str [32])))) (.seq (.asg 4 0 (.md (.var 2) (.len (.var 5)))) (.seq (.asg 6 0 (.add (.sl (.var 5) (.so (.add (.var 4) (.c (.int 1)))) (.so (.add (.var 4) (.c (.int 2))))) (.sl (.var 5) (.so (.var 4)) (.so (.add (.var 4) (.c (.int 1))))))) (.seq (.ret (.join (.c (.str [32])) (.add (.add (.sl (.var 5) .no (.so (.var 4))) (.var 6)) (.sl (.var 5) (.so (.add (.var 4) (.c (.int 2)))) .no)))) (.skip)))))))))
noncomputable def s_l_spoilt_3 : List D → Option D := runF (calls [(999, semFind)]) d_l_spoilt_3
/- is_rod(thing, many); slots: thing, many -/
def d_is_rod : FDef where
  params := 2
  slots := 2
  lent := []
  body := .seq (.ite (.or_ (.not_ (.tru (.isin (.var 0) .tup))) (.one (.val (.ne (.len (.var 0)) (.c (.int 2)))))) (.seq (.ret (.c (.bl false))) (.skip)) (.skip)) (.seq (.ret (.and_ (.call 92 [] (.cons (.ix (.var 0) (.c (.int 0))) (.cons (.c (.int 0)) (.cons (.sub (.var 1) (.c (.int 1))) (.nil))))) (.and_ (.call 92 [] (.cons (.ix (.var 0) (.c (.int 1))) (.cons (.c (.int 0)) (.cons (.sub (.var 1) (.c (.int 1))) (.nil))))) (.one (.lt (.ix (.var 0) (.c (.int 0))) (.ix (.var 0) (.c (.int 1)))))))) (.skip))
noncomputable def s_is_rod : List D → Option D := runF (calls [(92, s_is_within)]) d_is_rod
/- is_frame(hedge); slots: hedge -/
def d_is_frame : FDef where
  params := 1
  slots := 1
  lent := []
  body := .seq (.ite (.or_ (.not_ (.tru (.isin (.var 0) .tup))) (.or_ (.val (.ne (.len (.var 0)) (.c (.int 2)))) (.one (.not_ (.tru (.call 92 [] (.cons (.ix (.var 0) (.c (.int 0))) (.cons (.c (.int 1)) (.cons (.c (.int 40)) (.nil)))))))))) (.seq (.ret (.c (.bl false))) (.skip)) (.skip)) (.seq (.ret (.and_ (.isin (.ix (.var 0) (.c (.int 1))) .lst) (.one (.eq (.len (.ix (.var 0) (.c (.int 1)))) (.sub (.ix (.var 0) (.c (.int 0))) (.c (.int 1))))))) (.skip))
noncomputable def s_is_frame : List D → Option D := runF (calls [(92, s_is_within)]) d_is_frame
/- rod_read(text); slots: text, parts -/
def d_rod_read_2 : XDef where
  params := 1
  slots := 2
  body := .seq (.st (.asg 1 0 (.split (.var 0) (.c (.str [45]))))) (.seq (.ite (.val (.ne (.len (.var 1)) (.c (.int 2)))) (.seq (.raise 1 none) (.st .skip)) (.st .skip)) (.seq (.ret (.tup (.cons (.call 103 [] (.cons (.ix (.var 1) (.c (.int 0))) (.nil))) (.cons (.call 103 [] (.cons (.ix (.var 1) (.c (.int 1))) (.nil))) (.nil))))) (.st .skip)))
noncomputable def s_rod_read_2 : List D → Option RV := runX (calls [(103, okD s_whole_2)]) (callsX [(103, s_whole_2)]) d_rod_read_2
/- _law_large(_law_script); slots: _law_script -/
def d_l_large : FDef where
  params := 1
  slots := 1
  lent := []
  body := .seq (.ret (.eq (.call 3 [] (.cons (.add (.call 2 [] (.cons (.var 0) (.cons (.c (.int 0)) (.nil)))) (.mul (.c (.int 7)) (.len (.var 0)))) (.cons (.c (.int 9871)) (.cons (.c (.int 8)) (.nil))))) (.c (.int 3)))) (.skip)
noncomputable def s_l_large : List D → Option D := runF (calls [(3, s_l_mix), (2, s_l_cell)]) d_l_large
/- _law_order(_law_script, _law_at, _law_many); slots: _law_script, _law_at, _law_many, _law_keys, _law_k, _law_key -/
def d_l_order : FDef where
  params := 3
  slots := 6
  lent := []
  body := .seq (.asg 3 0 (.comp false (.tup (.cons (.call 3 [] (.cons (.add (.call 2 [] (.cons (.var 0) (.cons (.add (.add (.var 1) (.c (.int 2))) (.var 4)) (.nil)))) (.mul (.mul (.c (.int 29)) (.var 4)) (.var 4))) (.cons (.c (.int 9931)) (.cons (.c (.int 997)) (.nil))))) (.cons (.var 4) (.nil)))) (.nm 4) (.rng1 (.var 2)) (.yes))) (.seq (.ret (.comp false (.ix (.var 5) (.c (.int 1))) (.nm 5) (.lst (.sorted (.var 3))) (.yes))) (.skip))
noncomputable def s_l_order : List D → Option D := runF (calls [(3, s_l_mix), (2, s_l_cell)]) d_l_order
/- checked(hedge); slots: hedge, many, rods, home, ahead, at, rod, old, one -/
def d_checked_3 : XDef where
  params := 1
  slots := 9
  body := .seq (.ite (.not_ (.tru (.call 94 [] (.cons (.var 0) (.nil))))) (.seq (.raise 7 (some (.c .non))) (.st .skip)) (.st .skip)) (.seq (.st (.asgT [1, 2] (.var 0))) (.seq (.st (.asg 3 0 (.listRng (.var 1)))) (.seq (.st (.asg 4 0 (.tup (.cons (.neg (.c (.int 1))) (.cons (.neg (.c (.int 1))) (.nil)))))) (.seq (.st (.kill [5, 6, 7])) (.seq (.for_ (.tp [5, 6]) (.enum (.var 2)) (.seq (.ite (.or_ (.not_ (.tru (.call 93 [] (.cons (.var 6) (.cons (.var 1) (.nil)))))) (.or_ (.val (.leL (.var 6) (.var 4))) (.one (.val (.eq (.ix (.var 3) (.ix (.var 6) (.c (.int 0)))) (.ix (.var 3) (.ix (.var 6) (.c (.int 1))))))))) (.seq (.raise 7 (some (.var 5))) (.st .skip)) (.st .skip)) (.seq (.st (.asg 4 0 (.var 6))) (.seq (.st (.asg 7 0 (.ix (.var 3) (.ix (.var 6) (.c (.int 1)))))) (.seq (.st (.asg 3 0 (.comp false (.ite (.val (.eq (.var 8) (.var 7))) (.ix (.var 3) (.ix (.var 6) (.c (.int 0)))) (.var 8)) (.nm 8) (.lst (.var 3)) (.yes)))) (.seq (.st (.kill [5, 6, 7])) (.st .skip))))))) (.seq (.st (.ret (.tup (.cons (.var 1) (.cons (.list (.var 2)) (.nil)))))) (.st .skip)))))))
noncomputable def s_checked_3 : List D → Option RV := runX (calls [(94, s_is_frame), (93, s_is_rod)]) (callsX []) d_checked_3
/- _law_hedge(_law_script, _law_at); slots: _law_script, _law_at, _law_most, _law_many, _law_order_here, _law_manner, _law_rods, _law_k, _law_other, _law_one, _law_two -/
def d_l_hedge : FDef where
  params := 2
  slots := 11
  lent := []
  body := .seq (.asg 2 0 (.c (.int 9))) (.seq (.ite (.tru (.call 4 [] (.cons (.var 0) (.nil)))) (.seq (.asg 2 0 (.c (.int 18))) (.skip)) (.skip)) (.seq (.ite (.val (.gt (.len (.var 0)) (.c (.int 63)))) (.seq (.asg 2 0 (.c (.int 40))) (.skip)) (.skip)) (.seq (.asg 3 0 (.add (.c (.int 1)) (.md (.call 2 [] (.cons (.var 0) (.cons (.var 1) (.nil)))) (.var 2)))) (.seq (.asg 4 0 (.call 5 [] (.cons (.var 0) (.cons (.var 1) (.cons (.var 3) (.nil)))))) (.seq (.asg 5 0 (.md (.call 2 [] (.cons (.var 0) (.cons (.add (.var 1) (.c (.int 1))) (.nil)))) (.c (.int 5)))) (.seq (.asg 6 1 (.lst (.nil))) (.seq (.kill [7, 8, 9, 10]) (.seq (.for_ (.nm 7) (.rng2 (.c (.int 1)) (.var 3)) (.seq (.asg 8 0 (.call 3 [] (.cons (.add (.call 2 [] (.cons (.var 0) (.cons (.add (.add (.var 1) (.c (.int 1))) (.var 7)) (.nil)))) (.mul (.mul (.c (.int 3)) (.var 7)) (.var 7))) (.cons (.c (.int 9973)) (.cons (.var 7) (.nil)))))) (.seq (.ite (.val (.eq (.var 5) (.c (.int 1)))) (.seq (.asg 8 0 (.sub (.var 7) (.c (.int 1)))) (.skip)) (.skip)) (.seq (.ite (.val (.eq (.var 5) (.c (.int 2)))) (.seq (.asg 8 0 (.c (.int 0))) (.skip)) (.skip)) (.seq (.ite (.val (.eq (.var 5) (.c (.int 3)))) (.seq (.asg 8 0 (.max2 (.c (.int 0)) (.sub (.sub (.var 7) (.c (.int 1))) (.call 3 [] (.cons (.call 2 [] (.cons (.var 0) (.cons (.add (.add (.var 1) (.c (.int 1))) (.var 7)) (.nil)))) (.cons (.c (.int 9967)) (.cons (.c (.int 3)) (.nil)))))))) (.skip)) (.skip)) (.seq (.asg 9 0 (.ix (.var 4) (.var 7))) (.seq (.asg 10 0 (.ix (.var 4) (.var 8))) (.seq (.app 6 (.tup (.cons (.min2 (.var 9) (.var 10)) (.cons (.max2 (.var 9) (.var 10)) (.nil))))) (.seq (.kill [7, 8, 9, 10]) .skip))))))))) (.seq (.ret (.tup (.cons (.var 3) (.cons (.sorted (.var 6)) (.nil))))) (.skip))))))))))
noncomputable def s_l_hedge : List D → Option D := runF (calls [(4, s_l_large), (2, s_l_cell), (5, s_l_order), (3, s_l_mix)]) d_l_hedge
/- read(text); slots: text, parts, hedge, part -/
def d_read_2 : XDef where
  params := 1
  slots := 4
  body := .seq (.ite (.not_ (.tru (.isin (.var 0) .str))) (.seq (.raise 1 none) (.st .skip)) (.st .skip)) (.seq (.st (.asg 1 0 (.split (.var 0) (.c (.str [32]))))) (.seq (.asg 2 (.tup (.cons (.call 103 [] (.cons (.ix (.var 1) (.c (.int 0))) (.nil))) (.cons (.comp (.call 104 [] (.cons (.var 3) (.nil))) (.nm 3) (.lst (.sl (.var 1) (.so (.c (.int 1))) .no))) (.nil))))) (.seq (.try_ (.seq (.ret (.call 95 [] (.cons (.var 2) (.nil)))) (.st .skip)) [0, 1, 7] 7 none fun _ => .seq (.raise 1 none) (.st .skip)) (.st .skip))))
noncomputable def s_read_2 : List D → Option RV := runX (calls [(103, okD s_whole_2), (104, okD s_rod_read_2), (95, okD s_checked_3)]) (callsX [(103, s_whole_2), (104, s_rod_read_2), (95, s_checked_3)]) d_read_2
/- _law_refused(_law_text); slots: _law_text -/
def d_l_refused_5 : XDef where
  params := 1
  slots := 1
  body := .seq (.try_ (.seq (.drop (.call 105 [] (.cons (.var 0) (.nil)))) (.st .skip)) [0, 1, 7] 1 none fun _ => .st (.seq (.ret (.c (.bl true))) (.skip))) (.seq (.st (.ret (.c (.bl false)))) (.st .skip))
noncomputable def s_l_refused_5 : List D → Option D := okD (runX (calls [(105, okD s_read_2)]) (callsX [(105, s_read_2)]) d_l_refused_5)
/- _law_by_base(_law_text); slots: _law_text, e -/
def d_l_by_base_5 : XDef where
  params := 1
  slots := 2
  body := .seq (.try_ (.seq (.drop (.call 105 [] (.cons (.var 0) (.nil)))) (.st .skip)) [0, 1, 7] 0 (some 1) fun x => .st (.seq (.ret (.c (.bl (subC x.cls 8)))) .skip)) (.seq (.st (.ret (.c (.bl false)))) (.st .skip))
noncomputable def s_l_by_base_5 : List D → Option D := okD (runX (calls [(105, okD s_read_2)]) (callsX [(105, s_read_2)]) d_l_by_base_5)
/- law(_law_script); slots: _law_script, _law_text, _law_manner, _law_bad -/
def d_law_k05 : FDef where
  params := 1
  slots := 4
  lent := []
  body := .seq (.asg 1 0 (.call 102 [] (.cons (.call 6 [] (.cons (.var 0) (.cons (.c (.int 3)) (.nil)))) (.nil)))) (.seq (.asg 2 0 (.md (.call 2 [] (.cons (.var 0) (.cons (.c (.int 0)) (.nil)))) (.c (.int 6)))) (.seq (.ite (.val (.eq (.var 2) (.c (.int 5)))) (.seq (.asg 3 0 (.call 108 [] (.cons (.var 1) (.cons (.call 2 [] (.cons (.var 0) (.cons (.c (.int 1)) (.nil)))) (.nil))))) (.seq (.ret (.and_ (.call 106 [] (.cons (.var 3) (.nil))) (.one (.call 107 [] (.cons (.var 3) (.nil)))))) (.skip))) (.skip)) (.seq (.asg 3 0 (.call 109 [] (.cons (.var 1) (.cons (.var 2) (.cons (.call 2 [] (.cons (.var 0) (.cons (.c (.int 1)) (.nil)))) (.cons (.call 2 [] (.cons (.var 0) (.cons (.c (.int 2)) (.nil)))) (.nil))))))) (.seq (.ite (.tru (.call 106 [] (.cons (.var 3) (.nil)))) (.seq (.ret (.call 107 [] (.cons (.var 3) (.nil)))) (.skip)) (.skip)) (.seq (.ret (.eq (.call 102 [] (.cons (.call 105 [] (.cons (.var 3) (.nil))) (.nil))) (.var 3))) (.skip))))))
noncomputable def s_law_k05 : List D → Option D := runF (calls [(102, s_shown), (6, s_l_hedge), (2, s_l_cell), (108, s_l_none_2), (106, s_l_refused_5), (107, s_l_by_base_5), (109, s_l_spoilt_3), (105, okD s_read_2)]) d_law_k05
/- neighbours(hedge); slots: hedge, found, knot, a, b, row -/
def d_neighbours : FDef where
  params := 1
  slots := 6
  lent := []
  body := .seq (.asg 1 2 (.comp true (.lst (.nil)) (.nm 2) (.rng1 (.ix (.var 0) (.c (.int 0)))) (.yes))) (.seq (.kill [3, 4]) (.seq (.for_ (.tp [3, 4]) (.lst (.ix (.var 0) (.c (.int 1)))) (.seq (.appIx 1 (.var 3) (.var 4)) (.seq (.appIx 1 (.var 4) (.var 3)) (.seq (.kill [3, 4]) .skip)))) (.seq (.seq (.frz [1]) (.ret (.comp false (.sorted (.var 5)) (.nm 5) (.lst (.var 1)) (.yes)))) (.skip))))
noncomputable def s_neighbours : List D → Option D := runF (calls []) d_neighbours
/- _law_copy(_law_hedge_here); slots: _law_hedge_here -/
def d_l_copy : FDef where
  params := 1
  slots := 1
  lent := []
  body := .seq (.ret (.tup (.cons (.ix (.var 0) (.c (.int 0))) (.cons (.list (.ix (.var 0) (.c (.int 1)))) (.nil))))) (.skip)
noncomputable def s_l_copy : List D → Option D := runF (calls []) d_l_copy
/- checked(hedge); slots: hedge, many, rods, home, ahead, at, rod, old, one -/
def d_checked_2 : XDef where
  params := 1
  slots := 9
  body := .seq (.ite (.not_ (.tru (.call 94 [] (.cons (.var 0) (.nil))))) (.seq (.raise 7 (some (.c .non))) (.st .skip)) (.st .skip)) (.seq (.st (.asgT [1, 2] (.var 0))) (.seq (.st (.asg 3 0 (.listRng (.var 1)))) (.seq (.st (.asg 4 0 (.tup (.cons (.neg (.c (.int 1))) (.cons (.neg (.c (.int 1))) (.nil)))))) (.seq (.st (.kill [5, 6, 7])) (.seq (.for_ (.tp [5, 6]) (.enum (.var 2)) (.seq (.ite (.or_ (.not_ (.tru (.call 93 [] (.cons (.var 6) (.cons (.var 1) (.nil)))))) (.or_ (.val (.leL (.var 6) (.var 4))) (.one (.val (.eq (.ix (.var 3) (.ix (.var 6) (.c (.int 0)))) (.ix (.var 3) (.ix (.var 6) (.c (.int 1))))))))) (.seq (.raise 7 (some (.var 5))) (.st .skip)) (.st .skip)) (.seq (.st (.asg 4 0 (.var 6))) (.seq (.st (.asg 7 0 (.ix (.var 3) (.ix (.var 6) (.c (.int 1)))))) (.seq (.st (.asg 3 0 (.comp false (.ite (.val (.eq (.var 8) (.var 7))) (.ix (.var 3) (.ix (.var 6) (.c (.int 0)))) (.var 8)) (.nm 8) (.lst (.var 3)) (.yes)))) (.seq (.st (.kill [5, 6, 7])) (.st .skip))))))) (.seq (.ret (.ok (.tup (.cons (.var 1) (.cons (.list (.var 2)) (.nil)))))) (.st .skip)))))))
noncomputable def s_checked_2 : List D → Option RV := runX (calls [(94, s_is_frame), (93, s_is_rod)]) (callsX []) d_checked_2
/- parents(hedge, knot); slots: hedge, knot, beside, found, at, here, ahead, other -/
def d_parents : FDef where
  params := 2
  slots := 8
  lent := []
  body := .seq (.asg 2 0 (.call 0 [] (.cons (.var 0) (.nil)))) (.seq (.asg 3 1 (.lst (.cons (.tup (.cons (.var 1) (.cons (.c .non) (.nil)))) (.nil)))) (.seq (.asg 4 0 (.c (.int 0))) (.seq (.kill [5, 6]) (.seq (.wh (.val (.lt (.var 4) (.len (.var 3)))) (.seq (.asgT [5, 6] (.ix (.var 3) (.var 4))) (.seq (.asg 4 0 (.add (.var 4) (.c (.int 1)))) (.seq (.ext 3 (.comp false (.tup (.cons (.var 7) (.cons (.var 5) (.nil)))) (.nm 7) (.lst (.ix (.var 2) (.var 5))) (.val (.ne (.var 7) (.var 6))))) (.seq (.kill [5, 6]) .skip))))) (.seq (.seq (.frz [3]) (.ret (.var 3))) (.skip))))))
noncomputable def s_parents : List D → Option D := runF (calls [(0, s_neighbours)]) d_parents
/- whole(text); slots: text, sign -/
def d_whole : FDef where
  params := 1
  slots := 2
  lent := []
  body := .seq (.ite (.or_ (.not_ (.val (.ch .le .le (.c (.int 1)) (.len (.var 0)) (.c (.int 2))))) (.one (.and_ (.val (.eq (.len (.var 0)) (.c (.int 2)))) (.one (.val (.eq (.ix (.var 0) (.c (.int 0))) (.c (.str [48])))))))) (.seq (.never) (.skip)) (.skip)) (.seq (.kill [1]) (.seq (.for_ (.nm 1) (.lst (.var 0)) (.seq (.ite (.val (.nmem (.var 1) (.c (.str [48, 49, 50, 51, 52, 53, 54, 55, 56, 57])))) (.seq (.never) (.skip)) (.skip)) (.seq (.kill [1]) .skip))) (.seq (.ret (.intT (.var 0))) (.skip))))
noncomputable def s_whole : List D → Option D := runF (calls []) d_whole
/- rod_read(text); slots: text, parts -/
def d_rod_read : FDef where
  params := 1
  slots := 2
  lent := []
  body := .seq (.asg 1 0 (.split (.var 0) (.c (.str [45])))) (.seq (.ite (.val (.ne (.len (.var 1)) (.c (.int 2)))) (.seq (.never) (.skip)) (.skip)) (.seq (.ret (.tup (.cons (.call 103 [] (.cons (.ix (.var 1) (.c (.int 0))) (.nil))) (.cons (.call 103 [] (.cons (.ix (.var 1) (.c (.int 1))) (.nil))) (.nil))))) (.skip)))
noncomputable def s_rod_read : List D → Option D := runF (calls [(103, s_whole)]) d_rod_read
/- checked(hedge); slots: hedge, many, rods, home, ahead, at, rod, old, one -/
def d_checked : FDef where
  params := 1
  slots := 9
  lent := []
  body := .seq (.ite (.not_ (.tru (.call 94 [] (.cons (.var 0) (.nil))))) (.seq (.never) (.skip)) (.skip)) (.seq (.asgT [1, 2] (.var 0)) (.seq (.asg 3 0 (.listRng (.var 1))) (.seq (.asg 4 0 (.tup (.cons (.neg (.c (.int 1))) (.cons (.neg (.c (.int 1))) (.nil))))) (.seq (.kill [5, 6, 7]) (.seq (.for_ (.tp [5, 6]) (.enum (.var 2)) (.seq (.ite (.or_ (.not_ (.tru (.call 93 [] (.cons (.var 6) (.cons (.var 1) (.nil)))))) (.or_ (.val (.leL (.var 6) (.var 4))) (.one (.val (.eq (.ix (.var 3) (.ix (.var 6) (.c (.int 0)))) (.ix (.var 3) (.ix (.var 6) (.c (.int 1))))))))) (.seq (.never) (.skip)) (.skip)) (.seq (.asg 4 0 (.var 6)) (.seq (.asg 7 0 (.ix (.var 3) (.ix (.var 6) (.c (.int 1))))) (.seq (.asg 3 0 (.comp false (.ite (.val (.eq (.var 8) (.var 7))) (.ix (.var 3) (.ix (.var 6) (.c (.int 0)))) (.var 8)) (.nm 8) (.lst (.var 3)) (.yes))) (.seq (.kill [5, 6, 7]) .skip)))))) (.seq (.ret (.tup (.cons (.var 1) (.cons (.list (.var 2)) (.nil))))) (.skip)))))))
noncomputable def s_checked : List D → Option D := runF (calls [(94, s_is_frame), (93, s_is_rod)]) d_checked
/- read(text); slots: text, parts, hedge, part -/
def d_read : FDef where
  params := 1
  slots := 4
  lent := []
  body := .seq (.ite (.not_ (.tru (.isin (.var 0) .str))) (.seq (.never) (.skip)) (.skip)) (.seq (.asg 1 0 (.split (.var 0) (.c (.str [32])))) (.seq (.asg 2 0 (.tup (.cons (.call 103 [] (.cons (.ix (.var 1) (.c (.int 0))) (.nil))) (.cons (.comp false (.call 104 [] (.cons (.var 3) (.nil))) (.nm 3) (.lst (.sl (.var 1) (.so (.c (.int 1))) .no)) (.yes)) (.nil))))) (.seq (.tryN (.seq (.ret (.call 95 [] (.cons (.var 2) (.nil)))) (.skip))) (.skip))))
noncomputable def s_read : List D → Option D := runF (calls [(103, s_whole), (104, s_rod_read), (95, s_checked)]) d_read
/- _law_tree(_law_beside_here, _law_knot); slots: _law_beside_here, _law_knot, _law_found, _law_at, _law_here, _law_ahead, _law_other -/
def d_l_tree : FDef where
  params := 2
  slots := 7
  lent := []
  body := .seq (.asg 2 0 (.lst (.cons (.tup (.cons (.var 1) (.cons (.neg (.c (.int 1))) (.nil)))) (.nil)))) (.seq (.asg 3 0 (.c (.int 0))) (.seq (.kill [4, 5]) (.seq (.wh (.val (.lt (.var 3) (.len (.var 2)))) (.seq (.asgT [4, 5] (.ix (.var 2) (.var 3))) (.seq (.asg 2 0 (.add (.var 2) (.comp false (.tup (.cons (.var 6) (.cons (.var 4) (.nil)))) (.nm 6) (.lst (.ix (.var 0) (.var 4))) (.val (.ne (.var 6) (.var 5)))))) (.seq (.asg 3 0 (.add (.var 3) (.c (.int 1)))) (.seq (.kill [4, 5]) .skip))))) (.seq (.ret (.var 2)) (.skip)))))
noncomputable def s_l_tree : List D → Option D := runF (calls []) d_l_tree
/- _law_code(_law_beside_here, _law_knot); slots: _law_beside_here, _law_knot, _law_after, _law_other, _law_text, _law_here, _law_ahead -/
def d_l_code : FDef where
  params := 2
  slots := 7
  lent := []
  body := .seq (.asg 2 2 (.comp true (.lst (.nil)) (.nm 3) (.lst (.var 0)) (.yes))) (.seq (.asg 4 0 (.c (.str []))) (.seq (.kill [5, 6]) (.seq (.for_ (.tp [5, 6]) (.rev (.call 28 [] (.cons (.var 0) (.cons (.var 1) (.nil))))) (.seq (.asg 4 0 (.add (.add (.c (.str [40])) (.join (.c (.str [])) (.sortedR (.ix (.var 2) (.var 5))))) (.c (.str [41])))) (.seq (.ite (.val (.ge (.var 6) (.c (.int 0)))) (.seq (.appIx 2 (.var 6) (.var 4)) (.skip)) (.skip)) (.seq (.kill [5, 6]) .skip)))) (.seq (.ret (.var 4)) (.skip)))))
noncomputable def s_l_code : List D → Option D := runF (calls [(28, s_l_tree)]) d_l_code
/- branch_codes(hedge, knot); slots: hedge, knot, behind, other, found, here, ahead -/
def d_branch_codes : FDef where
  params := 2
  slots := 7
  lent := []
  body := .seq (.asg 2 2 (.comp true (.lst (.nil)) (.nm 3) (.rng1 (.ix (.var 0) (.c (.int 0)))) (.yes))) (.seq (.asg 4 1 (.comp false (.c (.str [])) (.nm 3) (.rng1 (.ix (.var 0) (.c (.int 0)))) (.yes))) (.seq (.kill [5, 6]) (.seq (.for_ (.tp [5, 6]) (.rev (.call 9 [] (.cons (.var 0) (.cons (.var 1) (.nil))))) (.seq (.asgIx 4 (.var 5) (.add (.add (.c (.str [40])) (.join (.c (.str [])) (.sortedR (.ix (.var 2) (.var 5))))) (.c (.str [41])))) (.seq (.ite (.val (.notN (.var 6))) (.seq (.appIx 2 (.var 6) (.ix (.var 4) (.var 5))) (.skip)) (.skip)) (.seq (.kill [5, 6]) .skip)))) (.seq (.seq (.frz [4]) (.ret (.var 4))) (.skip)))))
noncomputable def s_branch_codes : List D → Option D := runF (calls [(9, s_parents)]) d_branch_codes
/- code_from(hedge, knot); slots: hedge, knot -/
def d_code_from : FDef where
  params := 2
  slots := 2
  lent := []
  body := .seq (.ret (.ix (.call 26 [] (.cons (.var 0) (.cons (.var 1) (.nil)))) (.var 1))) (.skip)
noncomputable def s_code_from : List D → Option D := runF (calls [(26, s_branch_codes)]) d_code_from
/- hedge_by(many, rods); slots: many, rods, a, b -/
def d_hedge_by : FDef where
  params := 2
  slots := 4
  lent := []
  body := .seq (.ret (.tup (.cons (.var 0) (.cons (.sorted (.comp false (.tup (.cons (.min2 (.var 2) (.var 3)) (.cons (.max2 (.var 2) (.var 3)) (.nil)))) (.tp [2, 3]) (.lst (.var 1)) (.yes))) (.nil))))) (.skip)
noncomputable def s_hedge_by : List D → Option D := runF (calls []) d_hedge_by
end Hg
end

section
set_option Elab.async false
set_option maxRecDepth 100000
set_option autoImplicit false
set_option maxHeartbeats 4000000
namespace HgW
open PySem PySem.Spec PyProof.Rows L2 Hg
def topS (i : Nat) : Stmt := PySem.Challenge.pw_hedgerow_k05_spoilt_texts.main.body.getD i (.Pass ⟨0, 0, 0, 0⟩)
abbrev st_is_within : Stmt := topS 6
theorem sc_is_within : FnScope ["thing", "low", "high"] ["thing", "low", "high"] (defScope st_is_within) := ⟨rfl, rfl, rfl, by decide +kernel, rfl, by decide +kernel, by decide +kernel⟩
abbrev st_shown : Stmt := topS 11
theorem sc_shown : FnScope ["hedge", "a", "b"] ["hedge"] (defScope st_shown) := ⟨rfl, rfl, rfl, by decide +kernel, rfl, by decide +kernel, by decide +kernel⟩
abbrev st_whole : Stmt := topS 12
theorem sc_whole : FnScope ["text", "sign"] ["text"] (defScope st_whole) := ⟨rfl, rfl, rfl, by decide +kernel, rfl, by decide +kernel, by decide +kernel⟩
abbrev st__law_cell : Stmt := topS 16
theorem sc__law_cell : FnScope ["_law_script", "_law_k"] ["_law_script", "_law_k"] (defScope st__law_cell) := ⟨rfl, rfl, rfl, by decide +kernel, rfl, by decide +kernel, by decide +kernel⟩
abbrev st__law_mix : Stmt := topS 17
theorem sc__law_mix : FnScope ["_law_cell_here", "_law_prime", "_law_many"] ["_law_cell_here", "_law_prime", "_law_many"] (defScope st__law_mix) := ⟨rfl, rfl, rfl, by decide +kernel, rfl, by decide +kernel, by decide +kernel⟩
abbrev st__law_none : Stmt := topS 23
theorem sc__law_none : FnScope ["_law_text", "_law_manner", "_law_some"] ["_law_text", "_law_manner"] (defScope st__law_none) := ⟨rfl, rfl, rfl, by decide +kernel, rfl, by decide +kernel, by decide +kernel⟩
abbrev st__law_spoilt : Stmt := topS 24
theorem sc__law_spoilt : FnScope ["_law_text", "_law_manner", "_law_place", "_law_sign", "_law_at", "_law_words", "_law_turned"] ["_law_text", "_law_manner", "_law_place", "_law_sign"] (defScope st__law_spoilt) := ⟨rfl, rfl, rfl, by decide +kernel, rfl, by decide +kernel, by decide +kernel⟩
abbrev st_is_rod : Stmt := topS 7
theorem sc_is_rod : FnScope ["thing", "many"] ["thing", "many"] (defScope st_is_rod) := ⟨rfl, rfl, rfl, by decide +kernel, rfl, by decide +kernel, by decide +kernel⟩
abbrev st_is_frame : Stmt := topS 8
theorem sc_is_frame : FnScope ["hedge"] ["hedge"] (defScope st_is_frame) := ⟨rfl, rfl, rfl, by decide +kernel, rfl, by decide +kernel, by decide +kernel⟩
abbrev st_rod_read : Stmt := topS 13
theorem sc_rod_read : FnScope ["text", "parts"] ["text"] (defScope st_rod_read) := ⟨rfl, rfl, rfl, by decide +kernel, rfl, by decide +kernel, by decide +kernel⟩
abbrev st__law_large : Stmt := topS 18
theorem sc__law_large : FnScope ["_law_script"] ["_law_script"] (defScope st__law_large) := ⟨rfl, rfl, rfl, by decide +kernel, rfl, by decide +kernel, by decide +kernel⟩
abbrev st__law_order : Stmt := topS 19
theorem sc__law_order : FnScope ["_law_script", "_law_at", "_law_many", "_law_keys", "_law_k", "_law_key"] ["_law_script", "_law_at", "_law_many"] (defScope st__law_order) := ⟨rfl, rfl, rfl, by decide +kernel, rfl, by decide +kernel, by decide +kernel⟩
abbrev st_checked : Stmt := topS 9
theorem sc_checked : FnScope ["hedge", "many", "rods", "home", "ahead", "at", "rod", "old", "one"] ["hedge"] (defScope st_checked) := ⟨rfl, rfl, rfl, by decide +kernel, rfl, by decide +kernel, by decide +kernel⟩
abbrev st__law_hedge : Stmt := topS 20
theorem sc__law_hedge : FnScope ["_law_script", "_law_at", "_law_most", "_law_many", "_law_order_here", "_law_manner", "_law_rods", "_law_k", "_law_other", "_law_one", "_law_two"] ["_law_script", "_law_at"] (defScope st__law_hedge) := ⟨rfl, rfl, rfl, by decide +kernel, rfl, by decide +kernel, by decide +kernel⟩
abbrev st_read : Stmt := topS 14
theorem sc_read : FnScope ["text", "parts", "hedge", "part"] ["text"] (defScope st_read) := ⟨rfl, rfl, rfl, by decide +kernel, rfl, by decide +kernel, by decide +kernel⟩
abbrev st__law_refused : Stmt := topS 21
theorem sc__law_refused : FnScope ["_law_text"] ["_law_text"] (defScope st__law_refused) := ⟨rfl, rfl, rfl, by decide +kernel, rfl, by decide +kernel, by decide +kernel⟩
abbrev st__law_by_base : Stmt := topS 22
theorem sc__law_by_base : FnScope ["_law_text", "e"] ["_law_text"] (defScope st__law_by_base) := ⟨rfl, rfl, rfl, by decide +kernel, rfl, by decide +kernel, by decide +kernel⟩
abbrev st_law : Stmt := topS 25
theorem sc_law : FnScope ["_law_script", "_law_text", "_law_manner", "_law_bad"] ["_law_script"] (defScope st_law) := ⟨rfl, rfl, rfl, by decide +kernel, rfl, by decide +kernel, by decide +kernel⟩
abbrev st_init : Stmt := (clsS (topS 3)).getD 0 (.Pass ⟨0, 0, 0, 0⟩)
theorem sc_init : FnScope ["self", "at"] ["self", "at"] (defScope st_init) := ⟨rfl, rfl, rfl, by decide +kernel, rfl, by decide +kernel, by decide +kernel⟩
section
variable [TB : Tabl] {P : Program} {w : World} {K : PySem.W.Frag} {mg : Str → Option Value} {base : Heap}
theorem w_init {fI HE CB : Addr} {fd : FuncData} (F : Fun K "__init__" "BadHedge.__init__" st_init fI fd) (bh : BhF K mg HE CB fI) : FnOk P w K mg base CX0 1 fI fd ["self", "at"] (spI CB) :=
  F.ok sc_init (fun vs H Q E h => spI_len h) fun cdv A outer s H vs Q E hr h => ⟨_, pss_cons (ps_expr (pe_heinit rfl bh.mH bh.rd bh.ga bh.fi (pa_cons (pv 0) (pa_cons pe_str pa_nil)))) (pss_cons (ps_ost (pv 0) (pv 1)) pss_nil), init_rd bh h⟩
theorem w_is_within {f : Addr} {fd : FuncData} (F : Fun K "is_within" "is_within" st_is_within f fd) (bf : Bf mg) {cv : Nat → Value} : FnOk P w K mg base CX0 1 f fd ["thing", "low", "high"] (spF K d_is_within.lent d_is_within.params s_is_within) :=
  fn_ok d_is_within F sc_is_within bf rfl rfl (by decide) fun cdv A outer s H E hr G => (sb_seq (ss_ret (se_and (se_isin G (se_var (i := 0)) (ty_int G)) (se_and (se_not (se_isin G (se_var (i := 0)) (ty_bool G))) (se_one (se_ch_le_le (se_var (i := 1)) (se_var (i := 0)) (se_var (i := 2))))))) sb_skip)
theorem w_shown {f : Addr} {fd : FuncData} (F : Fun K "shown" "shown" st_shown f fd) (bf : Bf mg) {cv : Nat → Value} : FnOk P w K mg base CX0 1 f fd ["hedge"] (spF K d_shown.lent d_shown.params s_shown) :=
  fn_ok d_shown F sc_shown bf rfl rfl (by decide) fun cdv A outer s H E hr G => (sb_seq (ss_ret (se_join G se_s (se_add (se_lst (sa_cons (se_strI G (se_ix G (se_var (i := 0)) se_i)) sa_nil)) (se_comp G [("a", 1), ("b", 2)] (si_lst (se_ix G (se_var (i := 0)) se_i)) (fun _ _ _ _ _ => (sg_tp G.blk (sgs_cons (i := 1) G.blk (sgs_cons (i := 2) G.blk sgs_nil)))) (fun _ _ _ _ _ => sts_yes) (fun _ _ _ _ _ => (se_add (se_add (se_strI G.blk (se_var (i := 1))) se_s) (se_strI G.blk (se_var (i := 2))))))))) sb_skip)
theorem w_whole {f : Addr} {fd : FuncData} (F : Fun K "whole" "whole" st_whole f fd) (bf : Bf mg) {cv : Nat → Value} (hx : XG K mg cv [0, 1, 7]) : FnOk P w K mg base (L2.CX P w) 1 f fd ["text"] (spX K cv 1 s_whole_2) :=
  fn_okX d_whole_2 F sc_whole bf rfl rfl (by decide) fun cdv A outer s H E hr G hp => (sxb_cons (sx_ite (st_w (sw_or (st_not (st_ch_le_le se_i (se_len G (se_var (i := 0))) se_i)) (sw_one_or (st_w (sw_and (st_pc (sc_eq G (se_len G (se_var (i := 0))) se_i)) (sw_one_and (st_pc (sc_eq G (se_ix G (se_var (i := 0)) se_i) se_s)))))))) (sxb_cons (sx_raise G (hx.ex 1 (by decide) (by decide))) sxb_nil) sxb_nil) (sx_kill (sxb_cons (sx_for G hp (si_lst (se_var (i := 0))) (sg_nm (i := 1) G) (sxb_cons (sx_ite (st_pc (sc_nmem G (se_var (i := 1)) se_s)) (sxb_cons (sx_raise G (hx.ex 1 (by decide) (by decide))) sxb_nil) sxb_nil) (sx_kill sxb_nil))) (sxb_cons (sx_st (ss_ret (se_intT G (se_var (i := 0))))) sxb_nil))))
theorem w__law_cell {f : Addr} {fd : FuncData} (F : Fun K "_law_cell" "_law_cell" st__law_cell f fd) (bf : Bf mg) {cv : Nat → Value} : FnOk P w K mg base CX0 1 f fd ["_law_script", "_law_k"] (spF K d_l_cell.lent d_l_cell.params s_l_cell) :=
  fn_ok d_l_cell F sc__law_cell bf rfl rfl (by decide) fun cdv A outer s H E hr G => (sb_seq (ss_ite (st_pc (sc_lt (se_var (i := 1)) (se_len G (se_var (i := 0))))) (sb_seq (ss_ret (se_ix G (se_var (i := 0)) (se_var (i := 1)))) sb_skip) sb_skip) (sb_seq (ss_ret se_i) sb_skip))
theorem w__law_mix {f : Addr} {fd : FuncData} (F : Fun K "_law_mix" "_law_mix" st__law_mix f fd) (bf : Bf mg) {cv : Nat → Value} : FnOk P w K mg base CX0 1 f fd ["_law_cell_here", "_law_prime", "_law_many"] (spF K d_l_mix.lent d_l_mix.params s_l_mix) :=
  fn_ok d_l_mix F sc__law_mix bf rfl rfl (by decide) fun cdv A outer s H E hr G => (sb_seq (ss_ret (se_md (se_md (se_mul (se_var (i := 0)) se_i) (se_var (i := 1))) (se_var (i := 2)))) sb_skip)
theorem w__law_none {f : Addr} {fd : FuncData} (F : Fun K "_law_none" "_law_none" st__law_none f fd) (bf : Bf mg) {cv : Nat → Value} : FnOk P w K mg base CX0 1 f fd ["_law_text", "_law_manner"] (spF K d_l_none_2.lent d_l_none_2.params s_l_none_2) :=
  fn_ok d_l_none_2 F sc__law_none bf rfl rfl (by decide) fun cdv A outer s H E hr G => (sb_seq (ss_asg (i := 2) G (se_lst (sa_cons se_s (sa_cons se_s (sa_cons (se_add (se_var (i := 0)) se_s) (sa_cons (se_add se_s (se_var (i := 0))) (sa_cons (se_add se_s (se_var (i := 0))) (sa_cons se_n (sa_cons se_i (sa_cons (se_lst (sa_cons (se_var (i := 0)) sa_nil)) (sa_cons (se_add (se_var (i := 0)) se_s) sa_nil))))))))))) (sb_seq (ss_ret (se_ix G (se_var (i := 2)) (se_md (se_var (i := 1)) se_i))) sb_skip))
theorem w__law_spoilt {f : Addr} {fd : FuncData} (F : Fun K "_law_spoilt" "_law_spoilt" st__law_spoilt f fd) (bf : Bf mg) {cv : Nat → Value} : FnOk P w K mg base CX0 1 f fd ["_law_text", "_law_manner", "_law_place", "_law_sign"] (spF K d_l_spoilt_3.lent d_l_spoilt_3.params s_l_spoilt_3) :=
  fn_ok d_l_spoilt_3 F sc__law_spoilt bf rfl rfl (by decide) fun cdv A outer s H E hr G => (sb_seq (ss_asg (i := 4) G (se_md (se_var (i := 2)) (se_len G (se_var (i := 0))))) (sb_seq (ss_ite (st_pc (sc_eq G (se_var (i := 1)) se_i)) (sb_seq (ss_ret (se_add (se_sl (se_var (i := 0)) so_no (so_so (se_var (i := 4)))) (se_sl (se_var (i := 0)) (so_so (se_add (se_var (i := 4)) se_i)) so_no))) sb_skip) sb_skip) (sb_seq (ss_ite (st_pc (sc_eq G (se_var (i := 1)) se_i)) (sb_seq (ss_ret (se_add (se_sl (se_var (i := 0)) so_no (so_so (se_add (se_var (i := 4)) se_i))) (se_sl (se_var (i := 0)) (so_so (se_var (i := 4))) so_no))) sb_skip) sb_skip) (sb_seq (ss_ite (st_pc (sc_eq G (se_var (i := 1)) se_i)) (sb_seq (ss_ret (se_add (se_add (se_sl (se_var (i := 0)) so_no (so_so (se_var (i := 4)))) (se_ix G se_s (se_md (se_var (i := 3)) se_i))) (se_sl (se_var (i := 0)) (so_so (se_add (se_var (i := 4)) se_i)) so_no))) sb_skip) sb_skip) (sb_seq (ss_ite (st_pc (sc_eq G (se_var (i := 1)) se_i)) (sb_seq (ss_asg (i := 4) G (se_add (se_find (id := 999) (se_var (i := 0)) se_s (se_var (i := 4))) se_i)) (sb_seq (ss_ret (se_add (se_add (se_sl (se_var (i := 0)) so_no (so_so (se_var (i := 4)))) se_s) (se_sl (se_var (i := 0)) (so_so (se_var (i := 4))) so_no))) sb_skip)) sb_skip) (sb_seq (ss_asg (i := 5) G (se_split G (se_var (i := 0)) se_s)) (sb_seq (ss_asg (i := 4) G (se_md (se_var (i := 2)) (se_len G (se_var (i := 5))))) (sb_seq (ss_asg (i := 6) G (se_add (se_sl (se_var (i := 5)) (so_so (se_add (se_var (i := 4)) se_i)) (so_so (se_add (se_var (i := 4)) se_i))) (se_sl (se_var (i := 5)) (so_so (se_var (i := 4))) (so_so (se_add (se_var (i := 4)) se_i))))) (sb_seq (ss_ret (se_join G se_s (se_add (se_add (se_sl (se_var (i := 5)) so_no (so_so (se_var (i := 4)))) (se_var (i := 6))) (se_sl (se_var (i := 5)) (so_so (se_add (se_var (i := 4)) se_i)) so_no)))) sb_skip)))))))))
theorem w_is_rod {f : Addr} {fd : FuncData} (F : Fun K "is_rod" "is_rod" st_is_rod f fd) (bf : Bf mg) {cv : Nat → Value} (c_is_within : Cal P w K mg base 1 "is_within" [] 3 s_is_within) : FnOk P w K mg base CX0 2 f fd ["thing", "many"] (spF K d_is_rod.lent d_is_rod.params s_is_rod) :=
  fn_ok d_is_rod F sc_is_rod bf rfl rfl (by decide) fun cdv A outer s H E hr G => (sb_seq (ss_ite (st_w (sw_or (st_not (st_tru (se_isin G (se_var (i := 0)) (ty_tup G)))) (sw_one_or (st_pc (sc_ne G (se_len G (se_var (i := 0))) se_i))))) (sb_seq (ss_ret se_b) sb_skip) sb_skip) (sb_seq (ss_ret (se_and (se_call c_is_within hr (by decide) (sm_cons (se_ix G (se_var (i := 0)) se_i) (sm_cons se_i (sm_cons (se_sub (se_var (i := 1)) se_i) sm_nil)))) (se_and (se_call c_is_within hr (by decide) (sm_cons (se_ix G (se_var (i := 0)) se_i) (sm_cons se_i (sm_cons (se_sub (se_var (i := 1)) se_i) sm_nil)))) (se_one (se_pc (sc_lt (se_ix G (se_var (i := 0)) se_i) (se_ix G (se_var (i := 0)) se_i))))))) sb_skip))
theorem w_is_frame {f : Addr} {fd : FuncData} {tk_MOST : Tok} (F : Fun K "is_frame" "is_frame" st_is_frame f fd) (bf : Bf mg) {cv : Nat → Value} (c_is_within : Cal P w K mg base 1 "is_within" [] 3 s_is_within) (c_MOST : mg "MOST" = some (.int 40 tk_MOST)) : FnOk P w K mg base CX0 2 f fd ["hedge"] (spF K d_is_frame.lent d_is_frame.params s_is_frame) :=
  fn_ok d_is_frame F sc_is_frame bf rfl rfl (by decide) fun cdv A outer s H E hr G => (sb_seq (ss_ite (st_w (sw_or (st_not (st_tru (se_isin G (se_var (i := 0)) (ty_tup G)))) (sw_or (st_pc (sc_ne G (se_len G (se_var (i := 0))) se_i)) (sw_one_or (st_not (st_tru (se_call c_is_within hr (by decide) (sm_cons (se_ix G (se_var (i := 0)) se_i) (sm_cons se_i (sm_cons (se_g c_MOST ⟨_, rfl⟩) sm_nil)))))))))) (sb_seq (ss_ret se_b) sb_skip) sb_skip) (sb_seq (ss_ret (se_and (se_isin G (se_ix G (se_var (i := 0)) se_i) (ty_lst G)) (se_one (se_pc (sc_eq G (se_len G (se_ix G (se_var (i := 0)) se_i)) (se_sub (se_ix G (se_var (i := 0)) se_i) se_i)))))) sb_skip))
theorem w_rod_read {f : Addr} {fd : FuncData} (F : Fun K "rod_read" "rod_read" st_rod_read f fd) (bf : Bf mg) {cv : Nat → Value} (hx : XG K mg cv [0, 1, 7]) (c_whole : CalX P w K mg base cv 1 "whole" 1 s_whole_2) : FnOk P w K mg base (L2.CX P w) 2 f fd ["text"] (spX K cv 1 s_rod_read_2) :=
  fn_okX d_rod_read_2 F sc_rod_read bf rfl rfl (by decide) fun cdv A outer s H E hr G hp => (sxb_cons (sx_st (ss_asg (i := 1) G (se_split G (se_var (i := 0)) se_s))) (sxb_cons (sx_ite (st_pc (sc_ne G (se_len G (se_var (i := 1))) se_i)) (sxb_cons (sx_raise G (hx.ex 1 (by decide) (by decide))) sxb_nil) sxb_nil) (sxb_cons (sx_ret (sx_tup (sxa_cons (sx_call c_whole hr (by decide) (sm_cons (se_ix G (se_var (i := 1)) se_i) sm_nil)) (sxa_cons (sx_call c_whole hr (by decide) (sm_cons (se_ix G (se_var (i := 1)) se_i) sm_nil)) sxa_nil)))) sxb_nil)))
theorem w__law_large {f : Addr} {fd : FuncData} (F : Fun K "_law_large" "_law_large" st__law_large f fd) (bf : Bf mg) {cv : Nat → Value} (c__law_mix : Cal P w K mg base 1 "_law_mix" [] 3 s_l_mix) (c__law_cell : Cal P w K mg base 1 "_law_cell" [] 2 s_l_cell) : FnOk P w K mg base CX0 2 f fd ["_law_script"] (spF K d_l_large.lent d_l_large.params s_l_large) :=
  fn_ok d_l_large F sc__law_large bf rfl rfl (by decide) fun cdv A outer s H E hr G => (sb_seq (ss_ret (se_pc (sc_eq G (se_call c__law_mix hr (by decide) (sm_cons (se_add (se_call c__law_cell hr (by decide) (sm_cons (se_var (i := 0)) (sm_cons se_i sm_nil))) (se_mul se_i (se_len G (se_var (i := 0))))) (sm_cons se_i (sm_cons se_i sm_nil)))) se_i))) sb_skip)
theorem w__law_order {f : Addr} {fd : FuncData} (F : Fun K "_law_order" "_law_order" st__law_order f fd) (bf : Bf mg) {cv : Nat → Value} (c__law_mix : Cal P w K mg base 1 "_law_mix" [] 3 s_l_mix) (c__law_cell : Cal P w K mg base 1 "_law_cell" [] 2 s_l_cell) : FnOk P w K mg base CX0 2 f fd ["_law_script", "_law_at", "_law_many"] (spF K d_l_order.lent d_l_order.params s_l_order) :=
  fn_ok d_l_order F sc__law_order bf rfl rfl (by decide) fun cdv A outer s H E hr G => (sb_seq (ss_asgC (i := 3) G [("_law_k", 4)] (si_rng1 G (se_var (i := 2))) (fun _ _ _ _ _ => (sg_nm (i := 4) G.blk)) (fun _ _ _ _ _ => sts_yes) (fun _ _ _ _ _ => (se_tup (sa_cons (se_call c__law_mix hr (by decide) (sm_cons (se_add (se_call c__law_cell hr (by decide) (sm_cons (se_var (i := 0)) (sm_cons (se_add (se_add (se_var (i := 1)) se_i) (se_var (i := 4))) sm_nil))) (se_mul (se_mul se_i (se_var (i := 4))) (se_var (i := 4)))) (sm_cons se_i (sm_cons se_i sm_nil)))) (sa_cons (se_var (i := 4)) sa_nil))))) (sb_seq (ss_ret (se_comp G [("_law_key", 5)] (si_lst (se_sorted G (se_var (i := 3)))) (fun _ _ _ _ _ => (sg_nm (i := 5) G.blk)) (fun _ _ _ _ _ => sts_yes) (fun _ _ _ _ _ => (se_ix G.blk (se_var (i := 5)) se_i)))) sb_skip))
theorem w_checked {f : Addr} {fd : FuncData} (F : Fun K "checked" "checked" st_checked f fd) (bf : Bf mg) {cv : Nat → Value} (hx : XG K mg cv [0, 1, 7]) (c_is_frame : Cal P w K mg base 2 "is_frame" [] 1 s_is_frame) (c_is_rod : Cal P w K mg base 2 "is_rod" [] 2 s_is_rod) {HE CB fI : Addr} {fdI : FuncData} (bh : BhF K mg HE CB fI) (hcv : cv 7 = .ref CB) (FI : FnOk P w K mg base CX0 1 fI fdI ["self", "at"] (spI CB)) (hbI : Binds K fdI ["self", "at"] []) : FnOk P w K mg base (L2N.CX P w) 3 f fd ["hedge"] (spX K cv 1 s_checked_3) :=
  fn_okN d_checked_3 F sc_checked bf rfl rfl (by decide) fun cdv A outer s H E hr G hp => (nxb_cons (nx_ite (st_not (st_tru (se_call c_is_frame hr (by decide) (sm_cons (se_var (i := 0)) sm_nil)))) (nxb_cons (nx_raiseA G bh hcv FI hbI hr (by decide) se_n) nxb_nil) nxb_nil) (nxb_cons (nx_st (ss_asgT (se_var (i := 0)) (sg_tp G (sgs_cons (i := 1) G (sgs_cons (i := 2) G sgs_nil))))) (nxb_cons (nx_st (ss_asg (i := 3) G (se_listRng G (se_var (i := 1))))) (nxb_cons (nx_st (ss_asg (i := 4) G (se_tup (sa_cons (se_neg se_i) (sa_cons (se_neg se_i) sa_nil))))) (nx_kill (nxb_cons (nx_for G hp (si_enum G (se_var (i := 2))) (sg_tp G (sgs_cons (i := 5) G (sgs_cons (i := 6) G sgs_nil))) (nxb_cons (nx_ite (st_w (sw_or (st_not (st_tru (se_call c_is_rod hr (by decide) (sm_cons (se_var (i := 6)) (sm_cons (se_var (i := 1)) sm_nil))))) (sw_or (st_pc (sc_leL G (se_var (i := 6)) (se_var (i := 4)))) (sw_one_or (st_pc (sc_eq G (se_ix G (se_var (i := 3)) (se_ix G (se_var (i := 6)) se_i)) (se_ix G (se_var (i := 3)) (se_ix G (se_var (i := 6)) se_i)))))))) (nxb_cons (nx_raiseA G bh hcv FI hbI hr (by decide) (se_var (i := 5))) nxb_nil) nxb_nil) (nxb_cons (nx_st (ss_asg (i := 4) G (se_var (i := 6)))) (nxb_cons (nx_st (ss_asg (i := 7) G (se_ix G (se_var (i := 3)) (se_ix G (se_var (i := 6)) se_i)))) (nxb_cons (nx_st (ss_asg (i := 3) G (se_comp G [("one", 8)] (si_lst (se_var (i := 3))) (fun _ _ _ _ _ => (sg_nm (i := 8) G.blk)) (fun _ _ _ _ _ => sts_yes) (fun _ _ _ _ _ => (se_ite (st_pc (sc_eq G.blk (se_var (i := 8)) (se_var (i := 7)))) (se_ix G.blk (se_var (i := 3)) (se_ix G.blk (se_var (i := 6)) se_i)) (se_var (i := 8))))))) (nx_kill nxb_nil)))))) (nxb_cons (nx_st (ss_ret (se_tup (sa_cons (se_var (i := 1)) (sa_cons (se_list G (se_var (i := 2))) sa_nil))))) nxb_nil)))))))
theorem w__law_hedge {f : Addr} {fd : FuncData} (F : Fun K "_law_hedge" "_law_hedge" st__law_hedge f fd) (bf : Bf mg) {cv : Nat → Value} (c__law_large : Cal P w K mg base 2 "_law_large" [] 1 s_l_large) (c__law_cell : Cal P w K mg base 1 "_law_cell" [] 2 s_l_cell) (c__law_order : Cal P w K mg base 2 "_law_order" [] 3 s_l_order) (c__law_mix : Cal P w K mg base 1 "_law_mix" [] 3 s_l_mix) : FnOk P w K mg base CX0 3 f fd ["_law_script", "_law_at"] (spF K d_l_hedge.lent d_l_hedge.params s_l_hedge) :=
  fn_ok d_l_hedge F sc__law_hedge bf rfl rfl (by decide) fun cdv A outer s H E hr G => (sb_seq (ss_asg (i := 2) G se_i) (sb_seq (ss_ite (st_tru (se_call c__law_large hr (by decide) (sm_cons (se_var (i := 0)) sm_nil))) (sb_seq (ss_asg (i := 2) G se_i) sb_skip) sb_skip) (sb_seq (ss_ite (st_pc (sc_gt (se_len G (se_var (i := 0))) se_i)) (sb_seq (ss_asg (i := 2) G se_i) sb_skip) sb_skip) (sb_seq (ss_asg (i := 3) G (se_add se_i (se_md (se_call c__law_cell hr (by decide) (sm_cons (se_var (i := 0)) (sm_cons (se_var (i := 1)) sm_nil))) (se_var (i := 2))))) (sb_seq (ss_asg (i := 4) G (se_call c__law_order hr (by decide) (sm_cons (se_var (i := 0)) (sm_cons (se_var (i := 1)) (sm_cons (se_var (i := 3)) sm_nil))))) (sb_seq (ss_asg (i := 5) G (se_md (se_call c__law_cell hr (by decide) (sm_cons (se_var (i := 0)) (sm_cons (se_add (se_var (i := 1)) se_i) sm_nil))) se_i)) (sb_seq (ss_asg (i := 6) G (se_lst sa_nil)) (sb_kill (sb_seq (ss_for G PassesOwn.never (si_rng2 G se_i (se_var (i := 3))) (sg_nm (i := 7) G) (sb_seq (ss_asg (i := 8) G (se_call c__law_mix hr (by decide) (sm_cons (se_add (se_call c__law_cell hr (by decide) (sm_cons (se_var (i := 0)) (sm_cons (se_add (se_add (se_var (i := 1)) se_i) (se_var (i := 7))) sm_nil))) (se_mul (se_mul se_i (se_var (i := 7))) (se_var (i := 7)))) (sm_cons se_i (sm_cons (se_var (i := 7)) sm_nil))))) (sb_seq (ss_ite (st_pc (sc_eq G (se_var (i := 5)) se_i)) (sb_seq (ss_asg (i := 8) G (se_sub (se_var (i := 7)) se_i)) sb_skip) sb_skip) (sb_seq (ss_ite (st_pc (sc_eq G (se_var (i := 5)) se_i)) (sb_seq (ss_asg (i := 8) G se_i) sb_skip) sb_skip) (sb_seq (ss_ite (st_pc (sc_eq G (se_var (i := 5)) se_i)) (sb_seq (ss_asg (i := 8) G (se_max2 G se_i (se_sub (se_sub (se_var (i := 7)) se_i) (se_call c__law_mix hr (by decide) (sm_cons (se_call c__law_cell hr (by decide) (sm_cons (se_var (i := 0)) (sm_cons (se_add (se_add (se_var (i := 1)) se_i) (se_var (i := 7))) sm_nil))) (sm_cons se_i (sm_cons se_i sm_nil))))))) sb_skip) sb_skip) (sb_seq (ss_asg (i := 9) G (se_ix G (se_var (i := 4)) (se_var (i := 7)))) (sb_seq (ss_asg (i := 10) G (se_ix G (se_var (i := 4)) (se_var (i := 8)))) (sb_seq (ss_app (i := 6) (se_tup (sa_cons (se_min2 G (se_var (i := 9)) (se_var (i := 10))) (sa_cons (se_max2 G (se_var (i := 9)) (se_var (i := 10))) sa_nil)))) (sb_kill sb_skip))))))))) (sb_seq (ss_ret (se_tup (sa_cons (se_var (i := 3)) (sa_cons (se_sorted G (se_var (i := 6))) sa_nil)))) sb_skip))))))))))
theorem w_read {f : Addr} {fd : FuncData} (F : Fun K "read" "read" st_read f fd) (bf : Bf mg) {cv : Nat → Value} (hx : XG K mg cv [0, 1, 7]) (c_whole : CalX P w K mg base cv 1 "whole" 1 s_whole_2) (c_rod_read : CalX P w K mg base cv 2 "rod_read" 1 s_rod_read_2) (c_checked : CalN P w K mg base cv 3 "checked" 1 s_checked_3) : FnOk P w K mg base (L2.CX P w) 4 f fd ["text"] (spX K cv 1 s_read_2) :=
  fn_okX d_read_2 F sc_read bf rfl rfl (by decide) fun cdv A outer s H E hr G hp => (sxb_cons (sx_ite (st_not (st_tru (se_isin G (se_var (i := 0)) (ty_str G)))) (sxb_cons (sx_raise G (hx.ex 1 (by decide) (by decide))) sxb_nil) sxb_nil) (sxb_cons (sx_st (ss_asg (i := 1) G (se_split G (se_var (i := 0)) se_s))) (sxb_cons (sx_asg (i := 2) G (sx_tup (sxa_cons (sx_call c_whole hr (by decide) (sm_cons (se_ix G (se_var (i := 1)) se_i) sm_nil)) (sxa_cons (sx_comp G [("part", 3)] (si_lst (se_sl (se_var (i := 1)) (so_so se_i) so_no)) (fun _ _ _ _ _ => (sg_nm (i := 3) G.blk)) (fun _ _ _ _ _ _ => (sx_call c_rod_read hr (by decide) (sm_cons (se_var (i := 3)) sm_nil)))) sxa_nil)))) (sxb_cons (sx_tryR (id := 95) G (fun hd => L2H.passesAt_of rfl hd) (hx.mg 7 (by decide)) (hx.tr 7 (by decide)) c_checked hr (by decide) (fun pn xe Gt => (sm_cons (se_var (i := 2)) sm_nil)) (hx.ex 1 (by decide) (by decide))) sxb_nil))))
theorem w__law_refused {f : Addr} {fd : FuncData} (F : Fun K "_law_refused" "_law_refused" st__law_refused f fd) (bf : Bf mg) {cv : Nat → Value} (hx : XG K mg cv [0, 1, 7]) (c_read : CalX P w K mg base cv 4 "read" 1 s_read_2) : FnOk P w K mg base CX0 5 f fd ["_law_text"] (spF K [] 1 s_l_refused_5) :=
  fn_okT d_l_refused_5 F sc__law_refused bf rfl rfl (by decide) fun cdv A outer s H E hr G => (sxb_cons (sx_try G (hx.mg 1 (by decide)) (hx.tr 1 (by decide)) (fun pn xe Gt => (sxb_cons (sx_drop (sx_call c_read hr (by decide) (sm_cons (se_var (i := 0)) sm_nil))) sxb_nil)) (fun a oe pn => (sb_seq (ss_ret se_b) sb_skip))) (sxb_cons (sx_st (ss_ret se_b)) sxb_nil))
theorem w__law_by_base {f : Addr} {fd : FuncData} (F : Fun K "_law_by_base" "_law_by_base" st__law_by_base f fd) (bf : Bf mg) {cv : Nat → Value} (hx : XG K mg cv [0, 1, 7]) (c_read : CalX P w K mg base cv 4 "read" 1 s_read_2) : FnOk P w K mg base CX0 5 f fd ["_law_text"] (spF K [] 1 s_l_by_base_5) :=
  fn_okT d_l_by_base_5 F sc__law_by_base bf rfl rfl (by decide) fun cdv A outer s H E hr G => (sxb_cons (sx_tryAsA (i := 1) (hs := fun x => .seq (.ret (.c (.bl (subC x.cls 8)))) .skip) G (hx.mg 0 (by decide)) (hx.tr 0 (by decide)) (fun pn xe Gt => (sxb_cons (sx_drop (sx_call c_read hr (by decide) (sm_cons (se_var (i := 0)) sm_nil))) sxb_nil)) (fun a oe cls d pn hz hf => (sh_ofA fun x ec hy => sh_retA (pe_isEA (i := 1) hz hf ec hy (hx.is 8 (by decide)) (hx.pve (pcl_VE hx.ve)) rfl bf.isi)))) (sxb_cons (sx_st (ss_ret se_b)) sxb_nil))
theorem w_law {f : Addr} {fd : FuncData} (F : Fun K "law" "law" st_law f fd) (bf : Bf mg) {cv : Nat → Value} (c_shown : Cal P w K mg base 1 "shown" [] 1 s_shown) (c__law_hedge : Cal P w K mg base 3 "_law_hedge" [] 2 s_l_hedge) (c__law_cell : Cal P w K mg base 1 "_law_cell" [] 2 s_l_cell) (c__law_none : Cal P w K mg base 1 "_law_none" [] 2 s_l_none_2) (c__law_refused : Cal P w K mg base 5 "_law_refused" [] 1 s_l_refused_5) (c__law_by_base : Cal P w K mg base 5 "_law_by_base" [] 1 s_l_by_base_5) (c__law_spoilt : Cal P w K mg base 1 "_law_spoilt" [] 4 s_l_spoilt_3) (c_read : CalX P w K mg base cv 4 "read" 1 s_read_2) : FnOk P w K mg base CX0 6 f fd ["_law_script"] (spF K d_law_k05.lent d_law_k05.params s_law_k05) :=
  fn_ok d_law_k05 F sc_law bf rfl rfl (by decide) fun cdv A outer s H E hr G => (sb_seq (ss_asg (i := 1) G (se_call c_shown hr (by decide) (sm_cons (se_call c__law_hedge hr (by decide) (sm_cons (se_var (i := 0)) (sm_cons se_i sm_nil))) sm_nil))) (sb_seq (ss_asg (i := 2) G (se_md (se_call c__law_cell hr (by decide) (sm_cons (se_var (i := 0)) (sm_cons se_i sm_nil))) se_i)) (sb_seq (ss_ite (st_pc (sc_eq G (se_var (i := 2)) se_i)) (sb_seq (ss_asg (i := 3) G (se_call c__law_none hr (by decide) (sm_cons (se_var (i := 1)) (sm_cons (se_call c__law_cell hr (by decide) (sm_cons (se_var (i := 0)) (sm_cons se_i sm_nil))) sm_nil)))) (sb_seq (ss_ret (se_and (se_call c__law_refused hr (by decide) (sm_cons (se_var (i := 3)) sm_nil)) (se_one (se_call c__law_by_base hr (by decide) (sm_cons (se_var (i := 3)) sm_nil))))) sb_skip)) sb_skip) (sb_seq (ss_asg (i := 3) G (se_call c__law_spoilt hr (by decide) (sm_cons (se_var (i := 1)) (sm_cons (se_var (i := 2)) (sm_cons (se_call c__law_cell hr (by decide) (sm_cons (se_var (i := 0)) (sm_cons se_i sm_nil))) (sm_cons (se_call c__law_cell hr (by decide) (sm_cons (se_var (i := 0)) (sm_cons se_i sm_nil))) sm_nil)))))) (sb_seq (ss_ite (st_tru (se_call c__law_refused hr (by decide) (sm_cons (se_var (i := 3)) sm_nil))) (sb_seq (ss_ret (se_call c__law_by_base hr (by decide) (sm_cons (se_var (i := 3)) sm_nil))) sb_skip) sb_skip) (sb_seq (ss_ret (se_pc (sc_eq G (se_call c_shown hr (by decide) (sm_cons (se_callO c_read hr (by decide) (sm_cons (se_var (i := 3)) sm_nil)) sm_nil)) (se_var (i := 3))))) sb_skip))))))
end
end HgW
end

section
set_option autoImplicit false
set_option maxHeartbeats 1000000
/-! Pl0: the evaluator by simp; loops and comprehensions by what holds of them. Plain Lean. -/
namespace Hg
theorem FU_eq : FU = 100000 := rfl
theorem L_eq : L = 100000 := rfl
theorem runF_eq {C : Nat → List D → Option D} {f : FDef} {ds : List D} {d : D} (h : ds.length = f.params) (he : exec C FU f.body (startEnv f ds) = some (.rt d)) : runF C f ds = some d := by
  unfold runF
  rw [if_pos h, he]
@[simp] theorem vm_frz (d : D) : vm (some (d, .frz)) = some d := rfl
@[simp] theorem vm_new1 (d : D) : vm (some (d, .new1)) = some d := rfl
@[simp] theorem vm_new2 (d : D) : vm (some (d, .new2)) = some d := rfl
@[simp] theorem vm_int (i : Int) (k : Kd) : vm (some (.int i, k)) = some (.int i) := by cases k <;> rfl
@[simp] theorem vm_bl (i : Bool) (k : Kd) : vm (some (.bl i, k)) = some (.bl i) := by cases k <;> rfl
@[simp] theorem vm_str (i : List Nat) (k : Kd) : vm (some (.str i, k)) = some (.str i) := by cases k <;> rfl
@[simp] theorem vm_non (k : Kd) : vm (some (.non, k)) = some .non := by cases k <;> rfl
@[simp] theorem vm_none : vm none = none := rfl
@[simp] theorem em_frz (d : D) : em (some (d, .frz)) = some d := rfl
@[simp] theorem em_new1 (d : D) : em (some (d, .new1)) = some d := rfl
@[simp] theorem em_new2 (d : D) : em (some (d, .new2)) = some d := rfl
@[simp] theorem em_own1 (d : D) : em (some (d, .own1)) = some d := rfl
@[simp] theorem em_int (i : Int) (k : Kd) : em (some (.int i, k)) = some (.int i) := by cases k <;> rfl
@[simp] theorem em_str (i : List Nat) (k : Kd) : em (some (.str i, k)) = some (.str i) := by cases k <;> rfl
@[simp] theorem em_none : em none = none := rfl
@[simp] theorem bm_some (d : D) (k : Kd) : bm (some (d, k)) = some d := rfl
@[simp] theorem bm_none : bm none = none := rfl
@[simp] theorem addD_int (i j : Int) : addD (.int i) (.int j) = some (.int (i + j)) := rfl
theorem addD_lst {x y : List D} (h : x.length + y.length ≤ L) : addD (.lst x) (.lst y) = some (.lst (x ++ y)) := if_pos h
theorem addD_str {x y : List Nat} (h : x.length + y.length ≤ L) : addD (.str x) (.str y) = some (.str (x ++ y)) := if_pos h
@[simp] theorem getIx_nat {α : Type} (xs : List α) (k : Nat) : getIx xs (k : Int) = xs[k]? := by
  unfold getIx ixN
  rw [if_pos (by omega)]
  by_cases h : k < xs.length
  · rw [if_pos (by omega)]; simp
  · rw [if_neg (by omega)]
    rw [List.getElem?_eq_none (by omega)]; rfl
@[simp] theorem getIx_zero {α : Type} (xs : List α) : getIx xs 0 = xs[0]? := getIx_nat xs 0
@[simp] theorem getIx_one {α : Type} (xs : List α) : getIx xs 1 = xs[1]? := getIx_nat xs 1
theorem getIx_toNat {α : Type} (xs : List α) {i : Int} (h : 0 ≤ i) : getIx xs i = xs[i.toNat]? := by
  obtain ⟨k, rfl⟩ := Int.eq_ofNat_of_zero_le h
  simp
theorem ixN_nat {n k : Nat} (h : k < n) : ixN n (k : Int) = some k := by
  unfold ixN
  rw [if_pos (by omega), if_pos (by omega)]; simp
theorem intsD_map (ns : List Int) : intsD (ns.map D.int) = some ns := by
  induction ns with
  | nil => rfl
  | cons n ns ih =>
    show (asInt (.int n)).bind (fun y => (intsD (ns.map D.int)).bind fun ys => some (y :: ys)) = _
    rw [ih]; rfl
theorem pairsD_map (ps : List (Int × Int)) : pairsD (ps.map pairD) = some ps := by
  induction ps with
  | nil => rfl
  | cons n ns ih =>
    show (asPair (pairD n)).bind (fun y => (pairsD (ns.map pairD)).bind fun ys => some (y :: ys)) = _
    rw [ih]; rfl
theorem sortD_ints (ns : List Int) : sortD (ns.map D.int) = some ((sortI ns).map D.int) := by
  unfold sortD
  rw [intsD_map]
theorem sortD_pairs (ps : List (Int × Int)) : sortD (ps.map pairD) = some ((sortP ps).map pairD) := by
  cases ps with
  | nil => simp [sortD, intsD, optAll, sortI, sortP]
  | cons p ps =>
    unfold sortD
    rw [pairsD_map]
    rfl
/-! ### comprehensions -/
theorem compL_map {α : Type} {f : D → Option (Option (D × Kd))} (toD : α → D) (p : α → Bool) (g : α → D × Kd) : ∀ (xs : List α), (∀ x ∈ xs, f (toD x) = some (if p x then some (g x) else none)) → compL f (xs.map toD) = some ((xs.filter p).map g)
  | [], _ => rfl
  | x :: xs, h => by
    have h1 := h x (List.mem_cons_self ..)
    have h2 := compL_map toD p g xs fun y hy => h y (List.mem_cons_of_mem _ hy)
    show (f (toD x)).bind (fun o => (compL f (xs.map toD)).bind fun r => some (match o with | some p => p :: r | none => r)) = _
    rw [h1, h2, List.filter_cons]
    cases p x <;> rfl
theorem optAll_map {α β γ : Type} {f : β → Option γ} (t : α → β) (g : α → γ) : ∀ (xs : List α), (∀ x ∈ xs, f (t x) = some (g x)) → optAll f (xs.map t) = some (xs.map g)
  | [], _ => rfl
  | x :: xs, h => by
    show (f (t x)).bind (fun y => (optAll f (xs.map t)).bind fun ys => some (y :: ys)) = _
    rw [h x (List.mem_cons_self ..), optAll_map t g xs fun y hy => h y (List.mem_cons_of_mem _ hy)]
    rfl
section
variable {C : Nat → List D → Option D} {elt : E} {tg : Tg} {it : It} {cond : T} {env : Env}
/-- [g x for x in xs if p x] -/
theorem ev_comp {α : Type} (xs : List α) (toD : α → D) (p : α → Bool) (g : α → D) {own : Bool} (hi : evI C it (unset tg.slots env) = some (xs.map toD, own))
    (hx : ∀ x ∈ xs, ∃ e1, bindT tg (toD x) (unset tg.slots env) = some e1 ∧ evT C cond e1 = some (p x) ∧ (p x = true → ∃ k, ev C elt e1 = some (g x, k) ∧ vm (some (g x, k)) = some (g x))) (hl : xs.length < L) :
    ev C (.comp false elt tg it cond) env = some (.lst ((xs.filter p).map g), .new1) := by
  have key : ∀ x ∈ xs, ∃ k, (p x = true → vm (some (g x, k)) = some (g x)) ∧ ((bindT tg (toD x) (unset tg.slots env)).bind fun e1 => (evT C cond e1).bind fun b => if b then (ev C elt e1).map some else some none) = some (if p x then some (g x, k) else none) := by
    intro x hx'
    obtain ⟨e1, h1, h2, h3⟩ := hx x hx'
    rw [h1]
    cases hp : p x with
    | false =>
      rw [hp] at h2
      exact ⟨.frz, (by intro z; cases z), by simp [h2]⟩
    | true =>
      obtain ⟨k, h4, h5⟩ := h3 hp
      rw [hp] at h2
      exact ⟨k, fun _ => h5, by simp [h2, h4]⟩
  have key2 : ∀ xs : List α, (∀ x ∈ xs, ∃ k, (p x = true → vm (some (g x, k)) = some (g x)) ∧ ((bindT tg (toD x) (unset tg.slots env)).bind fun e1 => (evT C cond e1).bind fun b => if b then (ev C elt e1).map some else some none) = some (if p x then some (g x, k) else none)) →
      ∃ ps, compL (fun d => (bindT tg d (unset tg.slots env)).bind fun e1 => (evT C cond e1).bind fun b => if b then (ev C elt e1).map some else some none) (xs.map toD) = some ps ∧ optAll keepD ps = some ((xs.filter p).map g) := by
    intro xs
    induction xs with
    | nil => intro _; exact ⟨[], rfl, rfl⟩
    | cons x xs ih =>
      intro h
      obtain ⟨ps, h1, h2⟩ := ih fun y hy => h y (List.mem_cons_of_mem _ hy)
      obtain ⟨k, h3, h4⟩ := h x (List.mem_cons_self ..)
      cases hp : p x with
      | false =>
        rw [hp] at h4
        refine ⟨ps, ?_, by rw [List.filter_cons, hp]; exact h2⟩
        simp only [List.map_cons, compL]
        rw [h4, h1]
        rfl
      | true =>
        rw [hp] at h4
        refine ⟨(g x, k) :: ps, ?_, ?_⟩
        · simp only [List.map_cons, compL]
          rw [h4, h1]
          rfl
        · rw [List.filter_cons, hp]
          show (keepD (g x, k)).bind (fun y => (optAll keepD ps).bind fun ys => some (y :: ys)) = _
          rw [h2, show keepD (g x, k) = some (g x) from h3 hp]
          rfl
  obtain ⟨ps, h1, h2⟩ := key2 xs key
  have hlen : ps.length ≤ xs.length := by
    have e : ∀ {qs : List (D × Kd)} {ds : List D}, optAll keepD qs = some ds → qs.length = ds.length := by
      intro qs
      induction qs with
      | nil => intro ds h; cases h; rfl
      | cons q qs ih =>
        intro ds h
        simp only [optAll, Option.bind_eq_some_iff] at h
        obtain ⟨y, _, zs, h2, h3⟩ := h
        cases h3
        rw [List.length_cons, List.length_cons, ih h2]
    rw [e h2, List.length_map]
    exact List.length_filter_le _ _
  show ((evI C it (unset tg.slots env)).bind fun xs => (compL (fun d => (bindT tg d (unset tg.slots env)).bind fun e1 => (evT C cond e1).bind fun p => if p then (ev C elt e1).map some else some none) xs.1).bind (compR false)) = _
  rw [hi]
  simp only [Option.bind_some]
  rw [h1]
  simp only [Option.bind_some]
  unfold compR
  rw [if_pos (by omega), if_neg (by decide), h2]
  rfl
theorem filter_yes {α : Type} (xs : List α) : xs.filter (fun _ => true) = xs := by simp
/-- [g x for x in xs] -/
theorem ev_compM {α : Type} (xs : List α) (toD : α → D) (g : α → D) {own : Bool} (hi : evI C it (unset tg.slots env) = some (xs.map toD, own))
    (hx : ∀ x ∈ xs, ∃ e1, bindT tg (toD x) (unset tg.slots env) = some e1 ∧ ∃ k, ev C elt e1 = some (g x, k) ∧ vm (some (g x, k)) = some (g x)) (hl : xs.length < L) :
    ev C (.comp false elt tg it .yes) env = some (.lst (xs.map g), .new1) := by
  have h := ev_comp (C := C) (elt := elt) (cond := .yes) xs toD (fun _ => true) g hi (fun x hx' => by
    obtain ⟨e1, h1, k, h2, h3⟩ := hx x hx'
    exact ⟨e1, h1, rfl, fun _ => ⟨k, h2, h3⟩⟩) hl
  rw [filter_yes] at h
  exact h
/-- [new row for x in xs], the rows one's own -/
theorem ev_compD {α : Type} (xs : List α) (toD : α → D) (g : α → D) {own : Bool} (hi : evI C it (unset tg.slots env) = some (xs.map toD, own))
    (hx : ∀ x ∈ xs, ∃ e1, bindT tg (toD x) (unset tg.slots env) = some e1 ∧ ev C elt e1 = some (g x, .new1)) (hl : xs.length < L) :
    ev C (.comp true elt tg it .yes) env = some (.lst (xs.map g), .new2) := by
  have h1 := compL_map (f := fun d => (bindT tg d (unset tg.slots env)).bind fun e1 => (evT C .yes e1).bind fun p => if p then (ev C elt e1).map some else some none) toD (fun _ => true) (fun x => (g x, Kd.new1)) xs (fun x hx' => by
    obtain ⟨e1, h1, h2⟩ := hx x hx'
    rw [h1]
    simp [evT, h2])
  show ((evI C it (unset tg.slots env)).bind fun xs => (compL (fun d => (bindT tg d (unset tg.slots env)).bind fun e1 => (evT C .yes e1).bind fun p => if p then (ev C elt e1).map some else some none) xs.1).bind (compR true)) = _
  rw [hi]
  simp only [Option.bind_some]
  rw [h1]
  simp only [Option.bind_some, filter_yes]
  unfold compR
  rw [if_pos (by rw [List.length_map]; exact hl), if_pos rfl, if_pos]
  · rw [List.map_map]; rfl
  · rw [List.all_map]
    exact List.all_eq_true.mpr fun x _ => rfl
end
theorem rngD_eq (n : Nat) : rngD 0 n = (List.range n).map fun i => D.int (i : Nat) := by
  unfold rngD
  congr 1
  funext i
  rw [Int.zero_add]
theorem rngD1_eq (n : Nat) : rngD 1 n = (List.range n).map fun i => D.int ((i + 1 : Nat) : Int) := by
  unfold rngD
  congr 1
  funext i
  congr 1
  omega
/-! ### loops -/
/-- a for by what holds between two turns -/
theorem loopF_inv {α β : Type} {f : D → Env → Option Out} (toD : α → D) (enc : β → Env) (Inv : List α → β → Prop) (xs : List α) (b0 : β) (h0 : Inv [] b0)
    (hs : ∀ pre x post b, xs = pre ++ x :: post → Inv pre b → ∃ b', f (toD x) (enc b) = some (.nx (enc b')) ∧ Inv (pre ++ [x]) b') : ∃ b, loopF f (xs.map toD) (enc b0) = some (.nx (enc b)) ∧ Inv xs b := by
  have key : ∀ (post pre : List α) (b : β), xs = pre ++ post → Inv pre b → ∃ b', loopF f (post.map toD) (enc b) = some (.nx (enc b')) ∧ Inv xs b' := by
    intro post
    induction post with
    | nil => intro pre b e h; exact ⟨b, rfl, by rw [e, List.append_nil]; exact h⟩
    | cons x post ih =>
      intro pre b e h
      obtain ⟨b', h1, h2⟩ := hs pre x post b e h
      obtain ⟨b2, h3, h4⟩ := ih (pre ++ [x]) b' (by rw [e]; simp) h2
      refine ⟨b2, ?_, h4⟩
      show andThen (f (toD x) (enc b)) (loopF f (post.map toD)) = _
      rw [h1]
      exact h3
  exact key xs [] b0 rfl h0
/-- a for as a fold -/
theorem loopF_fold {α β : Type} {f : D → Env → Option Out} (toD : α → D) (enc : β → Env) (step : β → α → β) (xs : List α) (b0 : β)
    (hs : ∀ pre x post, xs = pre ++ x :: post → f (toD x) (enc (pre.foldl step b0)) = some (.nx (enc ((pre ++ [x]).foldl step b0)))) : loopF f (xs.map toD) (enc b0) = some (.nx (enc (xs.foldl step b0))) := by
  obtain ⟨b, h1, h2⟩ := loopF_inv toD enc (fun pre b => b = pre.foldl step b0) xs b0 rfl fun pre x post b e h => ⟨_, by rw [h]; exact hs pre x post e, rfl⟩
  rw [h1, h2]
/-- a while by what holds and a number that falls -/
theorem loopW_inv {β : Type} {t : Env → Option Bool} {f : Env → Option Out} (enc : β → Env) (Inv : β → Prop) (μ : β → Nat) (Done : β → Prop)
    (hs : ∀ b, Inv b → (t (enc b) = some true ∧ ∃ b', f (enc b) = some (.nx (enc b')) ∧ Inv b' ∧ μ b' < μ b) ∨ (t (enc b) = some false ∧ Done b)) : ∀ (n : Nat) (b : β), Inv b → μ b < n → ∃ b', loopW t f n (enc b) = some (.nx (enc b')) ∧ Inv b' ∧ Done b'
  | 0, b, _, h => absurd h (by omega)
  | n + 1, b, hi, h => by
    rcases hs b hi with ⟨h1, b', h2, h3, h4⟩ | ⟨h1, h2⟩
    · obtain ⟨b2, h5, h6, h7⟩ := loopW_inv enc Inv μ Done hs n b' h3 (by omega)
      refine ⟨b2, ?_, h6, h7⟩
      show ((t (enc b)).bind fun p => if p then andThen (f (enc b)) (loopW t f n) else some (.nx (enc b))) = _
      rw [h1]
      simp only [Option.bind_some, if_true]
      rw [h2]
      exact h5
    · refine ⟨b, ?_, hi, h2⟩
      show ((t (enc b)).bind fun p => if p then andThen (f (enc b)) (loopW t f n) else some (.nx (enc b))) = _
      rw [h1]
      rfl
end Hg
end

section
set_option autoImplicit false
/-! Eq: the evaluator's equations for simp; printed by mkeq.py. -/
namespace Hg
section
variable (C : Nat → List D → Option D)
@[simp] theorem q_ev_var {i} {env : Env} : ev C (.var i) env = match env[i]? with | some (.val d k) => some (d, k) | _ => none := by simp only [ev] <;> rfl
@[simp] theorem q_ev_c {d} {env : Env} : ev C (.c d) env = if d.atom then some (d, .frz) else none := by simp only [ev] <;> rfl
@[simp] theorem q_ev_add {a b} {env : Env} : ev C (.add a b) env = nw ((em (ev C a env)).bind fun x => (em (ev C b env)).bind fun y => addD x y) := by simp only [ev] <;> rfl
@[simp] theorem q_ev_sub {a b} {env : Env} : ev C (.sub a b) env = (bm (ev C a env)).bind fun x => (bm (ev C b env)).bind fun y => frI ((asInt x).bind fun i => (asInt y).map fun j => i - j) := by simp only [ev] <;> rfl
@[simp] theorem q_ev_mulS {a b} {env : Env} : ev C (.mulS a b) env = nw ((em (ev C a env)).bind fun x => (em (ev C b env)).bind fun y => mulD x y) := by simp only [ev] <;> rfl
@[simp] theorem q_ev_md {a b} {env : Env} : ev C (.md a b) env = (bm (ev C a env)).bind fun x => (bm (ev C b env)).bind fun y => frI ((asInt x).bind fun i => (asInt y).bind fun j => if 0 < j then some (i % j) else none) := by simp only [ev] <;> rfl
@[simp] theorem q_ev_fd {a b} {env : Env} : ev C (.fd a b) env = (bm (ev C a env)).bind fun x => (bm (ev C b env)).bind fun y => frI ((asInt x).bind fun i => (asInt y).bind fun j => if 0 < j ∧ j < 1073741824 then some (i / j) else none) := by simp only [ev] <;> rfl
@[simp] theorem q_ev_pow {a b} {env : Env} : ev C (.pow a b) env = (bm (ev C a env)).bind fun x => (bm (ev C b env)).bind fun y => frI ((asInt x).bind fun i => (asInt y).bind fun j => if 0 ≤ j ∧ j ≤ 1000 ∧ i.natAbs < 1000 then some (i ^ j.toNat) else none) := by simp only [ev] <;> rfl
@[simp] theorem q_ev_neg {a} {env : Env} : ev C (.neg a) env = frI ((bm (ev C a env)).bind fun x => (asInt x).map fun i => -i) := by simp only [ev] <;> rfl
@[simp] theorem q_ev_lt {a b} {env : Env} : ev C (.lt a b) env = (bm (ev C a env)).bind fun x => (bm (ev C b env)).bind fun y => frB (ltA x y) := by simp only [ev] <;> rfl
@[simp] theorem q_ev_le {a b} {env : Env} : ev C (.le a b) env = (bm (ev C a env)).bind fun x => (bm (ev C b env)).bind fun y => frB ((ltA y x).map fun r => !r) := by simp only [ev] <;> rfl
@[simp] theorem q_ev_gt {a b} {env : Env} : ev C (.gt a b) env = (bm (ev C a env)).bind fun x => (bm (ev C b env)).bind fun y => frB (ltA y x) := by simp only [ev] <;> rfl
@[simp] theorem q_ev_ge {a b} {env : Env} : ev C (.ge a b) env = (bm (ev C a env)).bind fun x => (bm (ev C b env)).bind fun y => frB ((ltA x y).map fun r => !r) := by simp only [ev] <;> rfl
@[simp] theorem q_ev_ltL {a b} {env : Env} : ev C (.ltL a b) env = (bm (ev C a env)).bind fun x => (bm (ev C b env)).bind fun y => frB (ltD x y) := by simp only [ev] <;> rfl
@[simp] theorem q_ev_leL {a b} {env : Env} : ev C (.leL a b) env = (bm (ev C a env)).bind fun x => (bm (ev C b env)).bind fun y => frB ((ltD y x).map fun r => !r) := by simp only [ev] <;> rfl
@[simp] theorem q_ev_gtL {a b} {env : Env} : ev C (.gtL a b) env = (bm (ev C a env)).bind fun x => (bm (ev C b env)).bind fun y => frB (ltD y x) := by simp only [ev] <;> rfl
@[simp] theorem q_ev_geL {a b} {env : Env} : ev C (.geL a b) env = (bm (ev C a env)).bind fun x => (bm (ev C b env)).bind fun y => frB ((ltD x y).map fun r => !r) := by simp only [ev] <;> rfl
@[simp] theorem q_ev_eq {a b} {env : Env} : ev C (.eq a b) env = (bm (ev C a env)).bind fun x => (bm (ev C b env)).bind fun y => if plainD PD x ∧ plainD PD y then some (.bl (eqD x y), .frz) else none := by simp only [ev] <;> rfl
@[simp] theorem q_ev_ne {a b} {env : Env} : ev C (.ne a b) env = (bm (ev C a env)).bind fun x => (bm (ev C b env)).bind fun y => if plainD PD x ∧ plainD PD y then some (.bl (!eqD x y), .frz) else none := by simp only [ev] <;> rfl
@[simp] theorem q_ev_isN {a} {env : Env} : ev C (.isN a) env = (bm (ev C a env)).bind fun x => some (.bl x.isNon, .frz) := by simp only [ev] <;> rfl
@[simp] theorem q_ev_notN {a} {env : Env} : ev C (.notN a) env = (bm (ev C a env)).bind fun x => some (.bl (!x.isNon), .frz) := by simp only [ev] <;> rfl
@[simp] theorem q_ev_mem {a b} {env : Env} : ev C (.mem a b) env = (bm (ev C a env)).bind fun x => (bm (ev C b env)).bind fun y => frB (memD x y) := by simp only [ev] <;> rfl
@[simp] theorem q_ev_nmem {a b} {env : Env} : ev C (.nmem a b) env = (bm (ev C a env)).bind fun x => (bm (ev C b env)).bind fun y => frB ((memD x y).map fun r => !r) := by simp only [ev] <;> rfl
@[simp] theorem q_ev_ch {o1 o2 a b c} {env : Env} : ev C (.ch o1 o2 a b c) env = (bm (ev C a env)).bind fun x => (bm (ev C b env)).bind fun y => (asInt x).bind fun i => (asInt y).bind fun j =>
   if coB o1 i j then (bm (ev C c env)).bind fun z => (asInt z).bind fun k => some (.bl (coB o2 j k), .frz) else some (.bl false, .frz) := by simp only [ev] <;> rfl
@[simp] theorem q_ev_and_ {a b} {env : Env} : ev C (.and_ a b) env = (bm (ev C a env)).bind fun x => (asBl x).bind fun p => if p then ((bm (ev C b env)).bind fun y => (asBl y).bind fun q => some (.bl q, .frz)) else some (.bl false, .frz) := by simp only [ev] <;> rfl
@[simp] theorem q_ev_or_ {a b} {env : Env} : ev C (.or_ a b) env = (bm (ev C a env)).bind fun x => (asBl x).bind fun p => if p then some (.bl true, .frz) else ((bm (ev C b env)).bind fun y => (asBl y).bind fun q => some (.bl q, .frz)) := by simp only [ev] <;> rfl
@[simp] theorem q_ev_one {a} {env : Env} : ev C (.one a) env = ev C a env := by simp only [ev] <;> rfl
@[simp] theorem q_ev_not_ {a} {env : Env} : ev C (.not_ a) env = (bm (ev C a env)).bind fun x => (asBl x).bind fun p => some (.bl (!p), .frz) := by simp only [ev] <;> rfl
@[simp] theorem q_ev_ite {t a b} {env : Env} : ev C (.ite t a b) env = (evT C t env).bind fun p => if p then fr (vm (ev C a env)) else fr (vm (ev C b env)) := by simp only [ev] <;> rfl
@[simp] theorem q_ev_tup {es} {env : Env} : ev C (.tup es) env = (evs C es env).bind fun ds => if ds.length ≤ L then some (.tup ds, .frz) else none := by simp only [ev] <;> rfl
@[simp] theorem q_ev_lst {es} {env : Env} : ev C (.lst es) env = (evs C es env).bind fun ds => if ds.length ≤ L then some (.lst ds, .new1) else none := by simp only [ev] <;> rfl
@[simp] theorem q_ev_dic0 {env : Env} : ev C (.dic0) env = some (.dic [], .new1) := by simp only [ev] <;> rfl
@[simp] theorem q_ev_dic2 {ks vs} {env : Env} : ev C (.dic2 ks vs) env = (evs C ks env).bind fun ds => (evs C vs env).bind fun es => (optAll keyD ds).bind fun kk => if kk.length = es.length ∧ kk.length ≤ 8 then some (.dic (mergeKy [] (kk.zip es)), .new1) else none := by simp only [ev] <;> rfl
@[simp] theorem q_ev_call {f mask es} {env : Env} : ev C (.call f mask es) env = (evm C mask es env).bind fun ds => fr (C f ds) := by simp only [ev] <;> rfl
@[simp] theorem q_ev_len {a} {env : Env} : ev C (.len a) env = frI ((bm (ev C a env)).bind lenL) := by simp only [ev] <;> rfl
@[simp] theorem q_ev_max2 {a b} {env : Env} : ev C (.max2 a b) env = (bm (ev C a env)).bind fun x => (bm (ev C b env)).bind fun y => frI ((asInt x).bind fun i => (asInt y).map fun j => max i j) := by simp only [ev] <;> rfl
@[simp] theorem q_ev_min2 {a b} {env : Env} : ev C (.min2 a b) env = (bm (ev C a env)).bind fun x => (bm (ev C b env)).bind fun y => frI ((asInt x).bind fun i => (asInt y).map fun j => min i j) := by simp only [ev] <;> rfl
@[simp] theorem q_ev_sortedD {a} {env : Env} : ev C (.sortedD a) env = (bm (ev C a env)).bind fun x => match x with
   | .dic kvs => if kvs.length < 64 then (intsD (kvs.map fun kv => kyD kv.1)).map fun ns => (.lst ((sortI ns).map D.int), .new1) else none
   | _ => none := by simp only [ev] <;> rfl
@[simp] theorem q_ev_sortedK0 {a} {env : Env} : ev C (.sortedK0 a) env = (bm (ev C a env)).bind fun x => match x with
   | .dic kvs => if kvs.length < L then (strsD (kvs.map fun kv => kyD kv.1)).map fun ss => (.lst ((sortS ss).map D.str), .new1) else none
   | _ => none := by simp only [ev] <;> rfl
@[simp] theorem q_ev_sortedR {a} {env : Env} : ev C (.sortedR a) env = (bm (ev C a env)).bind fun x => match x with | .lst xs => if xs.length < L then (strsD xs).map fun ss => (.lst ((sortS ss).reverse.map D.str), .new1) else none | _ => none := by simp only [ev] <;> rfl
@[simp] theorem q_ev_sortedK {a i} {env : Env} : ev C (.sortedK a i) env = (bm (ev C a env)).bind fun x => match x, env[i]? with
   | .lst xs, some (.val (.lst cs) k) => if xs.length < L then (intsD xs).bind fun ns => (strsD cs).bind fun ss =>
     if ns.all (fun n => decide (0 ≤ n ∧ n < ss.length)) then some (.lst ((ns.mergeSort fun a b => !lexS (ss.getD a.toNat []) (ss.getD b.toNat [])).map D.int), .new1) else none else none
   | _, _ => none := by simp only [ev] <;> rfl
@[simp] theorem q_ev_listRng {a} {env : Env} : ev C (.listRng a) env = (bm (ev C a env)).bind fun x => (asInt x).bind fun n => if 0 ≤ n ∧ n ≤ 1000 then some (.lst (rngD 0 n.toNat), .new1) else none := by simp only [ev] <;> rfl
@[simp] theorem q_ev_listRev {a} {env : Env} : ev C (.listRev a) env = (em (ev C a env)).bind fun x => match x with | .lst xs => some (.lst xs.reverse, .new1) | _ => none := by simp only [ev] <;> rfl
@[simp] theorem q_ev_listVals {a} {env : Env} : ev C (.listVals a) env = (em (ev C a env)).bind fun x => match x with | .dic kvs => some (.lst (kvs.map (·.2)), .new1) | _ => none := by simp only [ev] <;> rfl
@[simp] theorem q_ev_listKeys {a} {env : Env} : ev C (.listKeys a) env = (bm (ev C a env)).bind fun x => match x with | .dic kvs => some (.lst (kvs.map fun kv => kyD kv.1), .new1) | _ => none := by simp only [ev] <;> rfl
@[simp] theorem q_ev_tuple {a} {env : Env} : ev C (.tuple a) env = (em (ev C a env)).bind fun x => match x with | .lst xs => some (.tup xs, .frz) | .tup xs => some (.tup xs, .frz) | _ => none := by simp only [ev] <;> rfl
@[simp] theorem q_ev_dictP {a} {env : Env} : ev C (.dictP a) env = (em (ev C a env)).bind fun x => match x with
   | .lst xs => (optAll (fun d => match d with | .tup [k, v] => (keyD k).map fun k => (k, v) | _ => none) xs).bind fun kvs => if kvs.length < L then some (.dic (mergeKy [] kvs), .new1) else none
   | _ => none := by simp only [ev] <;> rfl
@[simp] theorem q_ev_strI {a} {env : Env} : ev C (.strI a) env = (bm (ev C a env)).bind fun x => (asInt x).bind fun i => if 0 ≤ i ∧ i < 1000 then some (.str (strOf i), .frz) else none := by simp only [ev] <;> rfl
@[simp] theorem q_ev_intE {a} {env : Env} : ev C (.intE a) env = (bm (ev C a env)).bind fun x => match x with | .bl b => some (.int (if b then 1 else 0), .frz) | _ => none := by simp only [ev] <;> rfl
@[simp] theorem q_ev_isin {a t} {env : Env} : ev C (.isin a t) env = (bm (ev C a env)).bind fun x => some (.bl (isTy x t), .frz) := by simp only [ev] <;> rfl
@[simp] theorem q_ev_intT {a} {env : Env} : ev C (.intT a) env = (bm (ev C a env)).bind fun x => match x with | .str s => frI (intOf s) | _ => none := by simp only [ev] <;> rfl
@[simp] theorem q_ev_lenset {a} {env : Env} : ev C (.lenset a) env = (bm (ev C a env)).bind fun x => match x with | .lst xs => if xs.length ≤ 1000 then frI ((intsD xs).bind fun ns => if ns.Nodup then some (ns.length : Int) else none) else none | _ => none := by simp only [ev] <;> rfl
@[simp] theorem q_ev_sortset {a} {env : Env} : ev C (.sortset a) env = (bm (ev C a env)).bind fun x => match x with | .lst xs => if xs.length ≤ 1000 then (intsD xs).map fun ns => (.lst ((sortI ns.eraseDups).map D.int), .new1) else none | _ => none := by simp only [ev] <;> rfl
@[simp] theorem q_ev_join {s a} {env : Env} : ev C (.join s a) env = (bm (ev C s env)).bind fun x => (bm (ev C a env)).bind fun y => match x, y with
   | .str z, .lst xs => (strsD xs).bind fun ss => if (ss.map List.length).sum + ss.length * z.length ≤ L then some (.str (glue z ss), .frz) else none
   | _, _ => none := by simp only [ev] <;> rfl
@[simp] theorem q_ev_split {a z} {env : Env} : ev C (.split a z) env = (bm (ev C a env)).bind fun x => (bm (ev C z env)).bind fun y => match x, y with
   | .str t, .str [c] => if t.length + 2 ≤ L ∧ c < 128 then some (.lst ((splitC c [] t).map D.str), .new1) else none
   | _, _ => none := by simp only [ev] <;> rfl
@[simp] theorem q_ev_find {x0 x1 x2} {env : Env} : ev C (.find x0 x1 x2) env = none := by simp only [ev] <;> rfl
@[simp] theorem q_ev_get {a k x} {env : Env} : ev C (.get a k x) env = (em (ev C a env)).bind fun y => (bm (ev C k env)).bind fun q => (vm (ev C x env)).bind fun z => match y with | .dic kvs => (keyD q).map fun kk => ((look kvs kk).getD z, .frz) | _ => none := by simp only [ev] <;> rfl
@[simp] theorem q_evs_nil {env : Env} : evs C (.nil) env = some [] := by simp only [evs] <;> rfl
@[simp] theorem q_evs_cons {e r} {env : Env} : evs C (.cons e r) env = (vm (ev C e env)).bind fun d => (evs C r env).bind fun ds => some (d :: ds) := by simp only [evs] <;> rfl
@[simp] theorem q_evO_no {env : Env} : evO C (.no) env = some none := by simp only [evO] <;> rfl
@[simp] theorem q_evO_so {e} {env : Env} : evO C (.so e) env = (bm (ev C e env)).bind fun x => (asInt x).map some := by simp only [evO] <;> rfl
@[simp] theorem q_evT_yes {env : Env} : evT C (.yes) env = some true := by simp only [evT] <;> rfl
@[simp] theorem q_evT_val {e} {env : Env} : evT C (.val e) env = (bm (ev C e env)).bind asBl := by simp only [evT] <;> rfl
@[simp] theorem q_evT_tru {e} {env : Env} : evT C (.tru e) env = (bm (ev C e env)).bind truL := by simp only [evT] <;> rfl
@[simp] theorem q_evT_and_ {a b} {env : Env} : evT C (.and_ a b) env = (evT C a env).bind fun p => if p then evT C b env else some false := by simp only [evT] <;> rfl
@[simp] theorem q_evT_or_ {a b} {env : Env} : evT C (.or_ a b) env = (evT C a env).bind fun p => if p then some true else evT C b env := by simp only [evT] <;> rfl
@[simp] theorem q_evT_one {a} {env : Env} : evT C (.one a) env = evT C a env := by simp only [evT] <;> rfl
@[simp] theorem q_evT_not_ {a} {env : Env} : evT C (.not_ a) env = (evT C a env).map fun p => !p := by simp only [evT] <;> rfl
@[simp] theorem q_evI_rng1 {a} {env : Env} : evI C (.rng1 a) env = (bm (ev C a env)).bind fun x => (asInt x).bind fun n => if -1000000 ≤ n ∧ n ≤ 1000000 then some (rngD 0 n.toNat, false) else none := by simp only [evI] <;> rfl
@[simp] theorem q_evI_rng2 {a b} {env : Env} : evI C (.rng2 a b) env = (bm (ev C a env)).bind fun x => (bm (ev C b env)).bind fun y => (asInt x).bind fun m => (asInt y).bind fun n =>
   if -1000000 ≤ m ∧ m ≤ 1000000 ∧ -1000000 ≤ n ∧ n ≤ 1000000 then some (rngD m (n - m).toNat, false) else none := by simp only [evI] <;> rfl
@[simp] theorem q_evI_zip {a b} {env : Env} : evI C (.zip a b) env = (ev C a env).bind fun p => (ev C b env).bind fun q => match p.1, q.1 with
   | .lst xs, .lst ys => if p.2 = .frz ∧ q.2 = .frz then some (zipD xs ys, false) else none
   | _, _ => none := by simp only [evI] <;> rfl
@[simp] theorem q_evI_cst {xs} {env : Env} : evI C (.cst xs) env = some (xs, true) := by simp only [evI] <;> rfl
@[simp] theorem q_evI_items {e} {env : Env} : evI C (.items e) env = (ev C e env).bind fun p => match p.1 with
   | .dic kvs => if p.2 = .own1 then some (kvs.map fun kv => .tup [kyD kv.1, kv.2], true) else none
   | _ => none := by simp only [evI] <;> rfl
@[simp] theorem q_exec_skip (fuel : Nat) {env : Env} : exec C fuel (.skip) env = some (.nx env) := by simp only [exec] <;> rfl
@[simp] theorem q_exec_seq (fuel : Nat) {a b} {env : Env} : exec C fuel (.seq a b) env = andThen (exec C fuel a env) (exec C fuel b) := by simp only [exec] <;> rfl
@[simp] theorem q_exec_asg (fuel : Nat) {i m e} {env : Env} : exec C fuel (.asg i m e) env = (ev C e env).bind fun p => (vm (some p)).bind fun d => some (.nx (env.set i (.val d (slotK m p.2)))) := by simp only [exec] <;> rfl
@[simp] theorem q_exec_asgT (fuel : Nat) {is e} {env : Env} : exec C fuel (.asgT is e) env = (vm (ev C e env)).bind fun d => (bindT (.tp is) d env).map .nx := by simp only [exec] <;> rfl
@[simp] theorem q_exec_asgIx (fuel : Nat) {i e1 e2} {env : Env} : exec C fuel (.asgIx i e1 e2) env = (vm (ev C e2 env)).bind fun v => (bm (ev C e1 env)).bind fun x => match env[i]? with
   | some (.val (.lst xs) .own1) => (asInt x).bind fun j => (ixN xs.length j).map fun n => .nx (env.set i (.val (.lst (xs.set n v)) .own1))
   | some (.val (.dic kvs) .own1) => (keyD x).bind fun k => if kvs.length < L then some (.nx (env.set i (.val (.dic (put kvs k v)) .own1))) else none
   | _ => none := by simp only [exec] <;> rfl
@[simp] theorem q_exec_app (fuel : Nat) {i e} {env : Env} : exec C fuel (.app i e) env = (vm (ev C e env)).bind fun v => match env[i]? with
   | some (.val (.lst xs) .own1) => if xs.length < L then some (.nx (env.set i (.val (.lst (xs ++ [v])) .own1))) else none
   | _ => none := by simp only [exec] <;> rfl
@[simp] theorem q_exec_appIx (fuel : Nat) {i e1 e2} {env : Env} : exec C fuel (.appIx i e1 e2) env = (bm (ev C e1 env)).bind fun x => (vm (ev C e2 env)).bind fun v => match env[i]? with
   | some (.val (.lst xs) .own2) => (asInt x).bind fun j => (ixN xs.length j).bind fun n => match xs[n]? with
     | some (.lst ys) => if ys.length < L then some (.nx (env.set i (.val (.lst (xs.set n (.lst (ys ++ [v])))) .own2))) else none
     | _ => none
   | _ => none := by simp only [exec] <;> rfl
@[simp] theorem q_exec_ext (fuel : Nat) {i e} {env : Env} : exec C fuel (.ext i e) env = (ev C e env).bind fun p => match env[i]?, p with
   | some (.val (.lst xs) .own1), (.lst ys, .new1) => if xs.length + ys.length < L then some (.nx (env.set i (.val (.lst (xs ++ ys)) .own1))) else none
   | _, _ => none := by simp only [exec] <;> rfl
@[simp] theorem q_exec_pop (fuel : Nat) {tg y at0} {env : Env} : exec C fuel (.pop tg y at0) env = match env[y]? with
   | some (.val (.lst xs) .own1) => ((if at0 then xs[0]? else xs[xs.length - 1]?)).bind fun d =>
     (match tg with | none => some (env.set y (.val (.lst (if at0 then xs.tail else xs.dropLast)) .own1)) | some t => bindT t d (env.set y (.val (.lst (if at0 then xs.tail else xs.dropLast)) .own1))).map .nx
   | _ => none := by simp only [exec] <;> rfl
@[simp] theorem q_exec_dpop (fuel : Nat) {y e k} {env : Env} : exec C fuel (.dpop y e k) env = (bm (ev C e env)).bind fun x => (bm (ev C k env)).bind fun z => match env[y]? with
   | some (.val (.lst xs) .own2) => (asInt x).bind fun j => (ixN xs.length j).bind fun n => match xs[n]? with
     | some (.dic kvs) => (keyD z).bind fun kk => if (look kvs kk).isSome then some (.nx (env.set y (.val (.lst (xs.set n (.dic (dropKy kvs kk)))) .own2))) else none
     | _ => none
   | _ => none := by simp only [exec] <;> rfl
@[simp] theorem q_exec_rem (fuel : Nat) {y e} {env : Env} : exec C fuel (.rem y e) env = (bm (ev C e env)).bind fun x => match env[y]? with
   | some (.val (.lst xs) .own1) => (asInt x).bind fun j => (intsD xs).bind fun ns => if j ∈ ns then some (.nx (env.set y (.val (.lst ((ns.erase j).map D.int)) .own1))) else none
   | _ => none := by simp only [exec] <;> rfl
@[simp] theorem q_exec_setdef (fuel : Nat) {y k v} {env : Env} : exec C fuel (.setdef y k v) env = (bm (ev C k env)).bind fun x => (vm (ev C v env)).bind fun z => match env[y]? with
   | some (.val (.dic kvs) .own1) => (keyD x).bind fun kk => if kvs.length < L then some (.nx (env.set y (.val (.dic (if (look kvs kk).isSome then kvs else kvs ++ [(kk, z)])) .own1))) else none
   | _ => none := by simp only [exec] <;> rfl
@[simp] theorem q_exec_setdefApp (fuel : Nat) {x0 x1 x2} {env : Env} : exec C fuel (.setdefApp x0 x1 x2) env = none := by simp only [exec] <;> rfl
@[simp] theorem q_exec_ret (fuel : Nat) {e} {env : Env} : exec C fuel (.ret e) env = (vm (ev C e env)).map .rt := by simp only [exec] <;> rfl
@[simp] theorem q_exec_ite (fuel : Nat) {t a b} {env : Env} : exec C fuel (.ite t a b) env = (evT C t env).bind fun p => if p then exec C fuel a env else exec C fuel b env := by simp only [exec] <;> rfl
@[simp] theorem q_exec_drop (fuel : Nat) {e} {env : Env} : exec C fuel (.drop e) env = (ev C e env).map fun _ => .nx env := by simp only [exec] <;> rfl
@[simp] theorem q_exec_frz (fuel : Nat) {is} {env : Env} : exec C fuel (.frz is) env = some (.nx (freeze is env)) := by simp only [exec] <;> rfl
@[simp] theorem q_exec_kill (fuel : Nat) {is} {env : Env} : exec C fuel (.kill is) env = some (.nx (unset is env)) := by simp only [exec] <;> rfl
@[simp] theorem q_exec_never (fuel : Nat) {env : Env} : exec C fuel (.never) env = none := by simp only [exec] <;> rfl
@[simp] theorem q_exec_tryN (fuel : Nat) {s} {env : Env} : exec C fuel (.tryN s) env = exec C fuel s env := by simp only [exec] <;> rfl
end
section
variable (C : Nat → List D → Option D)
def ixV (p : D × Kd) (y : D) : Option (D × Kd) := match p.1 with
  | .lst xs => (asInt y).bind fun i => (getIx xs i).map fun d => (d, subK p.2)
  | .tup xs => (asInt y).bind fun i => (getIx xs i).map fun d => (d, subK p.2)
  | .dic kvs => (keyD y).bind fun k => (look kvs k).map fun d => (d, subK p.2)
  | .str s => (asInt y).bind fun i => if s.length ≤ L then (getIx s i).map fun d => (.str [d], .frz) else none
  | _ => none
@[simp] theorem q_ev_ix (a b : E) (env : Env) : ev C (.ix a b) env = (ev C a env).bind fun p => (bm (ev C b env)).bind (ixV p) := by simp only [ev]; rfl
@[simp] theorem ixV_l (xs : List D) (k : Kd) (i : Int) : ixV (.lst xs, k) (.int i) = (getIx xs i).map fun d => (d, subK k) := rfl
@[simp] theorem ixV_t (xs : List D) (k : Kd) (i : Int) : ixV (.tup xs, k) (.int i) = (getIx xs i).map fun d => (d, subK k) := rfl
@[simp] theorem ixV_di (xs : List (Ky × D)) (k : Kd) (i : Int) : ixV (.dic xs, k) (.int i) = (look xs (.inl i)).map fun d => (d, subK k) := rfl
@[simp] theorem ixV_ds (xs : List (Ky × D)) (k : Kd) (i : List Nat) : ixV (.dic xs, k) (.str i) = (look xs (.inr i)).map fun d => (d, subK k) := rfl
theorem ixV_s (xs : List Nat) (k : Kd) (i : Int) (h : xs.length ≤ L) : ixV (.str xs, k) (.int i) = (getIx xs i).map fun d => (.str [d], .frz) := if_pos h
def slV (x : D) (l h : Option Int) : Option (D × Kd) := match x with
  | .lst xs => some (.lst (cut xs l h), .new1)
  | .str s => if s.length ≤ L then some (.str (cut s l h), .frz) else none
  | _ => none
@[simp] theorem q_ev_sl (a : E) (lo hi : O) (env : Env) : ev C (.sl a lo hi) env = (em (ev C a env)).bind fun x => (evO C lo env).bind fun l => (evO C hi env).bind fun h => slV x l h := by simp only [ev]; rfl
@[simp] theorem slV_l (xs : List D) (l h : Option Int) : slV (.lst xs) l h = some (.lst (cut xs l h), .new1) := rfl
theorem slV_s (s : List Nat) (l h : Option Int) (hs : s.length ≤ L) : slV (.str s) l h = some (.str (cut s l h), .frz) := if_pos hs
def idxV (x y : D) : Option (D × Kd) := match x with
  | .lst xs => match intsD xs, asInt y with
    | some ns, some n => if xs.length ≤ 1000 ∧ n ∈ ns then some (.int (ns.idxOf n : Nat), .frz) else none
    | _, _ => match pairsD xs, asPair y with
      | some ps, some q => if xs.length ≤ 1000 ∧ q ∈ ps then some (.int (ps.idxOf q : Nat), .frz) else none
      | _, _ => none
  | _ => none
@[simp] theorem q_ev_index (a b : E) (env : Env) : ev C (.index a b) env = (bm (ev C a env)).bind fun x => (bm (ev C b env)).bind fun y => idxV x y := by simp only [ev]; rfl
def sumV : D → Option (D × Kd) | .lst xs => frI ((intsD xs).map fun ns => ns.sum) | _ => none
@[simp] theorem q_ev_sum (a : E) (env : Env) : ev C (.sum a) env = (bm (ev C a env)).bind sumV := by simp only [ev]; rfl
def maxV : D → Option (D × Kd) | .lst xs => frI ((intsD xs).bind maxL) | _ => none
@[simp] theorem q_ev_max1 (a : E) (env : Env) : ev C (.max1 a) env = (bm (ev C a env)).bind maxV := by simp only [ev]; rfl
def minV : D → Option (D × Kd) | .lst xs => frI ((intsD xs).bind minL) | _ => none
@[simp] theorem q_ev_min1 (a : E) (env : Env) : ev C (.min1 a) env = (bm (ev C a env)).bind minV := by simp only [ev]; rfl
def maxdV : D → Option (D × Kd) | .lst xs => frI ((intsD xs).map fun ns => (maxL ns).getD 0) | _ => none
@[simp] theorem q_ev_maxd (a : E) (env : Env) : ev C (.maxd a) env = (bm (ev C a env)).bind maxdV := by simp only [ev]; rfl
def maxSV : D → Option (D × Kd) | .lst xs => fr (((strsD xs).bind maxS).map D.str) | _ => none
@[simp] theorem q_ev_maxS (a : E) (env : Env) : ev C (.maxS a) env = (bm (ev C a env)).bind maxSV := by simp only [ev]; rfl
theorem sortedV_ex : ∃ f : D → Option (D × Kd), ∀ d, f d = match d with | .lst xs => if xs.length < L then (sortD xs).map fun ys => (.lst ys, .new1) else none | _ => none := ⟨_, fun _ => rfl⟩
/-- not to be unfolded -/
noncomputable def sortedV : D → Option (D × Kd) := Classical.choose sortedV_ex
theorem sortedV_eq (d : D) : sortedV d = match d with | .lst xs => if xs.length < L then (sortD xs).map fun ys => (.lst ys, .new1) else none | _ => none := Classical.choose_spec sortedV_ex d
@[simp] theorem q_ev_sorted (a : E) (env : Env) : ev C (.sorted a) env = (em (ev C a env)).bind sortedV := by
  simp only [ev]
  congr 1
  funext d
  rw [sortedV_eq] <;> rfl
def listV : D → Option (D × Kd) | .lst xs => some (.lst xs, .new1) | .tup xs => some (.lst xs, .new1) | _ => none
@[simp] theorem q_ev_list (a : E) (env : Env) : ev C (.list a) env = (em (ev C a env)).bind listV := by simp only [ev]; rfl
@[simp] theorem listV_l (xs : List D) : listV (.lst xs) = some (.lst xs, .new1) := rfl
def itV (p : D × Kd) : Option (List D × Bool) := match p.1 with
  | .lst xs => if p.2 = .own2 then none else if p.2 = .lent then (if xs.all D.atom then some (xs, false) else none) else some (xs, decide (p.2 = .own1))
  | .tup xs => if p.2 = .frz then some (xs, false) else none
  | .str s => some (s.map fun c => .str [c], false)
  | _ => none
@[simp] theorem q_evI_lst (e : E) (env : Env) : evI C (.lst e) env = (ev C e env).bind itV := by simp only [evI]; rfl
@[simp] theorem itV_f (xs : List D) : itV (.lst xs, .frz) = some (xs, false) := rfl
@[simp] theorem itV_n (xs : List D) : itV (.lst xs, .new1) = some (xs, false) := rfl
@[simp] theorem itV_m (xs : List D) : itV (.lst xs, .new2) = some (xs, false) := rfl
@[simp] theorem itV_o (xs : List D) : itV (.lst xs, .own1) = some (xs, true) := rfl
@[simp] theorem itV_t (xs : List D) : itV (.tup xs, .frz) = some (xs, false) := rfl
@[simp] theorem itV_s (xs : List Nat) (k : Kd) : itV (.str xs, k) = some (xs.map fun c => .str [c], false) := rfl
def enumV (p : D × Kd) : Option (List D × Bool) := match p.1 with
  | .lst xs => if p.2 = .own2 ∨ p.2 = .lent then none else some (enumFrom 0 xs, decide (p.2 = .own1))
  | _ => none
@[simp] theorem q_evI_enum (e : E) (env : Env) : evI C (.enum e) env = (ev C e env).bind enumV := by simp only [evI]; rfl
@[simp] theorem enumV_f (xs : List D) : enumV (.lst xs, .frz) = some (enumFrom 0 xs, false) := rfl
@[simp] theorem enumV_n (xs : List D) : enumV (.lst xs, .new1) = some (enumFrom 0 xs, false) := rfl
@[simp] theorem enumV_o (xs : List D) : enumV (.lst xs, .own1) = some (enumFrom 0 xs, true) := rfl
def revV (p : D × Kd) : Option (List D × Bool) := match p.1 with
  | .lst xs => if p.2 = .own2 ∨ p.2 = .lent then none else some (xs.reverse, decide (p.2 = .own1))
  | _ => none
@[simp] theorem q_evI_rev (e : E) (env : Env) : evI C (.rev e) env = (ev C e env).bind revV := by simp only [evI]; rfl
@[simp] theorem revV_f (xs : List D) : revV (.lst xs, .frz) = some (xs.reverse, false) := rfl
@[simp] theorem revV_n (xs : List D) : revV (.lst xs, .new1) = some (xs.reverse, false) := rfl
@[simp] theorem revV_o (xs : List D) : revV (.lst xs, .own1) = some (xs.reverse, true) := rfl
end
/-- whole numbers times one another -/
noncomputable def mulI : D → D → Option D
  | .int i, .int j => if mulOk i j then some (.int (i * j)) else none
  | _, _ => none
theorem q_mulI {i j : Int} (h : mulOk i j = true) : mulI (.int i) (.int j) = some (.int (i * j)) := if_pos h
@[simp] theorem q_ev_mul (C : Nat → List D → Option D) (a b : E) (env : Env) : ev C (.mul a b) env = nw ((em (ev C a env)).bind fun x => (em (ev C b env)).bind fun y => mulI x y) := by
  simp only [ev]
  rfl
@[simp] theorem q_evm_nil (C : Nat → List D → Option D) (m : List Bool) (env : Env) : evm C m .nil env = some [] := by cases m <;> simp only [evm]
@[simp] theorem q_evm_cons (C : Nat → List D → Option D) (m : List Bool) (e : E) (r : Es) (env : Env) : evm C m (.cons e r) env = (if m.headD false then bm (ev C e env) else vm (ev C e env)).bind fun d => (evm C m.tail r env).bind fun ds => some (d :: ds) := by simp only [evm]
@[simp] theorem q_fr (d : D) : fr (some d) = some (d, .frz) := rfl
@[simp] theorem q_fr0 : fr none = none := rfl
@[simp] theorem q_frB (b : Bool) : frB (some b) = some (.bl b, .frz) := rfl
@[simp] theorem q_frB0 : frB none = none := rfl
@[simp] theorem q_frI (b : Int) : frI (some b) = some (.int b, .frz) := rfl
@[simp] theorem q_frI0 : frI none = none := rfl
@[simp] theorem q_nwI (b : Int) : nw (some (.int b)) = some (.int b, .frz) := rfl
@[simp] theorem q_nwS (b : List Nat) : nw (some (.str b)) = some (.str b, .frz) := rfl
@[simp] theorem q_nwL (b : List D) : nw (some (.lst b)) = some (.lst b, .new1) := rfl
@[simp] theorem q_nw0 : nw none = none := rfl
@[simp] theorem q_asInt (i : Int) : asInt (.int i) = some i := rfl
@[simp] theorem q_asBl (i : Bool) : asBl (.bl i) = some i := rfl
@[simp] theorem q_asStr (i : List Nat) : asStr (.str i) = some i := rfl
@[simp] theorem q_ltAi (i j : Int) : ltA (.int i) (.int j) = some (decide (i < j)) := rfl
@[simp] theorem q_ltAs (i j : List Nat) : ltA (.str i) (.str j) = some (lexS i j) := rfl
@[simp] theorem q_lenL_l (xs : List D) : lenL (.lst xs) = some (xs.length : Int) := rfl
@[simp] theorem q_lenL_t (xs : List D) : lenL (.tup xs) = some (xs.length : Int) := rfl
@[simp] theorem q_lenL_d (xs : List (Ky × D)) : lenL (.dic xs) = some (xs.length : Int) := rfl
theorem q_lenL_s (xs : List Nat) (h : xs.length ≤ L) : lenL (.str xs) = some (xs.length : Int) := if_pos h
@[simp] theorem q_truL_b (b : Bool) : truL (.bl b) = some b := rfl
@[simp] theorem q_truL_n : truL .non = some false := rfl
@[simp] theorem q_truL_i (i : Int) : truL (.int i) = some (i != 0) := rfl
@[simp] theorem q_truL_l (xs : List D) : truL (.lst xs) = some (!xs.isEmpty) := rfl
@[simp] theorem q_truL_t (xs : List D) : truL (.tup xs) = some (!xs.isEmpty) := rfl
@[simp] theorem q_then_nx (e : Env) (f : Env → Option Out) : andThen (some (.nx e)) f = f e := rfl
@[simp] theorem q_then_rt (d : D) (f : Env → Option Out) : andThen (some (.rt d)) f = some (.rt d) := rfl
@[simp] theorem q_subK_f : subK .frz = .frz := rfl
@[simp] theorem q_subK_1 : subK .own1 = .frz := rfl
@[simp] theorem q_subK_2 : subK .own2 = .own1 := rfl
@[simp] theorem q_subK_l : subK .lent = .lent := rfl
@[simp] theorem q_subK_n1 : subK .new1 = .frz := rfl
@[simp] theorem q_subK_n2 : subK .new2 = .frz := rfl
@[simp] theorem q_slot0 (k : Kd) : slotK 0 k = .frz := rfl
@[simp] theorem q_slot1n (m : Nat) : slotK (m + 1) .new1 = .own1 := by cases m <;> rfl
@[simp] theorem q_slot1_1 : slotK 1 .new1 = .own1 := rfl
@[simp] theorem q_slot2_1 : slotK 2 .new1 = .own1 := rfl
@[simp] theorem q_slot1_2 : slotK 1 .new2 = .frz := rfl
@[simp] theorem q_slot2_2 : slotK 2 .new2 = .own2 := rfl
@[simp] theorem q_slotf (m : Nat) : slotK m .frz = .frz := by match m with | 0 => rfl | 1 => rfl | n + 2 => rfl
@[simp] theorem q_bindnm (i : Nat) (d : D) (env : Env) : bindT (.nm i) d env = some (env.set i (.val d .frz)) := rfl
@[simp] theorem q_bindtp (is : List Nat) (ds : List D) (env : Env) : bindT (.tp is) (.tup ds) env = setSlots is ds env := rfl
@[simp] theorem q_ss0 (env : Env) : setSlots [] [] env = some env := rfl
@[simp] theorem q_ss1 (i : Nat) (is : List Nat) (d : D) (ds : List D) (env : Env) : setSlots (i :: is) (d :: ds) env = setSlots is ds (env.set i (.val d .frz)) := rfl
@[simp] theorem q_un0 (env : Env) : unset [] env = env := rfl
@[simp] theorem q_un1 (i : Nat) (is : List Nat) (env : Env) : unset (i :: is) env = unset is (env.set i .un) := rfl
@[simp] theorem q_fz0 (env : Env) : freeze [] env = env := rfl
@[simp] theorem q_fz1 (i : Nat) (is : List Nat) (env : Env) : freeze (i :: is) env = freeze is (freeze1 env i) := rfl
@[simp] theorem q_slots_nm (i : Nat) : Tg.slots (.nm i) = [i] := rfl
@[simp] theorem q_slots_tp (is : List Nat) : Tg.slots (.tp is) = is := rfl
@[simp] theorem q_calls (n : Nat) (f : List D → Option D) (r : List (Nat × (List D → Option D))) (m : Nat) (ds : List D) : calls ((n, f) :: r) m ds = if m = n then f ds else calls r m ds := rfl
@[simp] theorem q_isNon_i (i : Int) : (D.int i).isNon = false := rfl
@[simp] theorem q_isNon_n : D.non.isNon = true := rfl
@[simp] theorem q_isNon_l (i : List D) : (D.lst i).isNon = false := rfl
@[simp] theorem q_isNon_t (i : List D) : (D.tup i).isNon = false := rfl
@[simp] theorem q_isNon_s (i : List Nat) : (D.str i).isNon = false := rfl
@[simp] theorem q_at_i (i : Int) : (D.int i).atom = true := rfl
@[simp] theorem q_at_n : D.non.atom = true := rfl
@[simp] theorem q_at_b (b : Bool) : (D.bl b).atom = true := rfl
@[simp] theorem q_at_s (i : List Nat) : (D.str i).atom = true := rfl
@[simp] theorem q_at_t (i : List D) : (D.tup i).atom = false := rfl
@[simp] theorem q_at_l (i : List D) : (D.lst i).atom = false := rfl
@[simp] theorem q_ty1 (i : Int) : isTy (.int i) .int = true := rfl
@[simp] theorem q_ty1b (i : Int) : isTy (.int i) .bool = false := rfl
@[simp] theorem q_ty2 (i : List Nat) : isTy (.str i) .str = true := rfl
@[simp] theorem q_ty3 (i : List D) : isTy (.lst i) .lst = true := rfl
@[simp] theorem q_ty4 (i : List D) : isTy (.tup i) .tup = true := rfl
@[simp] theorem q_keyi (i : Int) : keyD (.int i) = some (.inl i) := rfl
@[simp] theorem q_keys (i : List Nat) : keyD (.str i) = some (.inr i) := rfl
theorem mulOk_r {i j : Int} (h1 : -(2 ^ 64) < j) (h2 : j < 2 ^ 64) : mulOk i j = true := by
  exact (mulOk_iff i j).mpr (Or.inr ⟨h1, h2⟩)
theorem mulOk_l {i j : Int} (h1 : -(2 ^ 64) < i) (h2 : i < 2 ^ 64) : mulOk i j = true := by
  exact (mulOk_iff i j).mpr (Or.inl ⟨h1, h2⟩)
/-! ### statements: a for, a while ahead of what comes -/
section
variable {C : Nat → List D → Option D} {fu : Nat} {env : Env} {r : Option Out}
theorem for_step {α β : Type} {tg : Tg} {it : It} {s : S} {k : Env → Option Out} (xs : List α) (toD : α → D) (enc : β → Env) (Inv : List α → β → Prop) (b0 : β)
    (hi : evI C it env = some (xs.map toD, false)) (he : env = enc b0) (h0 : Inv [] b0)
    (hs : ∀ pre x post b, xs = pre ++ x :: post → Inv pre b → ∃ b', ((bindT tg (toD x) (enc b)).bind (exec C fu s)) = some (.nx (enc b')) ∧ Inv (pre ++ [x]) b')
    (hk : ∀ b, Inv xs b → k (enc b) = r) : andThen (exec C fu (.for_ tg it s) env) k = r := by
  obtain ⟨b, h1, h2⟩ := loopF_inv (f := fun d e => (bindT tg d e).bind (exec C fu s)) toD enc Inv xs b0 h0 hs
  have h3 : exec C fu (.for_ tg it s) env = some (.nx (enc b)) := by
    simp only [exec, hi, Option.bind_some]
    rw [if_neg (by decide), he]
    exact h1
  rw [h3]
  exact hk b h2
theorem for_R {α β : Type} {R : Option Out → Prop} {tg : Tg} {it : It} {s : S} {k : Env → Option Out} (xs : List α) (toD : α → D) (enc : β → Env) (Inv : List α → β → Prop) (b0 : β)
    (hi : evI C it env = some (xs.map toD, false)) (he : env = enc b0) (h0 : Inv [] b0)
    (hs : ∀ pre x post b, xs = pre ++ x :: post → Inv pre b → ∃ b', ((bindT tg (toD x) (enc b)).bind (exec C fu s)) = some (.nx (enc b')) ∧ Inv (pre ++ [x]) b')
    (hk : ∀ b, Inv xs b → R (k (enc b))) : R (andThen (exec C fu (.for_ tg it s) env) k) := by
  obtain ⟨b, h1, h2⟩ := loopF_inv (f := fun d e => (bindT tg d e).bind (exec C fu s)) toD enc Inv xs b0 h0 hs
  have h3 : exec C fu (.for_ tg it s) env = some (.nx (enc b)) := by
    simp only [exec, hi, Option.bind_some]
    rw [if_neg (by decide), he]
    exact h1
  rw [h3]
  exact hk b h2
theorem wh_R {β : Type} {R : Option Out → Prop} {t : T} {s : S} {k : Env → Option Out} (enc : β → Env) (Inv Done : β → Prop) (μ : β → Nat) (b0 : β) (he : env = enc b0) (h0 : Inv b0) (hm : μ b0 < fu)
    (hs : ∀ b, Inv b → (evT C t (enc b) = some true ∧ ∃ b', exec C fu s (enc b) = some (.nx (enc b')) ∧ Inv b' ∧ μ b' < μ b) ∨ (evT C t (enc b) = some false ∧ Done b))
    (hk : ∀ b, Inv b → Done b → R (k (enc b))) : R (andThen (exec C fu (.wh t s) env) k) := by
  obtain ⟨b, h1, h2, h3⟩ := loopW_inv (t := evT C t) (f := exec C fu s) enc Inv μ Done hs fu b0 h0 hm
  have h4 : exec C fu (.wh t s) env = some (.nx (enc b)) := by
    simp only [exec]
    rw [he]
    exact h1
  rw [h4]
  exact hk b h2 h3
theorem runF_R {Q : D → Prop} {f : FDef} {ds : List D} (h : ds.length = f.params) (he : ∃ d, exec C FU f.body (startEnv f ds) = some (.rt d) ∧ Q d) : ∃ d, runF C f ds = some d ∧ Q d := by
  obtain ⟨d, h1, h2⟩ := he
  exact ⟨d, runF_eq h h1, h2⟩
/-- a for whose turns are steps of a fold -/
theorem for_fold {α β : Type} {tg : Tg} {it : It} {s : S} {k : Env → Option Out} (xs : List α) (toD : α → D) (enc : β → Env) (step : β → α → β) (b0 : β)
    (hi : evI C it env = some (xs.map toD, false)) (he : env = enc b0)
    (hs : ∀ pre x post, xs = pre ++ x :: post → ((bindT tg (toD x) (enc (pre.foldl step b0))).bind (exec C fu s)) = some (.nx (enc (step (pre.foldl step b0) x))))
    (hk : k (enc (xs.foldl step b0)) = r) : andThen (exec C fu (.for_ tg it s) env) k = r := by
  refine for_step xs toD enc (fun pre b => b = pre.foldl step b0) b0 hi he rfl (fun pre x post b e hb => ⟨step b x, ?_, ?_⟩) (fun b hb => ?_)
  · subst hb; exact hs pre x post e
  · subst hb; rw [List.foldl_append]; rfl
  · subst hb; exact hk
/-- one statement at a time -/
theorem x_asg {i m : Nat} {e : E} {rest : S} (d : D) (k : Kd) (h : ev C e env = some (d, k)) (hv : vm (some (d, k)) = some d) (hk : exec C fu rest (env.set i (.val d (slotK m k))) = r) : exec C fu (.seq (.asg i m e) rest) env = r := by
  simp only [q_exec_seq, q_exec_asg, h, hv, Option.bind_some, q_then_nx]
  exact hk
theorem x_ite {t : T} {a b rest : S} (p : Bool) (h : evT C t env = some p) (hk : exec C fu (.seq (if p then a else b) rest) env = r) : exec C fu (.seq (.ite t a b) rest) env = r := by
  rw [← hk]
  cases p <;> simp only [q_exec_seq, q_exec_ite, h, Option.bind_some] <;> rfl
theorem x_skip {rest : S} (hk : exec C fu rest env = r) : exec C fu (.seq .skip rest) env = r := by
  rw [← hk]
  simp only [q_exec_seq, q_exec_skip, q_then_nx]
theorem wh_step {β : Type} {t : T} {s : S} {k : Env → Option Out} (enc : β → Env) (Inv Done : β → Prop) (μ : β → Nat) (b0 : β) (he : env = enc b0) (h0 : Inv b0) (hm : μ b0 < fu)
    (hs : ∀ b, Inv b → (evT C t (enc b) = some true ∧ ∃ b', exec C fu s (enc b) = some (.nx (enc b')) ∧ Inv b' ∧ μ b' < μ b) ∨ (evT C t (enc b) = some false ∧ Done b))
    (hk : ∀ b, Inv b → Done b → k (enc b) = r) : andThen (exec C fu (.wh t s) env) k = r := by
  obtain ⟨b, h1, h2, h3⟩ := loopW_inv (t := evT C t) (f := exec C fu s) enc Inv μ Done hs fu b0 h0 hm
  have h4 : exec C fu (.wh t s) env = some (.nx (enc b)) := by
    simp only [exec]
    rw [he]
    exact h1
  rw [h4]
  exact hk b h2 h3
end
end Hg
end

section
set_option autoImplicit false
set_option maxHeartbeats 1000000
/-! Pl1: the law's own hedge, by what it is. -/
namespace Hg
@[simp] theorem plainD_int (n : Nat) (i : Int) : plainD n (.int i) = true := by cases n <;> rfl
@[simp] theorem plainD_bl (n : Nat) (i : Bool) : plainD n (.bl i) = true := by cases n <;> rfl
@[simp] theorem plainD_non (n : Nat) : plainD n .non = true := by cases n <;> rfl
theorem plainD_str (n : Nat) (s : List Nat) : plainD n (.str s) = s.all fun c => decide (c < 128) := by cases n <;> rfl
@[simp] theorem plainD_lst (n : Nat) (xs : List D) : plainD (n + 1) (.lst xs) = xs.all (plainD n) := rfl
@[simp] theorem plainD_tup (n : Nat) (xs : List D) : plainD (n + 1) (.tup xs) = xs.all (plainD n) := rfl
@[simp] theorem eqD_int (i j : Int) : eqD (.int i) (.int j) = decide (i = j) := by simp only [eqD]; rfl
@[simp] theorem eqD_str (i j : List Nat) : eqD (.str i) (.str j) = decide (i = j) := by simp only [eqD]; by_cases h : i = j <;> simp [h]
@[simp] theorem ncI (x y : Nat) : ((x : Int) = (y : Int)) ↔ x = y := by omega
@[simp] theorem eqD_lst (xs ys : List D) : eqD (.lst xs) (.lst ys) = eqDs xs ys := by simp only [eqD]
@[simp] theorem eqD_tup (xs ys : List D) : eqD (.tup xs) (.tup ys) = eqDs xs ys := by simp only [eqD]
theorem PD_eq : PD = 7 + 1 := rfl
theorem eqDs_map {α : Type} [DecidableEq α] (f : α → D) (h : ∀ x y, eqD (f x) (f y) = decide (x = y)) : ∀ xs ys : List α, eqDs (xs.map f) (ys.map f) = decide (xs = ys)
  | [], [] => by simp [eqDs]
  | [], _ :: _ => by simp [eqDs]
  | _ :: _, [] => by simp [eqDs]
  | x :: xs, y :: ys => by
    simp only [List.map_cons, eqDs, h, eqDs_map f h xs ys, List.cons.injEq, Bool.decide_and]
theorem eqDs_self {α : Type} [DecidableEq α] (f : α → D) (h : ∀ x y, eqD (f x) (f y) = decide (x = y)) (xs : List α) : eqDs (xs.map f) (xs.map f) = true := by simp [eqDs_map f h]
def nD (k : Nat) : D := .int (k : Int)
def rodD (p : Nat × Nat) : D := .tup [.int p.1, .int p.2]
def hD (n : Nat) (rs : List (Nat × Nat)) : D := .tup [.int n, .lst (rs.map rodD)]
def scr (ns : List Int) : D := .lst (ns.map D.int)
def cell (ns : List Int) (k : Nat) : Int := ns.getD k 0
/-! ### nats, rods, hedges as data -/
theorem eqD_nD (x y : Nat) : eqD (nD x) (nD y) = decide (x = y) := by
  unfold nD; rw [eqD_int]; simp
theorem eqD_rodD (x y : Nat × Nat) : eqD (rodD x) (rodD y) = decide (x = y) := by
  obtain ⟨a, b⟩ := x; obtain ⟨c, d⟩ := y
  simp [rodD, eqDs]
theorem eqD_nsD (x y : List Nat) : eqD (.lst (x.map nD)) (.lst (y.map nD)) = decide (x = y) := by
  rw [eqD_lst, eqDs_map nD eqD_nD]
theorem eqD_hD (n m : Nat) (xs ys : List (Nat × Nat)) : eqD (hD n xs) (hD m ys) = decide (n = m ∧ xs = ys) := by
  simp [hD, eqDs, eqDs_map rodD eqD_rodD]
theorem plain_nD (n k : Nat) : plainD n (nD k) = true := plainD_int _ _
theorem plain_rodD (n : Nat) (r : Nat × Nat) : plainD (n + 1) (rodD r) = true := by simp [rodD]
theorem plain_nsD (n : Nat) (x : List Nat) : plainD (n + 1) (.lst (x.map nD)) = true := by simp [plain_nD]
theorem plain_hD (n : Nat) (xs : List (Nat × Nat)) : plainD PD (hD n xs) = true := by
  simp [PD_eq, hD, plain_rodD]
/-! ### sorting -/
def leN (p q : Nat × Nat) : Bool := decide (p.1 < q.1 ∨ (p.1 = q.1 ∧ p.2 ≤ q.2))
def sortN (xs : List Nat) : List Nat := xs.mergeSort fun a b => decide (a ≤ b)
def sortR (xs : List (Nat × Nat)) : List (Nat × Nat) := xs.mergeSort leN
theorem sortN_perm (xs : List Nat) : (sortN xs).Perm xs := List.mergeSort_perm _ _
theorem sortR_perm (xs : List (Nat × Nat)) : (sortR xs).Perm xs := List.mergeSort_perm _ _
theorem sortN_pw (xs : List Nat) : (sortN xs).Pairwise (fun a b => a ≤ b) := by
  have h := List.pairwise_mergeSort (le := fun a b : Nat => decide (a ≤ b)) (fun a b c h1 h2 => decide_eq_true (Nat.le_trans (of_decide_eq_true h1) (of_decide_eq_true h2))) (fun a b => by simp; omega) xs
  exact h.imp fun h => of_decide_eq_true h
theorem leN_trans (a b c : Nat × Nat) (h1 : leN a b = true) (h2 : leN b c = true) : leN a c = true := by
  simp only [leN, decide_eq_true_eq] at *
  omega
theorem leN_total (a b : Nat × Nat) : (leN a b || leN b a) = true := by
  simp only [leN, Bool.or_eq_true, decide_eq_true_eq] at *
  omega
theorem sortR_pw (xs : List (Nat × Nat)) : (sortR xs).Pairwise (fun a b => leN a b = true) := List.pairwise_mergeSort leN_trans leN_total xs
theorem sortI_nat (xs : List Nat) : sortI (xs.map fun k : Nat => (k : Int)) = (sortN xs).map fun k : Nat => (k : Int) := by
  unfold sortI sortN
  rw [List.map_mergeSort]
  intro a _ b _
  simp
theorem sortP_nat (xs : List (Nat × Nat)) : sortP (xs.map fun p => ((p.1 : Int), (p.2 : Int))) = (sortR xs).map fun p => ((p.1 : Int), (p.2 : Int)) := by
  unfold sortP sortR
  rw [List.map_mergeSort]
  intro a _ b _
  simp only [leP, leN, ncI]
  congr 1
  apply propext
  omega
theorem sortD_nD (xs : List Nat) : sortD (xs.map nD) = some ((sortN xs).map nD) := by
  have h := sortD_ints (xs.map fun k : Nat => (k : Int))
  rw [sortI_nat, List.map_map, List.map_map] at h
  exact h
theorem sortD_rodD (xs : List (Nat × Nat)) : sortD (xs.map rodD) = some ((sortR xs).map rodD) := by
  have h := sortD_pairs (xs.map fun p => ((p.1 : Int), (p.2 : Int)))
  rw [sortP_nat, List.map_map, List.map_map] at h
  exact h

@[simp] theorem L0 : 0 ≤ L := Nat.zero_le _
@[simp] theorem L1 : 1 ≤ L := by unfold L; omega
@[simp] theorem L2 : 2 ≤ L := by unfold L; omega
@[simp] theorem L3 : 3 ≤ L := by unfold L; omega
/-! ### lists of nats, rows -/
def nsD (r : List Nat) : D := .lst (r.map nD)
def rowsD (xs : List (List Nat)) : D := .lst (xs.map nsD)
@[simp] theorem ixV_h0 (n : Nat) (rs : List (Nat × Nat)) (k : Kd) : ixV (hD n rs, k) (.int 0) = some (.int n, subK k) := rfl
@[simp] theorem ixV_h1 (n : Nat) (rs : List (Nat × Nat)) (k : Kd) : ixV (hD n rs, k) (.int 1) = some (.lst (rs.map rodD), subK k) := rfl
theorem ixV_ns (r : List Nat) (k : Kd) (i : Nat) : ixV (nsD r, k) (.int i) = (r[i]?).map fun d => (nD d, subK k) := by
  simp [nsD, Function.comp_def]
theorem ixV_rows (r : List (List Nat)) (k : Kd) (i : Nat) : ixV (rowsD r, k) (.int i) = (r[i]?).map fun d => (nsD d, subK k) := by
  simp [rowsD, Function.comp_def]
@[simp] theorem lenL_ns (r : List Nat) : lenL (nsD r) = some (r.length : Int) := by simp [nsD]
@[simp] theorem lenL_rows (r : List (List Nat)) : lenL (rowsD r) = some (r.length : Int) := by simp [rowsD]
@[simp] theorem isTy_ns (r : List Nat) : isTy (nsD r) .lst = true := rfl
@[simp] theorem isTy_rows (r : List (List Nat)) : isTy (rowsD r) .lst = true := rfl
@[simp] theorem plainD_ns (n : Nat) (r : List Nat) : plainD (n + 1) (nsD r) = true := plain_nsD n r
@[simp] theorem plainD_rows (n : Nat) (r : List (List Nat)) : plainD (n + 2) (rowsD r) = true := by simp [rowsD]
@[simp] theorem plainD_h (n m : Nat) (r : List (Nat × Nat)) : plainD (n + 3) (hD m r) = true := by simp [hD, rodD]
@[simp] theorem eqD_ns (x y : List Nat) : eqD (nsD x) (nsD y) = decide (x = y) := eqD_nsD x y
@[simp] theorem eqD_rows (x y : List (List Nat)) : eqD (rowsD x) (rowsD y) = decide (x = y) := by
  simp [rowsD, eqDs_map nsD eqD_ns]
@[simp] theorem eqD_h (n m : Nat) (xs ys : List (Nat × Nat)) : eqD (hD n xs) (hD m ys) = decide (n = m ∧ xs = ys) := eqD_hD n m xs ys
@[simp] theorem itV_ns (r : List Nat) : itV (nsD r, .frz) = some (r.map nD, false) := rfl
@[simp] theorem itV_ns1 (r : List Nat) : itV (nsD r, .new1) = some (r.map nD, false) := rfl
@[simp] theorem itV_ns2 (r : List Nat) : itV (nsD r, .own1) = some (r.map nD, true) := rfl
@[simp] theorem itV_rows (r : List (List Nat)) : itV (rowsD r, .frz) = some (r.map nsD, false) := rfl
@[simp] theorem itV_rows1 (r : List (List Nat)) : itV (rowsD r, .new1) = some (r.map nsD, false) := rfl
theorem PD8 : PD = 5 + 3 := rfl
/-! ### readings -/
section
variable {C : Nat → List D → Option D} {env : Env} {k : Kd} {a e : E}
theorem ev_sortR {xs : List (Nat × Nat)} (h : em (ev C a env) = some (.lst (xs.map rodD))) (hl : xs.length < L) : ev C (.sorted a) env = some (.lst ((sortR xs).map rodD), .new1) := by
  simp only [q_ev_sorted, h, Option.bind_some, sortedV_eq, List.length_map, hl, if_true, sortD_rodD, Option.map_some]
theorem ev_sortN {xs : List Nat} (h : em (ev C a env) = some (.lst (xs.map nD))) (hl : xs.length < L) : ev C (.sorted a) env = some (.lst ((sortN xs).map nD), .new1) := by
  simp only [q_ev_sorted, h, Option.bind_some, sortedV_eq, List.length_map, hl, if_true, sortD_nD, Option.map_some]
theorem sortedV_N {xs : List Nat} (hl : xs.length < L) : sortedV (.lst (xs.map nD)) = some (.lst ((sortN xs).map nD), .new1) := by
  simp only [sortedV_eq, List.length_map, hl, if_true, sortD_nD, Option.map_some]
theorem sortedV_R {xs : List (Nat × Nat)} (hl : xs.length < L) : sortedV (.lst (xs.map rodD)) = some (.lst ((sortR xs).map rodD), .new1) := by
  simp only [sortedV_eq, List.length_map, hl, if_true, sortD_rodD, Option.map_some]
theorem evI_f {xs : List D} (h : ev C e env = some (.lst xs, .frz)) : evI C (.lst e) env = some (xs, false) := by simp [h]
theorem evI_n {xs : List D} (h : ev C e env = some (.lst xs, .new1)) : evI C (.lst e) env = some (xs, false) := by simp [h]
theorem evI_o {xs : List D} (h : ev C e env = some (.lst xs, .own1)) : evI C (.lst e) env = some (xs, true) := by simp [h]
theorem rngD_nD (n : Nat) : rngD 0 n = (List.range n).map nD := by
  rw [rngD_eq]; rfl
theorem rngD1_nD (n : Nat) : rngD 1 n = (List.range' 1 n).map nD := by
  rw [rngD1_eq, List.range'_eq_map_range, List.map_map]
  apply List.map_congr_left
  intro a _
  show D.int _ = D.int _
  congr 1
  simp
  omega
theorem range'_split {s n k : Nat} {pre post : List Nat} (h : List.range' s n = pre ++ k :: post) : k = s + pre.length ∧ pre.length < n ∧ pre = List.range' s pre.length := by
  have h0 := congrArg List.length h
  simp at h0
  have h1 := congrArg (fun l => l[pre.length]?) h
  simp at h1
  have h2 : pre.length < n := by omega
  rw [List.getElem?_range' (by omega)] at h1
  refine ⟨by simpa using h1.symm, h2, ?_⟩
  have h3 : List.range' s pre.length ++ List.range' (s + pre.length) (n - pre.length) = pre ++ k :: post := by
    rw [List.range'_append_1, ← h]
    congr 1
    omega
  exact (List.append_inj_left h3 (by simp)).symm
theorem range_split {n k : Nat} {pre post : List Nat} (h : List.range n = pre ++ k :: post) : k = pre.length ∧ pre.length < n ∧ pre = List.range pre.length := by
  rw [List.range_eq_range'] at h
  obtain ⟨h1, h2, h3⟩ := range'_split h
  exact ⟨by omega, h2, by rw [List.range_eq_range']; exact h3⟩
theorem evI_rng {n : Nat} (h : bm (ev C e env) = some (.int n)) (hn : n ≤ 1000) : evI C (.rng1 e) env = some ((List.range n).map nD, false) := by
  have h1 : (-1000000 : Int) ≤ n ∧ (n : Int) ≤ 1000000 := ⟨by omega, by omega⟩
  simp only [q_evI_rng1, h, Option.bind_some, q_asInt, if_pos h1, rngD_nD, Int.toNat_natCast]
theorem evI_rng1 {n : Nat} (h0 : bm (ev C a env) = some (.int 1)) (h : bm (ev C e env) = some (.int n)) (hn : n ≤ 1000) : evI C (.rng2 a e) env = some ((List.range' 1 (n - 1)).map nD, false) := by
  have h1 : (-1000000 : Int) ≤ 1 ∧ (1 : Int) ≤ 1000000 ∧ (-1000000 : Int) ≤ n ∧ (n : Int) ≤ 1000000 := ⟨by omega, by omega, by omega, by omega⟩
  have h2 : ((n : Int) - 1).toNat = n - 1 := by omega
  simp only [q_evI_rng2, h, h0, Option.bind_some, q_asInt, if_pos h1, h2, rngD1_nD]
end
end Hg
end

section
set_option autoImplicit false
set_option maxHeartbeats 1000000
/-! Hp: the law's cell, mix, large. -/
namespace Hg
@[simp] theorem lenL_scr (ns : List Int) : lenL (scr ns) = some (ns.length : Int) := by simp [scr]
theorem sp_cell (ns : List Int) (k : Nat) : s_l_cell [scr ns, .int k] = some (.int (cell ns k)) := by
  unfold s_l_cell
  refine runF_eq rfl ?_
  by_cases h : k < ns.length
  · simp [d_l_cell, startEnv, h, cell, scr]
  · have h3 : ns[k]? = none := List.getElem?_eq_none (by omega)
    simp [d_l_cell, startEnv, h, h3, cell]
def mix (c p m : Int) : Nat := (c * 48271 % p % m).toNat
theorem mix_int (c p m : Int) (h : 0 < m) : ((mix c p m : Nat) : Int) = c * 48271 % p % m := by
  unfold mix
  have h1 := Int.emod_nonneg (c * 48271 % p) (show m ≠ 0 by omega)
  omega
theorem mix_lt (c p : Int) (m : Nat) (h : 0 < m) : mix c p m < m := by
  have h1 := mix_int c p m (by omega)
  have h2 := Int.emod_lt_of_pos (c * 48271 % p) (show (0 : Int) < m by omega)
  omega
theorem sp_mix (c p m : Int) (hp : 0 < p) (hm : 0 < m) : s_l_mix [.int c, .int p, .int m] = some (.int (mix c p m : Nat)) := by
  unfold s_l_mix
  refine runF_eq rfl ?_
  rw [mix_int c p m hm]
  simp [d_l_mix, startEnv, q_mulI, mulOk_r, hp, hm]
theorem sp_large (ns : List Int) : ∃ b, s_l_large [scr ns] = some (.bl b) := by
  have h1 : s_l_cell [scr ns, .int 0] = some (.int (cell ns 0)) := sp_cell ns 0
  have h2 := sp_mix (cell ns 0 + 7 * ns.length) 9871 8 (by decide) (by decide)
  have h3 : mulOk 7 (ns.length : Int) = true := mulOk_l (by decide) (by decide)
  refine ⟨decide (((mix (cell ns 0 + 7 * ns.length) 9871 8 : Nat) : Int) = 3), ?_⟩
  unfold s_l_large
  refine runF_eq rfl ?_
  generalize mix (cell ns 0 + 7 * ns.length) 9871 8 = z at h2
  simp [d_l_large, startEnv, q_mulI, h1, h2, h3]
end Hg
end

section
set_option autoImplicit false
set_option maxHeartbeats 1000000
/-! Pl2: the law's own hedge: a tree grown knot by knot. -/
namespace Hg
def keyOf (ns : List Int) (at_ k : Nat) : Nat × Nat := (mix (cell ns (at_ + 2 + k) + 29 * k * k) 9931 997, k)
def orderOf (ns : List Int) (at_ m : Nat) : List Nat := (sortR ((List.range m).map (keyOf ns at_))).map (·.2)
theorem orderOf_perm (ns : List Int) (at_ m : Nat) : (orderOf ns at_ m).Perm (List.range m) := by
  unfold orderOf
  have h := (sortR_perm ((List.range m).map (keyOf ns at_))).map (·.2)
  rw [List.map_map] at h
  have e : ((fun x : Nat × Nat => x.2) ∘ keyOf ns at_) = id := rfl
  rwa [e, List.map_id] at h
theorem cell_int (ns : List Int) (k : Nat) (i : Int) (h : i = (k : Int)) : s_l_cell [scr ns, .int i] = some (.int (cell ns k)) := by rw [h]; exact sp_cell ns k
theorem sp_order (ns : List Int) (at_ m : Nat) (hm : m ≤ 1000) : s_l_order [scr ns, .int at_, .int m] = some (.lst ((orderOf ns at_ m).map nD)) := by
  unfold s_l_order
  refine runF_eq rfl ?_
  simp only [d_l_order, startEnv]
  simp
  rw [ev_compM (List.range m) nD (fun k => rodD (keyOf ns at_ k)) (own := false)]
  · simp
    have e1 : (List.range m).map (fun k => rodD (keyOf ns at_ k)) = ((List.range m).map (keyOf ns at_)).map rodD := by rw [List.map_map]; rfl
    have hl : ((List.range m).map (keyOf ns at_)).length < L := by simp [L_eq]; omega
    rw [e1, ev_compM (sortR ((List.range m).map (keyOf ns at_))) rodD (fun p => nD p.2) (own := false)]
    · simp [orderOf]
    · exact evI_n (ev_sortR rfl hl)
    · intro x hx
      exact ⟨_, rfl, .frz, by simp [rodD, nD], rfl⟩
    · rw [(sortR_perm _).length_eq]; exact hl
  · exact evI_rng rfl hm
  · intro x hx
    have hx := List.mem_range.mp hx
    have h1 := sp_mix (cell ns (at_ + 2 + x) + 29 * x * x) 9931 997 (by decide) (by decide)
    refine ⟨_, rfl, .frz, ?_, rfl⟩
    have h2 := cell_int ns (at_ + 2 + x) (at_ + 2 + x) (by omega)
    have h3 : mulOk 29 (x : Int) = true := mulOk_l (by decide) (by decide)
    have h4 : mulOk (29 * (x : Int)) (x : Int) = true := mulOk_l (by omega) (by omega)
    simp [nD, h2, q_mulI, h1, h3, h4, rodD, keyOf]
  · simp [L_eq]; omega
end Hg
end

section
set_option autoImplicit false
set_option maxHeartbeats 1000000
/-! Pl3: hedges. -/
namespace Hg
/-- knots and rods, grown: each new knot is joined to one that stands -/
inductive Tr : List Nat → List (Nat × Nat) → Prop where
  | one (v : Nat) : Tr [v] []
  | add {vs : List Nat} {es : List (Nat × Nat)} (u v : Nat) : Tr vs es → u ∈ vs → v ∉ vs → Tr (v :: vs) ((min u v, max u v) :: es)
def ltN (p q : Nat × Nat) : Prop := p.1 < q.1 ∨ (p.1 = q.1 ∧ p.2 < q.2)
structure Hedge (n : Nat) (rs : List (Nat × Nat)) : Prop where
  tr : ∃ vs es, Tr vs es ∧ vs.Perm (List.range n) ∧ es.Perm rs
  srt : rs.Pairwise ltN
theorem Tr.mem {vs : List Nat} {es : List (Nat × Nat)} (h : Tr vs es) : ∀ e ∈ es, e.1 ∈ vs ∧ e.2 ∈ vs ∧ e.1 < e.2 := by
  induction h with
  | one v => intro e he; cases he
  | @add vs es u v h hu hv ih =>
    intro e he
    rcases List.mem_cons.mp he with rfl | he
    · have : u ≠ v := fun e => hv (e ▸ hu)
      refine ⟨?_, ?_, ?_⟩
      · by_cases h : u ≤ v
        · rw [Nat.min_eq_left h]; exact List.mem_cons_of_mem _ hu
        · rw [Nat.min_eq_right (by omega)]; exact List.mem_cons_self ..
      · by_cases h : u ≤ v
        · rw [Nat.max_eq_right h]; exact List.mem_cons_self ..
        · rw [Nat.max_eq_left (by omega)]; exact List.mem_cons_of_mem _ hu
      · show min u v < max u v
        omega
    · obtain ⟨h1, h2, h3⟩ := ih e he
      exact ⟨List.mem_cons_of_mem _ h1, List.mem_cons_of_mem _ h2, h3⟩
theorem Tr.nodup {vs : List Nat} {es : List (Nat × Nat)} (h : Tr vs es) : vs.Nodup := by
  induction h with
  | one v => simp
  | add u v h hu hv ih => exact List.nodup_cons.mpr ⟨hv, ih⟩
theorem Tr.len {vs : List Nat} {es : List (Nat × Nat)} (h : Tr vs es) : vs.length = es.length + 1 := by
  induction h with
  | one v => rfl
  | add u v h hu hv ih => simp [ih]
theorem Tr.nodup_e {vs : List Nat} {es : List (Nat × Nat)} (h : Tr vs es) : es.Nodup := by
  induction h with
  | one v => simp
  | @add vs es u v h hu hv ih =>
    refine List.nodup_cons.mpr ⟨fun hm => ?_, ih⟩
    obtain ⟨h1, h2, _⟩ := h.mem _ hm
    by_cases h : u ≤ v
    · rw [Nat.max_eq_right h] at h2; exact hv h2
    · rw [Nat.min_eq_right (by omega)] at h1; exact hv h1
theorem sort_strict {rs : List (Nat × Nat)} (h : rs.Nodup) : (sortR rs).Pairwise ltN := by
  have h1 := sortR_pw rs
  have h2 : (sortR rs).Nodup := (sortR_perm rs).nodup_iff.mpr h
  refine (h1.and h2).imp ?_
  intro a b hab
  obtain ⟨h3, h4⟩ := hab
  simp only [leN, decide_eq_true_eq] at h3
  unfold ltN
  rcases h3 with h3 | ⟨h3, h5⟩
  · exact .inl h3
  · refine .inr ⟨h3, ?_⟩
    rcases Nat.lt_or_ge a.2 b.2 with h6 | h6
    · exact h6
    · exact absurd (Prod.ext h3 (Nat.le_antisymm h5 h6)) h4
namespace Hedge
variable {n : Nat} {rs : List (Nat × Nat)}
theorem lt (h : Hedge n rs) {e : Nat × Nat} (he : e ∈ rs) : e.1 < n ∧ e.2 < n ∧ e.1 < e.2 := by
  obtain ⟨vs, es, h1, h2, h3⟩ := h.tr
  obtain ⟨h4, h5, h6⟩ := h1.mem e (h3.mem_iff.mpr he)
  exact ⟨List.mem_range.mp (h2.mem_iff.mp h4), List.mem_range.mp (h2.mem_iff.mp h5), h6⟩
theorem len (h : Hedge n rs) : n = rs.length + 1 := by
  obtain ⟨vs, es, h1, h2, h3⟩ := h.tr
  have := h1.len
  rw [h2.length_eq, h3.length_eq] at this
  simpa using this
theorem pos (h : Hedge n rs) : 0 < n := by have := h.len; omega
theorem nodup (h : Hedge n rs) : rs.Nodup := by
  obtain ⟨vs, es, h1, h2, h3⟩ := h.tr
  exact h3.nodup_iff.mp h1.nodup_e
theorem of_tr {vs : List Nat} {es rs : List (Nat × Nat)} (h : Tr vs es) (hp : vs.Perm (List.range n)) (he : es.Perm rs) : Hedge n (sortR rs) :=
  ⟨⟨vs, es, h, hp, he.trans (sortR_perm rs).symm⟩, sort_strict (he.nodup_iff.mp h.nodup_e)⟩
end Hedge
theorem take_snoc (p : List Nat) (k : Nat) (h : k < p.length) : p.take (k + 1) = p.take k ++ [p[k]] := by
  rw [List.take_succ, List.getElem?_eq_getElem h]; rfl
theorem sp_hedgeN (ns : List Int) (at_ : Nat) (hl : ns.length ≤ 63) : ∃ n rs, s_l_hedge [scr ns, .int at_] = some (hD n rs) ∧ Hedge n rs ∧ n ≤ 18 ∧ ∃ most : Int, (most = 9 ∨ most = 18) ∧ (n : Int) = 1 + cell ns at_ % most := by
  obtain ⟨big, hbig⟩ := sp_large ns
  have h1 := sp_cell ns at_
  have h2 := cell_int ns (at_ + 1) (at_ + 1) (by omega)
  have hl2 : ¬ (63 : Int) < ns.length := by omega
  generalize hmo : (if big = true then 18 else 9 : Int) = most
  have hmo1 : 0 < most ∧ most ≤ 18 := by subst hmo; cases big <;> decide
  have hn1 := Int.emod_nonneg (cell ns at_) (show most ≠ 0 by omega)
  have hn2 := Int.emod_lt_of_pos (cell ns at_) hmo1.1
  obtain ⟨n, hn⟩ := Int.eq_ofNat_of_zero_le (show 0 ≤ 1 + cell ns at_ % most by omega)
  have hn18 : n ≤ 18 := by omega
  have hmost : ∃ most : Int, (most = 9 ∨ most = 18) ∧ (n : Int) = 1 + cell ns at_ % most := ⟨most, by cases big <;> simp at hmo <;> omega, by omega⟩
  have hn0 : 0 < n := by omega
  have ho := sp_order ns at_ n (by omega)
  have hpm := orderOf_perm ns at_ n
  generalize orderOf ns at_ n = p at ho hpm
  have hpl : p.length = n := by simpa using hpm.length_eq
  have hpn : p.Nodup := hpm.nodup_iff.mpr List.nodup_range
  have hget : ∀ o : Nat, o < n → ∃ a, p[o]? = some a := fun o ho => ⟨p[o], List.getElem?_eq_getElem (by omega)⟩
  have key : ∃ d, s_l_hedge [scr ns, .int at_] = some d ∧ ∃ es, Tr p.reverse es.reverse ∧ d = hD n (sortR es) := by
    refine runF_R rfl ?_
    simp only [d_l_hedge, startEnv]
    have fin : ∀ (k o a b : Nat) (rods : List (Nat × Nat)), Tr (p.take k).reverse rods.reverse → o < k → p[o]? = some b → p[k]? = some a → Tr (p.take (k + 1)).reverse (rods ++ [(min a b, max a b)]).reverse := by
      intro k o a b rods hT ho hb ha
      obtain ⟨hk, ha2⟩ := List.getElem?_eq_some_iff.mp ha
      obtain ⟨ho2, hb2⟩ := List.getElem?_eq_some_iff.mp hb
      rw [take_snoc p k hk, List.reverse_append, List.reverse_append, ha2, Nat.min_comm, Nat.max_comm]
      show Tr (a :: (p.take k).reverse) ((min b a, max b a) :: rods.reverse)
      refine Tr.add b a hT ?_ ?_
      · rw [List.mem_reverse, ← hb2, List.mem_take_iff_getElem]
        exact ⟨o, by omega, rfl⟩
      · rw [List.mem_reverse, ← ha2, List.mem_take_iff_getElem]
        rintro ⟨i, hi, he⟩
        have := (List.getElem_inj hpn).mp he
        omega
    cases big <;> simp at hmo <;> subst hmo <;> simp [hbig, hl2, h1, h2, hn, ho] <;> generalize cell ns (at_ + 1) % 5 = mn
    all_goals
      refine for_R (R := fun o => ∃ d, o = some (.rt d) ∧ ∃ es, Tr p.reverse es.reverse ∧ d = hD n (sortR es)) (List.range' 1 (n - 1)) nD
        (fun rods : List (Nat × Nat) => [.val (scr ns) .frz, .val (.int at_) .frz, .val (.int _) .frz, .val (.int n) .frz, .val (.lst (p.map nD)) .frz, .val (.int mn) .frz, .val (.lst (rods.map rodD)) .own1, .un, .un, .un, .un])
        (fun pre rods => Tr (p.take (pre.length + 1)).reverse rods.reverse ∧ rods.length ≤ pre.length) [] (evI_rng1 rfl rfl (by omega)) rfl ?_ ?_ ?_
      · match p, hpl with
        | [], h => simp at h; omega
        | x :: xs, h => exact ⟨Tr.one x, Nat.le_refl _⟩
      · intro pre k post rods e hI
        obtain ⟨hI, hlen⟩ := hI
        obtain ⟨hk1, hk2, hk3⟩ := range'_split e
        obtain ⟨a, ha⟩ := hget k (by omega)
        have hc := cell_int ns (at_ + 1 + k) (at_ + 1 + k) (by omega)
        have hm1 := sp_mix (cell ns (at_ + 1 + k) + 3 * k * k) 9973 k (by decide) (by omega)
        have hm1l := mix_lt (cell ns (at_ + 1 + k) + 3 * k * k) 9973 k (by omega)
        have hm2 := sp_mix (cell ns (at_ + 1 + k)) 9967 3 (by decide) (by decide)
        have hm3 : mulOk 3 (k : Int) = true := mulOk_l (by decide) (by decide)
        have hm4 : mulOk (3 * (k : Int)) (k : Int) = true := mulOk_l (by omega) (by omega)
        generalize mix (cell ns (at_ + 1 + k) + 3 * k * k) 9973 k = v1 at hm1 hm1l
        generalize mix (cell ns (at_ + 1 + k)) 9967 3 = v2 at hm2
        have e1 : pre.length + 1 = k := by omega
        rw [e1] at hI
        have hrl : rods.length < L := by simp [L_eq]; omega
        rw [List.length_append, List.length_singleton]
        have goal : ∀ (w : Int) (o b : Nat), o < k → p[o]? = some b → ∀ r, r = some (Out.nx [.val (scr ns) .frz, .val (.int at_) .frz, .val (.int w) .frz, .val (.int n) .frz, .val (.lst (p.map nD)) .frz, .val (.int mn) .frz, .val (.lst (rods.map rodD ++ [.tup [.int (min (a : Int) b), .int (max (a : Int) b)]])) .own1, .un, .un, .un, .un]) →
            ∃ b' : List (Nat × Nat), r = some (.nx [.val (scr ns) .frz, .val (.int at_) .frz, .val (.int w) .frz, .val (.int n) .frz, .val (.lst (p.map nD)) .frz, .val (.int mn) .frz, .val (.lst (b'.map rodD)) .own1, .un, .un, .un, .un]) ∧ Tr (p.take (pre.length + 1 + 1)).reverse b'.reverse ∧ b'.length ≤ pre.length + 1 := by
          intro w o b ho hb r hr
          refine ⟨rods ++ [(min a b, max a b)], ?_, by rw [e1]; exact fin k o a b rods hI ho hb ha, by simp; omega⟩
          rw [hr, List.map_append]
          simp only [List.map_cons, List.map_nil, rodD]
          rw [show ((min a b : Nat) : Int) = min (a : Int) b by omega, show ((max a b : Nat) : Int) = max (a : Int) b by omega]
        have hg : ∀ (o b : Nat) (i : Int), p[o]? = some b → i = (o : Int) → getIx (p.map nD) i = some (.int (b : Int)) := by
          intro o b i hb hi
          rw [hi, getIx_nat, List.getElem?_map, hb]; rfl
        have hga := hg k a k ha rfl
        by_cases c1 : mn = 1
        · obtain ⟨b, hb⟩ := hget (k - 1) (by omega)
          refine goal _ (k - 1) b (by omega) hb _ ?_
          have e2 := hg (k - 1) b ((k : Int) - 1) hb (by omega)
          simp [nD, hc, q_mulI, hm1, hm3, hm4, c1, e2, hga, hrl, PD_eq, -getIx_nat, -getIx_zero]
        · by_cases c2 : mn = 2
          · obtain ⟨b, hb⟩ := hget 0 (by omega)
            refine goal _ 0 b (by omega) hb _ ?_
            have e2 := hg 0 b 0 hb rfl
            simp [nD, hc, q_mulI, hm1, hm3, hm4, c2, e2, hga, hrl, PD_eq, -getIx_nat, -getIx_zero]
          · by_cases c3 : mn = 3
            · obtain ⟨b, hb⟩ := hget (k - 1 - v2) (by omega)
              refine goal _ (k - 1 - v2) b (by omega) hb _ ?_
              have e2 := hg (k - 1 - v2) b (max 0 ((k : Int) - 1 - v2)) hb (by omega)
              simp [nD, hc, q_mulI, hm1, hm2, hm3, hm4, c3, e2, hga, hrl, PD_eq, -getIx_nat, -getIx_zero]
            · obtain ⟨b, hb⟩ := hget v1 (by omega)
              refine goal _ v1 b (by omega) hb _ ?_
              have e2 := hg v1 b v1 hb rfl
              simp [nD, hc, q_mulI, hm1, hm2, hm3, hm4, c1, c2, c3, e2, hga, hrl, PD_eq, -getIx_nat, -getIx_zero]
      · intro rods hI
        obtain ⟨hI, hlen⟩ := hI
        rw [List.length_range', List.take_of_length_le (by omega)] at hI
        refine ⟨_, ?_, rods, hI, rfl⟩
        have hl3 : rods.length < L := by simp [L_eq]; simp at hlen; omega
        simp [hD, sortedV_R hl3]
  obtain ⟨d, h6, es, h5, h8⟩ := key
  subst h8
  exact ⟨n, sortR es, h6, Hedge.of_tr (n := n) h5 ((List.reverse_perm p).trans hpm) (List.reverse_perm es), hn18, hmost⟩
theorem sp_hedge (ns : List Int) (at_ : Nat) (hl : ns.length ≤ 63) : ∃ n rs, s_l_hedge [scr ns, .int at_] = some (hD n rs) ∧ Hedge n rs ∧ n ≤ 18 := by
  obtain ⟨n, rs, h1, h2, h3, _⟩ := sp_hedgeN ns at_ hl
  exact ⟨n, rs, h1, h2, h3⟩
end Hg
end

section
set_option autoImplicit false
set_option maxHeartbeats 1000000
/-! Pnb: neighbours, copy. -/
namespace Hg
def nbOf (v : Nat) (e : Nat × Nat) : List Nat := if e.1 = v then [e.2] else if e.2 = v then [e.1] else []
def nbRaw (rs : List (Nat × Nat)) (v : Nat) : List Nat := rs.flatMap (nbOf v)
def nb (rs : List (Nat × Nat)) (v : Nat) : List Nat := sortN (nbRaw rs v)
theorem nbRaw_len (rs : List (Nat × Nat)) (v : Nat) : (nbRaw rs v).length ≤ rs.length := by
  induction rs with
  | nil => exact Nat.le_refl _
  | cons e rs ih =>
    have : (nbOf v e).length ≤ 1 := by unfold nbOf; split; exact Nat.le_refl _; split; exact Nat.le_refl _; exact Nat.zero_le _
    show (nbOf v e ++ nbRaw rs v).length ≤ _
    rw [List.length_append, List.length_cons]
    omega
theorem nb_len (rs : List (Nat × Nat)) (v : Nat) : (nb rs v).length ≤ rs.length := by
  rw [nb, (sortN_perm _).length_eq]; exact nbRaw_len rs v
theorem mem_nbRaw {rs : List (Nat × Nat)} {v w : Nat} : w ∈ nbRaw rs v ↔ ∃ e ∈ rs, w ∈ nbOf v e := List.mem_flatMap
theorem mem_nb {rs : List (Nat × Nat)} {v w : Nat} (h : ∀ e ∈ rs, e.1 < e.2) : w ∈ nb rs v ↔ (v, w) ∈ rs ∨ (w, v) ∈ rs := by
  rw [nb, (sortN_perm _).mem_iff, mem_nbRaw]
  constructor
  · rintro ⟨⟨a, b⟩, he, hw⟩
    unfold nbOf at hw
    split at hw
    · rename_i h1; simp only at h1 hw; subst h1; simp at hw; subst hw; exact .inl he
    · split at hw
      · rename_i h1; simp only at h1 hw; subst h1; simp at hw; subst hw; exact .inr he
      · cases hw
  · rintro (h1 | h1)
    · exact ⟨_, h1, by simp [nbOf]⟩
    · have := h _ h1
      simp only at this
      exact ⟨_, h1, by simp [nbOf, show w ≠ v by omega]⟩
theorem map_range_set {β : Type} (n a : Nat) (F : Nat → β) (X : β) : ((List.range n).map F).set a X = (List.range n).map (fun v => if v = a then X else F v) := by
  apply List.ext_getElem?
  intro i
  rw [List.getElem?_set]
  by_cases h : a = i
  · subst h
    by_cases h2 : a < n
    · simp [h2]
    · simp [h2]
  · rw [if_neg h]
    by_cases h2 : i < n
    · simp [h2, show i ≠ a from fun e => h e.symm]
    · simp [h2]
theorem sp_neighbours {n : Nat} {rs : List (Nat × Nat)} (h : ∀ e ∈ rs, e.1 < n ∧ e.2 < n ∧ e.1 < e.2) (hn : n ≤ 1000) (hl : rs.length ≤ 1000) : s_neighbours [hD n rs] = some (rowsD ((List.range n).map (nb rs))) := by
  unfold s_neighbours
  refine runF_eq rfl ?_
  simp only [d_neighbours, startEnv]
  simp
  rw [ev_compD (List.range n) nD (fun _ => D.lst []) (own := false)]
  · simp
    refine for_step rs rodD (fun f : Nat → List Nat => [.val (hD n rs) .frz, .val (.lst ((List.range n).map fun v => nsD (f v))) .own2, .un, .un, .un, .un]) (fun pre f => f = nbRaw pre) (fun _ => []) ?_ ?_ rfl ?_ ?_
    · simp [hD]
    · rfl
    · rintro pre ⟨a, b⟩ post f e hf
      obtain ⟨ha, hb, hab⟩ := h (a, b) (by rw [e]; simp)
      simp only at ha hb hab
      have hpl : pre.length < 1000 := by have := congrArg List.length e; simp at this; omega
      have hfl : ∀ v, (f v).length < L := by intro v; rw [hf]; have := nbRaw_len pre v; simp [L_eq]; omega
      refine ⟨nbRaw (pre ++ [(a, b)]), ?_, rfl⟩
      have e1 := ixN_nat ha
      have e2 := ixN_nat hb
      have hba : b ≠ a := by omega
      simp [rodD, e1, e2, ha, hb, nsD, hfl, map_range_set, hba]
      intro v hv
      have e3 : nbRaw (pre ++ [(a, b)]) v = f v ++ nbOf v (a, b) := by
        rw [hf]; unfold nbRaw; rw [List.flatMap_append]; simp
      rw [e3]
      by_cases c1 : v = b
      · subst c1
        simp [nbOf, show a ≠ v by omega, nD]
      · by_cases c2 : v = a
        · subst c2
          simp [nbOf, c1, nD]
        · simp [nbOf, show a ≠ v from fun e => c2 e.symm, show b ≠ v from fun e => c1 e.symm, c1, c2]
    · intro f hf
      subst hf
      simp [freeze1]
      rw [ev_compM (List.range n) (fun v => nsD (nbRaw rs v)) (fun v => nsD (nb rs v)) (own := false)]
      · simp [rowsD]
      · exact evI_f rfl
      · intro v hv
        have hl2 : (nbRaw rs v).length < L := by have := nbRaw_len rs v; simp [L_eq]; omega
        exact ⟨_, rfl, .new1, ev_sortN rfl hl2, rfl⟩
      · simp [L_eq]; omega
  · exact evI_rng rfl hn
  · intro v hv
    exact ⟨_, rfl, by simp⟩
  · simp [L_eq]; omega
/-- a copy -/
theorem sp_copy (n : Nat) (rs : List (Nat × Nat)) : s_l_copy [hD n rs] = some (hD n rs) := by
  unfold s_l_copy
  refine runF_eq rfl ?_
  simp [d_l_copy, startEnv, hD]
end Hg
end

section
set_option autoImplicit false
set_option maxHeartbeats 1000000
/-! Tree: what holds of hedges as trees: sides of a rod, distances, the knot ahead. Plain mathematics. -/
namespace Hg
def Adj (rs : List (Nat × Nat)) (u v : Nat) : Prop := (u, v) ∈ rs ∨ (v, u) ∈ rs
theorem Adj.symm {rs : List (Nat × Nat)} {u v : Nat} (h : Adj rs u v) : Adj rs v u := h.elim .inr .inl
theorem Tr.split {vs : List Nat} {es : List (Nat × Nat)} (h : Tr vs es) : ∀ e ∈ es, ∃ c : Nat → Bool, c e.1 ≠ c e.2 ∧ ∀ e' ∈ es, e' ≠ e → c e'.1 = c e'.2 := by
  induction h with
  | one v => intro e he; cases he
  | @add vs es u v h hu hv ih =>
    have huv : u ≠ v := fun e => hv (e ▸ hu)
    intro e he
    rcases List.mem_cons.mp he with rfl | he
    · refine ⟨fun x => decide (x = v), ?_, ?_⟩
      · show decide (min u v = v) ≠ decide (max u v = v)
        by_cases c : u ≤ v
        · rw [Nat.min_eq_left c, Nat.max_eq_right c]; simp [huv]
        · rw [Nat.min_eq_right (by omega), Nat.max_eq_left (by omega)]; simp [huv]
      · intro e' he' hne
        rcases List.mem_cons.mp he' with rfl | he'
        · exact absurd rfl hne
        · obtain ⟨h1, h2, _⟩ := h.mem e' he'
          have : e'.1 ≠ v := fun z => hv (z ▸ h1)
          have : e'.2 ≠ v := fun z => hv (z ▸ h2)
          simp [*]
    · obtain ⟨c, h1, h2⟩ := ih e he
      obtain ⟨m1, m2, _⟩ := h.mem e he
      have n1 : e.1 ≠ v := fun z => hv (z ▸ m1)
      have n2 : e.2 ≠ v := fun z => hv (z ▸ m2)
      refine ⟨fun x => if x = v then c u else c x, by simp only [n1, n2, if_false]; exact h1, ?_⟩
      intro e' he' hne
      rcases List.mem_cons.mp he' with rfl | he'
      · show (if min u v = v then c u else c (min u v)) = (if max u v = v then c u else c (max u v))
        by_cases q : u ≤ v
        · rw [Nat.min_eq_left q, Nat.max_eq_right q]; simp [huv]
        · rw [Nat.min_eq_right (by omega), Nat.max_eq_left (by omega)]; simp [huv]
      · obtain ⟨m1, m2, _⟩ := h.mem e' he'
        have n1 : e'.1 ≠ v := fun z => hv (z ▸ m1)
        have n2 : e'.2 ≠ v := fun z => hv (z ▸ m2)
        simp only [n1, n2, if_false]
        exact h2 e' he' hne
theorem Tr.conn {vs : List Nat} {es : List (Nat × Nat)} (h : Tr vs es) (P : Nat → Prop) : (∀ e ∈ es, (P e.1 ↔ P e.2)) → ∀ x ∈ vs, ∀ y ∈ vs, (P x ↔ P y) := by
  induction h with
  | one v => intro _ x hx y hy; simp at hx hy; rw [hx, hy]
  | @add vs es u v h hu hv ih =>
    intro hP
    have ih := ih fun e he => hP e (List.mem_cons_of_mem _ he)
    have huv : P u ↔ P v := by
      have := hP _ (List.mem_cons_self ..)
      simp only at this
      by_cases q : u ≤ v
      · rwa [Nat.min_eq_left q, Nat.max_eq_right q] at this
      · rw [Nat.min_eq_right (by omega), Nat.max_eq_left (by omega)] at this; exact this.symm
    have key : ∀ x ∈ v :: vs, (P x ↔ P u) := by
      intro x hx
      rcases List.mem_cons.mp hx with rfl | hx
      · exact huv.symm
      · exact ih x hx u hu
    intro x hx y hy
    exact (key x hx).trans (key y hy).symm
namespace Hedge
variable {n : Nat} {rs : List (Nat × Nat)}
theorem split (h : Hedge n rs) {e : Nat × Nat} (he : e ∈ rs) : ∃ c : Nat → Bool, c e.1 ≠ c e.2 ∧ ∀ e' ∈ rs, e' ≠ e → c e'.1 = c e'.2 := by
  obtain ⟨vs, es, h1, h2, h3⟩ := h.tr
  obtain ⟨c, h4, h5⟩ := h1.split e (h3.mem_iff.mpr he)
  exact ⟨c, h4, fun e' he' => h5 e' (h3.mem_iff.mpr he')⟩
theorem conn_iff (h : Hedge n rs) (P : Nat → Prop) (hP : ∀ e ∈ rs, (P e.1 ↔ P e.2)) {x y : Nat} (hx : x < n) (hy : y < n) : P x ↔ P y := by
  obtain ⟨vs, es, h1, h2, h3⟩ := h.tr
  exact h1.conn P (fun e he => hP e (h3.mem_iff.mp he)) x (h2.mem_iff.mpr (List.mem_range.mpr hx)) y (h2.mem_iff.mpr (List.mem_range.mpr hy))
/-- what is closed under neighbours holds of all -/
theorem conn (h : Hedge n rs) (P : Nat → Prop) (hP : ∀ u v, Adj rs u v → P u → P v) {x y : Nat} (hx : x < n) (hy : y < n) (hp : P x) : P y :=
  (h.conn_iff P (fun e he => ⟨hP _ _ (.inl he), hP _ _ (.inr he)⟩) hx hy).mp hp
theorem adj_lt (h : Hedge n rs) {u v : Nat} (a : Adj rs u v) : u < n ∧ v < n ∧ u ≠ v := by
  rcases a with a | a
  · have := h.lt a; simp only at this; omega
  · have := h.lt a; simp only at this; omega
end Hedge
open Classical in
/-- on which side of a rod a knot stands -/
noncomputable def side (rs : List (Nat × Nat)) (e : Nat × Nat) : Nat → Bool :=
  if h : ∃ c : Nat → Bool, c e.1 ≠ c e.2 ∧ ∀ e' ∈ rs, e' ≠ e → c e'.1 = c e'.2 then Classical.choose h else fun _ => false
/-- the rod between two -/
def rodOf (u v : Nat) : Nat × Nat := (min u v, max u v)
theorem rodOf_comm (u v : Nat) : rodOf u v = rodOf v u := by unfold rodOf; rw [Nat.min_comm, Nat.max_comm]
/-- how far one knot is from another: the rods that part them -/
noncomputable def dist (rs : List (Nat × Nat)) (x y : Nat) : Nat := rs.countP fun e => side rs e x != side rs e y
namespace Hedge
variable {n : Nat} {rs : List (Nat × Nat)}
theorem adj_rod (h : Hedge n rs) {u v : Nat} (a : Adj rs u v) : rodOf u v ∈ rs := by
  rcases a with a | a
  · have := h.lt a; simp only at this
    unfold rodOf; rw [Nat.min_eq_left (by omega), Nat.max_eq_right (by omega)]; exact a
  · have := h.lt a; simp only at this
    unfold rodOf; rw [Nat.min_eq_right (by omega), Nat.max_eq_left (by omega)]; exact a
theorem rod_eq (h : Hedge n rs) {e : Nat × Nat} (he : e ∈ rs) : rodOf e.1 e.2 = e := by
  have := h.lt he
  unfold rodOf; rw [Nat.min_eq_left (by omega), Nat.max_eq_right (by omega)]
theorem side_ne (h : Hedge n rs) {e : Nat × Nat} (he : e ∈ rs) : side rs e e.1 ≠ side rs e e.2 := by
  have hs := h.split he
  unfold side
  rw [dif_pos hs]
  exact (Classical.choose_spec hs).1
theorem side_eq (h : Hedge n rs) {e e' : Nat × Nat} (he : e ∈ rs) (he' : e' ∈ rs) (hne : e' ≠ e) : side rs e e'.1 = side rs e e'.2 := by
  have hs := h.split he
  unfold side
  rw [dif_pos hs]
  exact (Classical.choose_spec hs).2 e' he' hne
theorem side_adj_ne (h : Hedge n rs) {u v : Nat} (a : Adj rs u v) : side rs (rodOf u v) u ≠ side rs (rodOf u v) v := by
  have := h.side_ne (h.adj_rod a)
  unfold rodOf at this ⊢
  by_cases q : u ≤ v
  · rw [Nat.min_eq_left q, Nat.max_eq_right q] at this ⊢; exact this
  · rw [Nat.min_eq_right (by omega), Nat.max_eq_left (by omega)] at this ⊢; exact this.symm
theorem side_adj_eq (h : Hedge n rs) {u v : Nat} {e : Nat × Nat} (he : e ∈ rs) (a : Adj rs u v) (hne : rodOf u v ≠ e) : side rs e u = side rs e v := by
  have := h.side_eq he (h.adj_rod a) hne
  unfold rodOf at this
  by_cases q : u ≤ v
  · rw [Nat.min_eq_left q, Nat.max_eq_right q] at this; exact this
  · rw [Nat.min_eq_right (by omega), Nat.max_eq_left (by omega)] at this; exact this.symm
end Hedge
theorem dist_self (rs : List (Nat × Nat)) (x : Nat) : dist rs x x = 0 := by
  unfold dist; rw [List.countP_eq_zero]; simp
theorem dist_comm (rs : List (Nat × Nat)) (x y : Nat) : dist rs x y = dist rs y x := by
  unfold dist
  congr 1
  funext e
  cases side rs e x <;> cases side rs e y <;> rfl
theorem countP_tri (xs : List (Nat × Nat)) (p q r : Nat × Nat → Bool) (h : ∀ x, r x = true → p x = true ∨ q x = true) : xs.countP r ≤ xs.countP p + xs.countP q := by
  induction xs with
  | nil => simp
  | cons x xs ih =>
    rw [List.countP_cons, List.countP_cons, List.countP_cons]
    have := h x
    cases hr : r x <;> cases hp : p x <;> cases hq : q x <;> simp_all <;> omega
theorem dist_tri (rs : List (Nat × Nat)) (x y z : Nat) : dist rs x z ≤ dist rs x y + dist rs y z := by
  unfold dist
  apply countP_tri
  intro e
  cases side rs e x <;> cases side rs e y <;> cases side rs e z <;> simp
/-- counts that differ at one place -/
theorem countP_one {xs : List (Nat × Nat)} (hn : xs.Nodup) {e : Nat × Nat} (he : e ∈ xs) (p q : Nat × Nat → Bool) (h1 : p e = false) (h2 : q e = true) (h : ∀ x ∈ xs, x ≠ e → p x = q x) : xs.countP q = xs.countP p + 1 := by
  induction xs with
  | nil => cases he
  | cons x xs ih =>
    rw [List.countP_cons, List.countP_cons]
    obtain ⟨hx, hn⟩ := List.nodup_cons.mp hn
    rcases List.mem_cons.mp he with rfl | he
    · have : xs.countP q = xs.countP p := by
        apply List.countP_congr
        intro y hy
        have : y ≠ e := fun z => hx (z ▸ hy)
        rw [h y (List.mem_cons_of_mem _ hy) this]
      rw [this, h1, h2]; simp
    · have hxe : x ≠ e := fun z => hx (z ▸ he)
      rw [ih hn he fun y hy => h y (List.mem_cons_of_mem _ hy), h x (List.mem_cons_self ..) hxe]
      omega
namespace Hedge
variable {n : Nat} {rs : List (Nat × Nat)}
/-- one step goes one on, or back -/
theorem dist_adj (h : Hedge n rs) {u v : Nat} (a : Adj rs u v) (r : Nat) : (side rs (rodOf u v) r = side rs (rodOf u v) u → dist rs r v = dist rs r u + 1) ∧ (side rs (rodOf u v) r = side rs (rodOf u v) v → dist rs r u = dist rs r v + 1) := by
  have hr := h.adj_rod a
  have hne := h.side_adj_ne a
  have heq : ∀ x ∈ rs, x ≠ rodOf u v → side rs x u = side rs x v := fun x hx hx2 => h.side_adj_eq hx a hx2.symm
  constructor
  · intro hs
    refine countP_one h.nodup hr _ _ ?_ ?_ fun x hx hx2 => ?_
    · simp [hs]
    · simp [hs, hne]
    · rw [heq x hx hx2]
  · intro hs
    refine countP_one h.nodup hr _ _ ?_ ?_ fun x hx hx2 => ?_
    · simp [hs]
    · simp [hs, hne.symm]
    · rw [heq x hx hx2]
theorem dist_adj_or (h : Hedge n rs) {u v : Nat} (a : Adj rs u v) (r : Nat) : dist rs r v = dist rs r u + 1 ∨ dist rs r u = dist rs r v + 1 := by
  obtain ⟨h1, h2⟩ := h.dist_adj a r
  have := h.side_adj_ne a
  by_cases c : side rs (rodOf u v) r = side rs (rodOf u v) u
  · exact .inl (h1 c)
  · refine .inr (h2 ?_)
    revert c this
    cases side rs (rodOf u v) r <;> cases side rs (rodOf u v) u <;> cases side rs (rodOf u v) v <;> simp
theorem side_of_lt (h : Hedge n rs) {u v r : Nat} (a : Adj rs u v) (hl : dist rs r u < dist rs r v) : side rs (rodOf u v) r = side rs (rodOf u v) u := by
  obtain ⟨h1, h2⟩ := h.dist_adj a r
  have := h.side_adj_ne a
  refine Classical.byContradiction fun c => ?_
  have : side rs (rodOf u v) r = side rs (rodOf u v) v := by
    revert c this
    cases side rs (rodOf u v) r <;> cases side rs (rodOf u v) u <;> cases side rs (rodOf u v) v <;> simp
  have := h2 this
  omega
/-- the branches at a knot have nothing in common -/
theorem branch_disj (h : Hedge n rs) {v u u' x : Nat} (a : Adj rs u v) (a' : Adj rs u' v) (hne : u ≠ u') (hx : x < n) : ¬(side rs (rodOf u v) x = side rs (rodOf u v) u ∧ side rs (rodOf u' v) x = side rs (rodOf u' v) u') := by
  have hr := h.adj_rod a
  have hr' := h.adj_rod a'
  have hd : rodOf u v ≠ rodOf u' v := by
    intro e
    have e1 := congrArg Prod.fst e
    have e2 := congrArg Prod.snd e
    simp only [rodOf] at e1 e2
    omega
  have s1 := h.side_adj_ne a
  have s2 := h.side_adj_ne a'
  have s3 : side rs (rodOf u v) u' = side rs (rodOf u v) v := h.side_adj_eq hr a' hd.symm
  have s4 : side rs (rodOf u' v) u = side rs (rodOf u' v) v := h.side_adj_eq hr' a hd
  have hv : v < n := (h.adj_lt a).2.1
  refine (h.conn_iff (fun x => ¬(side rs (rodOf u v) x = side rs (rodOf u v) u ∧ side rs (rodOf u' v) x = side rs (rodOf u' v) u')) (fun e he => ?_) hv hx).mp ?_
  · by_cases c1 : e = rodOf u v
    · have n1 : ¬(side rs (rodOf u' v) u = side rs (rodOf u' v) u') := by rw [s4]; exact fun z => s2 z.symm
      have n2 : ¬(side rs (rodOf u' v) v = side rs (rodOf u' v) u') := fun z => s2 z.symm
      subst c1
      have key : ∀ z, z = u ∨ z = v → ¬(side rs (rodOf u v) z = side rs (rodOf u v) u ∧ side rs (rodOf u' v) z = side rs (rodOf u' v) u') := by
        rintro z (rfl | rfl) hz
        · exact n1 hz.2
        · exact n2 hz.2
      have k1 := key (rodOf u v).1 (by simp only [rodOf]; omega)
      have k2 := key (rodOf u v).2 (by simp only [rodOf]; omega)
      exact ⟨fun _ => k2, fun _ => k1⟩
    · by_cases c2 : e = rodOf u' v
      · have n1 : ¬(side rs (rodOf u v) u' = side rs (rodOf u v) u) := by rw [s3]; exact fun z => s1 z.symm
        have n2 : ¬(side rs (rodOf u v) v = side rs (rodOf u v) u) := fun z => s1 z.symm
        subst c2
        have key : ∀ z, z = u' ∨ z = v → ¬(side rs (rodOf u v) z = side rs (rodOf u v) u ∧ side rs (rodOf u' v) z = side rs (rodOf u' v) u') := by
          rintro z (rfl | rfl) hz
          · exact n1 hz.1
          · exact n2 hz.1
        have k1 := key (rodOf u' v).1 (by simp only [rodOf]; omega)
        have k2 := key (rodOf u' v).2 (by simp only [rodOf]; omega)
        exact ⟨fun _ => k2, fun _ => k1⟩
      · rw [h.side_eq hr he c1, h.side_eq hr' he c2]
  · rintro ⟨z, _⟩
    exact s1 z.symm
/-- one neighbour at most is nearer -/
theorem nearer_uniq (h : Hedge n rs) {r v u u' : Nat} (hr : r < n) (a : Adj rs u v) (a' : Adj rs u' v) (hl : dist rs r u < dist rs r v) (hl' : dist rs r u' < dist rs r v) : u = u' :=
  Classical.byContradiction fun hne => h.branch_disj a a' hne hr ⟨h.side_of_lt a hl, h.side_of_lt a' hl'⟩
theorem rod_inj {u v w z : Nat} (h : rodOf u v = rodOf w z) : (u = w ∧ v = z) ∨ (u = z ∧ v = w) := by
  have e1 := congrArg Prod.fst h
  have e2 := congrArg Prod.snd h
  simp only [rodOf] at e1 e2
  omega
/-- each other knot is in a branch -/
theorem branch_ex (h : Hedge n rs) {v z : Nat} (hv : v < n) (hz : z < n) (hne : z ≠ v) : ∃ u, Adj rs u v ∧ side rs (rodOf u v) z = side rs (rodOf u v) u := by
  refine h.conn (fun z => z ≠ v → ∃ u, Adj rs u v ∧ side rs (rodOf u v) z = side rs (rodOf u v) u) ?_ hv hz (fun c => absurd rfl c) hne
  intro z w a ih hw
  by_cases c : z = v
  · subst c
    exact ⟨w, a.symm, rfl⟩
  · obtain ⟨u, h1, h2⟩ := ih c
    refine ⟨u, h1, ?_⟩
    rw [← h2]
    refine (h.side_adj_eq (h.adj_rod h1) a ?_).symm
    intro e
    rcases rod_inj e with ⟨_, e⟩ | ⟨e, _⟩
    · exact hw e
    · exact c e
theorem ahead_ex (h : Hedge n rs) {r v : Nat} (hr : r < n) (hv : v < n) (hne : r ≠ v) : ∃ u, Adj rs u v ∧ dist rs r v = dist rs r u + 1 := by
  obtain ⟨u, h1, h2⟩ := h.branch_ex hv hr hne
  exact ⟨u, h1, (h.dist_adj h1 r).1 h2⟩
theorem dist_zero (h : Hedge n rs) {x y : Nat} (hx : x < n) (hy : y < n) (hd : dist rs x y = 0) : x = y :=
  Classical.byContradiction fun hne => by
    obtain ⟨u, _, h2⟩ := h.ahead_ex hx hy hne
    omega
end Hedge
end Hg
end

section
set_option autoImplicit false
set_option maxHeartbeats 1000000
/-! Par: the knots in the order in which they are come to, each with the one ahead. -/
namespace Hg
abbrev PL := List (Nat × Option Nat)
def oD : Option Nat → D | none => .non | some u => nD u
def parD (p : Nat × Option Nat) : D := .tup [nD p.1, oD p.2]
def psD (ps : PL) : D := .lst (ps.map parD)
/-- some rods of a hedge -/
structure Forest (n : Nat) (rs : List (Nat × Nat)) : Prop where
  of : ∃ rs', Hedge n rs' ∧ ∀ e ∈ rs, e ∈ rs'
  nd : rs.Nodup
theorem Hedge.forest {n : Nat} {rs : List (Nat × Nat)} (h : Hedge n rs) : Forest n rs := ⟨⟨rs, h, fun _ h => h⟩, h.nodup⟩
inductive Grow (rs : List (Nat × Nat)) (r : Nat) : PL → Prop where
  | root : Grow rs r [(r, none)]
  | add {ps : PL} (v u : Nat) : Grow rs r ps → u ∈ ps.map (·.1) → Adj rs u v → v ∉ ps.map (·.1) → Grow rs r (ps ++ [(v, some u)])
namespace Grow
variable {n r : Nat} {rs : List (Nat × Nat)} {ps : PL}
theorem nodup (g : Grow rs r ps) : (ps.map (·.1)).Nodup := by
  induction g with
  | root => simp
  | add v u g hu a hv ih =>
    rw [List.map_append, List.nodup_append]
    refine ⟨ih, by simp, ?_⟩
    intro x hx y hy e
    simp at hy
    subst hy
    subst e
    exact hv hx
theorem head (g : Grow rs r ps) : ∃ t, ps = (r, none) :: t := by
  induction g with
  | root => exact ⟨[], rfl⟩
  | add v u g hu a hv ih => obtain ⟨t, rfl⟩ := ih; exact ⟨_, rfl⟩
theorem root_mem (g : Grow rs r ps) : r ∈ ps.map (·.1) := by obtain ⟨t, rfl⟩ := g.head; simp
/-- a rod that is none of those grown along parts none of the knots -/
theorem same {rs' : List (Nat × Nat)} (h : Hedge n rs') (hs : ∀ e ∈ rs, e ∈ rs') {e : Nat × Nat} (he : e ∈ rs') (g : Grow rs r ps) : (∀ v u, (v, some u) ∈ ps → rodOf u v ≠ e) → ∀ x ∈ ps.map (·.1), side rs' e x = side rs' e r := by
  induction g with
  | root => intro _ x hx; simp at hx; rw [hx]
  | @add ps v u g hu a hv ih =>
    intro hne x hx
    have ih := ih fun v' u' h' => hne v' u' (List.mem_append_left _ h')
    rw [List.map_append, List.mem_append] at hx
    rcases hx with hx | hx
    · exact ih x hx
    · simp at hx
      subst hx
      rw [← ih u hu]
      have a' : Adj rs' u x := a.elim (fun q => .inl (hs _ q)) (fun q => .inr (hs _ q))
      exact (h.side_adj_eq he a' (hne x u (by simp))).symm
theorem up_mem (g : Grow rs r ps) : ∀ v u, (v, some u) ∈ ps → u ∈ ps.map (·.1) ∧ Adj rs u v := by
  induction g with
  | root => intro v u h; simp at h
  | @add ps v u g hu a hv ih =>
    intro v' u' h
    rw [List.mem_append] at h
    rcases h with h | h
    · obtain ⟨h1, h2⟩ := ih v' u' h
      exact ⟨by rw [List.map_append]; exact List.mem_append_left _ h1, h2⟩
    · simp at h
      obtain ⟨rfl, rfl⟩ := h
      exact ⟨by rw [List.map_append]; exact List.mem_append_left _ hu, a⟩
theorem lt (hf : Forest n rs) (hr : r < n) (g : Grow rs r ps) : ∀ x ∈ ps.map (·.1), x < n := by
  obtain ⟨rs', h, hs⟩ := hf.of
  induction g with
  | root => intro x hx; simp at hx; omega
  | @add ps v u g hu a hv ih =>
    intro x hx
    rw [List.map_append, List.mem_append] at hx
    rcases hx with hx | hx
    · exact ih x hx
    · simp at hx
      subst hx
      exact (h.adj_lt (a.elim (fun q => .inl (hs _ q)) (fun q => .inr (hs _ q)))).2.1
end Grow
theorem nodup_len {xs : List Nat} {n : Nat} (h : xs.Nodup) (hl : ∀ x ∈ xs, x < n) : xs.length ≤ n := by
  have h1 : xs.Perm ((List.range n).filter fun x => decide (x ∈ xs)) :=
    (List.perm_ext_iff_of_nodup h (List.nodup_range.filter _)).mpr fun x => by
      rw [List.mem_filter, List.mem_range]
      exact ⟨fun hx => ⟨hl x hx, decide_eq_true hx⟩, fun hx => of_decide_eq_true hx.2⟩
  rw [h1.length_eq]
  exact Nat.le_trans (List.length_filter_le _ _) (by simp)
theorem nodup_perm {xs : List Nat} {n : Nat} (h : xs.Nodup) (hl : ∀ x, x ∈ xs ↔ x < n) : xs.Perm (List.range n) :=
  (List.perm_ext_iff_of_nodup h List.nodup_range).mpr fun x => by rw [hl, List.mem_range]
/-- seen from r: what is come to -/
structure Come (n : Nat) (rs : List (Nat × Nat)) (r : Nat) (ps : PL) : Prop where
  grow : Grow rs r ps
  all : ∀ u ∈ ps.map (·.1), ∀ v, Adj rs u v → v ∈ ps.map (·.1)
structure BInv (rs : List (Nat × Nat)) (r : Nat) (at_ : Nat) (ps : PL) : Prop where
  g : Grow rs r ps
  a : at_ ≤ ps.length
  c : ∀ h a, (h, a) ∈ ps.take at_ → ∀ o ∈ nb rs h, some o ≠ a → (o, some h) ∈ ps
  e : ∀ v u, (v, some u) ∈ ps → u ∈ (ps.take at_).map (·.1)
def kids (rs : List (Nat × Nat)) (h : Nat) (a : Option Nat) : List Nat := (nb rs h).filter fun o => decide (some o ≠ a)
theorem Forest.lt {n : Nat} {rs : List (Nat × Nat)} (hf : Forest n rs) : ∀ e ∈ rs, e.1 < n ∧ e.2 < n ∧ e.1 < e.2 := by
  obtain ⟨rs', h, hs⟩ := hf.of
  exact fun e he => h.lt (hs e he)
theorem Forest.mem_nb {n : Nat} {rs : List (Nat × Nat)} (hf : Forest n rs) {v w : Nat} : w ∈ nb rs v ↔ Adj rs v w := Hg.mem_nb fun e he => (hf.lt e he).2.2
theorem nbRaw_nodup {rs : List (Nat × Nat)} (h : ∀ e ∈ rs, e.1 < e.2) (hn : rs.Nodup) (v : Nat) : (nbRaw rs v).Nodup := by
  induction rs with
  | nil => exact List.nodup_nil
  | cons e rs ih =>
    obtain ⟨hx, hn⟩ := List.nodup_cons.mp hn
    have h' : ∀ e ∈ rs, e.1 < e.2 := fun e he => h e (List.mem_cons_of_mem _ he)
    show (nbOf v e ++ nbRaw rs v).Nodup
    have he := h e (List.mem_cons_self ..)
    rw [List.nodup_append]
    refine ⟨?_, ih h' hn, ?_⟩
    · unfold nbOf; split; simp; split; simp; simp
    · intro x hx1 y hy hxy
      subst hxy
      have h2 : x ∈ nb rs v := (sortN_perm _).mem_iff.mpr hy
      rw [mem_nb h'] at h2
      obtain ⟨a, b⟩ := e
      unfold nbOf at hx1
      split at hx1
      · rename_i c; simp at c hx1; subst c; subst hx1
        rcases h2 with h2 | h2
        · exact hx h2
        · have := h' _ h2; simp at this he; omega
      · split at hx1
        · rename_i c; simp at c hx1; subst c; subst hx1
          rcases h2 with h2 | h2
          · have := h' _ h2; simp at this he; omega
          · exact hx h2
        · cases hx1
theorem Forest.nb_nodup {n : Nat} {rs : List (Nat × Nat)} (hf : Forest n rs) (v : Nat) : (nb rs v).Nodup := (sortN_perm _).nodup_iff.mpr (nbRaw_nodup (fun e he => (hf.lt e he).2.2) hf.nd v)
theorem nodup_fst_eq {ps : PL} (h : (ps.map (·.1)).Nodup) {v : Nat} {a b : Option Nat} (h1 : (v, a) ∈ ps) (h2 : (v, b) ∈ ps) : a = b := by
  induction ps with
  | nil => cases h1
  | cons p ps ih =>
    obtain ⟨hx, hn⟩ := List.nodup_cons.mp h
    rcases List.mem_cons.mp h1 with e1 | h1
    · rcases List.mem_cons.mp h2 with e2 | h2
      · rw [← e1] at e2; cases e2; rfl
      · rw [← e1] at hx; exact absurd (List.mem_map_of_mem (f := (·.1)) h2) hx
    · rcases List.mem_cons.mp h2 with e2 | h2
      · rw [← e2] at hx; exact absurd (List.mem_map_of_mem (f := (·.1)) h1) hx
      · exact ih hn h1 h2
theorem BInv.step {n r : Nat} {rs : List (Nat × Nat)} (hf : Forest n rs) (hr : r < n) {at_ : Nat} {ps : PL} (b : BInv rs r at_ ps) {h : Nat} {a : Option Nat} (hat : ps[at_]? = some (h, a)) :
    BInv rs r (at_ + 1) (ps ++ (kids rs h a).map fun o => (o, some h)) := by
  obtain ⟨rs', hh, hs⟩ := hf.of
  have hlt : at_ < ps.length := (List.getElem?_eq_some_iff.mp hat).1
  have hge : ps[at_] = (h, a) := (List.getElem?_eq_some_iff.mp hat).2
  have hmem : (h, a) ∈ ps := hge ▸ List.getElem_mem hlt
  have hh1 : h ∈ ps.map (·.1) := List.mem_map_of_mem (f := (·.1)) hmem
  have hnd := b.g.nodup
  have hnt : h ∉ (ps.take at_).map (·.1) := by
    intro hm
    have e := List.take_append_drop at_ ps
    rw [← e, List.map_append, List.nodup_append] at hnd
    refine hnd.2.2 h hm h ?_ rfl
    rw [List.drop_eq_getElem_cons hlt, List.map_cons, hge]
    exact List.mem_cons_self ..
  have hfresh : ∀ o ∈ kids rs h a, o ∉ ps.map (·.1) := by
    intro o ho hop
    obtain ⟨ho1, ho2⟩ := List.mem_filter.mp ho
    have ho2 := of_decide_eq_true ho2
    have ha : Adj rs h o := hf.mem_nb.mp ho1
    have ha' : Adj rs' h o := ha.elim (fun q => .inl (hs _ q)) (fun q => .inr (hs _ q))
    have hsame := b.g.same hh hs (hh.adj_rod ha') (fun v u hv e => ?_)
    · have h1 := hsame h hh1
      have h2 := hsame o hop
      exact hh.side_adj_ne ha' (h1.trans h2.symm)
    · rcases Hedge.rod_inj e with ⟨e1, e2⟩ | ⟨e1, e2⟩
      · subst e1; subst e2
        exact hnt (b.e _ _ hv)
      · subst e1; subst e2
        exact ho2 (nodup_fst_eq hnd hv hmem)
  have hkn : (kids rs h a).Nodup := (hf.nb_nodup h).filter _
  have hka : ∀ o ∈ kids rs h a, Adj rs h o := fun o ho => hf.mem_nb.mp (List.mem_filter.mp ho).1
  have hg : ∀ (ks : List Nat) (qs : PL), Grow rs r qs → h ∈ qs.map (·.1) → ks.Nodup → (∀ o ∈ ks, o ∉ qs.map (·.1)) → (∀ o ∈ ks, Adj rs h o) → Grow rs r (qs ++ ks.map fun o => (o, some h)) := by
    intro ks
    induction ks with
    | nil => intro qs hq _ _ _ _; simpa using hq
    | cons o ks ih =>
      intro qs hq hm h1 h2 h3
      obtain ⟨h4, h5⟩ := List.nodup_cons.mp h1
      have hq2 := Grow.add o h hq hm (h3 o (List.mem_cons_self ..)) (h2 o (List.mem_cons_self ..))
      have := ih (qs ++ [(o, some h)]) hq2 (by rw [List.map_append]; exact List.mem_append_left _ hm) h5 (fun o' ho' => by
        rw [List.map_append, List.mem_append]
        rintro (q | q)
        · exact h2 o' (List.mem_cons_of_mem _ ho') q
        · simp at q; subst q; exact h4 ho') fun o' ho' => h3 o' (List.mem_cons_of_mem _ ho')
      rw [List.append_assoc] at this
      exact this
  have htk : (ps ++ (kids rs h a).map fun o => (o, some h)).take (at_ + 1) = ps.take at_ ++ [(h, a)] := by
    rw [List.take_append_of_le_length (by omega), List.take_succ, hat]; rfl
  refine ⟨hg _ _ b.g hh1 hkn hfresh hka, by rw [List.length_append]; omega, ?_, ?_⟩
  · intro h' a' hm o ho hne
    rw [htk, List.mem_append] at hm
    rcases hm with hm | hm
    · exact List.mem_append_left _ (b.c h' a' hm o ho hne)
    · simp at hm
      obtain ⟨rfl, rfl⟩ := hm
      exact List.mem_append_right _ (List.mem_map.mpr ⟨o, List.mem_filter.mpr ⟨ho, decide_eq_true hne⟩, rfl⟩)
  · intro v u hm
    rw [htk, List.map_append, List.mem_append]
    rw [List.mem_append] at hm
    rcases hm with hm | hm
    · exact .inl (b.e v u hm)
    · obtain ⟨o, ho, e⟩ := List.mem_map.mp hm
      cases e
      exact .inr (by simp)
theorem BInv.done {n r : Nat} {rs : List (Nat × Nat)} (hf : Forest n rs) {ps : PL} (b : BInv rs r ps.length ps) : Come n rs r ps := by
  refine ⟨b.g, fun u hu v a => ?_⟩
  obtain ⟨⟨u', p⟩, hp, e⟩ := List.mem_map.mp hu
  simp at e
  subst e
  by_cases c : some v = p
  · subst c
    exact (b.g.up_mem _ _ hp).1
  · have := b.c u' p (by rw [List.take_length]; exact hp) v (hf.mem_nb.mpr a) c
    exact List.mem_map_of_mem (f := (·.1)) this
theorem Come.perm {n r : Nat} {rs : List (Nat × Nat)} {ps : PL} (h : Hedge n rs) (hr : r < n) (c : Come n rs r ps) : (ps.map (·.1)).Perm (List.range n) := by
  refine nodup_perm c.grow.nodup fun x => ⟨c.grow.lt h.forest hr x, fun hx => ?_⟩
  exact h.conn (fun z => z ∈ ps.map (·.1)) (fun u v a hu => c.all u hu v a) hr hx c.grow.root_mem
/-! ### along the order -/
theorem Grow.last {r : Nat} {rs : List (Nat × Nat)} {pre : PL} {v : Nat} {a : Option Nat} (g : Grow rs r (pre ++ [(v, a)])) : (pre = [] ∧ v = r ∧ a = none) ∨ ∃ u, a = some u ∧ Grow rs r pre ∧ u ∈ pre.map (·.1) ∧ Adj rs u v ∧ v ∉ pre.map (·.1) := by
  generalize e : pre ++ [(v, a)] = qs at g
  cases g with
  | root =>
    have h1 := List.append_inj' (s₁ := pre) (s₂ := []) (t₁ := [(v, a)]) (t₂ := [(r, none)]) e rfl
    obtain ⟨h1, h2⟩ := h1
    simp at h2
    exact .inl ⟨h1, h2.1, h2.2⟩
  | add v' u' g hu ha hv =>
    obtain ⟨h1, h2⟩ := List.append_inj' e rfl
    simp at h2
    obtain ⟨rfl, rfl⟩ := h2
    subst h1
    exact .inr ⟨u', rfl, g, hu, ha, hv⟩
theorem Grow.pre {r : Nat} {rs : List (Nat × Nat)} {ps : PL} (g : Grow rs r ps) : ∀ pre post, ps = pre ++ post → pre ≠ [] → Grow rs r pre := by
  induction g with
  | root =>
    intro pre post e hne
    cases pre with
    | nil => exact absurd rfl hne
    | cons x pre =>
      simp at e
      obtain ⟨rfl, rfl, _⟩ := e
      exact Grow.root
  | @add ps v u g hu ha hv ih =>
    intro pre post e hne
    rcases List.eq_nil_or_concat post with rfl | ⟨post', y, rfl⟩
    · rw [List.append_nil] at e
      rw [← e]
      exact Grow.add v u g hu ha hv
    · rw [List.concat_eq_append, ← List.append_assoc] at e
      obtain ⟨h1, h2⟩ := List.append_inj' e rfl
      exact ih pre post' h1 hne
/-- each place of the order: the first, or one whose knot ahead stands before -/
theorem Grow.at {r : Nat} {rs : List (Nat × Nat)} {ps pre post : PL} {v : Nat} {a : Option Nat} (g : Grow rs r ps) (e : ps = pre ++ (v, a) :: post) : (pre = [] ∧ v = r ∧ a = none) ∨ ∃ u, a = some u ∧ Grow rs r pre ∧ u ∈ pre.map (·.1) ∧ Adj rs u v ∧ v ∉ pre.map (·.1) :=
  (g.pre (pre ++ [(v, a)]) post (by rw [e]; simp) (by simp)).last
theorem Grow.dist {n r : Nat} {rs : List (Nat × Nat)} {ps : PL} {v u : Nat} (h : Hedge n rs) (g : Grow rs r ps) (hu : u ∈ ps.map (·.1)) (ha : Adj rs u v) (hv : v ∉ ps.map (·.1)) : dist rs r v = dist rs r u + 1 := by
  have hs := g.same h (fun _ h => h) (h.adj_rod ha) (fun v' u' hm e => ?_) u hu
  · exact (h.dist_adj ha r).1 hs.symm
  · rcases Hedge.rod_inj e with ⟨e1, e2⟩ | ⟨e1, e2⟩
    · exact hv (e2 ▸ List.mem_map_of_mem (f := (·.1)) hm)
    · exact hv (e1 ▸ (g.up_mem _ _ hm).1)
end Hg
end

section
set_option autoImplicit false
set_option maxHeartbeats 1000000
/-! Pnum: values that are numbers. -/
namespace Hg
@[simp] theorem plainD_nD (n k : Nat) : plainD n (nD k) = true := plain_nD n k
@[simp] theorem plainD_oD (n : Nat) (a : Option Nat) : plainD n (oD a) = true := by cases a <;> simp [oD]
@[simp] theorem eqD_nn (x y : Nat) : eqD (nD x) (nD y) = decide (x = y) := eqD_nD x y
@[simp] theorem eqD_no (x : Nat) (a : Option Nat) : eqD (nD x) (oD a) = decide (some x = a) := by
  cases a with
  | none => simp [oD, nD, eqD]
  | some y => simp [oD]
@[simp] theorem vm_nD (x : Nat) (k : Kd) : vm (some (nD x, k)) = some (nD x) := vm_int _ k
@[simp] theorem em_nD (x : Nat) (k : Kd) : em (some (nD x, k)) = some (nD x) := em_int _ k
@[simp] theorem asInt_nD (x : Nat) : asInt (nD x) = some (x : Int) := rfl
theorem vm_oD (a : Option Nat) (k : Kd) : vm (some (oD a, k)) = some (oD a) := by cases a <;> simp [oD]
@[simp] theorem isNon_nD (x : Nat) : (nD x).isNon = false := rfl
@[simp] theorem isNon_oD (a : Option Nat) : (oD a).isNon = a.isNone := by cases a <;> rfl
@[simp] theorem ixV_nsN (r : List Nat) (k : Kd) (i : Nat) : ixV (nsD r, k) (nD i) = (r[i]?).map fun d => (nD d, subK k) := ixV_ns r k i
@[simp] theorem ixV_rowsN (r : List (List Nat)) (k : Kd) (i : Nat) : ixV (rowsD r, k) (nD i) = (r[i]?).map fun d => (nsD d, subK k) := ixV_rows r k i
@[simp] theorem addD_nn (a b : Nat) : addD (nD a) (nD b) = some (nD (a + b)) := by show some (D.int _) = some (D.int _); congr 2
@[simp] theorem addD_n1 (a : Nat) : addD (nD a) (.int 1) = some (nD (a + 1)) := addD_nn a 1
@[simp] theorem nw_nD (a : Nat) : nw (some (nD a)) = some (nD a, .frz) := rfl
@[simp] theorem ixV_mapN {α : Type} (xs : List α) (F : α → D) (k : Kd) (i : Nat) : ixV (.lst (xs.map F), k) (nD i) = (xs[i]?).map fun x => (F x, subK k) := by
  simp [nD, Function.comp_def]
theorem nD_def (k : Nat) : D.int (k : Int) = nD k := rfl
end Hg
end

section
set_option autoImplicit false
set_option maxHeartbeats 1000000
/-! Ppar: what parents tells. -/
namespace Hg
theorem sp_parents {n r : Nat} {rs : List (Nat × Nat)} (hf : Forest n rs) (hn : n ≤ 1000) (hl : rs.length ≤ 1000) (hr : r < n) : ∃ ps, s_parents [hD n rs, nD r] = some (psD ps) ∧ Come n rs r ps := by
  have key : ∃ d, s_parents [hD n rs, nD r] = some d ∧ ∃ ps, d = psD ps ∧ Come n rs r ps := by
    refine runF_R rfl ?_
    have h1 := sp_neighbours hf.lt hn hl
    simp only [d_parents, startEnv]
    simp [h1]
    refine wh_R (R := fun o => ∃ d, o = some (.rt d) ∧ ∃ ps, d = psD ps ∧ Come n rs r ps)
      (fun b : Nat × PL => [.val (hD n rs) .frz, .val (nD r) .frz, .val (rowsD ((List.range n).map (nb rs))) .frz, .val (.lst (b.2.map parD)) .own1, .val (nD b.1) .frz, .un, .un, .un])
      (fun b => BInv rs r b.1 b.2) (fun b => b.1 = b.2.length) (fun b => n - b.1) (0, [(r, none)]) rfl ⟨Grow.root, Nat.zero_le _, by simp, by simp⟩ (by show n - 0 < FU; rw [FU_eq]; omega) ?_ ?_
    · rintro ⟨at_, ps⟩ b
      simp only at b
      have hps : ps.length ≤ n := by
        have := nodup_len b.g.nodup (b.g.lt hf hr)
        simpa using this
      by_cases c : at_ < ps.length
      · refine .inl ⟨?_, ?_⟩
        · have c2 : (at_ : Int) < (ps.length : Int) := by omega
          simp [nD, c2, c]
        · cases hp : ps[at_] with | mk h a =>
          have hat : ps[at_]? = some (h, a) := by rw [List.getElem?_eq_getElem c, hp]
          have hlt : h < n := b.g.lt hf hr h (List.mem_map_of_mem (f := (·.1)) (hp ▸ List.getElem_mem c))
          refine ⟨(at_ + 1, ps ++ (kids rs h a).map fun o => (o, some h)), ?_, b.step hf hr hat, by show n - (at_ + 1) < n - at_; omega⟩
          have e1 : ixV (.lst (ps.map parD), .own1) (nD at_) = some (parD (h, a), .frz) := by
            simp [nD, hat]
          have hk : (kids rs h a).length ≤ rs.length := Nat.le_trans (List.length_filter_le _ _) (nb_len rs h)
          simp [e1, parD]
          rw [ev_comp (nb rs h) nD (fun o => decide (some o ≠ a)) (fun o => parD (o, some h)) (own := false)]
          · have hlen : ps.length + (kids rs h a).length < L := by rw [L_eq]; omega
            have hlen2 : (List.map parD ps).length + (List.map (fun o => parD (o, some h)) (kids rs h a)).length < L := by simpa using hlen
            show andThen ((some (D.lst (List.map (fun o => parD (o, some h)) (kids rs h a)), Kd.new1)).bind _) _ = _
            simp [hlen]
          · simp [hlt]
          · intro o ho
            refine ⟨_, rfl, ?_, fun _ => ⟨.frz, ?_, rfl⟩⟩
            · simp [PD8]
            · simp [parD, oD]
          · have := nb_len rs h; rw [L_eq]; omega
      · refine .inr ⟨?_, ?_⟩
        · have c2 : ¬ (at_ : Int) < (ps.length : Int) := by omega
          simp [nD, c2, c]
        · have := b.a
          show at_ = ps.length
          omega
    · rintro ⟨at_, ps⟩ b hd
      simp at hd
      subst hd
      refine ⟨_, ?_, ps, rfl, b.done hf⟩
      simp [freeze1, psD]
  obtain ⟨d, h1, ps, h2, h3⟩ := key
  exact ⟨ps, h2 ▸ h1, h3⟩
end Hg
end

section
set_option autoImplicit false
set_option maxHeartbeats 1000000
/-! Penum: things with their places; rods in order. -/
namespace Hg
theorem enumF_eq (xs : List D) : ∀ n, enumFrom n xs = (xs.zipIdx n).map fun p => .tup [nD p.2, p.1] := by
  induction xs with
  | nil => intro n; rfl
  | cons x xs ih => intro n; simp only [enumFrom, List.zipIdx_cons, List.map_cons, ih]; rfl
theorem enum_map {α : Type} (f : α → D) (xs : List α) : enumFrom 0 (xs.map f) = xs.zipIdx.map fun p => .tup [nD p.2, f p.1] := by
  rw [enumF_eq, List.zipIdx_map, List.map_map]
  rfl
theorem zipIdx_split {α : Type} {xs : List α} {x : α} {k : Nat} {pre post : List (α × Nat)} (e : xs.zipIdx = pre ++ (x, k) :: post) : k = pre.length ∧ xs[k]? = some x ∧ pre.map (·.1) = xs.take k := by
  have h1 : xs.zipIdx[pre.length]? = some (x, k) := by rw [e]; simp
  rw [List.getElem?_zipIdx] at h1
  simp at h1
  obtain ⟨y, h1, h0, h2⟩ := h1
  subst h0
  refine ⟨h2.symm, by rw [← h2]; exact h1, ?_⟩
  have h3 := congrArg (fun l => (l.take pre.length).map (·.1)) e
  simp at h3
  rw [← h3, ← h2]
instance (p q : Nat × Nat) : Decidable (ltN p q) := by unfold ltN; infer_instance
theorem ltD_rod (p q : Nat × Nat) : ltD (rodD p) (rodD q) = some (decide (ltN p q)) := by
  obtain ⟨a, b⟩ := p
  obtain ⟨c, d⟩ := q
  show some (lexI [(a : Int), (b : Int)] [(c : Int), (d : Int)]) = _
  unfold lexI lexI lexI ltN
  by_cases h1 : a = c
  · subst h1
    by_cases h2 : b = d
    · subst h2; simp
    · simp [h2]
  · simp [h1]
end Hg
end

section
set_option autoImplicit false
set_option maxHeartbeats 1000000
/-! Pmx: greatest and least. -/
namespace Hg
def mx (xs : List Nat) : Nat := xs.foldl max 0
def mn : List Nat → Nat | [] => 0 | x :: xs => xs.foldl min x
theorem foldl_max_int : ∀ (xs : List Nat) (a : Nat), (xs.map fun k : Nat => (k : Int)).foldl max (a : Int) = ((xs.foldl max a : Nat) : Int)
  | [], _ => rfl
  | x :: xs, a => by
    rw [List.map_cons, List.foldl_cons, List.foldl_cons, ← foldl_max_int xs (max a x)]
    congr 1
    omega
theorem foldl_min_int : ∀ (xs : List Nat) (a : Nat), (xs.map fun k : Nat => (k : Int)).foldl min (a : Int) = ((xs.foldl min a : Nat) : Int)
  | [], _ => rfl
  | x :: xs, a => by
    rw [List.map_cons, List.foldl_cons, List.foldl_cons, ← foldl_min_int xs (min a x)]
    congr 1
    omega
theorem intsD_nD (xs : List Nat) : intsD (xs.map nD) = some (xs.map fun k : Nat => (k : Int)) := by
  have := intsD_map (xs.map fun k : Nat => (k : Int))
  rwa [List.map_map] at this
theorem maxV_N {xs : List Nat} (h : xs ≠ []) : maxV (nsD xs) = some (nD (mx xs), .frz) := by
  cases xs with
  | nil => exact absurd rfl h
  | cons x xs =>
    have e : mx (x :: xs) = xs.foldl max x := by unfold mx; rw [List.foldl_cons, Nat.zero_max]
    show frI ((intsD ((x :: xs).map nD)).bind maxL) = _
    rw [intsD_nD, e]
    show some (D.int (List.foldl max (x : Int) (xs.map _)), Kd.frz) = _
    rw [foldl_max_int]
    rfl
theorem minV_N {xs : List Nat} (h : xs ≠ []) : minV (nsD xs) = some (nD (mn xs), .frz) := by
  cases xs with
  | nil => exact absurd rfl h
  | cons x xs =>
    show frI ((intsD ((x :: xs).map nD)).bind minL) = _
    rw [intsD_nD]
    show some (D.int (List.foldl min (x : Int) (xs.map _)), Kd.frz) = _
    rw [foldl_min_int]
    rfl
@[simp] theorem ltA_nn (a b : Nat) : ltA (nD a) (nD b) = some (decide (a < b)) := by
  exact congrArg some (decide_eq_decide.mpr (by omega))
@[simp] theorem ltA_n0 (a : Nat) : ltA (nD a) (.int 0) = some false := by
  exact congrArg some (decide_eq_false (by omega))
@[simp] theorem ltA_0n (a : Nat) : ltA (.int 0) (nD a) = some (decide (0 < a)) := ltA_nn 0 a
@[simp] theorem ltA_n1 (a : Nat) : ltA (nD a) (.int 1) = some (decide (a < 1)) := ltA_nn a 1
@[simp] theorem ltA_n2 (a : Nat) : ltA (nD a) (.int 2) = some (decide (a < 2)) := ltA_nn a 2
@[simp] theorem ltA_n3 (a : Nat) : ltA (nD a) (.int 3) = some (decide (a < 3)) := ltA_nn a 3
@[simp] theorem ltA_1n (a : Nat) : ltA (.int 1) (nD a) = some (decide (1 < a)) := ltA_nn 1 a
@[simp] theorem ltA_2n (a : Nat) : ltA (.int 2) (nD a) = some (decide (2 < a)) := ltA_nn 2 a
@[simp] theorem isTy_nD (a : Nat) : isTy (nD a) .int = true := rfl
@[simp] theorem isTy_nDb (a : Nat) : isTy (nD a) .bool = false := rfl
theorem range_ne {n : Nat} {β : Type} (h : 0 < n) (F : Nat → β) : (List.range n).map F ≠ [] := by
  cases n with
  | zero => omega
  | succ n => rw [List.range_succ_eq_map]; simp
theorem range_filter_rise (n : Nat) (p : Nat → Bool) : ((List.range n).filter p).Pairwise (fun a b => a < b) := List.pairwise_lt_range.filter _
end Hg
end

section
set_option autoImplicit false
set_option maxHeartbeats 1000000
/-! Pmem: membership in lists of numbers, of rods. -/
namespace Hg
theorem memD_map {α : Type} [DecidableEq α] (f : α → D) (h1 : ∀ x, plainD PD (f x) = true) (h2 : ∀ x, plainD 7 (f x) = true) (he : ∀ x y, eqD (f x) (f y) = decide (x = y)) (x : α) (T : List α) : memD (f x) (.lst (T.map f)) = some (decide (x ∈ T)) := by
  have h : plainD PD (f x) = true ∧ plainD PD (D.lst (T.map f)) = true := ⟨h1 x, by
    rw [PD_eq, plainD_lst, List.all_map]
    exact List.all_eq_true.mpr fun y _ => h2 y⟩
  show (if _ then some ((T.map f).any fun y => eqD y (f x)) else none) = _
  rw [if_pos h, List.any_map]
  congr 1
  rw [Bool.eq_iff_iff, List.any_eq_true, decide_eq_true_eq]
  constructor
  · rintro ⟨y, hy, h3⟩
    simp [he] at h3
    exact h3 ▸ hy
  · intro hx
    exact ⟨x, hx, by simp [he]⟩
theorem memD_ns (x : Nat) (T : List Nat) : memD (nD x) (nsD T) = some (decide (x ∈ T)) := memD_map nD (plain_nD _) (plain_nD _) eqD_nD x T
theorem memD_nl (x : Nat) (T : List Nat) : memD (nD x) (.lst (T.map nD)) = some (decide (x ∈ T)) := memD_ns x T
theorem memD_rods (x : Nat × Nat) (T : List (Nat × Nat)) : memD (rodD x) (.lst (T.map rodD)) = some (decide (x ∈ T)) := by
  rw [memD_map rodD (plain_rodD _) (plain_rodD _) eqD_rodD x T]
  exact congrArg some (decide_eq_decide.mpr Iff.rfl)
theorem sortN_strict {xs : List Nat} (h : xs.Nodup) : (sortN xs).Pairwise fun a b => a < b := by
  have h1 := sortN_pw xs
  have h2 : (sortN xs).Nodup := (sortN_perm xs).nodup_iff.mpr h
  refine (h1.and h2).imp ?_
  intro a b hab
  obtain ⟨h3, h4⟩ := hab
  exact Nat.lt_of_le_of_ne h3 h4
theorem pw_sym {α : Type} {R : α → α → Prop} (hs : ∀ x y, R x y → R y x) : ∀ {xs : List α}, xs.Pairwise R → ∀ x ∈ xs, ∀ y ∈ xs, x ≠ y → R x y
  | [], _, x, hx, _, _, _ => by cases hx
  | z :: zs, h, x, hx, y, hy, hne => by
    obtain ⟨h1, h2⟩ := List.pairwise_cons.mp h
    rcases List.mem_cons.mp hx with e1 | e1
    · rcases List.mem_cons.mp hy with e2 | e2
      · exact absurd (e1.trans e2.symm) hne
      · exact e1 ▸ h1 y e2
    · rcases List.mem_cons.mp hy with e2 | e2
      · exact hs _ _ (e2 ▸ h1 x e1)
      · exact pw_sym hs h2 x e1 y e2 hne
theorem not_dec_lt (a b : Nat) : (!decide (a < b)) = decide (b ≤ a) := by
  by_cases h : a < b
  · simp [h]
  · simp [h]; omega
theorem cast_min (v a : Nat) : min (v : Int) (a : Int) = ((min v a : Nat) : Int) := by omega
theorem cast_max (v a : Nat) : max (v : Int) (a : Int) = ((max v a : Nat) : Int) := by omega
theorem rodD_rod (v a : Nat) : D.tup [.int (min (v : Int) a), .int (max (v : Int) a)] = rodD (rodOf v a) := by
  rw [cast_min, cast_max]; rfl
end Hg
end

section
set_option autoImplicit false
set_option maxHeartbeats 1000000
/-! Pdk: dicts that are sets of knots. -/
namespace Hg
def dkL (ks : List Nat) : List (Ky × D) := ks.map fun x : Nat => (.inl ((x : Nat) : Int), .bl true)
def dkD (ks : List Nat) : D := .dic (dkL ks)
def addK1 (ks : List Nat) (x : Nat) : List Nat := if x ∈ ks then ks else ks ++ [x]
theorem mem_addK1 {ks : List Nat} {x y : Nat} : y ∈ addK1 ks x ↔ y ∈ ks ∨ y = x := by
  unfold addK1
  split
  · rename_i h
    exact ⟨.inl, fun q => q.elim id fun e => e ▸ h⟩
  · simp
theorem nodup_addK1 {ks : List Nat} {x : Nat} (h : ks.Nodup) : (addK1 ks x).Nodup := by
  unfold addK1
  split
  · exact h
  · rename_i hx
    rw [List.nodup_append]
    refine ⟨h, by simp, ?_⟩
    intro a ha b hb e
    simp at hb
    subst hb
    subst e
    exact hx ha
theorem put_dk (ks : List Nat) (x : Nat) : put (dkL ks) (.inl (x : Int)) (.bl true) = dkL (addK1 ks x) := by
  have hany : ((dkL ks).any fun kv => decide (kv.1 = (.inl (x : Int) : Ky))) = decide (x ∈ ks) := by
    unfold dkL
    rw [List.any_map, Bool.eq_iff_iff, List.any_eq_true, decide_eq_true_eq]
    constructor
    · rintro ⟨y, hy, he⟩
      simp at he
      exact he ▸ hy
    · intro hx
      exact ⟨x, hx, by simp⟩
  unfold put addK1
  rw [hany]
  by_cases h : x ∈ ks
  · simp only [h, decide_true, if_true]
    unfold dkL
    rw [List.map_map]
    apply List.map_congr_left
    intro y _
    simp
    try (intro e; omega)
  · simp only [h, decide_false, if_false, Bool.false_eq_true]
    unfold dkL
    rw [List.map_append]; rfl
theorem look_dk (ks : List Nat) (x : Nat) : (look (dkL ks) (.inl (x : Int))).isSome = decide (x ∈ ks) := by
  unfold look dkL
  rw [Bool.eq_iff_iff, decide_eq_true_eq, Option.isSome_map, List.find?_isSome]
  constructor
  · rintro ⟨kv, h1, h2⟩
    obtain ⟨y, hy, rfl⟩ := List.mem_map.mp h1
    simp at h2
    exact h2 ▸ hy
  · intro h
    exact ⟨_, List.mem_map.mpr ⟨x, h, rfl⟩, by simp⟩
theorem memD_dk (ks : List Nat) (x : Nat) : memD (nD x) (dkD ks) = some (decide (x ∈ ks)) := by
  show (keyD (nD x)).map (fun k => (look (dkL ks) k).isSome) = _
  show some (look (dkL ks) (.inl (x : Int))).isSome = _
  rw [look_dk]
theorem dk_len (ks : List Nat) : (dkL ks).length = ks.length := by simp [dkL]
theorem memD_dkL (ks : List Nat) (x : Nat) : memD (nD x) (.dic (dkL ks)) = some (decide (x ∈ ks)) := memD_dk ks x
end Hg
end

section
set_option autoImplicit false
set_option maxHeartbeats 1000000
/-! Cn: what hangs together by some rods. Plain mathematics. -/
namespace Hg
def Cn (rs : List (Nat × Nat)) (x y : Nat) : Prop := ∀ P : Nat → Prop, (∀ e ∈ rs, (P e.1 ↔ P e.2)) → (P x ↔ P y)
namespace Cn
variable {rs rs' : List (Nat × Nat)} {x y z : Nat}
theorem refl (rs : List (Nat × Nat)) (x : Nat) : Cn rs x x := fun _ _ => Iff.rfl
theorem symm (h : Cn rs x y) : Cn rs y x := fun P hP => (h P hP).symm
theorem trans (h : Cn rs x y) (h' : Cn rs y z) : Cn rs x z := fun P hP => (h P hP).trans (h' P hP)
theorem mono (hs : ∀ e ∈ rs, e ∈ rs') (h : Cn rs x y) : Cn rs' x y := fun P hP => h P fun e he => hP e (hs e he)
theorem rod {e : Nat × Nat} (he : e ∈ rs) : Cn rs e.1 e.2 := fun P hP => hP e he
theorem adj (h : Adj rs x y) : Cn rs x y := by
  rcases h with h | h
  · exact rod h
  · exact (rod h).symm
end Cn
theorem come_cn {n r : Nat} {rs : List (Nat × Nat)} {ps : PL} (cm : Come n rs r ps) {x : Nat} : x ∈ ps.map (·.1) ↔ Cn rs x r := by
  constructor
  · have key : ∀ {ps : PL}, Grow rs r ps → ∀ x ∈ ps.map (·.1), Cn rs x r := by
      intro ps g
      induction g with
      | root => intro x hx; simp at hx; subst hx; exact Cn.refl _ _
      | @add ps v u g hu a hv ih =>
        intro x hx
        rw [List.map_append, List.mem_append] at hx
        rcases hx with hx | hx
        · exact ih x hx
        · simp at hx
          subst hx
          exact (Cn.adj a).symm.trans (ih u hu)
    exact key cm.grow x
  · intro h
    refine (h (fun y => y ∈ ps.map (·.1)) fun e he => ?_).mpr cm.grow.root_mem
    exact ⟨fun q => cm.all _ q _ (.inl he), fun q => cm.all _ q _ (.inr he)⟩
structure HInv (rs : List (Nat × Nat)) (home : Nat → Nat) : Prop where
  a : ∀ e ∈ rs, home e.1 = home e.2
  b : ∀ x y, home x = home y → Cn rs x y
theorem HInv.nil : HInv [] id := ⟨by simp, fun x y h => by cases h; exact Cn.refl _ _⟩
def homeS (home : Nat → Nat) (e : Nat × Nat) : Nat → Nat := fun x => if home x = home e.2 then home e.1 else home x
theorem HInv.add {rs : List (Nat × Nat)} {home : Nat → Nat} (h : HInv rs home) (e : Nat × Nat) : HInv (rs ++ [e]) (homeS home e) := by
  have hm : ∀ {x y}, home x = home y → Cn (rs ++ [e]) x y := fun q => (h.b _ _ q).mono fun e he => List.mem_append_left _ he
  have hr : Cn (rs ++ [e]) e.1 e.2 := Cn.rod (by simp)
  constructor
  · intro e' he'
    rcases List.mem_append.mp he' with q | q
    · simp only [homeS, h.a e' q]
    · simp at q
      subst q
      simp only [homeS]
      by_cases c : home e'.1 = home e'.2 <;> simp [c]
  · intro x y q
    simp only [homeS] at q
    by_cases c1 : home x = home e.2 <;> by_cases c2 : home y = home e.2
    · exact (hm c1).trans (hm c2).symm
    · rw [if_pos c1, if_neg c2] at q
      exact (hm c1).trans (hr.symm.trans (hm q))
    · rw [if_neg c1, if_pos c2] at q
      exact (hm q).trans (hr.trans (hm c2).symm)
    · rw [if_neg c1, if_neg c2] at q
      exact hm q
theorem HInv.iff {rs : List (Nat × Nat)} {home : Nat → Nat} (h : HInv rs home) {x y : Nat} : home x = home y ↔ Cn rs x y :=
  ⟨h.b x y, fun q => ((q (fun z => home z = home x) fun e he => by rw [h.a e he]).mp rfl).symm⟩
noncomputable def cnb (rs : List (Nat × Nat)) (x y : Nat) : Bool := @decide (Cn rs x y) (Classical.propDecidable _)
theorem cnb_iff {rs : List (Nat × Nat)} {x y : Nat} : cnb rs x y = true ↔ Cn rs x y := by unfold cnb; exact @decide_eq_true_iff _ (Classical.propDecidable _)
/-- the row of a knot: all that hang together with it -/
noncomputable def cnRow (rs : List (Nat × Nat)) (n k : Nat) : List Nat := (List.range n).filter fun x => cnb rs x k
theorem mem_cnRow {rs : List (Nat × Nat)} {n k x : Nat} : x ∈ cnRow rs n k ↔ x < n ∧ Cn rs x k := by
  unfold cnRow; rw [List.mem_filter, List.mem_range, cnb_iff]
theorem HInv.row {rs : List (Nat × Nat)} {home : Nat → Nat} (h : HInv rs home) (n k : Nat) : (List.range n).filter (fun x => decide (home x = home k)) = cnRow rs n k := by
  unfold cnRow
  apply List.filter_congr
  intro x _
  rw [Bool.eq_iff_iff, decide_eq_true_eq, cnb_iff]
  exact h.iff
theorem cnRow_eq {rs : List (Nat × Nat)} {n j k : Nat} (h : Cn rs j k) : cnRow rs n j = cnRow rs n k := by
  unfold cnRow
  apply List.filter_congr
  intro x _
  rw [Bool.eq_iff_iff, cnb_iff, cnb_iff]
  exact ⟨fun q => q.trans h, fun q => q.trans h.symm⟩
noncomputable def rowStep (rs : List (Nat × Nat)) (n : Nat) (acc : List (List Nat)) (k : Nat) : List (List Nat) := if cnRow rs n k ∈ acc then acc else acc ++ [cnRow rs n k]
noncomputable def cnRows (rs : List (Nat × Nat)) (n : Nat) : List (List Nat) := (List.range n).foldl (rowStep rs n) []
theorem cnRows_sub {rs : List (Nat × Nat)} {n : Nat} : ∀ (ks : List Nat), (∀ k ∈ ks, k < n) → (∀ r, r ∈ ks.foldl (rowStep rs n) [] ↔ ∃ k ∈ ks, r = cnRow rs n k) := by
  intro ks
  have key : ∀ (ks : List Nat) (acc : List (List Nat)) (r : List Nat), r ∈ ks.foldl (rowStep rs n) acc ↔ r ∈ acc ∨ ∃ k ∈ ks, r = cnRow rs n k := by
    intro ks
    induction ks with
    | nil => intro acc r; simp
    | cons k ks ih =>
      intro acc r
      rw [List.foldl_cons, ih]
      have : r ∈ rowStep rs n acc k ↔ r ∈ acc ∨ r = cnRow rs n k := by
        unfold rowStep
        by_cases c : cnRow rs n k ∈ acc
        · rw [if_pos c]
          exact ⟨.inl, fun q => q.elim id fun q => q ▸ c⟩
        · rw [if_neg c, List.mem_append, List.mem_singleton]
      rw [this]
      constructor
      · rintro ((h | h) | ⟨k', hk, h⟩)
        · exact .inl h
        · exact .inr ⟨k, List.mem_cons_self .., h⟩
        · exact .inr ⟨k', List.mem_cons_of_mem _ hk, h⟩
      · rintro (h | ⟨k', hk, h⟩)
        · exact .inl (.inl h)
        · rcases List.mem_cons.mp hk with rfl | hk
          · exact .inl (.inr h)
          · exact .inr ⟨k', hk, h⟩
  intro _ r
  rw [key ks [] r]
  simp
theorem mem_cnRows {rs : List (Nat × Nat)} {n : Nat} {r : List Nat} : r ∈ cnRows rs n ↔ ∃ k, k < n ∧ r = cnRow rs n k := by
  unfold cnRows
  rw [cnRows_sub (List.range n) fun k hk => List.mem_range.mp hk]
  constructor
  · rintro ⟨k, hk, h⟩; exact ⟨k, List.mem_range.mp hk, h⟩
  · rintro ⟨k, hk, h⟩; exact ⟨k, List.mem_range.mpr hk, h⟩
theorem cnRows_len (rs : List (Nat × Nat)) (n : Nat) : ∀ ks : List Nat, (ks.foldl (rowStep rs n) []).length ≤ ks.length := by
  intro ks
  have key : ∀ (ks : List Nat) (acc : List (List Nat)), (ks.foldl (rowStep rs n) acc).length ≤ acc.length + ks.length := by
    intro ks
    induction ks with
    | nil => intro acc; simp
    | cons k ks ih =>
      intro acc
      rw [List.foldl_cons]
      refine Nat.le_trans (ih _) ?_
      unfold rowStep
      split <;> simp <;> omega
  simpa using key ks []
/-- the rods whose places are not told -/
def keepR (rs : List (Nat × Nat)) (pl : List Nat) : List (Nat × Nat) := (rs.zipIdx.filter fun p => decide (p.2 ∉ pl)).map (·.1)
theorem keepR_sub (rs : List (Nat × Nat)) (pl : List Nat) : (keepR rs pl).Sublist rs := by
  unfold keepR
  have h := (List.filter_sublist (p := fun p : (Nat × Nat) × Nat => decide (p.2 ∉ pl)) (l := rs.zipIdx)).map (·.1)
  have e : rs.zipIdx.map (·.1) = rs := by simp
  rwa [e] at h
theorem Hedge.keep {n : Nat} {rs : List (Nat × Nat)} (h : Hedge n rs) (pl : List Nat) : Forest n (keepR rs pl) :=
  ⟨⟨rs, h, fun e he => (keepR_sub rs pl).subset he⟩, (keepR_sub rs pl).nodup h.nodup⟩
end Hg
end

section
set_option autoImplicit false
set_option maxHeartbeats 1000000
/-! Phb: hedge_by. -/
namespace Hg
theorem then_assoc (o : Option Out) (f g : Env → Option Out) : andThen (andThen o f) g = andThen o fun e => andThen (f e) g := by
  cases o with
  | none => rfl
  | some w => cases w <;> rfl
def reRod (e : Nat × Nat) : Nat × Nat := rodOf e.1 e.2
theorem sp_hedge_by (n : Nat) (es : List (Nat × Nat)) (hl : es.length < L) : s_hedge_by [nD n, .lst (es.map rodD)] = some (hD n (sortR (es.map reRod))) := by
  unfold s_hedge_by
  refine runF_eq rfl ?_
  simp only [d_hedge_by, startEnv]
  simp
  rw [ev_compM es rodD (fun e => rodD (reRod e)) (own := false)]
  · have e : D.lst (es.map fun e => rodD (reRod e)) = .lst ((es.map reRod).map rodD) := by simp
    rw [e]
    have hl2 : (es.map reRod).length < L := by simpa using hl
    rw [em_new1, Option.bind_some, sortedV_R hl2]
    simp [hD, nD]
  · rfl
  · rintro ⟨a, b⟩ _
    refine ⟨_, rfl, .frz, ?_, rfl⟩
    simp [rodD, reRod, rodOf]
    omega
  · exact hl
theorem reRod_id {es : List (Nat × Nat)} (h : ∀ e ∈ es, e.1 < e.2) : es.map reRod = es := by
  have : es.map reRod = es.map id := List.map_congr_left fun e he => by
    have := h e he
    unfold reRod rodOf
    rw [Nat.min_eq_left (by omega), Nat.max_eq_right (by omega)]; rfl
  rw [this, List.map_id]
theorem leN_anti {a b : Nat × Nat} (h1 : leN a b = true) (h2 : leN b a = true) : a = b := by
  simp only [leN, decide_eq_true_eq] at h1 h2
  exact Prod.ext (by omega) (by omega)
theorem sortR_pe {xs ys : List (Nat × Nat)} (h : xs.Perm ys) : sortR xs = sortR ys :=
  List.Perm.eq_of_pairwise (le := fun a b => leN a b = true) (fun a b _ _ h1 h2 => leN_anti h1 h2) (sortR_pw xs) (sortR_pw ys) ((sortR_perm xs).trans (h.trans (sortR_perm ys).symm))
theorem sortR_id {xs : List (Nat × Nat)} (h : xs.Pairwise ltN) : sortR xs = xs :=
  List.Perm.eq_of_pairwise (le := fun a b => leN a b = true) (fun a b _ _ h1 h2 => leN_anti h1 h2) (sortR_pw xs) (h.imp fun {a b} q => by simp only [leN, decide_eq_true_eq]; unfold ltN at q; omega) (sortR_perm xs)
theorem sortN_eq {xs ys : List Nat} (h : xs.Perm ys) : sortN xs = sortN ys :=
  List.Perm.eq_of_pairwise (le := fun a b => a ≤ b) (fun a b _ _ h1 h2 => Nat.le_antisymm h1 h2) (sortN_pw xs) (sortN_pw ys) ((sortN_perm xs).trans (h.trans (sortN_perm ys).symm))
theorem sortN_id {xs : List Nat} (h : xs.Pairwise fun a b => a ≤ b) : sortN xs = xs :=
  List.Perm.eq_of_pairwise (le := fun a b => a ≤ b) (fun a b _ _ h1 h2 => Nat.le_antisymm h1 h2) (sortN_pw xs) h (sortN_perm xs)
theorem range_pw (n : Nat) : (List.range n).Pairwise fun a b => a ≤ b := List.pairwise_lt_range.imp fun h => Nat.le_of_lt h
/-- in order and once each: what stands among the numbers ahead -/
theorem sortN_filter {xs : List Nat} {n : Nat} (hn : xs.Nodup) {p : Nat → Bool} (h : ∀ x, x ∈ xs ↔ x < n ∧ p x = true) : sortN xs = (List.range n).filter p := by
  have h1 : xs.Perm ((List.range n).filter p) := (List.perm_ext_iff_of_nodup hn (List.nodup_range.filter _)).mpr fun x => by rw [h, List.mem_filter, List.mem_range]
  rw [sortN_eq h1]
  exact sortN_id ((range_pw n).filter _)
end Hg
end

section
set_option autoImplicit false
set_option maxHeartbeats 1000000
/-! Lex: lists of numbers in order. -/
namespace Hg
theorem lexI_lt : ∀ x y : List Int, decide (x < y) = lexI x y
  | [], [] => by simp [lexI]
  | [], _ :: _ => by simp [lexI]
  | _ :: _, [] => by simp [lexI]
  | a :: x, b :: y => by
    unfold lexI
    by_cases h : a = b
    · subst h
      rw [if_pos rfl, ← lexI_lt x y]
      exact decide_eq_decide.mpr (by simp [List.cons_lt_cons_iff])
    · rw [if_neg h]
      refine decide_eq_decide.mpr ?_
      rw [List.cons_lt_cons_iff]
      constructor
      · rintro (q | ⟨q, _⟩)
        · exact q
        · exact absurd q h
      · exact .inl
def icast (x : List Nat) : List Int := x.map fun k : Nat => (k : Int)
def ltW (x y : List Nat) : Bool := lexI (icast x) (icast y)
theorem ltW_irr (x : List Nat) : ltW x x = false := by
  unfold ltW; rw [← lexI_lt]; simp
theorem ltW_tr {x y z : List Nat} (h1 : ltW x y = true) (h2 : ltW z y = false) : ltW z x = false := by
  unfold ltW at *
  rw [← lexI_lt] at *
  simp only [decide_eq_true_eq, decide_eq_false_iff_not] at *
  exact fun h3 => h2 (List.lt_trans h3 h1)
theorem ltD_ns (x y : List Nat) : ltD (nsD x) (nsD y) = some (ltW x y) := by
  show (intsD (x.map nD)).bind (fun ns => (intsD (y.map nD)).bind fun ms => some (lexI ns ms)) = _
  rw [intsD_nD, intsD_nD]; rfl
end Hg
end

section
set_option autoImplicit false
set_option maxHeartbeats 1000000
/-! Pchk: is_within, is_rod, is_frame, checked. -/
namespace Hg
theorem sp_is_within (a lo hi : Int) : s_is_within [.int a, .int lo, .int hi] = some (.bl (decide (lo ≤ a ∧ a ≤ hi))) := by
  unfold s_is_within
  refine runF_eq rfl ?_
  by_cases c : lo ≤ a
  · simp [d_is_within, startEnv, coB, c]
  · simp [d_is_within, startEnv, coB, c]
theorem sp_is_rod {n a b : Nat} (ha : a < n) (hb : b < n) (hab : a < b) : s_is_rod [rodD (a, b), nD n] = some (.bl true) := by
  have h1 := sp_is_within a 0 ((n : Int) - 1)
  have h2 := sp_is_within b 0 ((n : Int) - 1)
  rw [decide_eq_true ⟨by omega, by omega⟩] at h1 h2
  unfold s_is_rod
  refine runF_eq rfl ?_
  simp [d_is_rod, startEnv, rodD, nD, isTy, h1, h2, PD8, hab]
theorem sp_is_frame {n : Nat} {rs : List (Nat × Nat)} (h : Hedge n rs) (hn : n ≤ 40) : s_is_frame [hD n rs] = some (.bl true) := by
  have hlen := h.len
  have h1 := sp_is_within n 1 40
  rw [decide_eq_true ⟨by omega, by omega⟩] at h1
  unfold s_is_frame
  refine runF_eq rfl ?_
  have e : (rs.length : Int) = (n : Int) - 1 := by omega
  simp [d_is_frame, startEnv, hD, isTy, h1, PD8, e]
theorem lt_ahead {rs pre post : List (Nat × Nat)} {e : Nat × Nat} (h : rs.Pairwise ltN) (he : rs = pre ++ e :: post) : ∀ x, pre.getLast? = some x → ltN x e := by
  intro x hx
  rw [he] at h
  exact (List.pairwise_append.mp h).2.2 x (List.mem_of_getLast? hx) e (by simp)
/-- a rod parts what lies ahead of it -/
theorem hedge_ring {n : Nat} {rs pre post : List (Nat × Nat)} {e : Nat × Nat} (h : Hedge n rs) (he : rs = pre ++ e :: post) : ¬ Cn pre e.1 e.2 := by
  intro c
  have hm : e ∈ rs := by rw [he]; simp
  have hnd := h.nodup
  rw [he] at hnd
  have hne : e ∉ pre := fun q => (List.nodup_append.mp hnd).2.2 e q e (by simp) rfl
  have := c (fun x => side rs e x = side rs e e.1) fun f hf => by
    have hfr : f ∈ rs := by rw [he]; exact List.mem_append_left _ hf
    rw [h.side_eq hm hfr (fun q => hne (q ▸ hf))]
  exact h.side_ne hm (this.mp rfl).symm
theorem sp_checked {n : Nat} {rs : List (Nat × Nat)} (h : Hedge n rs) (hn : n ≤ 40) : s_checked [hD n rs] = some (hD n rs) := by
  have hlen := h.len
  have hf := sp_is_frame h hn
  unfold s_checked
  refine runF_eq rfl ?_
  simp only [d_checked, startEnv]
  simp [hf]
  have e0 : setSlots [1, 2] [D.int n, D.lst (rs.map rodD)] [.val (hD n rs) .frz, .un, .un, .un, .un, .un, .un, .un, .un] = some [.val (hD n rs) .frz, .val (.int n) .frz, .val (.lst (rs.map rodD)) .frz, .un, .un, .un, .un, .un, .un] := rfl
  have e1 : bindT (.tp [1, 2]) (hD n rs) [.val (hD n rs) .frz, .un, .un, .un, .un, .un, .un, .un, .un] = some [.val (hD n rs) .frz, .val (.int n) .frz, .val (.lst (rs.map rodD)) .frz, .un, .un, .un, .un, .un, .un] := rfl
  have e2 : (0 : Int) ≤ n ∧ (n : Int) ≤ 1000 := by omega
  simp [e1, e2, rngD_nD]
  have aD : ∀ pre : List (Nat × Nat), ∃ a : Int × Int, a = (match pre.getLast? with | none => ((-1 : Int), (-1 : Int)) | some x => ((x.1 : Int), (x.2 : Int))) := fun _ => ⟨_, rfl⟩
  refine for_step rs.zipIdx (fun p => .tup [nD p.2, rodD p.1]) (fun b : (Nat → Nat) × (Int × Int) => [.val (hD n rs) .frz, .val (.int n) .frz, .val (.lst (rs.map rodD)) .frz, .val (.lst ((List.range n).map fun v => nD (b.1 v))) .frz, .val (pairD b.2) .frz, .un, .un, .un, .un])
    (fun pre b => HInv (pre.map (·.1)) b.1 ∧ (∀ x, x < n → b.1 x < n) ∧ b.2 = (match (pre.map (·.1)).getLast? with | none => ((-1 : Int), (-1 : Int)) | some x => ((x.1 : Int), (x.2 : Int)))) (id, (-1, -1)) ?_ ?_ ⟨HInv.nil, fun x hx => hx, rfl⟩ ?_ ?_
  · have e3 := enum_map rodD rs
    simp [e3]
  · simp [pairD, nD]
  · rintro pre ⟨⟨a, b⟩, k⟩ post ⟨home, ah⟩ e ⟨hi, hl, hah⟩
    simp only at hi hl hah
    obtain ⟨z1, z2, z3⟩ := zipIdx_split e
    have hsplit : rs = pre.map (·.1) ++ (a, b) :: post.map (·.1) := by
      have := congrArg (List.map (·.1)) e
      simpa using this
    have hm : (a, b) ∈ rs := by rw [hsplit]; simp
    obtain ⟨ha, hb, hab⟩ := h.lt hm
    simp only at ha hb hab
    have h1 := sp_is_rod ha hb hab
    have h1 : s_is_rod [rodD (a, b), .int n] = some (.bl true) := h1
    have hring := hedge_ring h hsplit
    have hne : home a ≠ home b := fun q => hring (hi.iff.mp q)
    have hlt := lt_ahead h.srt hsplit
    have hle : ltD (pairD ah) (rodD (a, b)) = some true := by
      cases hg : (pre.map (·.1)).getLast? with
      | none =>
        rw [hg] at hah
        simp only at hah
        rw [hah]
        show some (lexI [-1, -1] [(a : Int), (b : Int)]) = _
        have : ¬ (-1 : Int) = (a : Int) := by omega
        unfold lexI
        rw [if_neg this, decide_eq_true (by omega)]
      | some x =>
        rw [hg] at hah
        simp only at hah
        rw [hah]
        show ltD (rodD x) (rodD (a, b)) = _
        rw [ltD_rod, decide_eq_true (hlt x hg)]
    refine ⟨(homeS home (a, b), ((a : Int), (b : Int))), ?_, ?_, ?_, ?_⟩
    · have i0 : ixV (rodD (a, b), .frz) (.int 0) = some (.int a, .frz) := rfl
      have i1 : ixV (rodD (a, b), .frz) (.int 1) = some (.int b, .frz) := rfl
      have ixh : ∀ x, x < n → ixV (.lst ((List.range n).map fun v => nD (home v)), .frz) (.int x) = some (nD (home x), .frz) := by
        intro x hx
        simp [hx]
      simp [h1, hle, i0, i1, ixh a ha, ixh b hb, PD8, eqD_nD, plain_nD, hne]
      rw [ev_compM (List.range n) (fun v => nD (home v)) (fun v => nD (homeS home (a, b) v)) (own := false)]
      · simp
        rfl
      · rfl
      · intro v hv
        refine ⟨_, rfl, .frz, ?_, rfl⟩
        by_cases c : home v = home b
        · simp [i0, i1, ixh a ha, ixh b hb, PD8, eqD_nD, plain_nD, homeS, c]
        · simp [i0, i1, ixh a ha, ixh b hb, PD8, eqD_nD, plain_nD, homeS, c]
      · simp [L_eq]; omega
    · rw [List.map_append]
      exact hi.add (a, b)
    · intro x hx
      unfold homeS
      simp only
      split
      · exact hl a ha
      · exact hl x hx
    · simp
  · rintro ⟨home, ah⟩ _
    simp [hD]
end Hg
end

section
set_option autoImplicit false
set_option maxHeartbeats 1000000
/-! Way: the way from one knot to another. Plain mathematics. -/
namespace Hg
inductive Way (rs : List (Nat × Nat)) (b : Nat) : Nat → List Nat → Prop where
  | nil : Way rs b b [b]
  | cons {x y : Nat} {p : List Nat} : Adj rs x y → dist rs b x = dist rs b y + 1 → Way rs b y p → Way rs b x (x :: p)
namespace Way
variable {n b x : Nat} {rs : List (Nat × Nat)} {p : List Nat}
theorem len (w : Way rs b x p) : p.length = dist rs b x + 1 := by
  induction w with
  | nil => rw [dist_self]; rfl
  | cons a d w ih => rw [List.length_cons, ih, d]
theorem ne (w : Way rs b x p) : p ≠ [] := by cases w <;> simp
theorem head (w : Way rs b x p) : ∃ t, p = x :: t := by cases w <;> exact ⟨_, rfl⟩
theorem last (w : Way rs b x p) : p.getLast w.ne = b := by
  induction w with
  | nil => rfl
  | cons a d w ih => rw [List.getLast_cons w.ne, ih]
theorem ends (w : Way rs b x p) : ∃ i, p = i ++ [b] := by
  refine ⟨p.dropLast, ?_⟩
  have := List.dropLast_concat_getLast w.ne
  rw [w.last] at this
  exact this.symm
theorem far (w : Way rs b x p) : ∀ y ∈ p, dist rs b y ≤ dist rs b x := by
  induction w with
  | nil => intro y hy; simp at hy; subst hy; exact Nat.le_refl _
  | cons a d w ih =>
    intro z hz
    rcases List.mem_cons.mp hz with rfl | hz
    · exact Nat.le_refl _
    · have := ih z hz; omega
theorem nodup (w : Way rs b x p) : p.Nodup := by
  induction w with
  | nil => simp
  | cons a d w ih =>
    refine List.nodup_cons.mpr ⟨fun hm => ?_, ih⟩
    have := w.far _ hm
    omega
theorem lt (h : Hedge n rs) (hb : b < n) (w : Way rs b x p) : ∀ y ∈ p, y < n := by
  induction w with
  | nil => intro y hy; simp at hy; omega
  | cons a d w ih =>
    intro z hz
    rcases List.mem_cons.mp hz with rfl | hz
    · exact (h.adj_lt a).1
    · exact ih z hz
theorem chain (w : Way rs b x p) : ∀ k u v, p[k]? = some u → p[k + 1]? = some v → Adj rs u v ∧ dist rs b u = dist rs b v + 1 := by
  induction w with
  | nil => intro k u v h1 h2; simp at h2
  | @cons x y p a d w ih =>
    intro k u v h1 h2
    cases k with
    | zero =>
      obtain ⟨t, rfl⟩ := w.head
      simp at h1 h2
      subst h1; subst h2
      exact ⟨a, d⟩
    | succ k => exact ih k u v (by simpa using h1) (by simpa using h2)
theorem uniq (h : Hedge n rs) (hb : b < n) (w : Way rs b x p) : ∀ q, Way rs b x q → p = q := by
  induction w with
  | nil =>
    intro q wq
    generalize hx : b = y at wq
    cases wq with
    | nil => rfl
    | cons a d wq => subst hx; rw [dist_self] at d; omega
  | @cons x y p a d w ih =>
    intro q wq
    cases wq with
    | nil => rw [dist_self] at d; omega
    | @cons _ y' q a' d' wq =>
      have : y = y' := h.nearer_uniq hb a.symm a'.symm (by omega) (by omega)
      subst this
      rw [ih q wq]
theorem ex (h : Hedge n rs) (hb : b < n) : ∀ k x, x < n → dist rs b x = k → ∃ p, Way rs b x p := by
  intro k
  induction k with
  | zero =>
    intro x hx hd
    have := h.dist_zero hb hx hd
    subst this
    exact ⟨_, .nil⟩
  | succ k ih =>
    intro x hx hd
    obtain ⟨u, hu, hd2⟩ := h.ahead_ex hb hx fun e => by subst e; rw [dist_self] at hd; omega
    obtain ⟨p, hp⟩ := ih u (h.adj_lt hu).1 (by omega)
    exact ⟨_, .cons hu.symm hd2 hp⟩
theorem rev_aux (h : Hedge n rs) {a : Nat} (w : Way rs b x p) : ∀ q, Way rs a x q → dist rs a b = dist rs a x + dist rs b x → Way rs a b (p.reverse ++ q.tail) := by
  induction w with
  | nil =>
    intro q wq _
    obtain ⟨t, rfl⟩ := wq.head
    exact wq
  | @cons x y p ad d w ih =>
    intro q wq hd
    obtain ⟨t, rfl⟩ := wq.head
    have h1 := dist_tri rs a y b
    rw [dist_comm rs y b] at h1
    have h2 := h.dist_adj_or ad a
    have := ih (y :: x :: t) (.cons ad.symm (by omega) wq) (by omega)
    rw [List.reverse_cons, List.append_assoc]
    exact this
/-- turned about -/
theorem rev (h : Hedge n rs) {a : Nat} (w : Way rs b a p) : Way rs a b p.reverse := by
  have := rev_aux h w [a] .nil (by rw [dist_self, dist_comm]; omega)
  simpa using this
end Way
/-- the knot ahead -/
theorem Come.back {n r v : Nat} {rs : List (Nat × Nat)} {ps : PL} (h : Hedge n rs) (hr : r < n) (c : Come n rs r ps) (hv : v < n) (hne : v ≠ r) : ∃ u, (v, some u) ∈ ps ∧ Adj rs u v ∧ dist rs r v = dist rs r u + 1 := by
  have hm := (c.perm h hr).mem_iff.mpr (List.mem_range.mpr hv)
  obtain ⟨⟨v', a⟩, h1, h2⟩ := List.mem_map.mp hm
  simp at h2
  subst h2
  obtain ⟨s, t, e⟩ := List.append_of_mem h1
  rcases c.grow.at e with ⟨_, q, _⟩ | ⟨u, rfl, g, hu, ha, hn⟩
  · exact absurd q hne
  · exact ⟨u, h1, ha, g.dist h hu ha hn⟩
end Hg
end

section
set_option autoImplicit false
set_option maxHeartbeats 1000000
/-! Wlaw: what the laws ask of a way, place by place. -/
namespace Hg
theorem cell_mod (ns : List Int) (k n : Nat) (hn : 0 < n) : ∃ t : Nat, t < n ∧ cell ns k % (n : Int) = (t : Int) := by
  have q1 := Int.emod_nonneg (cell ns k) (show (n : Int) ≠ 0 by omega)
  have q2 := Int.emod_lt_of_pos (cell ns k) (show (0 : Int) < n by omega)
  obtain ⟨t, ht⟩ := Int.eq_ofNat_of_zero_le q1
  exact ⟨t, by omega, ht⟩
theorem cut_to1 (xs : List D) : cut xs none (some 1) = xs.take 1 := by
  unfold cut cutIx
  cases xs with
  | nil => rfl
  | cons x xs =>
    simp
theorem cut_from (xs : List D) (k : Nat) (h : k ≤ xs.length) : cut xs (some (k : Int)) none = xs.drop k := by
  unfold cut cutIx
  have hk : ¬ (k : Int) < 0 := by omega
  simp only [hk, if_false, Int.toNat_natCast]
  rw [show min k xs.length = k by omega, List.take_of_length_le]
  simp
theorem rodOf_mem {n u v : Nat} {rs : List (Nat × Nat)} (h : Hedge n rs) (a : Adj rs u v) : rodOf u v ∈ rs := h.adj_rod a
theorem nodup_drop {p : List Nat} (h : p.Nodup) {k u : Nat} (hu : p[k]? = some u) : u ∉ p.drop (k + 1) := by
  intro hm
  obtain ⟨j, hj, e⟩ := List.mem_iff_getElem.mp hm
  rw [List.getElem_drop] at e
  obtain ⟨hk, e2⟩ := List.getElem?_eq_some_iff.mp hu
  have := (List.getElem_inj h).mp (e.trans e2.symm)
  omega
theorem rng_pred (n : Nat) (hn : n ≤ 1000) : (-1000000 : Int) ≤ (n : Int) - 1 ∧ (n : Int) - 1 ≤ 1000000 := by omega
end Hg
end

section
set_option autoImplicit false
set_option maxHeartbeats 1000000
/-! Wt: what lies behind a knot; sums over all ways. Plain mathematics. -/
namespace Hg
/-! ### sums -/
def sm {α : Type} (xs : List α) (F : α → Nat) : Nat := (xs.map F).sum
section
variable {α β : Type}
@[simp] theorem sx_nil (F : α → Nat) : sm [] F = 0 := rfl
@[simp] theorem sx_cons (x : α) (xs : List α) (F : α → Nat) : sm (x :: xs) F = F x + sm xs F := by simp [sm]
theorem sx_append (xs ys : List α) (F : α → Nat) : sm (xs ++ ys) F = sm xs F + sm ys F := by simp [sm]
theorem sx_map (g : β → α) (xs : List β) (F : α → Nat) : sm (xs.map g) F = sm xs fun x => F (g x) := by simp [sm, Function.comp_def]
theorem sx_perm {xs ys : List α} (h : xs.Perm ys) (F : α → Nat) : sm xs F = sm ys F := (h.map F).sum_nat
theorem sx_congr {xs : List α} {F G : α → Nat} (h : ∀ x ∈ xs, F x = G x) : sm xs F = sm xs G := by
  unfold sm; rw [List.map_congr_left h]
theorem sx_zero {xs : List α} {F : α → Nat} (h : ∀ x ∈ xs, F x = 0) : sm xs F = 0 := by
  induction xs with
  | nil => rfl
  | cons x xs ih => rw [sx_cons, h x (List.mem_cons_self ..), ih fun y hy => h y (List.mem_cons_of_mem _ hy)]
theorem sx_add (xs : List α) (F G : α → Nat) : sm xs (fun x => F x + G x) = sm xs F + sm xs G := by
  induction xs with
  | nil => rfl
  | cons x xs ih => simp only [sx_cons, ih]; omega
theorem sx_mul (xs : List α) (c : Nat) (F : α → Nat) : sm xs (fun x => c * F x) = c * sm xs F := by
  induction xs with
  | nil => simp
  | cons x xs ih => simp only [sx_cons, ih, Nat.mul_add]
theorem sx_swap (xs : List α) (ys : List β) (F : α → β → Nat) : sm xs (fun x => sm ys fun y => F x y) = sm ys fun y => sm xs fun x => F x y := by
  induction xs with
  | nil => simp [sx_zero]
  | cons x xs ih => simp only [sx_cons, ih, sx_add]
theorem sx_count (xs : List α) (p : α → Bool) : sm xs (fun x => if p x = true then 1 else 0) = xs.countP p := by
  induction xs with
  | nil => rfl
  | cons x xs ih => rw [sx_cons, ih, List.countP_cons]; omega
theorem sx_const (xs : List α) (c : Nat) : sm xs (fun _ => c) = xs.length * c := by
  induction xs with
  | nil => simp
  | cons x xs ih => rw [sx_cons, ih, List.length_cons, Nat.succ_mul]; omega
theorem sx_update {xs : List Nat} (hn : xs.Nodup) {u d : Nat} (hu : u ∈ xs) {F G : Nat → Nat} (h : ∀ y ∈ xs, y ≠ u → F y = G y) (hd : F u = G u + d) : sm xs F = sm xs G + d := by
  induction xs with
  | nil => cases hu
  | cons x xs ih =>
    obtain ⟨hx, hn⟩ := List.nodup_cons.mp hn
    simp only [sx_cons]
    rcases List.mem_cons.mp hu with rfl | hu
    · rw [hd, sx_congr (F := F) (G := G) fun y hy => h y (List.mem_cons_of_mem _ hy) fun e => hx (e ▸ hy)]; omega
    · rw [h x (List.mem_cons_self ..) fun e => hx (e ▸ hu), ih hn hu fun y hy => h y (List.mem_cons_of_mem _ hy)]; omega
end
/-! ### a fold from the last to the first -/
def stepW (p : Nat × Option Nat) (g : Nat → Nat) : Nat → Nat := match p.2 with | none => g | some u => fun x => if x = u then g u + g p.1 else g x
theorem foldW_other {x : Nat} : ∀ (ps : PL) (w : Nat → Nat), (∀ c u, (c, some u) ∈ ps → u ≠ x) → ps.foldr stepW w x = w x
  | [], _, _ => rfl
  | (c, a) :: ps, w, h => by
    have ih := foldW_other ps w fun c' u' h' => h c' u' (List.mem_cons_of_mem _ h')
    rw [List.foldr_cons]
    cases a with
    | none => exact ih
    | some u =>
      have := h c u (List.mem_cons_self ..)
      show (if x = u then _ else _) = _
      rw [if_neg fun e => this e.symm]
      exact ih
theorem Grow.weight {n r : Nat} {rs : List (Nat × Nat)} {ps : PL} (h : Hedge n rs) (g : Grow rs r ps) : ∀ w0 : Nat → Nat,
    (∀ x p, (x, some p) ∈ ps → ps.foldr stepW w0 x = sm (ps.map (·.1)) fun y => if side rs (rodOf p x) y = side rs (rodOf p x) x then w0 y else 0) ∧ ps.foldr stepW w0 r = sm (ps.map (·.1)) w0 := by
  induction g with
  | root =>
    intro w0
    refine ⟨fun x p hm => by simp at hm, ?_⟩
    simp [stepW]
  | @add ps v u g hu ha hv ih =>
    intro w0
    obtain ⟨i1, i2⟩ := ih (stepW (v, some u) w0)
    have hvu : v ≠ u := fun e => hv (e ▸ hu)
    have hw : ∀ y, y ≠ u → stepW (v, some u) w0 y = w0 y := fun y hy => if_neg hy
    have hwu : stepW (v, some u) w0 u = w0 u + w0 v := if_pos rfl
    rw [List.foldr_append]
    have e0 : List.foldr stepW w0 [(v, some u)] = stepW (v, some u) w0 := rfl
    rw [e0, List.map_append, List.map_cons, List.map_nil]
    refine ⟨fun x p hm => ?_, ?_⟩
    · rw [List.mem_append] at hm
      rw [sx_append]
      rcases hm with hm | hm
      · rw [i1 x p hm, sx_update g.nodup hu (F := fun y => if side rs (rodOf p x) y = side rs (rodOf p x) x then stepW (v, some u) w0 y else 0) (G := fun y => if side rs (rodOf p x) y = side rs (rodOf p x) x then w0 y else 0) (d := if side rs (rodOf p x) u = side rs (rodOf p x) x then w0 v else 0)]
        · have hs : side rs (rodOf p x) v = side rs (rodOf p x) u := by
            obtain ⟨q1, q2⟩ := g.up_mem _ _ hm
            refine (h.side_adj_eq (h.adj_rod q2) ha fun e => ?_).symm
            rcases Hedge.rod_inj e with ⟨_, e⟩ | ⟨_, e⟩
            · exact hv (e ▸ List.mem_map_of_mem (f := (·.1)) hm)
            · exact hv (e ▸ q1)
          simp [hs]
        · intro y _ hy
          simp only [hw y hy]
        · simp only [hwu]
          split <;> simp
      · simp at hm
        obtain ⟨rfl, rfl⟩ := hm
        rw [foldW_other (x := x) ps _ (fun c u' hc e => hv (by rw [← e]; exact (g.up_mem _ _ hc).1)), hw x hvu, sx_zero]
        · simp
        · intro y hy
          have hs := g.same h (fun _ h => h) (h.adj_rod ha) (fun v' u' hm e => ?_)
          · have h1 := hs y hy
            have h2 := hs p hu
            have h3 := h.side_adj_ne ha
            rw [if_neg]
            intro e
            exact h3 (h2.trans (h1.symm.trans e))
          · rcases Hedge.rod_inj e with ⟨e1, e2⟩ | ⟨e1, e2⟩
            · exact hv (e2 ▸ List.mem_map_of_mem (f := (·.1)) hm)
            · exact hv (e1 ▸ (g.up_mem _ _ hm).1)
    · rw [i2, sx_append, sx_update g.nodup hu (F := stepW (v, some u) w0) (G := w0) (d := w0 v) (fun y _ hy => hw y hy) hwu]
      simp
/-! ### the rods of the order -/
def rodsOf (ps : PL) : List (Nat × Nat) := ps.filterMap fun p => p.2.map fun u => rodOf u p.1
theorem Grow.rods_nodup {r : Nat} {rs : List (Nat × Nat)} {ps : PL} (g : Grow rs r ps) : (rodsOf ps).Nodup ∧ ∀ e ∈ rodsOf ps, e.1 ∈ ps.map (·.1) ∧ e.2 ∈ ps.map (·.1) := by
  induction g with
  | root => simp [rodsOf]
  | @add ps v u g hu ha hv ih =>
    obtain ⟨i1, i2⟩ := ih
    have e0 : rodsOf (ps ++ [(v, some u)]) = rodsOf ps ++ [rodOf u v] := by unfold rodsOf; rw [List.filterMap_append]; rfl
    rw [e0]
    have hve : (rodOf u v).1 = v ∨ (rodOf u v).2 = v := by unfold rodOf; omega
    refine ⟨?_, ?_⟩
    · rw [List.nodup_append]
      refine ⟨i1, by simp, ?_⟩
      intro e he y hy hey
      simp at hy
      subst hy
      subst hey
      obtain ⟨q1, q2⟩ := i2 _ he
      rcases hve with q | q
      · exact hv (q ▸ q1)
      · exact hv (q ▸ q2)
    · intro e he
      rw [List.map_append, List.mem_append, List.mem_append]
      rw [List.mem_append] at he
      rcases he with he | he
      · exact ⟨.inl (i2 e he).1, .inl (i2 e he).2⟩
      · simp at he
        subst he
        have : ∀ z, z = u ∨ z = v → (z ∈ ps.map (·.1) ∨ z ∈ List.map (·.1) [(v, some u)]) := by
          rintro z (rfl | rfl)
          · exact .inl hu
          · exact .inr (by simp)
        exact ⟨this _ (by unfold rodOf; simp only; omega), this _ (by unfold rodOf; simp only; omega)⟩
theorem Come.rods {n r : Nat} {rs : List (Nat × Nat)} {ps : PL} (h : Hedge n rs) (hr : r < n) (c : Come n rs r ps) : (rodsOf ps).Perm rs := by
  refine (List.perm_ext_iff_of_nodup c.grow.rods_nodup.1 h.nodup).mpr fun e => ⟨fun he => ?_, fun he => ?_⟩
  · obtain ⟨⟨v, a⟩, h1, h2⟩ := List.mem_filterMap.mp he
    cases a with
    | none => cases h2
    | some u =>
      simp at h2
      exact h2 ▸ h.adj_rod (c.grow.up_mem _ _ h1).2
  · refine Classical.byContradiction fun hno => ?_
    have hs := c.grow.same h (fun _ h => h) he fun v u hm hq => hno (hq ▸ List.mem_filterMap.mpr ⟨(v, some u), hm, rfl⟩)
    have hp := c.perm h hr
    have hm : ∀ x, x < n → x ∈ ps.map (·.1) := fun x hx => hp.mem_iff.mpr (List.mem_range.mpr hx)
    have h1 := h.lt he
    exact h.side_ne he ((hs _ (hm _ h1.1)).trans (hs _ (hm _ h1.2.1)).symm)
/-! ### the sum of all ways -/
theorem pairs_count (xs : List Nat) (c : Nat → Bool) : sm xs (fun x => sm xs fun y => if (c x != c y) = true then 1 else 0) = 2 * (xs.countP c * (xs.length - xs.countP c)) := by
  have h1 : ∀ x, sm xs (fun y => if (c x != c y) = true then 1 else 0) = if c x = true then xs.length - xs.countP c else xs.countP c := by
    intro x
    rw [sx_count]
    cases hx : c x with
    | false => simp
    | true =>
      have := List.length_eq_countP_add_countP c (l := xs)
      simp only [Bool.true_bne]
      have e : xs.countP (fun y => !c y) = xs.countP (fun a => decide (¬c a = true)) := by
        congr 1; funext y; cases c y <;> rfl
      simp
      simp at this
      omega
  rw [sx_congr fun x _ => h1 x]
  have h2 : ∀ (ys : List Nat) (a b : Nat), sm ys (fun x => if c x = true then a else b) = ys.countP c * a + (ys.length - ys.countP c) * b := by
    intro ys a b
    induction ys with
    | nil => simp
    | cons y ys ih =>
      have hle := List.countP_le_length (p := c) (l := ys)
      rw [sx_cons, ih, List.countP_cons, List.length_cons]
      cases hy : c y with
      | false =>
        simp
        rw [show ys.length + 1 - ys.countP c = (ys.length - ys.countP c) + 1 by omega, Nat.add_mul]
        omega
      | true =>
        simp
        rw [Nat.add_mul]
        omega
  rw [h2, Nat.mul_comm (xs.length - xs.countP c)]
  omega
noncomputable def sumsOf (rs : List (Nat × Nat)) (n v : Nat) : Nat := sm (List.range n) (dist rs v)
noncomputable def halves (rs : List (Nat × Nat)) (n : Nat) (e : Nat × Nat) : Nat := (List.range n).countP (side rs e) * (n - (List.range n).countP (side rs e))
theorem all_ways (n : Nat) (rs : List (Nat × Nat)) : sm (List.range n) (sumsOf rs n) = 2 * sm rs (halves rs n) := by
  have h1 : sm (List.range n) (sumsOf rs n) = sm (List.range n) fun x => sm (List.range n) fun y => sm rs fun e => if (side rs e x != side rs e y) = true then 1 else 0 := by
    apply sx_congr
    intro x _
    apply sx_congr
    intro y _
    unfold dist
    rw [sx_count]
  rw [h1]
  have h2 : (sm (List.range n) fun x => sm (List.range n) fun y => sm rs fun e => if (side rs e x != side rs e y) = true then 1 else 0) = sm (List.range n) fun x => sm rs fun e => sm (List.range n) fun y => if (side rs e x != side rs e y) = true then 1 else 0 := by
    apply sx_congr
    intro x _
    rw [sx_swap]
  rw [h2, sx_swap, ← sx_mul]
  apply sx_congr
  intro e _
  rw [pairs_count, List.length_range]
  rfl
end Hg
end

section
set_option autoImplicit false
set_option maxHeartbeats 1000000
/-! Pcom: rods and the order. -/
namespace Hg
section
variable {n r : Nat} {rs : List (Nat × Nat)} {ps : PL}
/-- each rod goes from a knot to the one ahead -/
theorem Come.edge (h : Hedge n rs) (hr : r < n) (c : Come n rs r ps) {x y : Nat} (a : Adj rs x y) : (x, some y) ∈ ps ∨ (y, some x) ∈ ps := by
  have h1 := (c.rods h hr).mem_iff.mpr (h.adj_rod a)
  obtain ⟨⟨v, b⟩, h2, h3⟩ := List.mem_filterMap.mp h1
  cases b with
  | none => cases h3
  | some u =>
    simp at h3
    rcases Hedge.rod_inj h3 with ⟨rfl, rfl⟩ | ⟨rfl, rfl⟩
    · exact .inr h2
    · exact .inl h2
/-- what stands ahead stands before -/
theorem Come.order (c : Come n rs r ps) {A B : PL} (e : ps = A ++ B) (hA : A ≠ []) {x y : Nat} (hm : (x, some y) ∈ ps) (hy : y ∈ B.map (·.1)) : x ∈ B.map (·.1) := by
  have hnd := c.grow.nodup
  rw [e, List.map_append, List.nodup_append] at hnd
  rw [e, List.mem_append] at hm
  rcases hm with hm | hm
  · have := (c.grow.pre A B e hA).up_mem _ _ hm
    exact absurd rfl (hnd.2.2 y this.1 y hy)
  · exact List.mem_map_of_mem (f := (·.1)) hm
theorem Come.root_none (c : Come n rs r ps) {v : Nat} (hm : (v, none) ∈ ps) : v = r := by
  obtain ⟨s1, s2, hs⟩ := List.append_of_mem hm
  rcases c.grow.at hs with ⟨_, q, _⟩ | ⟨u, q, _⟩
  · exact q
  · cases q
end
end Hg
end

section
set_option autoImplicit false
set_option maxHeartbeats 1000000
/-! Pgd: pairs and guards, told together along the order from its end. Plain mathematics. -/
namespace Hg
theorem pre_ind {α : Type} (xs : List α) (P : List α → Prop) (h0 : P []) (hs : ∀ pre x post, xs = pre ++ x :: post → P pre → P (pre ++ [x])) : P xs := by
  have key : ∀ (post pre : List α), xs = pre ++ post → P pre → P xs := by
    intro post
    induction post with
    | nil => intro pre e h; rw [e, List.append_nil]; exact h
    | cons x post ih =>
      intro pre e h
      exact ih (pre ++ [x]) (by rw [e]; simp) (hs pre x post e h)
  exact key xs [] rfl h0
def gStep (G : List Nat) (p : Nat × Option Nat) : List Nat := match p.2 with | none => G | some a => if p.1 ∈ G then G else addK1 G a
def pStep (b : List Nat × List (Nat × Nat)) (p : Nat × Option Nat) : List Nat × List (Nat × Nat) :=
  match p.2 with | none => b | some a => if p.1 ∉ b.1 ∧ a ∉ b.1 then (addK1 (addK1 b.1 p.1) a, b.2 ++ [rodOf p.1 a]) else b
def ends (F : List (Nat × Nat)) : List Nat := F.flatMap fun e => [e.1, e.2]
theorem ends_rod (F : List (Nat × Nat)) (v a : Nat) : ends (F ++ [rodOf v a]) = ends F ++ [min v a, max v a] := by
  unfold ends; rw [List.flatMap_append]; rfl
structure PG (n : Nat) (rs : List (Nat × Nat)) (pre : PL) (T G : List Nat) (F : List (Nat × Nat)) : Prop where
  same : ∀ x, x ∉ pre.map (·.1) → (x ∈ T ↔ x ∈ G)
  len : F.length = G.length
  nd : G.Nodup
  cov : ∀ x y, (x, some y) ∈ pre → x ∈ G ∨ y ∈ G
  en : (ends F).Nodup
  inT : ∀ x ∈ ends F, x ∈ T
  sub : ∀ e ∈ F, e ∈ rs
  lt : ∀ x ∈ G, x < n
section
variable {n r : Nat} {rs : List (Nat × Nat)} {ps pre post : PL} {v a : Nat} {o : Option Nat}
/-- where the order is split from its end -/
theorem rev_split {x : Nat × Option Nat} (e : ps.reverse = pre ++ x :: post) : ps = (post.reverse ++ [x]) ++ pre.reverse := by
  have := congrArg List.reverse e
  rw [List.reverse_reverse] at this
  rw [this]; simp
theorem Come.fresh (c : Come n rs r ps) (e : ps.reverse = pre ++ (v, o) :: post) : v ∉ pre.map (·.1) := by
  intro h
  have hnd := c.grow.nodup
  rw [rev_split e, List.map_append, List.nodup_append] at hnd
  exact hnd.2.2 v (by simp) v (by simpa using h) rfl
theorem Come.ahead (c : Come n rs r ps) (e : ps.reverse = pre ++ (v, some a) :: post) : a ∉ pre.map (·.1) ∧ Adj rs a v := by
  have hm : (v, some a) ∈ ps := by rw [← List.mem_reverse, e]; simp
  refine ⟨fun h => c.fresh e ?_, (c.grow.up_mem _ _ hm).2⟩
  have := c.order (rev_split e) (by simp) hm (y := a) (by simpa using h)
  simpa using this
theorem pg_all (h : Hedge n rs) (hr : r < n) (c : Come n rs r ps) : PG n rs ps.reverse (ps.reverse.foldl pStep ([], [])).1 (ps.reverse.foldl gStep []) (ps.reverse.foldl pStep ([], [])).2 := by
  refine pre_ind ps.reverse (fun pre => PG n rs pre (pre.foldl pStep ([], [])).1 (pre.foldl gStep []) (pre.foldl pStep ([], [])).2) ⟨by simp, rfl, by simp, by simp, by simp [ends], by simp [ends], by simp, by simp⟩ ?_
  rintro pre ⟨v, o⟩ post e b
  have hfr := c.fresh e
  rw [List.foldl_append, List.foldl_append]
  simp only [List.foldl_cons, List.foldl_nil]
  generalize pre.foldl pStep ([], []) = TF at b ⊢
  generalize pre.foldl gStep [] = G at b ⊢
  obtain ⟨T, F⟩ := TF
  simp only at b
  have hmap : ∀ x, x ∉ (pre ++ [(v, o)]).map (·.1) → x ∉ pre.map (·.1) ∧ x ≠ v := by
    intro x hx
    rw [List.map_append, List.mem_append, not_or] at hx
    exact ⟨hx.1, by simpa using hx.2⟩
  cases o with
  | none =>
    refine ⟨fun x hx => b.same x (hmap x hx).1, b.len, b.nd, fun x y hm => ?_, b.en, b.inT, b.sub, b.lt⟩
    rw [List.mem_append] at hm
    rcases hm with hm | hm
    · exact b.cov x y hm
    · simp at hm
  | some a =>
    obtain ⟨ha, hadj⟩ := c.ahead e
    have hlt := h.adj_lt hadj
    have hcov : ∀ G' : List Nat, (∀ x ∈ G, x ∈ G') → (v ∈ G' ∨ a ∈ G') → ∀ x y, (x, some y) ∈ pre ++ [(v, some a)] → x ∈ G' ∨ y ∈ G' := by
      intro G' h1 h2 x y hm
      rw [List.mem_append] at hm
      rcases hm with hm | hm
      · exact (b.cov x y hm).imp (h1 x) (h1 y)
      · simp at hm
        obtain ⟨rfl, rfl⟩ := hm
        exact h2
    by_cases hv : v ∈ G
    · have hvT := (b.same v hfr).mpr hv
      have e1 : gStep G (v, some a) = G := if_pos hv
      have e2 : pStep (T, F) (v, some a) = (T, F) := if_neg fun q => q.1 hvT
      rw [e1, e2]
      exact ⟨fun x hx => b.same x (hmap x hx).1, b.len, b.nd, hcov G (fun _ h => h) (.inl hv), b.en, b.inT, b.sub, b.lt⟩
    · have hvT : v ∉ T := fun q => hv ((b.same v hfr).mp q)
      have e1 : gStep G (v, some a) = addK1 G a := if_neg hv
      rw [e1]
      by_cases haT : a ∈ T
      · have haG := (b.same a ha).mp haT
        have e2 : pStep (T, F) (v, some a) = (T, F) := if_neg fun q => q.2 haT
        have e3 : addK1 G a = G := if_pos haG
        rw [e2, e3]
        exact ⟨fun x hx => b.same x (hmap x hx).1, b.len, b.nd, hcov G (fun _ h => h) (.inr haG), b.en, b.inT, b.sub, b.lt⟩
      · have haG : a ∉ G := fun q => haT ((b.same a ha).mpr q)
        have e2 : pStep (T, F) (v, some a) = (addK1 (addK1 T v) a, F ++ [rodOf v a]) := if_pos ⟨hvT, haT⟩
        rw [e2]
        simp only
        refine ⟨fun x hx => ?_, ?_, nodup_addK1 b.nd, hcov _ (fun x hx => mem_addK1.mpr (.inl hx)) (.inr (mem_addK1.mpr (.inr rfl))), ?_, ?_, ?_, ?_⟩
        · obtain ⟨h1, h2⟩ := hmap x hx
          rw [mem_addK1, mem_addK1, mem_addK1, b.same x h1]
          simp [h2]
        · have e3 : addK1 G a = G ++ [a] := if_neg haG
          rw [e3, List.length_append, List.length_append, b.len]; rfl
        · rw [ends_rod, List.nodup_append]
          refine ⟨b.en, ?_, ?_⟩
          · simp; omega
          · intro x hx y hy hxy
            subst hxy
            have hxT := b.inT x hx
            simp at hy
            rcases Nat.le_total v a with q | q
            · rw [Nat.min_eq_left q, Nat.max_eq_right q] at hy
              rcases hy with rfl | rfl
              · exact hvT hxT
              · exact haT hxT
            · rw [Nat.min_eq_right q, Nat.max_eq_left q] at hy
              rcases hy with rfl | rfl
              · exact haT hxT
              · exact hvT hxT
        · intro x hx
          rw [ends_rod, List.mem_append] at hx
          rw [mem_addK1, mem_addK1]
          rcases hx with hx | hx
          · exact .inl (.inl (b.inT x hx))
          · simp at hx
            rcases Nat.le_total v a with q | q
            · rw [Nat.min_eq_left q, Nat.max_eq_right q] at hx
              exact hx.elim (fun q => .inl (.inr q)) .inr
            · rw [Nat.min_eq_right q, Nat.max_eq_left q] at hx
              exact hx.elim .inr fun q => .inl (.inr q)
        · intro e' he'
          rw [List.mem_append] at he'
          rcases he' with he' | he'
          · exact b.sub e' he'
          · simp at he'
            subst he'
            exact h.adj_rod hadj.symm
        · intro x hx
          rcases mem_addK1.mp hx with hx | hx
          · exact b.lt x hx
          · omega
end
end Hg
end

section
set_option autoImplicit false
set_option maxHeartbeats 1000000
/-! Cds: codes. Plain mathematics. -/
namespace Hg
theorem snoc_ind {α : Type} {P : List α → Prop} (h0 : P []) (hs : ∀ pre x, P pre → P (pre ++ [x])) (xs : List α) : P xs := by
  have key : ∀ ys : List α, P ys.reverse := by
    intro ys
    induction ys with
    | nil => exact h0
    | cons y ys ih => rw [List.reverse_cons]; exact hs _ _ ih
  have := key xs.reverse
  rwa [List.reverse_reverse] at this
theorem lexS_irr : ∀ a : List Nat, lexS a a = false
  | [] => rfl
  | x :: xs => by simp [lexS, lexS_irr xs]
theorem lexS_tri : ∀ a b : List Nat, lexS a b = false → lexS b a = false → a = b
  | [], [], _, _ => rfl
  | [], y :: ys, h, _ => by simp [lexS] at h
  | x :: xs, [], _, h => by simp [lexS] at h
  | x :: xs, y :: ys, h1, h2 => by
    by_cases c : x = y
    · subst c
      simp [lexS] at h1 h2
      rw [lexS_tri xs ys h1 h2]
    · simp [lexS, c, Ne.symm c] at h1 h2
      omega
theorem lexS_trans : ∀ a b c : List Nat, lexS a b = true → lexS b c = true → lexS a c = true
  | [], [], _, h, _ => by simp [lexS] at h
  | [], y :: ys, [], _, h => by simp [lexS] at h
  | [], y :: ys, z :: zs, _, _ => by simp [lexS]
  | x :: xs, [], _, h, _ => by simp [lexS] at h
  | x :: xs, y :: ys, [], _, h => by simp [lexS] at h
  | x :: xs, y :: ys, z :: zs, h1, h2 => by
    have ih := lexS_trans xs ys zs
    simp only [lexS] at h1 h2 ⊢
    by_cases c1 : x = y
    · by_cases c2 : y = z
      · subst c1; subst c2
        simp at h1 h2 ⊢
        exact ih h1 h2
      · subst c1
        simp [c2] at h2 ⊢
        exact h2
    · by_cases c2 : y = z
      · subst c2
        simp [c1] at h1 ⊢
        exact h1
      · simp [c1, c2] at h1 h2
        have : x ≠ z := by omega
        simp [this]; omega
theorem lexS_asym {a b : List Nat} (h : lexS a b = true) : lexS b a = false := by
  cases c : lexS b a with
  | false => rfl
  | true => have := lexS_trans _ _ _ h c; rw [lexS_irr] at this; cases this
def leS (a b : List Nat) : Bool := !lexS b a
theorem leS_trans (a b c : List Nat) (h1 : leS a b = true) (h2 : leS b c = true) : leS a c = true := by
  simp [leS] at *
  cases q : lexS c a with
  | false => rfl
  | true =>
    exfalso
    cases q2 : lexS a b with
    | true => have := lexS_trans _ _ _ q q2; rw [h2] at this; cases this
    | false => have := lexS_tri _ _ q2 h1; subst this; rw [h2] at q; cases q
theorem leS_total (a b : List Nat) : (leS a b || leS b a) = true := by
  simp [leS]
  cases q : lexS b a with
  | false => exact .inl rfl
  | true => exact .inr (lexS_asym q)
theorem leS_anti {a b : List Nat} (h1 : leS a b = true) (h2 : leS b a = true) : a = b := by
  simp [leS] at h1 h2
  exact lexS_tri _ _ h2 h1
theorem sortS_pw (xs : List (List Nat)) : (sortS xs).Pairwise (fun a b => leS a b = true) := List.pairwise_mergeSort leS_trans leS_total xs
theorem sortS_perm (xs : List (List Nat)) : (sortS xs).Perm xs := List.mergeSort_perm _ _
theorem sortS_eq {xs ys : List (List Nat)} (h : xs.Perm ys) : sortS xs = sortS ys := by
  refine List.Perm.eq_of_pairwise (le := fun a b => leS a b = true) (fun a b _ _ h1 h2 => leS_anti h1 h2) (sortS_pw xs) (sortS_pw ys) ?_
  exact (sortS_perm xs).trans (h.trans (sortS_perm ys).symm)
/-- the text of a knot with a mark and the texts below -/
def wrap (m : List Nat) (B : List (List Nat)) : List Nat := 40 :: (m ++ ((sortS B).reverse.flatten ++ [41]))
theorem wrap_perm {m : List Nat} {B B' : List (List Nat)} (h : B.Perm B') : wrap m B = wrap m B' := by unfold wrap; rw [sortS_eq h]
theorem flat_len {xs ys : List (List Nat)} (h : xs.Perm ys) : xs.flatten.length = sm ys List.length := by
  rw [List.length_flatten]; exact sx_perm h _
theorem wrap_len (m : List Nat) (B : List (List Nat)) : (wrap m B).length = 2 + m.length + sm B List.length := by
  unfold wrap
  rw [List.length_cons, List.length_append, List.length_append, flat_len ((List.reverse_perm _).trans (sortS_perm B))]
  simp; omega
inductive Cd (rs : List (Nat × Nat)) (m : Nat → List Nat) : Option Nat → Nat → List Nat → Prop where
  | mk (o : Option Nat) (v : Nat) (f : Nat → List Nat) (h : ∀ c ∈ kids rs v o, Cd rs m (some v) c (f c)) : Cd rs m o v (wrap (m v) ((kids rs v o).map f))
theorem Cd.uniq {rs : List (Nat × Nat)} {m : Nat → List Nat} {o : Option Nat} {v : Nat} {t : List Nat} (h : Cd rs m o v t) : ∀ {t' : List Nat}, Cd rs m o v t' → t = t' := by
  induction h with
  | mk o v f h ih =>
    intro t' h'
    cases h' with
    | mk o v f' h' =>
      rw [List.map_congr_left fun c hc => ih c hc (h' c hc)]
abbrev CS := (Nat → List (List Nat)) × (Nat → List Nat)
def cStep (m : Nat → List Nat) (s : CS) (p : Nat × Option Nat) : CS :=
  (match p.2 with | none => s.1 | some a => fun x => if x = a then s.1 x ++ [wrap (m p.1) (s.1 p.1)] else s.1 x, fun x => if x = p.1 then wrap (m p.1) (s.1 p.1) else s.2 x)
def kidsIn (pre : PL) (v : Nat) : List Nat := pre.filterMap fun p => if p.2 = some v then some p.1 else none
theorem mem_kidsIn {pre : PL} {v c : Nat} : c ∈ kidsIn pre v ↔ (c, some v) ∈ pre := by
  unfold kidsIn
  rw [List.mem_filterMap]
  constructor
  · rintro ⟨⟨a, b⟩, h1, h2⟩
    split at h2
    · rename_i q; simp at q h2; subst q; subst h2; exact h1
    · cases h2
  · intro h; exact ⟨_, h, by simp⟩
theorem kidsIn_snoc (pre : PL) (v x : Nat) (o : Option Nat) : kidsIn (pre ++ [(v, o)]) x = kidsIn pre x ++ (if o = some x then [v] else []) := by
  unfold kidsIn
  rw [List.filterMap_append]
  by_cases c : o = some x <;> simp [c]
def cAll (m : Nat → List Nat) (pre : PL) : CS := pre.foldl (cStep m) (fun _ => [], fun _ => [])
structure CI (c : Nat) (m : Nat → List Nat) (all pre : PL) (s : CS) : Prop where
  done : ∀ v o, (v, o) ∈ pre → s.2 v = wrap (m v) ((kidsIn pre v).map s.2)
  now : ∀ v, s.1 v = (kidsIn pre v).map s.2
  len : (∀ p ∈ pre, p.2 ≠ none) → ∀ post, all = pre ++ post → sm post (fun p => sm (s.1 p.1) List.length) = (2 + c) * pre.length
section
variable {n r c : Nat} {rs : List (Nat × Nat)} {ps pre post : PL} {v a : Nat} {o : Option Nat} {m : Nat → List Nat}
theorem ci_all (h : Hedge n rs) (hr : r < n) (cm : Come n rs r ps) (hm : ∀ v, v < n → (m v).length = c) : ∀ pre post, ps.reverse = pre ++ post → CI c m ps.reverse pre (cAll m pre) := by
  have key : (∀ pre post, ps.reverse = pre ++ post → CI c m ps.reverse pre (cAll m pre)) := by
    intro pre
    refine snoc_ind (P := fun pre => ∀ post, ps.reverse = pre ++ post → CI c m ps.reverse pre (cAll m pre)) ?_ ?_ pre
    · intro post e
      exact ⟨by simp, fun v => rfl, fun _ post _ => by simp [cAll, sx_zero]⟩
    · rintro pre ⟨v, o⟩ ih post e
      rw [List.append_assoc] at e
      have b := ih _ e
      have e : ps.reverse = pre ++ (v, o) :: post := e
      have hfr := cm.fresh e
      have hall : cAll m (pre ++ [(v, o)]) = cStep m (cAll m pre) (v, o) := by unfold cAll; rw [List.foldl_append]; rfl
      rw [hall]
      generalize cAll m pre = s at b
      have hvm : (v, o) ∈ ps := by rw [← List.mem_reverse, e]; simp
      have hvn : v < n := cm.grow.lt h.forest hr v (List.mem_map_of_mem (f := (·.1)) hvm)
      have hkf : ∀ x, ∀ c ∈ kidsIn pre x, c ≠ v := by
        intro x c hc q
        subst q
        exact hfr (List.mem_map_of_mem (f := (·.1)) (mem_kidsIn.mp hc))
      have hmapf : ∀ x, (kidsIn pre x).map (fun y => if y = v then wrap (m v) (s.1 v) else s.2 y) = (kidsIn pre x).map s.2 := by
        intro x
        apply List.map_congr_left
        intro c hc
        rw [if_neg (hkf x c hc)]
      have hoa : ∀ a, o = some a → a ∉ pre.map (·.1) ∧ a ≠ v := by
        intro a q
        subst q
        have := cm.ahead e
        exact ⟨this.1, (h.adj_lt this.2).2.2⟩
      refine ⟨?_, ?_, ?_⟩
      · intro v' o' hm'
        show (if v' = v then _ else _) = wrap (m v') ((kidsIn (pre ++ [(v, o)]) v').map fun x => if x = v then wrap (m v) (s.1 v) else s.2 x)
        have hk : o ≠ some v' := by
          intro q
          have := hoa v' q
          rcases List.mem_append.mp hm' with q2 | q2
          · exact this.1 (List.mem_map_of_mem (f := (·.1)) q2)
          · simp at q2; exact this.2 q2.1
        rw [kidsIn_snoc, if_neg hk, List.append_nil, hmapf]
        rcases List.mem_append.mp hm' with q2 | q2
        · have : v' ≠ v := fun q => hfr (q ▸ List.mem_map_of_mem (f := (·.1)) q2)
          rw [if_neg this, b.done v' o' q2]
        · simp at q2
          rw [if_pos q2.1, q2.1, b.now v]
      · intro x
        show (match o with | none => s.1 | some a => fun x => if x = a then s.1 x ++ [wrap (m v) (s.1 v)] else s.1 x) x = (kidsIn (pre ++ [(v, o)]) x).map fun x => if x = v then wrap (m v) (s.1 v) else s.2 x
        rw [kidsIn_snoc, List.map_append, hmapf, ← b.now x]
        cases o with
        | none => simp
        | some a =>
          by_cases q : x = a
          · subst q; simp
          · simp [q, Ne.symm q]
      · intro hsome post' e'
        have hpp : post' = post := by
          rw [e, List.append_assoc] at e'
          have := List.append_cancel_left e'
          simpa using this.symm
        subst hpp
        have hl := b.len (fun p hp => hsome p (List.mem_append_left _ hp)) _ e
        cases o with
        | none => exact absurd rfl (hsome (v, none) (by simp))
        | some a =>
          have ha := hoa a rfl
          have hnd : (post'.map (·.1)).Nodup := by
            have := cm.grow.nodup
            have this := (List.reverse_perm _).nodup_iff.mpr this
            rw [← List.map_reverse, e, List.map_append, List.map_cons] at this
            exact (List.nodup_cons.mp (List.nodup_append.mp this).2.1).2
          have ham : a ∈ post'.map (·.1) := by
            have h1 := (cm.grow.up_mem _ _ hvm).1
            rw [← List.mem_reverse, ← List.map_reverse, e, List.map_append, List.map_cons, List.mem_append, List.mem_cons] at h1
            rcases h1 with h1 | h1 | h1
            · exact absurd h1 ha.1
            · exact absurd h1 ha.2
            · exact h1
          have hup := sx_update (xs := post'.map (·.1)) hnd (u := a) (d := (wrap (m v) (s.1 v)).length) ham
            (F := fun x => sm ((fun x => if x = a then s.1 x ++ [wrap (m v) (s.1 v)] else s.1 x) x) List.length) (G := fun x => sm (s.1 x) List.length)
            (fun y _ hy => by simp [hy]) (by simp [sx_append])
          rw [sx_map, sx_map] at hup
          show sm post' (fun p => sm ((fun x => if x = a then s.1 x ++ [wrap (m v) (s.1 v)] else s.1 x) p.1) List.length) = _
          rw [hup, wrap_len, hm v hvn]
          rw [sx_cons] at hl
          simp only [List.length_append, List.length_singleton, Nat.mul_add]
          simp only at hl
          omega
  exact key
theorem kidsIn_perm (h : Hedge n rs) (hr : r < n) (cm : Come n rs r ps) (hm : (v, o) ∈ ps) : (kidsIn ps.reverse v).Perm (kids rs v o) := by
  have hnd : (kidsIn ps.reverse v).Nodup := by
    have h1 : ((ps.reverse).map (·.1)).Nodup := by rw [List.map_reverse]; exact (List.reverse_perm _).nodup_iff.mpr cm.grow.nodup
    have : ∀ qs : PL, (qs.map (·.1)).Nodup → (kidsIn qs v).Nodup := by
      intro qs
      induction qs with
      | nil => intro _; exact List.nodup_nil
      | cons q qs ih =>
        intro hq
        rw [List.map_cons, List.nodup_cons] at hq
        unfold kidsIn
        rw [List.filterMap_cons]
        split
        · exact ih hq.2
        · rename_i b hb
          split at hb
          · cases hb
            refine List.nodup_cons.mpr ⟨fun hm => hq.1 ?_, ih hq.2⟩
            exact List.mem_map_of_mem (f := (·.1)) (mem_kidsIn.mp hm)
          · cases hb
    exact this _ h1
  refine (List.perm_ext_iff_of_nodup hnd ((h.forest.nb_nodup v).filter _)).mpr fun x => ?_
  rw [mem_kidsIn, List.mem_reverse]
  rw [List.mem_filter, h.forest.mem_nb, decide_eq_true_eq]
  constructor
  · intro hx
    have ha := (cm.grow.up_mem _ _ hx).2
    refine ⟨ha, fun q => ?_⟩
    subst q
    have hd : ∀ {x v : Nat}, (x, some v) ∈ ps → dist rs r x = dist rs r v + 1 := by
      intro x v hx
      obtain ⟨A, B, hAB⟩ := List.append_of_mem hx
      rcases cm.grow.at hAB with ⟨_, _, q⟩ | ⟨u, q, g, q2, q3, q4⟩
      · cases q
      · cases q; exact g.dist h q2 q3 q4
    have h1 := hd hx
    have h2 := hd hm
    omega
  · rintro ⟨ha, hne⟩
    rcases cm.edge h hr ha.symm with q | q
    · exact q
    · exact absurd (nodup_fst_eq cm.grow.nodup q hm) hne
/-- the texts told along the order are the codes -/
theorem cAll_cd (h : Hedge n rs) (hr : r < n) (cm : Come n rs r ps) (hm : ∀ v, v < n → (m v).length = c) : ∀ v o, (v, o) ∈ ps → Cd rs m o v ((cAll m ps.reverse).2 v) := by
  have b := ci_all h hr cm hm ps.reverse [] (by simp)
  generalize cAll m ps.reverse = s at b
  have key : ∀ pre post, ps.reverse = pre ++ post → ∀ v o, (v, o) ∈ pre → Cd rs m o v (s.2 v) := by
    intro pre
    refine snoc_ind (P := fun pre => ∀ post, ps.reverse = pre ++ post → ∀ v o, (v, o) ∈ pre → Cd rs m o v (s.2 v)) ?_ ?_ pre
    · intro _ _ v o hm; cases hm
    · rintro pre ⟨v, o⟩ ih post e v' o' hm'
      rw [List.append_assoc] at e
      rcases List.mem_append.mp hm' with q | q
      · exact ih _ e v' o' q
      · simp at q
        obtain ⟨rfl, rfl⟩ := q
        have e : ps.reverse = pre ++ (v', o') :: post := e
        have hvm : (v', o') ∈ ps.reverse := by rw [e]; simp
        have hp := kidsIn_perm h hr cm (List.mem_reverse.mp hvm)
        rw [b.done v' o' hvm, wrap_perm (hp.map s.2)]
        refine Cd.mk o' v' s.2 fun x hx => ?_
        have hxp := mem_kidsIn.mp (hp.mem_iff.mpr hx)
        refine ih _ e x (some v') ?_
        -- x stands in pre
        have hx2 : x ∈ pre.map (·.1) := by
          have h1 : x ∈ (ps.reverse).map (·.1) := List.mem_map_of_mem (f := (·.1)) hxp
          rw [e, List.map_append, List.map_cons, List.mem_append, List.mem_cons] at h1
          rcases h1 with h1 | h1 | h1
          · exact h1
          · have := (cm.grow.up_mem _ _ (List.mem_reverse.mp hxp)).2
            exact absurd h1.symm (h.adj_lt this).2.2
          · exfalso
            obtain ⟨P, Q, hPQ⟩ := List.append_of_mem (List.mem_map.mp h1).choose_spec.1
            have hxe := (List.mem_map.mp h1).choose_spec.2
            generalize (List.mem_map.mp h1).choose = w at hPQ hxe
            obtain ⟨w1, w2⟩ := w
            simp at hxe
            subst hxe
            have e2 : ps.reverse = (pre ++ (v', o') :: P) ++ (w1, w2) :: Q := by rw [e, hPQ]; simp
            have hw : (w1, w2) ∈ ps := by rw [← List.mem_reverse, e2]; simp
            have := nodup_fst_eq cm.grow.nodup hw (List.mem_reverse.mp hxp)
            subst this
            exact (cm.ahead e2).1 (by simp)
        obtain ⟨⟨x1, p1⟩, hx3, q3⟩ := List.mem_map.mp hx2
        simp at q3
        subst q3
        have : (x1, p1) ∈ ps := by rw [← List.mem_reverse, e]; exact List.mem_append_left _ hx3
        rw [nodup_fst_eq cm.grow.nodup (List.mem_reverse.mp hxp) this]
        exact hx3
  intro v o hvo
  exact key ps.reverse [] (by simp) v o (List.mem_reverse.mpr hvo)
theorem come_last (h : Hedge n rs) (hr : r < n) (cm : Come n rs r ps) : ∃ pre, ps.reverse = pre ++ [(r, none)] ∧ pre.length + 1 = n ∧ ∀ p ∈ pre, p.2 ≠ none := by
  obtain ⟨t, ht⟩ := cm.grow.head
  refine ⟨t.reverse, by rw [ht]; simp, ?_, ?_⟩
  · have := (cm.perm h hr).length_eq
    rw [ht] at this
    simpa using this
  · rintro ⟨v, o⟩ hp q
    simp at q hp
    subst q
    have h1 : (v, none) ∈ ps := by rw [ht]; exact List.mem_cons_of_mem _ hp
    have := cm.root_none h1
    subst this
    have hnd := cm.grow.nodup
    rw [ht, List.map_cons, List.nodup_cons] at hnd
    exact hnd.1 (List.mem_map_of_mem (f := (·.1)) hp)
/-- a text is no longer than all -/
theorem cAll_lens (h : Hedge n rs) (hr : r < n) (cm : Come n rs r ps) (hm : ∀ v, v < n → (m v).length = c) (e : ps.reverse = pre ++ (v, o) :: post) : sm ((cAll m pre).1 v) List.length ≤ (2 + c) * n := by
  have b := ci_all h hr cm hm pre _ e
  obtain ⟨p0, e0, hl0, hs0⟩ := come_last h hr cm
  have hpl : pre.length ≤ p0.length := by
    have h1 := congrArg List.length e
    have h2 := congrArg List.length e0
    simp at h1 h2
    omega
  have hpre : pre = p0.take pre.length := by
    have h1 : ps.reverse.take pre.length = pre := by rw [e]; simp
    rw [e0, List.take_append_of_le_length hpl] at h1
    exact h1.symm
  have := b.len (fun p hp => hs0 p (by rw [hpre] at hp; exact List.mem_of_mem_take hp)) _ e
  rw [sx_cons] at this
  have h2 : (2 + c) * pre.length ≤ (2 + c) * n := Nat.mul_le_mul_left _ (by omega)
  simp only at this
  omega
theorem cAll_root (h : Hedge n rs) (hr : r < n) (cm : Come n rs r ps) (hm : ∀ v, v < n → (m v).length = c) : ((cAll m ps.reverse).2 r).length = (2 + c) * n := by
  obtain ⟨p0, e0, hl0, hs0⟩ := come_last h hr cm
  have b := ci_all h hr cm hm p0 _ e0
  have := b.len hs0 _ e0
  rw [sx_cons, sx_nil] at this
  have e1 : cAll m ps.reverse = cStep m (cAll m p0) (r, none) := by rw [e0]; unfold cAll; rw [List.foldl_append]; rfl
  rw [e1]
  show (if r = r then wrap (m r) ((cAll m p0).1 r) else (cAll m p0).2 r).length = _
  rw [if_pos rfl, wrap_len, hm r hr]
  have e2 : (2 + c) * n = (2 + c) * p0.length + (2 + c) := by rw [← hl0, Nat.mul_add, Nat.mul_one]
  simp only at this ⊢
  omega
end
end Hg
end

section
set_option autoImplicit false
set_option maxHeartbeats 1000000
/-! Pcd: branch codes. -/
namespace Hg
@[simp] theorem strsD_str (B : List (List Nat)) : strsD (B.map D.str) = some B := by
  unfold strsD
  have := optAll_map (f := asStr) D.str id B (fun x _ => rfl)
  simpa using this
theorem glue_nil : ∀ B : List (List Nat), glue [] B = B.flatten
  | [] => rfl
  | [x] => by simp [glue]
  | x :: y :: r => by
    have := glue_nil (y :: r)
    simp [glue, this]
def tsD (B : List (List Nat)) : D := .lst (B.map D.str)
theorem sum_len (B : List (List Nat)) : ((sortS B).reverse.map List.length).sum = sm B List.length := sx_perm ((List.reverse_perm _).trans (sortS_perm B)) _
/-- "".join(sorted(B, reverse=True)) -/
theorem ev_joinR {C : Nat → List D → Option D} {a : E} {env : Env} {B : List (List Nat)} {k : Kd} (h : ev C a env = some (tsD B, k)) (hl : B.length < L) (hs : sm B List.length ≤ L) :
    ev C (.join (.c (.str [])) (.sortedR a)) env = some (.str (sortS B).reverse.flatten, .frz) := by
  have h1 : ev C (.sortedR a) env = some (tsD (sortS B).reverse, .new1) := by
    rw [q_ev_sortedR, h]
    simp [tsD, hl]
  have hR := sum_len B
  rw [q_ev_join, h1]
  generalize (sortS B).reverse = R at hR
  have hs' : (R.map List.length).sum ≤ L := by omega
  simp [tsD, glue_nil, D.atom, hs']
theorem ev_wrap {C : Nat → List D → Option D} {a : E} {env : Env} {B : List (List Nat)} {k : Kd} (h : ev C a env = some (tsD B, k)) (hl : B.length < L) (hs : sm B List.length ≤ 90000) :
    ev C (.add (.add (.c (.str [40])) (.join (.c (.str [])) (.sortedR a))) (.c (.str [41]))) env = some (.str (wrap [] B), .frz) := by
  have h1 := ev_joinR h hl (by rw [L_eq]; omega)
  have h2 : ((sortS B).reverse.flatten).length = sm B List.length := by rw [List.length_flatten]; exact sum_len B
  unfold wrap
  generalize (sortS B).reverse.flatten = X at h1 h2
  have e1 : addD (.str [40]) (.str X) = some (.str (40 :: X)) := addD_str (by rw [L_eq]; simp; omega)
  have e2 : addD (.str (40 :: X)) (.str [41]) = some (.str (40 :: (X ++ [41]))) := addD_str (by rw [L_eq]; simp; omega)
  rw [q_ev_add, q_ev_add, h1]
  simp [D.atom, e1, e2, nw, kdOf]
theorem ev_wrapM {C : Nat → List D → Option D} {a mk : E} {env : Env} {B : List (List Nat)} {m : List Nat} {k k' : Kd} (h : ev C a env = some (tsD B, k)) (hm : ev C mk env = some (.str m, k')) (hl : B.length < L) (hs : sm B List.length ≤ 90000) (hml : m.length ≤ 5) :
    ev C (.add (.add (.add (.c (.str [40])) mk) (.join (.c (.str [])) (.sortedR a))) (.c (.str [41]))) env = some (.str (wrap m B), .frz) := by
  have h1 := ev_joinR h hl (by rw [L_eq]; omega)
  have h2 : ((sortS B).reverse.flatten).length = sm B List.length := by rw [List.length_flatten]; exact sum_len B
  unfold wrap
  generalize (sortS B).reverse.flatten = X at h1 h2
  have e0 : addD (.str [40]) (.str m) = some (.str (40 :: m)) := addD_str (by rw [L_eq]; simp; omega)
  have e1 : addD (.str (40 :: m)) (.str X) = some (.str (40 :: (m ++ X))) := addD_str (by rw [L_eq]; simp; omega)
  have e2 : addD (.str (40 :: (m ++ X))) (.str [41]) = some (.str (40 :: (m ++ (X ++ [41])))) := by rw [addD_str (by rw [L_eq]; simp; omega)]; simp
  rw [q_ev_add, q_ev_add, q_ev_add, h1, hm]
  simp [D.atom, e0, e1, e2, nw, kdOf]
/-- what stands before a place of the order is short -/
theorem cAll_small {n r c : Nat} {rs : List (Nat × Nat)} {ps pre post : PL} {v : Nat} {o : Option Nat} {m : Nat → List Nat} (h : Hedge n rs) (hn : n ≤ 1000) (hr : r < n) (cm : Come n rs r ps) (hc : c ≤ 5) (hm : ∀ v, v < n → (m v).length = c) (e : ps.reverse = pre ++ (v, o) :: post) :
    (∀ x, ((cAll m pre).1 x).length + 1 < L) ∧ sm ((cAll m pre).1 v) List.length ≤ 90000 := by
  refine ⟨fun x => ?_, ?_⟩
  · have b := ci_all h hr cm hm pre _ e
    rw [b.now x, List.length_map]
    have h1 : (kidsIn pre x).length ≤ pre.length := List.length_filterMap_le _ _
    have h2 := (cm.perm h hr).length_eq
    have h3 := congrArg List.length e
    simp at h2 h3
    rw [L_eq]; omega
  · have h1 := cAll_lens h hr cm hm e
    have h2 : (2 + c) * n ≤ 7 * 1000 := Nat.mul_le_mul (by omega) hn
    omega
def csD (n : Nat) (f : Nat → List Nat) : D := .lst ((List.range n).map fun v => .str (f v))
def m0 : Nat → List Nat := fun _ => []
@[simp] theorem vm_str' (s : List Nat) (k : Kd) : vm (some (D.str s, k)) = some (.str s) := vm_str s k
theorem sp_branch_codes {n r : Nat} {rs : List (Nat × Nat)} (h : Hedge n rs) (hn : n ≤ 1000) (hr : r < n) : ∃ ps, s_parents [hD n rs, nD r] = some (psD ps) ∧ Come n rs r ps ∧ s_branch_codes [hD n rs, nD r] = some (csD n (cAll m0 ps.reverse).2) := by
  obtain ⟨ps, h1, hc⟩ := sp_parents h.forest hn (by have := h.len; omega) hr
  refine ⟨ps, h1, hc, ?_⟩
  unfold s_branch_codes
  refine runF_eq rfl ?_
  simp only [d_branch_codes, startEnv]
  simp
  have hlt := hc.grow.lt h.forest hr
  rw [ev_compD (List.range n) nD (fun _ => D.lst []) (own := false)]
  · simp
    rw [ev_compM (List.range n) nD (fun _ => D.str []) (own := false)]
    · simp
      refine for_step ps.reverse parD (fun s : CS => [.val (hD n rs) .frz, .val (nD r) .frz, .val (.lst ((List.range n).map fun v => tsD (s.1 v))) .own2, .un, .val (csD n s.2) .own1, .un, .un])
        (fun pre s => s = cAll m0 pre) (fun _ => [], fun _ => []) ?_ rfl rfl ?_ ?_
      · simp [h1, psD]
      · rintro pre ⟨v, o⟩ post s e hs
        obtain ⟨z1, z2⟩ := cAll_small h hn hr hc (c := 0) (m := m0) (by omega) (fun _ _ => rfl) e
        rw [← hs] at z1 z2
        refine ⟨cStep m0 s (v, o), ?_, by rw [hs]; unfold cAll; rw [List.foldl_append]; rfl⟩
        have hm : (v, o) ∈ ps := by rw [← List.mem_reverse, e]; simp
        have hv : v < n := hlt v (List.mem_map_of_mem (f := (·.1)) hm)
        have hw : ev (calls [(9, s_parents)]) (.add (.add (.c (.str [40])) (.join (.c (.str [])) (.sortedR (.ix (.var 2) (.var 5))))) (.c (.str [41]))) [.val (hD n rs) .frz, .val (nD r) .frz, .val (.lst ((List.range n).map fun v => tsD (s.1 v))) .own2, .un, .val (csD n s.2) .own1, .val (nD v) .frz, .val (oD o) .frz] = some (.str (wrap [] (s.1 v)), .frz) :=
          ev_wrap (k := .own1) (by simp [hv]) (by have := z1 v; omega) z2
        cases o with
        | none =>
          simp [parD, oD, -q_ev_add] at hw ⊢
          rw [hw]
          simp [csD, ixN_nat hv, map_range_set, cStep, m0]
          intro a _
          by_cases q : a = v <;> simp [q]
        | some u =>
          have hu : u < n := hlt u (hc.grow.up_mem _ _ hm).1
          have zu := z1 u
          simp [parD, oD, -q_ev_add] at hw ⊢
          rw [hw]
          have zu' : (s.1 u).length < L := by omega
          simp [csD, ixN_nat hv, ixN_nat hu, hu, hv, map_range_set, cStep, m0, tsD, zu']
          refine ⟨fun a _ => ?_, fun a _ => ?_⟩
          · by_cases q : a = u
            · subst q; simp
            · simp [q]
          · by_cases q : a = v <;> simp [q]
      · intro s hs
        subst hs
        simp [freeze1]
    · exact evI_rng rfl hn
    · intro v hv
      exact ⟨_, rfl, .frz, rfl, rfl⟩
    · simp [L_eq]; omega
  · exact evI_rng rfl hn
  · intro v hv
    exact ⟨_, rfl, by simp⟩
  · simp [L_eq]; omega
theorem sp_code_from {n r : Nat} {rs : List (Nat × Nat)} (h : Hedge n rs) (hn : n ≤ 1000) (hr : r < n) : ∃ t, s_code_from [hD n rs, nD r] = some (.str t) ∧ Cd rs m0 none r t ∧ t.length = 2 * n := by
  obtain ⟨ps, _, hc, h1⟩ := sp_branch_codes h hn hr
  obtain ⟨tl, ht⟩ := hc.grow.head
  refine ⟨(cAll m0 ps.reverse).2 r, ?_, cAll_cd h hr hc (c := 0) (fun _ _ => rfl) r none (by rw [ht]; simp), ?_⟩
  · unfold s_code_from
    refine runF_eq rfl ?_
    simp [d_code_from, startEnv, h1, csD, hr]
  · have := cAll_root h hr hc (c := 0) (m := m0) (fun _ _ => rfl)
    simpa using this
def ahD : Option Nat → D | none => .int (-1) | some u => nD u
def trD (p : Nat × Option Nat) : D := .tup [nD p.1, ahD p.2]
@[simp] theorem plainD_ahD (n : Nat) (a : Option Nat) : plainD n (ahD a) = true := by cases a <;> simp [ahD]
@[simp] theorem eqD_na (x : Nat) (a : Option Nat) : eqD (nD x) (ahD a) = decide (some x = a) := by
  cases a with
  | none => simp [ahD, nD]
  | some y => simp [ahD]
theorem sp_l_tree {n r : Nat} {rs : List (Nat × Nat)} (hf : Forest n rs) (hn : n ≤ 1000) (hl : rs.length ≤ 1000) (hr : r < n) : ∃ ps, s_l_tree [rowsD ((List.range n).map (nb rs)), nD r] = some (.lst (ps.map trD)) ∧ Come n rs r ps := by
  have key : ∃ d, s_l_tree [rowsD ((List.range n).map (nb rs)), nD r] = some d ∧ ∃ ps, d = .lst (ps.map trD) ∧ Come n rs r ps := by
    refine runF_R rfl ?_
    simp only [d_l_tree, startEnv]
    simp
    refine wh_R (R := fun o => ∃ d, o = some (.rt d) ∧ ∃ ps, d = .lst (ps.map trD) ∧ Come n rs r ps)
      (fun b : Nat × PL => [.val (rowsD ((List.range n).map (nb rs))) .frz, .val (nD r) .frz, .val (.lst (b.2.map trD)) .frz, .val (nD b.1) .frz, .un, .un, .un])
      (fun b => BInv rs r b.1 b.2) (fun b => b.1 = b.2.length) (fun b => n - b.1) (0, [(r, none)]) rfl ⟨Grow.root, Nat.zero_le _, by simp, by simp⟩ (by show n - 0 < FU; rw [FU_eq]; omega) ?_ ?_
    · rintro ⟨at_, ps⟩ b
      simp only at b
      have hps : ps.length ≤ n := by
        have := nodup_len b.g.nodup (b.g.lt hf hr)
        simpa using this
      by_cases c : at_ < ps.length
      · refine .inl ⟨?_, ?_⟩
        · have c2 : (at_ : Int) < (ps.length : Int) := by omega
          simp [nD, c2, c]
        · cases hp : ps[at_] with | mk h a =>
          have hat : ps[at_]? = some (h, a) := by rw [List.getElem?_eq_getElem c, hp]
          have hlt : h < n := b.g.lt hf hr h (List.mem_map_of_mem (f := (·.1)) (hp ▸ List.getElem_mem c))
          refine ⟨(at_ + 1, ps ++ (kids rs h a).map fun o => (o, some h)), ?_, b.step hf hr hat, by show n - (at_ + 1) < n - at_; omega⟩
          have e1 : ixV (.lst (ps.map trD), .frz) (nD at_) = some (trD (h, a), .frz) := by
            simp [nD, hat]
          have hk : (kids rs h a).length ≤ rs.length := Nat.le_trans (List.length_filter_le _ _) (nb_len rs h)
          simp [e1, trD]
          rw [ev_comp (nb rs h) nD (fun o => decide (some o ≠ a)) (fun o => trD (o, some h)) (own := false)]
          · have hlen : ps.length + (kids rs h a).length ≤ L := by rw [L_eq]; omega
            have hadd : addD (.lst (ps.map trD)) (.lst ((kids rs h a).map fun o => trD (o, some h))) = some (.lst (ps.map trD ++ (kids rs h a).map fun o => trD (o, some h))) := addD_lst (by simpa using hlen)
            have hadd2 : addD (.lst (ps.map trD)) (.lst ((kids rs h a).map fun o => D.tup [nD o, nD h])) = some (.lst (ps.map trD ++ (kids rs h a).map fun o => trD (o, some h))) := hadd
            show andThen ((nw ((some (D.lst (ps.map trD))).bind fun x => (em (some (D.lst ((kids rs h a).map fun o => trD (o, some h)), Kd.new1))).bind fun y => addD x y)).bind _) _ = _
            have nwL : ∀ x : List D, nw (some (D.lst x)) = some (.lst x, .new1) := fun _ => rfl
            simp [trD, ahD, Function.comp_def] at hadd2 ⊢
            simp [hadd2, nwL]
          · simp [hlt]
          · intro o ho
            refine ⟨_, rfl, ?_, fun _ => ⟨.frz, ?_, rfl⟩⟩
            · simp [PD8]
            · simp [trD, ahD]
          · have := nb_len rs h; rw [L_eq]; omega
      · refine .inr ⟨?_, ?_⟩
        · have c2 : ¬ (at_ : Int) < (ps.length : Int) := by omega
          simp [nD, c2, c]
        · have := b.a
          show at_ = ps.length
          omega
    · rintro ⟨at_, ps⟩ b hd
      simp at hd
      subst hd
      refine ⟨_, ?_, ps, rfl, b.done hf⟩
      simp
  obtain ⟨d, h1, ps, h2, h3⟩ := key
  exact ⟨ps, h2 ▸ h1, h3⟩
theorem sp_l_code {n r : Nat} {rs : List (Nat × Nat)} (h : Hedge n rs) (hn : n ≤ 1000) (hr : r < n) : ∃ t, s_l_code [rowsD ((List.range n).map (nb rs)), nD r] = some (.str t) ∧ Cd rs m0 none r t := by
  obtain ⟨ps, h1, hc⟩ := sp_l_tree h.forest hn (by have := h.len; omega) hr
  obtain ⟨tl, ht⟩ := hc.grow.head
  refine ⟨(cAll m0 ps.reverse).2 r, ?_, cAll_cd h hr hc (c := 0) (fun _ _ => rfl) r none (by rw [ht]; simp)⟩
  obtain ⟨p0, e0, _, _⟩ := come_last h hr hc
  unfold s_l_code
  refine runF_eq rfl ?_
  simp only [d_l_code, startEnv]
  simp
  have hlt := hc.grow.lt h.forest hr
  rw [ev_compD (List.range n) (fun v => nsD (nb rs v)) (fun _ => D.lst []) (own := false)]
  · simp
    refine for_step ps.reverse trD (fun b : CS × List Nat => [.val (rowsD ((List.range n).map (nb rs))) .frz, .val (nD r) .frz, .val (.lst ((List.range n).map fun v => tsD (b.1.1 v))) .own2, .un, .val (.str b.2) .frz, .un, .un])
      (fun pre b => b.1 = cAll m0 pre ∧ ∀ p, pre.getLast? = some p → b.2 = b.1.2 p.1) ((fun _ => [], fun _ => []), []) ?_ rfl ⟨rfl, by simp⟩ ?_ ?_
    · simp [h1]
    · rintro pre ⟨v, o⟩ post ⟨s, t⟩ e ⟨hs, _⟩
      simp only at hs
      obtain ⟨z1, z2⟩ := cAll_small h hn hr hc (c := 0) (m := m0) (by omega) (fun _ _ => rfl) e
      rw [← hs] at z1 z2
      refine ⟨(cStep m0 s (v, o), wrap [] (s.1 v)), ?_, by rw [hs]; unfold cAll; rw [List.foldl_append]; rfl, by simp [cStep, m0]⟩
      have hm : (v, o) ∈ ps := by rw [← List.mem_reverse, e]; simp
      have hv : v < n := hlt v (List.mem_map_of_mem (f := (·.1)) hm)
      have hw : ev (calls [(28, s_l_tree)]) (.add (.add (.c (.str [40])) (.join (.c (.str [])) (.sortedR (.ix (.var 2) (.var 5))))) (.c (.str [41]))) [.val (rowsD ((List.range n).map (nb rs))) .frz, .val (nD r) .frz, .val (.lst ((List.range n).map fun v => tsD (s.1 v))) .own2, .un, .val (.str t) .frz, .val (nD v) .frz, .val (ahD o) .frz] = some (.str (wrap [] (s.1 v)), .frz) :=
        ev_wrap (k := .own1) (by simp [hv]) (by have := z1 v; omega) z2
      cases o with
      | none =>
        simp [trD, ahD, -q_ev_add] at hw ⊢
        rw [hw]
        simp [cStep, m0]
      | some u =>
        have hu : u < n := hlt u (hc.grow.up_mem _ _ hm).1
        have zu := z1 u
        simp [trD, ahD, -q_ev_add] at hw ⊢
        rw [hw]
        have zu' : (s.1 u).length < L := by omega
        have hu0 : ¬ ((u : Int) < 0) := by omega
        simp [nD, ixN_nat hu, hu, map_range_set, cStep, m0, tsD, zu', hu0]
        intro a _
        by_cases q : a = u
        · subst q; simp
        · simp [q]
    · rintro ⟨s, t⟩ ⟨hs, ht2⟩
      have := ht2 (r, none) (by rw [e0]; simp)
      simp only at hs this
      subst hs
      simp [this]
  · simp [rowsD]
  · intro v hv
    exact ⟨_, rfl, by simp⟩
  · simp [L_eq]; omega
end Hg
end

section
set_option autoImplicit false
set_option maxHeartbeats 1000000
/-! Psh: shown, read. -/
namespace Hg
def okNum (n : Nat) (s : List Nat) : Bool := decide (1 ≤ s.length) && decide (s.length ≤ 2) && (decide (s.length ≠ 2) || decide (s[0]? ≠ some 48)) && (s.all fun c => decide (48 ≤ c) && decide (c ≤ 57)) && decide (intOf s = some (n : Int))
def digs (n : Nat) : List Nat := if n < 10 then [48 + n] else [48 + n / 10, 48 + n % 10]
theorem toDigs : ∀ n : Fin 50, (Nat.toDigits 10 n.val).map Char.toNat = digs n.val := by decide +kernel
theorem strOf_digs {n : Nat} (hn : n < 50) : strOf (n : Int) = digs n := by
  show ((toString (n : Int)).toList.map Char.toNat) = digs n
  have e : toString (n : Int) = String.ofList (Nat.toDigits 10 n) := rfl
  rw [e, String.toList_ofList]
  exact toDigs ⟨n, hn⟩
theorem digs_ok : ∀ n : Fin 50, okNum n.val (digs n.val) = true := by decide +kernel
structure OkNum (n : Nat) (s : List Nat) : Prop where
  l1 : 1 ≤ s.length
  l2 : s.length ≤ 2
  z : s.length ≠ 2 ∨ s[0]? ≠ some 48
  d : ∀ c ∈ s, 48 ≤ c ∧ c ≤ 57
  v : intOf s = some (n : Int)
theorem num_ok {n : Nat} (hn : n < 50) : OkNum n (digs n) := by
  have h := digs_ok ⟨n, hn⟩
  simp only [okNum, Bool.and_eq_true, Bool.or_eq_true, decide_eq_true_eq, List.all_eq_true] at h
  exact ⟨h.1.1.1.1, h.1.1.1.2, h.1.1.2, h.1.2, h.2⟩
theorem ev_strI {C : Nat → List D → Option D} {a : E} {env : Env} {n : Nat} {k : Kd} (h : ev C a env = some (nD n, k)) (hn : n < 50) : ev C (.strI a) env = some (.str (digs n), .frz) := by
  obtain ⟨i, hi⟩ : ∃ i : Int, i = (n : Int) := ⟨_, rfl⟩
  have e1 : (0 : Int) ≤ i := by omega
  have e2 : i < 1000 := by omega
  have e3 : strOf i = digs n := by rw [hi]; exact strOf_digs hn
  have h' : ev C a env = some (.int i, k) := by rw [h, hi]; rfl
  clear hi h hn
  rw [q_ev_strI, h']
  simp only [bm_some, Option.bind_some, q_asInt]
  rw [if_pos ⟨e1, e2⟩, e3]
/-! ### texts cut at a sign -/
theorem split_app (c : Nat) : ∀ (x acc r : List Nat), c ∉ x → splitC c acc (x ++ c :: r) = (acc ++ x) :: splitC c [] r
  | [], acc, r, _ => by
    show (if c = c then _ else _) = _
    rw [if_pos rfl]; simp
  | y :: x, acc, r, h => by
    have hy : ¬ y = c := fun q => h (by simp [q])
    show (if y = c then _ else splitC c (acc ++ [y]) (x ++ c :: r)) = _
    rw [if_neg hy, split_app c x (acc ++ [y]) r fun q => h (List.mem_cons_of_mem _ q)]
    simp
theorem split_end (c : Nat) : ∀ (x acc : List Nat), c ∉ x → splitC c acc x = [acc ++ x]
  | [], acc, _ => by simp [splitC]
  | y :: x, acc, h => by
    have hy : ¬ y = c := fun q => h (by simp [q])
    show (if y = c then _ else splitC c (acc ++ [y]) x) = _
    rw [if_neg hy, split_end c x (acc ++ [y]) fun q => h (List.mem_cons_of_mem _ q)]
    simp
theorem split_glue (c : Nat) : ∀ (P : List (List Nat)), P ≠ [] → (∀ p ∈ P, c ∉ p) → splitC c [] (glue [c] P) = P
  | [], h, _ => absurd rfl h
  | [x], _, h => by
    show splitC c [] x = _
    rw [split_end c x [] (h x (by simp))]; rfl
  | x :: y :: P, _, h => by
    show splitC c [] (x ++ [c] ++ glue [c] (y :: P)) = _
    rw [List.append_assoc]
    show splitC c [] (x ++ c :: glue [c] (y :: P)) = _
    rw [split_app c x [] _ (h x (by simp)), split_glue c (y :: P) (by simp) fun p hp => h p (List.mem_cons_of_mem _ hp)]
    rfl
theorem glue_cons (c : List Nat) : ∀ (x : List Nat) (P : List (List Nat)), glue c (x :: P) = x ++ (P.map fun p => c ++ p).flatten
  | x, [] => by simp [glue]
  | x, y :: P => by
    show x ++ c ++ glue c (y :: P) = _
    rw [glue_cons c y P]
    simp
def rowT (e : Nat × Nat) : List Nat := digs e.1 ++ [45] ++ digs e.2
def textH (n : Nat) (rs : List (Nat × Nat)) : List Nat := glue [32] (digs n :: rs.map rowT)
theorem digs_len {n : Nat} (hn : n < 50) : (digs n).length ≤ 2 := (num_ok hn).l2
theorem textH_len {n : Nat} {rs : List (Nat × Nat)} (hn : n < 50) (hr : ∀ e ∈ rs, e.1 < 50 ∧ e.2 < 50) : (textH n rs).length ≤ 2 + 6 * rs.length := by
  unfold textH
  rw [glue_cons, List.length_append]
  have h1 := digs_len hn
  have : ∀ l : List (Nat × Nat), (∀ e ∈ l, e.1 < 50 ∧ e.2 < 50) → (((l.map rowT).map fun p => [32] ++ p).flatten).length ≤ 6 * l.length := by
    intro l
    induction l with
    | nil => intro _; simp
    | cons e l ih =>
      intro h
      have ih := ih fun x hx => h x (List.mem_cons_of_mem _ hx)
      obtain ⟨a, b⟩ := h e (by simp)
      have := digs_len a
      have := digs_len b
      simp only [List.map_cons, List.flatten_cons, List.length_append, List.length_cons, rowT, List.length_nil] at ih ⊢
      omega
  have := this rs hr
  omega
theorem sp_whole_t {n : Nat} (hn : n < 50) : s_whole [.str (digs n)] = some (nD n) := by
  have h := num_ok hn
  generalize digs n = s at h
  have hL : s.length ≤ L := by rw [L_eq]; have := h.l2; omega
  unfold s_whole
  refine runF_eq rfl ?_
  simp only [d_whole, startEnv]
  have i1 : (1 : Int) ≤ s.length := by have := h.l1; omega
  have i2 : (s.length : Int) ≤ 2 := by have := h.l2; omega
  have hz : ∀ p : Bool, evT (calls []) (.or_ (.not_ (.val (.ch .le .le (.c (.int 1)) (.len (.var 0)) (.c (.int 2))))) (.one (.and_ (.val (.eq (.len (.var 0)) (.c (.int 2)))) (.one (.val (.eq (.ix (.var 0) (.c (.int 0))) (.c (.str [48])))))))) [.val (.str s) .frz, .un] = some false := by
    intro _
    obtain ⟨a, ha⟩ : ∃ a, s[0]? = some a := ⟨s[0]'(by have := h.l1; omega), List.getElem?_eq_getElem _⟩
    have hix : ixV (.str s, .frz) (.int 0) = some (.str [a], .frz) := by rw [ixV_s _ _ _ hL]; simp [ha]
    have p1 : plainD PD (.str [a]) = true := by
      rw [plainD_str]
      have := h.d a (List.mem_of_getElem? ha)
      simp; omega
    have p2 : plainD PD (.str [48]) = true := by rw [plainD_str]; rfl
    simp [q_lenL_s s hL, coB, i1, i2]
    by_cases c : (s.length : Int) = 2
    · have ha2 : ¬ a = 48 := by
        rcases h.z with z | z
        · exact absurd c (by omega)
        · rw [ha] at z
          exact fun q => z (by rw [q])
      simp [c, PD8]
      rw [PD8] at p1 p2
      simp [hix, p1, p2, ha2]
    · simp [c, PD8]
  refine x_ite false (hz true) ?_
  simp
  refine for_step s (fun c => D.str [c]) (fun _ : Unit => [.val (.str s) .frz, .un]) (fun _ _ => True) () (by simp) rfl trivial ?_ ?_
  · rintro pre c post _ e _
    have hc := h.d c (by rw [e]; simp)
    refine ⟨(), ?_, trivial⟩
    have hm : memD (.str [c]) (.str [48, 49, 50, 51, 52, 53, 54, 55, 56, 57]) = some true := by
      show some (decide (c ∈ [48, 49, 50, 51, 52, 53, 54, 55, 56, 57])) = _
      rw [decide_eq_true]
      simp
      omega
    simp [hm]
  · rintro _ _
    simp [h.v, nD]
theorem free_digs {n c : Nat} (hn : n < 50) (hc : c < 48) : c ∉ digs n := fun q => by
  have := (num_ok hn).d c q
  omega
theorem sp_rod_read {a b : Nat} (ha : a < 50) (hb : b < 50) : s_rod_read [.str (rowT (a, b))] = some (rodD (a, b)) := by
  have e : splitC 45 [] (rowT (a, b)) = [digs a, digs b] := by
    unfold rowT
    rw [List.append_assoc]
    show splitC 45 [] (digs a ++ 45 :: digs b) = _
    rw [split_app 45 (digs a) [] _ (free_digs ha (by omega)), split_end 45 (digs b) [] (free_digs hb (by omega))]
    rfl
  have h1 := sp_whole_t ha
  have h2 := sp_whole_t hb
  have hl : (rowT (a, b)).length + 2 ≤ L := by
    have := digs_len ha
    have := digs_len hb
    simp only [rowT, List.length_append, List.length_cons, List.length_nil]
    rw [L_eq]; omega
  unfold s_rod_read
  refine runF_eq rfl ?_
  simp only [d_rod_read, startEnv]
  simp [hl, e, PD8, h1, h2]
  simp [rodD, nD]
theorem sp_shown {n : Nat} {rs : List (Nat × Nat)} (h : Hedge n rs) (hn : n < 50) : s_shown [hD n rs] = some (.str (textH n rs)) := by
  have hlen := h.len
  have hr : ∀ e ∈ rs, e.1 < 50 ∧ e.2 < 50 := fun e he => by have := h.lt he; omega
  unfold s_shown
  refine runF_eq rfl ?_
  simp only [d_shown, startEnv]
  have e1 : ev (calls []) (.strI (.ix (.var 0) (.c (.int 0)))) [.val (hD n rs) .frz, .un, .un] = some (.str (digs n), .frz) := ev_strI (k := .frz) (by simp [nD]) hn
  have e2 : ev (calls []) (.comp false (.add (.add (.strI (.var 1)) (.c (.str [45]))) (.strI (.var 2))) (.tp [1, 2]) (.lst (.ix (.var 0) (.c (.int 1)))) (.yes)) [.val (hD n rs) .frz, .un, .un] = some (.lst (rs.map fun e => .str (rowT e)), .new1) := by
    refine ev_compM rs rodD (fun e => D.str (rowT e)) (own := false) rfl ?_ (by rw [L_eq]; omega)
    rintro ⟨a, b⟩ he
    obtain ⟨ha, hb⟩ := hr _ he
    simp only at ha hb
    refine ⟨_, rfl, .frz, ?_, rfl⟩
    have f1 : ev (calls []) (.strI (.var 1)) [.val (hD n rs) .frz, .val (.int a) .frz, .val (.int b) .frz] = some (.str (digs a), .frz) := ev_strI (k := .frz) rfl ha
    have f2 : ev (calls []) (.strI (.var 2)) [.val (hD n rs) .frz, .val (.int a) .frz, .val (.int b) .frz] = some (.str (digs b), .frz) := ev_strI (k := .frz) rfl hb
    have l1 := digs_len ha
    have l2 := digs_len hb
    have g1 : addD (.str (digs a)) (.str [45]) = some (.str (digs a ++ [45])) := addD_str (by have e : L = 100000 := rfl; simp only [List.length_cons, List.length_nil]; omega)
    have g2 : addD (.str (digs a ++ [45])) (.str (digs b)) = some (.str (rowT (a, b))) := addD_str (by have e : L = 100000 := rfl; simp only [List.length_append, List.length_cons, List.length_nil]; omega)
    show ev (calls []) _ [.val (hD n rs) .frz, .val (.int a) .frz, .val (.int b) .frz] = _
    simp only [q_ev_add, f1, f2]
    simp [g1]
    simp [g2]
  have e3 : strsD (D.str (digs n) :: rs.map fun e => D.str (rowT e)) = some (digs n :: rs.map rowT) := by
    have := strsD_str (digs n :: rs.map rowT)
    rw [List.map_cons, List.map_map] at this
    exact this
  have hsum : ((digs n :: rs.map rowT).map List.length).sum + (digs n :: rs.map rowT).length * 1 ≤ L := by
    have h1 := digs_len hn
    have : ∀ l : List (Nat × Nat), (∀ e ∈ l, e.1 < 50 ∧ e.2 < 50) → ((l.map rowT).map List.length).sum ≤ 5 * l.length := by
      intro l
      induction l with
      | nil => intro _; simp
      | cons e l ih =>
        intro h
        have ih := ih fun x hx => h x (List.mem_cons_of_mem _ hx)
        obtain ⟨a, b⟩ := h e (by simp)
        have := digs_len a
        have := digs_len b
        simp only [List.map_cons, List.sum_cons, List.length_append, List.length_cons, rowT, List.length_nil] at ih ⊢
        omega
    have := this rs hr
    simp only [List.map_cons, List.sum_cons, List.length_cons, List.length_map]
    rw [L_eq]
    omega
  have e4 : [D.str (digs n)].length + (rs.map fun e => D.str (rowT e)).length ≤ L := by simp [L_eq]; omega
  have e5 := addD_lst e4
  have e6 : ev (calls []) (.add (.lst (.cons (.strI (.ix (.var 0) (.c (.int 0)))) (.nil))) (.comp false (.add (.add (.strI (.var 1)) (.c (.str [45]))) (.strI (.var 2))) (.tp [1, 2]) (.lst (.ix (.var 0) (.c (.int 1)))) (.yes))) [.val (hD n rs) .frz, .un, .un] = some (.lst ([D.str (digs n)] ++ rs.map fun e => D.str (rowT e)), .new1) := by
    rw [q_ev_add, q_ev_lst, q_evs_cons, q_evs_nil, e1, e2]
    simp only [vm_frz, Option.bind_some, List.length_cons, List.length_nil, Nat.zero_add, L1, if_true, em_new1, e5, q_nwL]
  have e7 : ev (calls []) (.join (.c (.str [32])) (.add (.lst (.cons (.strI (.ix (.var 0) (.c (.int 0)))) (.nil))) (.comp false (.add (.add (.strI (.var 1)) (.c (.str [45]))) (.strI (.var 2))) (.tp [1, 2]) (.lst (.ix (.var 0) (.c (.int 1)))) (.yes)))) [.val (hD n rs) .frz, .un, .un] = some (.str (textH n rs), .frz) := by
    rw [q_ev_join, e6]
    have e8 : bm (ev (calls []) (.c (.str [32])) [.val (hD n rs) .frz, .un, .un]) = some (.str [32]) := rfl
    rw [e8]
    simp only [Option.bind_some, bm_some]
    rw [show [D.str (digs n)] ++ (rs.map fun e => D.str (rowT e)) = D.str (digs n) :: rs.map fun e => D.str (rowT e) from rfl, e3]
    simp only [Option.bind_some]
    exact if_pos hsum
  rw [q_exec_seq, q_exec_ret]
  show andThen (Option.map Out.rt (vm (ev (calls []) _ [.val (hD n rs) .frz, .un, .un]))) _ = _
  rw [e7]
  rfl
theorem cut_from1 (x : D) (xs : List D) : cut (x :: xs) (some 1) none = xs := by
  have := cut_from (x :: xs) 1 (by simp)
  simpa using this
theorem sp_read {n : Nat} {rs : List (Nat × Nat)} (h : Hedge n rs) (hn : n ≤ 40) : s_read [.str (textH n rs)] = some (hD n rs) := by
  have hlen := h.len
  have hr : ∀ e ∈ rs, e.1 < 50 ∧ e.2 < 50 := fun e he => by have := h.lt he; omega
  have hl := textH_len (n := n) (by omega) hr
  have hL : (textH n rs).length + 2 ≤ L := by rw [L_eq]; omega
  have h1 := sp_whole_t (n := n) (by omega)
  have h2 := sp_checked h hn
  have hs : splitC 32 [] (textH n rs) = digs n :: rs.map rowT := by
    refine split_glue 32 _ (by simp) fun p hp => ?_
    rcases List.mem_cons.mp hp with rfl | hp
    · exact free_digs (by omega) (by omega)
    · obtain ⟨e, he, rfl⟩ := List.mem_map.mp hp
      obtain ⟨ha, hb⟩ := hr e he
      unfold rowT
      simp only [List.mem_append, List.mem_singleton, not_or]
      exact ⟨⟨free_digs ha (by omega), by omega⟩, free_digs hb (by omega)⟩
  unfold s_read
  refine runF_eq rfl ?_
  simp only [d_read, startEnv]
  simp [isTy, hL, hs, h1]
  have hc := cut_from1 (.str (digs n)) (rs.map fun e => D.str (rowT e))
  rw [ev_compM rs (fun e => D.str (rowT e)) rodD (own := false)]
  · have e : D.tup [nD n, D.lst (rs.map rodD)] = hD n rs := rfl
    simp [e, h2]
  · have hc' : cut (D.str (digs n) :: rs.map (D.str ∘ rowT)) (some 1) none = rs.map (D.str ∘ rowT) := hc
    simp [hc']
  · rintro ⟨a, b⟩ he
    obtain ⟨ha, hb⟩ := hr _ he
    refine ⟨_, rfl, .frz, ?_, rfl⟩
    simp [sp_rod_read ha hb]
  · rw [L_eq]; omega
end Hg
end

section
set_option autoImplicit false
/-! Eqx: equations for defs that raise; what they tell where nothing is raised. -/
namespace Hg
@[simp] theorem getIx_2 {α : Type} (xs : List α) : getIx xs 2 = xs[2]? := getIx_nat xs 2
@[simp] theorem getIx_3 {α : Type} (xs : List α) : getIx xs 3 = xs[3]? := getIx_nat xs 3
@[simp] theorem getIx_4 {α : Type} (xs : List α) : getIx xs 4 = xs[4]? := getIx_nat xs 4
@[simp] theorem getIx_5 {α : Type} (xs : List α) : getIx xs 5 = xs[5]? := getIx_nat xs 5
@[simp] theorem getIx_6 {α : Type} (xs : List α) : getIx xs 6 = xs[6]? := getIx_nat xs 6
@[simp] theorem getIx_7 {α : Type} (xs : List α) : getIx xs 7 = xs[7]? := getIx_nat xs 7
@[simp] theorem getIx_8 {α : Type} (xs : List α) : getIx xs 8 = xs[8]? := getIx_nat xs 8
@[simp] theorem getIx_9 {α : Type} (xs : List α) : getIx xs 9 = xs[9]? := getIx_nat xs 9
section
variable (C : Nat → List D → Option D) (R : Nat → List D → Option RV)
@[simp] theorem q_evI_enumS {e} {env : Env} : evI C (.enumS e) env = (bm (ev C e env)).bind fun x => match x with
      | .str s => some (enumFrom 0 (s.map fun c => D.str [c]), false)
      | _ => none := by simp only [evI] <;> rfl
@[simp] theorem q_ev_mulL {a b} {env : Env} : ev C (.mulL a b) env = (ev C a env).bind fun p => (bm (ev C b env)).bind fun y => match p.1, p.2, y with
      | .lst xs, .new1, .int j => if 0 ≤ j ∧ j ≤ 1000 ∧ xs.length * j.toNat ≤ L then some (.lst (List.replicate j.toNat xs).flatten, .new1) else none
      | _, _, _ => none := by simp only [ev] <;> rfl
@[simp] theorem qx_ok {e env} : evX C R (.ok e) env = (vm (ev C e env)).map RV.ok := by simp only [evX]
@[simp] theorem qx_call {f m es env} : evX C R (.call f m es) env = (evm C m es env).bind (R f) := by simp only [evX]
@[simp] theorem qx_tup {es env} : evX C R (.tup es) env = (evXs C R es env).bind fun r => match r with
    | .inl ds => if ds.length ≤ L then some (.ok (.tup ds)) else none
    | .inr x => some (.ex x) := by simp only [evX] <;> rfl
@[simp] theorem qx_nil {env} : evXs C R .nil env = some (.inl []) := by simp only [evXs]
@[simp] theorem qx_cons {e r env} : evXs C R (.cons e r) env = (evX C R e env).bind fun v => match v with
    | .ex x => some (.inr x)
    | .ok d => (evXs C R r env).map fun r => match r with | .inl ds => .inl (d :: ds) | .inr x => .inr x := by simp only [evXs] <;> rfl
@[simp] theorem qx_st {s env} : execX C R (.st s) env = (exec C FU s env).map toX := by simp only [execX]
@[simp] theorem qx_seq {a b env} : execX C R (.seq a b) env = andX (execX C R a env) (execX C R b) := by simp only [execX]
@[simp] theorem qx_ite {t a b env} : execX C R (.ite t a b) env = (evT C t env).bind fun p => if p then execX C R a env else execX C R b env := by simp only [execX]
@[simp] theorem qx_raise {c env} : execX C R (.raise c none) env = some (.ex ⟨c, none⟩ env) := by simp only [execX]
@[simp] theorem qx_raiseA {c e env} : execX C R (.raise c (some e)) env = (vm (ev C e env)).map fun d => .ex ⟨c, some d⟩ env := by simp only [execX]
@[simp] theorem qx_drop {e env} : execX C R (.drop e) env = (evX C R e env).map fun r => match r with | .ok _ => .nx env | .ex x => .ex x env := by simp only [execX] <;> rfl
@[simp] theorem qx_asg {i e env} : execX C R (.asg i e) env = (evX C R e env).map fun r => match r with | .ok d => .nx (env.set i (.val d .frz)) | .ex x => .ex x env := by simp only [execX] <;> rfl
@[simp] theorem qx_ret {e env} : execX C R (.ret e) env = (evX C R e env).map fun r => match r with | .ok d => .rt d | .ex x => .ex x env := by simp only [execX] <;> rfl
@[simp] theorem qx_try {b ks c i h env} : execX C R (.try_ b ks c i h) env = catchX ks c i (fun x e => execX C R (h x) e) (execX C R b env) := by simp only [execX]
@[simp] theorem qx_and_nx {e f} : andX (some (.nx e)) f = f e := rfl
@[simp] theorem qx_and_rt {d f} : andX (some (.rt d)) f = some (.rt d) := rfl
@[simp] theorem qx_and_ex {x e f} : andX (some (.ex x e)) f = some (.ex x e) := rfl
@[simp] theorem qx_to_nx {e} : toX (.nx e) = .nx e := rfl
@[simp] theorem qx_to_rt {d} : toX (.rt d) = .rt d := rfl
@[simp] theorem qx_c_nx {ks c i f e} : catchX ks c i f (some (.nx e)) = some (.nx e) := rfl
@[simp] theorem qx_c_rt {ks c i f e} : catchX ks c i f (some (.rt e)) = some (.rt e) := rfl
@[simp] theorem qx_c_ex {ks c f x e} : catchX ks c none f (some (.ex x e)) = if x.cls ∈ ks ∧ (x.arg.isNone = true ∨ x.cls = 7) then (if subC x.cls c then f x e else some (.ex x e)) else none := rfl
@[simp] theorem qx_c_exi {ks c i f x e} : catchX ks c (some i) f (some (.ex x e)) = if x.cls ∈ ks ∧ (x.arg.isNone = true ∨ x.cls = 7) then (if subC x.cls c then wipeX i (f x (e.set i .un)) else some (.ex x e)) else none := rfl
@[simp] theorem qx_w_rt {i d} : wipeX i (some (.rt d)) = some (.rt d) := rfl
@[simp] theorem qx_w_nx {i e} : wipeX i (some (.nx e)) = some (.nx (e.set i .un)) := rfl
@[simp] theorem q_callsX (n : Nat) (f : List D → Option RV) (r : List (Nat × (List D → Option RV))) (m : Nat) (ds : List D) : callsX ((n, f) :: r) m ds = if m = n then f ds else callsX r m ds := rfl
end
section
variable {C : Nat → List D → Option D} {R : Nat → List D → Option RV}
theorem runX_rt {f : XDef} {ds : List D} {d : D} (h : ds.length = f.params) (he : execX C R f.body (startEnv f.fd ds) = some (.rt d)) : runX C R f ds = some (.ok d) := by
  unfold runX; rw [if_pos h, he]
theorem runX_ex {f : XDef} {ds : List D} {x : Ex} {e : Env} (h : ds.length = f.params) (he : execX C R f.body (startEnv f.fd ds) = some (.ex x e)) : runX C R f ds = some (.ex x) := by
  unfold runX; rw [if_pos h, he]
theorem okD_rt {f : XDef} {ds : List D} {d : D} (h : ds.length = f.params) (he : execX C R f.body (startEnv f.fd ds) = some (.rt d)) : okD (runX C R f) ds = some d := by
  unfold okD; rw [runX_rt h he]
theorem okD_ok {s : List D → Option RV} {ds : List D} {d : D} (h : s ds = some (.ok d)) : okD s ds = some d := by unfold okD; rw [h]
/-- the same, where a raise is never reached -/
def unX : SX → S
  | .st s => s
  | .seq a b => .seq (unX a) (unX b)
  | .ite t a b => .ite t (unX a) (unX b)
  | .for_ tg it s => .for_ tg it (unX s)
  | .ret (.ok e) => .ret e
  | _ => .never
theorem loopX_of {f : D → Env → Option Out} {g : D → Env → Option OutX} (h : ∀ d e out, f d e = some out → g d e = some (toX out)) : ∀ (ds : List D) (env : Env) (out : Out), loopF f ds env = some out → loopX g ds env = some (toX out)
  | [], env, out, e => by cases (show some (Out.nx env) = some out from e); rfl
  | d :: ds, env, out, e => by
    have e' : andThen (f d env) (loopF f ds) = some out := e
    show andX (g d env) (loopX g ds) = some (toX out)
    cases h1 : f d env with
    | none => rw [h1] at e'; cases e'
    | some o =>
      rw [h1] at e'
      rw [h d env o h1]
      cases o with
      | nx e2 => exact loopX_of h ds e2 out e'
      | rt d2 => cases e'; rfl
theorem unX_ok : ∀ (s : SX) (env : Env) (out : Out), exec C FU (unX s) env = some out → execX C R s env = some (toX out) := by
  intro s
  induction s with
  | st s =>
    intro env out h
    have h' : exec C FU s env = some out := h
    rw [qx_st, h']; rfl
  | seq a b ha hb =>
    intro env out h
    have h' : andThen (exec C FU (unX a) env) (exec C FU (unX b)) = some out := h
    rw [qx_seq]
    cases h1 : exec C FU (unX a) env with
    | none => rw [h1] at h'; cases h'
    | some o =>
      rw [h1] at h'
      rw [ha env o h1]
      cases o with
      | nx e2 => exact hb e2 out h'
      | rt d2 => cases h'; rfl
  | ite t a b ha hb =>
    intro env out h
    have h' : ((evT C t env).bind fun p => if p then exec C FU (unX a) env else exec C FU (unX b) env) = some out := h
    rw [qx_ite]
    cases h1 : evT C t env with
    | none => rw [h1] at h'; cases h'
    | some p =>
      rw [h1] at h'
      cases p with
      | true => exact ha env out h'
      | false => exact hb env out h'
  | for_ tg it s hs =>
    intro env out h
    have h' : ((evI C it env).bind fun xs => if xs.2 then none else loopF (fun d e => (bindT tg d e).bind (exec C FU (unX s))) xs.1 env) = some out := h
    show ((evI C it env).bind fun xs => if xs.2 then none else loopX (fun d e => (bindT tg d e).bind (execX C R s)) xs.1 env) = some (toX out)
    cases h1 : evI C it env with
    | none => rw [h1] at h'; cases h'
    | some xs =>
      rw [h1] at h'
      obtain ⟨xs, b⟩ := xs
      cases b with
      | true => cases h'
      | false =>
        refine loopX_of (fun d e o ho => ?_) xs env out h'
        cases h2 : bindT tg d e with
        | none => rw [h2] at ho; cases ho
        | some e3 =>
          rw [h2] at ho
          exact hs e3 o ho
  | raise c a => intro env out h; cases (show (none : Option Out) = some out from h)
  | drop e => intro env out h; cases (show (none : Option Out) = some out from h)
  | asg i e => intro env out h; cases (show (none : Option Out) = some out from h)
  | ret e =>
    intro env out h
    cases e with
    | ok e =>
      have h' : (vm (ev C e env)).map Out.rt = some out := h
      rw [qx_ret, qx_ok]
      rw [Option.map_eq_some_iff] at h'
      obtain ⟨d, h1, rfl⟩ := h'
      rw [h1]; rfl
    | call f m es => cases (show (none : Option Out) = some out from h)
    | tup es => cases (show (none : Option Out) = some out from h)
    | comp a b c => cases (show (none : Option Out) = some out from h)
  | try_ b ks c i h2 => intro env out h; cases (show (none : Option Out) = some out from h)
theorem runX_of {f : FDef} {g : XDef} {ds : List D} {d : D} (h : runF C f ds = some d) (hb : unX g.body = f.body) (hp : g.params = f.params) (hs : g.slots = f.slots) (hl : f.lent = []) : runX C R g ds = some (.ok d) := by
  unfold runF at h
  unfold runX
  have es : startEnv g.fd ds = startEnv f ds := by unfold startEnv XDef.fd; rw [hl, hs]
  rw [es, hp]
  by_cases z : ds.length = f.params
  · rw [if_pos z] at h ⊢
    cases h1 : exec C FU f.body (startEnv f ds) with
    | none => rw [h1] at h; cases h
    | some o =>
      rw [h1] at h
      rw [← hb] at h1
      rw [unX_ok g.body _ o h1]
      cases o with
      | nx e => cases h; rfl
      | rt d2 => cases h; rfl
  · rw [if_neg z] at h; cases h
end
end Hg
namespace Hg
section
variable {C : Nat → List D → Option D} {R : Nat → List D → Option RV} {env : Env}
theorem loopX_inv {α β : Type} {f : D → Env → Option OutX} {x : Ex} (toD : α → D) (enc : β → Env) (Inv : List α → β → Prop) (Bad : List α → α → List α → β → Prop) (xs : List α)
    (hs : ∀ pre y post b, xs = pre ++ y :: post → Inv pre b → (∃ b', f (toD y) (enc b) = some (.nx (enc b')) ∧ Inv (pre ++ [y]) b') ∨ ∃ e, f (toD y) (enc b) = some (.ex x e) ∧ Bad pre y post b) :
    ∀ (post pre : List α) (b : β), xs = pre ++ post → Inv pre b → (∃ b', loopX f (post.map toD) (enc b) = some (.nx (enc b')) ∧ Inv xs b') ∨ ∃ e, loopX f (post.map toD) (enc b) = some (.ex x e) ∧ ∃ pre y post b, xs = pre ++ y :: post ∧ Inv pre b ∧ Bad pre y post b := by
  intro post
  induction post with
  | nil =>
    intro pre b e h
    rw [List.append_nil] at e
    subst e
    exact .inl ⟨b, rfl, h⟩
  | cons y post ih =>
    intro pre b e h
    show (∃ b', andX (f (toD y) (enc b)) (loopX f (post.map toD)) = some (.nx (enc b')) ∧ Inv xs b') ∨ ∃ e, andX (f (toD y) (enc b)) (loopX f (post.map toD)) = some (.ex x e) ∧ _
    rcases hs pre y post b e h with ⟨b', h1, h2⟩ | ⟨e1, h1, h2⟩
    · rw [h1]
      exact ih (pre ++ [y]) b' (by rw [e, List.append_assoc]; rfl) h2
    · rw [h1]
      exact .inr ⟨e1, rfl, pre, y, post, b, e, h, h2⟩
theorem forX {α β : Type} {tg : Tg} {it : It} {s : SX} {x : Ex} (xs : List α) (toD : α → D) (enc : β → Env) (Inv : List α → β → Prop) (Bad : List α → α → List α → β → Prop) (b0 : β)
    (hi : evI C it env = some (xs.map toD, false)) (he : env = enc b0) (h0 : Inv [] b0)
    (hs : ∀ pre y post b, xs = pre ++ y :: post → Inv pre b → (∃ b', ((bindT tg (toD y) (enc b)).bind (execX C R s)) = some (.nx (enc b')) ∧ Inv (pre ++ [y]) b') ∨ ∃ e, ((bindT tg (toD y) (enc b)).bind (execX C R s)) = some (.ex x e) ∧ Bad pre y post b) :
    (∃ b', execX C R (.for_ tg it s) env = some (.nx (enc b')) ∧ Inv xs b') ∨ ∃ e, execX C R (.for_ tg it s) env = some (.ex x e) ∧ ∃ pre y post b, xs = pre ++ y :: post ∧ Inv pre b ∧ Bad pre y post b := by
  have e1 : execX C R (.for_ tg it s) env = loopX (fun d e => (bindT tg d e).bind (execX C R s)) (xs.map toD) (enc b0) := by
    simp only [execX, hi, Option.bind_some]
    rw [if_neg (by decide), he]
  rw [e1]
  exact loopX_inv toD enc Inv Bad xs hs xs [] b0 rfl h0
end
end Hg
end

section
set_option autoImplicit false
set_option maxHeartbeats 1000000
/-! Pbad: what checked refuses. -/
namespace Hg
theorem within_no {d : D} {lo hi : Int} (h : ∀ a, d ≠ .int a) : s_is_within [d, .int lo, .int hi] = some (.bl false) := by
  unfold s_is_within
  refine runF_eq rfl ?_
  cases d with
  | int a => exact absurd rfl (h a)
  | non => simp [d_is_within, startEnv, isTy, coB]
  | bl b => simp [d_is_within, startEnv, isTy, coB]
  | str s => simp [d_is_within, startEnv, isTy, coB]
  | lst s => simp [d_is_within, startEnv, isTy, coB]
  | tup s => simp [d_is_within, startEnv, isTy, coB]
  | dic s => simp [d_is_within, startEnv, isTy, coB]
theorem within_not {a lo hi : Int} (h : ¬ (lo ≤ a ∧ a ≤ hi)) : s_is_within [.int a, .int lo, .int hi] = some (.bl false) := by
  rw [sp_is_within, decide_eq_false h]
/-! ### rods -/
def NoRod (n : Nat) (d : D) : Prop := s_is_rod [d, .int n] = some (.bl false)
theorem norod_lst {n : Nat} {xs : List D} : NoRod n (.lst xs) := by
  unfold NoRod s_is_rod
  refine runF_eq rfl ?_
  simp [d_is_rod, startEnv, isTy]
theorem norod_non {n : Nat} : NoRod n .non := by
  unfold NoRod s_is_rod
  refine runF_eq rfl ?_
  simp [d_is_rod, startEnv, isTy]
theorem norod_1 {n : Nat} {x : D} : NoRod n (.tup [x]) := by
  have h : 1 ≤ L := by rw [L_eq]; omega
  unfold NoRod s_is_rod
  refine runF_eq rfl ?_
  simp [d_is_rod, startEnv, isTy, PD8, h]
theorem norod_3 {n : Nat} {x y z : D} : NoRod n (.tup [x, y, z]) := by
  have h : 3 ≤ L := by rw [L_eq]; omega
  unfold NoRod s_is_rod
  refine runF_eq rfl ?_
  simp [d_is_rod, startEnv, isTy, PD8, h]
/-- the first is none -/
theorem norod_a {n : Nat} {x y : D} (hx : s_is_within [x, .int 0, .int ((n : Int) - 1)] = some (.bl false)) : NoRod n (.tup [x, y]) := by
  have h : 2 ≤ L := by rw [L_eq]; omega
  unfold NoRod s_is_rod
  refine runF_eq rfl ?_
  simp [d_is_rod, startEnv, isTy, PD8, h, hx, coB]
theorem norod_ge {n a b : Nat} (h : ¬ (a < b ∧ b < n)) : NoRod n (.tup [.int a, .int b]) := by
  have h2 : 2 ≤ L := by rw [L_eq]; omega
  by_cases ha : (0 : Int) ≤ (a : Int) ∧ (a : Int) ≤ (n : Int) - 1
  · have h1 := sp_is_within a 0 ((n : Int) - 1)
    have hb := sp_is_within b 0 ((n : Int) - 1)
    rw [decide_eq_true ha] at h1
    by_cases c : (0 : Int) ≤ (b : Int) ∧ (b : Int) ≤ (n : Int) - 1
    · rw [decide_eq_true c] at hb
      have c2 : ¬ a < b := fun q => h ⟨q, by omega⟩
      unfold NoRod s_is_rod
      refine runF_eq rfl ?_
      simp [d_is_rod, startEnv, isTy, PD8, h2, h1, hb, coB, c2]
    · rw [decide_eq_false c] at hb
      unfold NoRod s_is_rod
      refine runF_eq rfl ?_
      simp [d_is_rod, startEnv, isTy, PD8, h2, h1, hb, coB]
  · exact norod_a (within_not ha)
/-! ### frames -/
def NoFr (d : D) : Prop := s_is_frame [d] = some (.bl false)
theorem nofr_lst {xs : List D} : NoFr (.lst xs) := by
  unfold NoFr s_is_frame
  refine runF_eq rfl ?_
  simp [d_is_frame, startEnv, isTy]
theorem nofr_non : NoFr .non := by
  unfold NoFr s_is_frame
  refine runF_eq rfl ?_
  simp [d_is_frame, startEnv, isTy]
theorem nofr_3 {x y z : D} : NoFr (.tup [x, y, z]) := by
  have h : 3 ≤ L := by rw [L_eq]; omega
  unfold NoFr s_is_frame
  refine runF_eq rfl ?_
  simp [d_is_frame, startEnv, isTy, PD8, h]
theorem nofr_n {x y : D} (hx : s_is_within [x, .int 1, .int 40] = some (.bl false)) : NoFr (.tup [x, y]) := by
  have h : 2 ≤ L := by rw [L_eq]; omega
  unfold NoFr s_is_frame
  refine runF_eq rfl ?_
  simp [d_is_frame, startEnv, isTy, PD8, h, hx]
theorem nofr_t {n : Nat} {xs : List D} : NoFr (.tup [.int n, .tup xs]) := by
  have h : 2 ≤ L := by rw [L_eq]; omega
  by_cases c : (1 : Int) ≤ (n : Int) ∧ (n : Int) ≤ 40
  · have h1 := sp_is_within n 1 40
    rw [decide_eq_true c] at h1
    unfold NoFr s_is_frame
    refine runF_eq rfl ?_
    simp [d_is_frame, startEnv, isTy, PD8, h, h1, coB]
  · exact nofr_n (within_not c)
theorem nofr_l {n : Nat} {xs : List D} (hl : xs.length ≤ L) (hn : xs.length + 1 ≠ n) : NoFr (.tup [.int n, .lst xs]) := by
  have h : 2 ≤ L := by rw [L_eq]; omega
  by_cases c : (1 : Int) ≤ (n : Int) ∧ (n : Int) ≤ 40
  · have h1 := sp_is_within n 1 40
    rw [decide_eq_true c] at h1
    have e : ¬ (xs.length : Int) = (n : Int) - 1 := by omega
    unfold NoFr s_is_frame
    refine runF_eq rfl ?_
    simp [d_is_frame, startEnv, isTy, PD8, h, h1, coB, hl, e]
  · exact nofr_n (within_not c)
theorem bad_frame {d : D} (h : NoFr d) : s_checked_2 [d] = some (.ex ⟨7, some .non⟩) := by
  unfold NoFr at h
  unfold s_checked_2
  refine runX_ex (e := [.val d .frz, .un, .un, .un, .un, .un, .un, .un, .un]) rfl ?_
  simp [d_checked_2, startEnv, XDef.fd, h]
theorem frame_ok {n : Nat} {xs : List D} (h1 : 1 ≤ n) (h2 : n ≤ 40) (hl : xs.length + 1 = n) : s_is_frame [.tup [.int n, .lst xs]] = some (.bl true) := by
  have h := sp_is_within n 1 40
  rw [decide_eq_true ⟨by omega, by omega⟩] at h
  have hL : xs.length ≤ L := by rw [L_eq]; omega
  have h22 : 2 ≤ L := by rw [L_eq]; omega
  have e : (xs.length : Int) = (n : Int) - 1 := by omega
  unfold s_is_frame
  refine runF_eq rfl ?_
  simp [d_is_frame, startEnv, isTy, PD8, h, h22, hL, e]
end Hg
end

section
set_option autoImplicit false
set_option maxHeartbeats 1000000
/-! Pbad2: the first wrong rod. -/
namespace Hg
section
variable {C : Nat → List D → Option D} {R : Nat → List D → Option RV} {env : Env}
theorem runX_exR {f : XDef} {ds : List D} {x : Ex} (h : ds.length = f.params) (he : ∃ e, execX C R f.body (startEnv f.fd ds) = some (.ex x e)) : runX C R f ds = some (.ex x) := by
  obtain ⟨e, he⟩ := he
  exact runX_ex h he
theorem forX_R {α β : Type} {RR : Option OutX → Prop} {tg : Tg} {it : It} {s : SX} {k : Env → Option OutX} {x : Ex} (xs : List α) (toD : α → D) (enc : β → Env) (Inv : List α → β → Prop) (b0 : β)
    (hi : evI C it env = some (xs.map toD, false)) (he : env = enc b0) (h0 : Inv [] b0)
    (hs : ∀ pre y post b, xs = pre ++ y :: post → Inv pre b → (∃ b', ((bindT tg (toD y) (enc b)).bind (execX C R s)) = some (.nx (enc b')) ∧ Inv (pre ++ [y]) b') ∨ ∃ e, ((bindT tg (toD y) (enc b)).bind (execX C R s)) = some (.ex x e))
    (hx : ∀ e, RR (some (.ex x e))) (hk : ∀ b, Inv xs b → RR (k (enc b))) : RR (andX (execX C R (.for_ tg it s) env) k) := by
  rcases forX (C := C) (R := R) (env := env) (tg := tg) (it := it) (s := s) (x := x) xs toD enc Inv (fun _ _ _ _ => True) b0 hi he h0 (fun pre y post b e i => (hs pre y post b e i).imp id fun ⟨e, h⟩ => ⟨e, h, trivial⟩) with ⟨b, h1, h2⟩ | ⟨e, h1, _⟩
  · rw [h1]; exact hk b h2
  · rw [h1]; exact hx e
end
def aheadP (pre : List (Nat × Nat)) : Int × Int := match pre.getLast? with | none => ((-1 : Int), (-1 : Int)) | some x => ((x.1 : Int), (x.2 : Int))
theorem ahead_lt {pre : List (Nat × Nat)} {a b : Nat} (h : ∀ x, pre.getLast? = some x → ltN x (a, b)) : ltD (pairD (aheadP pre)) (rodD (a, b)) = some true := by
  unfold aheadP
  cases hg : pre.getLast? with
  | none =>
    show some (lexI [-1, -1] [(a : Int), (b : Int)]) = _
    have : ¬ (-1 : Int) = (a : Int) := by omega
    unfold lexI
    rw [if_neg this, decide_eq_true (by omega)]
  | some x =>
    show ltD (rodD x) (rodD (a, b)) = _
    rw [ltD_rod, decide_eq_true (h x hg)]
theorem ahead_ge {pre : List (Nat × Nat)} {a b : Nat} {x : Nat × Nat} (hg : pre.getLast? = some x) (h : ¬ ltN x (a, b)) : ltD (pairD (aheadP pre)) (rodD (a, b)) = some false := by
  unfold aheadP
  rw [hg]
  show ltD (rodD x) (rodD (a, b)) = _
  rw [ltD_rod, decide_eq_false h]
theorem ahead_some {pre : List (Nat × Nat)} {a b : Nat} : ∃ t, ltD (pairD (aheadP pre)) (rodD (a, b)) = some t := by
  by_cases h : ∀ x, pre.getLast? = some x → ltN x (a, b)
  · exact ⟨_, ahead_lt h⟩
  · simp only [Classical.not_forall] at h
    obtain ⟨x, hg, h⟩ := h
    exact ⟨_, ahead_ge hg h⟩
def BadAt (n : Nat) (pre : List (Nat × Nat)) (d : D) : Prop :=
  NoRod n d ∨ ∃ a b, a < b ∧ b < n ∧ d = rodD (a, b) ∧ ((∃ x, pre.getLast? = some x ∧ ¬ ltN x (a, b)) ∨ Cn pre a b)
theorem bad_rod {n : Nat} {rs pre suf : List (Nat × Nat)} {d : D} {post : List D} (h : Hedge n rs) (hn : n ≤ 40) (hp : rs = pre ++ suf) (hl : pre.length + 1 + post.length + 1 = n) (hb : BadAt n pre d) :
    s_checked_2 [.tup [.int n, .lst (pre.map rodD ++ d :: post)]] = some (.ex ⟨7, some (.int pre.length)⟩) := by
  have hf : s_is_frame [.tup [.int n, .lst (pre.map rodD ++ d :: post)]] = some (.bl true) := frame_ok (by omega) hn (by simp; omega)
  unfold s_checked_2
  refine runX_exR rfl ?_
  simp only [d_checked_2, startEnv, XDef.fd]
  simp [hf]
  have e1 : bindT (.tp [1, 2]) (.tup [.int n, .lst (pre.map rodD ++ d :: post)]) [.val (.tup [.int n, .lst (pre.map rodD ++ d :: post)]) .frz, .un, .un, .un, .un, .un, .un, .un, .un] = some [.val (.tup [.int n, .lst (pre.map rodD ++ d :: post)]) .frz, .val (.int n) .frz, .val (.lst (pre.map rodD ++ d :: post)) .frz, .un, .un, .un, .un, .un, .un] := rfl
  have e2 : (0 : Int) ≤ n ∧ (n : Int) ≤ 1000 := by omega
  simp [e1, e2, rngD_nD]
  refine forX_R (RR := fun o => ∃ e, o = some (.ex ⟨7, some (.int pre.length)⟩ e)) (pre.map rodD ++ d :: post).zipIdx (fun p => .tup [nD p.2, p.1]) (fun b : (Nat → Nat) × (Int × Int) => [.val (.tup [.int n, .lst (pre.map rodD ++ d :: post)]) .frz, .val (.int n) .frz, .val (.lst (pre.map rodD ++ d :: post)) .frz, .val (.lst ((List.range n).map fun v => nD (b.1 v))) .frz, .val (pairD b.2) .frz, .un, .un, .un, .un])
    (fun p b => p.length ≤ pre.length ∧ HInv (pre.take p.length) b.1 ∧ (∀ x, x < n → b.1 x < n) ∧ b.2 = aheadP (pre.take p.length)) (id, (-1, -1)) ?_ ?_ ⟨Nat.zero_le _, HInv.nil, fun x hx => hx, rfl⟩ ?_ (fun e => ⟨e, rfl⟩) ?_
  · have e3 : enumFrom 0 (pre.map rodD ++ d :: post) = (pre.map rodD ++ d :: post).zipIdx.map fun p => .tup [nD p.2, p.1] := by
      have := enum_map id (pre.map rodD ++ d :: post)
      rw [List.map_id] at this
      exact this
    simp [e3]
  · simp [pairD, nD]
  · rintro p ⟨y, k⟩ q ⟨home, ah⟩ e ⟨hle, hi, hlt, hah⟩
    simp only at hi hlt hah
    obtain ⟨z1, z2, z3⟩ := zipIdx_split e
    subst z1
    have i0 : ∀ a b, ixV (rodD (a, b), .frz) (.int 0) = some (.int a, .frz) := fun _ _ => rfl
    have i1 : ∀ a b, ixV (rodD (a, b), .frz) (.int 1) = some (.int b, .frz) := fun _ _ => rfl
    have ixh : ∀ x, x < n → ixV (.lst ((List.range n).map fun v => nD (home v)), .frz) (.int x) = some (nD (home x), .frz) := by
      intro x hx
      simp [hx]
    by_cases hk : p.length < pre.length
    · left
      rw [List.getElem?_append_left (by simp; exact hk), List.getElem?_map, List.getElem?_eq_getElem hk] at z2
      have z4 : rodD pre[p.length] = y := Option.some.inj z2
      have hsplit0 : pre = pre.take p.length ++ pre[p.length] :: pre.drop (p.length + 1) := by
        rw [← List.drop_eq_getElem_cons hk, List.take_append_drop]
      have htk : pre.take (p.length + 1) = pre.take p.length ++ [pre[p.length]] := by
        rw [List.take_add_one, List.getElem?_eq_getElem hk]; rfl
      generalize pre[p.length] = ab at z4 hsplit0 htk
      obtain ⟨a, b⟩ := ab
      subst z4
      have hsplit : rs = pre.take p.length ++ (a, b) :: (pre.drop (p.length + 1) ++ suf) := by
        rw [hp, ← List.cons_append, ← List.append_assoc, ← hsplit0]
      have hm : (a, b) ∈ rs := by rw [hsplit]; simp
      obtain ⟨ha, hb', hab⟩ := h.lt hm
      simp only at ha hb' hab
      have h1 : s_is_rod [rodD (a, b), .int n] = some (.bl true) := sp_is_rod ha hb' hab
      have hring := hedge_ring h hsplit
      have hne : home a ≠ home b := fun q => hring (hi.iff.mp q)
      have hle2 : ltD (pairD ah) (rodD (a, b)) = some true := by
        rw [hah]
        exact ahead_lt (lt_ahead h.srt hsplit)
      refine ⟨(homeS home (a, b), ((a : Int), (b : Int))), ?_, ?_, ?_, ?_, ?_⟩
      · simp [h1, hle2, i0, i1, ixh a ha, ixh b hb', PD8, eqD_nD, plain_nD, hne]
        rw [ev_compM (List.range n) (fun v => nD (home v)) (fun v => nD (homeS home (a, b) v)) (own := false)]
        · simp
          rfl
        · rfl
        · intro v hv
          refine ⟨_, rfl, .frz, ?_, rfl⟩
          by_cases c : home v = home b
          · simp [i0, i1, ixh a ha, ixh b hb', PD8, eqD_nD, plain_nD, homeS, c]
          · simp [i0, i1, ixh a ha, ixh b hb', PD8, eqD_nD, plain_nD, homeS, c]
        · simp [L_eq]; omega
      · rw [List.length_append]; exact hk
      · rw [List.length_append, List.length_singleton, htk]
        exact hi.add (a, b)
      · intro x hx
        unfold homeS
        simp only
        split
        · exact hlt a ha
        · exact hlt x hx
      · rw [List.length_append, List.length_singleton, htk]
        simp [aheadP]
    · right
      have hk2 : p.length = pre.length := by omega
      rw [hk2, List.take_length] at hi hah
      have z4 : d = y := by
        rw [hk2, List.getElem?_append_right (by simp)] at z2
        simpa using z2
      subst z4
      rcases hb with hb | ⟨a, b, hab, hbn, rfl, hb⟩
      · have hb' : s_is_rod [d, .int n] = some (.bl false) := hb
        exact ⟨_, by simp [hb', hk2] <;> exact ⟨rfl, rfl⟩⟩
      · have ha : a < n := by omega
        have h1 : s_is_rod [rodD (a, b), .int n] = some (.bl true) := sp_is_rod ha hbn hab
        by_cases c : ∃ x, pre.getLast? = some x ∧ ¬ ltN x (a, b)
        · obtain ⟨x, hg, hx⟩ := c
          have hle2 : ltD (pairD ah) (rodD (a, b)) = some false := by rw [hah]; exact ahead_ge hg hx
          exact ⟨_, by simp [h1, hle2, hk2] <;> exact ⟨rfl, rfl⟩⟩
        · have hcn := hb.resolve_left c
          have hle2 : ltD (pairD ah) (rodD (a, b)) = some true := by
            rw [hah]
            exact ahead_lt fun x hx => Classical.byContradiction fun q => c ⟨x, hx, q⟩
          have heq : home a = home b := hi.iff.mpr hcn
          exact ⟨_, by simp [h1, hle2, i0, i1, ixh a ha, ixh b hbn, PD8, eqD_nD, plain_nD, heq, hk2] <;> exact ⟨rfl, rfl⟩⟩
  · rintro b ⟨hle, _⟩
    simp at hle
    omega
end Hg
end

section
set_option autoImplicit false
set_option maxHeartbeats 1000000
/-! Prd3: whole, rod_read on any text. -/
namespace Hg
def okNum2 (n : Nat) : Bool := decide (intOf (digs n) = some (n : Int)) && decide (1 ≤ (digs n).length) && decide ((digs n).length ≤ 2) && (digs n).all fun c => decide (48 ≤ c) && decide (c ≤ 57)
theorem num2_all : ∀ n : Fin 100, okNum2 n.val = true := by decide +kernel
theorem num2 {n : Nat} (hn : n < 100) : intOf (digs n) = some (n : Int) ∧ 1 ≤ (digs n).length ∧ (digs n).length ≤ 2 ∧ ∀ c ∈ digs n, 48 ≤ c ∧ c ≤ 57 := by
  have h := num2_all ⟨n, hn⟩
  simp only [okNum2, Bool.and_eq_true, decide_eq_true_eq, List.all_eq_true] at h
  exact ⟨h.1.1.1, h.1.1.2, h.1.2, h.2⟩
def isDg (c : Nat) : Bool := decide (48 ≤ c) && decide (c ≤ 57)
/-- a text that whole takes -/
theorem digs_of {t : List Nat} (h1 : 1 ≤ t.length) (h2 : t.length ≤ 2) (hz : ¬ (t.length = 2 ∧ t[0]? = some 48)) (hd : ∀ c ∈ t, 48 ≤ c ∧ c ≤ 57) : ∃ n, n < 100 ∧ t = digs n := by
  match t, h1, h2 with
  | [a], _, _ =>
    have ha := hd a (by simp)
    refine ⟨a - 48, by omega, ?_⟩
    unfold digs
    rw [if_pos (by omega)]
    congr 1; omega
  | [a, b], _, _ =>
    have ha := hd a (by simp)
    have hb := hd b (by simp)
    have hne : a ≠ 48 := fun q => hz ⟨rfl, by simp [q]⟩
    refine ⟨(a - 48) * 10 + (b - 48), by omega, ?_⟩
    unfold digs
    rw [if_neg (by omega)]
    congr 1
    · omega
    · congr 1; omega
section
variable {C : Nat → List D → Option D} {R : Nat → List D → Option RV} {env : Env}
/-- a loop that goes on or raises -/
theorem forX_RR {α β : Type} {RR : Option OutX → Prop} {tg : Tg} {it : It} {s : SX} {k : Env → Option OutX} (xs : List α) (toD : α → D) (enc : β → Env) (Inv : List α → β → Prop) (b0 : β)
    (hi : evI C it env = some (xs.map toD, false)) (he : env = enc b0) (h0 : Inv [] b0)
    (hs : ∀ pre y post b, xs = pre ++ y :: post → Inv pre b → (∃ b', ((bindT tg (toD y) (enc b)).bind (execX C R s)) = some (.nx (enc b')) ∧ Inv (pre ++ [y]) b') ∨ ∃ x e, ((bindT tg (toD y) (enc b)).bind (execX C R s)) = some (.ex x e) ∧ RR (some (.ex x e)))
    (hk : ∀ b, Inv xs b → RR (k (enc b))) : RR (andX (execX C R (.for_ tg it s) env) k) := by
  have e1 : execX C R (.for_ tg it s) env = loopX (fun d e => (bindT tg d e).bind (execX C R s)) (xs.map toD) (enc b0) := by
    simp only [execX, hi, Option.bind_some]
    rw [if_neg (by decide), he]
  rw [e1]
  have key : ∀ (post pre : List α) (b : β), xs = pre ++ post → Inv pre b → RR (andX (loopX (fun d e => (bindT tg d e).bind (execX C R s)) (post.map toD) (enc b)) k) := by
    intro post
    induction post with
    | nil =>
      intro pre b e h
      rw [List.append_nil] at e
      subst e
      exact hk b h
    | cons y post ih =>
      intro pre b e h
      show RR (andX (andX ((bindT tg (toD y) (enc b)).bind (execX C R s)) (loopX (fun d e => (bindT tg d e).bind (execX C R s)) (post.map toD))) k)
      rcases hs pre y post b e h with ⟨b', h1, h2⟩ | ⟨x, e1, h1, h2⟩
      · rw [h1]
        exact ih (pre ++ [y]) b' (by rw [e]; simp) h2
      · rw [h1]
        exact h2
  exact key xs [] b0 rfl h0
theorem runX_R {Q : RV → Prop} {f : XDef} {ds : List D} (h : ds.length = f.params) (he : (∃ d, execX C R f.body (startEnv f.fd ds) = some (.rt d) ∧ Q (.ok d)) ∨ ∃ x e, execX C R f.body (startEnv f.fd ds) = some (.ex x e) ∧ Q (.ex x)) : ∃ r, runX C R f ds = some r ∧ Q r := by
  rcases he with ⟨d, h1, h2⟩ | ⟨x, e, h1, h2⟩
  · exact ⟨_, runX_rt h h1, h2⟩
  · exact ⟨_, runX_ex h h1, h2⟩
end
def Asc (t : List Nat) : Prop := ∀ x ∈ t, x < 128
def BT : RV := .ex ⟨1, none⟩
def QW (t : List Nat) (r : RV) : Prop := (∃ n, n < 100 ∧ t = digs n ∧ r = .ok (nD n)) ∨ r = BT
theorem whole_any {t : List Nat} (ha : Asc t) (hl : t.length ≤ L) : ∃ r, s_whole_2 [.str t] = some r ∧ QW t r := by
  unfold s_whole_2
  refine runX_R rfl ?_
  simp only [d_whole_2, startEnv, XDef.fd]
  by_cases h1 : 1 ≤ t.length ∧ t.length ≤ 2
  · obtain ⟨h1, h2⟩ := h1
    have i1 : (1 : Int) ≤ t.length := by omega
    have i2 : (t.length : Int) ≤ 2 := by omega
    obtain ⟨a, ha0⟩ : ∃ a, t[0]? = some a := ⟨t[0]'(by omega), List.getElem?_eq_getElem _⟩
    have hix : ixV (.str t, .frz) (.int 0) = some (.str [a], .frz) := by rw [ixV_s _ _ _ hl]; simp [ha0]
    have p1 : plainD PD (.str [a]) = true := by
      rw [plainD_str]
      have := ha a (List.mem_of_getElem? ha0)
      simp; omega
    have p2 : plainD PD (.str [48]) = true := by rw [plainD_str]; rfl
    by_cases h3 : t.length = 2 ∧ t[0]? = some 48
    · have c : (t.length : Int) = 2 := by omega
      have e48 : a = 48 := by
        have := h3.2
        rw [ha0] at this
        exact Option.some.inj this
      right
      refine ⟨⟨1, none⟩, [.val (.str t) .frz, .un], ?_, .inr rfl⟩
      simp [q_lenL_s t hl, coB, i1, i2, c, PD8]
      rw [PD8] at p1 p2
      simp [hix, p1, p2, e48]
    · have hz : evT (calls []) (.or_ (.not_ (.val (.ch .le .le (.c (.int 1)) (.len (.var 0)) (.c (.int 2))))) (.one (.and_ (.val (.eq (.len (.var 0)) (.c (.int 2)))) (.one (.val (.eq (.ix (.var 0) (.c (.int 0))) (.c (.str [48])))))))) [.val (.str t) .frz, .un] = some false := by
        simp [q_lenL_s t hl, coB, i1, i2]
        by_cases c : (t.length : Int) = 2
        · have ha2 : ¬ a = 48 := fun q => h3 ⟨by omega, by rw [ha0, q]⟩
          simp [c, PD8]
          rw [PD8] at p1 p2
          simp [hix, p1, p2, ha2]
        · simp [c, PD8]
      rw [qx_seq, qx_ite]
      show (∃ d, andX ((evT (calls []) _ [.val (.str t) .frz, .un]).bind _) _ = _ ∧ _) ∨ ∃ x e, andX ((evT (calls []) _ [.val (.str t) .frz, .un]).bind _) _ = _ ∧ _
      rw [hz]
      simp
      refine forX_RR (RR := fun o => (∃ d, o = some (.rt d) ∧ QW t (.ok d)) ∨ ∃ x, (∃ e, o = some (.ex x e)) ∧ QW t (.ex x)) t (fun c => D.str [c]) (fun _ : Unit => [.val (.str t) .frz, .un]) (fun pre _ => ∀ c ∈ pre, 48 ≤ c ∧ c ≤ 57) () (by simp) rfl (by simp) ?_ ?_
      · rintro pre c post _ e hpre
        have hm : memD (.str [c]) (.str [48, 49, 50, 51, 52, 53, 54, 55, 56, 57]) = some (decide (48 ≤ c ∧ c ≤ 57)) := by
          show some (decide (c ∈ [48, 49, 50, 51, 52, 53, 54, 55, 56, 57])) = _
          congr 1
          apply decide_eq_decide.mpr
          simp
          omega
        by_cases hc : 48 ≤ c ∧ c ≤ 57
        · left
          refine ⟨(), by simp [hm, hc], fun x hx => ?_⟩
          rcases List.mem_append.mp hx with hx | hx
          · exact hpre x hx
          · have : x = c := by simpa using hx
            subst this
            exact hc
        · right
          exact ⟨⟨1, none⟩, [.val (.str t) .frz, .val (.str [c]) .frz], by simp [hm, hc], .inr ⟨_, ⟨_, rfl⟩, .inr rfl⟩⟩
      · rintro _ hd
        obtain ⟨n, hn, e⟩ := digs_of h1 h2 h3 hd
        have hv := (num2 hn).1
        rw [← e] at hv
        left
        refine ⟨nD n, by simp [hv, nD], .inl ⟨n, hn, e, rfl⟩⟩
  · right
    refine ⟨⟨1, none⟩, [.val (.str t) .frz, .un], ?_, .inr rfl⟩
    by_cases c : (1 : Int) ≤ t.length
    · have c2 : ¬ (t.length : Int) ≤ 2 := by omega
      simp [q_lenL_s t hl, coB, c, c2]
    · simp [q_lenL_s t hl, coB, c]
end Hg
end

section
set_option autoImplicit false
set_option maxHeartbeats 1000000
/-! Prd4: rod_read, checked on anything read. -/
namespace Hg
theorem split_ne (c : Nat) : ∀ (t acc : List Nat), splitC c acc t ≠ []
  | [], acc => by simp [splitC]
  | x :: r, acc => by
    unfold splitC
    split
    · simp
    · exact split_ne c r _
theorem glue_split (c : Nat) : ∀ (t acc : List Nat), glue [c] (splitC c acc t) = acc ++ t
  | [], acc => by simp [splitC, glue]
  | x :: r, acc => by
    unfold splitC
    by_cases h : x = c
    · rw [if_pos h]
      have ih := glue_split c r []
      have hne : splitC c [] r ≠ [] := split_ne c r []
      cases hs : splitC c [] r with
      | nil => exact absurd hs hne
      | cons p P =>
        rw [hs] at ih
        show acc ++ [c] ++ glue [c] (p :: P) = _
        rw [ih, h]
        simp
    · rw [if_neg h, glue_split c r (acc ++ [x])]
      simp
theorem split_sub (c : Nat) : ∀ (t acc : List Nat), ∀ p ∈ splitC c acc t, (∀ x ∈ p, x ∈ acc ∨ x ∈ t) ∧ p.length ≤ acc.length + t.length
  | [], acc, p, hp => by
    have : p = acc := by simpa [splitC] using hp
    subst this
    exact ⟨fun x hx => .inl hx, by simp⟩
  | x :: r, acc, p, hp => by
    unfold splitC at hp
    split at hp
    · rcases List.mem_cons.mp hp with rfl | hp
      · exact ⟨fun y hy => .inl hy, by simp⟩
      · obtain ⟨h1, h2⟩ := split_sub c r [] p hp
        refine ⟨fun y hy => ?_, by simp at h2 ⊢; omega⟩
        rcases h1 y hy with z | z
        · cases z
        · exact .inr (List.mem_cons_of_mem _ z)
    · obtain ⟨h1, h2⟩ := split_sub c r (acc ++ [x]) p hp
      refine ⟨fun y hy => ?_, by simp at h2 ⊢; omega⟩
      rcases h1 y hy with z | z
      · rcases List.mem_append.mp z with z | z
        · exact .inl z
        · have : y = x := by simpa using z
          subst this
          exact .inr (by simp)
      · exact .inr (List.mem_cons_of_mem _ z)
theorem split_count (c : Nat) : ∀ (t acc : List Nat), (splitC c acc t).length ≤ t.length + 1
  | [], acc => by simp [splitC]
  | x :: r, acc => by
    unfold splitC
    split
    · have := split_count c r []
      simp; omega
    · have := split_count c r (acc ++ [x])
      simp; omega
def QR (t : List Nat) (r : RV) : Prop := (∃ a b, a < 100 ∧ b < 100 ∧ t = rowT (a, b) ∧ r = .ok (rodD (a, b))) ∨ r = BT
theorem rod_any {t : List Nat} (ha : Asc t) (hl : t.length + 2 ≤ L) : ∃ r, s_rod_read_2 [.str t] = some r ∧ QR t r := by
  unfold s_rod_read_2
  refine runX_R rfl ?_
  simp only [d_rod_read_2, startEnv, XDef.fd]
  have hg := glue_split 45 t []
  have hsub := split_sub 45 t []
  generalize hS : splitC 45 [] t = P at hg hsub
  have hP : ∀ p ∈ P, Asc p ∧ p.length ≤ L := fun p hp => by
    obtain ⟨h1, h2⟩ := hsub p hp
    refine ⟨fun x hx => ?_, by simp at h2; omega⟩
    rcases h1 x hx with z | z
    · cases z
    · exact ha x z
  by_cases h2 : P.length = 2
  · obtain ⟨p, q, rfl⟩ : ∃ p q, P = [p, q] := match P, h2 with | [p, q], _ => ⟨p, q, rfl⟩
    obtain ⟨p1, p2⟩ := hP p (by simp)
    obtain ⟨q1, q2⟩ := hP q (by simp)
    obtain ⟨r1, e1, w1⟩ := whole_any p1 p2
    obtain ⟨r2, e2, w2⟩ := whole_any q1 q2
    have hg' : p ++ [45] ++ q = t := hg
    rcases w1 with ⟨a, ha', ea, rfl⟩ | rfl
    · rcases w2 with ⟨b, hb', eb, rfl⟩ | rfl
      · left
        refine ⟨rodD (a, b), ?_, .inl ⟨a, b, ha', hb', ?_, rfl⟩⟩
        · have L2 : 2 ≤ L := by rw [L_eq]; omega
          simp [hS, hl, PD8, e1, e2, L2]
          rfl
        · rw [← hg', ea, eb]; rfl
      · right
        refine ⟨⟨1, none⟩, [.val (.str t) .frz, .val (.lst [.str p, .str q]) .frz], ?_, .inr rfl⟩
        have e2' : s_whole_2 [.str q] = some (.ex ⟨1, none⟩) := e2
        simp [hS, hl, PD8, e1, e2']
    · right
      refine ⟨⟨1, none⟩, [.val (.str t) .frz, .val (.lst [.str p, .str q]) .frz], ?_, .inr rfl⟩
      have e1' : s_whole_2 [.str p] = some (.ex ⟨1, none⟩) := e1
      simp [hS, hl, PD8, e1']
  · right
    have h2i : ¬ (P.length : Int) = 2 := by omega
    refine ⟨⟨1, none⟩, [.val (.str t) .frz, .val (.lst (P.map D.str)) .frz], ?_, .inr rfl⟩
    simp [hS, hl, PD8, h2i, h2]
/-! ### checked -/
def GoodH (n : Nat) (rs : List (Nat × Nat)) : Prop := 1 ≤ n ∧ n ≤ 40 ∧ rs.length + 1 = n ∧ ∀ e ∈ rs, e.1 < e.2 ∧ e.2 < n
def QC (n : Nat) (rs : List (Nat × Nat)) (r : RV) : Prop := (GoodH n rs ∧ r = .ok (hD n rs)) ∨ ∃ a, r = .ex ⟨7, some a⟩
theorem checked_any {n : Nat} {rs : List (Nat × Nat)} (hl : rs.length ≤ L) : ∃ r, s_checked_3 [hD n rs] = some r ∧ QC n rs r := by
  unfold s_checked_3
  refine runX_R rfl ?_
  simp only [d_checked_3, startEnv, XDef.fd]
  by_cases hf : 1 ≤ n ∧ n ≤ 40 ∧ rs.length + 1 = n
  · obtain ⟨h1, h2, h3⟩ := hf
    have hfr : s_is_frame [hD n rs] = some (.bl true) := frame_ok h1 h2 (by simpa using h3)
    simp [hfr]
    have e1 : bindT (.tp [1, 2]) (hD n rs) [.val (hD n rs) .frz, .un, .un, .un, .un, .un, .un, .un, .un] = some [.val (hD n rs) .frz, .val (.int n) .frz, .val (.lst (rs.map rodD)) .frz, .un, .un, .un, .un, .un, .un] := rfl
    have e2 : (0 : Int) ≤ n ∧ (n : Int) ≤ 1000 := by omega
    simp [e1, e2, rngD_nD]
    refine forX_RR (RR := fun o => (∃ d, o = some (.rt d) ∧ QC n rs (.ok d)) ∨ ∃ x, (∃ e, o = some (.ex x e)) ∧ QC n rs (.ex x)) rs.zipIdx (fun p => .tup [nD p.2, rodD p.1]) (fun b : (Nat → Nat) × (Int × Int) => [.val (hD n rs) .frz, .val (.int n) .frz, .val (.lst (rs.map rodD)) .frz, .val (.lst ((List.range n).map fun v => nD (b.1 v))) .frz, .val (pairD b.2) .frz, .un, .un, .un, .un])
      (fun pre b => (∀ x, x < n → b.1 x < n) ∧ b.2 = aheadP (pre.map (·.1)) ∧ ∀ p ∈ pre, p.1.1 < p.1.2 ∧ p.1.2 < n) (id, (-1, -1)) ?_ ?_ ⟨fun x hx => hx, rfl, by simp⟩ ?_ ?_
    · have e3 := enum_map rodD rs
      simp [e3]
    · simp [pairD, nD]
    · rintro pre ⟨⟨a, b⟩, k⟩ post ⟨home, ah⟩ e ⟨hlt, hah, hgd⟩
      simp only at hlt hah
      have i0 : ixV (rodD (a, b), .frz) (.int 0) = some (.int a, .frz) := rfl
      have i1 : ixV (rodD (a, b), .frz) (.int 1) = some (.int b, .frz) := rfl
      have ixh : ∀ x, x < n → ixV (.lst ((List.range n).map fun v => nD (home v)), .frz) (.int x) = some (nD (home x), .frz) := by
        intro x hx
        simp [hx]
      have bad : QC n rs (.ex ⟨7, some (.int k)⟩) := .inr ⟨_, rfl⟩
      by_cases hr : a < b ∧ b < n
      · obtain ⟨hab, hb'⟩ := hr
        have ha : a < n := by omega
        have h1 : s_is_rod [rodD (a, b), .int n] = some (.bl true) := sp_is_rod ha hb' hab
        obtain ⟨t, ht⟩ := ahead_some (pre := pre.map (·.1)) (a := a) (b := b)
        rw [← hah] at ht
        cases t with
        | false =>
          right
          exact ⟨⟨7, some (.int k)⟩, _, by simp [h1, ht] <;> exact ⟨rfl, rfl⟩, .inr ⟨_, ⟨_, rfl⟩, bad⟩⟩
        | true =>
          by_cases hh : home a = home b
          · right
            exact ⟨⟨7, some (.int k)⟩, _, by simp [h1, ht, i0, i1, ixh a ha, ixh b hb', PD8, eqD_nD, plain_nD, hh] <;> exact ⟨rfl, rfl⟩, .inr ⟨_, ⟨_, rfl⟩, bad⟩⟩
          · left
            refine ⟨(homeS home (a, b), ((a : Int), (b : Int))), ?_, ?_, ?_, ?_⟩
            · simp [h1, ht, i0, i1, ixh a ha, ixh b hb', PD8, eqD_nD, plain_nD, hh]
              rw [ev_compM (List.range n) (fun v => nD (home v)) (fun v => nD (homeS home (a, b) v)) (own := false)]
              · simp
                rfl
              · rfl
              · intro v hv
                refine ⟨_, rfl, .frz, ?_, rfl⟩
                by_cases c : home v = home b
                · simp [i0, i1, ixh a ha, ixh b hb', PD8, eqD_nD, plain_nD, homeS, c]
                · simp [i0, i1, ixh a ha, ixh b hb', PD8, eqD_nD, plain_nD, homeS, c]
              · simp [L_eq]; omega
            · intro x hx
              unfold homeS
              simp only
              split
              · exact hlt a ha
              · exact hlt x hx
            · simp [aheadP]
            · intro p hp
              rcases List.mem_append.mp hp with hp | hp
              · exact hgd p hp
              · have : p = ((a, b), k) := by simpa using hp
                subst this
                exact ⟨hab, hb'⟩
      · right
        have h1 : s_is_rod [rodD (a, b), .int n] = some (.bl false) := norod_ge hr
        exact ⟨⟨7, some (.int k)⟩, _, by simp [h1] <;> exact ⟨rfl, rfl⟩, .inr ⟨_, ⟨_, rfl⟩, bad⟩⟩
    · rintro ⟨home, ah⟩ ⟨_, _, hgd⟩
      left
      have h22 : 2 ≤ L := by rw [L_eq]; omega
      refine ⟨hD n rs, by simp [hD, h22], .inl ⟨⟨h1, h2, h3, fun e he => ?_⟩, rfl⟩⟩
      obtain ⟨i, hi, e'⟩ := List.mem_iff_getElem.mp he
      have hm : (e, i) ∈ rs.zipIdx := by
        rw [List.mem_iff_getElem?]
        exact ⟨i, by rw [List.getElem?_zipIdx, List.getElem?_eq_getElem hi, e']; simp⟩
      exact hgd _ hm
  · right
    have hfr : s_is_frame [hD n rs] = some (.bl false) := by
      by_cases c : (1 : Int) ≤ (n : Int) ∧ (n : Int) ≤ 40
      · exact nofr_l (by simpa using hl) (by simp; omega)
      · exact nofr_n (within_not c)
    exact ⟨⟨7, some .non⟩, _, by simp [hfr] <;> rfl, .inr ⟨_, rfl⟩⟩
end Hg
end

section
set_option autoImplicit false
set_option maxHeartbeats 1000000
/-! Prd5: read on any text. -/
namespace Hg
theorem compX_any {f : D → Option RV} : ∀ (ps : List (List Nat)), (∀ p ∈ ps, ∃ r, f (.str p) = some r ∧ QR p r) →
    (∃ rs : List (Nat × Nat), compX f (ps.map D.str) = some (.inl (rs.map rodD)) ∧ ps = rs.map rowT ∧ ∀ e ∈ rs, e.1 < 100 ∧ e.2 < 100) ∨ compX f (ps.map D.str) = some (.inr ⟨1, none⟩)
  | [], _ => .inl ⟨[], rfl, rfl, by simp⟩
  | p :: ps, h => by
    obtain ⟨r, h1, h2⟩ := h p (by simp)
    have e0 : compX f ((p :: ps).map D.str) = (f (.str p)).bind fun r => match r with
      | .ex e => some (.inr e)
      | .ok d => (compX f (ps.map D.str)).map fun r => match r with | .inl ds => .inl (d :: ds) | .inr e => .inr e := rfl
    rw [e0, h1, Option.bind_some]
    rcases h2 with ⟨a, b, ha, hb, e, rfl⟩ | rfl
    · rcases compX_any ps fun q hq => h q (List.mem_cons_of_mem _ hq) with ⟨rs, g1, g2, g3⟩ | g1
      · left
        refine ⟨(a, b) :: rs, ?_, by rw [e, g2]; rfl, fun x hx => ?_⟩
        · simp only [g1]; rfl
        · rcases List.mem_cons.mp hx with rfl | hx
          · exact ⟨ha, hb⟩
          · exact g3 x hx
      · right
        simp only [g1]; rfl
    · right
      rfl
def QT (t : List Nat) (r : RV) : Prop := (∃ n rs, GoodH n rs ∧ (∀ e ∈ rs, e.1 < 100 ∧ e.2 < 100) ∧ n < 100 ∧ t = textH n rs ∧ r = .ok (hD n rs)) ∨ r = BT
theorem read_any {t : List Nat} (ha : Asc t) (hl : t.length + 3 ≤ L) : ∃ r, s_read_2 [.str t] = some r ∧ QT t r := by
  unfold s_read_2
  refine runX_R rfl ?_
  simp only [d_read_2, startEnv, XDef.fd]
  have hg := glue_split 32 t []
  have hsub := split_sub 32 t []
  have hct := split_count 32 t []
  have hne := split_ne 32 t []
  generalize hS : splitC 32 [] t = P at hg hsub hct hne
  have hP : ∀ p ∈ P, Asc p ∧ p.length + 2 ≤ L := fun p hp => by
    obtain ⟨h1, h2⟩ := hsub p hp
    refine ⟨fun x hx => ?_, by simp at h2; omega⟩
    rcases h1 x hx with z | z
    · cases z
    · exact ha x z
  obtain ⟨p0, ps, rfl⟩ : ∃ p0 ps, P = p0 :: ps := by
    cases P with
    | nil => exact absurd rfl hne
    | cons a b => exact ⟨a, b, rfl⟩
  have hl2 : t.length + 2 ≤ L := by omega
  have hpl : ps.length < L := by simp at hct; omega
  have hc1 : cut (D.str p0 :: ps.map D.str) (some 1) none = ps.map D.str := cut_from1 _ _
  obtain ⟨a1, a2⟩ := hP p0 (by simp)
  obtain ⟨r1, e1, w1⟩ := whole_any a1 (by omega)
  have hmap : (p0 :: ps).map D.str = D.str p0 :: ps.map D.str := rfl
  generalize hC : calls [(103, okD s_whole_2), (104, okD s_rod_read_2), (95, okD s_checked_3)] = C
  generalize hR : callsX [(103, s_whole_2), (104, s_rod_read_2), (95, s_checked_3)] = R
  have r103 : R 103 = s_whole_2 := by rw [← hR]; rfl
  have r104 : R 104 = s_rod_read_2 := by rw [← hR]; rfl
  have r95 : R 95 = s_checked_3 := by rw [← hR]; rfl
  have hsp : exec C FU (.asg 1 0 (.split (.var 0) (.c (.str [32])))) [.val (.str t) .frz, .un, .un, .un] = some (.nx [.val (.str t) .frz, .val (.lst (D.str p0 :: ps.map D.str)) .frz, .un, .un]) := by
    simp [hl2, hS]
  have hty : evT C (.not_ (.tru (.isin (.var 0) .str))) [.val (.str t) .frz, .un, .un, .un] = some false := by simp
  show (∃ d, execX C R _ [.val (.str t) .frz, .un, .un, .un] = _ ∧ _) ∨ ∃ x e, execX C R _ [.val (.str t) .frz, .un, .un, .un] = _ ∧ _
  rw [qx_seq, qx_ite, hty]
  simp only [Option.bind_some, Bool.false_eq_true, if_false]
  have hsk : execX C R (.st .skip) [.val (.str t) .frz, .un, .un, .un] = some (.nx [.val (.str t) .frz, .un, .un, .un]) := by simp
  rw [hsk, qx_and_nx, qx_seq, qx_st, hsp]
  have hw : evX C R (.call 103 [] (.cons (.ix (.var 1) (.c (.int 0))) .nil)) [.val (.str t) .frz, .val (.lst (D.str p0 :: ps.map D.str)) .frz, .un, .un] = some r1 := by
    simp [r103, e1]
  rcases w1 with ⟨n, hn, en, rfl⟩ | rfl
  · have hcm := compX_any (f := fun d => (bindT (.nm 3) d [.val (.str t) .frz, .val (.lst (D.str p0 :: ps.map D.str)) .frz, .un, .un]).bind fun e1 => evX C R (.call 104 [] (.cons (.var 3) .nil)) e1) ps fun p hp => by
      obtain ⟨b1, b2⟩ := hP p (List.mem_cons_of_mem _ hp)
      obtain ⟨r, g1, g2⟩ := rod_any b1 b2
      exact ⟨r, by simp [r104, g1], g2⟩
    have hec : evX C R (.comp (.call 104 [] (.cons (.var 3) .nil)) (.nm 3) (.lst (.sl (.var 1) (.so (.c (.int 1))) .no))) [.val (.str t) .frz, .val (.lst (D.str p0 :: ps.map D.str)) .frz, .un, .un] =
        (compX (fun d => (bindT (.nm 3) d [.val (.str t) .frz, .val (.lst (D.str p0 :: ps.map D.str)) .frz, .un, .un]).bind fun e1 => evX C R (.call 104 [] (.cons (.var 3) .nil)) e1) (ps.map D.str)).map fun r => match r with | .inl ds => .ok (.lst ds) | .inr x => .ex x := by
      have hI : evI C (.lst (.sl (.var 1) (.so (.c (.int 1))) .no)) [.val (.str t) .frz, .val (.lst (D.str p0 :: ps.map D.str)) .frz, .un, .un] = some (ps.map D.str, true) ∨ evI C (.lst (.sl (.var 1) (.so (.c (.int 1))) .no)) [.val (.str t) .frz, .val (.lst (D.str p0 :: ps.map D.str)) .frz, .un, .un] = some (ps.map D.str, false) := by
        right
        simp [hc1]
      have hun : unset (Tg.nm 3).slots [.val (.str t) .frz, .val (.lst (D.str p0 :: ps.map D.str)) .frz, .un, .un] = [.val (.str t) .frz, .val (.lst (D.str p0 :: ps.map D.str)) .frz, .un, .un] := rfl
      have hlen : (ps.map D.str).length < L := by simpa using hpl
      simp only [evX]
      rw [hun]
      rcases hI with hI | hI <;> rw [hI] <;> simp only [Option.bind_some] <;> rw [if_pos hlen] <;> rfl
    rcases hcm with ⟨rs, g1, g2, g3⟩ | g1
    · have ht2 : evX C R (.tup (.cons (.call 103 [] (.cons (.ix (.var 1) (.c (.int 0))) .nil)) (.cons (.comp (.call 104 [] (.cons (.var 3) .nil)) (.nm 3) (.lst (.sl (.var 1) (.so (.c (.int 1))) .no))) .nil))) [.val (.str t) .frz, .val (.lst (D.str p0 :: ps.map D.str)) .frz, .un, .un] = some (.ok (hD n rs)) := by
        have L2 : 2 ≤ L := by rw [L_eq]; omega
        rw [qx_tup, qx_cons, hw, qx_cons, hec, g1]
        simp [L2]
        rfl
      have hrl : rs.length ≤ L := by
        have := congrArg List.length g2
        simp at this
        omega
      obtain ⟨r, c1, c2⟩ := checked_any (n := n) hrl
      have htx : t = textH n rs := by
        have hg' : glue [32] (p0 :: ps) = t := hg
        rw [← hg', en, g2]
        rfl
      simp only [Option.map_some, qx_to_nx, qx_and_nx]
      rw [qx_seq, qx_asg, ht2]
      simp only [Option.map_some, qx_and_nx]
      rcases c2 with ⟨gd, rfl⟩ | ⟨x, rfl⟩
      · left
        refine ⟨hD n rs, ?_, .inl ⟨n, rs, gd, g3, hn, htx, rfl⟩⟩
        simp [r95, c1]
      · right
        refine ⟨⟨1, none⟩, [.val (.str t) .frz, .val (.lst (D.str p0 :: ps.map D.str)) .frz, .val (hD n rs) .frz, .un], ?_, .inr rfl⟩
        simp [r95, c1, subC]
    · have ht2 : evX C R (.tup (.cons (.call 103 [] (.cons (.ix (.var 1) (.c (.int 0))) .nil)) (.cons (.comp (.call 104 [] (.cons (.var 3) .nil)) (.nm 3) (.lst (.sl (.var 1) (.so (.c (.int 1))) .no))) .nil))) [.val (.str t) .frz, .val (.lst (D.str p0 :: ps.map D.str)) .frz, .un, .un] = some BT := by
        rw [qx_tup, qx_cons, hw, qx_cons, hec, g1]
        simp
        rfl
      right
      refine ⟨⟨1, none⟩, [.val (.str t) .frz, .val (.lst (D.str p0 :: ps.map D.str)) .frz, .un, .un], ?_, .inr rfl⟩
      simp only [Option.map_some, qx_to_nx, qx_and_nx]
      rw [qx_seq, qx_asg, ht2]
      rfl
  · have ht2 : evX C R (.tup (.cons (.call 103 [] (.cons (.ix (.var 1) (.c (.int 0))) .nil)) (.cons (.comp (.call 104 [] (.cons (.var 3) .nil)) (.nm 3) (.lst (.sl (.var 1) (.so (.c (.int 1))) .no))) .nil))) [.val (.str t) .frz, .val (.lst (D.str p0 :: ps.map D.str)) .frz, .un, .un] = some BT := by
      rw [qx_tup, qx_cons, hw]
      rfl
    right
    refine ⟨⟨1, none⟩, [.val (.str t) .frz, .val (.lst (D.str p0 :: ps.map D.str)) .frz, .un, .un], ?_, .inr rfl⟩
    simp only [Option.map_some, qx_to_nx, qx_and_nx]
    rw [qx_seq, qx_asg, ht2]
    rfl
theorem read_no {d : D} (h : isTy d .str = false) : s_read_2 [d] = some BT := by
  unfold s_read_2
  refine runX_ex (e := [.val d .frz, .un, .un, .un]) rfl ?_
  simp [d_read_2, startEnv, XDef.fd, h]
end Hg
end

section
set_option autoImplicit false
set_option maxHeartbeats 1000000
/-! Pl40: the law's hedge of a long row of numbers. -/
namespace Hg
theorem sp_hedge40 (ns : List Int) (at_ : Nat) (hl : 63 < ns.length) : ∃ n rs, s_l_hedge [scr ns, .int at_] = some (hD n rs) ∧ Hedge n rs ∧ n ≤ 40 := by
  obtain ⟨big, hbig⟩ := sp_large ns
  have h1 := sp_cell ns at_
  have h2 := cell_int ns (at_ + 1) (at_ + 1) (by omega)
  have hl2 : (63 : Int) < ns.length := by omega
  obtain ⟨most, hmo⟩ : ∃ m : Int, m = 40 := ⟨_, rfl⟩
  have hmo1 : 0 < most ∧ most ≤ 40 := by subst hmo; decide
  have hn1 := Int.emod_nonneg (cell ns at_) (show most ≠ 0 by omega)
  have hn2 := Int.emod_lt_of_pos (cell ns at_) hmo1.1
  obtain ⟨n, hn⟩ := Int.eq_ofNat_of_zero_le (show 0 ≤ 1 + cell ns at_ % most by omega)
  have hn18 : n ≤ 40 := by omega
  have hn0 : 0 < n := by omega
  have ho := sp_order ns at_ n (by omega)
  have hpm := orderOf_perm ns at_ n
  generalize orderOf ns at_ n = p at ho hpm
  have hpl : p.length = n := by simpa using hpm.length_eq
  have hpn : p.Nodup := hpm.nodup_iff.mpr List.nodup_range
  have hget : ∀ o : Nat, o < n → ∃ a, p[o]? = some a := fun o ho => ⟨p[o], List.getElem?_eq_getElem (by omega)⟩
  have key : ∃ d, s_l_hedge [scr ns, .int at_] = some d ∧ ∃ es, Tr p.reverse es.reverse ∧ d = hD n (sortR es) := by
    refine runF_R rfl ?_
    simp only [d_l_hedge, startEnv]
    have fin : ∀ (k o a b : Nat) (rods : List (Nat × Nat)), Tr (p.take k).reverse rods.reverse → o < k → p[o]? = some b → p[k]? = some a → Tr (p.take (k + 1)).reverse (rods ++ [(min a b, max a b)]).reverse := by
      intro k o a b rods hT ho hb ha
      obtain ⟨hk, ha2⟩ := List.getElem?_eq_some_iff.mp ha
      obtain ⟨ho2, hb2⟩ := List.getElem?_eq_some_iff.mp hb
      rw [take_snoc p k hk, List.reverse_append, List.reverse_append, ha2, Nat.min_comm, Nat.max_comm]
      show Tr (a :: (p.take k).reverse) ((min b a, max b a) :: rods.reverse)
      refine Tr.add b a hT ?_ ?_
      · rw [List.mem_reverse, ← hb2, List.mem_take_iff_getElem]
        exact ⟨o, by omega, rfl⟩
      · rw [List.mem_reverse, ← ha2, List.mem_take_iff_getElem]
        rintro ⟨i, hi, he⟩
        have := (List.getElem_inj hpn).mp he
        omega
    subst hmo
    cases big <;> simp [hbig, hl2, h1, h2, hn, ho] <;> generalize cell ns (at_ + 1) % 5 = mn
    all_goals
      refine for_R (R := fun o => ∃ d, o = some (.rt d) ∧ ∃ es, Tr p.reverse es.reverse ∧ d = hD n (sortR es)) (List.range' 1 (n - 1)) nD
        (fun rods : List (Nat × Nat) => [.val (scr ns) .frz, .val (.int at_) .frz, .val (.int _) .frz, .val (.int n) .frz, .val (.lst (p.map nD)) .frz, .val (.int mn) .frz, .val (.lst (rods.map rodD)) .own1, .un, .un, .un, .un])
        (fun pre rods => Tr (p.take (pre.length + 1)).reverse rods.reverse ∧ rods.length ≤ pre.length) [] (evI_rng1 rfl rfl (by omega)) rfl ?_ ?_ ?_
      · match p, hpl with
        | [], h => simp at h; omega
        | x :: xs, h => exact ⟨Tr.one x, Nat.le_refl _⟩
      · intro pre k post rods e hI
        obtain ⟨hI, hlen⟩ := hI
        obtain ⟨hk1, hk2, hk3⟩ := range'_split e
        obtain ⟨a, ha⟩ := hget k (by omega)
        have hc := cell_int ns (at_ + 1 + k) (at_ + 1 + k) (by omega)
        have hm1 := sp_mix (cell ns (at_ + 1 + k) + 3 * k * k) 9973 k (by decide) (by omega)
        have hm1l := mix_lt (cell ns (at_ + 1 + k) + 3 * k * k) 9973 k (by omega)
        have hm2 := sp_mix (cell ns (at_ + 1 + k)) 9967 3 (by decide) (by decide)
        have hm3 : mulOk 3 (k : Int) = true := mulOk_l (by decide) (by decide)
        have hm4 : mulOk (3 * (k : Int)) (k : Int) = true := mulOk_l (by omega) (by omega)
        generalize mix (cell ns (at_ + 1 + k) + 3 * k * k) 9973 k = v1 at hm1 hm1l
        generalize mix (cell ns (at_ + 1 + k)) 9967 3 = v2 at hm2
        have e1 : pre.length + 1 = k := by omega
        rw [e1] at hI
        have hrl : rods.length < L := by simp [L_eq]; omega
        rw [List.length_append, List.length_singleton]
        have goal : ∀ (w : Int) (o b : Nat), o < k → p[o]? = some b → ∀ r, r = some (Out.nx [.val (scr ns) .frz, .val (.int at_) .frz, .val (.int w) .frz, .val (.int n) .frz, .val (.lst (p.map nD)) .frz, .val (.int mn) .frz, .val (.lst (rods.map rodD ++ [.tup [.int (min (a : Int) b), .int (max (a : Int) b)]])) .own1, .un, .un, .un, .un]) →
            ∃ b' : List (Nat × Nat), r = some (.nx [.val (scr ns) .frz, .val (.int at_) .frz, .val (.int w) .frz, .val (.int n) .frz, .val (.lst (p.map nD)) .frz, .val (.int mn) .frz, .val (.lst (b'.map rodD)) .own1, .un, .un, .un, .un]) ∧ Tr (p.take (pre.length + 1 + 1)).reverse b'.reverse ∧ b'.length ≤ pre.length + 1 := by
          intro w o b ho hb r hr
          refine ⟨rods ++ [(min a b, max a b)], ?_, by rw [e1]; exact fin k o a b rods hI ho hb ha, by simp; omega⟩
          rw [hr, List.map_append]
          simp only [List.map_cons, List.map_nil, rodD]
          rw [show ((min a b : Nat) : Int) = min (a : Int) b by omega, show ((max a b : Nat) : Int) = max (a : Int) b by omega]
        have hg : ∀ (o b : Nat) (i : Int), p[o]? = some b → i = (o : Int) → getIx (p.map nD) i = some (.int (b : Int)) := by
          intro o b i hb hi
          rw [hi, getIx_nat, List.getElem?_map, hb]; rfl
        have hga := hg k a k ha rfl
        by_cases c1 : mn = 1
        · obtain ⟨b, hb⟩ := hget (k - 1) (by omega)
          refine goal _ (k - 1) b (by omega) hb _ ?_
          have e2 := hg (k - 1) b ((k : Int) - 1) hb (by omega)
          simp [nD, hc, q_mulI, hm1, hm3, hm4, c1, e2, hga, hrl, PD_eq, -getIx_nat, -getIx_zero]
        · by_cases c2 : mn = 2
          · obtain ⟨b, hb⟩ := hget 0 (by omega)
            refine goal _ 0 b (by omega) hb _ ?_
            have e2 := hg 0 b 0 hb rfl
            simp [nD, hc, q_mulI, hm1, hm3, hm4, c2, e2, hga, hrl, PD_eq, -getIx_nat, -getIx_zero]
          · by_cases c3 : mn = 3
            · obtain ⟨b, hb⟩ := hget (k - 1 - v2) (by omega)
              refine goal _ (k - 1 - v2) b (by omega) hb _ ?_
              have e2 := hg (k - 1 - v2) b (max 0 ((k : Int) - 1 - v2)) hb (by omega)
              simp [nD, hc, q_mulI, hm1, hm2, hm3, hm4, c3, e2, hga, hrl, PD_eq, -getIx_nat, -getIx_zero]
            · obtain ⟨b, hb⟩ := hget v1 (by omega)
              refine goal _ v1 b (by omega) hb _ ?_
              have e2 := hg v1 b v1 hb rfl
              simp [nD, hc, q_mulI, hm1, hm2, hm3, hm4, c1, c2, c3, e2, hga, hrl, PD_eq, -getIx_nat, -getIx_zero]
      · intro rods hI
        obtain ⟨hI, hlen⟩ := hI
        rw [List.length_range', List.take_of_length_le (by omega)] at hI
        refine ⟨_, ?_, rods, hI, rfl⟩
        have hl3 : rods.length < L := by simp [L_eq]; simp at hlen; omega
        simp [hD, sortedV_R hl3]
  obtain ⟨d, h6, es, h5, h8⟩ := key
  subst h8
  exact ⟨n, sortR es, h6, Hedge.of_tr (n := n) h5 ((List.reverse_perm p).trans hpm) (List.reverse_perm es), hn18⟩
theorem sp_hedgeA (ns : List Int) (at_ : Nat) : ∃ n rs, s_l_hedge [scr ns, .int at_] = some (hD n rs) ∧ Hedge n rs ∧ n ≤ 40 := by
  by_cases c : ns.length ≤ 63
  · obtain ⟨n, rs, h1, h2, h3⟩ := sp_hedge ns at_ c
    exact ⟨n, rs, h1, h2, by omega⟩
  · exact sp_hedge40 ns at_ (by omega)
/-- each knot joined to one ahead -/
theorem tr_rec (g : Nat → Nat) : ∀ n, (∀ k, 0 < k → k < n + 1 → g k < k) → Tr (List.range (n + 1)).reverse (((List.range' 1 n).map fun k => (g k, k)).reverse)
  | 0, _ => Tr.one 0
  | n + 1, h => by
    have ih := tr_rec g n fun k h0 hk => h k h0 (by omega)
    have hg := h (n + 1) (by omega) (by omega)
    rw [List.range_succ, List.reverse_append, List.range'_concat, List.map_append, List.reverse_append]
    show Tr ((n + 1) :: (List.range (n + 1)).reverse) ((g (1 + 1 * n), 1 + 1 * n) :: _)
    have e : (g (1 + 1 * n), 1 + 1 * n) = (min (g (n + 1)) (n + 1), max (g (n + 1)) (n + 1)) := by
      rw [show 1 + 1 * n = n + 1 by omega, Nat.min_eq_left (by omega), Nat.max_eq_right (by omega)]
    rw [e]
    exact Tr.add _ _ ih (by simp; omega) (by simp)
theorem hedge_rec (g : Nat → Nat) {n : Nat} (hn : 0 < n) (h : ∀ k, 0 < k → k < n → g k < k) : Hedge n (sortR ((List.range' 1 (n - 1)).map fun k => (g k, k))) := by
  obtain ⟨m, rfl⟩ : ∃ m, n = m + 1 := ⟨n - 1, by omega⟩
  exact Hedge.of_tr (tr_rec g m h) (List.reverse_perm _) (List.reverse_perm _)
end Hg
end

section
set_option autoImplicit false
set_option maxHeartbeats 1000000
namespace Hg
/-! ### refusals -/
theorem ref_ex {d : D} (h : s_read_2 [d] = some BT) : s_l_refused_5 [d] = some (.bl true) ∧ s_l_by_base_5 [d] = some (.bl true) := by
  have h' : s_read_2 [d] = some (.ex ⟨1, none⟩) := h
  refine ⟨?_, ?_⟩
  · unfold s_l_refused_5
    refine okD_rt rfl ?_
    simp [d_l_refused_5, startEnv, XDef.fd, h', subC]
  · unfold s_l_by_base_5
    refine okD_rt rfl ?_
    simp [d_l_by_base_5, startEnv, XDef.fd, h', subC]
theorem ref_ok {d v : D} (h : s_read_2 [d] = some (.ok v)) : s_l_refused_5 [d] = some (.bl false) := by
  unfold s_l_refused_5
  refine okD_rt rfl ?_
  simp [d_l_refused_5, startEnv, XDef.fd, h]
/-! ### shown, of a hedge that is read -/
theorem digs_lt {n : Nat} (hn : n < 100) (h50 : 50 ≤ n) : True := trivial
theorem splitH {n : Nat} {rs : List (Nat × Nat)} (hn : n < 100) (hr : ∀ e ∈ rs, e.1 < 100 ∧ e.2 < 100) : splitC 32 [] (textH n rs) = digs n :: rs.map rowT := by
  have fd : ∀ {n c : Nat}, n < 100 → c < 48 → c ∉ digs n := fun hn hc q => by
    have := (num2 hn).2.2.2 _ q
    omega
  refine split_glue 32 _ (by simp) fun p hp => ?_
  rcases List.mem_cons.mp hp with rfl | hp
  · exact fd hn (by omega)
  · obtain ⟨e, he, rfl⟩ := List.mem_map.mp hp
    obtain ⟨ha, hb⟩ := hr e he
    unfold rowT
    simp only [List.mem_append, List.mem_singleton, not_or]
    exact ⟨⟨fd ha (by omega), by omega⟩, fd hb (by omega)⟩
theorem digs_inj {n m : Nat} (hn : n < 100) (hm : m < 100) (h : digs n = digs m) : n = m := by
  have h1 := (num2 hn).1
  rw [h, (num2 hm).1] at h1
  have := Option.some.inj h1
  omega
/-- told apart by its parts -/
theorem read_parts {t : List Nat} (ha : Asc t) (hl : t.length + 3 ≤ L) (h : ∀ n rs, GoodH n rs → n < 100 → splitC 32 [] t ≠ digs n :: rs.map rowT) : s_read_2 [.str t] = some BT := by
  obtain ⟨r, h1, h2⟩ := read_any ha hl
  rcases h2 with ⟨n, rs, g, hr, hn, e, rfl⟩ | rfl
  · exact absurd (by rw [e]; exact splitH hn hr) (h n rs g hn)
  · exact h1
theorem asc_app {s t : List Nat} (hs : Asc s) (ht : Asc t) : Asc (s ++ t) := fun x hx => (List.mem_append.mp hx).elim (hs x) (ht x)
theorem asc_textH {n : Nat} {rs : List (Nat × Nat)} (hn : n < 100) (hr : ∀ e ∈ rs, e.1 < 100 ∧ e.2 < 100) : Asc (textH n rs) := by
  have fd : ∀ {n : Nat}, n < 100 → Asc (digs n) := fun hn c q => by
    have := (num2 hn).2.2.2 _ q
    omega
  unfold textH
  rw [glue_cons]
  refine asc_app (fd hn) fun x hx => ?_
  obtain ⟨p, hp, hx⟩ := List.mem_flatten.mp hx
  obtain ⟨q, hq, rfl⟩ := List.mem_map.mp hp
  obtain ⟨e, he, rfl⟩ := List.mem_map.mp hq
  obtain ⟨h1, h2⟩ := hr e he
  rcases List.mem_append.mp hx with z | z
  · have e := List.mem_singleton.mp z
    omega
  · unfold rowT at z
    rcases List.mem_append.mp z with z | z
    · rcases List.mem_append.mp z with z | z
      · exact fd h1 x z
      · have e := List.mem_singleton.mp z
        omega
    · exact fd h2 x z
theorem asc_one {c : Nat} (h : c < 128) : Asc [c] := fun x hx => by
  have := List.mem_singleton.mp hx
  omega
theorem asc4 : Asc [32, 48, 45, 48] := by
  intro x hx
  simp at hx
  omega
theorem splitC_acc (c : Nat) : ∀ (t acc p : List Nat) (P : List (List Nat)), splitC c [] t = p :: P → splitC c acc t = (acc ++ p) :: P := by
  intro t acc p P h
  have gen : ∀ (t a1 a2 : List Nat) (p : List Nat) (P : List (List Nat)), splitC c a2 t = p :: P → splitC c (a1 ++ a2) t = (a1 ++ p) :: P := by
    intro t
    induction t with
    | nil =>
      intro a1 a2 p P h
      have h' : [a2] = p :: P := h
      injection h' with h1 h2
      subst h1 h2
      rfl
    | cons x t ih =>
      intro a1 a2 p P h
      have h' : (if x = c then a2 :: splitC c [] t else splitC c (a2 ++ [x]) t) = p :: P := h
      show (if x = c then (a1 ++ a2) :: splitC c [] t else splitC c ((a1 ++ a2) ++ [x]) t) = _
      by_cases hx : x = c
      · rw [if_pos hx] at h' ⊢
        injection h' with h1 h2
        subst h1 h2
        rfl
      · rw [if_neg hx] at h' ⊢
        rw [List.append_assoc]
        exact ih a1 (a2 ++ [x]) p P h'
  have := gen t acc [] p P h
  rwa [List.append_nil] at this
def dz (n m : Nat) : Bool := decide (48 :: digs n = digs m)
theorem dz_all : ∀ n m : Fin 100, dz n.val m.val = false := by decide +kernel
theorem digs_z {n m : Nat} (hn : n < 100) (hm : m < 100) : 48 :: digs n ≠ digs m := by
  have := dz_all ⟨n, hn⟩ ⟨m, hm⟩
  unfold dz at this
  simpa using this
theorem split_snoc (c : Nat) : ∀ (t acc r : List Nat), splitC c acc (t ++ c :: r) = splitC c acc t ++ splitC c [] r
  | [], acc, r => by simp [splitC]
  | x :: t, acc, r => by
    show (if x = c then acc :: splitC c [] (t ++ c :: r) else splitC c (acc ++ [x]) (t ++ c :: r)) = (if x = c then acc :: splitC c [] t else splitC c (acc ++ [x]) t) ++ _
    by_cases h : x = c
    · rw [if_pos h, if_pos h, split_snoc c t [] r]; rfl
    · rw [if_neg h, if_neg h, split_snoc c t (acc ++ [x]) r]
theorem sp_none {n : Nat} {rs : List (Nat × Nat)} (h : Hedge n rs) (hn : n ≤ 40) (m : Int) : ∃ d, s_l_none_2 [.str (textH n rs), .int m] = some d ∧ s_read_2 [d] = some BT := by
  have hlen := h.len
  have hr : ∀ e ∈ rs, e.1 < 50 ∧ e.2 < 50 := fun e he => by have := h.lt he; omega
  have hr2 : ∀ e ∈ rs, e.1 < 100 ∧ e.2 < 100 := fun e he => by have := hr e he; omega
  have hT := textH_len (n := n) (by omega) hr
  have hA := asc_textH (n := n) (by omega) hr2
  have hS := splitH (n := n) (by omega) hr2
  have hLL : (textH n rs).length + 100 ≤ L := by rw [L_eq]; omega
  obtain ⟨j, hj, hm⟩ : ∃ j : Nat, j < 9 ∧ m % 9 = (j : Int) := by
    have q1 := Int.emod_nonneg m (show (9 : Int) ≠ 0 by omega)
    have q2 := Int.emod_lt_of_pos m (show (0 : Int) < 9 by omega)
    obtain ⟨t, ht⟩ := Int.eq_ofNat_of_zero_le q1
    exact ⟨t, by omega, ht⟩
  generalize textH n rs = T at *
  have key : ∀ d ∈ ([.str [], .str [32], .str (T ++ [32]), .str ([32] ++ T), .str ([48] ++ T), .non, .int 7, .lst [.str T], .str (T ++ [32, 48, 45, 48])] : List D), s_read_2 [d] = some BT := by
    intro d hd
    simp only [List.mem_cons, List.not_mem_nil, or_false] at hd
    rcases hd with rfl | rfl | rfl | rfl | rfl | rfl | rfl | rfl | rfl
    · refine read_parts (fun x hx => by cases hx) (by rw [L_eq]; simp) fun n' rs' g hn' e => ?_
      have := (num2 hn').2.1
      have e4 := (List.cons.inj (show [([] : List Nat)] = digs n' :: rs'.map rowT from e)).1
      rw [← e4] at this
      simp at this
    · refine read_parts (asc_one (by omega)) (by simp; omega) fun n' rs' g hn' e => ?_
      have := (num2 hn').2.1
      have e4 := (List.cons.inj (show [([] : List Nat), []] = digs n' :: rs'.map rowT from e)).1
      rw [← e4] at this
      simp at this
    · refine read_parts (asc_app hA (asc_one (by omega))) (by simp; omega) fun n' rs' g hn' e => ?_
      have e2 := split_snoc 32 T [] []
      rw [e2, hS] at e
      have e3 := congrArg List.length e
      have e4 := (List.cons.inj e).1
      have := digs_inj (by omega) hn' e4
      obtain ⟨_, _, g3, _⟩ := g
      simp [splitC] at e3
      omega
    · refine read_parts (asc_app (asc_one (by omega)) hA) (by simp; omega) fun n' rs' g hn' e => ?_
      have := (num2 hn').2.1
      have e2 : splitC 32 [] ([32] ++ T) = [] :: splitC 32 [] T := by simp [splitC]
      rw [e2] at e
      have e4 := (List.cons.inj e).1
      rw [← e4] at this
      simp at this
    · refine read_parts (asc_app (asc_one (by omega)) hA) (by simp; omega) fun n' rs' g hn' e => ?_
      have e3 : splitC 32 [] ([48] ++ T) = splitC 32 [48] T := by simp [splitC]
      rw [e3, splitC_acc 32 T [48] _ _ hS] at e
      have e4 := (List.cons.inj e).1
      exact digs_z (by omega) hn' e4
    · exact read_no rfl
    · exact read_no rfl
    · exact read_no rfl
    · refine read_parts (asc_app hA asc4) (by simp; omega) fun n' rs' g hn' e => ?_
      have e2 := split_snoc 32 T [] [48, 45, 48]
      have e1 : T ++ [32, 48, 45, 48] = T ++ 32 :: [48, 45, 48] := rfl
      rw [e1, e2, hS] at e
      have e3 := congrArg List.length e
      have e4 := (List.cons.inj e).1
      have := digs_inj (by omega) hn' e4
      obtain ⟨_, _, g3, _⟩ := g
      simp [splitC] at e3
      omega
  have hd : ([.str [], .str [32], .str (T ++ [32]), .str ([32] ++ T), .str ([48] ++ T), .non, .int 7, .lst [.str T], .str (T ++ [32, 48, 45, 48])] : List D)[j]? = some (([.str [], .str [32], .str (T ++ [32]), .str ([32] ++ T), .str ([48] ++ T), .non, .int 7, .lst [.str T], .str (T ++ [32, 48, 45, 48])] : List D)[j]'(by simpa using hj)) := List.getElem?_eq_getElem _
  refine ⟨_, ?_, key _ (List.getElem_mem (by simpa using hj))⟩
  generalize ([.str [], .str [32], .str (T ++ [32]), .str ([32] ++ T), .str ([48] ++ T), .non, .int 7, .lst [.str T], .str (T ++ [32, 48, 45, 48])] : List D)[j]'(by simpa using hj) = d at hd ⊢
  have a1 : addD (.str T) (.str [32]) = some (.str (T ++ [32])) := addD_str (by simp; omega)
  have a2 : addD (.str [32]) (.str T) = some (.str ([32] ++ T)) := addD_str (by simp; omega)
  have a3 : addD (.str [48]) (.str T) = some (.str ([48] ++ T)) := addD_str (by simp; omega)
  have a4 : addD (.str T) (.str [32, 48, 45, 48]) = some (.str (T ++ [32, 48, 45, 48])) := addD_str (by simp; omega)
  have l1 : 1 ≤ L := by omega
  have l9 : 9 ≤ L := by omega
  unfold s_l_none_2
  refine runF_eq rfl ?_
  simp only [d_l_none_2, startEnv]
  simp at a2 a3 hd
  simp [a1, a2, a3, a4, l1, l9, hm, hd]
theorem sp_shown_g {n : Nat} {rs : List (Nat × Nat)} (hlen : rs.length + 1 = n) (hn : n < 50) (hr : ∀ e ∈ rs, e.1 < 50 ∧ e.2 < 50) : s_shown [hD n rs] = some (.str (textH n rs)) := by
  unfold s_shown
  refine runF_eq rfl ?_
  simp only [d_shown, startEnv]
  have e1 : ev (calls []) (.strI (.ix (.var 0) (.c (.int 0)))) [.val (hD n rs) .frz, .un, .un] = some (.str (digs n), .frz) := ev_strI (k := .frz) (by simp [nD]) hn
  have e2 : ev (calls []) (.comp false (.add (.add (.strI (.var 1)) (.c (.str [45]))) (.strI (.var 2))) (.tp [1, 2]) (.lst (.ix (.var 0) (.c (.int 1)))) (.yes)) [.val (hD n rs) .frz, .un, .un] = some (.lst (rs.map fun e => .str (rowT e)), .new1) := by
    refine ev_compM rs rodD (fun e => D.str (rowT e)) (own := false) rfl ?_ (by rw [L_eq]; omega)
    rintro ⟨a, b⟩ he
    obtain ⟨ha, hb⟩ := hr _ he
    simp only at ha hb
    refine ⟨_, rfl, .frz, ?_, rfl⟩
    have f1 : ev (calls []) (.strI (.var 1)) [.val (hD n rs) .frz, .val (.int a) .frz, .val (.int b) .frz] = some (.str (digs a), .frz) := ev_strI (k := .frz) rfl ha
    have f2 : ev (calls []) (.strI (.var 2)) [.val (hD n rs) .frz, .val (.int a) .frz, .val (.int b) .frz] = some (.str (digs b), .frz) := ev_strI (k := .frz) rfl hb
    have l1 := digs_len ha
    have l2 := digs_len hb
    have g1 : addD (.str (digs a)) (.str [45]) = some (.str (digs a ++ [45])) := addD_str (by have e : L = 100000 := rfl; simp only [List.length_cons, List.length_nil]; omega)
    have g2 : addD (.str (digs a ++ [45])) (.str (digs b)) = some (.str (rowT (a, b))) := addD_str (by have e : L = 100000 := rfl; simp only [List.length_append, List.length_cons, List.length_nil]; omega)
    show ev (calls []) _ [.val (hD n rs) .frz, .val (.int a) .frz, .val (.int b) .frz] = _
    simp only [q_ev_add, f1, f2]
    simp [g1]
    simp [g2]
  have e3 : strsD (D.str (digs n) :: rs.map fun e => D.str (rowT e)) = some (digs n :: rs.map rowT) := by
    have := strsD_str (digs n :: rs.map rowT)
    rw [List.map_cons, List.map_map] at this
    exact this
  have hsum : ((digs n :: rs.map rowT).map List.length).sum + (digs n :: rs.map rowT).length * 1 ≤ L := by
    have h1 := digs_len hn
    have : ∀ l : List (Nat × Nat), (∀ e ∈ l, e.1 < 50 ∧ e.2 < 50) → ((l.map rowT).map List.length).sum ≤ 5 * l.length := by
      intro l
      induction l with
      | nil => intro _; simp
      | cons e l ih =>
        intro h
        have ih := ih fun x hx => h x (List.mem_cons_of_mem _ hx)
        obtain ⟨a, b⟩ := h e (by simp)
        have := digs_len a
        have := digs_len b
        simp only [List.map_cons, List.sum_cons, List.length_append, List.length_cons, rowT, List.length_nil] at ih ⊢
        omega
    have := this rs hr
    simp only [List.map_cons, List.sum_cons, List.length_cons, List.length_map]
    rw [L_eq]
    omega
  have e4 : [D.str (digs n)].length + (rs.map fun e => D.str (rowT e)).length ≤ L := by simp [L_eq]; omega
  have e5 := addD_lst e4
  have e6 : ev (calls []) (.add (.lst (.cons (.strI (.ix (.var 0) (.c (.int 0)))) (.nil))) (.comp false (.add (.add (.strI (.var 1)) (.c (.str [45]))) (.strI (.var 2))) (.tp [1, 2]) (.lst (.ix (.var 0) (.c (.int 1)))) (.yes))) [.val (hD n rs) .frz, .un, .un] = some (.lst ([D.str (digs n)] ++ rs.map fun e => D.str (rowT e)), .new1) := by
    rw [q_ev_add, q_ev_lst, q_evs_cons, q_evs_nil, e1, e2]
    simp only [vm_frz, Option.bind_some, List.length_cons, List.length_nil, Nat.zero_add, L1, if_true, em_new1, e5, q_nwL]
  have e7 : ev (calls []) (.join (.c (.str [32])) (.add (.lst (.cons (.strI (.ix (.var 0) (.c (.int 0)))) (.nil))) (.comp false (.add (.add (.strI (.var 1)) (.c (.str [45]))) (.strI (.var 2))) (.tp [1, 2]) (.lst (.ix (.var 0) (.c (.int 1)))) (.yes)))) [.val (hD n rs) .frz, .un, .un] = some (.str (textH n rs), .frz) := by
    rw [q_ev_join, e6]
    have e8 : bm (ev (calls []) (.c (.str [32])) [.val (hD n rs) .frz, .un, .un]) = some (.str [32]) := rfl
    rw [e8]
    simp only [Option.bind_some, bm_some]
    rw [show [D.str (digs n)] ++ (rs.map fun e => D.str (rowT e)) = D.str (digs n) :: rs.map fun e => D.str (rowT e) from rfl, e3]
    simp only [Option.bind_some]
    exact if_pos hsum
  rw [q_exec_seq, q_exec_ret]
  show andThen (Option.map Out.rt (vm (ev (calls []) _ [.val (hD n rs) .frz, .un, .un]))) _ = _
  rw [e7]
  rfl
/-! ### a text spoilt -/
theorem cut_len {α : Type} (xs : List α) (l h : Option Int) : (cut xs l h).length ≤ xs.length := by
  unfold cut
  rw [List.length_take, List.length_drop]
  omega
theorem cut_in {α : Type} {xs : List α} {l h : Option Int} {x : α} (q : x ∈ cut xs l h) : x ∈ xs := List.mem_of_mem_drop (List.mem_of_mem_take q)
theorem cut_mapD {α β : Type} (f : α → β) (xs : List α) (l h : Option Int) : cut (xs.map f) l h = (cut xs l h).map f := by
  unfold cut
  rw [List.length_map, List.map_take, List.map_drop]
theorem asc_cut {T : List Nat} (ha : Asc T) (l h : Option Int) : Asc (cut T l h) := fun x hx => ha x (cut_in hx)
theorem glue_len1 (M : Nat) : ∀ R : List (List Nat), (∀ p ∈ R, p.length ≤ M) → (R.map List.length).sum ≤ R.length * M ∧ (glue [32] R).length ≤ R.length * (M + 1) := by
  intro R hR
  have h1 : ∀ R : List (List Nat), (∀ p ∈ R, p.length ≤ M) → (R.map List.length).sum ≤ R.length * M := by
    intro R
    induction R with
    | nil => intro _; simp
    | cons x R ih =>
      intro h
      have a := ih fun p hp => h p (List.mem_cons_of_mem _ hp)
      have b := h x (by simp)
      rw [List.map_cons, List.sum_cons, List.length_cons, Nat.add_mul]
      omega
  refine ⟨h1 R hR, ?_⟩
  cases R with
  | nil => simp [glue]
  | cons x R =>
    rw [glue_cons, List.length_append, List.length_flatten, List.map_map]
    have a := hR x (by simp)
    have b : ∀ R : List (List Nat), (∀ p ∈ R, p.length ≤ M) → (R.map (List.length ∘ fun p => [32] ++ p)).sum ≤ R.length * (M + 1) := by
      intro R
      induction R with
      | nil => intro _; simp
      | cons x R ih =>
        intro h
        have a := ih fun p hp => h p (List.mem_cons_of_mem _ hp)
        have b := h x (by simp)
        rw [List.map_cons, List.sum_cons, List.length_cons, Nat.add_mul]
        simp only [Function.comp, List.length_append, List.length_cons, List.length_nil] at a ⊢
        omega
    have c := b R fun p hp => hR p (List.mem_cons_of_mem _ hp)
    rw [List.length_cons, Nat.add_mul]
    omega
theorem asc_glue {R : List (List Nat)} (h : ∀ p ∈ R, Asc p) : Asc (glue [32] R) := by
  cases R with
  | nil => intro x hx; cases hx
  | cons y R =>
    rw [glue_cons]
    refine asc_app (h y (by simp)) fun x hx => ?_
    obtain ⟨p, hp, hx⟩ := List.mem_flatten.mp hx
    obtain ⟨q, hq, rfl⟩ := List.mem_map.mp hp
    exact asc_app (asc_one (by omega)) (h q (List.mem_cons_of_mem _ hq)) x hx
def signs : List Nat := [48, 49, 50, 51, 52, 53, 54, 55, 56, 57, 32, 45, 97, 43, 95, 9, 10]
theorem sign_at (s : Int) : ∃ c, ixV (.str [48, 49, 50, 51, 52, 53, 54, 55, 56, 57, 32, 45, 97, 43, 95, 9, 10], .frz) (.int (s % 17)) = some (.str [c], .frz) ∧ c < 128 := by
  obtain ⟨j, hj, hm⟩ : ∃ j : Nat, j < 17 ∧ s % 17 = (j : Int) := by
    have q1 := Int.emod_nonneg s (show (17 : Int) ≠ 0 by omega)
    have q2 := Int.emod_lt_of_pos s (show (0 : Int) < 17 by omega)
    obtain ⟨t, ht⟩ := Int.eq_ofNat_of_zero_le q1
    exact ⟨t, by omega, ht⟩
  have hj' : j < signs.length := hj
  have hg : signs[j]? = some (signs[j]'hj') := List.getElem?_eq_getElem _
  refine ⟨signs[j]'hj', ?_, ?_⟩
  · have : ixV (.str signs, .frz) (.int (s % 17)) = some (.str [signs[j]'hj'], .frz) := by
      rw [ixV_s _ _ _ (by rw [L_eq]; decide), hm, getIx_nat, hg]
      rfl
    exact this
  · have h2 : ∀ x ∈ signs, x < 128 := by decide
    exact h2 _ (List.getElem_mem hj')
theorem mod_nat (p : Int) {m : Nat} (h : 1 ≤ m) : ∃ k : Nat, k < m ∧ p % (m : Int) = (k : Int) := by
  have q1 := Int.emod_nonneg p (show (m : Int) ≠ 0 by omega)
  have q2 := Int.emod_lt_of_pos p (show (0 : Int) < (m : Int) by omega)
  obtain ⟨t, ht⟩ := Int.eq_ofNat_of_zero_le q1
  exact ⟨t, by omega, ht⟩
theorem sp_spoilt {T : List Nat} (ha : Asc T) (h1 : 1 ≤ T.length) (h2 : T.length ≤ 104) (j : Nat) (hj : j < 5) (p s : Int) : ∃ t', s_l_spoilt_3 [.str T, .int (j : Int), .int p, .int s] = some (.str t') ∧ Asc t' ∧ t'.length + 3 ≤ L := by
  have hL : T.length ≤ L := by rw [L_eq]; omega
  have sl : ∀ l h, slV (.str T) l h = some (.str (cut T l h), .frz) := fun l h => slV_s T l h hL
  have cl : ∀ l h, (cut T l h).length ≤ 104 := fun l h => Nat.le_trans (cut_len T l h) h2
  have ca : ∀ l h, Asc (cut T l h) := fun l h => asc_cut ha l h
  obtain ⟨k, hk, hq⟩ := mod_nat p h1
  have hpos : (0 : Nat) < T.length := by omega
  have hlen := q_lenL_s T hL
  have ad : ∀ a b : List Nat, a.length + b.length ≤ L → addD (.str a) (.str b) = some (.str (a ++ b)) := fun a b h => addD_str h
  have lap : ∀ (a b : List Nat) (x y : Nat), a.length ≤ x → b.length ≤ y → (a ++ b).length ≤ x + y := fun a b x y h1 h2 => by rw [List.length_append]; omega
  unfold s_l_spoilt_3
  match j, hj with
  | 0, _ =>
    have l1 := cl none (some (k : Int))
    have l2 := cl (some ((k : Int) + 1)) none
    have A := ad (cut T none (some (k : Int))) (cut T (some ((k : Int) + 1)) none) (by rw [L_eq]; omega)
    refine ⟨cut T none (some (k : Int)) ++ cut T (some ((k : Int) + 1)) none, runF_eq rfl ?_, asc_app (ca _ _) (ca _ _), by rw [L_eq, List.length_append]; omega⟩
    simp only [d_l_spoilt_3, startEnv]
    simp [hlen, hpos, hq, sl, A]
  | 1, _ =>
    have l1 := cl none (some ((k : Int) + 1))
    have l2 := cl (some (k : Int)) none
    have A := ad (cut T none (some ((k : Int) + 1))) (cut T (some (k : Int)) none) (by rw [L_eq]; omega)
    refine ⟨cut T none (some ((k : Int) + 1)) ++ cut T (some (k : Int)) none, runF_eq rfl ?_, asc_app (ca _ _) (ca _ _), by rw [L_eq, List.length_append]; omega⟩
    simp only [d_l_spoilt_3, startEnv]
    simp [hlen, hpos, hq, sl, A]
  | 2, _ =>
    obtain ⟨c, hc, hc2⟩ := sign_at s
    have l1 := cl none (some (k : Int))
    have l2 := cl (some ((k : Int) + 1)) none
    have A := ad (cut T none (some (k : Int))) [c] (by rw [L_eq, List.length_singleton]; omega)
    have B := ad (cut T none (some (k : Int)) ++ [c]) (cut T (some ((k : Int) + 1)) none) (by rw [L_eq, List.length_append, List.length_singleton]; omega)
    refine ⟨cut T none (some (k : Int)) ++ [c] ++ cut T (some ((k : Int) + 1)) none, runF_eq rfl ?_, asc_app (asc_app (ca _ _) (asc_one hc2)) (ca _ _), by rw [L_eq, List.length_append, List.length_append, List.length_singleton]; omega⟩
    simp only [d_l_spoilt_3, startEnv]
    simp [hlen, hpos, hq, sl, hc, A]
    rw [B]
    simp
  | 3, _ =>
    obtain ⟨f, hf⟩ : ∃ f : Int, f = findF T 32 (k : Int) + 1 := ⟨_, rfl⟩
    have hF : semFind [.str T, .str [32], .int (k : Int)] = some (.int (findF T 32 (k : Int))) := rfl
    have l1 := cl none (some f)
    have l2 := cl (some f) none
    have A := ad (cut T none (some f)) [48] (by rw [L_eq, List.length_singleton]; omega)
    have B := ad (cut T none (some f) ++ [48]) (cut T (some f) none) (by rw [L_eq, List.length_append, List.length_singleton]; omega)
    refine ⟨cut T none (some f) ++ [48] ++ cut T (some f) none, runF_eq rfl ?_, asc_app (asc_app (ca _ _) (asc_one (by omega))) (ca _ _), by rw [L_eq, List.length_append, List.length_append, List.length_singleton]; omega⟩
    simp only [d_l_spoilt_3, startEnv]
    simp [hlen, hpos, hq, sl, hF, ← hf]
    simp [A]
    rw [B]
    simp
  | 4, _ =>
    have hg := glue_split 32 T []
    have hsub := split_sub 32 T []
    have hct := split_count 32 T []
    have hne := split_ne 32 T []
    have hl2 : T.length + 2 ≤ L := by rw [L_eq]; omega
    generalize hS : splitC 32 [] T = P at hsub hct hne
    have hP1 : 1 ≤ P.length := by
      cases P with
      | nil => exact absurd rfl hne
      | cons => simp
    obtain ⟨i, hi, hqi⟩ := mod_nat p hP1
    have hpos2 : (0 : Nat) < P.length := by omega
    have hPA : ∀ q ∈ P, Asc q ∧ q.length ≤ 104 := fun q hq => by
      obtain ⟨a1, a2⟩ := hsub q hq
      have a3 : q.length ≤ 0 + T.length := a2
      refine ⟨fun x hx => ?_, by omega⟩
      rcases a1 x hx with z | z
      · cases z
      · exact ha x z
    have pl : ∀ l h, (cut P l h).length ≤ 105 := fun l h => Nat.le_trans (cut_len P l h) (by omega)
    obtain ⟨R, hR⟩ : ∃ R, R = cut P none (some (i : Int)) ++ (cut P (some ((i : Int) + 1)) (some ((i : Int) + 2)) ++ cut P (some (i : Int)) (some ((i : Int) + 1))) ++ cut P (some ((i : Int) + 2)) none := ⟨_, rfl⟩
    have hRA : ∀ q ∈ R, Asc q ∧ q.length ≤ 104 := fun q hq => by
      rw [hR] at hq
      refine hPA q ?_
      rcases List.mem_append.mp hq with hq | hq
      · rcases List.mem_append.mp hq with hq | hq
        · exact cut_in hq
        · rcases List.mem_append.mp hq with hq | hq
          · exact cut_in hq
          · exact cut_in hq
      · exact cut_in hq
    have b1 := pl none (some (i : Int))
    have b2 := pl (some ((i : Int) + 1)) (some ((i : Int) + 2))
    have b3 := pl (some (i : Int)) (some ((i : Int) + 1))
    have b4 := pl (some ((i : Int) + 2)) none
    have hRl : R.length ≤ 420 := by
      rw [hR]
      simp only [List.length_append]
      omega
    obtain ⟨g1, g2⟩ := glue_len1 104 R fun q hq => (hRA q hq).2
    have g3 : (R.map List.length).sum + R.length * 1 ≤ L := by rw [L_eq]; omega
    refine ⟨glue [32] R, runF_eq rfl ?_, asc_glue fun q hq => (hRA q hq).1, by rw [L_eq]; omega⟩
    have hst := strsD_str R
    have hlenP : lenL (.lst (P.map D.str)) = some (P.length : Int) := by
      rw [q_lenL_l, List.length_map]
    have A1 : addD (.lst ((cut P (some ((i : Int) + 1)) (some ((i : Int) + 2))).map D.str)) (.lst ((cut P (some (i : Int)) (some ((i : Int) + 1))).map D.str)) = some (.lst ((cut P (some ((i : Int) + 1)) (some ((i : Int) + 2)) ++ cut P (some (i : Int)) (some ((i : Int) + 1))).map D.str)) := by
      rw [addD_lst (by rw [L_eq]; simp only [List.length_map]; omega)]
      simp only [List.map_append]
    have A2 : addD (.lst ((cut P none (some (i : Int))).map D.str)) (.lst ((cut P (some ((i : Int) + 1)) (some ((i : Int) + 2)) ++ cut P (some (i : Int)) (some ((i : Int) + 1))).map D.str)) = some (.lst ((cut P none (some (i : Int)) ++ (cut P (some ((i : Int) + 1)) (some ((i : Int) + 2)) ++ cut P (some (i : Int)) (some ((i : Int) + 1)))).map D.str)) := by
      rw [addD_lst (by rw [L_eq]; simp only [List.length_map, List.length_append]; omega)]
      simp only [List.map_append]
    have A3 : addD (.lst ((cut P none (some (i : Int)) ++ (cut P (some ((i : Int) + 1)) (some ((i : Int) + 2)) ++ cut P (some (i : Int)) (some ((i : Int) + 1)))).map D.str)) (.lst ((cut P (some ((i : Int) + 2)) none).map D.str)) = some (.lst (R.map D.str)) := by
      rw [addD_lst (by rw [L_eq]; simp only [List.length_map, List.length_append]; omega), hR]
      simp only [List.map_append]
    simp only [d_l_spoilt_3, startEnv]
    simp [hlen, hpos, hq, hS, hl2]
    simp [hpos2, hqi, cut_mapD, A1, A2]
    simp only [← List.map_append]
    rw [A2]
    simp only [q_nwL, em_new1, Option.bind_some]
    rw [A3]
    have g4 : (R.map List.length).sum + R.length ≤ L := by omega
    simp [hst, g4]
theorem law_true (ns : List Int) (hl : ns.length ≤ 63) : s_law_k05 [.lst (ns.map D.int)] = some (.bl true) := by
  show s_law_k05 [scr ns] = _
  obtain ⟨n, rs, h1, hh, hn⟩ := sp_hedge ns 3 hl
  have h1 : s_l_hedge [scr ns, .int 3] = some (hD n rs) := h1
  have hln := hh.len
  have h2 := sp_shown hh (by omega)
  have c0 : s_l_cell [scr ns, .int 0] = some (.int (cell ns 0)) := sp_cell ns 0
  have c1 : s_l_cell [scr ns, .int 1] = some (.int (cell ns 1)) := sp_cell ns 1
  have c2 : s_l_cell [scr ns, .int 2] = some (.int (cell ns 2)) := sp_cell ns 2
  have hr50 : ∀ e ∈ rs, e.1 < 50 ∧ e.2 < 50 := fun e he => by have := hh.lt he; omega
  have hA := asc_textH (n := n) (rs := rs) (by omega) fun e he => by have := hr50 e he; omega
  have hT := textH_len (n := n) (by omega) hr50
  have hT1 : 1 ≤ (textH n rs).length := by
    unfold textH
    rw [glue_cons, List.length_append]
    have := (num2 (n := n) (by omega)).2.1
    omega
  obtain ⟨j, hj, hm⟩ : ∃ j : Nat, j < 6 ∧ cell ns 0 % 6 = (j : Int) := mod_nat _ (m := 6) (by omega)
  by_cases h5 : j = 5
  · subst h5
    obtain ⟨d, e1, e2⟩ := sp_none hh (by omega) (cell ns 1)
    obtain ⟨r1, r2⟩ := ref_ex e2
    generalize textH n rs = T at *
    have hm' : cell ns 0 % 6 = 5 := hm
    unfold s_law_k05
    refine runF_eq rfl ?_
    simp only [d_law_k05, startEnv]
    simp [h1, h2, c0, hm', c1, e1, r1, r2]
  · obtain ⟨t', e1, a, l⟩ := sp_spoilt hA hT1 (by omega) j (by omega) (cell ns 1) (cell ns 2)
    obtain ⟨r, hr, q⟩ := read_any a l
    have hj5 : ¬ (j : Int) = 5 := by omega
    generalize textH n rs = T at *
    rcases q with ⟨n', rs', g, _, hn', e, rfl⟩ | rfl
    · have r1 := ref_ok hr
      obtain ⟨g1, g2, g3, g4⟩ := g
      have h3 := sp_shown_g (n := n') (rs := rs') g3 (by omega) fun e he => by have := g4 e he; omega
      rw [← e] at h3
      have hok : okD s_read_2 [.str t'] = some (hD n' rs') := by
        unfold okD
        rw [hr]
      have hp : plainD PD (.str t') = true := by
        rw [plainD_str, List.all_eq_true]
        exact fun x hx => decide_eq_true (a x hx)
      rw [PD8] at hp
      unfold s_law_k05
      refine runF_eq rfl ?_
      simp only [d_law_k05, startEnv]
      simp [h1, h2, c0, hm, hj5, c1, c2, e1, r1, hok, h3, PD8, hp]
    · obtain ⟨r1, r2⟩ := ref_ex hr
      unfold s_law_k05
      refine runF_eq rfl ?_
      simp only [d_law_k05, startEnv]
      simp [h1, h2, c0, hm, hj5, c1, c2, e1, r1, r2]
end Hg
end

section
set_option Elab.async false
set_option maxRecDepth 100000
set_option autoImplicit false
set_option maxHeartbeats 4000000
/-LAWTRUE-/
namespace HgW
open PySem PySem.Spec PyProof.Rows L2 Hg
theorem all_mk [TB : Tabl] {l : PySem.W.OpenLaw} {w : World} {K : PySem.W.Frag} {h : Heap} {mg : Str → Option Value} {fa : Addr} (X : K.In h) (G : h.Ns mainGlobals mg) (hfa : mg "law" = some (.ref fa))
    {f0 : Addr} {od0 an0 : Option Addr} {sl0 : Array (Option Value)} {oc0 kV0 dc0 pm0 cd0 ct0 : Value}
    {f1 : Addr} {od1 an1 : Option Addr} {sl1 : Array (Option Value)} {oc1 kV1 dc1 pm1 cd1 ct1 : Value}
    {f2 : Addr} {od2 an2 : Option Addr} {sl2 : Array (Option Value)} {oc2 kV2 dc2 pm2 cd2 ct2 : Value}
    {f3 : Addr} {od3 an3 : Option Addr} {sl3 : Array (Option Value)} {oc3 kV3 dc3 pm3 cd3 ct3 : Value}
    {f4 : Addr} {od4 an4 : Option Addr} {sl4 : Array (Option Value)} {oc4 kV4 dc4 pm4 cd4 ct4 : Value}
    {f5 : Addr} {od5 an5 : Option Addr} {sl5 : Array (Option Value)} {oc5 kV5 dc5 pm5 cd5 ct5 : Value}
    {f6 : Addr} {od6 an6 : Option Addr} {sl6 : Array (Option Value)} {oc6 kV6 dc6 pm6 cd6 ct6 : Value}
    {f7 : Addr} {od7 an7 : Option Addr} {sl7 : Array (Option Value)} {oc7 kV7 dc7 pm7 cd7 ct7 : Value}
    {f8 : Addr} {od8 an8 : Option Addr} {sl8 : Array (Option Value)} {oc8 kV8 dc8 pm8 cd8 ct8 : Value}
    {f9 : Addr} {od9 an9 : Option Addr} {sl9 : Array (Option Value)} {oc9 kV9 dc9 pm9 cd9 ct9 : Value}
    {f10 : Addr} {od10 an10 : Option Addr} {sl10 : Array (Option Value)} {oc10 kV10 dc10 pm10 cd10 ct10 : Value}
    {f11 : Addr} {od11 an11 : Option Addr} {sl11 : Array (Option Value)} {oc11 kV11 dc11 pm11 cd11 ct11 : Value}
    {f12 : Addr} {od12 an12 : Option Addr} {sl12 : Array (Option Value)} {oc12 kV12 dc12 pm12 cd12 ct12 : Value}
    {f13 : Addr} {od13 an13 : Option Addr} {sl13 : Array (Option Value)} {oc13 kV13 dc13 pm13 cd13 ct13 : Value}
    {f14 : Addr} {od14 an14 : Option Addr} {sl14 : Array (Option Value)} {oc14 kV14 dc14 pm14 cd14 ct14 : Value}
    {f15 : Addr} {od15 an15 : Option Addr} {sl15 : Array (Option Value)} {oc15 kV15 dc15 pm15 cd15 ct15 : Value}
    {f16 : Addr} {od16 an16 : Option Addr} {sl16 : Array (Option Value)} {oc16 kV16 dc16 pm16 cd16 ct16 : Value}
    {f17 : Addr} {od17 an17 : Option Addr} {sl17 : Array (Option Value)} {oc17 kV17 dc17 pm17 cd17 ct17 : Value}
    {tk_MOST : Tok}
    {C0 : Addr}
    {C1 : Addr}
    {C7 : Addr}
    {fI : Addr} {odI anI : Option Addr} {slI : Array (Option Value)} {ocI kVI dcI pmI cdI ctI : Value} {nmC qC : Str} {NC : Addr} {bsC bmC sbC : List Value} {snC : List Str} {abC : Bool} {coC : Option Bool} {ddC : Option Addr} {k0C k1C k2C k3C k5C : Option Value}
    (a0 : PySem.W.nsIn K mainGlobals "is_within" = some (some (.ref f0))) (l0 : K.lookup f0 = some ⟨oc0, od0, .func (PySem.W.fnOf "is_within" "is_within" (defArgs st_is_within) (defBody st_is_within) (defScope st_is_within) .none kV0 dc0 pm0 an0 cd0 ct0), sl0⟩) (cc0 : PySem.W.codeIn K cd0 "is_within" = true) (kk0 : PySem.W.keepIn K (.ref f0) = true)
    (a1 : PySem.W.nsIn K mainGlobals "shown" = some (some (.ref f1))) (l1 : K.lookup f1 = some ⟨oc1, od1, .func (PySem.W.fnOf "shown" "shown" (defArgs st_shown) (defBody st_shown) (defScope st_shown) .none kV1 dc1 pm1 an1 cd1 ct1), sl1⟩) (cc1 : PySem.W.codeIn K cd1 "shown" = true) (kk1 : PySem.W.keepIn K (.ref f1) = true)
    (a2 : PySem.W.nsIn K mainGlobals "whole" = some (some (.ref f2))) (l2 : K.lookup f2 = some ⟨oc2, od2, .func (PySem.W.fnOf "whole" "whole" (defArgs st_whole) (defBody st_whole) (defScope st_whole) .none kV2 dc2 pm2 an2 cd2 ct2), sl2⟩) (cc2 : PySem.W.codeIn K cd2 "whole" = true) (kk2 : PySem.W.keepIn K (.ref f2) = true)
    (a3 : PySem.W.nsIn K mainGlobals "_law_cell" = some (some (.ref f3))) (l3 : K.lookup f3 = some ⟨oc3, od3, .func (PySem.W.fnOf "_law_cell" "_law_cell" (defArgs st__law_cell) (defBody st__law_cell) (defScope st__law_cell) .none kV3 dc3 pm3 an3 cd3 ct3), sl3⟩) (cc3 : PySem.W.codeIn K cd3 "_law_cell" = true) (kk3 : PySem.W.keepIn K (.ref f3) = true)
    (a4 : PySem.W.nsIn K mainGlobals "_law_mix" = some (some (.ref f4))) (l4 : K.lookup f4 = some ⟨oc4, od4, .func (PySem.W.fnOf "_law_mix" "_law_mix" (defArgs st__law_mix) (defBody st__law_mix) (defScope st__law_mix) .none kV4 dc4 pm4 an4 cd4 ct4), sl4⟩) (cc4 : PySem.W.codeIn K cd4 "_law_mix" = true) (kk4 : PySem.W.keepIn K (.ref f4) = true)
    (a5 : PySem.W.nsIn K mainGlobals "_law_none" = some (some (.ref f5))) (l5 : K.lookup f5 = some ⟨oc5, od5, .func (PySem.W.fnOf "_law_none" "_law_none" (defArgs st__law_none) (defBody st__law_none) (defScope st__law_none) .none kV5 dc5 pm5 an5 cd5 ct5), sl5⟩) (cc5 : PySem.W.codeIn K cd5 "_law_none" = true) (kk5 : PySem.W.keepIn K (.ref f5) = true)
    (a6 : PySem.W.nsIn K mainGlobals "_law_spoilt" = some (some (.ref f6))) (l6 : K.lookup f6 = some ⟨oc6, od6, .func (PySem.W.fnOf "_law_spoilt" "_law_spoilt" (defArgs st__law_spoilt) (defBody st__law_spoilt) (defScope st__law_spoilt) .none kV6 dc6 pm6 an6 cd6 ct6), sl6⟩) (cc6 : PySem.W.codeIn K cd6 "_law_spoilt" = true) (kk6 : PySem.W.keepIn K (.ref f6) = true)
    (a7 : PySem.W.nsIn K mainGlobals "is_rod" = some (some (.ref f7))) (l7 : K.lookup f7 = some ⟨oc7, od7, .func (PySem.W.fnOf "is_rod" "is_rod" (defArgs st_is_rod) (defBody st_is_rod) (defScope st_is_rod) .none kV7 dc7 pm7 an7 cd7 ct7), sl7⟩) (cc7 : PySem.W.codeIn K cd7 "is_rod" = true) (kk7 : PySem.W.keepIn K (.ref f7) = true)
    (a8 : PySem.W.nsIn K mainGlobals "is_frame" = some (some (.ref f8))) (l8 : K.lookup f8 = some ⟨oc8, od8, .func (PySem.W.fnOf "is_frame" "is_frame" (defArgs st_is_frame) (defBody st_is_frame) (defScope st_is_frame) .none kV8 dc8 pm8 an8 cd8 ct8), sl8⟩) (cc8 : PySem.W.codeIn K cd8 "is_frame" = true) (kk8 : PySem.W.keepIn K (.ref f8) = true)
    (a9 : PySem.W.nsIn K mainGlobals "rod_read" = some (some (.ref f9))) (l9 : K.lookup f9 = some ⟨oc9, od9, .func (PySem.W.fnOf "rod_read" "rod_read" (defArgs st_rod_read) (defBody st_rod_read) (defScope st_rod_read) .none kV9 dc9 pm9 an9 cd9 ct9), sl9⟩) (cc9 : PySem.W.codeIn K cd9 "rod_read" = true) (kk9 : PySem.W.keepIn K (.ref f9) = true)
    (a10 : PySem.W.nsIn K mainGlobals "_law_large" = some (some (.ref f10))) (l10 : K.lookup f10 = some ⟨oc10, od10, .func (PySem.W.fnOf "_law_large" "_law_large" (defArgs st__law_large) (defBody st__law_large) (defScope st__law_large) .none kV10 dc10 pm10 an10 cd10 ct10), sl10⟩) (cc10 : PySem.W.codeIn K cd10 "_law_large" = true) (kk10 : PySem.W.keepIn K (.ref f10) = true)
    (a11 : PySem.W.nsIn K mainGlobals "_law_order" = some (some (.ref f11))) (l11 : K.lookup f11 = some ⟨oc11, od11, .func (PySem.W.fnOf "_law_order" "_law_order" (defArgs st__law_order) (defBody st__law_order) (defScope st__law_order) .none kV11 dc11 pm11 an11 cd11 ct11), sl11⟩) (cc11 : PySem.W.codeIn K cd11 "_law_order" = true) (kk11 : PySem.W.keepIn K (.ref f11) = true)
    (a12 : PySem.W.nsIn K mainGlobals "checked" = some (some (.ref f12))) (l12 : K.lookup f12 = some ⟨oc12, od12, .func (PySem.W.fnOf "checked" "checked" (defArgs st_checked) (defBody st_checked) (defScope st_checked) .none kV12 dc12 pm12 an12 cd12 ct12), sl12⟩) (cc12 : PySem.W.codeIn K cd12 "checked" = true) (kk12 : PySem.W.keepIn K (.ref f12) = true)
    (a13 : PySem.W.nsIn K mainGlobals "_law_hedge" = some (some (.ref f13))) (l13 : K.lookup f13 = some ⟨oc13, od13, .func (PySem.W.fnOf "_law_hedge" "_law_hedge" (defArgs st__law_hedge) (defBody st__law_hedge) (defScope st__law_hedge) .none kV13 dc13 pm13 an13 cd13 ct13), sl13⟩) (cc13 : PySem.W.codeIn K cd13 "_law_hedge" = true) (kk13 : PySem.W.keepIn K (.ref f13) = true)
    (a14 : PySem.W.nsIn K mainGlobals "read" = some (some (.ref f14))) (l14 : K.lookup f14 = some ⟨oc14, od14, .func (PySem.W.fnOf "read" "read" (defArgs st_read) (defBody st_read) (defScope st_read) .none kV14 dc14 pm14 an14 cd14 ct14), sl14⟩) (cc14 : PySem.W.codeIn K cd14 "read" = true) (kk14 : PySem.W.keepIn K (.ref f14) = true)
    (a15 : PySem.W.nsIn K mainGlobals "_law_refused" = some (some (.ref f15))) (l15 : K.lookup f15 = some ⟨oc15, od15, .func (PySem.W.fnOf "_law_refused" "_law_refused" (defArgs st__law_refused) (defBody st__law_refused) (defScope st__law_refused) .none kV15 dc15 pm15 an15 cd15 ct15), sl15⟩) (cc15 : PySem.W.codeIn K cd15 "_law_refused" = true) (kk15 : PySem.W.keepIn K (.ref f15) = true)
    (a16 : PySem.W.nsIn K mainGlobals "_law_by_base" = some (some (.ref f16))) (l16 : K.lookup f16 = some ⟨oc16, od16, .func (PySem.W.fnOf "_law_by_base" "_law_by_base" (defArgs st__law_by_base) (defBody st__law_by_base) (defScope st__law_by_base) .none kV16 dc16 pm16 an16 cd16 ct16), sl16⟩) (cc16 : PySem.W.codeIn K cd16 "_law_by_base" = true) (kk16 : PySem.W.keepIn K (.ref f16) = true)
    (a17 : PySem.W.nsIn K mainGlobals "law" = some (some (.ref f17))) (l17 : K.lookup f17 = some ⟨oc17, od17, .func (PySem.W.fnOf "law" "law" (defArgs st_law) (defBody st_law) (defScope st_law) .none kV17 dc17 pm17 an17 cd17 ct17), sl17⟩) (cc17 : PySem.W.codeIn K cd17 "law" = true) (kk17 : PySem.W.keepIn K (.ref f17) = true)
    (m_MOST : PySem.W.nsIn K mainGlobals "MOST" = some (some (.int 40 tk_MOST)))
    (mc_HedgeError : PySem.W.nsIn K mainGlobals "HedgeError" = some (some (.ref C0)))
    (mc_BadText : PySem.W.nsIn K mainGlobals "BadText" = some (some (.ref C1)))
    (mc_BadHedge : PySem.W.nsIn K mainGlobals "BadHedge" = some (some (.ref C7)))
    (z_VE : PySem.W.nsIn K mainGlobals "ValueError" = some none)
    (xb : xgB K [(0, C0), (1, C1), (7, C7)] = true)
    (lC : K.lookup C7 = some (excClassObj nmC qC C7 NC bsC bmC true snC sbC abC coC ddC k0C k1C k2C k3C k5C "ValueError.__new__")) (rC : PySem.HandSPX.refsVE bmC = true)
    (iI : PySem.W.findIn K (.ref C7) "__init__" = some (some (.ref fI))) (lI : K.lookup fI = some ⟨ocI, odI, .func (PySem.W.fnOf "__init__" "BadHedge.__init__" (defArgs st_init) (defBody st_init) (defScope st_init) .none kVI dcI pmI anI cdI ctI), slI⟩) (ccI : PySem.W.codeIn K cdI "BadHedge.__init__" = true) (kkI : PySem.W.keepIn K (.ref fI) = true)
    (xI : PySem.W.findCls K (.ref C0) (.type "type") "__init__" = some (.val (.builtin "ValueError.__init__"))) (xh : bhB K C0 C7 fI = true)
    (z_len : PySem.W.nsIn K mainGlobals "len" = some none)
    (z_range : PySem.W.nsIn K mainGlobals "range" = some none)
    (z_sorted : PySem.W.nsIn K mainGlobals "sorted" = some none)
    (z_min : PySem.W.nsIn K mainGlobals "min" = some none)
    (z_max : PySem.W.nsIn K mainGlobals "max" = some none)
    (z_sum : PySem.W.nsIn K mainGlobals "sum" = some none)
    (z_isinstance : PySem.W.nsIn K mainGlobals "isinstance" = some none)
    (z_list : PySem.W.nsIn K mainGlobals "list" = some none)
    (z_tuple : PySem.W.nsIn K mainGlobals "tuple" = some none)
    (z_dict : PySem.W.nsIn K mainGlobals "dict" = some none)
    (z_int : PySem.W.nsIn K mainGlobals "int" = some none)
    (z_str : PySem.W.nsIn K mainGlobals "str" = some none)
    (z_bool : PySem.W.nsIn K mainGlobals "bool" = some none)
    (z_set : PySem.W.nsIn K mainGlobals "set" = some none)
    (z_enumerate : PySem.W.nsIn K mainGlobals "enumerate" = some none)
    (z_reversed : PySem.W.nsIn K mainGlobals "reversed" = some none)
    (z_zip : PySem.W.nsIn K mainGlobals "zip" = some none) :
    ∃ fd : FuncData, (∀ (s : Shared) (v : Value), BindsTo s fd ⟨[v], []⟩ [("_law_script", v)]) ∧ ∀ base : Heap, K.In base → base.Ns mainGlobals mg → FnOk l.prog w K mg base CX0 6 fa fd ["_law_script"] (spF K [] 1 s_law_k05) := by
  have e := hfa.symm.trans (PySem.W.mg_of X G a17)
  cases e
  have bf : Bf mg := ⟨PySem.W.mg_none_of X G z_len, PySem.W.mg_none_of X G z_range, PySem.W.mg_none_of X G z_sorted, PySem.W.mg_none_of X G z_min, PySem.W.mg_none_of X G z_max, PySem.W.mg_none_of X G z_sum, PySem.W.mg_none_of X G z_isinstance, PySem.W.mg_none_of X G z_list, PySem.W.mg_none_of X G z_tuple, PySem.W.mg_none_of X G z_dict, PySem.W.mg_none_of X G z_int, PySem.W.mg_none_of X G z_str, PySem.W.mg_none_of X G z_bool, PySem.W.mg_none_of X G z_set, PySem.W.mg_none_of X G z_enumerate, PySem.W.mg_none_of X G z_reversed, PySem.W.mg_none_of X G z_zip⟩
  have hx : XG K mg (cvOf [(0, C0), (1, C1), (7, C7)]) [0, 1, 7] := xg_of (l := [(0, C0), (1, C1), (7, C7)]) xb (List.forall_mem_cons.mpr ⟨PySem.W.mg_of X G mc_HedgeError, (List.forall_mem_cons.mpr ⟨PySem.W.mg_of X G mc_BadText, (List.forall_mem_cons.mpr ⟨PySem.W.mg_of X G mc_BadHedge, (List.forall_mem_nil _)⟩)⟩)⟩) (PySem.W.mg_none_of X G z_VE)
  have bh : BhF K mg C0 C7 fI := bh_of xh xI lC rC (PySem.W.mg_of X G mc_BadHedge) (PySem.W.mg_of X G mc_HedgeError)
  have hcv : cvOf [(0, C0), (1, C1), (7, C7)] 7 = .ref C7 := rfl
  have FI0 := fun_mk (st := st_init) lI ccI kkI
  have hbI := FI0.binds (ps := ["self", "at"]) fun _ _ _ _ _ _ us hl => match us, hl with | [_, _], _ => rfl
  have F0 := fun_mk (st := st_is_within) l0 cc0 kk0
  have b0 := F0.binds (ps := ["thing", "low", "high"]) fun _ _ _ _ _ _ us hl => match us, hl with | [_, _, _], _ => rfl
  have F1 := fun_mk (st := st_shown) l1 cc1 kk1
  have b1 := F1.binds (ps := ["hedge"]) fun _ _ _ _ _ _ us hl => match us, hl with | [_], _ => rfl
  have F2 := fun_mk (st := st_whole) l2 cc2 kk2
  have b2 := F2.binds (ps := ["text"]) fun _ _ _ _ _ _ us hl => match us, hl with | [_], _ => rfl
  have F3 := fun_mk (st := st__law_cell) l3 cc3 kk3
  have b3 := F3.binds (ps := ["_law_script", "_law_k"]) fun _ _ _ _ _ _ us hl => match us, hl with | [_, _], _ => rfl
  have F4 := fun_mk (st := st__law_mix) l4 cc4 kk4
  have b4 := F4.binds (ps := ["_law_cell_here", "_law_prime", "_law_many"]) fun _ _ _ _ _ _ us hl => match us, hl with | [_, _, _], _ => rfl
  have F5 := fun_mk (st := st__law_none) l5 cc5 kk5
  have b5 := F5.binds (ps := ["_law_text", "_law_manner"]) fun _ _ _ _ _ _ us hl => match us, hl with | [_, _], _ => rfl
  have F6 := fun_mk (st := st__law_spoilt) l6 cc6 kk6
  have b6 := F6.binds (ps := ["_law_text", "_law_manner", "_law_place", "_law_sign"]) fun _ _ _ _ _ _ us hl => match us, hl with | [_, _, _, _], _ => rfl
  have F7 := fun_mk (st := st_is_rod) l7 cc7 kk7
  have b7 := F7.binds (ps := ["thing", "many"]) fun _ _ _ _ _ _ us hl => match us, hl with | [_, _], _ => rfl
  have F8 := fun_mk (st := st_is_frame) l8 cc8 kk8
  have b8 := F8.binds (ps := ["hedge"]) fun _ _ _ _ _ _ us hl => match us, hl with | [_], _ => rfl
  have F9 := fun_mk (st := st_rod_read) l9 cc9 kk9
  have b9 := F9.binds (ps := ["text"]) fun _ _ _ _ _ _ us hl => match us, hl with | [_], _ => rfl
  have F10 := fun_mk (st := st__law_large) l10 cc10 kk10
  have b10 := F10.binds (ps := ["_law_script"]) fun _ _ _ _ _ _ us hl => match us, hl with | [_], _ => rfl
  have F11 := fun_mk (st := st__law_order) l11 cc11 kk11
  have b11 := F11.binds (ps := ["_law_script", "_law_at", "_law_many"]) fun _ _ _ _ _ _ us hl => match us, hl with | [_, _, _], _ => rfl
  have F12 := fun_mk (st := st_checked) l12 cc12 kk12
  have b12 := F12.binds (ps := ["hedge"]) fun _ _ _ _ _ _ us hl => match us, hl with | [_], _ => rfl
  have F13 := fun_mk (st := st__law_hedge) l13 cc13 kk13
  have b13 := F13.binds (ps := ["_law_script", "_law_at"]) fun _ _ _ _ _ _ us hl => match us, hl with | [_, _], _ => rfl
  have F14 := fun_mk (st := st_read) l14 cc14 kk14
  have b14 := F14.binds (ps := ["text"]) fun _ _ _ _ _ _ us hl => match us, hl with | [_], _ => rfl
  have F15 := fun_mk (st := st__law_refused) l15 cc15 kk15
  have b15 := F15.binds (ps := ["_law_text"]) fun _ _ _ _ _ _ us hl => match us, hl with | [_], _ => rfl
  have F16 := fun_mk (st := st__law_by_base) l16 cc16 kk16
  have b16 := F16.binds (ps := ["_law_text"]) fun _ _ _ _ _ _ us hl => match us, hl with | [_], _ => rfl
  have F17 := fun_mk (st := st_law) l17 cc17 kk17
  have b17 := F17.binds (ps := ["_law_script"]) fun _ _ _ _ _ _ us hl => match us, hl with | [_], _ => rfl
  refine ⟨PySem.W.fnOf "law" "law" (defArgs st_law) (defBody st_law) (defScope st_law) .none kV17 dc17 pm17 an17 cd17 ct17, fun s v => .of_eq rfl, fun base _ _ => ?_⟩
  have c_is_within := cal_of F0 (w_is_within (P := l.prog) (w := w) (base := base) F0 bf (cv := cvOf [(0, C0), (1, C1), (7, C7)])  ) (PySem.W.mg_of X G a0) b0
  have c_shown := cal_of F1 (w_shown (P := l.prog) (w := w) (base := base) F1 bf (cv := cvOf [(0, C0), (1, C1), (7, C7)])  ) (PySem.W.mg_of X G a1) b1
  have c_whole := calX_of F2 (w_whole (P := l.prog) (w := w) (base := base) F2 bf (cv := cvOf [(0, C0), (1, C1), (7, C7)]) hx  ) (PySem.W.mg_of X G a2) b2
  have c__law_cell := cal_of F3 (w__law_cell (P := l.prog) (w := w) (base := base) F3 bf (cv := cvOf [(0, C0), (1, C1), (7, C7)])  ) (PySem.W.mg_of X G a3) b3
  have c__law_mix := cal_of F4 (w__law_mix (P := l.prog) (w := w) (base := base) F4 bf (cv := cvOf [(0, C0), (1, C1), (7, C7)])  ) (PySem.W.mg_of X G a4) b4
  have c__law_none := cal_of F5 (w__law_none (P := l.prog) (w := w) (base := base) F5 bf (cv := cvOf [(0, C0), (1, C1), (7, C7)])  ) (PySem.W.mg_of X G a5) b5
  have c__law_spoilt := cal_of F6 (w__law_spoilt (P := l.prog) (w := w) (base := base) F6 bf (cv := cvOf [(0, C0), (1, C1), (7, C7)])  ) (PySem.W.mg_of X G a6) b6
  have c_is_rod := cal_of F7 (w_is_rod (P := l.prog) (w := w) (base := base) F7 bf (cv := cvOf [(0, C0), (1, C1), (7, C7)]) c_is_within ) (PySem.W.mg_of X G a7) b7
  have c_is_frame := cal_of F8 (w_is_frame (P := l.prog) (w := w) (base := base) F8 bf (cv := cvOf [(0, C0), (1, C1), (7, C7)]) c_is_within (PySem.W.mg_of X G m_MOST)) (PySem.W.mg_of X G a8) b8
  have c_rod_read := calX_of F9 (w_rod_read (P := l.prog) (w := w) (base := base) F9 bf (cv := cvOf [(0, C0), (1, C1), (7, C7)]) hx c_whole ) (PySem.W.mg_of X G a9) b9
  have c__law_large := cal_of F10 (w__law_large (P := l.prog) (w := w) (base := base) F10 bf (cv := cvOf [(0, C0), (1, C1), (7, C7)]) c__law_mix c__law_cell ) (PySem.W.mg_of X G a10) b10
  have c__law_order := cal_of F11 (w__law_order (P := l.prog) (w := w) (base := base) F11 bf (cv := cvOf [(0, C0), (1, C1), (7, C7)]) c__law_mix c__law_cell ) (PySem.W.mg_of X G a11) b11
  have c_checked := calN_of F12 (w_checked (P := l.prog) (w := w) (base := base) F12 bf (cv := cvOf [(0, C0), (1, C1), (7, C7)]) hx c_is_frame c_is_rod  bh hcv (w_init (P := l.prog) (w := w) (base := base) FI0 bh) hbI) (PySem.W.mg_of X G a12) b12
  have c__law_hedge := cal_of F13 (w__law_hedge (P := l.prog) (w := w) (base := base) F13 bf (cv := cvOf [(0, C0), (1, C1), (7, C7)]) c__law_large c__law_cell c__law_order c__law_mix ) (PySem.W.mg_of X G a13) b13
  have c_read := calX_of F14 (w_read (P := l.prog) (w := w) (base := base) F14 bf (cv := cvOf [(0, C0), (1, C1), (7, C7)]) hx c_whole c_rod_read c_checked ) (PySem.W.mg_of X G a14) b14
  have c__law_refused := cal_of F15 (w__law_refused (P := l.prog) (w := w) (base := base) F15 bf (cv := cvOf [(0, C0), (1, C1), (7, C7)]) hx c_read ) (PySem.W.mg_of X G a15) b15
  have c__law_by_base := cal_of F16 (w__law_by_base (P := l.prog) (w := w) (base := base) F16 bf (cv := cvOf [(0, C0), (1, C1), (7, C7)]) hx c_read ) (PySem.W.mg_of X G a16) b16
  exact w_law F17 bf (cv := cvOf [(0, C0), (1, C1), (7, C7)]) c_shown c__law_hedge c__law_cell c__law_none c__law_refused c__law_by_base c__law_spoilt c_read 
end HgW
open PySem PySem.W PyProof.Rows
def noTab : Hg.Tabl := ⟨fun _ => none⟩
set_option maxHeartbeats 0 in
theorem PySem.Challenge.cw_hedgerow_k05_spoilt_texts_holds : PySem.Challenge.rw_hedgerow_k05_spoilt_texts.Holds := by
  w_on; o_law; k_head; (case hw => w_witness2)
  k_fill
  letI : Hg.Tabl := noTab
  refine L2.walk_ofB (l := PySem.Challenge.rw_hedgerow_k05_spoilt_texts) (n := 63) (k := 6) (x := "_law_script") (CX := fun _ => L2.CX0) (sp := fun w => Hg.spF _ [] 1 Hg.s_law_k05) rfl (by decide) rfl ⟨rfl, by decide, by decide⟩ (fun w h Y => PySem.W.kIn_of Y) ?F (fun _ _ a ns hl hb _ hS => Hg.law_sp hS (Hg.law_true ns hl) (fun _ _ z => nomatch z) (.inl rfl)) (fun _ _ _ _ _ h => h)
  case F =>
    intro w mg fa h KX G hmg
    refine' HgW.all_mk KX G hmg ?a0 ?l0 ?cc0 ?kk0 ?a1 ?l1 ?cc1 ?kk1 ?a2 ?l2 ?cc2 ?kk2 ?a3 ?l3 ?cc3 ?kk3 ?a4 ?l4 ?cc4 ?kk4 ?a5 ?l5 ?cc5 ?kk5 ?a6 ?l6 ?cc6 ?kk6 ?a7 ?l7 ?cc7 ?kk7 ?a8 ?l8 ?cc8 ?kk8 ?a9 ?l9 ?cc9 ?kk9 ?a10 ?l10 ?cc10 ?kk10 ?a11 ?l11 ?cc11 ?kk11 ?a12 ?l12 ?cc12 ?kk12 ?a13 ?l13 ?cc13 ?kk13 ?a14 ?l14 ?cc14 ?kk14 ?a15 ?l15 ?cc15 ?kk15 ?a16 ?l16 ?cc16 ?kk16 ?a17 ?l17 ?cc17 ?kk17 ?m_MOST ?mc_HedgeError ?mc_BadText ?mc_BadHedge ?z_VE ?xb ?lC ?rC ?iI ?lI ?ccI ?kkI ?xI ?xh ?z_len ?z_range ?z_sorted ?z_min ?z_max ?z_sum ?z_isinstance ?z_list ?z_tuple ?z_dict ?z_int ?z_str ?z_bool ?z_set ?z_enumerate ?z_reversed ?z_zip
    (case a0 => k_is); (case l0 => k_is); (case cc0 => k_is); (case kk0 => k_is); (case a1 => k_is); (case l1 => k_is); (case cc1 => k_is); (case kk1 => k_is); (case a2 => k_is); (case l2 => k_is); (case cc2 => k_is); (case kk2 => k_is); (case a3 => k_is); (case l3 => k_is); (case cc3 => k_is); (case kk3 => k_is); (case a4 => k_is); (case l4 => k_is); (case cc4 => k_is); (case kk4 => k_is); (case a5 => k_is); (case l5 => k_is); (case cc5 => k_is); (case kk5 => k_is); (case a6 => k_is); (case l6 => k_is); (case cc6 => k_is); (case kk6 => k_is); (case a7 => k_is); (case l7 => k_is); (case cc7 => k_is); (case kk7 => k_is); (case a8 => k_is); (case l8 => k_is); (case cc8 => k_is); (case kk8 => k_is); (case a9 => k_is); (case l9 => k_is); (case cc9 => k_is); (case kk9 => k_is); (case a10 => k_is); (case l10 => k_is); (case cc10 => k_is); (case kk10 => k_is); (case a11 => k_is); (case l11 => k_is); (case cc11 => k_is); (case kk11 => k_is); (case a12 => k_is); (case l12 => k_is); (case cc12 => k_is); (case kk12 => k_is); (case a13 => k_is); (case l13 => k_is); (case cc13 => k_is); (case kk13 => k_is); (case a14 => k_is); (case l14 => k_is); (case cc14 => k_is); (case kk14 => k_is); (case a15 => k_is); (case l15 => k_is); (case cc15 => k_is); (case kk15 => k_is); (case a16 => k_is); (case l16 => k_is); (case cc16 => k_is); (case kk16 => k_is); (case a17 => k_is); (case l17 => k_is); (case cc17 => k_is); (case kk17 => k_is); (case m_MOST => k_is); (case mc_HedgeError => k_is); (case mc_BadText => k_is); (case mc_BadHedge => k_is); (case z_VE => k_is); (case xb => kernel_rfl); (case lC => k_is); (case rC => kernel_rfl); (case iI => k_is); (case lI => k_is); (case ccI => k_is); (case kkI => k_is); (case xI => k_is); (case xh => kernel_rfl); (case z_len => k_is); (case z_range => k_is); (case z_sorted => k_is); (case z_min => k_is); (case z_max => k_is); (case z_sum => k_is); (case z_isinstance => k_is); (case z_list => k_is); (case z_tuple => k_is); (case z_dict => k_is); (case z_int => k_is); (case z_str => k_is); (case z_bool => k_is); (case z_set => k_is); (case z_enumerate => k_is); (case z_reversed => k_is); (case z_zip => k_is)
end
