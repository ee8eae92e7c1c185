import PyProof.Rows.All
import PySem.PyData
import PyProof.EqLayable
import Wide.All
import OpenK.AllK
import Wide.FinOn
import KE.KStateDown
import Lean
import HandS.Base
import HandS.Call
import HandS.List
import HandS.Comp
import HandS.Ends
import HandS.Iter
import HandS.Exc
import HandS.TryOnly
import HandS.ExcOwn
import HandS.Words
import HandS.WordsList
import HandS.WordsExc
import HandS.IsInst
import HandS.Wide
import HandS.Sort
import HandS.SortInts
import HandS.Zip
import HandS.Defaults
import HandS.HeadEnd
import HandS.HeadHook1
import HandS.HeadHook2
import HandS.Head0
import HandS.Head1
import HandS.Head2
import HandS.TupAny
import HandS.TupMul
import HandS.Deep
import HandS.Conv
import HandS.Style
import HandS.Dict
import HandS.HeadHook4
import PySem.Challenge.RW_heapsmeet_k03_spots_told_in_lowest_terms
set_option Elab.async false
set_option linter.all false
set_option maxRecDepth 100000
set_option maxHeartbeats 4000000
set_option autoImplicit false

/-! Sem: a plain evaluator of the part of Python that the laws are written in, over plain data (PySem.PyData). -/
namespace HM
open PySem

/-- the longest list, tuple, text -/
abbrev SL : Nat := 16777216

inductive Slot where
  | un | val (d : PyData) | mu (ds : List PyData) | par (ds : List PyData)
abbrev Env := List Slot
structure Xn where
  cls : Nat
  arg : Option PyData
inductive R (α : Type) where
  | ok (a : α) (ρ : Env) | exc (x : Xn) (ρ : Env) | bad
def R.bind {α β : Type} : R α → (α → Env → R β) → R β
  | .ok a ρ, f => f a ρ
  | .exc x ρ, _ => .exc x ρ
  | .bad, _ => .bad
def R.of {α : Type} : Option α → Env → R α
  | some a, ρ => .ok a ρ
  | none, _ => .bad
/-- what a call hands back -/
inductive FR where
  | ok (d : PyData) (io : List PyData) | exc (x : Xn) (io : List PyData) | bad

inductive Op2 where
  | add | sub | mul | mod | fdiv | pow | shl | shr | band
  deriving DecidableEq
inductive Cm where
  | eq | ne | lt | le | gt | ge | is | isnot | isin | notin
  deriving DecidableEq
inductive Ty where
  | int | bool | tuple | list | str | dict
  deriving DecidableEq
inductive Bi where
  | len | abs | tuple | list | sum | all | any | min | max | min2 | max2 | int | sorted
  deriving DecidableEq
inductive Tg where
  | one (i : Nat) | many (is : List Nat)

/-- at most n bits -/
def Sm (n : Nat) (i : Int) : Prop := i.natAbs < 2 ^ n
instance (n : Nat) (i : Int) : Decidable (Sm n i) := by unfold Sm; infer_instance
/-- the bits of a great number -/
abbrev GB : Nat := 60000000
def mulOk (i j : Int) : Prop := Sm 64 i ∨ Sm 64 j ∨ (Sm GB i ∧ Sm GB j)
instance (i j : Int) : Decidable (mulOk i j) := by unfold mulOk; infer_instance
def divOk (i j : Int) : Prop := j ≠ 0 ∧ (Sm 9000 j ∨ i.natAbs ≤ j.natAbs * 2 ^ 4000)
instance (i j : Int) : Decidable (divOk i j) := by unfold divOk; infer_instance
def powOk (i j : Int) : Prop := 0 ≤ j ∧ j ≤ 100000 ∧ Sm 1000 i
instance (i j : Int) : Decidable (powOk i j) := by unfold powOk; infer_instance
def shlOk (i j : Int) : Prop := 0 ≤ j ∧ j ≤ 1000000 ∧ Sm 64 i
instance (i j : Int) : Decidable (shlOk i j) := by unfold shlOk; infer_instance
/-- xs * k -/
def repOk (n : Nat) (k : Int) : Prop := -(2 ^ 63) ≤ k ∧ k < 2 ^ 63 ∧ n * k.toNat ≤ SL
instance (n : Nat) (k : Int) : Decidable (repOk n k) := by unfold repOk; infer_instance
def repL {α : Type} (xs : List α) (k : Int) : List α := (List.replicate k.toNat xs).flatten

def bin : Op2 → PyData → PyData → Option PyData
  | .add, .int i, .int j => some (.int (i + j))
  | .add, .tuple xs, .tuple ys => if xs.length + ys.length ≤ SL then some (.tuple (xs ++ ys)) else none
  | .add, .list xs, .list ys => if xs.length + ys.length ≤ SL then some (.list (xs ++ ys)) else none
  | .sub, .int i, .int j => some (.int (i - j))
  | .mul, .int i, .int j => if mulOk i j then some (.int (i * j)) else none
  | .mul, .tuple xs, .int k => if repOk xs.length k then some (.tuple (repL xs k)) else none
  | .mul, .list xs, .int k => if repOk xs.length k then some (.list (repL xs k)) else none
  | .mod, .int i, .int j => if j ≠ 0 then some (.int (i.fmod j)) else none
  | .fdiv, .int i, .int j => if divOk i j then some (.int (i.fdiv j)) else none
  | .pow, .int i, .int j => if powOk i j then some (.int (i ^ j.toNat)) else none
  | .shl, .int i, .int j => if shlOk i j then some (.int (i * 2 ^ j.toNat)) else none
  | .shr, .int i, .int j => if 0 ≤ j then some (.int (i / 2 ^ j.toNat)) else none
  | _, _, _ => none
def isNone : PyData → Bool
  | .none => true
  | _ => false
def isB (b : Bool) : PyData → Bool
  | .bool c => b == c
  | _ => false
def flat : PyData → Bool
  | .none | .bool _ | .int _ | .str _ => true
  | _ => false
def inD (x : PyData) (xs : List PyData) : Bool := xs.any fun y => PyData.eqv y x
def cmpD : Cm → PyData → PyData → Option Bool
  | .lt, .int i, .int j => some (decide (i < j))
  | .le, .int i, .int j => some (decide (i ≤ j))
  | .gt, .int i, .int j => some (decide (j < i))
  | .ge, .int i, .int j => some (decide (j ≤ i))
  | .is, x, .none => some (isNone x)
  | .isnot, x, .none => some (!isNone x)
  | .is, x, .bool b => some (isB b x)
  | .isnot, x, .bool b => some (!isB b x)
  | .isin, x, .list ys => if flat x && ys.all flat then some (inD x ys) else none
  | .isin, x, .tuple ys => if flat x && ys.all flat then some (inD x ys) else none
  | .notin, x, .list ys => if flat x && ys.all flat then some (!inD x ys) else none
  | .notin, x, .tuple ys => if flat x && ys.all flat then some (!inD x ys) else none
  | .eq, .tuple xs, .tuple [] => some xs.isEmpty
  | .eq, .list xs, .list [] => some xs.isEmpty
  | .ne, .tuple xs, .tuple [] => some (!xs.isEmpty)
  | .ne, .list xs, .list [] => some (!xs.isEmpty)
  | .eq, x, y => if SeqAt.shaped x && SeqAt.shaped y then some (PyData.eqv x y) else none
  | .ne, x, y => if SeqAt.shaped x && SeqAt.shaped y then some (!PyData.eqv x y) else none
  | _, _, _ => none
/-- the place of xs[i] -/
def ixAt {α : Type} (xs : List α) (i : Int) : Option α := if 0 ≤ i then xs[i.toNat]? else if 0 ≤ (xs.length : Int) + i then xs[((xs.length : Int) + i).toNat]? else none
def ixD : PyData → PyData → Option PyData
  | .list xs, .int i => ixAt xs i
  | .tuple xs, .int i => ixAt xs i
  | _, _ => none
/-- a slice's end -/
def sIx (n : Nat) : Int → Nat := fun i => if 0 ≤ i then Nat.min i.toNat n else (n + i).toNat
def cut {α : Type} (xs : List α) (lo hi : Nat) : List α := (xs.drop lo).take (hi - lo)
/-- .none: left out -/
def slEnd (n dflt : Nat) : PyData → Option Nat
  | .none => some dflt
  | .int i => some (sIx n i)
  | _ => none
def slD : PyData → PyData → PyData → Option PyData
  | .list xs, a, b => (slEnd xs.length 0 a).bind fun lo => (slEnd xs.length xs.length b).map fun hi => .list (cut xs lo hi)
  | .tuple xs, a, b => (slEnd xs.length 0 a).bind fun lo => (slEnd xs.length xs.length b).map fun hi => .tuple (cut xs lo hi)
  | _, _, _ => none
def revD : PyData → Option PyData
  | .list xs => some (.list xs.reverse)
  | _ => none
def isTy : Ty → PyData → Bool
  | .int, .int _ | .int, .bool _ | .bool, .bool _ | .tuple, .tuple _ | .list, .list _ | .str, .str _ | .dict, .dict _ => true
  | _, _ => false
def intsD : List PyData → Option (List Int)
  | [] => some []
  | .int i :: r => (intsD r).map (i :: ·)
  | _ => none
def boolsD : List PyData → Option (List Bool)
  | [] => some []
  | .bool i :: r => (boolsD r).map (i :: ·)
  | _ => none
def leastI : Int → List Int → Int
  | m, [] => m
  | m, x :: r => leastI (if x < m then x else m) r
def mostI : Int → List Int → Int
  | m, [] => m
  | m, x :: r => mostI (if m < x then x else m) r
def insI (x : Int) : List Int → List Int
  | [] => [x]
  | y :: r => if x ≤ y then x :: y :: r else y :: insI x r
def sortI : List Int → List Int
  | [] => []
  | x :: r => insI x (sortI r)
def itemsD : PyData → Option (List PyData)
  | .list xs => some xs
  | .tuple xs => some xs
  | _ => none
def biD : Bi → List PyData → Option PyData
  | .len, [.list xs] => some (.int xs.length)
  | .len, [.tuple xs] => some (.int xs.length)
  | .abs, [.int i] => some (.int (if i < 0 then -i else i))
  | .tuple, [.list xs] => some (.tuple xs)
  | .tuple, [.tuple xs] => some (.tuple xs)
  | .list, [.list xs] => some (.list xs)
  | .list, [.tuple xs] => some (.list xs)
  | .sum, [.list xs] => (intsD xs).map fun ns => .int ns.sum
  | .all, [.list xs] => (boolsD xs).map fun bs => .bool (bs.all id)
  | .any, [.list xs] => (boolsD xs).map fun bs => .bool (bs.any id)
  | .min, [.list xs] => (intsD xs).bind fun ns => match ns with | [] => none | n :: r => some (.int (leastI n r))
  | .max, [.list xs] => (intsD xs).bind fun ns => match ns with | [] => none | n :: r => some (.int (mostI n r))
  | .min2, [.int i, .int j] => some (.int (if j < i then j else i))
  | .max2, [.int i, .int j] => some (.int (if j > i then j else i))
  | .int, [.int i] => some (.int i)
  | .int, [.bool b] => some (.int (if b then 1 else 0))
  | .sorted, [.list xs] => (intsD xs).map fun ns => .list ((sortI ns).map .int)
  | _, _ => none

inductive E where
  | var (i : Nat) | non | bl (b : Bool) | int (z : Int) | str (s : Str) | gint (x : Str) (z : Int)
  | nil | cons (a b : E)
  | bin (o : Op2) (a b : E) | neg (a : E)
  | cmp (o : Cm) (a b : E) | chain (o p : Cm) (a b c : E)
  | not (a : E) | and (a b : E) | or (a b : E) | ite (c a b : E)
  | tup (es : E) | lst (es : E)
  | ix (a b : E) | sl (a lo hi : E) | rev (a : E)
  | call (f : Nat) (es : E) | callio (f p i : Nat) (es : E)
  | bi (f : Bi) (es : E) | isi (a : E) (t : Ty)
  | rng (a : E) | rng2 (a b : E) | enum (a : E) | zip (a b : E)
  | comp (elt : E) (tg : Tg) (src cond : E) (own : List Nat)
  | compM (elt : E) (tg : Tg) (i : Nat) (cond : E) (own : List Nat)
  | lrng (a : E) | trng (a : E) | edic | callk (f : Nat) (es : E)
  | lenM (i : Nat) | ixM (i : Nat) (e : E) | nilM (i : Nat) | popM (i : Nat) (e : E)

def E.isNon : E → Bool
  | .non => true
  | _ => false
/-- a slice's end is left out, or an int -/
def slOk : Bool → PyData → Bool
  | true, .none => true
  | false, .int _ => true
  | _, _ => false
inductive S where
  | skip | seq (a b : S)
  | asg (i : Nat) (e : E) | asgM (i : Nat) (e : E) | asgs (is : List Nat) (e : E) | two (i j : Nat) (a b : E)
  | app (i : Nat) (e : E) | setM (i : Nat) (a e : E) | aug (i : Nat) (o : Op2) (e : E) | augM (i : Nat) (a : E) (o : Op2) (e : E) | ext (i : Nat) (e : E)
  | ret (e : E) | retM (i : Nat) | ite (c : E) (a b : S) | for_ (tg : Tg) (src : E) (b : S) | while_ (c : E) (b : S) | drop (e : E)
  | brk | cnt

/-- behind a statement -/
inductive O where
  | nx (ρ : Env) | ret (own : Bool) (d : PyData) (ρ : Env) | brk (ρ : Env) | cnt (ρ : Env) | exc (x : Xn) (ρ : Env) | bad

def getS (ρ : Env) (i : Nat) : Slot := ρ.getD i .un
/-- a store to a name: never to a list that was handed in to be changed -/
def putS (ρ : Env) (i : Nat) (s : Slot) : Option Env := match ρ[i]? with
  | none => none
  | some (.par _) => none
  | some _ => some (ρ.set i s)
/-- the items behind a list that may change -/
def mutS : Slot → Option (List PyData)
  | .mu ds => some ds
  | .par ds => some ds
  | _ => none
def remut : Slot → List PyData → Slot
  | .mu _, ds => .mu ds
  | .par _, ds => .par ds
  | s, _ => s
/-- a name's value read: a list that may change is frozen by it -/
def rdVar (ρ : Env) (i : Nat) : R PyData := match getS ρ i with
  | .val d => .ok d ρ
  | .mu ds => .ok (.list ds) (ρ.set i (.val (.list ds)))
  | _ => .bad
def putAll : List Nat → List PyData → Env → Option Env
  | [], [], ρ => some ρ
  | i :: is, d :: ds, ρ => (putS ρ i (.val d)).bind fun ρ' => putAll is ds ρ'
  | _, _, _ => none
def asgT : Tg → PyData → Env → Option Env
  | .one i, d, ρ => putS ρ i (.val d)
  | .many is, .tuple ds, ρ => putAll is ds ρ
  | _, _, _ => none
def wipeS : List Nat → Env → Env
  | [], ρ => ρ
  | i :: r, ρ => (wipeS r ρ).set i .un
/-- the names of a comprehension hold nothing that may change -/
def ownOk (own : List Nat) (ρ : Env) : Bool := own.all fun i => match getS ρ i with | .mu _ => false | .par _ => false | _ => true
def giveS : List Nat → Env → Env → Env
  | [], _, ρ => ρ
  | i :: r, ρ0, ρ => (giveS r ρ0 ρ).set i (getS ρ0 i)
def compGo (f : PyData → Env → R (Option PyData)) : List PyData → Env → R (List PyData)
  | [], ρ => .ok [] ρ
  | d :: ds, ρ => match f d ρ with
    | .ok y ρ1 => (match compGo f ds ρ1 with
      | .ok ys ρ2 => .ok (match y with | some y => y :: ys | none => ys) ρ2
      | _ => .bad)
    | _ => .bad
def rangeD (lo : Int) (n : Nat) : List PyData := (List.range n).map fun k => .int (lo + (k : Nat))
def rngOk (lo hi : Int) : Prop := -(2 ^ 62) ≤ lo ∧ lo < 2 ^ 62 ∧ -(2 ^ 62) ≤ hi ∧ hi < 2 ^ 62 ∧ (hi - lo).toNat ≤ SL
instance (lo hi : Int) : Decidable (rngOk lo hi) := by unfold rngOk; infer_instance
def rngD : PyData → PyData → Option PyData
  | .int lo, .int hi => if rngOk lo hi then some (.list (rangeD lo (hi - lo).toNat)) else none
  | _, _ => none
def enumFrom : Nat → List PyData → List PyData
  | _, [] => []
  | k, d :: r => .tuple [.int k, d] :: enumFrom (k + 1) r
def enumD : PyData → Option PyData
  | .list xs => some (.list (enumFrom 0 xs))
  | _ => none
def zipL : List PyData → List PyData → List PyData
  | a :: r, b :: s => .tuple [a, b] :: zipL r s
  | _, _ => []
def zipD : PyData → PyData → Option PyData
  | .list xs, .list ys => some (.list (zipL xs ys))
  | .tuple xs, .tuple ys => some (.list (zipL xs ys))
  | _, _ => none
def insAt {α : Type} (p : Nat) (x : α) (xs : List α) : List α := xs.take p ++ x :: xs.drop p
def asB : PyData → Option Bool
  | .bool b => some b
  | _ => none
def setAt (xs : List PyData) (i : Int) (y : PyData) : Option (List PyData) :=
  if 0 ≤ i then (if i.toNat < xs.length then some (xs.set i.toNat y) else none)
  else if 0 ≤ (xs.length : Int) + i then some (xs.set ((xs.length : Int) + i).toNat y) else none

abbrev Fns := Nat → List PyData → FR
def tupOf : PyData → List PyData
  | .tuple ds => ds
  | _ => []
/-- a comprehension's turn -/
def turnC (own : List Nat) (tg : Tg) (fc fe : Env → R PyData) (d : PyData) (ρ : Env) : R (Option PyData) := match asgT tg d (wipeS own ρ) with
  | none => .bad
  | some ρ2 => (fc ρ2).bind fun c ρ3 => match c with
    | .bool true => (fe ρ3).bind fun y ρ4 => .ok (some y) ρ4
    | .bool false => .ok none ρ3
    | _ => .bad
section
variable (Φ : Fns)
def evE : E → Env → R PyData
  | .var i, ρ => rdVar ρ i
  | .non, ρ => .ok .none ρ
  | .bl b, ρ => .ok (.bool b) ρ
  | .int z, ρ => .ok (.int z) ρ
  | .str s, ρ => .ok (.str s) ρ
  | .gint _ z, ρ => .ok (.int z) ρ
  | .nil, ρ => .ok (.tuple []) ρ
  | .cons a b, ρ => (evE a ρ).bind fun x ρ => (evE b ρ).bind fun y ρ => .ok (.tuple (x :: tupOf y)) ρ
  | .bin o a b, ρ => (evE a ρ).bind fun x ρ => (evE b ρ).bind fun y ρ => .of (bin o x y) ρ
  | .neg a, ρ => (evE a ρ).bind fun x ρ => match x with | .int i => .ok (.int (-i)) ρ | _ => .bad
  | .cmp o a b, ρ => (evE a ρ).bind fun x ρ => (evE b ρ).bind fun y ρ => .of ((cmpD o x y).map .bool) ρ
  | .chain o p a b c, ρ => (evE a ρ).bind fun x ρ => (evE b ρ).bind fun y ρ => match cmpD o x y with
    | some true => (evE c ρ).bind fun z ρ => .of ((cmpD p y z).map .bool) ρ
    | some false => .ok (.bool false) ρ
    | none => .bad
  | .not a, ρ => (evE a ρ).bind fun x ρ => match x with | .bool b => .ok (.bool (!b)) ρ | _ => .bad
  | .and a b, ρ => (evE a ρ).bind fun x ρ => match x with | .bool true => evE b ρ | .bool false => .ok (.bool false) ρ | _ => .bad
  | .or a b, ρ => (evE a ρ).bind fun x ρ => match x with | .bool true => .ok (.bool true) ρ | .bool false => evE b ρ | _ => .bad
  | .ite c a b, ρ => (evE c ρ).bind fun x ρ => match x with | .bool true => evE a ρ | .bool false => evE b ρ | _ => .bad
  | .tup es, ρ => (evE es ρ).bind fun x ρ => .ok (.tuple (tupOf x)) ρ
  | .lst es, ρ => (evE es ρ).bind fun x ρ => .ok (.list (tupOf x)) ρ
  | .ix a b, ρ => (evE a ρ).bind fun x ρ => (evE b ρ).bind fun y ρ => .of (ixD x y) ρ
  | .sl a lo hi, ρ => (evE a ρ).bind fun x ρ => (evE lo ρ).bind fun y ρ => if slOk lo.isNon y then (evE hi ρ).bind fun z ρ => if slOk hi.isNon z then .of (slD x y z) ρ else .bad else .bad
  | .rev a, ρ => (evE a ρ).bind fun x ρ => .of (revD x) ρ
  | .call f es, ρ => (evE es ρ).bind fun x ρ => match Φ f (tupOf x) with
    | .ok d _ => .ok d ρ
    | .exc z _ => .exc z ρ
    | .bad => .bad
  | .callio f p i es, ρ => if (mutS (getS ρ i)).isSome then (evE es ρ).bind fun x ρ => match mutS (getS ρ i) with
    | none => .bad
    | some ds => match Φ f (insAt p (.list ds) (tupOf x)) with
      | .ok d ds' => .ok d (ρ.set i (remut (getS ρ i) ds'))
      | .exc z ds' => .exc z (ρ.set i (remut (getS ρ i) ds'))
      | .bad => .bad
    else .bad
  | .bi f es, ρ => (evE es ρ).bind fun x ρ => .of (biD f (tupOf x)) ρ
  | .isi a t, ρ => (evE a ρ).bind fun x ρ => .ok (.bool (isTy t x)) ρ
  | .rng a, ρ => (evE a ρ).bind fun x ρ => .of (rngD (.int 0) x) ρ
  | .rng2 a b, ρ => (evE a ρ).bind fun x ρ => (evE b ρ).bind fun y ρ => .of (rngD x y) ρ
  | .enum a, ρ => (evE a ρ).bind fun x ρ => .of (enumD x) ρ
  | .zip a b, ρ => (evE a ρ).bind fun x ρ => (evE b ρ).bind fun y ρ => .of (zipD x y) ρ
  | .comp elt tg src cond own, ρ => (evE src ρ).bind fun x ρ => match itemsD x, ownOk own ρ with
    | some ds, true => (compGo (turnC own tg (evE cond) (evE elt)) ds ρ).bind fun ys ρ5 => .ok (.list ys) (giveS own ρ ρ5)
    | _, _ => .bad
  | .compM elt tg i cond own, ρ => match mutS (getS ρ i), ownOk (i :: own) (ρ.set i .un) && !own.contains i with
    | some ds, true => (compGo (turnC own tg (evE cond) (evE elt)) ds (ρ.set i .un)).bind fun ys ρ5 => .ok (.list ys) ((giveS own (ρ.set i .un) ρ5).set i (getS ρ i))
    | _, _ => .bad
  | .lrng a, ρ => (evE a ρ).bind fun x ρ => match x with | .list ds => .ok (.list ds) ρ | _ => .bad
  | .trng a, ρ => (evE a ρ).bind fun x ρ => match x with | .list ds => .ok (.tuple ds) ρ | _ => .bad
  | .edic, ρ => .ok (.dict []) ρ
  | .callk f es, ρ => (evE es ρ).bind fun x ρ => match Φ f (tupOf x) with
    | .ok d _ => .ok d ρ
    | .exc z _ => .exc z ρ
    | .bad => .bad
  | .lenM i, ρ => match mutS (getS ρ i) with | some ds => .ok (.int ds.length) ρ | none => .bad
  | .ixM i e, ρ => if (mutS (getS ρ i)).isSome then (evE e ρ).bind fun x ρ => match mutS (getS ρ i), x with
    | some ds, .int k => .of (ixAt ds k) ρ
    | _, _ => .bad
    else .bad
  | .nilM i, ρ => match mutS (getS ρ i) with | some ds => .ok (.bool ds.isEmpty) ρ | none => .bad
  | .popM i e, ρ => if (mutS (getS ρ i)).isSome then (evE e ρ).bind fun x ρ => match mutS (getS ρ i), x with
    | some ds, .int k => (match ds[k.toNat]? with
      | some d => if 0 ≤ k ∧ k < 2 ^ 63 then .ok d (ρ.set i (remut (getS ρ i) (ds.eraseIdx k.toNat))) else .bad
      | none => .bad)
    | _, _ => .bad
    else .bad

def forGo (f : PyData → Env → O) : List PyData → Env → O
  | [], ρ => .nx ρ
  | d :: ds, ρ => match f d ρ with
    | .nx ρ' => forGo f ds ρ'
    | .cnt ρ' => forGo f ds ρ'
    | .brk ρ' => .nx ρ'
    | o => o
/-- a while's turns, n at most -/
def whileN (c : Env → R PyData) (f : Env → O) : Nat → Env → Option O
  | 0, _ => none
  | n + 1, ρ => match c ρ with
    | .ok (.bool true) ρ1 => (match f ρ1 with
      | .nx ρ' => whileN c f n ρ'
      | .cnt ρ' => whileN c f n ρ'
      | .brk ρ' => some (.nx ρ')
      | o => some o)
    | .ok (.bool false) ρ1 => some (.nx ρ1)
    | .exc x ρ1 => some (.exc x ρ1)
    | _ => some .bad
open Classical in
noncomputable def whileD (c : Env → R PyData) (f : Env → O) (ρ : Env) : O := if h : ∃ n o, whileN c f n ρ = some o then h.choose_spec.choose else .bad
def O.of : Option Env → O
  | some ρ => .nx ρ
  | none => .bad
def R.out {α : Type} : R α → (α → Env → O) → O
  | .ok a ρ, f => f a ρ
  | .exc x ρ, _ => .exc x ρ
  | .bad, _ => .bad
noncomputable def evS : S → Env → O
  | .skip, ρ => .nx ρ
  | .seq a b, ρ => match evS a ρ with
    | .nx ρ' => evS b ρ'
    | o => o
  | .asg i e, ρ => (evE Φ e ρ).out fun d ρ => O.of (putS ρ i (.val d))
  | .asgM i e, ρ => (evE Φ e ρ).out fun d ρ => match d with | .list ds => O.of (putS ρ i (.mu ds)) | _ => .bad
  | .asgs is e, ρ => (evE Φ e ρ).out fun d ρ => O.of (asgT (.many is) d ρ)
  | .two i j a b, ρ => (evE Φ a ρ).out fun x ρ => (evE Φ b ρ).out fun y ρ => O.of ((putS ρ i (.val x)).bind fun ρ => putS ρ j (.val y))
  | .app i e, ρ => if (mutS (getS ρ i)).isSome then (evE Φ e ρ).out fun d ρ => match mutS (getS ρ i) with
    | some ds => if ds.length < SL then .nx (ρ.set i (remut (getS ρ i) (ds ++ [d]))) else .bad
    | none => .bad
    else .bad
  | .ext i e, ρ => if (mutS (getS ρ i)).isSome then (evE Φ e ρ).out fun d ρ => match mutS (getS ρ i), d with
    | some ds, .list es => if ds.length + es.length ≤ SL then .nx (ρ.set i (remut (getS ρ i) (ds ++ es))) else .bad
    | _, _ => .bad
    else .bad
  | .setM i a e, ρ => (evE Φ e ρ).out fun d ρ => if (mutS (getS ρ i)).isSome then (evE Φ a ρ).out fun k ρ => match mutS (getS ρ i), k with
    | some ds, .int k => (match setAt ds k d with
      | some ds' => .nx (ρ.set i (remut (getS ρ i) ds'))
      | none => .bad)
    | _, _ => .bad
    else .bad
  | .aug i o e, ρ => match getS ρ i with
    | .val (.int x) => (evE Φ e ρ).out fun y ρ => match bin o (.int x) y with
      | some z => O.of (putS ρ i (.val z))
      | none => .bad
    | _ => .bad
  | .augM i a o e, ρ => if (mutS (getS ρ i)).isSome then (evE Φ a ρ).out fun k ρ => match mutS (getS ρ i), k with
    | some ds, .int k => (match ixAt ds k with
      | some (.int x) => (evE Φ e ρ).out fun y ρ => (match bin o (.int x) y, mutS (getS ρ i) with
        | some z, some ds' => (match setAt ds' k z with
          | some ds'' => .nx (ρ.set i (remut (getS ρ i) ds''))
          | none => .bad)
        | _, _ => .bad)
      | _ => .bad)
    | _, _ => .bad
    else .bad
  | .ret e, ρ => (evE Φ e ρ).out fun d ρ => .ret false d ρ
  | .retM i, ρ => match getS ρ i with
    | .mu ds => .ret true (.list ds) ρ
    | _ => .bad
  | .ite c a b, ρ => (evE Φ c ρ).out fun x ρ => match x with | .bool true => evS a ρ | .bool false => evS b ρ | _ => .bad
  | .for_ tg src b, ρ => (evE Φ src ρ).out fun x ρ => match itemsD x with
    | some ds => forGo (fun d ρ => match asgT tg d ρ with
      | some ρ' => evS b ρ'
      | none => .bad) ds ρ
    | none => .bad
  | .while_ c b, ρ => whileD (fun ρ => evE Φ c ρ) (fun ρ => evS b ρ) ρ
  | .drop e, ρ => (evE Φ e ρ).out fun _ ρ => .nx ρ
  | .brk, ρ => .brk ρ
  | .cnt, ρ => .cnt ρ
end

/-- a def: how many names, its parameters, the one whose list it changes, whether it hands back a list of its own -/
structure Fd where
  pars : Nat
  size : Nat
  io : Option Nat
  own : Bool
  body : S
def startS : Nat → Option Nat → List PyData → List Slot
  | _, _, [] => []
  | k, io, d :: r => (match io, d with
    | some p, .list ds => if p = k then .par ds else .val d
    | _, _ => .val d) :: startS (k + 1) io r
/-- what the list that was handed in to be changed holds at last -/
def parOf (io : Option Nat) (ρ : Env) : Option (List PyData) := match io with
  | some p => (match getS ρ p with | .par ds => some ds | _ => none)
  | none => some []
def FR.ofIo (d : PyData) : Option (List PyData) → FR
  | some ds => .ok d ds
  | none => .bad
def FR.exIo (x : Xn) : Option (List PyData) → FR
  | some ds => .exc x ds
  | none => .bad
noncomputable def runFd (Φ : Fns) (fd : Fd) (args : List PyData) : FR :=
  if args.length = fd.pars then
    match evS Φ fd.body (startS 0 fd.io args ++ List.replicate (fd.size - fd.pars) .un) with
    | .nx ρ => if fd.own then .bad else .ofIo .none (parOf fd.io ρ)
    | .ret own d ρ => if own = fd.own then .ofIo d (parOf fd.io ρ) else .bad
    | .exc x ρ => .exIo x (parOf fd.io ρ)
    | _ => .bad
  else .bad
/-- all defs, calls n deep -/
noncomputable def Phi (T : Nat → Option Fd) : Nat → Fns
  | 0, _, _ => .bad
  | n + 1, f, args => match T f with
    | some fd => runFd (Phi T n) fd args
    | none => .bad
end HM

namespace HM
open PySem PySem.Spec PyProof.Rows L2

/-! ### the plain data in the heap -/
def FLe (F F' : Hp) : Prop := ∀ a o, F a = some o → F' a = some o
theorem FLe.rf {F : Hp} : FLe F F := fun _ _ h => h
theorem FLe.tr {F G H : Hp} (h : FLe F G) (g : FLe G H) : FLe F H := fun a o e => g a o (h a o e)
theorem FLe.new {F H : Hp} {p : Addr} {o : HO} (h : FLe F H) (hp : H p = none) : FLe F (upd F p o) := fun a u e => by
  rw [upd_ne]
  · exact e
  · intro z
    subst z
    rw [h _ _ e] at hp
    cases hp

section
variable (K : PySem.W.Frag) (F : Hp)
mutual
inductive Rep : PyData → V → Prop
  | non : Rep .none .non
  | bl (b : Bool) : Rep (.bool b) (.bl b)
  | int (i : Int) : Rep (.int i) (.int i)
  | str (x : Str) : Rep (.str x) (.str x)
  | lst {a : Addr} {xs : List V} {ds : List PyData} : Rd F a (.lst xs) → RepAll ds xs → Rep (.list ds) (.ref a)
  | tup {a : Addr} {xs : List V} {ds : List PyData} : SqT K F a xs → RepAll ds xs → Rep (.tuple ds) (.ref a)
  | dic {a : Addr} {kvs : List (Key × V)} {es : List (PyData × PyData)} : F a = some (.dK kvs) → RepKV es kvs → Rep (.dict es) (.ref a)
inductive RepAll : List PyData → List V → Prop
  | nil : RepAll [] []
  | cons {d : PyData} {v : V} {ds : List PyData} {vs : List V} : Rep d v → RepAll ds vs → RepAll (d :: ds) (v :: vs)
inductive RepKV : List (PyData × PyData) → List (Key × V) → Prop
  | nil : RepKV [] []
  | int {i : Int} {d : PyData} {v : V} {es : List (PyData × PyData)} {kvs : List (Key × V)} : Rep d v → RepKV es kvs → RepKV ((.int i, d) :: es) ((.inl i, v) :: kvs)
  | str {i : Str} {d : PyData} {v : V} {es : List (PyData × PyData)} {kvs : List (Key × V)} : Rep d v → RepKV es kvs → RepKV ((.str i, d) :: es) ((.inr i, v) :: kvs)
end
end
section
variable {K : PySem.W.Frag} {F F' H : Hp}
theorem Rd.mo (h : FLe F F') {a : Addr} {u : HO} (q : Rd F a u) : Rd F' a u := by
  rcases q with q | ⟨o, q⟩
  · exact .inl (h _ _ q)
  · exact .inr ⟨o, h _ _ q⟩
theorem SqT.mo (h : FLe F F') {a : Addr} {xs : List V} (q : SqT K F a xs) : SqT K F' a xs := by
  rcases q with (q | ⟨o, q⟩) | q
  · exact .inl (.inl (h _ _ q))
  · exact .inl (.inr ⟨o, h _ _ q⟩)
  · exact .inr q
mutual
theorem Rep.mo (h : FLe F F') : ∀ {d : PyData} {v : V}, Rep K F d v → Rep K F' d v
  | _, _, .non => .non
  | _, _, .bl b => .bl b
  | _, _, .int i => .int i
  | _, _, .str i => .str i
  | _, _, .lst s r => .lst (Rd.mo h s) (RepAll.mo h r)
  | _, _, .tup s r => .tup (SqT.mo h s) (RepAll.mo h r)
  | _, _, .dic s r => .dic (h _ _ s) (RepKV.mo h r)
theorem RepAll.mo (h : FLe F F') : ∀ {ds : List PyData} {vs : List V}, RepAll K F ds vs → RepAll K F' ds vs
  | _, _, .nil => .nil
  | _, _, .cons a b => .cons (Rep.mo h a) (RepAll.mo h b)
theorem RepKV.mo (h : FLe F F') : ∀ {es : List (PyData × PyData)} {kvs : List (Key × V)}, RepKV K F es kvs → RepKV K F' es kvs
  | _, _, .nil => .nil
  | _, _, .int a b => .int (Rep.mo h a) (RepKV.mo h b)
  | _, _, .str a b => .str (Rep.mo h a) (RepKV.mo h b)
end
theorem RepAll.length : ∀ {ds : List PyData} {vs : List V}, RepAll K F ds vs → ds.length = vs.length
  | _, _, .nil => rfl
  | _, _, .cons _ r => by rw [List.length_cons, List.length_cons, RepAll.length r]
theorem RepAll.get : ∀ {ds : List PyData} {vs : List V} {i : Nat} {d : PyData}, RepAll K F ds vs → ds[i]? = some d → ∃ v, vs[i]? = some v ∧ Rep K F d v
  | _, _, _, _, .nil, e => by simp at e
  | _, _, 0, _, .cons r _, e => by simp at e; subst e; exact ⟨_, rfl, r⟩
  | _, _, i + 1, _, .cons _ t, e => by
    obtain ⟨u, h1, h2⟩ := RepAll.get (i := i) t (by simpa using e)
    exact ⟨u, by simpa using h1, h2⟩
theorem RepAll.getV : ∀ {ds : List PyData} {vs : List V} {i : Nat} {v : V}, RepAll K F ds vs → vs[i]? = some v → ∃ d, ds[i]? = some d ∧ Rep K F d v
  | _, _, _, _, .nil, e => by simp at e
  | _, _, 0, _, .cons r _, e => by simp at e; subst e; exact ⟨_, rfl, r⟩
  | _, _, i + 1, _, .cons _ t, e => by
    obtain ⟨u, h1, h2⟩ := RepAll.getV (i := i) t (by simpa using e)
    exact ⟨u, by simpa using h1, h2⟩
theorem RepAll.app : ∀ {ds es : List PyData} {vs us : List V}, RepAll K F ds vs → RepAll K F es us → RepAll K F (ds ++ es) (vs ++ us)
  | _, _, _, _, .nil, s => s
  | _, _, _, _, .cons r t, s => .cons r (RepAll.app t s)
theorem RepAll.take : ∀ {ds : List PyData} {vs : List V} (n : Nat), RepAll K F ds vs → RepAll K F (ds.take n) (vs.take n)
  | _, _, 0, _ => .nil
  | _, _, _ + 1, .nil => .nil
  | _, _, n + 1, .cons r t => .cons r (RepAll.take n t)
theorem RepAll.drop : ∀ {ds : List PyData} {vs : List V} (n : Nat), RepAll K F ds vs → RepAll K F (ds.drop n) (vs.drop n)
  | _, _, 0, r => r
  | _, _, _ + 1, .nil => .nil
  | _, _, n + 1, .cons _ t => RepAll.drop n t
theorem RepAll.set {d : PyData} {v : V} (r : Rep K F d v) : ∀ {ds : List PyData} {vs : List V} (i : Nat), RepAll K F ds vs → RepAll K F (ds.set i d) (vs.set i v)
  | _, _, _, .nil => .nil
  | _, _, 0, .cons _ t => .cons r t
  | _, _, i + 1, .cons q t => .cons q (RepAll.set r i t)
theorem RepAll.erase : ∀ {ds : List PyData} {vs : List V} (i : Nat), RepAll K F ds vs → RepAll K F (ds.eraseIdx i) (vs.eraseIdx i)
  | _, _, _, .nil => .nil
  | _, _, 0, .cons _ t => t
  | _, _, i + 1, .cons q t => .cons q (RepAll.erase i t)
theorem RepAll.rev : ∀ {ds : List PyData} {vs : List V}, RepAll K F ds vs → RepAll K F ds.reverse vs.reverse
  | _, _, .nil => .nil
  | _, _, .cons r t => by
    rw [List.reverse_cons, List.reverse_cons]
    exact RepAll.app (RepAll.rev t) (.cons r .nil)
theorem RepAll.rep {ds : List PyData} {vs : List V} (r : RepAll K F ds vs) : ∀ n : Nat, RepAll K F (List.replicate n ds).flatten (List.replicate n vs).flatten
  | 0 => .nil
  | n + 1 => by
    rw [List.replicate_succ, List.replicate_succ, List.flatten_cons, List.flatten_cons]
    exact RepAll.app r (RepAll.rep r n)
theorem RepAll.insAt {d : PyData} {v : V} (r : Rep K F d v) {ds : List PyData} {vs : List V} (p : Nat) (h : RepAll K F ds vs) : RepAll K F (insAt p d ds) (insAt p v vs) := by
  unfold HM.insAt
  exact RepAll.app (h.take p) (.cons r (h.drop p))
theorem RepAll.ints : ∀ {ds : List PyData} {vs : List V} {ns : List Int}, RepAll K F ds vs → intsD ds = some ns → vs = ns.map V.int
  | _, _, _, .nil, e => by
    cases e
    rfl
  | d :: ds, v :: vs, ns, .cons r t, e => by
    cases r with
    | int i =>
      cases q : intsD ds with
      | none => rw [intsD, q] at e; cases e
      | some ms =>
        rw [intsD, q] at e
        cases e
        rw [RepAll.ints t q]
        rfl
    | _ => cases e
theorem RepAll.ofInts : ∀ ns : List Int, RepAll K F (ns.map .int) (ns.map V.int)
  | [] => .nil
  | _ :: r => .cons (.int _) (RepAll.ofInts r)
theorem RepAll.bools : ∀ {ds : List PyData} {vs : List V} {ns : List Bool}, RepAll K F ds vs → boolsD ds = some ns → vs = ns.map V.bl
  | _, _, _, .nil, e => by
    cases e
    rfl
  | d :: ds, v :: vs, ns, .cons r t, e => by
    cases r with
    | bl i =>
      cases q : boolsD ds with
      | none => rw [boolsD, q] at e; cases e
      | some ms =>
        rw [boolsD, q] at e
        cases e
        rw [RepAll.bools t q]
        rfl
    | _ => cases e
end

/-! ### the heap grows by frozen objects -/
structure Ext (F H F' H' : Hp) : Prop where
  ff : FLe F F'
  hh : FLe H H'
  fh : FLe F' H'
  sep : ∀ a, H a ≠ none → F a = none → F' a = none
theorem Ext.nn {F H F' H' : Hp} (E : Ext F H F' H') {a : Addr} (h : H a ≠ none) : H' a ≠ none := fun z => by
  cases q : H a with
  | none => exact h q
  | some o => rw [E.hh _ _ q] at z; cases z
theorem Ext.rf {F H : Hp} (h : FLe F H) : Ext F H F H := ⟨FLe.rf, FLe.rf, h, fun _ _ q => q⟩
theorem Ext.tr {F H F1 H1 F2 H2 : Hp} (a : Ext F H F1 H1) (b : Ext F1 H1 F2 H2) : Ext F H F2 H2 :=
  ⟨a.ff.tr b.ff, a.hh.tr b.hh, b.fh, fun c hc hf => b.sep c (by
    intro z
    apply hc
    cases q : H c with
    | none => rfl
    | some o => rw [a.hh c o q] at z; cases z) (a.sep c hc hf)⟩
theorem Ext.new {F H : Hp} (h : FLe F H) {p : Addr} (hp : H p = none) (o : HO) : Ext F H (upd F p o) (upd H p o) := by
  refine ⟨h.new hp, FLe.rf.new hp, fun a u e => ?_, fun a ha hf => ?_⟩
  · by_cases z : a = p
    · subst z; rw [upd_same] at e ⊢; exact e
    · rw [upd_ne z] at e ⊢; exact h _ _ e
  · have z : a ≠ p := fun z => by subst z; exact ha hp
    rw [upd_ne z]
    exact hf
/-- what is wanted of a value that represents z -/
def Res (K : PySem.W.Frag) (F H : Hp) (z : PyData) (Q : VK) : Prop := ∀ F' H' v, Ext F H F' H' → Rep K F' z v → Q v H'
theorem Res.now {K : PySem.W.Frag} {F H : Hp} {z : PyData} {Q : VK} (r : Res K F H z Q) (h : FLe F H) {v : V} (q : Rep K F z v) : Q v H := r F H v (Ext.rf h) q
theorem Res.tup {K : PySem.W.Frag} {F H : Hp} {ds : List PyData} {xs : List V} {Q : VK} (r : Res K F H (.tuple ds) Q) (h : FLe F H) (q : RepAll K F ds xs) : ∀ p, H p = none → Q (.ref p) (upd H p (.tup xs)) := fun p hp =>
  r _ _ _ (Ext.new h hp _) (.tup (.inl (.inl upd_same)) (q.mo (h.new hp)))
theorem Res.lst {K : PySem.W.Frag} {F H : Hp} {ds : List PyData} {xs : List V} {Q : VK} (r : Res K F H (.list ds) Q) (h : FLe F H) (q : RepAll K F ds xs) : ∀ p, H p = none → Q (.ref p) (upd H p (.lst xs)) := fun p hp =>
  r _ _ _ (Ext.new h hp _) (.lst (.inl upd_same) (q.mo (h.new hp)))

/-! ### the slots -/
def SlotOk (K : PySem.W.Frag) (G : Hp) (pa : Addr) (F H : Hp) : Slot → Option (Option V) → Prop
  | .un, _ => True
  | .val d, o => ∃ v, o = some (some v) ∧ Rep K F d v
  | .mu ds, o => ∃ a xs, o = some (some (.ref a)) ∧ F a = none ∧ G a = none ∧ a ≠ pa ∧ H a = some (.lst xs) ∧ RepAll K F ds xs
  | .par ds, o => ∃ xs, o = some (some (.ref pa)) ∧ F pa = none ∧ G pa = none ∧ H pa = some (.lst xs) ∧ RepAll K F ds xs
def isM : Slot → Bool
  | .mu _ => true
  | .par _ => true
  | _ => false
structure Sim (K : PySem.W.Frag) (G : Hp) (pa : Addr) (F H : Hp) (ρ : Env) (σ : L2.St) : Prop where
  fh : FLe F H
  gh : FLe G H
  fg : ∀ a, F a = none ∨ G a = none
  pn : H pa ≠ none
  len : ρ.length = σ.length
  slot : ∀ (i : Nat) (s : Slot), ρ[i]? = some s → SlotOk K G pa F H s σ[i]?
  sep : ∀ (i j : Nat) (s t : Slot) (a : Addr), ρ[i]? = some s → ρ[j]? = some t → isM s = true → isM t = true → σ[i]? = some (some (.ref a)) → σ[j]? = some (some (.ref a)) → i = j
section
variable {K : PySem.W.Frag} {G : Hp} {pa : Addr} {F F' H H' : Hp} {ρ : Env} {σ : L2.St}
theorem Sim.ext (S : Sim K G pa F H ρ σ) (E : Ext F H F' H') : Sim K G pa F' H' ρ σ := by
  have nn : ∀ a o, H a = some o → H a ≠ none := fun a o e z => by rw [e] at z; cases z
  refine ⟨E.fh, S.gh.tr E.hh, fun a => ?_, E.nn S.pn, S.len, fun i s hi => ?_, S.sep⟩
  · cases q : G a with
    | none => exact .inr rfl
    | some o => exact .inl (E.sep a (nn a o (S.gh a o q)) ((S.fg a).resolve_right fun z => by rw [q] at z; cases z))
  · have h := S.slot i s hi
    cases s with
    | un => trivial
    | val d => obtain ⟨v, e, r⟩ := h; exact ⟨v, e, r.mo E.ff⟩
    | mu ds => obtain ⟨a, xs, e, f, g, n, hx, r⟩ := h; exact ⟨a, xs, e, E.sep a (nn a _ hx) f, g, n, E.hh _ _ hx, r.mo E.ff⟩
    | par ds => obtain ⟨xs, e, f, g, hx, r⟩ := h; exact ⟨xs, e, E.sep pa (nn pa _ hx) f, g, E.hh _ _ hx, r.mo E.ff⟩
/-- a new object that nothing of the plain data names -/
theorem Sim.laid (S : Sim K G pa F H ρ σ) {p : Addr} (hp : H p = none) (o : HO) : Sim K G pa F (upd H p o) ρ σ := by
  have ne : ∀ a u, H a = some u → a ≠ p := fun a u e z => by subst z; rw [hp] at e; cases e
  refine ⟨fun a u e => ?_, fun a u e => ?_, S.fg, fun z => S.pn (by rw [upd_ne (fun z2 => by subst z2; rw [upd_same] at z; cases z)] at z; exact z), S.len, fun i s hi => ?_, S.sep⟩
  · rw [upd_ne (ne a u (S.fh a u e))]; exact S.fh a u e
  · rw [upd_ne (ne a u (S.gh a u e))]; exact S.gh a u e
  · have h := S.slot i s hi
    cases s with
    | un => trivial
    | val d => exact h
    | mu ds => obtain ⟨a, xs, e, f, g, n, hx, r⟩ := h; exact ⟨a, xs, e, f, g, n, by rw [upd_ne (ne a _ hx)]; exact hx, r⟩
    | par ds => obtain ⟨xs, e, f, g, hx, r⟩ := h; exact ⟨xs, e, f, g, by rw [upd_ne (ne pa _ hx)]; exact hx, r⟩
theorem get_set {α : Type} {l : List α} {i j : Nat} {x y : α} (h : (l.set i x)[j]? = some y) : (j = i ∧ y = x ∧ i < l.length) ∨ (j ≠ i ∧ l[j]? = some y) := by
  by_cases e : j = i
  · subst e
    have hl : j < l.length := by
      have := (List.getElem?_eq_some_iff.mp h).1
      simpa using this
    rw [List.getElem?_set_self hl] at h
    exact .inl ⟨rfl, (Option.some.inj h).symm, hl⟩
  · rw [List.getElem?_set_ne (Ne.symm e)] at h
    exact .inr ⟨e, h⟩
theorem Sim.put (S : Sim K G pa F H ρ σ) {i : Nat} {d : PyData} {v : V} (r : Rep K F d v) : Sim K G pa F H (ρ.set i (.val d)) (σ.set i (some v)) := by
  refine ⟨S.fh, S.gh, S.fg, S.pn, by rw [List.length_set, List.length_set, S.len], fun j s hj => ?_, fun j k s t a hj hk ms mt e1 e2 => ?_⟩
  · rcases get_set hj with ⟨rfl, rfl, hl⟩ | ⟨ne, hj⟩
    · exact ⟨v, by rw [List.getElem?_set_self (by rw [← S.len]; exact hl)], r⟩
    · rw [List.getElem?_set_ne (Ne.symm ne)]
      exact S.slot j s hj
  · rcases get_set hj with ⟨rfl, rfl, hl⟩ | ⟨ne, hj⟩
    · cases ms
    · rcases get_set hk with ⟨rfl, rfl, hl⟩ | ⟨nk, hk⟩
      · cases mt
      · rw [List.getElem?_set_ne (Ne.symm ne)] at e1
        rw [List.getElem?_set_ne (Ne.symm nk)] at e2
        exact S.sep j k s t a hj hk ms mt e1 e2
theorem Sim.putM (S : Sim K G pa F H ρ σ) {i : Nat} {ds : List PyData} {a : Addr} {xs : List V} (f : F a = none) (g : G a = none) (n : a ≠ pa) (hx : H a = some (.lst xs)) (r : RepAll K F ds xs)
    (nw : ∀ (j : Nat) (s : Slot), ρ[j]? = some s → isM s = true → σ[j]? ≠ some (some (.ref a))) : Sim K G pa F H (ρ.set i (.mu ds)) (σ.set i (some (.ref a))) := by
  refine ⟨S.fh, S.gh, S.fg, S.pn, by rw [List.length_set, List.length_set, S.len], fun j s hj => ?_, fun j k s t b hj hk ms mt e1 e2 => ?_⟩
  · rcases get_set hj with ⟨rfl, rfl, hl⟩ | ⟨ne, hj⟩
    · exact ⟨a, xs, by rw [List.getElem?_set_self (by rw [← S.len]; exact hl)], f, g, n, hx, r⟩
    · rw [List.getElem?_set_ne (Ne.symm ne)]
      exact S.slot j s hj
  · rcases get_set hj with ⟨rfl, rfl, hl⟩ | ⟨ne, hj'⟩
    · rcases get_set hk with ⟨rfl, rfl, hl⟩ | ⟨nk, hk⟩
      · rfl
      · rw [List.getElem?_set_self (by rw [← S.len]; exact hl)] at e1
        rw [List.getElem?_set_ne (Ne.symm nk)] at e2
        cases e1
        exact absurd e2 (nw k t hk mt)
    · rw [List.getElem?_set_ne (Ne.symm ne)] at e1
      rcases get_set hk with ⟨rfl, rfl, hl⟩ | ⟨nk, hk⟩
      · rw [List.getElem?_set_self (by rw [← S.len]; exact hl)] at e2
        cases e2
        exact absurd e1 (nw j s hj' ms)
      · rw [List.getElem?_set_ne (Ne.symm nk)] at e2
        exact S.sep j k s t b hj' hk ms mt e1 e2
/-- an address that no list of this def's has -/
theorem Sim.newM (S : Sim K G pa F H ρ σ) {a : Addr} (ha : H a = none) : ∀ (j : Nat) (s : Slot), ρ[j]? = some s → isM s = true → σ[j]? ≠ some (some (.ref a)) := fun j s hj ms e => by
  have h := S.slot j s hj
  cases s with
  | un => cases ms
  | val d => cases ms
  | mu ds =>
    obtain ⟨b, xs, e', f, g, n, hx, r⟩ := h
    rw [e] at e'
    cases e'
    rw [ha] at hx
    cases hx
  | par ds =>
    obtain ⟨xs, e', f, g, hx, r⟩ := h
    rw [e] at e'
    cases e'
    rw [ha] at hx
    cases hx
/-- a slot forgotten -/
theorem Sim.un (S : Sim K G pa F H ρ σ) {i : Nat} {o : Option V} : Sim K G pa F H (ρ.set i .un) (σ.set i o) := by
  refine ⟨S.fh, S.gh, S.fg, S.pn, by rw [List.length_set, List.length_set, S.len], fun j s hj => ?_, fun j k s t a hj hk ms mt e1 e2 => ?_⟩
  · rcases get_set hj with ⟨rfl, rfl, hl⟩ | ⟨ne, hj⟩
    · trivial
    · rw [List.getElem?_set_ne (Ne.symm ne)]
      exact S.slot j s hj
  · rcases get_set hj with ⟨rfl, rfl, hl⟩ | ⟨ne, hj⟩
    · cases ms
    · rcases get_set hk with ⟨rfl, rfl, hl⟩ | ⟨nk, hk⟩
      · cases mt
      · rw [List.getElem?_set_ne (Ne.symm ne)] at e1
        rw [List.getElem?_set_ne (Ne.symm nk)] at e2
        exact S.sep j k s t a hj hk ms mt e1 e2
/-- a slot's record set without a store -/
theorem Sim.note (S : Sim K G pa F H ρ σ) {i : Nat} {d : PyData} (h : ∃ v, σ[i]? = some (some v) ∧ Rep K F d v) : Sim K G pa F H (ρ.set i (.val d)) σ := by
  refine ⟨S.fh, S.gh, S.fg, S.pn, by rw [List.length_set, S.len], fun j s hj => ?_, fun j k s t a hj hk ms mt e1 e2 => ?_⟩
  · rcases get_set hj with ⟨rfl, rfl, hl⟩ | ⟨ne, hj⟩
    · exact h
    · exact S.slot j s hj
  · rcases get_set hj with ⟨rfl, rfl, hl⟩ | ⟨ne, hj⟩
    · cases ms
    · rcases get_set hk with ⟨rfl, rfl, hl⟩ | ⟨nk, hk⟩
      · cases mt
      · exact S.sep j k s t a hj hk ms mt e1 e2
/-- a list that might change is frozen -/
theorem Sim.freeze (S : Sim K G pa F H ρ σ) {i : Nat} {ds : List PyData} (h : ρ[i]? = some (.mu ds)) : ∃ a xs, σ[i]? = some (some (.ref a)) ∧ FLe F (upd F a (.lst xs)) ∧ RepAll K F ds xs ∧ Sim K G pa (upd F a (.lst xs)) H (ρ.set i (.val (.list ds))) σ := by
  obtain ⟨a, xs, e, f, g, n, hx, r⟩ := S.slot i _ h
  have le : FLe F (upd F a (.lst xs)) := fun b u eb => by
    rw [upd_ne]
    · exact eb
    · intro z; subst z; rw [f] at eb; cases eb
  refine ⟨a, xs, e, le, r, ?_⟩
  refine ⟨fun b u eb => ?_, S.gh, fun b => ?_, S.pn, by rw [List.length_set, S.len], fun j s hj => ?_, fun j k s t b hj hk ms mt e1 e2 => ?_⟩
  · by_cases z : b = a
    · subst z; rw [upd_same] at eb; cases eb; exact hx
    · rw [upd_ne z] at eb; exact S.fh b u eb
  · by_cases z : b = a
    · subst z; exact .inr g
    · rw [upd_ne z]; exact S.fg b
  · rcases get_set hj with ⟨rfl, rfl, hl⟩ | ⟨ne, hj⟩
    · exact ⟨.ref a, e, .lst (.inl upd_same) (r.mo le)⟩
    · have q := S.slot j s hj
      cases s with
      | un => trivial
      | val d => obtain ⟨v, e', r'⟩ := q; exact ⟨v, e', r'.mo le⟩
      | mu es =>
        obtain ⟨b, ys, e', f', g', n', hx', r'⟩ := q
        have nb : b ≠ a := fun z => by
          subst z
          exact ne (S.sep j i _ _ _ hj h rfl rfl e' e)
        exact ⟨b, ys, e', by rw [upd_ne nb]; exact f', g', n', hx', r'.mo le⟩
      | par es =>
        obtain ⟨ys, e', f', g', hx', r'⟩ := q
        exact ⟨ys, e', by rw [upd_ne (Ne.symm n)]; exact f', g', hx', r'.mo le⟩
  · rcases get_set hj with ⟨rfl, rfl, hl⟩ | ⟨ne, hj⟩
    · cases ms
    · rcases get_set hk with ⟨rfl, rfl, hl⟩ | ⟨nk, hk⟩
      · cases mt
      · exact S.sep j k s t b hj hk ms mt e1 e2
/-- the list of a slot that may change -/
theorem Sim.mutL (S : Sim K G pa F H ρ σ) {i : Nat} {ds : List PyData} (h : mutS (getS ρ i) = some ds) : ∃ s a xs, ρ[i]? = some s ∧ mutS s = some ds ∧ isM s = true ∧ σ[i]? = some (some (.ref a)) ∧ F a = none ∧ G a = none ∧ H a = some (.lst xs) ∧ RepAll K F ds xs := by
  have e : ∃ s, ρ[i]? = some s ∧ getS ρ i = s := by
    unfold getS at h ⊢
    rw [List.getD_eq_getElem?_getD] at h ⊢
    cases q : ρ[i]? with
    | none => rw [q] at h; cases h
    | some s => exact ⟨s, rfl, rfl⟩
  obtain ⟨s, e1, e2⟩ := e
  rw [e2] at h
  have q := S.slot i s e1
  cases s with
  | un => cases h
  | val d => cases h
  | mu es =>
    cases h
    obtain ⟨a, xs, e, f, g, n, hx, r⟩ := q
    exact ⟨_, a, xs, e1, rfl, rfl, e, f, g, hx, r⟩
  | par es =>
    cases h
    obtain ⟨xs, e, f, g, hx, r⟩ := q
    exact ⟨_, pa, xs, e1, rfl, rfl, e, f, g, hx, r⟩
/-- .. written -/
theorem Sim.write (S : Sim K G pa F H ρ σ) {i : Nat} {s : Slot} {a : Addr} {xs ys : List V} {es : List PyData} (h : ρ[i]? = some s) (m : isM s = true) (e : σ[i]? = some (some (.ref a))) (r : RepAll K F es ys) :
    Sim K G pa F (upd H a (.lst ys)) (ρ.set i (remut s es)) σ := by
  have q := S.slot i s h
  have fg : F a = none ∧ G a = none := by
    cases s with
    | un => cases m
    | val d => cases m
    | mu ds => obtain ⟨b, _, e', f, g, _⟩ := q; rw [e] at e'; cases e'; exact ⟨f, g⟩
    | par ds => obtain ⟨_, e', f, g, _⟩ := q; rw [e] at e'; cases e'; exact ⟨f, g⟩
  refine ⟨fun b u eb => ?_, fun b u eb => ?_, S.fg, fun z => S.pn (by rw [upd_ne (fun z2 => by subst z2; rw [upd_same] at z; cases z)] at z; exact z), by rw [List.length_set, S.len], fun j t hj => ?_, fun j k t u b hj hk mt mu e1 e2 => ?_⟩
  · rw [upd_ne (fun z => by subst z; rw [fg.1] at eb; cases eb)]; exact S.fh b u eb
  · rw [upd_ne (fun z => by subst z; rw [fg.2] at eb; cases eb)]; exact S.gh b u eb
  · rcases get_set hj with ⟨rfl, rfl, hl⟩ | ⟨ne, hj⟩
    · cases s with
      | un => cases m
      | val d => cases m
      | mu ds =>
        obtain ⟨b, _, e', f, g, n, _⟩ := q
        rw [e] at e'
        cases e'
        exact ⟨a, ys, e, f, g, n, upd_same, r⟩
      | par ds =>
        obtain ⟨_, e', f, g, _⟩ := q
        rw [e] at e'
        cases e'
        exact ⟨ys, e, f, g, upd_same, r⟩
    · have q' := S.slot j t hj
      cases t with
      | un => trivial
      | val d => exact q'
      | mu ds =>
        obtain ⟨b, zs, e', f, g, n, hx, r'⟩ := q'
        have nb : b ≠ a := fun z => by subst z; exact ne (S.sep j i _ _ _ hj h rfl m e' e)
        exact ⟨b, zs, e', f, g, n, by rw [upd_ne nb]; exact hx, r'⟩
      | par ds =>
        obtain ⟨zs, e', f, g, hx, r'⟩ := q'
        have nb : pa ≠ a := fun z => by subst z; exact ne (S.sep j i _ _ _ hj h rfl m e' e)
        exact ⟨zs, e', f, g, by rw [upd_ne nb]; exact hx, r'⟩
  · have im : ∀ s es, isM s = true → isM (remut s es) = true := fun s es h => by cases s <;> first | rfl | cases h
    rcases get_set hj with ⟨rfl, rfl, hl⟩ | ⟨ne, hj'⟩
    · rcases get_set hk with ⟨rfl, rfl, hl⟩ | ⟨nk, hk⟩
      · rfl
      · exact S.sep j k s u b h hk m mu e1 e2
    · rcases get_set hk with ⟨rfl, rfl, hl⟩ | ⟨nk, hk⟩
      · exact S.sep j k t s b hj' h mt m e1 e2
      · exact S.sep j k t u b hj' hk mt mu e1 e2
theorem Sim.neP (S : Sim K G pa F H ρ σ) {p : Addr} (hp : H p = none) : p ≠ pa := fun z => by subst z; exact S.pn hp
/-- a new list that is kept from all that goes on -/
theorem Sim.prot (S : Sim K G pa F H ρ σ) {D : Addr} (hD : H D = none) (u : HO) : Sim K (upd G D u) pa F (upd H D u) ρ σ := by
  have S' := S.laid hD u
  have nF : F D = none := by
    cases q : F D with
    | none => rfl
    | some o => rw [S.fh _ _ q] at hD; cases hD
  refine ⟨S'.fh, fun a o e => ?_, fun a => ?_, S'.pn, S.len, fun i s hi => ?_, S.sep⟩
  · by_cases z : a = D
    · subst z; rw [upd_same] at e ⊢; exact e
    · rw [upd_ne z] at e; exact S'.gh a o e
  · by_cases z : a = D
    · subst z; exact .inl nF
    · rw [upd_ne z]; exact S.fg a
  · have q := S'.slot i s hi
    have q0 := S.slot i s hi
    cases s with
    | un => trivial
    | val d => exact q
    | mu ds =>
      obtain ⟨a, xs, e, f, g, n, hx, r⟩ := q0
      have na : a ≠ D := fun z => by subst z; rw [hD] at hx; cases hx
      exact ⟨a, xs, e, f, by rw [upd_ne na]; exact g, n, by rw [upd_ne na]; exact hx, r⟩
    | par ds =>
      obtain ⟨xs, e, f, g, hx, r⟩ := q0
      have na : pa ≠ D := fun z => by subst z; rw [hD] at hx; cases hx
      exact ⟨xs, e, f, by rw [upd_ne na]; exact g, by rw [upd_ne na]; exact hx, r⟩
theorem Sim.reprot {D : Addr} {u u' : HO} (S : Sim K (upd G D u) pa F H ρ σ) : Sim K (upd G D u') pa F (upd H D u') ρ σ := by
  have nF : F D = none := (S.fg D).resolve_right (by rw [upd_same]; intro z; cases z)
  refine ⟨fun a o e => ?_, fun a o e => ?_, fun a => ?_, fun z => S.pn (by rw [upd_ne (fun z2 => by subst z2; rw [upd_same] at z; cases z)] at z; exact z), S.len, fun i s hi => ?_, S.sep⟩
  · rw [upd_ne (fun z => by subst z; rw [nF] at e; cases e)]; exact S.fh a o e
  · by_cases z : a = D
    · subst z; rw [upd_same] at e ⊢; exact e
    · rw [upd_ne z] at e ⊢; exact S.gh a o (by rw [upd_ne z]; exact e)
  · by_cases z : a = D
    · subst z; exact .inl nF
    · have := S.fg a; rw [upd_ne z] at this ⊢; exact this
  · have q := S.slot i s hi
    cases s with
    | un => trivial
    | val d => exact q
    | mu ds =>
      obtain ⟨a, xs, e, f, g, n, hx, r⟩ := q
      have na : a ≠ D := fun z => by subst z; rw [upd_same] at g; cases g
      exact ⟨a, xs, e, f, by rw [upd_ne na] at g ⊢; exact g, n, by rw [upd_ne na]; exact hx, r⟩
    | par ds =>
      obtain ⟨xs, e, f, g, hx, r⟩ := q
      have na : pa ≠ D := fun z => by subst z; rw [upd_same] at g; cases g
      exact ⟨xs, e, f, by rw [upd_ne na] at g ⊢; exact g, by rw [upd_ne na]; exact hx, r⟩
theorem Sim.unprot {D : Addr} {u : HO} (gD : G D = none) (S : Sim K (upd G D u) pa F H ρ σ) : Sim K G pa F H ρ σ ∧ F D = none ∧ H D = some u ∧ ∀ (j : Nat) (s : Slot), ρ[j]? = some s → isM s = true → σ[j]? ≠ some (some (.ref D)) := by
  have nF : F D = none := (S.fg D).resolve_right (by rw [upd_same]; intro z; cases z)
  have gg : ∀ a o, G a = some o → (upd G D u) a = some o := fun a o e => by rw [upd_ne (fun z => by subst z; rw [gD] at e; cases e)]; exact e
  have gn : ∀ a, (upd G D u) a = none → G a = none ∧ a ≠ D := fun a e => by
    by_cases z : a = D
    · subst z; rw [upd_same] at e; cases e
    · rw [upd_ne z] at e; exact ⟨e, z⟩
  refine ⟨⟨S.fh, fun a o e => S.gh a o (gg a o e), fun a => ?_, S.pn, S.len, fun i s hi => ?_, S.sep⟩, nF, S.gh D u upd_same, fun j s hj ms e => ?_⟩
  · rcases S.fg a with q | q
    · exact .inl q
    · exact .inr (gn a q).1
  · have q := S.slot i s hi
    cases s with
    | un => trivial
    | val d => exact q
    | mu ds =>
      obtain ⟨a, xs, e, f, g, n, hx, r⟩ := q
      exact ⟨a, xs, e, f, (gn a g).1, n, hx, r⟩
    | par ds =>
      obtain ⟨xs, e, f, g, hx, r⟩ := q
      exact ⟨xs, e, f, (gn _ g).1, hx, r⟩
  · have q := S.slot j s hj
    cases s with
    | un => cases ms
    | val d => cases ms
    | mu ds => obtain ⟨a, xs, e', f, g, _⟩ := q; rw [e] at e'; cases e'; exact (gn _ g).2 rfl
    | par ds => obtain ⟨xs, e', f, g, _⟩ := q; rw [e] at e'; cases e'; exact (gn _ g).2 rfl
end
/-- a new list of the def's own, not yet named -/
structure Fresh (K : PySem.W.Frag) (G : Hp) (pa : Addr) (F H : Hp) (ρ : Env) (σ : L2.St) (p : Addr) (xs : List V) : Prop where
  h : H p = some (.lst xs)
  f : F p = none
  g : G p = none
  n : p ≠ pa
  sep : ∀ (j : Nat) (s : Slot), ρ[j]? = some s → isM s = true → σ[j]? ≠ some (some (.ref p))
section
variable {K : PySem.W.Frag} {G : Hp} {pa : Addr} {F F' H H' : Hp} {ρ : Env} {σ : L2.St} {p : Addr} {xs : List V}
/-- .. frozen -/
theorem Fresh.frz (X : Fresh K G pa F H ρ σ p xs) (S : Sim K G pa F H ρ σ) : FLe F (upd F p (.lst xs)) ∧ Sim K G pa (upd F p (.lst xs)) H ρ σ := by
  have le : FLe F (upd F p (.lst xs)) := fun b u eb => by
    rw [upd_ne]
    · exact eb
    · intro z; subst z; rw [X.f] at eb; cases eb
  refine ⟨le, fun b u eb => ?_, S.gh, fun b => ?_, S.pn, S.len, fun j s hj => ?_, S.sep⟩
  · by_cases z : b = p
    · subst z; rw [upd_same] at eb; cases eb; exact X.h
    · rw [upd_ne z] at eb; exact S.fh b u eb
  · by_cases z : b = p
    · subst z; exact .inr X.g
    · rw [upd_ne z]; exact S.fg b
  · have q := S.slot j s hj
    cases s with
    | un => trivial
    | val d => obtain ⟨v, e', r'⟩ := q; exact ⟨v, e', r'.mo le⟩
    | mu es =>
      obtain ⟨b, ys, e', f', g', n', hx', r'⟩ := q
      have nb : b ≠ p := fun z => by subst z; exact X.sep j _ hj rfl e'
      exact ⟨b, ys, e', by rw [upd_ne nb]; exact f', g', n', hx', r'.mo le⟩
    | par es =>
      obtain ⟨ys, e', f', g', hx', r'⟩ := q
      exact ⟨ys, e', by rw [upd_ne (Ne.symm X.n)]; exact f', g', hx', r'.mo le⟩
theorem Sim.fresh (S : Sim K G pa F H ρ σ) (hp : H p = none) : Fresh K G pa F (upd H p (.lst xs)) ρ σ p xs := by
  refine ⟨upd_same, ?_, ?_, S.neP hp, S.newM hp⟩
  · cases q : F p with
    | none => rfl
    | some o => rw [S.fh _ _ q] at hp; cases hp
  · cases q : G p with
    | none => rfl
    | some o => rw [S.gh _ _ q] at hp; cases hp
/-- .. named -/
theorem Fresh.put (X : Fresh K G pa F H ρ σ p xs) (S : Sim K G pa F H ρ σ) {ds : List PyData} (r : RepAll K F ds xs) (i : Nat) : Sim K G pa F H (ρ.set i (.mu ds)) (σ.set i (some (.ref p))) := S.putM X.f X.g X.n X.h r X.sep
/-! ### a comprehension's own names -/
theorem wipeS_len : ∀ (own : List Nat) (ρ : Env), (wipeS own ρ).length = ρ.length
  | [], _ => rfl
  | i :: r, ρ => by rw [wipeS, List.length_set, wipeS_len r ρ]
theorem Sim.wipe (S : Sim K G pa F H ρ σ) : ∀ own : List Nat, Sim K G pa F H (wipeS own ρ) (L2.wipe σ own)
  | [] => S
  | i :: r => (S.wipe r).un
theorem wipeS_get {own : List Nat} {ρ : Env} {j : Nat} (h : j ∉ own) : (wipeS own ρ)[j]? = ρ[j]? := by
  induction own with
  | nil => rfl
  | cons i r ih =>
    have h1 : j ≠ i ∧ j ∉ r := by simpa using h
    rw [wipeS, List.getElem?_set_ne (Ne.symm h1.1)]
    exact ih h1.2
theorem giveS_get {own : List Nat} {ρ0 ρ : Env} {j : Nat} (h : j ∉ own) : (giveS own ρ0 ρ)[j]? = ρ[j]? := by
  induction own with
  | nil => rfl
  | cons i r ih =>
    have h1 : j ≠ i ∧ j ∉ r := by simpa using h
    rw [giveS, List.getElem?_set_ne (Ne.symm h1.1)]
    exact ih h1.2
theorem giveS_len : ∀ (own : List Nat) (ρ0 ρ : Env), (giveS own ρ0 ρ).length = ρ.length
  | [], _, _ => rfl
  | i :: r, ρ0, ρ => by rw [giveS, List.length_set, giveS_len r ρ0 ρ]
theorem giveS_own {own : List Nat} {ρ0 ρ : Env} {j : Nat} (h : j ∈ own) (hl : j < ρ.length) : (giveS own ρ0 ρ)[j]? = some (getS ρ0 j) := by
  induction own with
  | nil => simp at h
  | cons i r ih =>
    rw [giveS]
    by_cases e : j = i
    · subst e
      rw [List.getElem?_set_self (by rw [giveS_len]; exact hl)]
    · rw [List.getElem?_set_ne (Ne.symm e)]
      exact ih (by rcases List.mem_cons.mp h with h | h; exact absurd h e; exact h)
/-- behind a comprehension the def's names are what they were -/
theorem Sim.give {own : List Nat} {ρ0 : Env} {F0 H0 : Hp} (S0 : Sim K G pa F0 H0 ρ0 σ) (l : FLe F0 F) (ok : ownOk own ρ0 = true) (S : Sim K G pa F H (wipeS own ρ) (L2.wipe σ own)) : Sim K G pa F H (giveS own ρ0 ρ) σ := by
  have hl : ρ.length = σ.length := by have := S.len; rw [wipeS_len, wipe_length] at this; exact this
  have nown : ∀ i s, i ∈ own → (giveS own ρ0 ρ)[i]? = some s → isM s = false := fun i s hi h => by
    have h1 : i < ρ.length := by
      have := (List.getElem?_eq_some_iff.mp h).1
      rw [giveS_len] at this; exact this
    rw [giveS_own hi h1] at h
    cases h
    have := List.all_eq_true.mp ok i hi
    cases q : getS ρ0 i with
    | un => rfl
    | val d => rfl
    | mu ds => rw [q] at this; cases this
    | par ds => rw [q] at this; cases this
  have wg : ∀ j, j ∉ own → (L2.wipe σ own)[j]? = σ[j]? := fun j hj => by
    induction own with
    | nil => rfl
    | cons i r ih =>
      have h1 : j ≠ i ∧ j ∉ r := by simpa using hj
      show ((L2.wipe σ r).set i none)[j]? = σ[j]?
      rw [List.getElem?_set_ne (Ne.symm h1.1)]
      clear ih nown S ok hl
      induction r with
      | nil => rfl
      | cons k r ih =>
        have h2 : j ≠ k ∧ j ∉ r := by simpa using h1.2
        show ((L2.wipe σ r).set k none)[j]? = σ[j]?
        rw [List.getElem?_set_ne (Ne.symm h2.1)]
        exact ih (by simp [hj] at hj ⊢; exact ⟨h1.1, h2.2⟩) ⟨h1.1, h2.2⟩
  refine ⟨S.fh, S.gh, S.fg, S.pn, by rw [giveS_len]; exact hl, fun i s hi => ?_, fun i j s t a hi hj ms mt e1 e2 => ?_⟩
  · by_cases ho : i ∈ own
    · have h1 : i < ρ.length := by
        have := (List.getElem?_eq_some_iff.mp hi).1
        rw [giveS_len] at this; exact this
      have m := nown i s ho hi
      rw [giveS_own ho h1] at hi
      cases hi
      have h0 : i < ρ0.length := by rw [S0.len, ← hl]; exact h1
      have e0 : ρ0[i]? = some (getS ρ0 i) := by
        unfold getS
        rw [List.getD_eq_getElem?_getD, List.getElem?_eq_getElem h0]
        rfl
      have q := S0.slot i _ e0
      revert q m
      cases getS ρ0 i with
      | un => intro _ _; trivial
      | val d => intro _ ⟨v, e, r⟩; exact ⟨v, e, r.mo l⟩
      | mu ds => intro m _; cases m
      | par ds => intro m _; cases m
    · rw [giveS_get ho] at hi
      have q := S.slot i s (by rw [wipeS_get ho]; exact hi)
      rw [wg i ho] at q
      exact q
  · have n1 : i ∉ own := fun z => by have := nown i s z hi; rw [ms] at this; cases this
    have n2 : j ∉ own := fun z => by have := nown j t z hj; rw [mt] at this; cases this
    rw [giveS_get n1] at hi
    rw [giveS_get n2] at hj
    exact S.sep i j s t a (by rw [wipeS_get n1]; exact hi) (by rw [wipeS_get n2]; exact hj) ms mt (by rw [wg i n1]; exact e1) (by rw [wg j n2]; exact e2)
end
end HM

namespace HM
open PySem PySem.Spec PyProof.Rows L2

theorem SL_eq : SL = sizeLine := by rw [sizeLine_eq]
section
variable {X : Cx}
theorem lstR {pins : List (Addr × Obj)} {σ : L2.St} {H : Hp} {s : Shared} {l : Addr} {xs : List V} (I : Inv X pins σ H s) (hH : Rd H l (.lst xs)) :
    xs.length ≤ sizeLine ∧ ∃ (its : List Value) (n : Nat), Vals xs its ∧ xs.length = its.length ∧ s.heap.get? l = some { cls := .type "list", data := .seq its.toArray n } := by
  obtain ⟨z, its, n, r, e⟩ := hH.ok I.hok
  exact ⟨z, its, n, r, r.length, e⟩

/-! ### + and * of lists that are only read -/
def wCat : R2 := fun x y H Q => ∃ l b xs zs, x = V.ref l ∧ y = V.ref b ∧ Rd H l (.lst xs) ∧ Rd H b (.lst zs) ∧ xs.length + zs.length ≤ sizeLine ∧ ∀ p, H p = none → Q (V.ref p) (upd H p (.lst (xs ++ zs)))
theorem ow_cat : OpR X (binaryOp .Add) wCat := by
  intro pins s σ H x y v u Q I rx ry h
  obtain ⟨l, b, xs, zs, rfl, rfl, hH, hB, hz, q⟩ := h
  cases rx; cases ry
  obtain ⟨z, its, n, r, hl, e⟩ := lstR I hH
  obtain ⟨z2, its2, n2, r2, hl2, e2⟩ := lstR I hB
  refine PySem.P.add_list e e2 ?_ (by simp only [List.size_toArray]; omega)
  rw [show its.toArray ++ its2.toArray = (its ++ its2).toArray by simp]
  exact ⟨.ref _, _, I.lnew (t' := s.toks) (r.append r2) (by simp only [List.length_append]; omega), rfl, q _ I.fresh⟩
def wRep : R2 := fun x y H Q => ∃ l k xs, x = V.ref l ∧ y = V.int k ∧ Rd H l (.lst xs) ∧ repOk xs.length k ∧ ∀ p, H p = none → Q (V.ref p) (upd H p (.lst (repL xs k)))
theorem ow_rep : OpR X (binaryOp .Mult) wRep := by
  intro pins s σ H x y v u Q I rx ry h
  obtain ⟨l, k, xs, rfl, rfl, hH, ⟨h1, h2, hz⟩, q⟩ := h
  rw [SL_eq] at hz
  cases rx
  obtain ⟨t, rfl⟩ := ry
  obtain ⟨z, its, n, r, hl, e⟩ := lstR I hH
  have len : its.toArray.size * k.toNat ≤ sizeLine := by rw [List.size_toArray, ← hl]; exact hz
  have cap : ¬ its.toArray.size * k.toNat > (2 ^ 63 - 1) / 8 := by
    have : (sizeLine : Nat) ≤ (2 ^ 63 - 1) / 8 := by decide
    omega
  have fit : ¬ (!Builtin.List.listFitsIndex k) = true := by rw [fitsIndex_both h1 h2]; decide
  have long : ¬ Builtin.List.listTooLong (its.toArray.size * k.toNat) = true := by rw [notLongL len]; decide
  have new : List.foldl (fun x1 x2 => x1 ++ x2) #[] (List.replicate (if its.toArray.isEmpty = true then 0 else k.toNat) its.toArray) = (List.replicate k.toNat its).flatten.toArray := by
    rw [size_rep]
    cases its with
    | nil => simp
    | cons a r' => rw [if_neg (by simp)]
  refine wpAny_binaryOp_repeat_ref (T := "list") (U := "int") (by decide) ⟨_, e, rfl⟩ (fun s' => typeIs_int s' k t) noFill_list_mul F.fills_int_mul F.slot_int_rmul repeat_list F.slot_int_index.lookup
    (call_meets F.slot_int_rmul (typeIs_int s k t) F.entry_int_rmul (F.args_int_rmul_2 _ _) (int___rmul___int_list k t l its.toArray n)
      ⟨e, rfl, ⟨_, e, rfl⟩, call_meets F.slot_list_mul ⟨_, e, rfl⟩ F.entry_list_mul (F.args_list_mul_2 _ _) (AutoListH.list___mul___list_int_3 l its.toArray n k t fit cap long) ⟨e, ?_⟩⟩)
  rw [new]
  exact ⟨.ref _, _, I.lnew (t' := s.toks) (r.rep k.toNat) (by rw [PyProof.Rows.lm_len_rep_flat, Nat.mul_comm]; exact hz), rfl, q _ I.fresh⟩

/-! ### tuple * int -/
theorem tup_mul_same (l : Addr) (items : Array Value) (n : Nat) (dd : Option Addr) (sl : Array (Option Value)) (x : Int) (u : Tok) (c0 : (decide (x < -(2 ^ 63)) || decide (x ≥ 2 ^ 63)) = false) (c1 : (items.isEmpty || x == 1) = true) :
    Meets (Builtin.«tuple.__mul__» ⟨[.ref l, .int x u], []⟩) (fun _ R s => s.heap.get? l = some { cls := .type "tuple", dict := dd, data := .seq items n, slots := sl } ∧ R (.ok (.ret (Value.ref l))) s) :=
  .of_wp fun prog w A R s h => by
    obtain ⟨hp, g, d, tk, os⟩ := s
    obtain ⟨hl, h⟩ := h
    have f1 := AutoSeq1.idx_int
    wp_walk using wpAny_loadPart' hl
    repeat (first
      | (refine wpAny_ite_false (decide_eq_false (by rw [c0]; exact Bool.false_ne_true)) ?_; wp_walk using wpAny_loadPart' hl)
      | (refine wpAny_ite_true (decide_eq_true c1) ?_; wp_walk using wpAny_loadPart' hl))
    exact ⟨_, rfl, h⟩
theorem tup_mul_none (l : Addr) (items : Array Value) (n : Nat) (dd : Option Addr) (sl : Array (Option Value)) (x : Int) (u : Tok) (c0 : (decide (x < -(2 ^ 63)) || decide (x ≥ 2 ^ 63)) = false) (c1 : (items.isEmpty || x == 1) = false) (c2 : (decide (x ≤ 0) || items.isEmpty) = true) :
    Meets (Builtin.«tuple.__mul__» ⟨[.ref l, .int x u], []⟩) (fun _ R s => s.heap.get? l = some { cls := .type "tuple", dict := dd, data := .seq items n, slots := sl } ∧
      R (.ok (.ret (Value.ref s.heap.objs.size))) { s with heap := s.heap.push { cls := Value.type "tuple", data := Data.seq #[] }, toks := s.toks }) :=
  .of_wp fun prog w A R s h => by
    obtain ⟨hp, g, d, tk, os⟩ := s
    obtain ⟨hl, h⟩ := h
    have f1 := AutoSeq1.idx_int
    wp_walk using wpAny_loadPart' hl
    repeat (first
      | (refine wpAny_ite_false (decide_eq_false (by rw [c0]; exact Bool.false_ne_true)) ?_; wp_walk using wpAny_loadPart' hl)
      | (refine wpAny_ite_false (decide_eq_false (by rw [c1]; exact Bool.false_ne_true)) ?_; wp_walk using wpAny_loadPart' hl)
      | (refine wpAny_ite_true (decide_eq_true c2) ?_; wp_walk using wpAny_loadPart' hl))
    exact ⟨_, rfl, h⟩
/-- a tuple times an int -/
def wRepT (K : PySem.W.Frag) : R2 := fun x y H Q => ∃ l k xs, x = V.ref l ∧ y = V.int k ∧ SqT K H l xs ∧ repOk xs.length k ∧
  (repL xs k = xs → Q (V.ref l) H) ∧ (∀ p, H p = none → Q (V.ref p) (upd H p (.tup (repL xs k))))
theorem ow_repT : OpR X (binaryOp .Mult) (wRepT X.K) := by
  intro pins s σ H x y v u Q I rx ry h
  obtain ⟨l, k, xs, rfl, rfl, hT, ⟨h1, h2, hz⟩, q0, q⟩ := h
  rw [SL_eq] at hz
  cases rx
  obtain ⟨t, rfl⟩ := ry
  obtain ⟨its, r, ⟨⟨cls, dd, data, sl⟩, ho, hc, n, hd⟩, hs⟩ := I.tuple hT
  simp only at hc hd
  subst hc hd
  have hle : its.length = xs.length := r.length.symm
  have c0 : (decide (k < -(2 ^ 63)) || decide (k ≥ 2 ^ 63)) = false := by
    rw [decide_eq_false (by omega), decide_eq_false (by omega)] <;> rfl
  have go : ∀ {Q' : Value → Shared → Prop}, wpAny (model X.prog X.w) X.A (call (.builtin "tuple.__mul__") [.ref l, .int k t]) Q' X.xe s → wpAny (model X.prog X.w) X.A (binaryOp .Mult (.ref l) (.int k t)) Q' X.xe s := fun m => wpAny_binaryOp_repeat_ref (T := "tuple") (U := "int") (by decide) ⟨_, ho, rfl⟩ (fun s' => typeIs_int s' k t) noFill_tuple_mul F.fills_int_mul F.slot_int_rmul repeat_tuple F.slot_int_index.lookup
    (call_meets F.slot_int_rmul (typeIs_int s k t) F.entry_int_rmul (F.args_int_rmul_2 _ _) (int_rmul_tuple k t l its.toArray n dd sl)
      ⟨ho, rfl, ⟨_, ho, rfl⟩, m⟩)
  by_cases e1 : (its.toArray.isEmpty || k == 1) = true
  · have same : repL xs k = xs := by
      unfold repL
      rw [Bool.or_eq_true] at e1
      rcases e1 with e1 | e1
      · have : xs = [] := by
          cases its with
          | nil => exact List.eq_nil_of_length_eq_zero hle.symm
          | cons a b => cases e1
        subst this
        induction k.toNat with
        | zero => rfl
        | succ m ih => rw [List.replicate_succ, List.flatten_cons, ih]; rfl
      · rw [beq_iff_eq.mp e1]
        show (List.replicate 1 xs).flatten = xs
        simp
    refine go (call_meets F.slot_tuple_mul ⟨_, ho, rfl⟩ F.entry_tuple_mul (F.args_tuple_mul_2 _ _) (tup_mul_same l its.toArray n dd sl k t c0 e1) ⟨ho, ?_⟩)
    exact ⟨.ref l, H, I, rfl, q0 same⟩
  · have e1' : (its.toArray.isEmpty || k == 1) = false := by simpa using e1
    have hz' : its.toArray.size * k.toNat ≤ sizeLine := by rw [List.size_toArray, hle]; exact hz
    by_cases e2 : (decide (k ≤ 0) || its.toArray.isEmpty) = true
    · have none : repL xs k = [] := by
        unfold repL
        rw [Bool.or_eq_true] at e2
        rcases e2 with e2 | e2
        · have := of_decide_eq_true e2
          rw [show k.toNat = 0 by omega]
          rfl
        · rw [e2, Bool.true_or] at e1'; cases e1'
      refine go (call_meets F.slot_tuple_mul ⟨_, ho, rfl⟩ F.entry_tuple_mul (F.args_tuple_mul_2 _ _) (tup_mul_none l its.toArray n dd sl k t c0 e1' e2) ⟨ho, ?_⟩)
      refine ⟨.ref s.heap.objs.size, _, I.laid (t' := s.toks) (o := .tup (repL xs k)) (fun b ob q => Heap.get?_push_of_some _ q) (Nat.le_refl _) ?_, rfl, q _ (I.hok.fresh (Nat.le_refl _))⟩
      rw [none]
      exact ⟨Nat.zero_le _, [], .nil, IsTup.new _ _⟩
    · have e2' : (decide (k ≤ 0) || its.toArray.isEmpty) = false := by simpa using e2
      have hk : 0 < k := by
        rw [Bool.or_eq_false_iff] at e2'
        have := of_decide_eq_false e2'.1
        omega
      have prod : ((its.toArray.size : Nat) : Int) * k = ((its.toArray.size * k.toNat : Nat) : Int) := by
        rw [Int.natCast_mul, Int.toNat_of_nonneg (by omega)]
      have le2 : ((its.toArray.size : Nat) : Int) * k ≤ (sizeLine : Nat) := by rw [prod]; omega
      rw [sizeLine_eq] at le2
      have c4 : Builtin.Tuple.tupleTooMany (((its.toArray.size : Nat) : Int) * k) = false := by
        unfold Builtin.Tuple.tupleTooMany
        rw [sizeLine_eq]
        exact decide_eq_false (by omega)
      have flen : (List.replicate k.toNat its).flatten.length ≤ sizeLine := by
        rw [PyProof.Rows.lm_len_rep_flat, hle, Nat.mul_comm]; exact hz
      refine go (call_meets F.slot_tuple_mul ⟨_, ho, rfl⟩ F.entry_tuple_mul (F.args_tuple_mul_2 _ _) (tuple_mulW l its.toArray n dd sl k t c0 e1' e2' (by omega) c4 (by rw [size_rep, List.size_toArray]; exact flen)) ⟨ho, ?_⟩)
      rw [size_rep]
      refine ⟨.ref s.heap.objs.size, _, I.laid (t' := s.toks) (o := .tup (repL xs k)) (fun b ob q => Heap.get?_push_of_some _ q) (Nat.le_refl _) ?_, rfl, q _ (I.hok.fresh (Nat.le_refl _))⟩
      refine ⟨?_, _, r.rep k.toNat, IsTup.new _ _⟩
      show (List.replicate k.toNat xs).flatten.length ≤ sizeLine
      rw [PyProof.Rows.lm_len_rep_flat, Nat.mul_comm]; exact hz

/-! ### numbers -/
theorem Sm.log {n : Nat} {i : Int} (h : Sm n i) (h0 : 0 < n) : i.natAbs.log2 < n := by
  unfold Sm at h
  rcases Nat.eq_zero_or_pos i.natAbs with z | z
  · rw [z]; exact h0
  · exact (Nat.log2_lt (Nat.ne_of_gt z)).mpr h
theorem Sm.bits {n : Nat} {i : Int} (h : Sm n i) (h0 : 0 < n) : Builtin.Int.intBits i ≤ n := by
  have := h.log h0
  unfold Builtin.Int.intBits
  split <;> omega
theorem mulOk.ok {i j : Int} (h : mulOk i j) : IntMulOk i j := by
  rcases h with h | h | h
  · exact .of_left (h.bits (by decide))
  · exact .of_right (h.bits (by decide))
  · have h1 := h.1.bits (by decide)
    have h2 := h.2.bits (by decide)
    have e : bitsLine = 134217728 := by decide
    unfold IntMulOk
    intro z
    rw [Bool.and_eq_true] at z
    have z2 := z.2
    unfold Builtin.Int.intTooBig at z2
    have z3 := of_decide_eq_true z2
    rw [e] at z3
    have e2 : GB = 60000000 := rfl
    omega
theorem divOk.ok {i j : Int} (h : divOk i j) : Builtin.divisionGoesByPylong i j = false := by
  rcases h.2 with h2 | h2
  · exact PyProof.noPylong_of_log2 (h2.log (by decide))
  · unfold Builtin.divisionGoesByPylong
    have hj : (j == 0) = false := beq_eq_false_iff_ne.mpr h.1
    simp only [hj, Bool.and_eq_false_iff, decide_eq_false_iff_not]
    right
    have hjn : j.natAbs ≠ 0 := by have := h.1; omega
    by_cases hi : i = 0
    · subst hi
      simp
    · have hi2 : (i == 0) = false := beq_eq_false_iff_ne.mpr hi
      simp only [hi2]
      have hin : i.natAbs ≠ 0 := by omega
      have lt : i.natAbs < 2 ^ (j.natAbs.log2 + 1 + 4000) := by
        have : j.natAbs < 2 ^ (j.natAbs.log2 + 1) := Nat.lt_log2_self
        rw [Nat.pow_add]
        exact Nat.lt_of_le_of_lt h2 (Nat.mul_lt_mul_of_pos_right this (Nat.pow_pos (by decide)))
      have := (Nat.log2_lt hin).mpr lt
      show ¬ (i.natAbs.log2 / 30 + 1 > j.natAbs.log2 / 30 + 1 + 150)
      omega
theorem on_mul : OpR X (binaryOp .Mult) (rI mulOk fun i j => .int (i * j)) := opI fun _ _ _ _ _ _ _ hc q => mul_int q hc.ok
theorem on_fdiv : OpR X (binaryOp .FloorDiv) (rI divOk fun i j => .int (i.fdiv j)) := opI fun _ _ _ _ _ _ _ hc q => floordiv_int hc.1 q (.inl hc.ok)
theorem on_pow : OpR X (binaryOp .Pow) (rI powOk fun i j => .int (i ^ j.toNat)) := opI fun i j _ _ _ _ _ hc q => pow_int hc.1 (by
  have h1 := hc.2.2.bits (by decide)
  have h2 := hc.2.1
  have h3 := hc.1
  have a1 : (Builtin.Int.intBits i : Int) * j ≤ 1000 * j := Int.mul_le_mul_of_nonneg_right (by omega) h3
  have : (2 : Int) ^ 27 = 134217728 := by decide
  omega) q
theorem on_shl : OpR X (binaryOp .LShift) (rI shlOk fun i j => .int (i * 2 ^ j.toNat)) := opI fun _ _ _ _ _ _ _ hc q => lshift_int_small hc.1 hc.2.1 hc.2.2 q
def op2 : Op2 → Operator
  | .add => .Add | .sub => .Sub | .mul => .Mult | .mod => .Mod | .fdiv => .FloorDiv | .pow => .Pow | .shl => .LShift | .shr => .RShift | .band => .BitAnd
/-- what is known of two values and an operator's answer -/
def rD (K : PySem.W.Frag) (f : PyData → PyData → Option PyData) : R2 := fun x y H Q => ∃ F d e z, FLe F H ∧ Rep K F d x ∧ Rep K F e y ∧ f d e = some z ∧ Res K F H z Q
theorem repL_len {α : Type} (xs : List α) (k : Int) : (repL xs k).length = xs.length * k.toNat := by
  unfold repL
  rw [PyProof.Rows.lm_len_rep_flat, Nat.mul_comm]
theorem iteS {α : Type} {c : Prop} [Decidable c] {a b : α} (h : (if c then some a else none) = some b) : c ∧ a = b := by
  by_cases z : c
  · rw [if_pos z] at h; exact ⟨z, Option.some.inj h⟩
  · rw [if_neg z] at h; cases h
theorem ob_bin (o : Op2) : OpR X (binaryOp (op2 o)) (rD X.K (bin o)) := by
  intro pins s σ H x y v u Q I rx ry h
  obtain ⟨F, d, e, z, fh, rd, re, hz, q⟩ := h
  cases rd with
  | non => cases o <;> cases e <;> cases hz
  | bl b => cases o <;> cases e <;> cases hz
  | str b => cases o <;> cases e <;> cases hz
  | dic h1 h2 => cases o <;> cases e <;> cases hz
  | int i =>
    cases re with
    | int j =>
      cases o with
      | add => cases hz; exact op_add pins s σ H _ _ v u Q I rx ry ⟨i, j, rfl, rfl, q.now fh (.int _)⟩
      | sub => cases hz; exact op_sub pins s σ H _ _ v u Q I rx ry ⟨i, j, rfl, rfl, q.now fh (.int _)⟩
      | band => cases hz
      | mul =>
        obtain ⟨c, rfl⟩ := iteS hz
        exact on_mul pins s σ H _ _ v u Q I rx ry ⟨i, j, rfl, rfl, c, q.now fh (.int _)⟩
      | mod =>
        obtain ⟨c, rfl⟩ := iteS hz
        exact op_modN pins s σ H _ _ v u Q I rx ry ⟨i, j, rfl, rfl, c, q.now fh (.int _)⟩
      | fdiv =>
        obtain ⟨c, rfl⟩ := iteS hz
        exact on_fdiv pins s σ H _ _ v u Q I rx ry ⟨i, j, rfl, rfl, c, q.now fh (.int _)⟩
      | pow =>
        obtain ⟨c, rfl⟩ := iteS hz
        exact on_pow pins s σ H _ _ v u Q I rx ry ⟨i, j, rfl, rfl, c, q.now fh (.int _)⟩
      | shl =>
        obtain ⟨c, rfl⟩ := iteS hz
        exact on_shl pins s σ H _ _ v u Q I rx ry ⟨i, j, rfl, rfl, c, q.now fh (.int _)⟩
      | shr =>
        obtain ⟨c, rfl⟩ := iteS hz
        exact op_shr pins s σ H _ _ v u Q I rx ry ⟨i, j, rfl, rfl, c, q.now fh (.int _)⟩
    | _ => cases o <;> cases hz
  | @lst a xs ds s1 r1 =>
    cases re with
    | @lst b ys es s2 r2 =>
      cases o with
      | add =>
        · obtain ⟨c, rfl⟩ := iteS hz
          rw [SL_eq, r1.length, r2.length] at c
          exact ow_cat pins s σ H _ _ v u Q I rx ry ⟨a, b, xs, ys, rfl, rfl, Rd.mo fh s1, Rd.mo fh s2, c, q.lst fh (r1.app r2)⟩
      | _ => cases hz
    | int k =>
      cases o with
      | mul =>
        · obtain ⟨c, rfl⟩ := iteS hz
          rw [r1.length] at c
          exact ow_rep pins s σ H _ _ v u Q I rx ry ⟨a, k, xs, rfl, rfl, Rd.mo fh s1, c, q.lst fh (r1.rep _)⟩
      | _ => cases hz
    | _ => cases o <;> cases hz
  | @tup a xs ds s1 r1 =>
    cases re with
    | @tup b ys es s2 r2 =>
      cases o with
      | add =>
        · obtain ⟨c, rfl⟩ := iteS hz
          rw [SL_eq, r1.length, r2.length] at c
          have l1 := r1.length
          have l2 := r2.length
          refine op_catA pins s σ H _ _ v u Q I rx ry ⟨a, b, xs, ys, rfl, rfl, SqT.mo fh s1, SqT.mo fh s2, c, fun e => ?_, fun _ e => ?_, fun _ _ => q.tup fh (r1.app r2)⟩
          · rw [e] at l1
            have e2 : ds = [] := List.eq_nil_of_length_eq_zero l1
            rw [e2] at q
            exact q.now fh (.tup s2 r2)
          · rw [e] at l2
            have e2 : es = [] := List.eq_nil_of_length_eq_zero l2
            rw [e2, List.append_nil] at q
            exact q.now fh (.tup s1 r1)
      | _ => cases hz
    | int k =>
      cases o with
      | mul =>
        · obtain ⟨c, rfl⟩ := iteS hz
          have l1 := r1.length
          have r3 : RepAll X.K F (repL ds k) (repL xs k) := r1.rep _
          rw [l1] at c
          refine ow_repT pins s σ H _ _ v u Q I rx ry ⟨a, k, xs, rfl, rfl, SqT.mo fh s1, c, fun e => ?_, q.tup fh r3⟩
          rw [e] at r3
          exact q.now fh (.tup s1 r3)
      | _ => cases hz
    | _ => cases o <;> cases hz
end
end HM

namespace HM
open PySem PySem.Spec PyProof.Rows L2

/-! ### the same data as the library's -/
section
variable {K : PySem.W.Frag} {F H : Hp}
mutual
theorem Rep.dp (h : FLe F H) : ∀ {d : PyData} {v : V}, Rep K F d v → d.canLay0 = true → Dp K H v d
  | _, _, .non, _ => .non
  | _, _, .bl b, _ => .bl b
  | _, _, .int i, _ => .int i
  | _, _, .str i, _ => .str i
  | _, _, .lst s r, c => .lst (.inl (Rd.mo h s)) (RepAll.dp h r (by simpa [PyData.canLay0] using c))
  | _, _, .tup s r, c => .tup (SqT.mo h s) (RepAll.dp h r (by simpa [PyData.canLay0] using c))
  | _, _, .dic s r, c => by simp [PyData.canLay0] at c
theorem RepAll.dp (h : FLe F H) : ∀ {ds : List PyData} {vs : List V}, RepAll K F ds vs → PyData.canLayAll0 ds = true → DpAll K H vs ds
  | _, _, .nil, _ => .nil
  | _, _, .cons a b, c => by
    rw [PyData.canLayAll0, Bool.and_eq_true] at c
    exact .cons (Rep.dp h a c.1) (RepAll.dp h b c.2)
end
theorem flat_flatV : ∀ {d : PyData} {v : V}, Rep K F d v → flat d = true → flatV v = true
  | _, _, .non, _ => rfl
  | _, _, .bl b, _ => rfl
  | _, _, .int i, _ => rfl
  | _, _, .str i, _ => rfl
  | _, _, .lst s r, c => by cases c
  | _, _, .tup s r, c => by cases c
  | _, _, .dic s r, c => by cases c
theorem eqv_eqV : ∀ {d : PyData} {v : V} {e : PyData} {u : V}, Rep K F d v → flat d = true → Rep K F e u → flat e = true → eqV v u = PyData.eqv d e := by
  intro d v e u rd fd re fe
  cases rd with
  | lst s r => cases fd
  | tup s r => cases fd
  | dic s r => cases fd
  | non =>
    cases re with
    | lst s r => cases fe
    | tup s r => cases fe
    | dic s r => cases fe
    | _ => simp [eqV, PyData.eqv]
  | bl b =>
    cases re with
    | lst s r => cases fe
    | tup s r => cases fe
    | dic s r => cases fe
    | _ => simp [eqV, PyData.eqv, Bool.beq_eq_decide_eq]
  | int b =>
    cases re with
    | lst s r => cases fe
    | tup s r => cases fe
    | dic s r => cases fe
    | _ => simp [eqV, PyData.eqv, Bool.beq_eq_decide_eq]
  | str b =>
    cases re with
    | lst s r => cases fe
    | tup s r => cases fe
    | dic s r => cases fe
    | _ => simp [eqV, PyData.eqv, Bool.beq_eq_decide_eq]
theorem inD_inV {x : PyData} {v : V} (rx : Rep K F x v) (fx : flat x = true) : ∀ {ds : List PyData} {vs : List V}, RepAll K F ds vs → ds.all flat = true → vs.all flatV = true ∧ inV v vs = inD x ds
  | _, _, .nil, _ => ⟨rfl, rfl⟩
  | _, _, .cons a b, h => by
    rw [List.all_cons, Bool.and_eq_true] at h
    obtain ⟨h1, h2⟩ := inD_inV rx fx b h.2
    refine ⟨by rw [List.all_cons, flat_flatV a h.1, h1]; rfl, ?_⟩
    unfold inV inD at h2 ⊢
    rw [List.any_cons, List.any_cons, h2, eqv_eqV a h.1 rx fx]
end

/-! ### comparisons -/
def cm : Cm → CmpOp
  | .eq => .Eq | .ne => .NotEq | .lt => .Lt | .le => .LtE | .gt => .Gt | .ge => .GtE | .is => .Is | .isnot => .IsNot | .isin => .In | .notin => .NotIn
def rCm (K : PySem.W.Frag) (f : PyData → PyData → Option Bool) : R2 := fun x y H Q => ∃ F d e z, FLe F H ∧ Rep K F d x ∧ Rep K F e y ∧ f d e = some z ∧ Q (.bl z) H
section
variable {X : Cx}
theorem isB_same {M : Model} {A : Around} {E : Value → Shared → Prop} {s : Shared} {x : V} {v : Value} {b : Bool} (r : RelV x v) {Q : Bool → Shared → Prop} (h : Q (decide (x = .bl b)) s) : wpAny M A (isSame v (.bool b)) Q E s := by
  unfold isSame
  cases x with
  | non => cases r; exact wpAny_pure h
  | bl c =>
    cases r
    refine wpAny_pure ?_
    have e : (Value.bool c == Value.bool b) = decide (V.bl c = V.bl b) := by
      by_cases z : c = b
      · subst z; simp
      · rw [decide_eq_false (fun q => z (V.bl.inj q))]
        exact beq_eq_false_iff_ne.mpr (fun q => z (by injection q))
    show Q (Value.bool c == Value.bool b) s
    rw [e]
    exact h
  | int i => obtain ⟨t, rfl⟩ := r; exact wpAny_pure h
  | str i => obtain ⟨t, rfl⟩ := r; exact wpAny_pure h
  | byt i => obtain ⟨t, rfl⟩ := r; exact wpAny_pure h
  | flt i => obtain ⟨t, rfl⟩ := r; exact wpAny_pure h
  | ref a => cases r; exact wpAny_pure h
  | ty n => cases r; exact wpAny_pure h
theorem op_isB : OpR X (compareOp .Is) (fun x y H Q => ∃ b, y = .bl b ∧ Q (.bl (decide (x = .bl b))) H) := by
  intro pins s σ H x y v u Q I rx ry h
  obtain ⟨b, rfl, q⟩ := h
  cases ry
  show wpAny _ _ (isSame v (.bool b) >>= fun c => pure (Value.bool c)) _ _ s
  exact wpAny_bind (isB_same rx (wpAny_pure ⟨.bl _, H, I, rfl, q⟩))
theorem op_isnB : OpR X (compareOp .IsNot) (fun x y H Q => ∃ b, y = .bl b ∧ Q (.bl (!decide (x = .bl b))) H) := by
  intro pins s σ H x y v u Q I rx ry h
  obtain ⟨b, rfl, q⟩ := h
  cases ry
  show wpAny _ _ (isSame v (.bool b) >>= fun c => pure (Value.bool (!c))) _ _ s
  exact wpAny_bind (isB_same rx (wpAny_pure ⟨.bl _, H, I, rfl, q⟩))
theorem Rep.isB {K : PySem.W.Frag} {F : Hp} {d : PyData} {v : V} (r : Rep K F d v) (b : Bool) : decide (v = .bl b) = HM.isB b d := by
  cases r with
  | bl c => unfold HM.isB; by_cases z : b = c
            · subst z; simp
            · rw [decide_eq_false (fun q => z (V.bl.inj q).symm)]; simp [z]
  | _ => rfl
theorem Rep.isN {K : PySem.W.Frag} {F : Hp} {d : PyData} {v : V} (r : Rep K F d v) : decide (v = .non) = HM.isNone d := by
  cases r <;> rfl
/-- == with what is empty -/
theorem ow_eq0 (hu : X.A.units < cLine) {pins : List (Addr × Obj)} {s : Shared} {σ : L2.St} {H : Hp} {a b : Addr} {xs : List V} {Q : VK} (I : Inv X pins σ H s) (h1 : SqT X.K H a xs) (h2 : SqT X.K H b []) (q : Q (.bl xs.isEmpty) H) :
    wpAny (model X.prog X.w) X.A (compareOp .Eq (.ref a) (.ref b)) (EP X pins σ Q) X.xe s := by
  obtain ⟨its, r, ht, hz⟩ := I.tuple h1
  obtain ⟨its2, r2, ht2, hz2⟩ := I.tuple h2
  cases r2
  refine SeqAt.eq_tupleAt (e := fun _ => true) (show s.heap.IsTuple a its.toArray from ht) (show s.heap.IsTuple b ([] : List Value).toArray from ht2) hu (fun j _ h => absurd h (by simp)) ⟨.bl xs.isEmpty, H, I, ?_, q⟩
  cases r <;> simp [L2.RelV]
theorem ow_ne0 (hu : X.A.units < cLine) {pins : List (Addr × Obj)} {s : Shared} {σ : L2.St} {H : Hp} {a b : Addr} {xs : List V} {Q : VK} (I : Inv X pins σ H s) (h1 : SqT X.K H a xs) (h2 : SqT X.K H b []) (q : Q (.bl (!xs.isEmpty)) H) :
    wpAny (model X.prog X.w) X.A (compareOp .NotEq (.ref a) (.ref b)) (EP X pins σ Q) X.xe s := by
  obtain ⟨its, r, ht, hz⟩ := I.tuple h1
  obtain ⟨its2, r2, ht2, hz2⟩ := I.tuple h2
  cases r2
  refine SeqAt.RcNeAt.tuples (e := fun _ => true) (show s.heap.IsTuple a its.toArray from ht) (show s.heap.IsTuple b ([] : List Value).toArray from ht2) hu (fun j _ h => absurd h (by simp)) X.prog X.w X.xe _ ⟨.bl (!xs.isEmpty), H, I, ?_, q⟩
  cases r <;> simp [L2.RelV]
theorem ow_eq0L (hu : X.A.units < cLine) {pins : List (Addr × Obj)} {s : Shared} {σ : L2.St} {H : Hp} {a b : Addr} {xs : List V} {Q : VK} (I : Inv X pins σ H s) (h1 : SqL X.K H a xs) (h2 : SqL X.K H b []) (q : Q (.bl xs.isEmpty) H) :
    wpAny (model X.prog X.w) X.A (compareOp .Eq (.ref a) (.ref b)) (EP X pins σ Q) X.xe s := by
  obtain ⟨its, r, ht, hz⟩ := I.list h1
  obtain ⟨its2, r2, ht2, hz2⟩ := I.list h2
  cases r2
  cases r with
  | nil => exact SeqAt.eq_listAt (e := fun _ => true) ht.isList ht2.isList rfl hu (fun j _ h => absurd h (by simp)) ⟨.bl true, H, I, rfl, q⟩
  | cons r1 r2 => exact SeqAt.eq_list_lengthsAt ht.isList ht2.isList (by simp) hu ⟨.bl false, H, I, rfl, q⟩
theorem ow_ne0L (hu : X.A.units < cLine) {pins : List (Addr × Obj)} {s : Shared} {σ : L2.St} {H : Hp} {a b : Addr} {xs : List V} {Q : VK} (I : Inv X pins σ H s) (h1 : SqL X.K H a xs) (h2 : SqL X.K H b []) (q : Q (.bl (!xs.isEmpty)) H) :
    wpAny (model X.prog X.w) X.A (compareOp .NotEq (.ref a) (.ref b)) (EP X pins σ Q) X.xe s := by
  obtain ⟨its, r, ht, hz⟩ := I.list h1
  obtain ⟨its2, r2, ht2, hz2⟩ := I.list h2
  cases r2
  cases r with
  | nil => exact SeqAt.RcNeAt.lists (e := fun _ => true) ht.isList ht2.isList rfl hu (fun j _ h => absurd h (by simp)) X.prog X.w X.xe _ ⟨.bl false, H, I, rfl, q⟩
  | cons r1 r2 => exact SeqAt.RcNeAt.lists_lengths ht.isList ht2.isList (by simp) hu X.prog X.w X.xe _ ⟨.bl true, H, I, rfl, q⟩
theorem shaped_lay {d : PyData} (h : SeqAt.shaped d = true) : d.canLay0 = true := SeqAt.canLay_of_shaped h
theorem ob_eqv (hu : X.A.units + 64 < cLine) {F H : Hp} {d e : PyData} {x y : V} {z : Bool} (fh : FLe F H) (rd : Rep X.K F d x) (re : Rep X.K F e y) (h : (if SeqAt.shaped d && SeqAt.shaped e then some (PyData.eqv d e) else none) = some z) {Q : VK} (q : Q (.bl z) H) : rEqD X.K x y H Q := by
  obtain ⟨c, rfl⟩ := iteS h
  rw [Bool.and_eq_true] at c
  exact ⟨d, e, rd.dp fh (shaped_lay c.1), re.dp fh (shaped_lay c.2), c.1, c.2, q⟩
theorem ob_nev (hu : X.A.units + 64 < cLine) {F H : Hp} {d e : PyData} {x y : V} {z : Bool} (fh : FLe F H) (rd : Rep X.K F d x) (re : Rep X.K F e y) (h : (if SeqAt.shaped d && SeqAt.shaped e then some (!PyData.eqv d e) else none) = some z) {Q : VK} (q : Q (.bl z) H) : rNeD X.K x y H Q := by
  obtain ⟨c, rfl⟩ := iteS h
  rw [Bool.and_eq_true] at c
  exact ⟨d, e, rd.dp fh (shaped_lay c.1), re.dp fh (shaped_lay c.2), c.1, c.2, q⟩
theorem RepAll.emp {K : PySem.W.Frag} {F : Hp} {ds : List PyData} {xs : List V} (r : RepAll K F ds xs) : ds.isEmpty = xs.isEmpty := by
  cases r <;> rfl
/-- what == says -/
theorem eqD_cases {d e : PyData} {z : Bool} (h : cmpD .eq d e = some z) : (∃ xs, d = .tuple xs ∧ e = .tuple [] ∧ z = xs.isEmpty) ∨ (∃ xs, d = .list xs ∧ e = .list [] ∧ z = xs.isEmpty) ∨ (if SeqAt.shaped d && SeqAt.shaped e then some (PyData.eqv d e) else none) = some z := by
  by_cases h1 : ∃ xs, d = .tuple xs ∧ e = .tuple []
  · obtain ⟨xs, rfl, rfl⟩ := h1; exact .inl ⟨xs, rfl, rfl, (Option.some.inj h).symm⟩
  · by_cases h2 : ∃ xs, d = .list xs ∧ e = .list []
    · obtain ⟨xs, rfl, rfl⟩ := h2; exact .inr (.inl ⟨xs, rfl, rfl, (Option.some.inj h).symm⟩)
    · refine .inr (.inr ?_)
      rw [← h, cmpD]
      · intro xs a b; exact h1 ⟨xs, a, b⟩
      · intro xs a b; exact h2 ⟨xs, a, b⟩
theorem neD_cases {d e : PyData} {z : Bool} (h : cmpD .ne d e = some z) : (∃ xs, d = .tuple xs ∧ e = .tuple [] ∧ z = !xs.isEmpty) ∨ (∃ xs, d = .list xs ∧ e = .list [] ∧ z = !xs.isEmpty) ∨ (if SeqAt.shaped d && SeqAt.shaped e then some (!PyData.eqv d e) else none) = some z := by
  by_cases h1 : ∃ xs, d = .tuple xs ∧ e = .tuple []
  · obtain ⟨xs, rfl, rfl⟩ := h1; exact .inl ⟨xs, rfl, rfl, (Option.some.inj h).symm⟩
  · by_cases h2 : ∃ xs, d = .list xs ∧ e = .list []
    · obtain ⟨xs, rfl, rfl⟩ := h2; exact .inr (.inl ⟨xs, rfl, rfl, (Option.some.inj h).symm⟩)
    · refine .inr (.inr ?_)
      rw [← h, cmpD]
      · intro xs a b; exact h1 ⟨xs, a, b⟩
      · intro xs a b; exact h2 ⟨xs, a, b⟩
theorem ob_cmp (hu : X.A.units + 70 < cLine) (o : Cm) : OpR X (compareOp (cm o)) (rCm X.K (cmpD o)) := by
  intro pins s σ H x y v u Q I rx ry h
  obtain ⟨F, d, e, z, fh, rd, re, hz, q⟩ := h
  have intsX : ∀ (op : CmpOp) (p : Int → Int → Bool), OpR X (compareOp op) (rI0 fun i j => .bl (p i j)) → (∃ i j, d = .int i ∧ e = .int j ∧ z = p i j) → wpAny (model X.prog X.w) X.A (compareOp op v u) (EP X pins σ Q) X.xe s := fun op p hop hij => by
    obtain ⟨i, j, rfl, rfl, rfl⟩ := hij
    cases rd; cases re
    exact hop pins s σ H _ _ v u Q I rx ry ⟨i, j, rfl, rfl, q⟩
  have ij : ∀ (c : Cm) (p : Int → Int → Bool), (∀ d e, cmpD c d e = match d, e with | .int i, .int j => some (p i j) | _, _ => none) → cmpD c d e = some z → ∃ i j, d = .int i ∧ e = .int j ∧ z = p i j := fun c p hc hz => by
    rw [hc] at hz
    split at hz
    · cases hz; exact ⟨_, _, rfl, rfl, rfl⟩
    · cases hz
  cases o with
  | lt => exact intsX .Lt (fun i j => decide (i < j)) op_lt (ij .lt _ (fun d e => by cases d <;> cases e <;> rfl) hz)
  | le => exact intsX .LtE (fun i j => decide (i ≤ j)) op_le (ij .le _ (fun d e => by cases d <;> cases e <;> rfl) hz)
  | gt => exact intsX .Gt (fun i j => decide (j < i)) op_gt (ij .gt _ (fun d e => by cases d <;> cases e <;> rfl) hz)
  | ge => exact intsX .GtE (fun i j => decide (j ≤ i)) op_ge (ij .ge _ (fun d e => by cases d <;> cases e <;> rfl) hz)
  | is =>
    cases re with
    | non => cases hz; exact op_isN pins s σ H _ _ v u Q I rx ry ⟨rfl, by rw [rd.isN]; exact q⟩
    | bl b => cases hz; exact op_isB pins s σ H _ _ v u Q I rx ry ⟨b, rfl, by rw [rd.isB]; exact q⟩
    | _ => cases hz
  | isnot =>
    cases re with
    | non => cases hz; exact op_notN pins s σ H _ _ v u Q I rx ry ⟨rfl, by rw [rd.isN]; exact q⟩
    | bl b => cases hz; exact op_isnB pins s σ H _ _ v u Q I rx ry ⟨b, rfl, by rw [rd.isB]; exact q⟩
    | _ => cases hz
  | isin =>
    cases re with
    | lst s1 r1 =>
      obtain ⟨c, rfl⟩ := iteS (show (if flat d && _ then some _ else none) = some z from hz)
      rw [Bool.and_eq_true] at c
      obtain ⟨a1, a2⟩ := inD_inV rd c.1 r1 c.2
      exact op_in_seq pins s σ H _ _ v u Q I rx ry ⟨_, _, rfl, .inl (.inl (Rd.mo fh s1)), flat_flatV rd c.1, a1, by rw [a2]; exact q⟩
    | tup s1 r1 =>
      obtain ⟨c, rfl⟩ := iteS (show (if flat d && _ then some _ else none) = some z from hz)
      rw [Bool.and_eq_true] at c
      obtain ⟨a1, a2⟩ := inD_inV rd c.1 r1 c.2
      exact op_in_seq pins s σ H _ _ v u Q I rx ry ⟨_, _, rfl, .inr (SqT.mo fh s1), flat_flatV rd c.1, a1, by rw [a2]; exact q⟩
    | _ => cases hz
  | notin =>
    cases re with
    | lst s1 r1 =>
      obtain ⟨c, rfl⟩ := iteS (show (if flat d && _ then some _ else none) = some z from hz)
      rw [Bool.and_eq_true] at c
      obtain ⟨a1, a2⟩ := inD_inV rd c.1 r1 c.2
      exact op_notIn_seq pins s σ H _ _ v u Q I rx ry ⟨_, _, rfl, .inl (.inl (Rd.mo fh s1)), flat_flatV rd c.1, a1, by rw [a2]; exact q⟩
    | tup s1 r1 =>
      obtain ⟨c, rfl⟩ := iteS (show (if flat d && _ then some _ else none) = some z from hz)
      rw [Bool.and_eq_true] at c
      obtain ⟨a1, a2⟩ := inD_inV rd c.1 r1 c.2
      exact op_notIn_seq pins s σ H _ _ v u Q I rx ry ⟨_, _, rfl, .inr (SqT.mo fh s1), flat_flatV rd c.1, a1, by rw [a2]; exact q⟩
    | _ => cases hz
  | eq =>
    rcases eqD_cases hz with ⟨ds, rfl, rfl, rfl⟩ | ⟨ds, rfl, rfl, rfl⟩ | hs
    · cases rd with
      | tup s1 r1 =>
        cases re with
        | tup s2 r2 =>
          cases r2; cases rx; cases ry
          exact ow_eq0 (by omega) I (SqT.mo fh s1) (SqT.mo fh s2) (by rw [← r1.emp]; exact q)
    · cases rd with
      | lst s1 r1 =>
        cases re with
        | lst s2 r2 =>
          cases r2; cases rx; cases ry
          exact ow_eq0L (by omega) I (.inl (Rd.mo fh s1)) (.inl (Rd.mo fh s2)) (by rw [← r1.emp]; exact q)
    · exact op_eqD (by omega) pins s σ H _ _ v u Q I rx ry (ob_eqv (by omega) fh rd re hs q)
  | ne =>
    rcases neD_cases hz with ⟨ds, rfl, rfl, rfl⟩ | ⟨ds, rfl, rfl, rfl⟩ | hs
    · cases rd with
      | tup s1 r1 =>
        cases re with
        | tup s2 r2 =>
          cases r2; cases rx; cases ry
          exact ow_ne0 (by omega) I (SqT.mo fh s1) (SqT.mo fh s2) (by rw [← r1.emp]; exact q)
    · cases rd with
      | lst s1 r1 =>
        cases re with
        | lst s2 r2 =>
          cases r2; cases rx; cases ry
          exact ow_ne0L (by omega) I (.inl (Rd.mo fh s1)) (.inl (Rd.mo fh s2)) (by rw [← r1.emp]; exact q)
    · exact op_neD (by omega) pins s σ H _ _ v u Q I rx ry (ob_nev (by omega) fh rd re hs q)
end
end HM

namespace HM
open PySem PySem.Spec PyProof.Rows L2

/-! ### places -/
section
variable {K : PySem.W.Frag} {F : Hp}
theorem ixAt_rep {ds : List PyData} {xs : List V} {i : Int} {d : PyData} (r : RepAll K F ds xs) (h : ixAt ds i = some d) : ∃ v, atI xs i = some v ∧ Rep K F d v := by
  have l := r.length
  unfold ixAt at h
  unfold atI ixN
  by_cases h0 : 0 ≤ i
  · rw [if_pos h0] at h ⊢
    obtain ⟨v, e, q⟩ := r.get h
    have hl : i.toNat < xs.length := (List.getElem?_eq_some_iff.mp e).1
    rw [if_pos (by omega)]
    exact ⟨v, e, q⟩
  · rw [if_neg h0] at h ⊢
    by_cases h1 : 0 ≤ (ds.length : Int) + i
    · rw [if_pos h1] at h
      obtain ⟨v, e, q⟩ := r.get h
      rw [if_pos (by omega)]
      refine ⟨v, ?_, q⟩
      show xs[(i + (xs.length : Int)).toNat]? = some v
      rw [show (i + (xs.length : Int)).toNat = ((ds.length : Int) + i).toNat by omega]
      exact e
    · rw [if_neg h1] at h; cases h
theorem setAt_rep {ds ds' : List PyData} {xs : List V} {i : Int} {d : PyData} {v : V} (r : RepAll K F ds xs) (q : Rep K F d v) (h : setAt ds i d = some ds') : ∃ j, ixN xs.length i = some j ∧ RepAll K F ds' (xs.set j v) := by
  have l := r.length
  unfold setAt at h
  unfold ixN
  by_cases h0 : 0 ≤ i
  · rw [if_pos h0] at h ⊢
    obtain ⟨c, rfl⟩ := iteS h
    rw [if_pos (by omega)]
    exact ⟨_, rfl, r.set q _⟩
  · rw [if_neg h0] at h ⊢
    obtain ⟨c, rfl⟩ := iteS h
    rw [if_pos (by omega)]
    refine ⟨_, rfl, ?_⟩
    rw [show (i + (xs.length : Int)).toNat = ((ds.length : Int) + i).toNat by omega]
    exact r.set q _
theorem sIx_eq (n dflt : Nat) (i : Int) : HT.sIx n dflt (some i) = sIx n i := by
  show (if i < 0 then (i + (n : Int)).toNat else min i.toNat n) = if 0 ≤ i then Nat.min i.toNat n else ((n : Int) + i).toNat
  by_cases h : i < 0
  · rw [if_pos h, if_neg (by omega), Int.add_comm]
  · rw [if_neg h, if_pos (by omega)]
/-- a slice's part -/
def partD : PyData → Option (Option Int)
  | .none => some none
  | .int i => some (some i)
  | _ => none
theorem slEnd_eq {n dflt : Nat} {a : PyData} {lo : Nat} (h : slEnd n dflt a = some lo) : ∃ o, partD a = some o ∧ HT.sIx n dflt o = lo := by
  cases a with
  | none => cases h; exact ⟨none, rfl, rfl⟩
  | int i => cases h; exact ⟨some i, rfl, sIx_eq _ _ _⟩
  | _ => cases h
theorem cut_rep {ds : List PyData} {xs : List V} {lo hi : Option Int} (r : RepAll K F ds xs) : RepAll K F (cut ds (HT.sIx ds.length 0 lo) (HT.sIx ds.length ds.length hi)) (cutV xs lo hi) := by
  unfold cut cutV
  rw [r.length]
  exact (r.drop _).take _
end
section
variable {X : Cx}
theorem ob_ix : IxR X (rD X.K ixD) := by
  intro value slice pins s σ H x y v u Q I rx ry h hs
  obtain ⟨F, d, e, z, fh, rd, re, hz, q⟩ := h
  cases rd with
  | lst s1 r1 =>
    cases re with
    | int i =>
      obtain ⟨w, e1, q1⟩ := ixAt_rep r1 (show ixAt _ i = some z from hz)
      exact ix_list (value := value) (slice := slice) pins s σ H _ _ v u Q I rx ry ⟨_, _, i, w, rfl, rfl, .inl (Rd.mo fh s1), e1, q.now fh q1⟩ hs
    | _ => cases hz
  | tup s1 r1 =>
    cases re with
    | int i =>
      obtain ⟨w, e1, q1⟩ := ixAt_rep r1 (show ixAt _ i = some z from hz)
      exact ix_tup (value := value) (slice := slice) pins s σ H _ _ v u Q I rx ry ⟨_, _, i, w, rfl, rfl, SqT.mo fh s1, e1, q.now fh q1⟩ hs
    | _ => cases hz
  | _ => cases re <;> cases hz
/-- a slice by its parts -/
def rSlD (K : PySem.W.Frag) : V → Option Int → Option Int → Hp → VK → Prop := fun x lo hi H Q => ∃ F d a b z, FLe F H ∧ Rep K F d x ∧ partD a = some lo ∧ partD b = some hi ∧ slD d a b = some z ∧ Res K F H z Q
theorem ob_sl : SlR X (rSlD X.K) := by
  intro pins s σ H x v vl vu lo hi sl Q I rx hs pl pu h
  obtain ⟨F, d, a, b, z, fh, rd, ha, hb, hz, q⟩ := h
  have ends : ∀ n, ∃ l u, slEnd n 0 a = some l ∧ slEnd n n b = some u ∧ HT.sIx n 0 lo = l ∧ HT.sIx n n hi = u := fun n => by
    cases a with
    | none => cases ha; cases b with
              | none => cases hb; exact ⟨_, _, rfl, rfl, rfl, rfl⟩
              | int j => cases hb; exact ⟨_, _, rfl, rfl, rfl, sIx_eq _ _ _⟩
              | _ => cases hb
    | int i => cases ha; cases b with
               | none => cases hb; exact ⟨_, _, rfl, rfl, sIx_eq _ _ _, rfl⟩
               | int j => cases hb; exact ⟨_, _, rfl, rfl, sIx_eq _ _ _, sIx_eq _ _ _⟩
               | _ => cases hb
    | _ => cases ha
  cases rd with
  | @lst p xs ds s1 r1 =>
    obtain ⟨l, u, e1, e2, e3, e4⟩ := ends ds.length
    have hz' : slD (.list ds) a b = some (.list (cut ds l u)) := by rw [slD, e1, e2]; rfl
    rw [hz'] at hz
    cases hz
    have r2 : RepAll X.K F (cut ds l u) (cutV xs lo hi) := by have := cut_rep (lo := lo) (hi := hi) r1; rw [e3, e4] at this; exact this
    exact sl_list pins s σ H _ v vl vu lo hi sl Q I rx hs pl pu ⟨p, xs, rfl, .inl (Rd.mo fh s1), q.lst fh r2⟩
  | @tup p xs ds s1 r1 =>
    obtain ⟨l, u, e1, e2, e3, e4⟩ := ends ds.length
    have hz' : slD (.tuple ds) a b = some (.tuple (cut ds l u)) := by rw [slD, e1, e2]; rfl
    rw [hz'] at hz
    cases hz
    have r2 : RepAll X.K F (cut ds l u) (cutV xs lo hi) := by have := cut_rep (lo := lo) (hi := hi) r1; rw [e3, e4] at this; exact this
    refine sl_tupA pins s σ H _ v vl vu lo hi sl Q I rx hs pl pu ⟨p, xs, rfl, SqT.mo fh s1, fun w => ?_, fun _ => q.tup fh r2⟩
    rw [← r1.length, e3, e4] at w
    have e5 : cut ds l u = ds := by
      unfold cut
      rw [w.1, w.2, List.drop_zero, Nat.sub_zero, List.take_length]
    rw [e5] at q
    exact q.now fh (.tup s1 r1)
  | _ => cases hz

/-! ### isinstance -/
def tyN : Ty → String
  | .int => "int" | .bool => "bool" | .tuple => "tuple" | .list => "list" | .str => "str" | .dict => "dict"
def tyD : PyData → String
  | .none => "NoneType" | .bool _ => "bool" | .int _ => "int" | .str _ => "str" | .list _ => "list" | .tuple _ => "tuple" | .dict _ => "dict"
theorem kit_tys (d : PyData) (t : Ty) : kitB (tyD d) (tyN t) = some (isTy t d) := by
  cases d <;> cases t <;> (dsimp only [tyD, tyN, isTy]; decide +kernel)
theorem Rep.ty {F H : Hp} (fh : FLe F H) {d : PyData} {v : V} (r : Rep X.K F d v) : TyX X.K H v (.type (tyD d)) := by
  cases r with
  | non => exact .base .non
  | bl b => exact .base (.bl b)
  | int i => exact .base (.int i)
  | str i => exact .base (.str i)
  | lst s r =>
    rcases Rd.mo fh s with s | ⟨o, s⟩
    · exact .base (.lst s)
    · exact .base (.frz s)
  | tup s r =>
    rcases SqT.mo fh s with (s | ⟨o, s⟩) | ⟨o, its, n, h1, h2, _⟩
    · exact .base (.tup s)
    · exact .fTuple s
    · exact .kTuple h1 h2
  | dic s r => exact .base (.dK (fh _ _ s))
theorem ob_isi (t : Ty) : CallR X (.builtin "isinstance") (fun vs H Q => ∃ F d x, vs = [x, .ty (tyN t)] ∧ FLe F H ∧ Rep X.K F d x ∧ Q (.bl (isTy t d)) H) := by
  intro pins s σ H xs us Q I r h
  obtain ⟨F, d, x, rfl, fh, rd, q⟩ := h
  exact call_isi pins s σ H _ us Q I r ⟨x, .ty (tyN t), .type (tyD d), .type (tyN t), isTy t d, rfl, .ty (tyN t), rd.ty fh, kit_ty (kit_tys d t), q⟩

/-! ### built-ins -/
theorem leastI_le : ∀ (r : List Int) (m : Int), leastI m r ≤ m ∧ (leastI m r = m ∨ leastI m r ∈ r) ∧ ∀ y ∈ r, leastI m r ≤ y
  | [], m => ⟨Int.le_refl _, .inl rfl, fun _ h => nomatch h⟩
  | x :: r, m => by
    obtain ⟨h1, h2, h3⟩ := leastI_le r (if x < m then x else m)
    show leastI (if x < m then x else m) r ≤ m ∧ (leastI (if x < m then x else m) r = m ∨ leastI (if x < m then x else m) r ∈ x :: r) ∧ ∀ y ∈ x :: r, leastI (if x < m then x else m) r ≤ y
    by_cases c : x < m
    · rw [if_pos c] at h1 h2 h3 ⊢
      refine ⟨by omega, .inr ?_, fun y hy => ?_⟩
      · rcases h2 with e | e
        · rw [e]; exact List.mem_cons_self
        · exact List.mem_cons_of_mem _ e
      · rcases List.mem_cons.mp hy with e | e
        · rw [e]; exact h1
        · exact h3 y e
    · rw [if_neg c] at h1 h2 h3 ⊢
      refine ⟨h1, ?_, fun y hy => ?_⟩
      · rcases h2 with e | e
        · exact .inl e
        · exact .inr (List.mem_cons_of_mem _ e)
      · rcases List.mem_cons.mp hy with e | e
        · omega
        · exact h3 y e
theorem mostI_ge : ∀ (r : List Int) (m : Int), m ≤ mostI m r ∧ (mostI m r = m ∨ mostI m r ∈ r) ∧ ∀ y ∈ r, y ≤ mostI m r
  | [], m => ⟨Int.le_refl _, .inl rfl, fun _ h => nomatch h⟩
  | x :: r, m => by
    obtain ⟨h1, h2, h3⟩ := mostI_ge r (if m < x then x else m)
    show m ≤ mostI (if m < x then x else m) r ∧ (mostI (if m < x then x else m) r = m ∨ mostI (if m < x then x else m) r ∈ x :: r) ∧ ∀ y ∈ x :: r, y ≤ mostI (if m < x then x else m) r
    by_cases c : m < x
    · rw [if_pos c] at h1 h2 h3 ⊢
      refine ⟨by omega, .inr ?_, fun y hy => ?_⟩
      · rcases h2 with e | e
        · rw [e]; exact List.mem_cons_self
        · exact List.mem_cons_of_mem _ e
      · rcases List.mem_cons.mp hy with e | e
        · rw [e]; exact h1
        · exact h3 y e
    · rw [if_neg c] at h1 h2 h3 ⊢
      refine ⟨h1, ?_, fun y hy => ?_⟩
      · rcases h2 with e | e
        · exact .inl e
        · exact .inr (List.mem_cons_of_mem _ e)
      · rcases List.mem_cons.mp hy with e | e
        · omega
        · exact h3 y e
theorem insI_perm (x : Int) : ∀ r : List Int, (insI x r).Perm (x :: r)
  | [] => .refl _
  | y :: r => by
    unfold insI
    split
    · exact .refl _
    · exact ((insI_perm x r).cons y).trans (.swap x y r)
theorem insI_sorted (x : Int) : ∀ {r : List Int}, r.Pairwise (· ≤ ·) → (insI x r).Pairwise (· ≤ ·)
  | [], _ => by simp [insI]
  | y :: r, h => by
    unfold insI
    split
    · rename_i c
      refine List.pairwise_cons.mpr ⟨fun z hz => ?_, h⟩
      rcases List.mem_cons.mp hz with e | e
      · omega
      · exact Int.le_trans c ((List.pairwise_cons.mp h).1 z e)
    · rename_i c
      refine List.pairwise_cons.mpr ⟨fun z hz => ?_, insI_sorted x (List.pairwise_cons.mp h).2⟩
      rcases List.mem_cons.mp ((insI_perm x r).mem_iff.mp hz) with e | e
      · omega
      · exact (List.pairwise_cons.mp h).1 z e
theorem sortI_perm : ∀ r : List Int, (sortI r).Perm r
  | [] => .refl _
  | x :: r => (insI_perm x (sortI r)).trans ((sortI_perm r).cons x)
theorem sortI_sorted : ∀ r : List Int, (sortI r).Pairwise (· ≤ ·)
  | [] => .nil
  | x :: r => insI_sorted x (sortI_sorted r)
theorem sorted_one : ∀ {a b : List Int}, a.Perm b → a.Pairwise (· ≤ ·) → b.Pairwise (· ≤ ·) → a = b
  | [], b, p, _, _ => (List.nil_perm.mp p).symm
  | x :: a, [], p, _, _ => absurd p.length_eq (by simp)
  | x :: a, y :: b, p, h, k => by
    have e : x = y := by
      have h1 : x ∈ y :: b := p.mem_iff.mp List.mem_cons_self
      have h2 : y ∈ x :: a := p.mem_iff.mpr List.mem_cons_self
      rcases List.mem_cons.mp h1 with e | e
      · exact e
      · rcases List.mem_cons.mp h2 with e2 | e2
        · exact e2.symm
        · have a1 := (List.pairwise_cons.mp k).1 x e
          have a2 := (List.pairwise_cons.mp h).1 y e2
          omega
    subst e
    rw [sorted_one (List.Perm.cons_inv p) (List.pairwise_cons.mp h).2 (List.pairwise_cons.mp k).2]
def biV : Bi → Value
  | .len => .builtin "len" | .abs => .builtin "abs" | .tuple => .type "tuple" | .list => .type "list" | .sum => .builtin "sum" | .all => .builtin "all" | .any => .builtin "any"
  | .min => .builtin "min" | .max => .builtin "max" | .min2 => .builtin "min" | .max2 => .builtin "max" | .int => .type "int" | .sorted => .builtin "sorted"
def rBi (K : PySem.W.Frag) (f : List PyData → Option PyData) : List V → Hp → VK → Prop := fun vs H Q => ∃ F ds z, FLe F H ∧ RepAll K F ds vs ∧ f ds = some z ∧ Res K F H z Q
theorem ob_bi (hc : X.calm = true) (f : Bi) : CallR X (biV f) (rBi X.K (biD f)) := by
  intro pins s σ H vs us Q I r h
  obtain ⟨F, ds, z, fh, rs, hz, q⟩ := h
  cases rs with
  | nil => cases f <;> cases hz
  | @cons d v ds vs a t =>
    cases t with
    | nil =>
      cases f with
      | len =>
        cases a with
        | lst s1 r1 => cases hz; exact call_len_seq pins s σ H _ us Q I r ⟨_, _, rfl, .inl (.inl (Rd.mo fh s1)), by rw [← r1.length]; exact q.now fh (.int _)⟩
        | tup s1 r1 => cases hz; exact call_len_seq pins s σ H _ us Q I r ⟨_, _, rfl, .inr (SqT.mo fh s1), by rw [← r1.length]; exact q.now fh (.int _)⟩
        | _ => cases hz
      | abs =>
        cases a with
        | int i => cases hz; exact call_abs pins s σ H _ us Q I r ⟨i, rfl, q.now fh (.int _)⟩
        | _ => cases hz
      | tuple =>
        cases a with
        | lst s1 r1 => cases hz; exact call_tuple_of pins s σ H _ us Q I r ⟨_, _, rfl, .inl ⟨.inl (Rd.mo fh s1), q.tup fh r1⟩⟩
        | tup s1 r1 => cases hz; exact call_tuple_of pins s σ H _ us Q I r ⟨_, _, rfl, .inr ⟨SqT.mo fh s1, q.now fh (.tup s1 r1)⟩⟩
        | _ => cases hz
      | list =>
        cases a with
        | lst s1 r1 => cases hz; exact call_list_of pins s σ H _ us Q I r ⟨_, _, rfl, .inl (.inl (Rd.mo fh s1)), q.lst fh r1⟩
        | tup s1 r1 => cases hz; exact call_list_of pins s σ H _ us Q I r ⟨_, _, rfl, .inr (SqT.mo fh s1), q.lst fh r1⟩
        | _ => cases hz
      | sum =>
        cases a with
        | @lst p xs es s1 r1 =>
          cases e : intsD es with
          | none => rw [biD, e] at hz; cases hz
          | some ns => rw [biD, e] at hz; cases hz; exact cr_sum hc pins s σ H _ us Q I r ⟨_, ns, rfl, .inl (by rw [← r1.ints e]; exact Rd.mo fh s1), q.now fh (.int _)⟩
        | _ => cases hz
      | all =>
        cases a with
        | @lst p xs es s1 r1 =>
          cases e : boolsD es with
          | none => rw [biD, e] at hz; cases hz
          | some ns => rw [biD, e] at hz; cases hz; exact cr_all hc pins s σ H _ us Q I r ⟨_, ns, rfl, .inl (by rw [← r1.bools e]; exact Rd.mo fh s1), q.now fh (.bl _)⟩
        | _ => cases hz
      | any =>
        cases a with
        | @lst p xs es s1 r1 =>
          cases e : boolsD es with
          | none => rw [biD, e] at hz; cases hz
          | some ns => rw [biD, e] at hz; cases hz; exact cr_any hc pins s σ H _ us Q I r ⟨_, ns, rfl, .inl (by rw [← r1.bools e]; exact Rd.mo fh s1), q.now fh (.bl _)⟩
        | _ => cases hz
      | min =>
        cases a with
        | @lst p xs es s1 r1 =>
          cases e : intsD es with
          | none => rw [biD, e] at hz; cases hz
          | some ns =>
            cases ns with
            | nil => rw [biD, e] at hz; cases hz
            | cons n ns =>
              rw [biD, e] at hz
              cases hz
              obtain ⟨h1, h2, h3⟩ := leastI_le ns n
              refine cr_min hc pins s σ H _ us Q I r ⟨_, n :: ns, rfl, .inl (by rw [← r1.ints e]; exact Rd.mo fh s1), Nat.succ_pos _, fun m hm hl => ?_⟩
              have e2 : m = leastI n ns := by
                have a1 : m ≤ leastI n ns := by
                  rcases h2 with e | e
                  · rw [e]; exact hl n List.mem_cons_self
                  · exact hl _ (List.mem_cons_of_mem _ e)
                have a2 : leastI n ns ≤ m := by
                  rcases List.mem_cons.mp hm with e | e
                  · rw [e]; exact h1
                  · exact h3 m e
                omega
              rw [e2]
              exact q.now fh (.int _)
        | _ => cases hz
      | max =>
        cases a with
        | @lst p xs es s1 r1 =>
          cases e : intsD es with
          | none => rw [biD, e] at hz; cases hz
          | some ns =>
            cases ns with
            | nil => rw [biD, e] at hz; cases hz
            | cons n ns =>
              rw [biD, e] at hz
              cases hz
              obtain ⟨h1, h2, h3⟩ := mostI_ge ns n
              refine cr_max hc pins s σ H _ us Q I r ⟨_, n :: ns, rfl, .inl (by rw [← r1.ints e]; exact Rd.mo fh s1), Nat.succ_pos _, fun m hm hl => ?_⟩
              have e2 : m = mostI n ns := by
                have a1 : mostI n ns ≤ m := by
                  rcases h2 with e | e
                  · rw [e]; exact hl n List.mem_cons_self
                  · exact hl _ (List.mem_cons_of_mem _ e)
                have a2 : m ≤ mostI n ns := by
                  rcases List.mem_cons.mp hm with e | e
                  · rw [e]; exact h1
                  · exact h3 m e
                omega
              rw [e2]
              exact q.now fh (.int _)
        | _ => cases hz
      | min2 => cases a <;> cases hz
      | max2 => cases a <;> cases hz
      | int =>
        cases a with
        | int i => cases hz; exact call_int1 pins s σ H _ us Q I r (.inl ⟨i, rfl, q.now fh (.int _)⟩)
        | bl b => cases hz; exact call_int1 pins s σ H _ us Q I r (.inr ⟨b, rfl, q.now fh (.int _)⟩)
        | _ => cases hz
      | sorted =>
        cases a with
        | @lst p xs es s1 r1 =>
          cases e : intsD es with
          | none => rw [biD, e] at hz; cases hz
          | some ns =>
            rw [biD, e] at hz
            cases hz
            refine cr_sortedI pins s σ H _ us Q I r ⟨_, ns, rfl, .inl (by rw [← r1.ints e]; exact Rd.mo fh s1), fun ns' p hp hs hn => ?_⟩
            rw [sorted_one (hp.trans (sortI_perm ns).symm) hs (sortI_sorted ns)]
            exact q.lst fh (RepAll.ofInts _) p hn
        | _ => cases hz
    | @cons e w ds vs b t =>
      cases t with
      | nil =>
        cases f with
        | min2 =>
          cases a with
          | int i => cases b with
                     | int j => cases hz; exact call_min2 hc pins s σ H _ us Q I r ⟨i, j, rfl, q.now fh (.int _)⟩
                     | _ => cases hz
          | _ => cases b <;> cases hz
        | max2 =>
          cases a with
          | int i => cases b with
                     | int j => cases hz; exact call_max2 hc pins s σ H _ us Q I r ⟨i, j, rfl, q.now fh (.int _)⟩
                     | _ => cases hz
          | _ => cases b <;> cases hz
        | _ => simp [biD] at hz
      | cons c t => cases f <;> simp [biD] at hz
end
end HM

namespace HM
open PySem PySem.Spec PyProof.Rows L2

/-! ### what is wanted behind an expression -/
abbrev XRT := Hp → Xn → Value → Option Addr → Hp → Prop
/-- what stays around an expression: the written part, what others hold, the address of the list that was handed in to be changed, the wish of exceptions, how they lie -/
structure Wd where
  K : PySem.W.Frag
  G : Hp
  pa : Addr
  W : WX
  XR : XRT
abbrev Wd.sim (w : Wd) (F H : Hp) (ρ : Env) (σ : L2.St) : Prop := Sim w.K w.G w.pa F H ρ σ
def PostX (w : Wd) (F : Hp) (σ : L2.St) (x : Xn) (ρ : Env) : Prop := ∀ F' H' cls dd, FLe F F' → w.sim F' H' ρ σ → w.XR F' x cls dd H' → w.W cls dd σ H'
def PostE (w : Wd) (F : Hp) (σ : L2.St) (Q : VK) : R PyData → Prop
  | .ok d ρ => ∀ F' H' v, FLe F F' → w.sim F' H' ρ σ → Rep w.K F' d v → Q v H'
  | .exc x ρ => PostX w F σ x ρ
  | .bad => False
def PostA (w : Wd) (F : Hp) (σ : L2.St) (Q : List V → Hp → Prop) : R PyData → Prop
  | .ok d ρ => ∀ F' H' vs, FLe F F' → w.sim F' H' ρ σ → RepAll w.K F' (tupOf d) vs → Q vs H'
  | .exc x ρ => PostX w F σ x ρ
  | .bad => False
def PostT (w : Wd) (F : Hp) (σ : L2.St) (Q : Bool → Hp → Prop) : R PyData → Prop
  | .ok (.bool b) ρ => ∀ F' H', FLe F F' → w.sim F' H' ρ σ → Q b H'
  | .exc x ρ => PostX w F σ x ρ
  | _ => False
theorem PostX.up {w : Wd} {F F1 : Hp} {σ : L2.St} {x : Xn} {ρ : Env} (h : PostX w F σ x ρ) (l : FLe F F1) : PostX w F1 σ x ρ := fun F' H' c d l' => h F' H' c d (l.tr l')
theorem PostE.up {w : Wd} {F F1 : Hp} {σ : L2.St} {Q : VK} {r : R PyData} (h : PostE w F σ Q r) (l : FLe F F1) : PostE w F1 σ Q r := by
  cases r with
  | ok d ρ => exact fun F' H' v l' => h F' H' v (l.tr l')
  | exc x ρ => exact PostX.up h l
  | bad => exact h
theorem PostA.up {w : Wd} {F F1 : Hp} {σ : L2.St} {Q : List V → Hp → Prop} {r : R PyData} (h : PostA w F σ Q r) (l : FLe F F1) : PostA w F1 σ Q r := by
  cases r with
  | ok d ρ => exact fun F' H' v l' => h F' H' v (l.tr l')
  | exc x ρ => exact PostX.up h l
  | bad => exact h
theorem PostT.up {w : Wd} {F F1 : Hp} {σ : L2.St} {Q : Bool → Hp → Prop} {r : R PyData} (h : PostT w F σ Q r) (l : FLe F F1) : PostT w F1 σ Q r := by
  cases r with
  | ok d ρ => cases d with
    | bool b => exact fun F' H' l' => h F' H' (l.tr l')
    | _ => exact h
  | exc x ρ => exact PostX.up h l
  | bad => exact h
theorem PostE.mono {w : Wd} {F : Hp} {σ : L2.St} {Q Q' : VK} {r : R PyData} (h : PostE w F σ Q r) (f : ∀ v H, Q v H → Q' v H) : PostE w F σ Q' r := by
  cases r with
  | ok d ρ => exact fun F' H' v l S q => f _ _ (h F' H' v l S q)
  | exc x ρ => exact h
  | bad => exact h
theorem PostA.mono {w : Wd} {F : Hp} {σ : L2.St} {Q Q' : List V → Hp → Prop} {r : R PyData} (h : PostA w F σ Q r) (f : ∀ v H, Q v H → Q' v H) : PostA w F σ Q' r := by
  cases r with
  | ok d ρ => exact fun F' H' v l S q => f _ _ (h F' H' v l S q)
  | exc x ρ => exact h
  | bad => exact h
theorem PostT.mono {w : Wd} {F : Hp} {σ : L2.St} {Q Q' : Bool → Hp → Prop} {r : R PyData} (h : PostT w F σ Q r) (f : ∀ v H, Q v H → Q' v H) : PostT w F σ Q' r := by
  cases r with
  | ok d ρ => cases d with
    | bool b => exact fun F' H' l S => f _ _ (h F' H' l S)
    | _ => exact h
  | exc x ρ => exact h
  | bad => exact h
/-- a value has come -/
def Got (w : Wd) (F : Hp) (σ : L2.St) (v : V) (H : Hp) (k : PyData → Env → Hp → Prop) : Prop := ∃ d ρ F1, FLe F F1 ∧ w.sim F1 H ρ σ ∧ Rep w.K F1 d v ∧ k d ρ F1
theorem PostE.bind {w : Wd} {F : Hp} {σ : L2.St} {Q : VK} {r : R PyData} {f : PyData → Env → R PyData} (h : PostE w F σ Q (r.bind f)) : PostE w F σ (fun v H1 => Got w F σ v H1 fun d ρ F1 => PostE w F1 σ Q (f d ρ)) r := by
  cases r with
  | ok d ρ => exact fun F' H' v l S q => ⟨d, ρ, F', l, S, q, PostE.up h l⟩
  | exc x ρ => exact h
  | bad => exact h
theorem PostE.bindA {w : Wd} {F : Hp} {σ : L2.St} {Q : List V → Hp → Prop} {r : R PyData} {f : PyData → Env → R PyData} (h : PostA w F σ Q (r.bind f)) : PostE w F σ (fun v H1 => Got w F σ v H1 fun d ρ F1 => PostA w F1 σ Q (f d ρ)) r := by
  cases r with
  | ok d ρ => exact fun F' H' v l S q => ⟨d, ρ, F', l, S, q, PostA.up h l⟩
  | exc x ρ => exact h
  | bad => exact h
theorem PostE.bindT {w : Wd} {F : Hp} {σ : L2.St} {Q : Bool → Hp → Prop} {r : R PyData} {f : PyData → Env → R PyData} (h : PostT w F σ Q (r.bind f)) : PostE w F σ (fun v H1 => Got w F σ v H1 fun d ρ F1 => PostT w F1 σ Q (f d ρ)) r := by
  cases r with
  | ok d ρ => exact fun F' H' v l S q => ⟨d, ρ, F', l, S, q, PostT.up h l⟩
  | exc x ρ => exact h
  | bad => exact h
/-- arguments have come -/
def GotA (w : Wd) (F : Hp) (σ : L2.St) (vs : List V) (H : Hp) (k : PyData → Env → Hp → Prop) : Prop := ∃ d ρ F1, FLe F F1 ∧ w.sim F1 H ρ σ ∧ RepAll w.K F1 (tupOf d) vs ∧ k d ρ F1
theorem PostA.bind {w : Wd} {F : Hp} {σ : L2.St} {Q : VK} {r : R PyData} {f : PyData → Env → R PyData} (h : PostE w F σ Q (r.bind f)) : PostA w F σ (fun vs H1 => GotA w F σ vs H1 fun d ρ F1 => PostE w F1 σ Q (f d ρ)) r := by
  cases r with
  | ok d ρ => exact fun F' H' v l S q => ⟨d, ρ, F', l, S, q, PostE.up h l⟩
  | exc x ρ => exact h
  | bad => exact h
theorem PostA.bindA {w : Wd} {F : Hp} {σ : L2.St} {Q : List V → Hp → Prop} {r : R PyData} {f : PyData → Env → R PyData} (h : PostA w F σ Q (r.bind f)) : PostA w F σ (fun vs H1 => GotA w F σ vs H1 fun d ρ F1 => PostA w F1 σ Q (f d ρ)) r := by
  cases r with
  | ok d ρ => exact fun F' H' v l S q => ⟨d, ρ, F', l, S, q, PostA.up h l⟩
  | exc x ρ => exact h
  | bad => exact h
theorem PostT.bind {w : Wd} {F : Hp} {σ : L2.St} {Q : VK} {r : R PyData} {f : PyData → Env → R PyData} (h : PostE w F σ Q (r.bind f)) (hf : ∀ d ρ, f d ρ ≠ .bad → ∃ b, d = .bool b) : PostT w F σ (fun b H1 => ∃ ρ F1, FLe F F1 ∧ w.sim F1 H1 ρ σ ∧ PostE w F1 σ Q (f (.bool b) ρ)) r := by
  cases r with
  | ok d ρ =>
    have nb : f d ρ ≠ .bad := fun z => by
      have h' : PostE w F σ Q (f d ρ) := h
      rw [z] at h'; exact h'
    obtain ⟨b, rfl⟩ := hf d ρ nb
    exact fun F' H' l S => ⟨ρ, F', l, S, PostE.up h l⟩
  | exc x ρ => exact h
  | bad => exact h
theorem PostT.bindT {w : Wd} {F : Hp} {σ : L2.St} {Q : Bool → Hp → Prop} {r : R PyData} {f : PyData → Env → R PyData} (h : PostT w F σ Q (r.bind f)) (hf : ∀ d ρ, f d ρ ≠ .bad → ∃ b, d = .bool b) : PostT w F σ (fun b H1 => ∃ ρ F1, FLe F F1 ∧ w.sim F1 H1 ρ σ ∧ PostT w F1 σ Q (f (.bool b) ρ)) r := by
  cases r with
  | ok d ρ =>
    have nb : f d ρ ≠ .bad := fun z => by
      have h' : PostT w F σ Q (f d ρ) := h
      rw [z] at h'; exact h'
    obtain ⟨b, rfl⟩ := hf d ρ nb
    exact fun F' H' l S => ⟨ρ, F', l, S, PostT.up h l⟩
  | exc x ρ => exact h
  | bad => exact h
/-- an operator's answer -/
theorem PostE.of {w : Wd} {F H : Hp} {σ : L2.St} {Q : VK} {o : Option PyData} {ρ : Env} (h : PostE w F σ Q (.of o ρ)) (S : w.sim F H ρ σ) : ∃ z, o = some z ∧ Res w.K F H z Q := by
  cases o with
  | none => exact False.elim h
  | some z => exact ⟨z, rfl, fun F' H' v E r => h F' H' v E.ff (S.ext E) r⟩

section
variable (Φ : Fns) (w : Wd)
def tE (c : E) : TE := fun σ H Q => ∃ ρ F, w.sim F H ρ σ ∧ PostE w F σ Q (evE Φ c ρ)
def tA (c : E) : TA := fun σ H Q => ∃ ρ F, w.sim F H ρ σ ∧ PostA w F σ Q (evE Φ c ρ)
def tT (c : E) : TT := fun σ H Q => ∃ ρ F, w.sim F H ρ σ ∧ PostT w F σ Q (evE Φ c ρ)
end
/-- a rule with a weaker reading -/
theorem _root_.L2.PE.via {X : Cx} {e : Expr} {t t' : TE} (h : PE X e t) (f : ∀ σ H Q, t' σ H Q → t σ H Q) : PE X e t' := ⟨fun pins s σ H Q I q => h.run pins s σ H Q I (f σ H Q q)⟩
theorem _root_.L2.PT.via {X : Cx} {e : Expr} {t t' : TT} (h : PT X e t) (f : ∀ σ H Q, t' σ H Q → t σ H Q) : PT X e t' := ⟨fun pins s σ H Q I q => h.run pins s σ H Q I (f σ H Q q)⟩
theorem _root_.L2.PW.via {X : Cx} {e : Expr} {t t' : TT} (h : PW X e t) (f : ∀ σ H Q, t' σ H Q → t σ H Q) : PW X e t' := ⟨fun wh pins s σ H Q I q => h.run wh pins s σ H Q I (f σ H Q q)⟩
theorem _root_.L2.PA.via {X : Cx} {e : List Expr} {t t' : TA} (h : PA X e t) (f : ∀ σ H Q, t' σ H Q → t σ H Q) : PA X e t' := ⟨fun p pins s σ H Q I q => h.run p pins s σ H Q I (f σ H Q q)⟩

section
variable {X : Cx} {Φ : Fns} {w : Wd} {pos : Pos} {a b c e : Expr} {es : List Expr} {ca cb cc : E}
theorem getS_some {ρ : Env} {i : Nat} {s : Slot} (h : getS ρ i = s) (n : s ≠ .un) : ρ[i]? = some s := by
  unfold getS at h
  rw [List.getD_eq_getElem?_getD] at h
  cases q : ρ[i]? with
  | none => rw [q] at h; exact absurd h.symm n
  | some t => rw [q] at h; exact congrArg some h
theorem sE_var {i : Nat} {x : Str} (hN : X.N[i]? = some x) (hv : Vis X.env.scope x) (hd : (x == ("__debug__" : Str)) = false) (hc : (x == ("__classdict__" : Str)) = false) : PE X (.Name x pos) (tE Φ w (.var i)) :=
  (pe_var hN hv hd hc).via fun σ H Q ⟨ρ, F, S, p⟩ => by
    have p : PostE w F σ Q (rdVar ρ i) := p
    unfold rdVar at p
    split at p
    · rename_i d e
      obtain ⟨v, e1, r⟩ := S.slot i _ (getS_some e (by intro z; cases z))
      exact ⟨v, e1, p F H v FLe.rf S r⟩
    · rename_i ds e
      obtain ⟨a, xs, e1, le, r, S'⟩ := S.freeze (getS_some e (by intro z; cases z))
      exact ⟨.ref a, e1, p _ H _ le S' (.lst (.inl upd_same) (r.mo le))⟩
    · exact p.elim
theorem sE_non {j : Nat} : PE X (.Constant .none j pos) (tE Φ w .non) := pe_non.via fun σ H Q ⟨ρ, F, S, p⟩ => p F H _ FLe.rf S .non
theorem sE_bl {j : Nat} {b : Bool} : PE X (.Constant (.bool b) j pos) (tE Φ w (.bl b)) := pe_bl.via fun σ H Q ⟨ρ, F, S, p⟩ => p F H _ FLe.rf S (.bl b)
theorem sE_int {j : Nat} {z : Int} : PE X (.Constant (.int z) j pos) (tE Φ w (.int z)) := pe_int.via fun σ H Q ⟨ρ, F, S, p⟩ => p F H _ FLe.rf S (.int z)
theorem sE_str {j : Nat} {z : Str} : PE X (.Constant (.str z) j pos) (tE Φ w (.str z)) := pe_str.via fun σ H Q ⟨ρ, F, S, p⟩ => p F H _ FLe.rf S (.str z)
theorem sE_gint {x : Str} {z : Int} (hg : Gl X x) (hm : ∃ t, X.mg x = some (.int z t)) (hd : (x == ("__debug__" : Str)) = false) : PE X (.Name x pos) (tE Φ w (.gint x z)) := by
  obtain ⟨t, hm⟩ := hm
  exact (pe_glob (v := .int z) hg hm ⟨t, rfl⟩ hd).via fun σ H Q ⟨ρ, F, S, p⟩ => p F H _ FLe.rf S (.int z)
theorem sE_bin (hK : X.K = w.K) (o : Op2) (ha : PE X a (tE Φ w ca)) (hb : PE X b (tE Φ w cb)) : PE X (.BinOp a (op2 o) b pos) (tE Φ w (.bin o ca cb)) :=
  (pe_op (ob_bin o) ha hb).via fun σ H Q ⟨ρ, F, S, p⟩ => ⟨ρ, F, S, by
    have p := PostE.bind p
    refine PostE.mono p fun v H1 ⟨d, ρ1, F1, l1, S1, r1, p1⟩ => ⟨ρ1, F1, S1, ?_⟩
    refine PostE.mono (PostE.bind p1) fun v2 H2 ⟨d2, ρ2, F2, l2, S2, r2, p2⟩ => ?_
    obtain ⟨z, e, q⟩ := PostE.of p2 S2
    rw [hK]
    exact ⟨F2, d, d2, z, S2.fh, r1.mo l2, r2, e, q⟩⟩
theorem sE_neg (ha : PE X a (tE Φ w ca)) : PE X (.UnaryOp .USub a pos) (tE Φ w (.neg ca)) :=
  (pe_un un_neg ha).via fun σ H Q ⟨ρ, F, S, p⟩ => ⟨ρ, F, S, PostE.mono (PostE.bind p) fun v H1 ⟨d, ρ1, F1, l1, S1, r1, p1⟩ => by
    cases r1 with
    | int i => exact ⟨i, rfl, p1 F1 H1 _ FLe.rf S1 (.int _)⟩
    | _ => exact p1.elim⟩
theorem cmp_got {o : Cm} (hK : X.K = w.K) {σ : L2.St} {Q : Bool → Hp → Prop} {F : Hp} {H1 : Hp} {x : V} {ρ1 : Env} {d : PyData} (r1 : Rep w.K F d x) {q : R PyData → Prop}
    {v2 : V} {H2 F2 : Hp} {d2 : PyData} (l2 : FLe F F2) (fh : FLe F2 H2) (r2 : Rep w.K F2 d2 v2) {z : Bool} (e : cmpD o d d2 = some z) (hq : Q z H2) : rCm X.K (cmpD o) x v2 H2 (fun y H => ∃ c, y = .bl c ∧ Q c H) := by
  rw [hK]
  exact ⟨F2, d, d2, z, fh, r1.mo l2, r2, e, z, rfl, hq⟩
theorem sE_cmp (hK : X.K = w.K) (hu : X.A.units + 70 < cLine) (o : Cm) (ha : PE X a (tE Φ w ca)) (hb : PE X b (tE Φ w cb)) (hm : behindInMarks (cm o) b = false) : PE X (.Compare a [cm o] [b] pos) (tE Φ w (.cmp o ca cb)) :=
  (pe_cmpR (ob_cmp hu o) ha hb hm).via fun σ H Q ⟨ρ, F, S, p⟩ => ⟨ρ, F, S, by
    refine PostE.mono (PostE.bind p) fun v H1 ⟨d, ρ1, F1, l1, S1, r1, p1⟩ => ⟨ρ1, F1, S1, ?_⟩
    refine PostE.mono (PostE.bind p1) fun v2 H2 ⟨d2, ρ2, F2, l2, S2, r2, p2⟩ => ?_
    obtain ⟨z, e, q⟩ := PostE.of p2 S2
    try dsimp only at p2
    cases q0 : cmpD o d d2 with
    | none => rw [q0] at e; cases e
    | some b =>
      rw [q0] at e
      cases e
      rw [hK]
      exact ⟨F2, d, d2, b, S2.fh, r1.mo l2, r2, q0, q.now S2.fh (.bl _)⟩⟩
theorem sT_cmp (hK : X.K = w.K) (hu : X.A.units + 70 < cLine) (o : Cm) (ha : PE X a (tE Φ w ca)) (hb : PE X b (tE Φ w cb)) (hm : behindInMarks (cm o) b = false) : PT X (.Compare a [cm o] [b] pos) (tT Φ w (.cmp o ca cb)) :=
  (pt_cmpR (ob_cmp hu o) ha hb hm).via fun σ H Q ⟨ρ, F, S, p⟩ => ⟨ρ, F, S, by
    refine PostE.mono (PostE.bindT p) fun v H1 ⟨d, ρ1, F1, l1, S1, r1, p1⟩ => ⟨ρ1, F1, S1, ?_⟩
    refine PostE.mono (PostE.bindT p1) fun v2 H2 ⟨d2, ρ2, F2, l2, S2, r2, p2⟩ => ?_
    try dsimp only at p2
    cases q0 : cmpD o d d2 with
    | none => rw [q0] at p2; exact p2.elim
    | some b =>
      rw [q0] at p2
      rw [hK]
      exact ⟨F2, d, d2, b, S2.fh, r1.mo l2, r2, q0, b, rfl, p2 F2 H2 FLe.rf S2⟩⟩
theorem sE_chain (hK : X.K = w.K) (hu : X.A.units + 70 < cLine) (o o' : Cm) (ha : PE X a (tE Φ w ca)) (hb : PE X b (tE Φ w cb)) (hc : PE X c (tE Φ w cc)) (hm : lastMarks [cm o, cm o'] [b, c] = false) :
    PE X (.Compare a [cm o, cm o'] [b, c] pos) (tE Φ w (.chain o o' ca cb cc)) :=
  (pe_chain (ob_cmp hu o) (ob_cmp hu o') ha hb hc hm).via fun σ H Q ⟨ρ, F, S, p⟩ => ⟨ρ, F, S, by
    refine PostE.mono (PostE.bind p) fun v H1 ⟨d, ρ1, F1, l1, S1, r1, p1⟩ => ⟨ρ1, F1, S1, ?_⟩
    refine PostE.mono (PostE.bind p1) fun v2 H2 ⟨d2, ρ2, F2, l2, S2, r2, p2⟩ => ?_
    rw [hK]
    try dsimp only at p2
    cases q0 : cmpD o d d2 with
    | none => rw [q0] at p2; exact p2.elim
    | some b =>
      rw [q0] at p2
      refine ⟨F2, d, d2, b, S2.fh, r1.mo l2, r2, q0, b, rfl, ?_⟩
      cases b with
      | false => exact p2 F2 H2 _ FLe.rf S2 (.bl _)
      | true =>
        refine ⟨ρ2, F2, S2, PostE.mono (PostE.bind p2) fun v3 H3 ⟨d3, ρ3, F3, l3, S3, r3, p3⟩ => ?_⟩
        obtain ⟨z, e, q⟩ := PostE.of p3 S3
        try dsimp only at p3
        cases q1 : cmpD o' d2 d3 with
        | none => rw [q1] at e; cases e
        | some b =>
          rw [q1] at e
          cases e
          exact ⟨F3, d2, d3, b, S3.fh, r2.mo l3, r3, q1, q.now S3.fh (.bl _)⟩⟩
theorem sT_chain (hK : X.K = w.K) (hu : X.A.units + 70 < cLine) (o o' : Cm) (ha : PE X a (tE Φ w ca)) (hb : PE X b (tE Φ w cb)) (hc : PE X c (tE Φ w cc)) (hm : lastMarks [cm o, cm o'] [b, c] = false) :
    PT X (.Compare a [cm o, cm o'] [b, c] pos) (tT Φ w (.chain o o' ca cb cc)) :=
  (pt_chain (ob_cmp hu o) (ob_cmp hu o') ha hb hc hm).via fun σ H Q ⟨ρ, F, S, p⟩ => ⟨ρ, F, S, by
    refine PostE.mono (PostE.bindT p) fun v H1 ⟨d, ρ1, F1, l1, S1, r1, p1⟩ => ⟨ρ1, F1, S1, ?_⟩
    refine PostE.mono (PostE.bindT p1) fun v2 H2 ⟨d2, ρ2, F2, l2, S2, r2, p2⟩ => ?_
    rw [hK]
    try dsimp only at p2
    cases q0 : cmpD o d d2 with
    | none => rw [q0] at p2; exact p2.elim
    | some b =>
      rw [q0] at p2
      refine ⟨F2, d, d2, b, S2.fh, r1.mo l2, r2, q0, b, rfl, ?_⟩
      cases b with
      | false => exact ⟨false, rfl, p2 F2 H2 FLe.rf S2⟩
      | true =>
        refine ⟨ρ2, F2, S2, PostE.mono (PostE.bindT p2) fun v3 H3 ⟨d3, ρ3, F3, l3, S3, r3, p3⟩ => ?_⟩
        try dsimp only at p3
        cases q1 : cmpD o' d2 d3 with
        | none => rw [q1] at p3; exact p3.elim
        | some b =>
          rw [q1] at p3
          exact ⟨F3, d2, d3, b, S3.fh, r2.mo l3, r3, q1, b, rfl, p3 F3 H3 FLe.rf S3⟩⟩
theorem sE_not (ha : PE X a (tE Φ w ca)) : PE X (.UnaryOp .Not a pos) (tE Φ w (.not ca)) :=
  (pe_not ha).via fun σ H Q ⟨ρ, F, S, p⟩ => ⟨ρ, F, S, PostE.mono (PostE.bind p) fun v H1 ⟨d, ρ1, F1, l1, S1, r1, p1⟩ => by
    cases r1 with
    | bl i => exact ⟨i, rfl, p1 F1 H1 _ FLe.rf S1 (.bl _)⟩
    | _ => exact p1.elim⟩
theorem sE_and {rest : List Expr} (ha : PE X a (tE Φ w ca)) (hb : PE X (.BoolOp .And (b :: rest) pos) (tE Φ w cb)) : PE X (.BoolOp .And (a :: b :: rest) pos) (tE Φ w (.and ca cb)) :=
  (pe_and ha hb).via fun σ H Q ⟨ρ, F, S, p⟩ => ⟨ρ, F, S, PostE.mono (PostE.bind p) fun v H1 ⟨d, ρ1, F1, l1, S1, r1, p1⟩ => by
    cases r1 with
    | bl i => cases i with
              | true => exact ⟨true, rfl, ρ1, F1, S1, p1⟩
              | false => exact ⟨false, rfl, p1 F1 H1 _ FLe.rf S1 (.bl _)⟩
    | _ => exact p1.elim⟩
theorem sE_or {rest : List Expr} (ha : PE X a (tE Φ w ca)) (hb : PE X (.BoolOp .Or (b :: rest) pos) (tE Φ w cb)) : PE X (.BoolOp .Or (a :: b :: rest) pos) (tE Φ w (.or ca cb)) :=
  (pe_or ha hb).via fun σ H Q ⟨ρ, F, S, p⟩ => ⟨ρ, F, S, PostE.mono (PostE.bind p) fun v H1 ⟨d, ρ1, F1, l1, S1, r1, p1⟩ => by
    cases r1 with
    | bl i => cases i with
              | true => exact ⟨true, rfl, p1 F1 H1 _ FLe.rf S1 (.bl _)⟩
              | false => exact ⟨false, rfl, ρ1, F1, S1, p1⟩
    | _ => exact p1.elim⟩
theorem sT_not (ha : PT X a (tT Φ w ca)) : PT X (.UnaryOp .Not a pos) (tT Φ w (.not ca)) :=
  (pt_not ha).via fun σ H Q ⟨ρ, F, S, p⟩ => ⟨ρ, F, S, by
    have p : PostT w F σ Q ((evE Φ ca ρ).bind fun x ρ => match x with | .bool b => .ok (.bool (!b)) ρ | _ => .bad) := p
    refine PostT.mono (PostT.bindT p fun d ρ h => by cases d <;> first | exact ⟨_, rfl⟩ | exact absurd rfl h) fun b H1 ⟨ρ1, F1, l1, S1, p1⟩ => p1 F1 H1 FLe.rf S1⟩
theorem sT_and {rest : List Expr} (ha : PT X a (tT Φ w ca)) (hb : PW X (.BoolOp .And (b :: rest) pos) (tT Φ w cb)) : PW X (.BoolOp .And (a :: b :: rest) pos) (tT Φ w (.and ca cb)) :=
  (pw_and ha hb).via fun σ H Q ⟨ρ, F, S, p⟩ => ⟨ρ, F, S, by
    have p : PostT w F σ Q ((evE Φ ca ρ).bind fun x ρ => match x with | .bool true => evE Φ cb ρ | .bool false => .ok (.bool false) ρ | _ => .bad) := p
    refine PostT.mono (PostT.bindT p fun d ρ h => by cases d <;> first | exact ⟨_, rfl⟩ | exact absurd rfl h) fun b H1 ⟨ρ1, F1, l1, S1, p1⟩ => ?_
    cases b with
    | true => exact ⟨ρ1, F1, S1, p1⟩
    | false => exact p1 F1 H1 FLe.rf S1⟩
theorem sT_or {rest : List Expr} (ha : PT X a (tT Φ w ca)) (hb : PW X (.BoolOp .Or (b :: rest) pos) (tT Φ w cb)) : PW X (.BoolOp .Or (a :: b :: rest) pos) (tT Φ w (.or ca cb)) :=
  (pw_or ha hb).via fun σ H Q ⟨ρ, F, S, p⟩ => ⟨ρ, F, S, by
    have p : PostT w F σ Q ((evE Φ ca ρ).bind fun x ρ => match x with | .bool true => .ok (.bool true) ρ | .bool false => evE Φ cb ρ | _ => .bad) := p
    refine PostT.mono (PostT.bindT p fun d ρ h => by cases d <;> first | exact ⟨_, rfl⟩ | exact absurd rfl h) fun b H1 ⟨ρ1, F1, l1, S1, p1⟩ => ?_
    cases b with
    | true => exact p1 F1 H1 FLe.rf S1
    | false => exact ⟨ρ1, F1, S1, p1⟩⟩
/-- a value that is a truth, as a test -/
theorem sT_val (ha : PE X a (tE Φ w ca)) (he : ∀ whole, isTrue a X.env whole = (do let v ← whole; standAt a.pos; holding [v] (truthy v))) : PT X a (tT Φ w ca) :=
  (pt_val ha he).via fun σ H Q ⟨ρ, F, S, p⟩ => ⟨ρ, F, S, by
    have p : PostT w F σ Q (evE Φ ca ρ) := p
    cases q : evE Φ ca ρ with
    | bad => rw [q] at p; exact p
    | exc x ρ' => rw [q] at p; exact p
    | ok d ρ' =>
      rw [q] at p
      cases d with
      | bool b => exact fun F' H' v l S' r => by
                    cases r
                    exact ⟨b, rfl, p F' H' l S'⟩
      | _ => exact p.elim⟩
theorem sE_ite (hc : PT X c (tT Φ w cc)) (ha : PE X a (tE Φ w ca)) (hb : PE X b (tE Φ w cb)) : PE X (.IfExp c a b pos) (tE Φ w (.ite cc ca cb)) :=
  (pe_ifExp hc ha hb).via fun σ H Q ⟨ρ, F, S, p⟩ => ⟨ρ, F, S, by
    have p : PostE w F σ Q ((evE Φ cc ρ).bind fun x ρ => match x with | .bool true => evE Φ ca ρ | .bool false => evE Φ cb ρ | _ => .bad) := p
    refine PostT.mono (PostT.bind p fun d ρ h => by cases d <;> first | exact ⟨_, rfl⟩ | exact absurd rfl h) fun b H1 ⟨ρ1, F1, l1, S1, p1⟩ => ?_
    cases b with
    | true => exact ⟨ρ1, F1, S1, p1⟩
    | false => exact ⟨ρ1, F1, S1, p1⟩⟩
theorem sA_nil : PA X [] (tA Φ w .nil) := pa_nil.via fun σ H Q ⟨ρ, F, S, p⟩ => p F H [] FLe.rf S .nil
theorem sA_cons (ha : PE X a (tE Φ w ca)) (hb : PA X es (tA Φ w cb)) (hs : starEach (a :: es) X.env = (false, eval a X.env) :: starEach es X.env) : PA X (a :: es) (tA Φ w (.cons ca cb)) :=
  (pa_cons ha hb hs).via fun σ H Q ⟨ρ, F, S, p⟩ => ⟨ρ, F, S, by
    refine PostE.mono (PostE.bindA p) fun v H1 ⟨d, ρ1, F1, l1, S1, r1, p1⟩ => ⟨ρ1, F1, S1, ?_⟩
    refine PostA.mono (PostA.bindA p1) fun vs H2 ⟨d2, ρ2, F2, l2, S2, r2, p2⟩ => ?_
    exact p2 F2 H2 _ FLe.rf S2 (.cons (r1.mo l2) r2)⟩
theorem sE_tup {k : Nat} (h : PA X es (tA Φ w ca)) (hl : es.length ≤ SL) (hn : ∀ ρ d ρ', evE Φ ca ρ = .ok d ρ' → (tupOf d).length = es.length) : PE X (.Tuple es k pos) (tE Φ w (.tup ca)) :=
  (pe_tup h).via fun σ H Q ⟨ρ, F, S, p⟩ => ⟨ρ, F, S, by
    have p : PostE w F σ Q ((evE Φ ca ρ).bind fun x ρ => .ok (.tuple (tupOf x)) ρ) := p
    cases q : evE Φ ca ρ with
    | bad => rw [q] at p; exact p
    | exc x ρ' => rw [q] at p; exact p
    | ok d ρ' =>
      rw [q] at p
      have e := hn ρ d ρ' q
      refine fun F' H' vs l S' r => ⟨by rw [← r.length, e, ← SL_eq]; exact hl, fun t ht => ?_⟩
      exact p _ _ _ (l.tr (S'.fh.new ht)) (S'.ext (Ext.new S'.fh ht _)) (.tup (.inl (.inl upd_same)) (r.mo (S'.fh.new ht)))⟩
end
end HM

namespace HM
open PySem PySem.Spec PyProof.Rows L2

/-! ### new lists -/
def PostF (w : Wd) (F : Hp) (σ : L2.St) (Q : VK) : R PyData → Prop
  | .ok (.list ds) ρ => ∀ F' H' p xs, FLe F F' → w.sim F' H' ρ σ → Fresh w.K w.G w.pa F' H' ρ σ p xs → RepAll w.K F' ds xs → Q (.ref p) H'
  | .exc x ρ => PostX w F σ x ρ
  | _ => False
def tF (Φ : Fns) (w : Wd) (c : E) : TE := fun σ H Q => ∃ ρ F, w.sim F H ρ σ ∧ PostF w F σ Q (evE Φ c ρ)
section
variable {X : Cx} {Φ : Fns} {w : Wd} {pos : Pos} {a b c e : Expr} {es : List Expr} {ca cb cc : E}
/-- a new list may be frozen at once -/
theorem sE_of_fresh (h : PE X e (tF Φ w ca)) (hl : ∀ ρ d ρ', evE Φ ca ρ = .ok d ρ' → ∃ ds, d = .list ds) : PE X e (tE Φ w ca) := h.via fun σ H Q ⟨ρ, F, S, p⟩ => ⟨ρ, F, S, by
  cases q : evE Φ ca ρ with
  | bad => rw [q] at p; exact p
  | exc x ρ' => rw [q] at p; exact p
  | ok d ρ' =>
    obtain ⟨ds, rfl⟩ := hl ρ d ρ' q
    rw [q] at p
    intro F' H' pp xs l S' fr r
    obtain ⟨le, S2⟩ := fr.frz S'
    exact p _ H' _ (l.tr le) S2 (.lst (.inl upd_same) (r.mo le))⟩
theorem sF_lst (h : PA X es (tA Φ w ca)) (hl : es.length ≤ SL) (hn : ∀ ρ d ρ', evE Φ ca ρ = .ok d ρ' → (tupOf d).length = es.length) : PE X (.List es pos) (tF Φ w (.lst ca)) :=
  (pe_lst h).via fun σ H Q ⟨ρ, F, S, p⟩ => ⟨ρ, F, S, by
    have p : PostF w F σ Q ((evE Φ ca ρ).bind fun x ρ => .ok (.list (tupOf x)) ρ) := p
    cases q : evE Φ ca ρ with
    | bad => rw [q] at p; exact p
    | exc x ρ' => rw [q] at p; exact p
    | ok d ρ' =>
      rw [q] at p
      have e := hn ρ d ρ' q
      refine fun F' H' vs l S' r => ⟨by rw [← r.length, e, ← SL_eq]; exact hl, fun t ht => ?_⟩
      exact p F' _ t vs l (S'.laid ht _) (S'.fresh ht) r⟩
theorem bind_ok {α β : Type} {r : R α} {f : α → Env → R β} {y : β} {ρ : Env} (h : r.bind f = .ok y ρ) : ∃ x ρ1, r = .ok x ρ1 ∧ f x ρ1 = .ok y ρ := by
  cases r with
  | ok x ρ1 => exact ⟨x, ρ1, rfl, h⟩
  | exc x ρ1 => cases h
  | bad => cases h
theorem lst_list (ρ : Env) (d : PyData) (ρ' : Env) (h : evE Φ (.lst ca) ρ = .ok d ρ') : ∃ ds, d = .list ds := by
  obtain ⟨x, ρ1, _, h⟩ := bind_ok (show (evE Φ ca ρ).bind (fun x ρ => .ok (.list (tupOf x)) ρ) = .ok d ρ' from h)
  cases h
  exact ⟨_, rfl⟩
theorem sE_ix (hK : X.K = w.K) (ha : PE X a (tE Φ w ca)) (hb : PE X b (tE Φ w cb)) (hs : PlainIx b) : PE X (.Subscript a b pos) (tE Φ w (.ix ca cb)) :=
  (pe_ix ob_ix ha hb hs).via fun σ H Q ⟨ρ, F, S, p⟩ => ⟨ρ, F, S, by
    refine PostE.mono (PostE.bind p) fun v H1 ⟨d, ρ1, F1, l1, S1, r1, p1⟩ => ⟨ρ1, F1, S1, ?_⟩
    refine PostE.mono (PostE.bind p1) fun v2 H2 ⟨d2, ρ2, F2, l2, S2, r2, p2⟩ => ?_
    obtain ⟨z, e, q⟩ := PostE.of p2 S2
    rw [hK]
    exact ⟨F2, d, d2, z, S2.fh, r1.mo l2, r2, e, q⟩⟩
/-- a slice's end: left out, or an int -/
theorem _root_.L2.PO.via {X : Cx} {e : Option Expr} {t t' : TO} (h : PO X e t) (f : ∀ σ H Q, t' σ H Q → t σ H Q) : PO X e t' := ⟨fun pins s σ H Q I q => h.run pins s σ H Q I (f σ H Q q)⟩
def tO (Φ : Fns) (w : Wd) (c : E) : TO := fun σ H Q => ∃ ρ F, w.sim F H ρ σ ∧ PostE w F σ (fun v H1 => ∃ d o, (∃ F1, Rep w.K F1 d v) ∧ partD d = some o ∧ slOk c.isNon d = true ∧ Q o H1) (evE Φ c ρ)
theorem sO_none : PO X none (tO Φ w .non) := po_none.via fun σ H Q ⟨ρ, F, S, p⟩ => by
  obtain ⟨d, o, ⟨F1, r⟩, e, k, q⟩ := p F H .non FLe.rf S .non
  cases r
  cases e
  exact q
theorem sO_some (h : PE X e (tE Φ w ca)) (hn : ca.isNon = false) : PO X (some e) (tO Φ w ca) := (po_some h).via fun σ H Q ⟨ρ, F, S, p⟩ => ⟨ρ, F, S, PostE.mono p fun v H1 ⟨d, o, ⟨F1, r⟩, e, k, q⟩ => by
  rw [hn] at k
  cases d with
  | int i => cases r; cases e; exact ⟨i, rfl, q⟩
  | _ => cases k⟩
theorem sE_sl (hK : X.K = w.K) {lo hi : Option Expr} {p2 : Pos} (ha : PE X a (tE Φ w ca)) (hb : PO X lo (tO Φ w cb)) (hc : PO X hi (tO Φ w cc)) : PE X (.Subscript a (.Slice lo hi none p2) pos) (tE Φ w (.sl ca cb cc)) :=
  (pe_slice ob_sl ha hb hc).via fun σ H Q ⟨ρ, F, S, p⟩ => ⟨ρ, F, S, by
    refine PostE.mono (PostE.bind p) fun v H1 ⟨d, ρ1, F1, l1, S1, r1, p1⟩ => ⟨ρ1, F1, S1, ?_⟩
    dsimp only at p1
    -- the first end
    have p1 : PostE w F1 σ Q ((evE Φ cb ρ1).bind fun y ρ => if slOk cb.isNon y then (evE Φ cc ρ).bind fun z ρ => if slOk cc.isNon z then .of (slD d y z) ρ else .bad else .bad) := p1
    have part : ∀ {b : Bool} {y : PyData}, slOk b y = true → ∃ o, partD y = some o := fun {b y} h => by
      cases y with
      | none => exact ⟨_, rfl⟩
      | int i => exact ⟨_, rfl⟩
      | _ => cases b <;> cases h
    cases q1 : evE Φ cb ρ1 with
    | bad => rw [q1] at p1; exact p1
    | exc x ρ' => rw [q1] at p1; exact p1
    | ok y ρ2 =>
      rw [q1] at p1
      intro F2 H2 v2 l2 S2 r2
      have p2 : PostE w F2 σ Q (if slOk cb.isNon y then (evE Φ cc ρ2).bind fun z ρ => if slOk cc.isNon z then .of (slD d y z) ρ else .bad else .bad) := PostE.up p1 l2
      by_cases k1 : slOk cb.isNon y = true
      · obtain ⟨o, e⟩ := part k1
        rw [if_pos k1] at p2
        refine ⟨y, o, ⟨F2, r2⟩, e, k1, ρ2, F2, S2, ?_⟩
        cases q2 : evE Φ cc ρ2 with
        | bad => rw [q2] at p2; exact p2
        | exc x ρ' => rw [q2] at p2; exact p2
        | ok z ρ3 =>
          rw [q2] at p2
          intro F3 H3 v3 l3 S3 r3
          have p3 : PostE w F3 σ Q (if slOk cc.isNon z then .of (slD d y z) ρ3 else .bad) := PostE.up p2 l3
          by_cases k2 : slOk cc.isNon z = true
          · obtain ⟨o2, e2⟩ := part k2
            rw [if_pos k2] at p3
            obtain ⟨zz, ez, q⟩ := PostE.of p3 S3
            refine ⟨z, o2, ⟨F3, r3⟩, e2, k2, ?_⟩
            rw [hK]
            exact ⟨F3, d, y, z, zz, S3.fh, r1.mo (l2.tr l3), e, e2, ez, q⟩
          · rw [if_neg k2] at p3
            exact p3.elim
      · rw [if_neg k1] at p2
        exact p2.elim⟩
/-! ### built-ins -/
def biN : Bi → Str
  | .len => "len" | .abs => "abs" | .tuple => "tuple" | .list => "list" | .sum => "sum" | .all => "all" | .any => "any" | .min => "min" | .max => "max" | .min2 => "min" | .max2 => "max" | .int => "int" | .sorted => "sorted"
theorem sE_bi (hK : X.K = w.K) (hc : X.calm = true) (f : Bi) {p : Pos} (hg : Gl X (biN f)) (hm : X.mg (biN f) = none) (ha : PA X (e :: es) (tA Φ w ca)) (he : starEach (e :: es) X.env = (false, eval e X.env) :: starEach es X.env) (hpl : (backTo pos (starEach es X.env)).any (·.1) = false) :
    PE X (.Call (.Name (biN f) p) (e :: es) [] pos) (tE Φ w (.bi f ca)) := by
  have h : PE X (.Call (.Name (biN f) p) (e :: es) [] pos) (tCB (rBi X.K (biD f)) (tA Φ w ca)) := by
    have o := ob_bi hc f
    cases f with
    | len => exact pe_callB o hg hm PySem.boot_len ha (by decide) (by decide) he hpl
    | abs => exact pe_callB o hg hm (by decide +kernel) ha (by decide) (by decide) he hpl
    | sum => exact pe_callB o hg hm (by decide +kernel) ha (by decide) (by decide) he hpl
    | all => exact pe_callB o hg hm (by decide +kernel) ha (by decide) (by decide) he hpl
    | any => exact pe_callB o hg hm (by decide +kernel) ha (by decide) (by decide) he hpl
    | min => exact pe_callB o hg hm (by decide +kernel) ha (by decide) (by decide) he hpl
    | max => exact pe_callB o hg hm (by decide +kernel) ha (by decide) (by decide) he hpl
    | min2 => exact pe_callB o hg hm (by decide +kernel) ha (by decide) (by decide) he hpl
    | max2 => exact pe_callB o hg hm (by decide +kernel) ha (by decide) (by decide) he hpl
    | sorted => exact pe_callB o hg hm (by decide +kernel) ha (by decide) (by decide) he hpl
    | tuple => exact pe_callTy o hg hm (by decide +kernel) ha (by decide) (by decide) he hpl
    | list => exact pe_callTy o hg hm (by decide +kernel) ha (by decide) (by decide) he hpl
    | int => exact pe_callTy o hg hm (by decide +kernel) ha (by decide) (by decide) he hpl
  exact h.via fun σ H Q ⟨ρ, F, S, p⟩ => ⟨ρ, F, S, PostA.mono (PostA.bind p) fun vs H1 ⟨d, ρ1, F1, l1, S1, r1, p1⟩ => by
    obtain ⟨z, e, q⟩ := PostE.of p1 S1
    rw [hK]
    exact ⟨F1, _, z, S1.fh, r1, e, q⟩⟩
theorem sE_isi (hK : X.K = w.K) (t : Ty) {p p2 : Pos} (hg : Gl X "isinstance") (hm : X.mg "isinstance" = none) (hg2 : Gl X (Str.ofString (tyN t))) (hm2 : X.mg (Str.ofString (tyN t)) = none) (ha : PE X a (tE Φ w ca))
    (he : starEach [a, .Name (Str.ofString (tyN t)) p2] X.env = (false, eval a X.env) :: starEach [.Name (Str.ofString (tyN t)) p2] X.env) :
    PE X (.Call (.Name "isinstance" p) [a, .Name (Str.ofString (tyN t)) p2] [] pos) (tE Φ w (.isi ca t)) := by
  have hty : PE X (.Name (Str.ofString (tyN t)) p2) (tC (.ty (tyN t))) := by
    cases t <;> exact pe_bltn hg2 hm2 (by decide +kernel) rfl (by decide) (by decide)
  have hA : PA X [a, .Name (Str.ofString (tyN t)) p2] _ := pa_cons ha (pa_cons hty pa_nil) he
  exact (pe_callB (ob_isi t) hg hm (by decide +kernel) hA (by decide) (by decide) he).via fun σ H Q ⟨ρ, F, S, p⟩ => ⟨ρ, F, S, PostE.mono (PostE.bind p) fun v H1 ⟨d, ρ1, F1, l1, S1, r1, p1⟩ => by
    refine ⟨F1, d, v, rfl, S1.fh, by rw [hK]; exact r1, ?_⟩
    exact p1 F1 H1 _ FLe.rf S1 (.bl _)⟩
end
end HM

namespace HM
open PySem PySem.Spec PyProof.Rows L2

/-! ### what a def promises -/
/-- the arguments: the one at io is a list that the def may change -/
structure ArgsOk (K : PySem.W.Frag) (F H : Hp) (pa : Addr) (io : Option Nat) (args : List PyData) (vs : List V) : Prop where
  len : args.length = vs.length
  val : ∀ (i : Nat) d v, io ≠ some i → args[i]? = some d → vs[i]? = some v → Rep K F d v
  lst : ∀ (i : Nat) d v, io = some i → args[i]? = some d → vs[i]? = some v → ∃ ds xs, d = .list ds ∧ v = .ref pa ∧ F pa = none ∧ H pa = some (.lst xs) ∧ RepAll K F ds xs
/-- what a call leaves -/
structure Left (K : PySem.W.Frag) (G : Hp) (pa : Addr) (io : Option Nat) (F F' H' : Hp) (ds : List PyData) : Prop where
  ff : FLe F F'
  fh : FLe F' H'
  gh : FLe G H'
  fg : ∀ a, F' a = none ∨ G a = none
  pn : H' pa ≠ none
  lst : io ≠ none → F' pa = none ∧ ∃ xs, H' pa = some (.lst xs) ∧ RepAll K F' ds xs
def RetOk (K : PySem.W.Frag) (G : Hp) (pa : Addr) (own : Bool) (F' H' : Hp) (d : PyData) (v : V) : Prop :=
  if own = true then ∃ ds p xs, d = .list ds ∧ v = .ref p ∧ H' p = some (.lst xs) ∧ F' p = none ∧ G p = none ∧ p ≠ pa ∧ RepAll K F' ds xs else Rep K F' d v
def SpPost (K : PySem.W.Frag) (XR : XRT) (F G : Hp) (pa : Addr) (io : Option Nat) (own : Bool) (Q : VK) (E : XK) : FR → Prop
  | .ok d ds => ∀ F' H' v, Left K G pa io F F' H' ds → RetOk K G pa own F' H' d v → Q v H'
  | .exc x ds => ∀ F' H' cls dd, Left K G pa io F F' H' ds → XR F' x cls dd H' → E cls dd H'
  | .bad => False
def spOf (K : PySem.W.Frag) (XR : XRT) (f : List PyData → FR) (io : Option Nat) (own : Bool) : Sp := fun vs H Q E =>
  ∃ F G pa args, FLe F H ∧ FLe G H ∧ (∀ a, F a = none ∨ G a = none) ∧ H pa ≠ none ∧ (io ≠ none → G pa = none) ∧ ArgsOk K F H pa io args vs ∧ SpPost K XR F G pa io own Q E (f args)

/-- what a caller keeps from a callee: all that is not frozen, but the list handed in -/
noncomputable def others (F H : Hp) (p : Option Addr) : Hp := fun a => if F a = none ∧ p ≠ some a then H a else none
theorem others_le {F H : Hp} {p : Option Addr} : FLe (others F H p) H := fun a o e => by
  unfold others at e
  split at e
  · exact e
  · cases e
theorem others_sep {F H : Hp} {p : Option Addr} (a : Addr) : F a = none ∨ others F H p a = none := by
  by_cases h : F a = none
  · exact .inl h
  · refine .inr ?_
    unfold others
    rw [if_neg (fun z => h z.1)]
theorem others_at {F H : Hp} {p : Option Addr} {a : Addr} (h : F a = none) (n : p ≠ some a) : others F H p a = H a := by
  unfold others
  rw [if_pos ⟨h, n⟩]
theorem others_p {F H : Hp} {a : Addr} : others F H (some a) a = none := by
  unfold others
  rw [if_neg (fun z => z.2 rfl)]
section
variable {K : PySem.W.Frag} {G : Hp} {pa : Addr} {F F' H H' : Hp} {ρ : Env} {σ : L2.St}
/-- behind a call that changes no list of ours -/
theorem Sim.called (S : Sim K G pa F H ρ σ) {ds : List PyData} (L : Left K (others F H none) pa none F F' H' ds) : Sim K G pa F' H' ρ σ := by
  have keep : ∀ a o, F a = none → H a = some o → H' a = some o ∧ F' a = none := fun a o f e => by
    have e2 : others F H none a = some o := by rw [others_at f (fun z => by cases z)]; exact e
    exact ⟨L.gh a o e2, (L.fg a).resolve_right (by rw [e2]; intro z; cases z)⟩
  have gF : ∀ a o, G a = some o → F a = none := fun a o e => (S.fg a).resolve_right (by rw [e]; intro z; cases z)
  refine ⟨L.fh, fun a o e => (keep a o (gF a o e) (S.gh a o e)).1, fun a => ?_, L.pn, S.len, fun i s hi => ?_, S.sep⟩
  · cases q : G a with
    | none => exact .inr rfl
    | some o => exact .inl (keep a o (gF a o q) (S.gh a o q)).2
  · have q := S.slot i s hi
    cases s with
    | un => trivial
    | val d => obtain ⟨v, e, r⟩ := q; exact ⟨v, e, r.mo L.ff⟩
    | mu es => obtain ⟨a, xs, e, f, g, n, hx, r⟩ := q; exact ⟨a, xs, e, (keep a _ f hx).2, g, n, (keep a _ f hx).1, r.mo L.ff⟩
    | par es => obtain ⟨xs, e, f, g, hx, r⟩ := q; exact ⟨xs, e, (keep pa _ f hx).2, g, (keep pa _ f hx).1, r.mo L.ff⟩
/-- behind a call that changed the list at a, slot i's -/
theorem Sim.calledM (S : Sim K G pa F H ρ σ) {i : Nat} {s : Slot} {a : Addr} {xs : List V} {p : Nat} {es : List PyData} (hi : ρ[i]? = some s) (ms : isM s = true) (hσ : σ[i]? = some (some (.ref a))) (ha : H a = some (.lst xs)) (fa : F a = none) (ga : G a = none)
    (L : Left K (others F H (some a)) a (some p) F F' H' es) (pn : H' pa ≠ none) : Sim K G pa F' H' (ρ.set i (remut s es)) σ := by
  have keep : ∀ b o, b ≠ a → F b = none → H b = some o → H' b = some o ∧ F' b = none := fun b o n f e => by
    have e2 : others F H (some a) b = some o := by rw [others_at f (fun z => n (Option.some.inj z).symm)]; exact e
    exact ⟨L.gh b o e2, (L.fg b).resolve_right (by rw [e2]; intro z; cases z)⟩
  have gF : ∀ a o, G a = some o → F a = none := fun a o e => (S.fg a).resolve_right (by rw [e]; intro z; cases z)
  have gN : ∀ b o, G b = some o → b ≠ a := fun b o e z => by subst z; rw [ga] at e; cases e
  obtain ⟨fa', ys, ha', ry⟩ := L.lst (fun z => by cases z)
  refine ⟨L.fh, fun b o e => (keep b o (gN b o e) (gF b o e) (S.gh b o e)).1, fun b => ?_, pn, by rw [List.length_set, S.len], fun j t hj => ?_, fun j k t u b hj hk mt mu e1 e2 => ?_⟩
  · cases q : G b with
    | none => exact .inr rfl
    | some o => exact .inl (keep b o (gN b o q) (gF b o q) (S.gh b o q)).2
  · rcases get_set hj with ⟨rfl, rfl, hl⟩ | ⟨ne, hj⟩
    · have q := S.slot j s hi
      cases s with
      | un => cases ms
      | val d => cases ms
      | mu ds => obtain ⟨b, zs, e, f, g, n, hx, r⟩ := q; rw [hσ] at e; cases e; exact ⟨a, ys, hσ, fa', g, n, ha', ry⟩
      | par ds => obtain ⟨zs, e, f, g, hx, r⟩ := q; rw [hσ] at e; cases e; exact ⟨ys, hσ, fa', g, ha', ry⟩
    · have q := S.slot j t hj
      cases t with
      | un => trivial
      | val d => obtain ⟨v, e, r⟩ := q; exact ⟨v, e, r.mo L.ff⟩
      | mu ds =>
        obtain ⟨b, zs, e, f, g, n, hx, r⟩ := q
        have nb : b ≠ a := fun z => by subst z; exact ne (S.sep j i _ _ _ hj hi rfl ms e hσ)
        exact ⟨b, zs, e, (keep b _ nb f hx).2, g, n, (keep b _ nb f hx).1, r.mo L.ff⟩
      | par ds =>
        obtain ⟨zs, e, f, g, hx, r⟩ := q
        have nb : pa ≠ a := fun z => by subst z; exact ne (S.sep j i _ _ _ hj hi rfl ms e hσ)
        exact ⟨zs, e, (keep pa _ nb f hx).2, g, (keep pa _ nb f hx).1, r.mo L.ff⟩
  · have im : ∀ s es, isM s = true → isM (remut s es) = true := fun s es h => by cases s <;> first | rfl | cases h
    rcases get_set hj with ⟨rfl, rfl, hl⟩ | ⟨ne, hj'⟩
    · rcases get_set hk with ⟨rfl, rfl, hl⟩ | ⟨nk, hk'⟩
      · rfl
      · exact S.sep j k s u b hi hk' ms mu e1 e2
    · rcases get_set hk with ⟨rfl, rfl, hl⟩ | ⟨nk, hk'⟩
      · exact S.sep j k t s b hj' hi mt ms e1 e2
      · exact S.sep j k t u b hj' hk' mt mu e1 e2
end
/-- a callee keeps its promise -/
structure FnHas (X : Cx) (XR : XRT) (k : Nat) (x : Str) (f : List PyData → FR) (pars : Nat) (io : Option Nat) (own : Bool) : Prop where
  ex : ∃ (g : Addr) (fd : FuncData) (ps : List Str), X.mg x = some (.ref g) ∧ PySem.W.keepIn X.K (.ref g) = true ∧ Binds X.K fd ps [] ∧ ps.length = pars ∧ FnOk X.prog X.w X.K X.mg X.base (L2.CX X.prog X.w) k g fd ps (spOf X.K XR f io own)
section
variable {X : Cx} {Φ : Fns} {w : Wd} {pos p : Pos} {e : Expr} {es : List Expr} {ca : E} {k : Nat} {x : Str} {E0 : L2.St → XK}
theorem pe_call0S {CX : CXT} {f : Addr} {fd : FuncData} {ps : List Str} {sp : Sp} (F : FnOk X.prog X.w X.K X.mg X.base CX k f fd ps sp) (hr : Room k X.A) (hg : Gl X x) (hm : X.mg x = some (.ref f)) (hk : PySem.W.keepIn X.K (.ref f) = true) (hb : Binds X.K fd ps []) (hx : ∀ σ, PassesAt CX X σ (E0 σ))
    (hdb : (x == ("__debug__" : Str)) = false) : PE X (.Call (.Name x p) [] [] pos) (tCallS sp E0 tNil) := by
  refine ⟨fun pins s σ H Q I h => ?_⟩
  refine wpAny_Call_Name_kw (ld_glob I hg hm ?_ hdb)
  exact PySem.W.callWith_K0 I.kIn hk (run_fnS (us := []) F hr hb (hx σ) I .nil h)
theorem pe_callA {CX : CXT} {f : Addr} {fd : FuncData} {ps : List Str} {sp : Sp} {t : TA} (F : FnOk X.prog X.w X.K X.mg X.base CX k f fd ps sp) (hr : Room k X.A) (hg : Gl X x) (hm : X.mg x = some (.ref f)) (hk : PySem.W.keepIn X.K (.ref f) = true) (hb : Binds X.K fd ps []) (hx : ∀ σ, PassesAt CX X σ (E0 σ))
    (hdb : (x == ("__debug__" : Str)) = false) (ha : PA X es t) (hn : ∀ σ H Q, es = [] → t σ H Q → Q [] H) (hs : ∀ e r, es = e :: r → starEach (e :: r) X.env = (false, eval e X.env) :: starEach r X.env) (hpl : (backTo pos (starEach es.tail X.env)).any (·.1) = false) : PE X (.Call (.Name x p) es [] pos) (tCallS sp E0 t) := by
  cases es with
  | nil => exact (pe_call0S F hr hg hm hk hb hx hdb).via fun σ H Q h => hn σ H _ rfl h
  | cons e r => exact pe_callS F hr hg hm hk hb hx ha hdb (hs e r rfl) hpl
theorem args_ok {K : PySem.W.Frag} {F H : Hp} {pa : Addr} {args : List PyData} {vs : List V} (r : RepAll K F args vs) : ArgsOk K F H pa none args vs :=
  ⟨r.length, fun i d v _ h1 h2 => by obtain ⟨v', e, q⟩ := r.get h1; rw [e] at h2; cases h2; exact q, fun i d v h => by cases h⟩
theorem tA_nil_at (h : ∀ ρ, evE Φ ca ρ = .ok (.tuple []) ρ) : ∀ σ H Q, tA Φ w ca σ H Q → Q [] H := fun σ H Q ⟨ρ, F, S, p⟩ => by
  rw [h] at p
  exact p F H [] FLe.rf S .nil
theorem sE_call (hK : X.K = w.K) (tk : Takes X w.W) (hr : Room k X.A) {fn pars : Nat} {own : Bool} (hf : FnHas X w.XR k x (Φ fn) pars none own) (hg : Gl X x) (hdb : (x == ("__debug__" : Str)) = false) (ha : PA X es (tA Φ w ca))
    (hn : es = [] → ∀ ρ, evE Φ ca ρ = .ok (.tuple []) ρ) (hs : ∀ e r, es = e :: r → starEach (e :: r) X.env = (false, eval e X.env) :: starEach r X.env) (hpl : (backTo pos (starEach es.tail X.env)).any (·.1) = false) :
    PE X (.Call (.Name x p) es [] pos) (tE Φ w (.call fn ca)) := by
  obtain ⟨g, fd, ps, hm, hk, hb, hl, F⟩ := hf.ex
  refine (pe_callA F hr hg hm hk hb (passAt tk) hdb ha (fun σ H Q e h => tA_nil_at (hn e) σ H Q h) hs hpl).via fun σ H Q ⟨ρ, F, S, q⟩ => ⟨ρ, F, S, PostA.mono (PostA.bind q) fun vs H1 ⟨d, ρ1, F1, l1, S1, r1, p1⟩ => ?_⟩
  dsimp only at p1
  refine ⟨F1, others F1 H1 none, w.pa, tupOf d, S1.fh, others_le, others_sep, S1.pn, fun z => absurd rfl z, by rw [hK]; exact args_ok r1, ?_⟩
  rw [hK]
  cases q2 : Φ fn (tupOf d) with
  | bad => rw [q2] at p1; exact p1
  | exc z ds =>
    rw [q2] at p1
    exact fun F' H' cls dd L xr => p1 F' H' cls dd L.ff (S1.called L) xr
  | ok y ds =>
    rw [q2] at p1
    intro F' H' v L ret
    have S2 := S1.called L
    cases own with
    | false => exact p1 F' H' v L.ff S2 ret
    | true =>
      obtain ⟨zs, pp, xs, rfl, rfl, h1, h2, h3, h4, h5⟩ := ret
      have fr : Fresh w.K w.G w.pa F' H' ρ1 σ pp xs := by
        have hp : ∀ o, H1 pp = some o → F1 pp ≠ none := fun o e f => by rw [others_at f (fun z => by cases z), e] at h3; cases h3
        refine ⟨h1, h2, ?_, h4, fun j s hj ms e => ?_⟩
        · cases q : w.G pp with
          | none => rfl
          | some o => exact absurd ((S1.fg pp).resolve_right (by rw [q]; intro z; cases z)) (hp o (S1.gh _ _ q))
        · have q := S1.slot j s hj
          cases s with
          | un => cases ms
          | val d => cases ms
          | mu ds => obtain ⟨b, ys, e', f, g, n, hx, r⟩ := q; rw [e] at e'; cases e'; exact hp _ hx f
          | par ds => obtain ⟨ys, e', f, g, hx, r⟩ := q; rw [e] at e'; cases e'; exact hp _ hx f
      obtain ⟨le, S3⟩ := fr.frz S2
      exact p1 _ H' _ (L.ff.tr le) S3 (.lst (.inl upd_same) (h5.mo le))
end
end HM

namespace HM
open PySem PySem.Spec PyProof.Rows L2

theorem insAt_get {α : Type} {p : Nat} {x : α} {l : List α} (hp : p ≤ l.length) (j : Nat) : (insAt p x l)[j]? = if j < p then l[j]? else if j = p then some x else l[j - 1]? := by
  unfold insAt
  have lt : (l.take p).length = p := by rw [List.length_take]; omega
  by_cases h : j < p
  · rw [if_pos h, List.getElem?_append_left (by rw [lt]; exact h), List.getElem?_take_of_lt h]
  · rw [if_neg h, List.getElem?_append_right (by rw [lt]; omega), lt]
    by_cases e : j = p
    · subst e
      rw [if_pos rfl, Nat.sub_self]
      rfl
    · rw [if_neg e]
      obtain ⟨m, rfl⟩ : ∃ m, j = p + 1 + m := ⟨j - p - 1, by omega⟩
      rw [show p + 1 + m - p = m + 1 by omega, List.getElem?_cons_succ, List.getElem?_drop, show p + 1 + m - 1 = p + m by omega]
theorem insAt_len {α : Type} {p : Nat} {x : α} {l : List α} : (insAt p x l).length = l.length + 1 := by
  unfold insAt
  rw [List.length_append, List.length_cons, List.length_take, List.length_drop]
  omega
theorem args_io {K : PySem.W.Frag} {F H : Hp} {a : Addr} {p : Nat} {args ds : List PyData} {vs xs : List V} (hp : p ≤ args.length) (r : RepAll K F args vs) (f : F a = none) (h : H a = some (.lst xs)) (rd : RepAll K F ds xs) :
    ArgsOk K F H a (some p) (insAt p (.list ds) args) (insAt p (.ref a) vs) := by
  have l := r.length
  refine ⟨by rw [insAt_len, insAt_len, l], fun i d v n h1 h2 => ?_, fun i d v n h1 h2 => ?_⟩
  · rw [insAt_get hp] at h1
    rw [insAt_get (by omega)] at h2
    have ne : i ≠ p := fun z => n (by rw [z])
    by_cases c : i < p
    · rw [if_pos c] at h1 h2
      obtain ⟨v', e, q⟩ := r.get h1
      rw [e] at h2; cases h2; exact q
    · rw [if_neg c, if_neg ne] at h1 h2
      obtain ⟨v', e, q⟩ := r.get h1
      rw [e] at h2; cases h2; exact q
  · cases n
    rw [insAt_get hp, if_neg (Nat.lt_irrefl _), if_pos rfl] at h1
    rw [insAt_get (by omega), if_neg (Nat.lt_irrefl _), if_pos rfl] at h2
    cases h1; cases h2
    exact ⟨ds, xs, rfl, rfl, f, h, rd⟩
section
variable {X : Cx} {Φ : Fns} {w : Wd} {pos p p2 : Pos} {a b e : Expr} {es : List Expr} {ca cb : E} {k : Nat} {x : Str}
/-- arguments, one of which is a list that the callee may change -/
def tAio (Φ : Fns) (w : Wd) (q i : Nat) (c : E) : TA := fun σ H Q => ∃ ρ F, w.sim F H ρ σ ∧ ∃ v, σ[i]? = some (some v) ∧ PostA w F σ (fun vs H1 => Q (insAt q v vs) H1) (evE Φ c ρ)
theorem sA_io0 {i : Nat} (hN : X.N[i]? = some x) (hv : Vis X.env.scope x) (hd : (x == ("__debug__" : Str)) = false) (hc : (x == ("__classdict__" : Str)) = false) (ha : PA X es (tA Φ w ca)) : PA X (.Name x p :: es) (tAio Φ w 0 i ca) :=
  (pa_cons (pe_var hN hv hd hc) ha).via fun σ H Q ⟨ρ, F, S, v, e, q⟩ => ⟨v, e, ρ, F, S, q⟩
theorem sA_ioS {q i : Nat} (ha : PE X a (tE Φ w ca)) (hb : PA X es (tAio Φ w q i cb)) (hs : starEach (a :: es) X.env = (false, eval a X.env) :: starEach es X.env) : PA X (a :: es) (tAio Φ w (q + 1) i (.cons ca cb)) :=
  (pa_cons ha hb hs).via fun σ H Q ⟨ρ, F, S, v, e, p⟩ => ⟨ρ, F, S, by
    refine PostE.mono (PostE.bindA p) fun u H1 ⟨d, ρ1, F1, l1, S1, r1, p1⟩ => ⟨ρ1, F1, S1, v, e, ?_⟩
    refine PostA.mono (PostA.bindA p1) fun vs H2 ⟨d2, ρ2, F2, l2, S2, r2, p2⟩ => ?_
    exact p2 F2 H2 _ FLe.rf S2 (.cons (r1.mo l2) r2)⟩
theorem sE_callio (hK : X.K = w.K) (tk : Takes X w.W) (hr : Room k X.A) {fn pars q i : Nat} (hf : FnHas X w.XR k x (Φ fn) pars (some q) false) (hl : ∀ args, Φ fn args ≠ .bad → args.length = pars) (hq : q < pars) (hg : Gl X x) (hdb : (x == ("__debug__" : Str)) = false) (ha : PA X es (tAio Φ w q i ca))
    (hne : es ≠ []) (hs : ∀ e r, es = e :: r → starEach (e :: r) X.env = (false, eval e X.env) :: starEach r X.env) (hpl : (backTo pos (starEach es.tail X.env)).any (·.1) = false) :
    PE X (.Call (.Name x p) es [] pos) (tE Φ w (.callio fn q i ca)) := by
  obtain ⟨g, fd, ps, hm, hk, hb, hpl', F⟩ := hf.ex
  refine (pe_callA F hr hg hm hk hb (passAt tk) hdb ha (fun σ H Q e h => absurd e hne) hs hpl).via fun σ H Q ⟨ρ, F, S, h⟩ => ?_
  have h : PostE w F σ Q (if (mutS (getS ρ i)).isSome then (evE Φ ca ρ).bind fun x ρ => match mutS (getS ρ i) with
    | none => .bad
    | some ds => match Φ fn (insAt q (.list ds) (tupOf x)) with
      | .ok d ds' => .ok d (ρ.set i (remut (getS ρ i) ds'))
      | .exc z ds' => .exc z (ρ.set i (remut (getS ρ i) ds'))
      | .bad => .bad
    else .bad) := h
  cases q0 : mutS (getS ρ i) with
  | none => rw [q0] at h; exact h.elim
  | some ds0 =>
    rw [q0, if_pos (show (some ds0).isSome = true from rfl)] at h
    obtain ⟨s0, a, xs0, hi0, ms0, im0, hσ, fa0, ga0, ha0, rr0⟩ := S.mutL q0
    refine ⟨ρ, F, S, .ref a, hσ, PostA.mono (PostA.bind h) fun vs H1 ⟨d, ρ1, F1, l1, S1, r1, p1⟩ => ?_⟩
    dsimp only at p1
    cases q1 : mutS (getS ρ1 i) with
    | none => rw [q1] at p1; exact p1.elim
    | some ds =>
      rw [q1] at p1
      obtain ⟨s1, a1, xs, hi, ms, im, hσ1, fa, ga, ha1, rr⟩ := S1.mutL q1
      rw [hσ] at hσ1
      cases hσ1
      have gs : getS ρ1 i = s1 := by
        unfold getS
        rw [List.getD_eq_getElem?_getD, hi]
        rfl
      rw [gs] at p1
      have hlen : Φ fn (insAt q (.list ds) (tupOf d)) ≠ .bad := fun z => by
        dsimp only at p1
        rw [z] at p1
        exact p1
      have hlen2 := hl _ hlen
      rw [insAt_len] at hlen2
      refine ⟨F1, others F1 H1 (some a), a, _, S1.fh, others_le, others_sep, (fun z => by rw [ha1] at z; cases z), fun _ => others_p, by rw [hK]; exact args_io (by omega) r1 fa ha1 rr, ?_⟩
      rw [hK]
      dsimp only at p1
      cases q2 : Φ fn (insAt q (.list ds) (tupOf d)) with
      | bad => exact absurd q2 hlen
      | exc z es' =>
        rw [q2] at p1
        intro F' H' cls dd L xr
        have pn : H' w.pa ≠ none := by
          by_cases e : w.pa = a
          · rw [e]; exact L.pn
          · intro z
            cases q3 : F1 w.pa with
            | some o =>
              have := L.fh _ _ (L.ff _ _ q3)
              rw [this] at z; cases z
            | none =>
              cases q4 : H1 w.pa with
              | none => exact S1.pn q4
              | some o =>
                have := L.gh w.pa o (by rw [others_at q3 (fun z => e (Option.some.inj z).symm)]; exact q4)
                rw [this] at z; cases z
        exact p1 F' H' cls dd L.ff (S1.calledM hi im hσ ha1 fa ga L pn) xr
      | ok y es' =>
        rw [q2] at p1
        intro F' H' v L ret
        have pn : H' w.pa ≠ none := by
          by_cases e : w.pa = a
          · rw [e]; exact L.pn
          · intro z
            cases q3 : F1 w.pa with
            | some o =>
              have := L.fh _ _ (L.ff _ _ q3)
              rw [this] at z; cases z
            | none =>
              cases q4 : H1 w.pa with
              | none => exact S1.pn q4
              | some o =>
                have := L.gh w.pa o (by rw [others_at q3 (fun z => e (Option.some.inj z).symm)]; exact q4)
                rw [this] at z; cases z
        exact p1 F' H' v L.ff (S1.calledM hi im hσ ha1 fa ga L pn) ret
/-- an own list back, kept as the def's own -/
theorem sF_call (hK : X.K = w.K) (tk : Takes X w.W) (hr : Room k X.A) {fn pars : Nat} (hf : FnHas X w.XR k x (Φ fn) pars none true) (hg : Gl X x) (hdb : (x == ("__debug__" : Str)) = false) (ha : PA X es (tA Φ w ca))
    (hn : es = [] → ∀ ρ, evE Φ ca ρ = .ok (.tuple []) ρ) (hs : ∀ e r, es = e :: r → starEach (e :: r) X.env = (false, eval e X.env) :: starEach r X.env) (hpl : (backTo pos (starEach es.tail X.env)).any (·.1) = false) :
    PE X (.Call (.Name x p) es [] pos) (tF Φ w (.call fn ca)) := by
  obtain ⟨g, fd, ps, hm, hk, hb, hl, F⟩ := hf.ex
  refine (pe_callA F hr hg hm hk hb (passAt tk) hdb ha (fun σ H Q e h => tA_nil_at (hn e) σ H Q h) hs hpl).via fun σ H Q ⟨ρ, F, S, q⟩ => ⟨ρ, F, S, ?_⟩
  have q : PostF w F σ Q ((evE Φ ca ρ).bind fun x ρ => match Φ fn (tupOf x) with
    | .ok d _ => .ok d ρ
    | .exc z _ => .exc z ρ
    | .bad => .bad) := q
  cases q1 : evE Φ ca ρ with
  | bad => rw [q1] at q; exact q
  | exc z ρ1 => rw [q1] at q; exact q
  | ok d ρ1 =>
    rw [q1] at q
    have q : PostF w F σ Q (match Φ fn (tupOf d) with
      | .ok d _ => .ok d ρ1
      | .exc z _ => .exc z ρ1
      | .bad => .bad) := q
    intro F1 H1 vs l1 S1 r1
    refine ⟨F1, others F1 H1 none, w.pa, tupOf d, S1.fh, others_le, others_sep, S1.pn, fun z => absurd rfl z, by rw [hK]; exact args_ok r1, ?_⟩
    rw [hK]
    cases q2 : Φ fn (tupOf d) with
    | bad => rw [q2] at q; exact q
    | exc z ds =>
      rw [q2] at q
      exact fun F' H' cls dd L xr => q F' H' cls dd (l1.tr L.ff) (S1.called L) xr
    | ok y ds =>
      rw [q2] at q
      intro F' H' v L ret
      have S2 := S1.called L
      obtain ⟨zs, pp, xs, rfl, rfl, h1, h2, h3, h4, h5⟩ := ret
      have hp : ∀ o, H1 pp = some o → F1 pp ≠ none := fun o e f => by rw [others_at f (fun z => by cases z), e] at h3; cases h3
      refine q F' H' pp xs (l1.tr L.ff) S2 ⟨h1, h2, ?_, h4, fun j s hj ms e => ?_⟩ h5
      · cases q : w.G pp with
        | none => rfl
        | some o => exact absurd ((S1.fg pp).resolve_right (by rw [q]; intro z; cases z)) (hp o (S1.gh _ _ q))
      · have q := S1.slot j s hj
        cases s with
        | un => cases ms
        | val d => cases ms
        | mu ds => obtain ⟨b, ys, e', f, g, n, hx, r⟩ := q; rw [e] at e'; cases e'; exact hp _ hx f
        | par ds => obtain ⟨ys, e', f, g, hx, r⟩ := q; rw [e] at e'; cases e'; exact hp _ hx f
/-! ### lists that may change, looked at -/
theorem sE_lenM {i : Nat} (hN : X.N[i]? = some x) (hv : Vis X.env.scope x) (hd : (x == ("__debug__" : Str)) = false) (hc : (x == ("__classdict__" : Str)) = false) (hg : Gl X "len") (hm : X.mg "len" = none) :
    PE X (.Call (.Name "len" p) [.Name x p2] [] pos) (tE Φ w (.lenM i)) :=
  (pe_callB call_len_seq hg hm PySem.boot_len (pa_cons (pe_var hN hv hd hc) pa_nil (by rfl)) (by decide) (by decide) (by rfl) (by rfl)).via fun σ H Q ⟨ρ, F, S, h⟩ => by
    have h : PostE w F σ Q (match mutS (getS ρ i) with | some ds => .ok (.int ds.length) ρ | none => .bad) := h
    cases q0 : mutS (getS ρ i) with
    | none => rw [q0] at h; exact h.elim
    | some ds =>
      rw [q0] at h
      obtain ⟨s0, a, xs, hi, ms, im, hσ, fa, ga, ha, rr⟩ := S.mutL q0
      refine ⟨.ref a, hσ, a, xs, rfl, .inl (SqL.of ha), ?_⟩
      rw [← rr.length]
      exact h F H _ FLe.rf S (.int _)
theorem sE_ixM {i : Nat} (hN : X.N[i]? = some x) (hv : Vis X.env.scope x) (hd : (x == ("__debug__" : Str)) = false) (hc : (x == ("__classdict__" : Str)) = false) (hb : PE X b (tE Φ w cb)) (hs : PlainIx b) :
    PE X (.Subscript (.Name x p) b pos) (tE Φ w (.ixM i cb)) := 
  (pe_ix ix_list (pe_var hN hv hd hc) hb hs).via fun σ H Q ⟨ρ, F, S, h⟩ => by
    have h : PostE w F σ Q (if (mutS (getS ρ i)).isSome then (evE Φ cb ρ).bind fun x ρ => match mutS (getS ρ i), x with
      | some ds, .int k => .of (ixAt ds k) ρ
      | _, _ => .bad
      else .bad) := h
    cases q0 : mutS (getS ρ i) with
    | none => rw [q0] at h; exact h.elim
    | some ds0 =>
      rw [q0, if_pos (show (some ds0).isSome = true from rfl)] at h
      obtain ⟨s0, a, xs0, hi0, ms0, im0, hσ, fa0, ga0, ha0, rr0⟩ := S.mutL q0
      refine ⟨.ref a, hσ, ρ, F, S, PostE.mono (PostE.bind h) fun v H1 ⟨d, ρ1, F1, l1, S1, r1, p1⟩ => ?_⟩
      dsimp only at p1
      cases q1 : mutS (getS ρ1 i) with
      | none => rw [q1] at p1; exact p1.elim
      | some ds =>
        rw [q1] at p1
        cases r1 with
        | int kk =>
          obtain ⟨s1, a1, xs, hi, ms, im, hσ1, fa, ga, ha1, rr⟩ := S1.mutL q1
          rw [hσ] at hσ1
          cases hσ1
          obtain ⟨z, e, q⟩ := PostE.of p1 S1
          obtain ⟨u, e1, q1⟩ := ixAt_rep rr e
          exact ⟨a, xs, kk, u, rfl, rfl, SqL.of ha1, e1, q.now S1.fh q1⟩
        | _ => exact p1.elim
theorem op_nil (hu : X.A.units < cLine) : OpR X (compareOp .Eq) (fun x y H Q => ∃ a b xs, x = .ref a ∧ y = .ref b ∧ SqL X.K H a xs ∧ SqL X.K H b [] ∧ Q (.bl xs.isEmpty) H) := by
  intro pins s σ H x y v u Q I rx ry ⟨a, b, xs, e1, e2, h1, h2, q⟩
  subst e1 e2
  cases rx; cases ry
  exact ow_eq0L hu I h1 h2 q
theorem op_nnil (hu : X.A.units < cLine) : OpR X (compareOp .NotEq) (fun x y H Q => ∃ a b xs, x = .ref a ∧ y = .ref b ∧ SqL X.K H a xs ∧ SqL X.K H b [] ∧ Q (.bl (!xs.isEmpty)) H) := by
  intro pins s σ H x y v u Q I rx ry ⟨a, b, xs, e1, e2, h1, h2, q⟩
  subst e1 e2
  cases rx; cases ry
  exact ow_ne0L hu I h1 h2 q
theorem nil_got {i : Nat} {σ : L2.St} {H : Hp} {ρ : Env} {F : Hp} (S : w.sim F H ρ σ) {ds : List PyData} (q0 : mutS (getS ρ i) = some ds) {R : V → V → Hp → Prop}
    (h : ∀ a b xs H2, SqL X.K H2 a xs → SqL X.K H2 b [] → ds.isEmpty = xs.isEmpty → w.sim F H2 ρ σ → R (.ref a) (.ref b) H2) : tVar i σ H fun x H1 => tLst tNil σ H1 fun y H2 => R x y H2 := by
  obtain ⟨s0, a, xs, hi, ms, im, hσ, fa, ga, ha, rr⟩ := S.mutL q0
  refine ⟨.ref a, hσ, Nat.zero_le _, fun b hb => ?_⟩
  have na : a ≠ b := fun z => by subst z; rw [ha] at hb; cases hb
  exact h a b xs _ (SqL.of (by rw [upd_ne na]; exact ha)) (SqL.of upd_same) rr.emp (S.laid hb _)
theorem sE_nilM (hu : X.A.units < cLine) {i : Nat} (hN : X.N[i]? = some x) (hv : Vis X.env.scope x) (hd : (x == ("__debug__" : Str)) = false) (hc : (x == ("__classdict__" : Str)) = false) :
    PE X (.Compare (.Name x p) [.Eq] [.List [] p2] pos) (tE Φ w (.nilM i)) ∧ PT X (.Compare (.Name x p) [.Eq] [.List [] p2] pos) (tT Φ w (.nilM i)) := by
  have hb : behindInMarks .Eq (.List [] p2) = false := rfl
  refine ⟨(pe_cmpR (op_nil hu) (pe_var hN hv hd hc) (pe_lst pa_nil) hb).via fun σ H Q ⟨ρ, F, S, h⟩ => ?_, (pt_cmpR (op_nil hu) (pe_var hN hv hd hc) (pe_lst pa_nil) hb).via fun σ H Q ⟨ρ, F, S, h⟩ => ?_⟩
  · have h : PostE w F σ Q (match mutS (getS ρ i) with | some ds => .ok (.bool ds.isEmpty) ρ | none => .bad) := h
    cases q0 : mutS (getS ρ i) with
    | none => rw [q0] at h; exact h.elim
    | some ds =>
      rw [q0] at h
      exact nil_got S q0 fun a b xs H2 h1 h2 e S2 => ⟨a, b, xs, rfl, rfl, h1, h2, by rw [← e]; exact h F H2 _ FLe.rf S2 (.bl _)⟩
  · have h : PostT w F σ Q (match mutS (getS ρ i) with | some ds => .ok (.bool ds.isEmpty) ρ | none => .bad) := h
    cases q0 : mutS (getS ρ i) with
    | none => rw [q0] at h; exact h.elim
    | some ds =>
      rw [q0] at h
      exact nil_got S q0 fun a b xs H2 h1 h2 e S2 => ⟨a, b, xs, rfl, rfl, h1, h2, _, rfl, by rw [← e]; exact h F H2 FLe.rf S2⟩
theorem sE_nnilM (hu : X.A.units < cLine) {i : Nat} (hN : X.N[i]? = some x) (hv : Vis X.env.scope x) (hd : (x == ("__debug__" : Str)) = false) (hc : (x == ("__classdict__" : Str)) = false) :
    PE X (.Compare (.Name x p) [.NotEq] [.List [] p2] pos) (tE Φ w (.not (.nilM i))) ∧ PT X (.Compare (.Name x p) [.NotEq] [.List [] p2] pos) (tT Φ w (.not (.nilM i))) := by
  have hb : behindInMarks .NotEq (.List [] p2) = false := rfl
  refine ⟨(pe_cmpR (op_nnil hu) (pe_var hN hv hd hc) (pe_lst pa_nil) hb).via fun σ H Q ⟨ρ, F, S, h⟩ => ?_, (pt_cmpR (op_nnil hu) (pe_var hN hv hd hc) (pe_lst pa_nil) hb).via fun σ H Q ⟨ρ, F, S, h⟩ => ?_⟩
  · have h : PostE w F σ Q (R.bind (match mutS (getS ρ i) with | some ds => .ok (PyData.bool ds.isEmpty) ρ | none => .bad : R PyData) fun x ρ => match x with | .bool b => .ok (.bool (!b)) ρ | _ => .bad) := h
    cases q0 : mutS (getS ρ i) with
    | none => rw [q0] at h; exact h.elim
    | some ds =>
      rw [q0] at h
      exact nil_got S q0 fun a b xs H2 h1 h2 e S2 => ⟨a, b, xs, rfl, rfl, h1, h2, by rw [← e]; exact h F H2 _ FLe.rf S2 (.bl _)⟩
  · have h : PostT w F σ Q (R.bind (match mutS (getS ρ i) with | some ds => .ok (PyData.bool ds.isEmpty) ρ | none => .bad : R PyData) fun x ρ => match x with | .bool b => .ok (.bool (!b)) ρ | _ => .bad) := h
    cases q0 : mutS (getS ρ i) with
    | none => rw [q0] at h; exact h.elim
    | some ds =>
      rw [q0] at h
      exact nil_got S q0 fun a b xs H2 h1 h2 e S2 => ⟨a, b, xs, rfl, rfl, h1, h2, _, rfl, by rw [← e]; exact h F H2 FLe.rf S2⟩
theorem sE_popM {i : Nat} {apos : Pos} (hN : X.N[i]? = some x) (hv : Vis X.env.scope x) (hd : (x == ("__debug__" : Str)) = false) (hc : (x == ("__classdict__" : Str)) = false) (hb : PE X b (tE Φ w cb))
    (hs : starEach [b] X.env = (false, eval b X.env) :: starEach [] X.env) (hline : (apos.endLine == pos.line) = true) :
    PE X (.Call (.Attribute (.Name x p) "pop" apos) [b] [] pos) (tE Φ w (.popM i cb)) :=
  (pe_bm PySem.F.plainAttrs_list PySem.F.slot_list_pop PySem.F.type_list_pop mt_popAt (pe_var hN hv hd hc) (pa_cons hb pa_nil hs) (by rfl) (by rw [hs]; rfl) hline hs (by rfl)).via fun σ H Q ⟨ρ, F, S, h⟩ => by
    have h : PostE w F σ Q (if (mutS (getS ρ i)).isSome then (evE Φ cb ρ).bind fun x ρ => match mutS (getS ρ i), x with
      | some ds, .int k => (match ds[k.toNat]? with
        | some d => if 0 ≤ k ∧ k < 2 ^ 63 then .ok d (ρ.set i (remut (getS ρ i) (ds.eraseIdx k.toNat))) else .bad
        | none => .bad)
      | _, _ => .bad
      else .bad) := h
    cases q0 : mutS (getS ρ i) with
    | none => rw [q0] at h; exact h.elim
    | some ds0 =>
      rw [q0, if_pos (show (some ds0).isSome = true from rfl)] at h
      obtain ⟨s0, a, xs0, hi0, ms0, im0, hσ, fa0, ga0, ha0, rr0⟩ := S.mutL q0
      refine ⟨.ref a, hσ, .inl ⟨rfl, xs0, SqL.of ha0⟩, ρ, F, S, PostE.mono (PostE.bind h) fun v H1 ⟨d, ρ1, F1, l1, S1, r1, p1⟩ => ?_⟩
      dsimp only at p1
      cases q1 : mutS (getS ρ1 i) with
      | none => rw [q1] at p1; exact p1.elim
      | some ds =>
        rw [q1] at p1
        cases r1 with
        | int kk =>
          dsimp only at p1
          obtain ⟨s1, a1, xs, hi, ms, im, hσ1, fa, ga, ha1, rr⟩ := S1.mutL q1
          rw [hσ] at hσ1
          cases hσ1
          have gs : getS ρ1 i = s1 := by
            unfold getS
            rw [List.getD_eq_getElem?_getD, hi]
            rfl
          cases q2 : ds[kk.toNat]? with
          | none => rw [q2] at p1; exact p1.elim
          | some dd =>
            rw [q2] at p1
            dsimp only at p1
            by_cases c : 0 ≤ kk ∧ kk < 2 ^ 63
            · rw [if_pos c, gs] at p1
              obtain ⟨u, e1, ru⟩ := rr.get q2
              have lt : kk.toNat < xs.length := (List.getElem?_eq_some_iff.mp e1).1
              have c1 := c.1
              refine ⟨a, xs, kk, kk.toNat, u, rfl, rfl, ha1, Int.le_trans (by decide) c1, c.2, ?_, e1, ?_⟩
              · have h1 : (decide (0 ≤ kk) && decide (kk < (xs.length : Int))) = true := by
                  rw [decide_eq_true c1, decide_eq_true (by omega)]; rfl
                unfold seqIndex?
                simp only [if_neg (show ¬ kk < 0 by omega), h1, if_true]
              · exact p1 F1 _ u FLe.rf (S1.write (xs := xs) hi im hσ (rr.erase _)) ru
            · rw [if_neg c] at p1; exact p1.elim
        | _ => exact p1.elim
end
end HM

namespace HM
open PySem PySem.Spec PyProof.Rows L2

/-! ### targets -/
def Tg.ixs : Tg → List Nat
  | .one i => [i]
  | .many is => is
def Keep (is : List Nat) (σ σ' : L2.St) : Prop := σ'.length = σ.length ∧ ∀ (j : Nat), j ∉ is → σ'[j]? = σ[j]?
theorem Keep.rf {is : List Nat} {σ : L2.St} : Keep is σ σ := ⟨rfl, fun _ _ => rfl⟩
theorem Keep.set {is : List Nat} {σ : L2.St} {i : Nat} {o : Option V} (h : i ∈ is) : Keep is σ (σ.set i o) := ⟨List.length_set, fun j hj => List.getElem?_set_ne (by intro z; subst z; exact hj h)⟩
theorem Keep.tr {is : List Nat} {a b c : L2.St} (h : Keep is a b) (g : Keep is b c) : Keep is a c := ⟨g.1.trans h.1, fun j hj => (g.2 j hj).trans (h.2 j hj)⟩
theorem Keep.up {is js : List Nat} {a b : L2.St} (h : Keep is a b) (s : ∀ i ∈ is, i ∈ js) : Keep js a b := ⟨h.1, fun j hj => h.2 j fun z => hj (s j z)⟩
def tG (w : Wd) (tg : Tg) : TG := fun v σ H Q => ∃ ρ F d ρ', w.sim F H ρ σ ∧ Rep w.K F d v ∧ asgT tg d ρ = some ρ' ∧ ∀ σ', w.sim F H ρ' σ' → Keep tg.ixs σ σ' → Q σ' H
def tGs (w : Wd) (is : List Nat) : TGs := fun vs σ H Q => ∃ ρ F ds ρ', w.sim F H ρ σ ∧ RepAll w.K F ds vs ∧ putAll is ds ρ = some ρ' ∧ ∀ σ', w.sim F H ρ' σ' → Keep is σ σ' → Q σ' H
theorem _root_.L2.PG.via {X : Cx} {e : Expr} {t t' : TG} (h : PG X e t) (f : ∀ v σ H Q, t' v σ H Q → t v σ H Q) : PG X e t' := ⟨fun pins s σ H v u Q I r q => h.run pins s σ H v u Q I r (f v σ H Q q)⟩
theorem _root_.L2.PGs.via {X : Cx} {e : List Expr} {t t' : TGs} (h : PGs X e t) (f : ∀ v σ H Q, t' v σ H Q → t v σ H Q) : PGs X e t' := ⟨fun pins s σ H v u Q I r q => h.run pins s σ H v u Q I r (f v σ H Q q)⟩
theorem putS_some {ρ ρ' : Env} {i : Nat} {s : Slot} (h : putS ρ i s = some ρ') : ρ' = ρ.set i s := by
  unfold putS at h
  split at h
  · cases h
  · cases h
  · exact (Option.some.inj h).symm
section
variable {X : Cx} {w : Wd} {pos : Pos} {x : Str}
theorem sG_name {i : Nat} (hN : X.N.Nodup) (hi : X.N[i]? = some x) (hx : Loc X.env.scope x) (hf : X.fn x = true ∨ X.env.scope.names.lookup x = some .local) : PG X (.Name x pos) (tG w (.one i)) :=
  (pg_name hN hi hx hf).via fun v σ H Q ⟨ρ, F, d, ρ', S, r, e, q⟩ => by
    obtain rfl := putS_some e
    exact q _ (S.put r) (Keep.set List.mem_cons_self)
theorem sG_nil : PGs X [] (tGs w []) := pgs_nil.via fun vs σ H Q ⟨ρ, F, ds, ρ', S, r, e, q⟩ => by
  cases r with
  | nil => cases e; exact ⟨rfl, q σ S Keep.rf⟩
  | cons a b => cases e
theorem sG_cons {i : Nat} {is : List Nat} {es : List Expr} {p : Pos} (hN : X.N.Nodup) (hi : X.N[i]? = some x) (hx : Loc X.env.scope x) (hf : X.fn x = true ∨ X.env.scope.names.lookup x = some .local) (h : PGs X es (tGs w is)) : PGs X (.Name x p :: es) (tGs w (i :: is)) :=
  (pgs_cons (pg_name hN hi hx hf) h (by rfl)).via fun vs σ H Q ⟨ρ, F, ds, ρ', S, r, e, q⟩ => by
    cases r with
    | nil => cases e
    | @cons d v ds vs a b =>
      cases e1 : putS ρ i (.val d) with
      | none => rw [putAll, e1] at e; cases e
      | some ρ1 =>
        rw [putAll, e1] at e
        obtain rfl := putS_some e1
        exact ⟨v, vs, rfl, _, F, ds, ρ', S.put a, b, e, fun σ' S' k => q σ' S' ((Keep.set List.mem_cons_self).tr (k.up fun j hj => List.mem_cons_of_mem _ hj))⟩
theorem sG_tup (hK : X.K = w.K) (hc : X.calm = true) {is : List Nat} {es : List Expr} {k n : Nat} (h : PGs X es (tGs w is)) (hl : is.length = n) (hn : (assignEach es X.env).length = n) (hst : (assignEach es X.env).findIdx? (·.1) = none) : PG X (.Tuple es k pos) (tG w (.many is)) :=
  (pg_tup hc h hn hst).via fun v σ H Q ⟨ρ, F, d, ρ', S, r, e, q⟩ => by
    cases r with
    | @tup a xs ds s1 r1 =>
      have e' : putAll is ds ρ = some ρ' := e
      have len : ∀ (is : List Nat) (ds : List PyData) (ρ ρ' : Env), putAll is ds ρ = some ρ' → is.length = ds.length := fun is => by
        induction is with
        | nil => intro ds ρ ρ' h; cases ds with
                 | nil => rfl
                 | cons a b => cases h
        | cons i is ih => intro ds ρ ρ' h; cases ds with
                          | nil => cases h
                          | cons a b =>
                            cases e1 : putS ρ i (.val a) with
                            | none => rw [putAll, e1] at h; cases h
                            | some ρ1 => rw [putAll, e1] at h; rw [List.length_cons, List.length_cons, ih b ρ1 ρ' h]
      refine ⟨a, xs, rfl, by rw [hK]; exact SqT.mo S.fh s1, by rw [← r1.length, ← len _ _ _ _ e', hl], ρ, F, ds, ρ', S, r1, e', q⟩
    | _ => cases e
end

/-! ### what a loop walks -/
structure Src (K : PySem.W.Frag) (J : It) (Stay : Hp → Prop) (F0 : Hp) (ds : List PyData) : Prop where
  go : ∀ i H, i < ds.length → Stay H → J.go i H
  yld : ∀ (i : Nat) H x H' F, FLe F0 F → FLe F H → Stay H → J.yld i H x H' → i < ds.length → ∃ d F', ds[i]? = some d ∧ Ext F H F' H' ∧ Rep K F' d x
  stop : ∀ H, Stay H → J.stop ds.length H
theorem src_list {K : PySem.W.Frag} {F0 : Hp} {a : Addr} {xs : List V} {ds : List PyData} (h : Rd F0 a (.lst xs)) (r : RepAll K F0 ds xs) : Src K (Itl K a) (FLe F0) F0 ds where
  go := fun i H hi l => by
    obtain ⟨d, e⟩ : ∃ d, ds[i]? = some d := ⟨_, List.getElem?_eq_getElem hi⟩
    obtain ⟨v, e, _⟩ := r.get e
    exact ⟨xs, v, .inl (Rd.mo l h), e⟩
  yld := fun i H x H' F l1 l2 l3 y hi => by
    obtain ⟨rfl, y⟩ := y
    obtain ⟨d, e, q⟩ := r.getV (y xs (.inl (Rd.mo l3 h)))
    exact ⟨d, F, e, Ext.rf l2, q.mo l1⟩
  stop := fun H l => ⟨xs, .inl (Rd.mo l h), by rw [r.length]; exact Nat.le_refl _⟩
theorem src_tup {K : PySem.W.Frag} {F0 : Hp} {a : Addr} {xs : List V} {ds : List PyData} (h : SqT K F0 a xs) (r : RepAll K F0 ds xs) : Src K (Itt K a) (FLe F0) F0 ds where
  go := fun i H hi l => by
    obtain ⟨d, e⟩ : ∃ d, ds[i]? = some d := ⟨_, List.getElem?_eq_getElem hi⟩
    obtain ⟨v, e, _⟩ := r.get e
    exact ⟨xs, v, SqT.mo l h, e⟩
  yld := fun i H x H' F l1 l2 l3 y hi => by
    obtain ⟨rfl, y⟩ := y
    obtain ⟨d, e, q⟩ := r.getV (y xs (SqT.mo l3 h))
    exact ⟨d, F, e, Ext.rf l2, q.mo l1⟩
  stop := fun H l => ⟨xs, SqT.mo l h, by rw [r.length]; exact Nat.le_refl _⟩
/-- a list that may change, kept meanwhile -/
theorem src_mut {K : PySem.W.Frag} {F0 : Hp} {a : Addr} {xs : List V} {ds : List PyData} (r : RepAll K F0 ds xs) : Src K (Itl K a) (fun H => H a = some (.lst xs)) F0 ds where
  go := fun i H hi l => by
    obtain ⟨d, e⟩ : ∃ d, ds[i]? = some d := ⟨_, List.getElem?_eq_getElem hi⟩
    obtain ⟨v, e, _⟩ := r.get e
    exact ⟨xs, v, SqL.of l, e⟩
  yld := fun i H x H' F l1 l2 l3 y hi => by
    obtain ⟨rfl, y⟩ := y
    obtain ⟨d, e, q⟩ := r.getV (y xs (SqL.of l3))
    exact ⟨d, F, e, Ext.rf l2, q.mo l1⟩
  stop := fun H l => ⟨xs, SqL.of l, by rw [r.length]; exact Nat.le_refl _⟩
theorem src_range {K : PySem.W.Frag} {F0 : Hp} {lo : Int} {n : Nat} : Src K (Itr lo n) (FLe F0) F0 (rangeD lo n) where
  go := fun i H hi l => by
    have hi' : i < n := by simpa [rangeD] using hi
    exact hi'
  yld := fun i H x H' F l1 l2 l3 y hi => by
    obtain ⟨rfl, rfl⟩ := y
    have hi' : i < n := by simpa [rangeD] using hi
    exact ⟨.int (lo + i), F, by unfold rangeD; rw [List.getElem?_map, List.getElem?_range hi']; rfl, Ext.rf l2, .int _⟩
  stop := fun H l => by
    show n ≤ (rangeD lo n).length
    simp [rangeD]
def PostI (w : Wd) (F : Hp) (σ : L2.St) (Q : It → Hp → Prop) : R PyData → Prop
  | .ok d ρ => ∃ ds, itemsD d = some ds ∧ ∀ F' H' J, FLe F F' → w.sim F' H' ρ σ → Src w.K J (FLe F') F' ds → ds.length ≤ SL → Q J H'
  | .exc x ρ => PostX w F σ x ρ
  | .bad => False
def tI (Φ : Fns) (w : Wd) (c : E) : TI := fun σ H R => ∃ ρ F, w.sim F H ρ σ ∧ PostI w F σ R (evE Φ c ρ)
theorem _root_.L2.PI.via {X : Cx} {tg e : Expr} {t t' : TI} (h : PI X tg e t) (f : ∀ σ H Q, t' σ H Q → t σ H Q) : PI X tg e t' := ⟨fun pins s σ H Q I q => h.run pins s σ H Q I (f σ H Q q)⟩
section
variable {X : Cx} {Φ : Fns} {w : Wd} {pos p : Pos} {tg a b : Expr} {ca cb : E} {x : Str}
/-- what is walked is no longer than lists may be -/
theorem PI.sz {e : Expr} {wi : TI} (h : PI X tg e wi) : PI X tg e (fun σ H R => wi σ H fun J H' => (∀ a xs, (SqL X.K H' a xs ∨ SqT X.K H' a xs) → xs.length ≤ sizeLine) → R J H') := ⟨fun pins s σ H R I q =>
  thn (h.run pins s σ H _ I q) fun v s1 h1 => thn h1 fun itv s2 ⟨it, fp, tn, J, H', e, I2, T, t0, f, r⟩ => ⟨it, fp, tn, J, H', e, I2, T, t0, f, r fun a xs hs => by
    rcases hs with hs | hs
    · obtain ⟨_, _, _, z⟩ := I2.list hs; exact z
    · obtain ⟨_, _, _, z⟩ := I2.tuple hs; exact z⟩⟩
/-- a list or a tuple, whichever comes -/
theorem sI_val (hK : X.K = w.K) (ha : PE X a (tE Φ w ca)) : PI X tg a (tI Φ w ca) := by
  refine ⟨fun pins s σ H R I ⟨ρ, F, S, h⟩ => ?_⟩
  -- which of the two
  have key : ∀ (isL : Bool), (∀ d ρ', evE Φ ca ρ = .ok d ρ' → if isL = true then ∃ ds, d = .list ds else ∃ ds, d = .tuple ds) →
      wpAny (model X.prog X.w) X.A (eval a X.env) (fun v s1 => wpAny (model X.prog X.w) X.A (pyIter v) (PIE X pins σ tg R) X.xe s1) X.xe s := fun isL hd => by
    cases isL with
    | true =>
      refine (PI.sz (pi_list ha)).run pins s σ H R I ⟨ρ, F, S, ?_⟩
      cases q : evE Φ ca ρ with
      | bad => rw [q] at h; exact h
      | exc z ρ' => rw [q] at h; exact h
      | ok d ρ' =>
        rw [q] at h
        obtain ⟨ds, rfl⟩ := hd d ρ' q
        obtain ⟨ds', e, h⟩ := h
        cases e
        intro F' H' v l S' r
        cases r with
        | lst s1 r1 => exact ⟨_, rfl, ⟨_, .inl (Rd.mo S'.fh s1)⟩, fun sz => h F' H' _ l S' (by rw [hK]; exact src_list s1 r1) (by rw [r1.length, SL_eq]; exact sz _ _ (.inl (.inl (Rd.mo S'.fh s1))))⟩
    | false =>
      refine (PI.sz (pi_tup ha)).run pins s σ H R I ⟨ρ, F, S, ?_⟩
      cases q : evE Φ ca ρ with
      | bad => rw [q] at h; exact h
      | exc z ρ' => rw [q] at h; exact h
      | ok d ρ' =>
        rw [q] at h
        obtain ⟨ds, rfl⟩ := hd d ρ' q
        obtain ⟨ds', e, h⟩ := h
        cases e
        intro F' H' v l S' r
        cases r with
        | tup s1 r1 => exact ⟨_, rfl, ⟨_, by rw [hK]; exact SqT.mo S'.fh s1⟩, fun sz => h F' H' _ l S' (by rw [hK]; exact src_tup s1 r1) (by rw [r1.length, SL_eq]; exact sz _ _ (.inr (by rw [hK]; exact SqT.mo S'.fh s1)))⟩
  cases q : evE Φ ca ρ with
  | bad => rw [q] at h; exact h.elim
  | exc z ρ' => exact key true (fun d ρ2 e => by rw [q] at e; cases e)
  | ok d ρ' =>
    rw [q] at h
    obtain ⟨ds', e, _⟩ := h
    cases d with
    | list ds => exact key true (fun d2 ρ2 e => by rw [q] at e; cases e; exact ⟨ds, rfl⟩)
    | tuple ds => exact key false (fun d2 ρ2 e => by rw [q] at e; cases e; exact ⟨ds, rfl⟩)
    | _ => cases e
theorem sI_rng (hg : Gl X "range") (hm : X.mg "range" = none) (ha : PE X a (tE Φ w ca)) (hs : starEach [a] X.env = [(false, eval a X.env)]) : PI X tg (.Call (.Name "range" p) [a] [] pos) (tI Φ w (.rng ca)) :=
  (pi_range1 hg hm (pa_cons ha pa_nil hs) hs).via fun σ H R ⟨ρ, F, S, h⟩ => ⟨ρ, F, S, by
    have h : PostI w F σ R ((evE Φ ca ρ).bind fun x ρ => .of (rngD (.int 0) x) ρ) := h
    cases q : evE Φ ca ρ with
    | bad => rw [q] at h; exact h
    | exc z ρ' => rw [q] at h; exact h
    | ok d ρ' =>
      rw [q] at h
      have h : PostI w F σ R (.of (rngD (.int 0) d) ρ') := h
      intro F' H' v l S' r
      cases r with
      | int j =>
        by_cases c : rngOk 0 j
        · rw [show rngD (.int 0) (.int j) = some (.list (rangeD 0 (j - 0).toNat)) from if_pos c] at h
          obtain ⟨ds, e, h⟩ := h
          cases e
          refine ⟨j, rfl, c.2.2.1, c.2.2.2.1, h F' H' _ l S' ?_ ?_⟩
          · rw [Int.sub_zero]
            exact src_range
          · have := c.2.2.2.2
            simp only [rangeD, List.length_map, List.length_range]
            exact this
        · rw [show rngD (.int 0) (.int j) = none from if_neg c] at h
          exact h.elim
      | _ => exact h.elim⟩
theorem sI_rng2 (hg : Gl X "range") (hm : X.mg "range" = none) (ha : PE X a (tE Φ w ca)) (hb : PE X b (tE Φ w cb)) (hs : starEach [a, b] X.env = [(false, eval a X.env), (false, eval b X.env)]) (hs2 : starEach [b] X.env = [(false, eval b X.env)]) :
    PI X tg (.Call (.Name "range" p) [a, b] [] pos) (tI Φ w (.rng2 ca cb)) :=
  (pi_range2 hg hm (pa_cons ha (pa_cons hb pa_nil hs2) (by rw [hs, hs2])) hs hs2).via fun σ H R ⟨ρ, F, S, h⟩ => ⟨ρ, F, S, by
    have h : PostI w F σ R ((evE Φ ca ρ).bind fun x ρ => (evE Φ cb ρ).bind fun y ρ => .of (rngD x y) ρ) := h
    cases q : evE Φ ca ρ with
    | bad => rw [q] at h; exact h
    | exc z ρ' => rw [q] at h; exact h
    | ok d ρ' =>
      rw [q] at h
      intro F' H' v l S' r
      refine ⟨ρ', F', S', ?_⟩
      have h : PostI w F σ R ((evE Φ cb ρ').bind fun y ρ => .of (rngD d y) ρ) := h
      cases q2 : evE Φ cb ρ' with
      | bad => rw [q2] at h; exact h.elim
      | exc z ρ2 => rw [q2] at h; exact PostX.up h l
      | ok d2 ρ2 =>
        rw [q2] at h
        have h : PostI w F σ R (.of (rngD d d2) ρ2) := h
        intro F2 H2 v2 l2 S2 r2
        cases r with
        | int i =>
          cases r2 with
          | int j =>
            by_cases c : rngOk i j
            · rw [show rngD (.int i) (.int j) = some (.list (rangeD i (j - i).toNat)) from if_pos c] at h
              obtain ⟨ds, e, h⟩ := h
              cases e
              exact ⟨i, j, rfl, ⟨c.1, c.2.1, c.2.2.1, c.2.2.2.1⟩, h F2 H2 _ (l.tr l2) S2 src_range (by have := c.2.2.2.2; simp only [rangeD, List.length_map, List.length_range]; exact this)⟩
            · rw [show rngD (.int i) (.int j) = none from if_neg c] at h
              exact h.elim
          | _ => exact h.elim
        | _ => cases r2 <;> exact h.elim⟩
end

/-! ### comprehensions -/
def W0 : WX := fun _ _ _ _ => False
def Wd.at (w : Wd) (G : Hp) : Wd := { w with G := G, W := W0 }
theorem PE.any {X : Cx} {e : Expr} {ι : Sort _} {t : ι → TE} (h : ∀ i, PE X e (t i)) : PE X e (fun σ H Q => ∃ i, t i σ H Q) := ⟨fun pins s σ H Q I ⟨i, q⟩ => (h i).run pins s σ H Q I q⟩
theorem PTs.any {X : Cx} {e : List Expr} {ι : Sort _} {t : ι → TT} (h : ∀ i, PTs X e (t i)) : PTs X e (fun σ H Q => ∃ i, t i σ H Q) := ⟨fun pins s σ H Q I ⟨i, q⟩ => (h i).run pins s σ H Q I q⟩
theorem PG.any {X : Cx} {e : Expr} {ι : Sort _} {t : ι → TG} (h : ∀ i, PG X e (t i)) : PG X e (fun v σ H Q => ∃ i, t i v σ H Q) := ⟨fun pins s σ H v u Q I r ⟨i, q⟩ => (h i).run pins s σ H v u Q I r q⟩
def gG (w : Wd) (tg : Tg) : TG := fun v σ H Q => ∃ G, tG (w.at G) tg v σ H Q
def gT (Φ : Fns) (w : Wd) (c : E) : TT := fun σ H Q => ∃ G, tT Φ (w.at G) c σ H Q
def gE (Φ : Fns) (w : Wd) (c : E) : TE := fun σ H Q => ∃ G, tE Φ (w.at G) c σ H Q
theorem wipe_keep {own : List Nat} {σ σ' : L2.St} (k : Keep own σ σ') : L2.wipe σ' own = L2.wipe σ own := by
  have gen : ∀ (own is : List Nat), (∀ j, j ∈ is → j ∈ own) → ∀ σ σ' : L2.St, σ'.length = σ.length → (∀ j, j ∉ own → σ'[j]? = σ[j]?) → ∀ j, (j ∈ is ∨ j ∉ own) → (L2.wipe σ' is)[j]? = (L2.wipe σ is)[j]? := fun own is => by
    induction is with
    | nil => intro _ σ σ' _ h j hj; exact h j (hj.resolve_left (by simp))
    | cons i is ih =>
      intro hs σ σ' hl h j hj
      show ((L2.wipe σ' is).set i none)[j]? = ((L2.wipe σ is).set i none)[j]?
      by_cases e : j = i
      · subst e
        by_cases c : j < σ.length
        · rw [List.getElem?_set_self (by rw [wipe_length, hl]; exact c), List.getElem?_set_self (by rw [wipe_length]; exact c)]
        · rw [List.getElem?_eq_none (by rw [List.length_set, wipe_length, hl]; omega), List.getElem?_eq_none (by rw [List.length_set, wipe_length]; omega)]
      · rw [List.getElem?_set_ne (Ne.symm e), List.getElem?_set_ne (Ne.symm e)]
        exact ih (fun k hk => hs k (List.mem_cons_of_mem _ hk)) σ σ' hl h j (hj.imp (fun z => (List.mem_cons.mp z).resolve_left e) id)
  apply List.ext_getElem?
  intro j
  by_cases c : j ∈ own
  · exact gen own own (fun _ h => h) σ σ' k.1 k.2 j (.inl c)
  · exact gen own own (fun _ h => h) σ σ' k.1 k.2 j (.inr c)
theorem wipe_twice {own : List Nat} {σ : L2.St} : L2.wipe (L2.wipe σ own) own = L2.wipe σ own := by
  have k : ∀ is : List Nat, (∀ j ∈ is, j ∈ own) → Keep own σ (L2.wipe σ is) := fun is => by
    induction is with
    | nil => intro _; exact Keep.rf
    | cons i is ih =>
      intro h
      exact (ih fun j hj => h j (List.mem_cons_of_mem _ hj)).tr (Keep.set (h i List.mem_cons_self))
  exact wipe_keep (k own fun _ h => h)
theorem turn_ok {own : List Nat} {tg : Tg} {fc fe : Env → R PyData} {d : PyData} {ρ ρ' : Env} {y : Option PyData} (h : turnC own tg fc fe d ρ = .ok y ρ') :
    ∃ ρ2, asgT tg d (wipeS own ρ) = some ρ2 ∧ ((∃ ρ3 v, fc ρ2 = .ok (.bool true) ρ3 ∧ fe ρ3 = .ok v ρ' ∧ y = some v) ∨ (fc ρ2 = .ok (.bool false) ρ' ∧ y = none)) := by
  unfold turnC at h
  cases e : asgT tg d (wipeS own ρ) with
  | none => rw [e] at h; cases h
  | some ρ2 =>
    rw [e] at h
    obtain ⟨c, ρ3, e1, h⟩ := bind_ok h
    cases c with
    | bool b =>
      cases b with
      | true =>
        obtain ⟨v, ρ4, e2, h⟩ := bind_ok h
        cases h
        exact ⟨ρ2, rfl, .inl ⟨ρ3, v, e1, e2, rfl⟩⟩
      | false => cases h; exact ⟨ρ2, rfl, .inr ⟨e1, rfl⟩⟩
    | _ => cases h
theorem comp_cons {f : PyData → Env → R (Option PyData)} {d : PyData} {ds zs : List PyData} {ρ ρ' : Env} (h : compGo f (d :: ds) ρ = .ok zs ρ') : ∃ y ρ1 ys, f d ρ = .ok y ρ1 ∧ compGo f ds ρ1 = .ok ys ρ' ∧ zs = (match y with | some y => y :: ys | none => ys) := by
  rw [compGo] at h
  cases e : f d ρ with
  | ok y ρ1 =>
    rw [e] at h
    cases e2 : compGo f ds ρ1 with
    | ok ys ρ2 => simp only [e2] at h; cases h; exact ⟨y, ρ1, ys, rfl, e2, rfl⟩
    | exc z ρ2 => simp only [e2] at h; cases h
    | bad => simp only [e2] at h; cases h
  | exc z ρ1 => rw [e] at h; cases h
  | bad => rw [e] at h; cases h
/-- a comprehension's turns -/
theorem lc_go {Φ : Fns} {w : Wd} {J : It} {Stay : Hp → Prop} {F1 H1 : Hp} {ds zs : List PyData} {own : List Nat} {tg : Tg} {elt cond : E} {ρ ρ5 : Env} {σ : L2.St} {D : Addr} {Qd : Hp → Prop}
    (hJ : Src w.K J Stay F1 ds) (hst : ∀ F H ρ u, FLe F1 F → Sim w.K (upd w.G D u) w.pa F H ρ (L2.wipe σ own) → Stay H) (S : w.sim F1 H1 ρ σ) (ht : ∀ i ∈ tg.ixs, i ∈ own) (hl : ds.length ≤ SL)
    (hgo : compGo (turnC own tg (evE Φ cond) (evE Φ elt)) ds ρ = .ok zs ρ5) (hD : H1 D = none)
    (done : ∀ F H acc, FLe F1 F → Sim w.K (upd w.G D (.lst acc)) w.pa F H (wipeS own ρ5) (L2.wipe σ own) → RepAll w.K F zs acc → Qd H) :
    ∃ W : Nat → Nat → Hp → Prop, (∃ m, W 0 m (upd H1 D (.lst []))) ∧ ∀ i m H, W i m H →
      (J.stop i H ∧ Qd H) ∨ (J.go i H ∧ ∃ Nx : Hp → Prop, (∀ H', Nx H' → ∃ m', m' < m ∧ W (i + 1) m' H') ∧ ∀ x H', J.yld i H x H' → gG w tg x (L2.wipe σ own) H' fun σ2 H2 => L2.wipe σ2 own = L2.wipe σ own ∧ gT Φ w cond σ2 H2 fun b H3 =>
        if b = true then gE Φ w elt σ2 H3 fun y H4 => ∃ acc, H4 D = some (.lst acc) ∧ acc.length < sizeLine ∧ Nx (upd H4 D (.lst (acc ++ [y]))) else Nx H3) := by
  refine ⟨fun i m H => m = ds.length - i ∧ i ≤ ds.length ∧ ∃ F ρi acc ys rest, FLe F1 F ∧ Sim w.K (upd w.G D (.lst acc)) w.pa F H (wipeS own ρi) (L2.wipe σ own) ∧ RepAll w.K F ys acc ∧ ys.length ≤ i ∧
    compGo (turnC own tg (evE Φ cond) (evE Φ elt)) (ds.drop i) ρi = .ok rest ρ5 ∧ zs = ys ++ rest,
    ⟨ds.length, by simp, Nat.zero_le _, F1, ρ, [], [], zs, FLe.rf, (S.prot hD (.lst [])).wipe own, .nil, Nat.le_refl _, hgo, rfl⟩, ?_⟩
  rintro i m H ⟨rfl, hi, F, ρi, acc, ys, rest, l, Si, ra, hy, hg, hz⟩
  have stay : Stay H := hst F H _ _ l Si
  by_cases hlt : i < ds.length
  · refine .inr ⟨hJ.go i H hlt stay, fun H' => ∃ F ρi acc ys rest, FLe F1 F ∧ Sim w.K (upd w.G D (.lst acc)) w.pa F H' (wipeS own ρi) (L2.wipe σ own) ∧ RepAll w.K F ys acc ∧ ys.length ≤ i + 1 ∧
      compGo (turnC own tg (evE Φ cond) (evE Φ elt)) (ds.drop (i + 1)) ρi = .ok rest ρ5 ∧ zs = ys ++ rest, fun H' h => ⟨ds.length - (i + 1), by omega, rfl, hlt, h⟩, fun x H' y => ?_⟩
    obtain ⟨d, F', ed, ext, rd⟩ := hJ.yld i H x H' F l Si.fh stay y hlt
    have S' := Si.ext ext
    have edrop : ds.drop i = d :: ds.drop (i + 1) := by
      rw [List.drop_eq_getElem_cons hlt]
      rw [List.getElem?_eq_getElem hlt] at ed
      rw [Option.some.inj ed]
    rw [edrop] at hg
    obtain ⟨yo, ρ1, ys', e1, e2, e3⟩ := comp_cons hg
    obtain ⟨ρ2, e4, e5⟩ := turn_ok e1
    have ll := l.tr ext.ff
    refine ⟨upd w.G D (.lst acc), wipeS own ρi, F', d, ρ2, S', rd, e4, fun σ2 S2 k => ⟨?_, ?_⟩⟩
    · rw [wipe_keep (k.up ht), wipe_twice]
    have wp : L2.wipe σ2 own = L2.wipe σ own := by rw [wipe_keep (k.up ht), wipe_twice]
    refine ⟨upd w.G D (.lst acc), ρ2, F', S2, ?_⟩
    have alen : acc.length < sizeLine := by
      have a1 := ra.length
      have a2 : SL = sizeLine := SL_eq
      omega
    rcases e5 with ⟨ρ3, v, e6, e7, rfl⟩ | ⟨e6, rfl⟩
    · rw [e6]
      intro F3 H3 l3 S3
      rw [if_pos rfl]
      refine ⟨upd w.G D (.lst acc), ρ3, F3, S3, ?_⟩
      rw [e7]
      intro F4 H4 u l4 S4 r4
      have hD4 : H4 D = some (.lst acc) := S4.gh D _ upd_same
      refine ⟨acc, hD4, alen, F4, ρ1, acc ++ [u], ys ++ [v], ys', ll.tr (l3.tr l4), ?_, (ra.mo (ext.ff.tr (l3.tr l4))).app (.cons r4 .nil), ?_, e2, ?_⟩
      · have := (S4.reprot (u' := .lst (acc ++ [u]))).wipe own
        rw [wp] at this
        exact this
      · rw [List.length_append, List.length_singleton]; omega
      · rw [hz, e3, List.append_assoc]; rfl
    · rw [e6]
      intro F3 H3 l3 S3
      rw [if_neg Bool.false_ne_true]
      refine ⟨F3, ρ1, acc, ys, ys', ll.tr l3, ?_, ra.mo (ext.ff.tr l3), by omega, e2, ?_⟩
      · have := S3.wipe own
        rw [wp] at this
        exact this
      · rw [hz, e3]
  · have e : i = ds.length := by omega
    subst e
    rw [List.drop_length] at hg
    cases hg
    refine .inl ⟨hJ.stop H stay, done F H acc l Si ?_⟩
    rw [hz, List.append_nil]
    exact ra
section
variable {X : Cx} {Φ : Fns} {w : Wd} {pos p : Pos} {tg iter elt' : Expr} {ifs : List Expr} {src elt cond : E} {x : Str} {tgc : Tg} {own : List (Str × Nat)} {scope : Scope}
/-- what a comprehension's parts are -/
structure CompOk (X : Cx) (Φ : Fns) (w : Wd) (tg elt' : Expr) (ifs : List Expr) (scope : Scope) (own : List (Str × Nat)) (tgc : Tg) (elt cond : E) : Prop where
  nd : X.N.Nodup
  calm : X.calm = true
  blk : BlkOk X.N X.env.scope scope own
  ixs : ∀ i ∈ tgc.ixs, i ∈ own.map (·.2)
  g : ∀ G (s : Shared) (H : Hp) (C : Addr) (cl : List (Str × Addr)) (fp : List Addr), PG (X.blk s H scope (compEnvC scope cl C X.env) fp) tg (tG (w.at G) tgc)
  t : ∀ G (s : Shared) (H : Hp) (C : Addr) (cl : List (Str × Addr)) (fp : List Addr), PTs (X.blk s H scope (compEnvC scope cl C X.env) fp) ifs (tT Φ (w.at G) cond)
  e : ∀ G (s : Shared) (H : Hp) (C : Addr) (cl : List (Str × Addr)) (fp : List Addr), PE (X.blk s H scope (compEnvC scope cl C X.env) fp) elt' (tE Φ (w.at G) elt)
theorem lc_read (c : CompOk X Φ w tg elt' ifs scope own tgc elt cond) {σ : L2.St} {H : Hp} {Q : VK} (h : tF Φ w (.comp elt tgc src cond (own.map (·.2))) σ H Q) : tLc (tI Φ w src) (gG w tgc) (gT Φ w cond) (gE Φ w elt) (own.map (·.2)) σ H Q := by
  obtain ⟨ρ, F, S, h⟩ := h
  refine ⟨ρ, F, S, ?_⟩
  have h : PostF w F σ Q ((evE Φ src ρ).bind fun x ρ => match itemsD x, ownOk (own.map (·.2)) ρ with
    | some ds, true => (compGo (turnC (own.map (·.2)) tgc (evE Φ cond) (evE Φ elt)) ds ρ).bind fun ys ρ5 => .ok (.list ys) (giveS (own.map (·.2)) ρ ρ5)
    | _, _ => .bad) := h
  cases q : evE Φ src ρ with
  | bad => rw [q] at h; exact h
  | exc z ρ' => rw [q] at h; exact h
  | ok d ρ1 =>
    rw [q] at h
    have h : PostF w F σ Q (match itemsD d, ownOk (own.map (·.2)) ρ1 with
      | some ds, true => (compGo (turnC (own.map (·.2)) tgc (evE Φ cond) (evE Φ elt)) ds ρ1).bind fun ys ρ5 => .ok (.list ys) (giveS (own.map (·.2)) ρ1 ρ5)
      | _, _ => .bad) := h
    cases q1 : itemsD d with
    | none => rw [q1] at h; exact h.elim
    | some ds =>
      cases q2 : ownOk (own.map (·.2)) ρ1 with
      | false => rw [q1, q2] at h; exact h.elim
      | true =>
        rw [q1, q2] at h
        have h : PostF w F σ Q ((compGo (turnC (own.map (·.2)) tgc (evE Φ cond) (evE Φ elt)) ds ρ1).bind fun ys ρ5 => .ok (.list ys) (giveS (own.map (·.2)) ρ1 ρ5)) := h
        cases q3 : compGo (turnC (own.map (·.2)) tgc (evE Φ cond) (evE Φ elt)) ds ρ1 with
        | bad => rw [q3] at h; exact h.elim
        | exc z ρ' =>
          exfalso
          have : ∀ (ds : List PyData) (ρ : Env) z ρ', compGo (turnC (own.map (·.2)) tgc (evE Φ cond) (evE Φ elt)) ds ρ ≠ .exc z ρ' := fun ds => by
            cases ds with
            | nil => intro ρ z ρ' e; cases e
            | cons d ds =>
              intro ρ z ρ' e
              rw [compGo] at e
              split at e
              · split at e <;> cases e
              · cases e
          exact this ds ρ1 z ρ' q3
        | ok zs ρ5 =>
          rw [q3] at h
          have h : ∀ F' H' p xs, FLe F F' → w.sim F' H' (giveS (own.map (·.2)) ρ1 ρ5) σ → Fresh w.K w.G w.pa F' H' (giveS (own.map (·.2)) ρ1 ρ5) σ p xs → RepAll w.K F' zs xs → Q (.ref p) H' := h
          refine ⟨ds, q1, fun F1 H1 J l1 S1 hJ hl D hD => ?_⟩
          have gD : w.G D = none := by
            cases e : w.G D with
            | none => rfl
            | some o => rw [S1.gh _ _ e] at hD; cases hD
          refine lc_go hJ (fun F H ρ u l S => l.tr S.fh) S1 c.ixs hl q3 hD fun F2 H2 acc l2 S2 ra => ?_
          obtain ⟨S3, fD, hD2, sepD⟩ := S2.unprot gD
          have S4 := S1.give l2 q2 S3
          -- the new list is none of the def's own
          have nf : Fresh w.K w.G w.pa F2 H2 (giveS (own.map (·.2)) ρ1 ρ5) σ D acc := by
            refine ⟨hD2, fD, gD, S1.neP hD, fun j s hj ms e => ?_⟩
            have q := S4.slot j s hj
            -- its slot was there ahead of the comprehension, or is one that the turns left
            by_cases ho : j ∈ own.map (·.2)
            · have hj2 : j < List.length ρ5 := by
                have := (List.getElem?_eq_some_iff.mp hj).1
                rw [giveS_len] at this; exact this
              rw [giveS_own ho hj2] at hj
              cases hj
              have := List.all_eq_true.mp q2 j ho
              cases q4 : getS ρ1 j with
              | un => rw [q4] at ms; cases ms
              | val d => rw [q4] at ms; cases ms
              | mu ds => rw [q4] at this; cases this
              | par ds => rw [q4] at this; cases this
            · rw [giveS_get ho] at hj
              have hw : (L2.wipe σ (own.map (·.2)))[j]? = σ[j]? := by
                have k : ∀ is : List Nat, j ∉ is → (L2.wipe σ is)[j]? = σ[j]? := fun is => by
                  induction is with
                  | nil => intro _; rfl
                  | cons i is ih =>
                    intro h
                    have h1 : j ≠ i ∧ j ∉ is := by simpa using h
                    show ((L2.wipe σ is).set i none)[j]? = σ[j]?
                    rw [List.getElem?_set_ne (Ne.symm h1.1)]
                    exact ih h1.2
                exact k _ ho
              exact sepD j s (by rw [wipeS_get ho]; exact hj) ms (by rw [hw]; exact e)
          exact h F2 H2 D acc (l1.tr l2) S4 nf ra
theorem sF_comp (c : CompOk X Φ w tg elt' ifs scope own tgc elt cond) (hi : PI X tg iter (tI Φ w src)) (hs : ∀ x, foldedSetIterable iter X.env x = pure x) : PE X (.ListComp elt' [⟨tg, iter, ifs, 0⟩] scope pos) (tF Φ w (.comp elt tgc src cond (own.map (·.2)))) :=
  (pe_lc c.calm c.nd hi c.blk (fun s H C cl fp => PG.any fun G => c.g G s H C cl fp) (fun s H C cl fp => PTs.any fun G => c.t G s H C cl fp) (fun s H C cl fp => PE.any fun G => c.e G s H C cl fp) hs).via fun σ H Q h => lc_read c h
theorem comp_list {own : List Nat} (ρ : Env) (d : PyData) (ρ' : Env) (h : evE Φ (.comp elt tgc src cond own) ρ = .ok d ρ') : ∃ ds, d = .list ds := by
  obtain ⟨x, ρ1, _, h⟩ := bind_ok (show (evE Φ src ρ).bind (fun x ρ => match itemsD x, ownOk own ρ with
    | some ds, true => (compGo (turnC own tgc (evE Φ cond) (evE Φ elt)) ds ρ).bind fun ys ρ5 => .ok (.list ys) (giveS own ρ ρ5)
    | _, _ => .bad) = .ok d ρ' from h)
  split at h
  · obtain ⟨y, ρ2, _, h⟩ := bind_ok h
    cases h
    exact ⟨_, rfl⟩
  · cases h
end
end HM

namespace HM
open PySem PySem.Spec PyProof.Rows L2

/-! ### statements -/
def PostS (w : Wd) (F : Hp) (D : Ends) : O → Prop
  | .nx ρ => ∀ F' H' σ, FLe F F' → w.sim F' H' ρ σ → D.nx σ H'
  | .ret own d ρ => ∀ F' H' σ v, FLe F F' → w.sim F' H' ρ σ → RetOk w.K w.G w.pa own F' H' d v → D.rt v H'
  | .brk ρ => ∀ F' H' σ, FLe F F' → w.sim F' H' ρ σ → D.bk σ H'
  | .cnt ρ => ∀ F' H' σ, FLe F F' → w.sim F' H' ρ σ → D.ct σ H'
  | .exc x ρ => ∀ σ, PostX w F σ x ρ
  | .bad => False
theorem PostS.up {w : Wd} {F F1 : Hp} {D : Ends} {r : O} (h : PostS w F D r) (l : FLe F F1) : PostS w F1 D r := by
  cases r with
  | nx ρ => exact fun F' H' σ l' => h F' H' σ (l.tr l')
  | ret own d ρ => exact fun F' H' σ v l' => h F' H' σ v (l.tr l')
  | brk ρ => exact fun F' H' σ l' => h F' H' σ (l.tr l')
  | cnt ρ => exact fun F' H' σ l' => h F' H' σ (l.tr l')
  | exc x ρ => exact fun σ => PostX.up (h σ) l
  | bad => exact h
theorem PostS.nt {w : Wd} {F : Hp} {D : Ends} (h : PostS w F D .bad) {P : Prop} : P := False.elim h
noncomputable def tS (Φ : Fns) (w : Wd) (c : S) : TS := fun D σ H => ∃ ρ F, w.sim F H ρ σ ∧ PostS w F D (evS Φ c ρ)
theorem PostE.out {w : Wd} {F : Hp} {σ : L2.St} {D : Ends} {r : R PyData} {f : PyData → Env → O} (h : PostS w F D (r.out f)) : PostE w F σ (fun v H1 => Got w F σ v H1 fun d ρ F1 => PostS w F1 D (f d ρ)) r := by
  cases r with
  | ok d ρ => exact fun F' H' v l S q => ⟨d, ρ, F', l, S, q, PostS.up h l⟩
  | exc x ρ => exact h σ
  | bad => exact h
theorem PostA.out {w : Wd} {F : Hp} {σ : L2.St} {D : Ends} {r : R PyData} {f : PyData → Env → O} (h : PostS w F D (r.out f)) : PostA w F σ (fun v H1 => GotA w F σ v H1 fun d ρ F1 => PostS w F1 D (f d ρ)) r := by
  cases r with
  | ok d ρ => exact fun F' H' v l S q => ⟨d, ρ, F', l, S, q, PostS.up h l⟩
  | exc x ρ => exact h σ
  | bad => exact h
/-- a new list has come -/
def GotF (w : Wd) (F : Hp) (σ : L2.St) (v : V) (H : Hp) (k : PyData → Env → Hp → Prop) : Prop := ∃ ds ρ F1 p xs, v = .ref p ∧ FLe F F1 ∧ w.sim F1 H ρ σ ∧ Fresh w.K w.G w.pa F1 H ρ σ p xs ∧ RepAll w.K F1 ds xs ∧ k (.list ds) ρ F1
theorem PostF.out {w : Wd} {F : Hp} {σ : L2.St} {D : Ends} {r : R PyData} {f : PyData → Env → O} (h : PostS w F D (r.out f)) (hl : ∀ d ρ, r = .ok d ρ → f d ρ ≠ .bad → ∃ ds, d = .list ds) : PostF w F σ (fun v H1 => GotF w F σ v H1 fun d ρ F1 => PostS w F1 D (f d ρ)) r := by
  cases r with
  | ok d ρ =>
    obtain ⟨ds, rfl⟩ := hl d ρ rfl fun z => by
      have h : PostS w F D (f d ρ) := h
      rw [z] at h; exact h
    exact fun F' H' p xs l S fr q => ⟨ds, ρ, F', p, xs, rfl, l, S, fr, q, PostS.up h l⟩
  | exc x ρ => exact h σ
  | bad => exact h.elim
theorem PostT.out {w : Wd} {F : Hp} {σ : L2.St} {D : Ends} {r : R PyData} {f : PyData → Env → O} (h : PostS w F D (r.out f)) (hf : ∀ d ρ, f d ρ ≠ .bad → ∃ b, d = .bool b) : PostT w F σ (fun b H1 => ∃ ρ F1, FLe F F1 ∧ w.sim F1 H1 ρ σ ∧ PostS w F1 D (f (.bool b) ρ)) r := by
  cases r with
  | ok d ρ =>
    obtain ⟨b, rfl⟩ := hf d ρ fun z => by
      have h : PostS w F D (f d ρ) := h
      rw [z] at h; exact h
    exact fun F' H' l S => ⟨ρ, F', l, S, PostS.up h l⟩
  | exc x ρ => exact h σ
  | bad => exact h
theorem _root_.L2.PS.via {X : Cx} {e : Stmt} {t t' : TS} (h : PS X e t) (f : ∀ D σ H, t' D σ H → t D σ H) : PS X e t' := ⟨fun pins s σ H D I q => h.run pins s σ H D I (f D σ H q)⟩
theorem _root_.L2.PSs.via {X : Cx} {e : List Stmt} {t t' : TS} (h : PSs X e t) (f : ∀ D σ H, t' D σ H → t D σ H) : PSs X e t' := ⟨fun pins s σ H D I q => h.run pins s σ H D I (f D σ H q)⟩
theorem getS_at {ρ : Env} {i : Nat} {s : Slot} (h : ρ[i]? = some s) : getS ρ i = s := by
  unfold getS
  rw [List.getD_eq_getElem?_getD, h]
  rfl
section
variable {X : Cx} {Φ : Fns} {w : Wd} {pos p p2 : Pos} {e a b : Expr} {ce ca cb : E} {x y : Str} {i j : Nat} {st : Stmt} {sts ss ts : List Stmt} {cs ct : S} {cond : E}
theorem sS_nil : PSs X [] (tS Φ w .skip) := pss_nil.via fun D σ H ⟨ρ, F, S, h⟩ => h F H σ FLe.rf S
theorem sS_pass : PS X (.Pass pos) (tS Φ w .skip) := ps_pass.via fun D σ H ⟨ρ, F, S, h⟩ => h F H σ FLe.rf S
theorem sS_doc {z k} : PS X (.Expr (.Constant (.str z) k p) pos) (tS Φ w .skip) := ps_doc.via fun D σ H ⟨ρ, F, S, h⟩ => h F H σ FLe.rf S
theorem sS_brk : PS X (.Break pos) (tS Φ w .brk) := ps_break.via fun D σ H ⟨ρ, F, S, h⟩ => h F H σ FLe.rf S
theorem sS_cnt : PS X (.Continue pos) (tS Φ w .cnt) := ps_continue.via fun D σ H ⟨ρ, F, S, h⟩ => h F H σ FLe.rf S
theorem sS_cons (h1 : PS X st (tS Φ w cs)) (h2 : PSs X sts (tS Φ w ct)) : PSs X (st :: sts) (tS Φ w (.seq cs ct)) := (pss_cons h1 h2).via fun D σ H ⟨ρ, F, S, h⟩ => ⟨ρ, F, S, by
  have h : PostS w F D (match evS Φ cs ρ with
    | .nx ρ' => evS Φ ct ρ'
    | o => o) := h
  cases q : evS Φ cs ρ with
  | nx ρ' => rw [q] at h; exact fun F' H' σ' l S' => ⟨ρ', F', S', PostS.up h l⟩
  | ret own d ρ' => rw [q] at h; exact h
  | brk ρ' => rw [q] at h; exact h
  | cnt ρ' => rw [q] at h; exact h
  | exc z ρ' => rw [q] at h; exact h
  | bad => rw [q] at h; exact h⟩
theorem sS_ite {c : Expr} (hc : PT X c (tT Φ w cond)) (ha : PSs X ss (tS Φ w cs)) (hb : PSs X ts (tS Φ w ct)) : PS X (.If c ss ts pos) (tS Φ w (.ite cond cs ct)) := (ps_if hc ha hb).via fun D σ H ⟨ρ, F, S, h⟩ => ⟨ρ, F, S, by
  refine PostT.mono (PostT.out (show PostS w F D ((evE Φ cond ρ).out fun x ρ => match x with | .bool true => evS Φ cs ρ | .bool false => evS Φ ct ρ | _ => .bad) from h) fun d ρ n => ?_) fun b H1 ⟨ρ1, F1, l, S1, h1⟩ => ?_
  · cases d with
    | bool b => exact ⟨b, rfl⟩
    | _ => exact absurd rfl n
  · cases b with
    | true => rw [if_pos rfl]; exact ⟨ρ1, F1, S1, h1⟩
    | false => rw [if_neg Bool.false_ne_true]; exact ⟨ρ1, F1, S1, h1⟩⟩
/-! ### stores -/
theorem asg_val {D : Ends} {σ : L2.St} {H : Hp} (h : tS Φ w (.asg i ce) D σ H) : tE Φ w ce σ H fun v H1 => gName i v σ H1 D.nx := by
  obtain ⟨ρ, F, S, h⟩ := h
  refine ⟨ρ, F, S, PostE.mono (PostE.out (show PostS w F D ((evE Φ ce ρ).out fun d ρ => O.of (putS ρ i (.val d))) from h)) fun v H1 ⟨d, ρ1, F1, l, S1, r, h1⟩ => ?_⟩
  cases q : putS ρ1 i (.val d) with
  | none => dsimp only at h1; rw [q] at h1; exact h1.elim
  | some ρ2 =>
    dsimp only at h1
    rw [q] at h1
    obtain rfl := putS_some q
    exact h1 F1 H1 _ FLe.rf (S1.put r)
theorem sS_asg (hN : X.N.Nodup) (hi : X.N[i]? = some x) (hx : Loc X.env.scope x) (hf : X.fn x = true ∨ X.env.scope.names.lookup x = some .local) (he : PE X e (tE Φ w ce)) (hs : swapsWith e (some (.Name x p)) pos.line X.env = pure false) :
    PS X (.Assign [.Name x p] e pos) (tS Φ w (.asg i ce)) := (ps_set hN hi hx he hs hf).via fun D σ H h => asg_val h
theorem asg_new {D : Ends} {σ : L2.St} {H : Hp} (h : tS Φ w (.asgM i ce) D σ H) : tF Φ w ce σ H fun v H1 => gName i v σ H1 D.nx := by
  obtain ⟨ρ, F, S, h⟩ := h
  refine ⟨ρ, F, S, ?_⟩
  have h : PostS w F D ((evE Φ ce ρ).out fun d ρ => match d with | .list ds => O.of (putS ρ i (.mu ds)) | _ => .bad) := h
  have p := PostF.out (σ := σ) h fun d ρ e n => by
    cases d with
    | list ds => exact ⟨ds, rfl⟩
    | _ => exact absurd rfl n
  cases q : evE Φ ce ρ with
  | bad => rw [q] at p; exact p
  | exc z ρ' => rw [q] at p; exact p
  | ok d ρ' =>
    rw [q] at p
    cases d with
    | list ds =>
      intro F' H' pp xs l S' fr r
      obtain ⟨ds2, ρ1, F1, p2, xs2, e1, l1, S1, fr1, r1, h1⟩ := p F' H' pp xs l S' fr r
      cases e1
      dsimp only at h1
      cases q2 : putS ρ1 i (.mu ds2) with
      | none => rw [q2] at h1; exact h1.elim
      | some ρ2 =>
        rw [q2] at h1
        obtain rfl := putS_some q2
        exact h1 F1 H' _ FLe.rf (fr1.put S1 r1 i)
    | _ => exact p
theorem sS_asgM (hN : X.N.Nodup) (hi : X.N[i]? = some x) (hx : Loc X.env.scope x) (hf : X.fn x = true ∨ X.env.scope.names.lookup x = some .local) (he : PE X e (tF Φ w ce)) (hs : swapsWith e (some (.Name x p)) pos.line X.env = pure false) :
    PS X (.Assign [.Name x p] e pos) (tS Φ w (.asgM i ce)) := (ps_set hN hi hx he hs hf).via fun D σ H h => asg_new h
theorem frz_read (hl : ∀ ρ d ρ', evE Φ ce ρ = .ok d ρ' → ∃ ds, d = .list ds) {σ : L2.St} {H : Hp} {Q : VK} (h : tE Φ w ce σ H Q) : tF Φ w ce σ H Q := by
  obtain ⟨ρ, F, S, p⟩ := h
  refine ⟨ρ, F, S, ?_⟩
  cases q : evE Φ ce ρ with
  | bad => rw [q] at p; exact p
  | exc x ρ' => rw [q] at p; exact p
  | ok d ρ' =>
    obtain ⟨ds, rfl⟩ := hl ρ d ρ' q
    rw [q] at p
    intro F' H' pp xs l S' fr r
    obtain ⟨le, S2⟩ := fr.frz S'
    exact p _ H' _ (l.tr le) S2 (.lst (.inl upd_same) (r.mo le))
section
variable {tg iter elt' : Expr} {ifs : List Expr} {src elt cnd : E} {tgc : Tg} {own : List (Str × Nat)} {scope : Scope}
theorem sS_setLc (c : CompOk X Φ w tg elt' ifs scope own tgc elt cnd) (hi' : PI X tg iter (tI Φ w src)) (hs : ∀ x, foldedSetIterable iter X.env x = pure x) (hi : X.N[i]? = some x) (hx : X.env.scope.names.lookup x = some .local)
    (hsw : swapsWith (.ListComp elt' [⟨tg, iter, ifs, 0⟩] scope p) (some (.Name x p2)) pos.line X.env = pure true) :
    PS X (.Assign [.Name x p2] (.ListComp elt' [⟨tg, iter, ifs, 0⟩] scope p) pos) (tS Φ w (.asg i (.comp elt tgc src cnd (own.map (·.2))))) :=
  (ps_setLc c.calm c.nd hi hx hsw hi' c.blk (fun s H C cl fp => PG.any fun G => c.g G s H C cl fp) (fun s H C cl fp => PTs.any fun G => c.t G s H C cl fp) (fun s H C cl fp => PE.any fun G => c.e G s H C cl fp) hs).via fun D σ H h => lc_read c (frz_read comp_list (asg_val h))
theorem sS_setLcM (c : CompOk X Φ w tg elt' ifs scope own tgc elt cnd) (hi' : PI X tg iter (tI Φ w src)) (hs : ∀ x, foldedSetIterable iter X.env x = pure x) (hi : X.N[i]? = some x) (hx : X.env.scope.names.lookup x = some .local)
    (hsw : swapsWith (.ListComp elt' [⟨tg, iter, ifs, 0⟩] scope p) (some (.Name x p2)) pos.line X.env = pure true) :
    PS X (.Assign [.Name x p2] (.ListComp elt' [⟨tg, iter, ifs, 0⟩] scope p) pos) (tS Φ w (.asgM i (.comp elt tgc src cnd (own.map (·.2))))) :=
  (ps_setLc c.calm c.nd hi hx hsw hi' c.blk (fun s H C cl fp => PG.any fun G => c.g G s H C cl fp) (fun s H C cl fp => PTs.any fun G => c.t G s H C cl fp) (fun s H C cl fp => PE.any fun G => c.e G s H C cl fp) hs).via fun D σ H h => lc_read c (asg_new h)
end
theorem sS_asgs {is : List Nat} {es : List Expr} {k : Nat} (hg : PG X (.Tuple es k p) (tG w (.many is))) (he : PE X e (tE Φ w ce)) (hs : swapsWithSole [.Tuple es k p] e pos.line X.env = pure false) (hw : swappedStores [.Tuple es k p] e X.env = pure none) :
    PS X (.Assign [.Tuple es k p] e pos) (tS Φ w (.asgs is ce)) := (ps_asg he hg hs hw (by rfl)).via fun D σ H ⟨ρ, F, S, h⟩ => ⟨ρ, F, S, by
  refine PostE.mono (PostE.out (show PostS w F D ((evE Φ ce ρ).out fun d ρ => O.of (asgT (.many is) d ρ)) from h)) fun v H1 ⟨d, ρ1, F1, l, S1, r, h1⟩ => ?_
  dsimp only at h1
  cases q : asgT (.many is) d ρ1 with
  | none => rw [q] at h1; exact h1.elim
  | some ρ2 =>
    rw [q] at h1
    exact ⟨ρ1, F1, d, ρ2, S1, r, q, fun σ' S' _ => h1 F1 H1 σ' FLe.rf S'⟩⟩
theorem sS_two {px py pt : Pos} {kt k2 : Nat} {pt2 : Pos} (hc : X.calm = true) (hN : X.N.Nodup) (hi : X.N[i]? = some x) (hj : X.N[j]? = some y) (hij : i ≠ j)
    (hx : X.env.scope.names.lookup x = some .local) (hy : X.env.scope.names.lookup y = some .local) (ha : PE X a (tE Φ w ca)) (hb : PE X b (tE Φ w cb)) (hsa : starEach [a, b] X.env = (false, eval a X.env) :: starEach [b] X.env) (hsb : starEach [b] X.env = (false, eval b X.env) :: starEach [] X.env)
    (hw : swappedStores [.Tuple [.Name x px, .Name y py] kt pt] (.Tuple [a, b] k2 pt2) X.env = pure (some [x, y])) :
    PS X (.Assign [.Tuple [.Name x px, .Name y py] kt pt] (.Tuple [a, b] k2 pt2) pos) (tS Φ w (.two i j ca cb)) :=
  (ps_par hc hN hi hj hij hx hy (pa_cons ha (pa_cons hb pa_nil hsb) hsa) hw (by rfl)).via fun D σ H ⟨ρ, F, S, h⟩ => ⟨ρ, F, S, by
    refine PostE.mono (PostE.out (show PostS w F D ((evE Φ ca ρ).out fun x ρ => (evE Φ cb ρ).out fun y ρ => O.of ((putS ρ i (.val x)).bind fun ρ => putS ρ j (.val y))) from h)) fun v H1 ⟨d, ρ1, F1, l, S1, r, h1⟩ => ⟨ρ1, F1, S1, ?_⟩
    refine PostE.mono (PostE.out h1) fun v2 H2 ⟨d2, ρ2, F2, l2, S2, r2, h2⟩ => ⟨v, v2, rfl, ?_⟩
    dsimp only at h2
    cases q : putS ρ2 i (.val d) with
    | none => rw [q] at h2; exact h2.elim
    | some ρ3 =>
      rw [q] at h2
      obtain rfl := putS_some q
      have h2 : PostS w F2 D (O.of (putS (ρ2.set i (.val d)) j (.val d2))) := h2
      cases q2 : putS (ρ2.set i (.val d)) j (.val d2) with
      | none => rw [q2] at h2; exact h2.elim
      | some ρ4 =>
        rw [q2] at h2
        obtain rfl := putS_some q2
        exact h2 F2 H2 _ FLe.rf ((S2.put (r.mo l2)).put r2)⟩
/-! ### ends -/
theorem sS_ret (he : PE X e (tE Φ w ce)) : PS X (.Return (some e) pos) (tS Φ w (.ret ce)) := (ps_ret he).via fun D σ H ⟨ρ, F, S, h⟩ => ⟨ρ, F, S, by
  refine PostE.mono (PostE.out (show PostS w F D ((evE Φ ce ρ).out fun d ρ => .ret false d ρ) from h)) fun v H1 ⟨d, ρ1, F1, l, S1, r, h1⟩ => ?_
  exact h1 F1 H1 σ v FLe.rf S1 r⟩
theorem sS_retN : PS X (.Return none pos) (tS Φ w (.ret .non)) := ps_retN.via fun D σ H ⟨ρ, F, S, h⟩ => h F H σ .non FLe.rf S .non
theorem sS_retM (hN : X.N[i]? = some x) (hv : Vis X.env.scope x) (hd : (x == ("__debug__" : Str)) = false) (hc : (x == ("__classdict__" : Str)) = false) : PS X (.Return (some (.Name x p)) pos) (tS Φ w (.retM i)) :=
  (ps_ret (pe_var hN hv hd hc)).via fun D σ H ⟨ρ, F, S, h⟩ => by
    have h : PostS w F D (match getS ρ i with
      | .mu ds => .ret true (.list ds) ρ
      | _ => .bad) := h
    cases q : getS ρ i with
    | un => rw [q] at h; exact h.elim
    | val d => rw [q] at h; exact h.elim
    | par ds => rw [q] at h; exact h.elim
    | mu ds =>
      rw [q] at h
      obtain ⟨s0, a, xs, hi, ms, im, hσ, fa, ga, ha, rr⟩ := S.mutL (i := i) (ds := ds) (by rw [q]; rfl)
      rw [getS_at hi] at q
      subst q
      refine ⟨.ref a, hσ, h F H σ _ FLe.rf S ⟨ds, a, xs, rfl, rfl, ha, fa, ga, ?_, rr⟩⟩
      obtain ⟨b, ys, e', f, g, n, _⟩ := S.slot i _ hi
      rw [hσ] at e'; cases e'
      exact n
theorem sS_drop (he : PE X e (tE Φ w ce)) (hs : swapsWith e none pos.line X.env = pure false) : PS X (.Expr e pos) (tS Φ w (.drop ce)) := (ps_expr he hs).via fun D σ H ⟨ρ, F, S, h⟩ => ⟨ρ, F, S, by
  refine PostE.mono (PostE.out (show PostS w F D ((evE Φ ce ρ).out fun _ ρ => .nx ρ) from h)) fun v H1 ⟨d, ρ1, F1, l, S1, r, h1⟩ => ?_
  exact h1 F1 H1 σ FLe.rf S1⟩
/-! ### lists that change -/
theorem sS_app {apos : Pos} {cp : Pos} (hN : X.N[i]? = some x) (hv : Vis X.env.scope x) (hd : (x == ("__debug__" : Str)) = false) (hc : (x == ("__classdict__" : Str)) = false) (hb : PE X b (tE Φ w cb))
    (hs : starEach [b] X.env = (false, eval b X.env) :: starEach [] X.env) (hline : (apos.endLine == cp.line) = true) :
    PS X (.Expr (.Call (.Attribute (.Name x p) "append" apos) [b] [] cp) pos) (tS Φ w (.app i cb)) :=
  (ps_expr (pe_bm PySem.F.plainAttrs_list PySem.F.slot_list_append PySem.F.type_list_append mt_append (pe_var hN hv hd hc) (pa_cons hb pa_nil hs) (by rfl) (by rw [hs]; rfl) hline hs (by rfl)) (by rfl)).via fun D σ H ⟨ρ, F, S, h⟩ => by
    have h : PostS w F D (if (mutS (getS ρ i)).isSome then (evE Φ cb ρ).out fun d ρ => match mutS (getS ρ i) with
      | some ds => if ds.length < SL then .nx (ρ.set i (remut (getS ρ i) (ds ++ [d]))) else .bad
      | none => .bad
      else .bad) := h
    cases q0 : mutS (getS ρ i) with
    | none => rw [q0] at h; exact h.elim
    | some ds0 =>
      rw [q0, if_pos (show (some ds0).isSome = true from rfl)] at h
      obtain ⟨s0, a, xs0, hi0, ms0, im0, hσ, fa0, ga0, ha0, rr0⟩ := S.mutL q0
      refine ⟨.ref a, hσ, .inl ⟨rfl, xs0, SqL.of ha0⟩, ρ, F, S, PostE.mono (PostE.out h) fun v H1 ⟨d, ρ1, F1, l1, S1, r1, p1⟩ => ?_⟩
      dsimp only at p1
      cases q1 : mutS (getS ρ1 i) with
      | none => rw [q1] at p1; exact p1.elim
      | some ds =>
        rw [q1] at p1
        dsimp only at p1
        obtain ⟨s1, a1, xs, hi, ms, im, hσ1, fa, ga, ha1, rr⟩ := S1.mutL q1
        rw [hσ] at hσ1
        cases hσ1
        rw [getS_at hi] at p1
        by_cases c : ds.length < SL
        · rw [if_pos c] at p1
          refine ⟨a, xs, v, rfl, rfl, ha1, by rw [← rr.length, ← SL_eq]; exact c, ?_⟩
          exact p1 F1 _ σ FLe.rf (S1.write (xs := xs) hi im hσ (rr.app (.cons r1 .nil)))
        · rw [if_neg c] at p1; exact p1.elim
theorem sS_setM {sp : Pos} (hN : X.N[i]? = some x) (hv : Vis X.env.scope x) (hd : (x == ("__debug__" : Str)) = false) (hc : (x == ("__classdict__" : Str)) = false) (ha : PE X a (tE Φ w ca)) (he : PE X e (tE Φ w ce))
    (hs : swapsWithSole [.Subscript (.Name x p) a sp] e pos.line X.env = pure false) (hw : swappedStores [.Subscript (.Name x p) a sp] e X.env = pure none)
    (hga : ∀ v, assign (.Subscript (.Name x p) a sp) X.env v = (do
      let ov ← holding [v] (eval (.Name x p) X.env)
      let iv ← holding [v, ov] (eval a X.env)
      standAt sp
      holding [v, ov, iv] (setItem ov iv v)
      release [v, ov, iv] [])) :
    PS X (.Assign [.Subscript (.Name x p) a sp] e pos) (tS Φ w (.setM i ca ce)) :=
  (ps_asg he (pg_sub (pe_var hN hv hd hc) ha set_list hga) hs hw (by rfl)).via fun D σ H ⟨ρ, F, S, h⟩ => ⟨ρ, F, S, by
    refine PostE.mono (PostE.out (show PostS w F D ((evE Φ ce ρ).out fun d ρ => if (mutS (getS ρ i)).isSome then (evE Φ ca ρ).out fun k ρ => match mutS (getS ρ i), k with
      | some ds, .int k => (match setAt ds k d with
        | some ds' => .nx (ρ.set i (remut (getS ρ i) ds'))
        | none => .bad)
      | _, _ => .bad
      else .bad) from h)) fun v H1 ⟨d, ρ1, F1, l1, S1, r1, p1⟩ => ?_
    dsimp only at p1
    cases q0 : mutS (getS ρ1 i) with
    | none => rw [q0] at p1; exact p1.elim
    | some ds0 =>
      rw [q0, if_pos (show (some ds0).isSome = true from rfl)] at p1
      obtain ⟨s0, a, xs0, hi0, ms0, im0, hσ, fa0, ga0, ha0, rr0⟩ := S1.mutL q0
      refine ⟨.ref a, hσ, ρ1, F1, S1, PostE.mono (PostE.out p1) fun v2 H2 ⟨d2, ρ2, F2, l2, S2, r2, p2⟩ => ?_⟩
      dsimp only at p2
      cases q1 : mutS (getS ρ2 i) with
      | none => rw [q1] at p2; exact p2.elim
      | some ds =>
        rw [q1] at p2
        cases r2 with
        | int kk =>
          obtain ⟨s1, a1, xs, hi, ms, im, hσ1, fa, ga, ha1, rr⟩ := S2.mutL q1
          rw [hσ] at hσ1
          cases hσ1
          rw [getS_at hi] at p2
          dsimp only at p2
          cases q2 : setAt ds kk d with
          | none => rw [q2] at p2; exact p2.elim
          | some ds' =>
            rw [q2] at p2
            obtain ⟨jj, e1, rr2⟩ := setAt_rep rr (r1.mo l2) q2
            exact ⟨a, xs, kk, jj, rfl, rfl, ha1, e1, p2 F2 _ σ FLe.rf (S2.write (xs := xs) hi im hσ rr2)⟩
        | _ => exact p2.elim⟩
end
end HM

namespace HM
open PySem PySem.Spec PyProof.Rows L2
section
variable {X : Cx} {Φ : Fns} {w : Wd} {pos p : Pos} {e a b : Expr} {ce ca cb : E} {x y : Str} {i j : Nat} {st : Stmt} {sts ss ts : List Stmt} {cs ct : S} {cond : E}
def augOp : Op2 → Option Operator
  | .add => some .Add
  | .sub => some .Sub
  | _ => none
theorem sS_aug {o : Op2} {op : Operator} (ho : augOp o = some op) (hN : X.N.Nodup) (hi : X.N[i]? = some x) (hx : Loc X.env.scope x) (hf : X.fn x = true ∨ X.env.scope.names.lookup x = some .local) (he : PE X e (tE Φ w ce)) :
    PS X (.AugAssign (.Name x p) op e pos) (tS Φ w (.aug i o ce)) := by
  have key : ∀ (f : Int → Int → Int), (∀ i j, bin o (.int i) (.int j) = some (.int (f i j))) → (∀ i d z, bin o (.int i) d = some z → ∃ j, d = .int j) → PIp X op (ipI f) → PS X (.AugAssign (.Name x p) op e pos) (tS Φ w (.aug i o ce)) := fun f h1 h2 hp =>
    (ps_aug hN hi hx he hp hf).via fun D σ H ⟨ρ, F, S, h⟩ => by
      have h : PostS w F D (match getS ρ i with
        | .val (.int x) => (evE Φ ce ρ).out fun y ρ => match bin o (.int x) y with
          | some z => O.of (putS ρ i (.val z))
          | none => .bad
        | _ => .bad) := h
      cases q : getS ρ i with
      | un => rw [q] at h; exact h.elim
      | mu ds => rw [q] at h; exact h.elim
      | par ds => rw [q] at h; exact h.elim
      | val d =>
        rw [q] at h
        cases d with
        | int xi =>
          have hr : ρ[i]? = some (.val (.int xi)) := by
            unfold getS at q
            rw [List.getD_eq_getElem?_getD] at q
            cases q3 : ρ[i]? with
            | none => rw [q3] at q; cases q
            | some s => rw [q3] at q; exact congrArg some q
          obtain ⟨u, e1, r0⟩ := S.slot i _ hr
          refine ⟨u, e1, ρ, F, S, PostE.mono (PostE.out h) fun v H1 ⟨d, ρ1, F1, l1, S1, r1, p1⟩ => ?_⟩
          dsimp only at p1
          cases q1 : bin o (.int xi) d with
          | none => rw [q1] at p1; exact p1.elim
          | some z =>
            rw [q1] at p1
            obtain ⟨j, rfl⟩ := h2 _ _ _ q1
            rw [h1] at q1
            cases q1
            cases r0
            cases r1
            refine ⟨xi, j, rfl, rfl, ?_⟩
            dsimp only at p1
            cases q2 : putS ρ1 i (.val (.int (f xi j))) with
            | none => rw [q2] at p1; exact p1.elim
            | some ρ2 =>
              rw [q2] at p1
              obtain rfl := putS_some q2
              exact p1 F1 H1 _ FLe.rf (S1.put (.int _))
        | _ => exact h.elim
  cases o with
  | add => cases ho; exact key (fun i j => i + j) (fun _ _ => rfl) (fun i d z h => by cases d with | int j => exact ⟨j, rfl⟩ | _ => cases h) ip_add
  | sub => cases ho; exact key (fun i j => i - j) (fun _ _ => rfl) (fun i d z h => by cases d with | int j => exact ⟨j, rfl⟩ | _ => cases h) ip_sub
  | _ => cases ho
/-! ### loops -/
theorem forGo_out {w : Wd} {F : Hp} {D : Ends} {f : PyData → Env → O} {d : PyData} {ds : List PyData} {ρ : Env} (h : PostS w F D (forGo f (d :: ds) ρ)) (F0 : Hp) (l : FLe F0 F) :
    PostS w F { D with nx := fun σ H => ∃ ρ F, FLe F0 F ∧ w.sim F H ρ σ ∧ PostS w F D (forGo f ds ρ), ct := fun σ H => ∃ ρ F, FLe F0 F ∧ w.sim F H ρ σ ∧ PostS w F D (forGo f ds ρ), bk := D.nx } (f d ρ) := by
  rw [forGo] at h
  cases q : f d ρ with
  | nx ρ' => rw [q] at h; exact fun F' H' σ l' S => ⟨ρ', F', l.tr l', S, PostS.up h l'⟩
  | cnt ρ' => rw [q] at h; exact fun F' H' σ l' S => ⟨ρ', F', l.tr l', S, PostS.up h l'⟩
  | brk ρ' => rw [q] at h; exact h
  | ret own d ρ' => rw [q] at h; exact h
  | exc z ρ' => rw [q] at h; exact h
  | bad => rw [q] at h; exact h
theorem sS_for {tg iter : Expr} {tgc : Tg} {src : E} (hp : PassesOwn (model X.prog X.w) X.A X.env X.xe) (hc : X.calm = true) (hi : PI X tg iter (tI Φ w src)) (hg : PG X tg (tG w tgc)) (hb : PSs X ss (tS Φ w cs)) (hs : ∀ x, foldedSetIterable iter X.env x = pure x) :
    PS X (.For tg iter ss [] pos) (tS Φ w (.for_ tgc src cs)) := (ps_for hp hc hi hg hb hs).via fun D σ H ⟨ρ, F, S, h⟩ => ⟨ρ, F, S, by
  have h : PostS w F D ((evE Φ src ρ).out fun x ρ => match itemsD x with
    | some ds => forGo (fun d ρ => match asgT tgc d ρ with
      | some ρ' => evS Φ cs ρ'
      | none => .bad) ds ρ
    | none => .bad) := h
  cases q : evE Φ src ρ with
  | bad => rw [q] at h; exact h.elim
  | exc z ρ1 => rw [q] at h; exact h σ
  | ok d ρ1 =>
    rw [q] at h
    have h : PostS w F D (match itemsD d with
      | some ds => forGo (fun d ρ => match asgT tgc d ρ with
        | some ρ' => evS Φ cs ρ'
        | none => .bad) ds ρ1
      | none => .bad) := h
    cases q1 : itemsD d with
    | none => rw [q1] at h; exact h.elim
    | some ds =>
      rw [q1] at h
      refine ⟨ds, q1, fun F1 H1 J l1 S1 hJ hl => ?_⟩
      generalize hf : (fun d ρ => match asgT tgc d ρ with
        | some ρ' => evS Φ cs ρ'
        | none => O.bad : PyData → Env → O) = f at h
      refine ⟨fun i m σ H => m = ds.length - i ∧ i ≤ ds.length ∧ ∃ ρ F, FLe F1 F ∧ w.sim F H ρ σ ∧ PostS w F D (forGo f (ds.drop i) ρ), ⟨ds.length, by simp, Nat.zero_le _, ρ1, F1, FLe.rf, S1, PostS.up h l1⟩, ?_⟩
      rintro i m σ H ⟨rfl, hi', ρi, Fi, li, Si, hg'⟩
      by_cases hlt : i < ds.length
      · refine .inr ⟨hJ.go i H hlt (li.tr Si.fh), fun σ H => ∃ ρ F, FLe F1 F ∧ w.sim F H ρ σ ∧ PostS w F D (forGo f (ds.drop (i + 1)) ρ), fun σ' H' h' => ⟨ds.length - (i + 1), by omega, rfl, hlt, h'⟩, fun x H' y => ?_⟩
        obtain ⟨d', F', ed, ext, rd⟩ := hJ.yld i H x H' Fi li Si.fh (li.tr Si.fh) y hlt
        have S' := Si.ext ext
        have edrop : ds.drop i = d' :: ds.drop (i + 1) := by
          rw [List.drop_eq_getElem_cons hlt]
          rw [List.getElem?_eq_getElem hlt] at ed
          rw [Option.some.inj ed]
        rw [edrop] at hg'
        have o := forGo_out (PostS.up hg' ext.ff) F1 (li.tr ext.ff)
        rw [← hf] at o
        dsimp only at o
        cases q2 : asgT tgc d' ρi with
        | none => rw [q2] at o; exact o.elim
        | some ρ2 =>
          rw [q2] at o
          rw [hf] at o
          exact ⟨ρi, F', d', ρ2, S', rd, q2, fun σ2 S2 _ => ⟨ρ2, F', S2, o⟩⟩
      · have e : i = ds.length := by omega
        subst e
        rw [List.drop_length] at hg'
        exact .inl ⟨hJ.stop H (li.tr Si.fh), hg' Fi H σ FLe.rf Si⟩⟩
theorem whileD_some {c : Env → R PyData} {f : Env → O} {ρ : Env} (h : whileD c f ρ ≠ .bad) : ∃ n, whileN c f n ρ = some (whileD c f ρ) := by
  unfold whileD at h ⊢
  by_cases hx : ∃ n o, whileN c f n ρ = some o
  · rw [dif_pos hx]
    exact ⟨hx.choose, hx.choose_spec.choose_spec⟩
  · rw [dif_neg hx] at h
    exact absurd rfl h
theorem sS_while {c : Expr} (hp : PassesOwn (model X.prog X.w) X.A X.env X.xe) (hc : PT X c (tT Φ w cond)) (hb : PSs X ss (tS Φ w cs)) : PS X (.While c ss [] pos) (tS Φ w (.while_ cond cs)) :=
  (ps_while hp hc hb).via fun D σ H ⟨ρ, F, S, h⟩ => by
    have h : PostS w F D (whileD (fun ρ => evE Φ cond ρ) (fun ρ => evS Φ cs ρ) ρ) := h
    obtain ⟨n0, e0⟩ := whileD_some (c := fun ρ => evE Φ cond ρ) (f := fun ρ => evS Φ cs ρ) (ρ := ρ) (fun z => by rw [z] at h; exact h.elim)
    refine ⟨fun m σ H => ∃ ρ F o, w.sim F H ρ σ ∧ whileN (fun ρ => evE Φ cond ρ) (fun ρ => evS Φ cs ρ) m ρ = some o ∧ PostS w F D o, ⟨n0, ρ, F, _, S, e0, h⟩, ?_⟩
    rintro m σ H ⟨ρ, F, o, S, e, h⟩
    cases m with
    | zero => cases e
    | succ n =>
      refine ⟨ρ, F, S, ?_⟩
      rw [whileN] at e
      cases q : evE Φ cond ρ with
      | bad => rw [q] at e; cases e; exact h.elim
      | exc z ρ1 => rw [q] at e; cases e; exact h σ
      | ok d ρ1 =>
        rw [q] at e
        cases d with
        | bool b =>
          cases b with
          | false =>
            cases e
            intro F' H' l S'
            rw [if_neg Bool.false_ne_true]
            exact h F' H' σ l S'
          | true =>
            intro F' H' l S'
            rw [if_pos rfl]
            refine ⟨fun σ' H' => ∃ ρ F o, w.sim F H' ρ σ' ∧ whileN (fun ρ => evE Φ cond ρ) (fun ρ => evS Φ cs ρ) n ρ = some o ∧ PostS w F D o, fun σ' H' h' => ⟨n, Nat.lt_succ_self n, h'⟩, ρ1, F', S', ?_⟩
            dsimp only at e
            cases q2 : evS Φ cs ρ1 with
            | nx ρ' => rw [q2] at e; exact fun F2 H2 σ2 l2 S2 => ⟨ρ', F2, o, S2, e, PostS.up h (l.tr l2)⟩
            | cnt ρ' => rw [q2] at e; exact fun F2 H2 σ2 l2 S2 => ⟨ρ', F2, o, S2, e, PostS.up h (l.tr l2)⟩
            | brk ρ' => rw [q2] at e; cases e; exact PostS.up h l
            | ret own d ρ' => rw [q2] at e; cases e; exact PostS.up h l
            | exc z ρ' => rw [q2] at e; cases e; exact PostS.up h l
            | bad => rw [q2] at e; cases e; exact h.elim
        | _ => cases e; exact h.elim
end
end HM

namespace HM
open PySem PySem.Spec PyProof.Rows L2

/-! ### pairs of a walk -/
theorem zipL_get : ∀ {ds es : List PyData} {i : Nat} {a b : PyData}, ds[i]? = some a → es[i]? = some b → (zipL ds es)[i]? = some (.tuple [a, b])
  | [], _, _, _, _, h, _ => by cases h
  | _ :: _, [], _, _, _, _, h => by cases h
  | x :: r, y :: s, 0, a, b, h, g => by cases h; cases g; rfl
  | x :: r, y :: s, i + 1, a, b, h, g => zipL_get (ds := r) (es := s) (i := i) h g
theorem zipL_len : ∀ (ds es : List PyData), (zipL ds es).length = min ds.length es.length
  | [], es => by cases es <;> simp [zipL]
  | _ :: _, [] => rfl
  | x :: r, y :: s => by rw [zipL, List.length_cons, zipL_len r s, List.length_cons, List.length_cons]; omega
theorem enumFrom_get : ∀ {ds : List PyData} {k i : Nat} {a : PyData}, ds[i]? = some a → (enumFrom k ds)[i]? = some (.tuple [.int ((k + i : Nat) : Int), a])
  | [], _, _, _, h => by cases h
  | x :: r, k, 0, a, h => by cases h; rfl
  | x :: r, k, i + 1, a, h => by
    have := enumFrom_get (ds := r) (k := k + 1) (i := i) h
    rw [show k + 1 + i = k + (i + 1) by omega] at this
    exact this
theorem enumFrom_len : ∀ (k : Nat) (ds : List PyData), (enumFrom k ds).length = ds.length
  | _, [] => rfl
  | k, x :: r => by rw [enumFrom, List.length_cons, List.length_cons, enumFrom_len]
def zipIt (P Q : Hp → Addr → List V → Prop) (a b : Addr) : It :=
  ⟨fun i H => ∃ (xs ys : List V) (x y : V), P H a xs ∧ Q H b ys ∧ xs[i]? = some x ∧ ys[i]? = some y,
    fun i H v H' => ∃ T x y, v = .ref T ∧ H T = none ∧ H' = upd H T (.tup [x, y]) ∧ (∀ xs, P H a xs → xs[i]? = some x) ∧ ∀ ys, Q H b ys → ys[i]? = some y,
    fun i H => ∃ xs ys : List V, P H a xs ∧ Q H b ys ∧ (xs.length ≤ i ∨ ys.length ≤ i)⟩
theorem src_zip {K : PySem.W.Frag} {P Q : Hp → Addr → List V → Prop} {F0 : Hp} {a b : Addr} {xs ys : List V} {ds es : List PyData} (hP : ∀ H, FLe F0 H → P H a xs) (hQ : ∀ H, FLe F0 H → Q H b ys) (r : RepAll K F0 ds xs) (s : RepAll K F0 es ys) :
    Src K (zipIt P Q a b) (FLe F0) F0 (zipL ds es) where
  go := fun i H hi l => by
    rw [zipL_len] at hi
    obtain ⟨v, e, _⟩ := r.get (List.getElem?_eq_getElem (show i < ds.length by omega))
    obtain ⟨u, e2, _⟩ := s.get (List.getElem?_eq_getElem (show i < es.length by omega))
    exact ⟨xs, ys, v, u, hP H l, hQ H l, e, e2⟩
  yld := fun i H x H' F l1 l2 l3 y hi => by
    obtain ⟨T, v, u, rfl, hT, rfl, h1, h2⟩ := y
    obtain ⟨d, e, q⟩ := r.getV (h1 xs (hP H l3))
    obtain ⟨d2, e2, q2⟩ := s.getV (h2 ys (hQ H l3))
    have E := Ext.new l2 hT (.tup [v, u])
    exact ⟨.tuple [d, d2], _, zipL_get e e2, E, .tup (.inl (.inl upd_same)) (.cons (q.mo (l1.tr E.ff)) (.cons (q2.mo (l1.tr E.ff)) .nil))⟩
  stop := fun H l => by
    refine ⟨xs, ys, hP H l, hQ H l, ?_⟩
    rw [zipL_len, r.length, s.length]
    omega
theorem src_enum {K : PySem.W.Frag} {F0 : Hp} {a : Addr} {xs : List V} {ds : List PyData} (h : Rd F0 a (.lst xs)) (r : RepAll K F0 ds xs) : Src K (Ite K a) (FLe F0) F0 (enumFrom 0 ds) where
  go := fun i H hi l => by
    rw [enumFrom_len] at hi
    obtain ⟨v, e, _⟩ := r.get (List.getElem?_eq_getElem hi)
    exact ⟨xs, v, .inl (Rd.mo l h), e⟩
  yld := fun i H x H' F l1 l2 l3 y hi => by
    obtain ⟨T, v, rfl, hT, rfl, h1⟩ := y
    obtain ⟨d, e, q⟩ := r.getV (h1 xs (.inl (Rd.mo l3 h)))
    have E := Ext.new l2 hT (.tup [.int (i : Nat), v])
    refine ⟨.tuple [.int ((0 + i : Nat) : Int), d], _, enumFrom_get e, E, .tup (.inl (.inl upd_same)) (.cons ?_ (.cons (q.mo (l1.tr E.ff)) .nil))⟩
    rw [Nat.zero_add]
    exact .int _
  stop := fun H l => ⟨xs, .inl (Rd.mo l h), by rw [enumFrom_len, r.length]; exact Nat.le_refl _⟩
section
variable {X : Cx} {Φ : Fns} {w : Wd} {pos p tpos : Pos} {a b : Expr} {ca cb : E} {elts : List Expr} {kk : Nat}
theorem sI_zip (hK : X.K = w.K) (hg : Gl X "zip") (hm : X.mg "zip" = none) (ha : PE X a (tE Φ w ca)) (hb : PE X b (tE Φ w cb)) (hs : starEach [a, b] X.env = (false, eval a X.env) :: starEach [b] X.env) (hs2 : starEach [b] X.env = (false, eval b X.env) :: starEach [] X.env) (hpl : (backTo pos (starEach [b] X.env)).any (·.1) = false) :
    PI X (.Tuple elts kk tpos) (.Call (.Name "zip" p) [a, b] [] pos) (tI Φ w (.zip ca cb)) :=
  (PI.sz (RZ.pi_zipA hg hm (pa_cons ha (pa_cons hb pa_nil hs2) hs) hs hpl)).via fun σ H R ⟨ρ, F, S, h⟩ => ⟨ρ, F, S, by
    have h : PostI w F σ R ((evE Φ ca ρ).bind fun x ρ => (evE Φ cb ρ).bind fun y ρ => .of (zipD x y) ρ) := h
    cases q : evE Φ ca ρ with
    | bad => rw [q] at h; exact h
    | exc z ρ' => rw [q] at h; exact h
    | ok d ρ' =>
      rw [q] at h
      intro F' H' v l S' r
      refine ⟨ρ', F', S', ?_⟩
      have h : PostI w F σ R ((evE Φ cb ρ').bind fun y ρ => .of (zipD d y) ρ) := h
      cases q2 : evE Φ cb ρ' with
      | bad => rw [q2] at h; exact h.elim
      | exc z ρ2 => rw [q2] at h; exact PostX.up h l
      | ok d2 ρ2 =>
        rw [q2] at h
        have h : PostI w F σ R (.of (zipD d d2) ρ2) := h
        intro F2 H2 v2 l2 S2 r2
        have both : ∀ {ds es : List PyData}, zipD d d2 = some (.list (zipL ds es)) → ∀ J, Src w.K J (FLe F2) F2 (zipL ds es) → (zipL ds es).length ≤ SL → R J H2 := fun {ds es} e J hJ hl => by
          rw [e] at h
          obtain ⟨ds', e', h⟩ := h
          cases e'
          exact h F2 H2 J (l.tr l2) S2 hJ hl
        have r1 := r.mo l2
        cases r1 with
        | lst s1 r1 =>
          cases r2 with
          | lst s2 r2 =>
            refine ⟨_, _, _, _, rfl, .inl ⟨.inl (Rd.mo S2.fh s1), .inl (Rd.mo S2.fh s2), fun sz => ?_⟩⟩
            have z1 := sz _ _ (.inl (.inl (Rd.mo S2.fh s1)))
            refine both rfl _ ?_ ?_
            · rw [hK]
              exact src_zip (P := SqL w.K) (Q := SqL w.K) (fun H l => .inl (Rd.mo l s1)) (fun H l => .inl (Rd.mo l s2)) r1 r2
            · rw [zipL_len, r1.length, SL_eq]; omega
          | _ => exact h.elim
        | tup s1 r1 =>
          cases r2 with
          | tup s2 r2 =>
            have t1 := SqT.mo S2.fh s1
            have t2 := SqT.mo S2.fh s2
            refine ⟨_, _, _, _, rfl, .inr ⟨by rw [hK]; exact t1, by rw [hK]; exact t2, fun sz => ?_⟩⟩
            have z1 := sz _ _ (.inr (by rw [hK]; exact t1))
            refine both rfl _ ?_ ?_
            · rw [hK]
              exact src_zip (P := SqT w.K) (Q := SqT w.K) (fun H l => SqT.mo l s1) (fun H l => SqT.mo l s2) r1 r2
            · rw [zipL_len, r1.length, SL_eq]; omega
          | _ => exact h.elim
        | _ => cases r2 <;> exact h.elim⟩
theorem sI_enum (hK : X.K = w.K) (hg : Gl X "enumerate") (hm : X.mg "enumerate" = none) (ha : PE X a (tE Φ w ca)) (hs : starEach [a] X.env = [(false, eval a X.env)]) :
    PI X (.Tuple elts kk tpos) (.Call (.Name "enumerate" p) [a] [] pos) (tI Φ w (.enum ca)) :=
  (PI.sz (pi_enum hg hm (pa_cons ha pa_nil hs) hs)).via fun σ H R ⟨ρ, F, S, h⟩ => ⟨ρ, F, S, by
    have h : PostI w F σ R ((evE Φ ca ρ).bind fun x ρ => .of (enumD x) ρ) := h
    cases q : evE Φ ca ρ with
    | bad => rw [q] at h; exact h
    | exc z ρ' => rw [q] at h; exact h
    | ok d ρ' =>
      rw [q] at h
      have h : PostI w F σ R (.of (enumD d) ρ') := h
      intro F' H' v l S' r
      cases r with
      | lst s1 r1 =>
        obtain ⟨ds', e', h⟩ := h
        cases e'
        refine ⟨_, _, rfl, .inl (Rd.mo S'.fh s1), fun sz => ?_⟩
        have z1 := sz _ _ (.inl (.inl (Rd.mo S'.fh s1)))
        exact h F' H' _ l S' (by rw [hK]; exact src_enum s1 r1) (by rw [enumFrom_len, r1.length, SL_eq]; exact z1)
      | _ => exact h.elim⟩
theorem sE_edic : PE X (.Dict [] [] pos) (tE Φ w .edic) := pe_dnewK.via fun σ H Q ⟨ρ, F, S, h⟩ => fun p hp => by
  have E := Ext.new S.fh hp (.dK [])
  exact h _ _ _ E.ff (S.ext E) (.dic upd_same .nil)
theorem rgV_rep {K : PySem.W.Frag} {F : Hp} (a b : Int) : RepAll K F (rangeD a (b - a).toNat) (rgV a b) := by
  unfold rangeD rgV
  generalize List.range (b - a).toNat = l
  induction l with
  | nil => exact .nil
  | cons x r ih => exact .cons (.int _) ih
theorem rng_ok {w : Wd} {F : Hp} {σ : L2.St} {Q : VK} {i j : Int} {ρ : Env} {f : List PyData → PyData} (h : PostE w F σ Q ((R.of (rngD (.int i) (.int j)) ρ : R PyData).bind fun x ρ => match x with | .list ds => .ok (f ds) ρ | _ => .bad)) :
    RgOk i j ∧ PostE w F σ Q (.ok (f (rangeD i (j - i).toNat)) ρ) := by
  by_cases c : rngOk i j
  · rw [show rngD (.int i) (.int j) = some (.list (rangeD i (j - i).toNat)) from if_pos c] at h
    exact ⟨⟨c.1, c.2.1, c.2.2.1, c.2.2.2.1, c.2.2.2.2⟩, h⟩
  · rw [show rngD (.int i) (.int j) = none from if_neg c] at h
    exact h.elim
theorem rng_okF {w : Wd} {F : Hp} {σ : L2.St} {Q : VK} {i j : Int} {ρ : Env} (h : PostF w F σ Q ((R.of (rngD (.int i) (.int j)) ρ : R PyData).bind fun x ρ => match x with | .list ds => .ok (.list ds) ρ | _ => .bad)) :
    RgOk i j ∧ PostF w F σ Q (.ok (.list (rangeD i (j - i).toNat)) ρ) := by
  by_cases c : rngOk i j
  · rw [show rngD (.int i) (.int j) = some (.list (rangeD i (j - i).toNat)) from if_pos c] at h
    exact ⟨⟨c.1, c.2.1, c.2.2.1, c.2.2.2.1, c.2.2.2.2⟩, h⟩
  · rw [show rngD (.int i) (.int j) = none from if_neg c] at h
    exact h.elim
theorem rng_no {w : Wd} {F : Hp} {σ : L2.St} {Q : VK} {x y : PyData} {ρ : Env} {f : List PyData → PyData} (n : rngD x y = none) (h : PostE w F σ Q ((R.of (rngD x y) ρ : R PyData).bind fun x ρ => match x with | .list ds => .ok (f ds) ρ | _ => .bad)) : False := by
  rw [n] at h; exact h
theorem rng_noF {w : Wd} {F : Hp} {σ : L2.St} {Q : VK} {x y : PyData} {ρ : Env} {f : List PyData → PyData} (n : rngD x y = none) (h : PostF w F σ Q ((R.of (rngD x y) ρ : R PyData).bind fun x ρ => match x with | .list ds => .ok (f ds) ρ | _ => .bad)) : False := by
  rw [n] at h; exact h
theorem sF_lrng1 {p2 pos2 : Pos} (hc : X.calm = true) (hg : Gl X "list") (hm : X.mg "list" = none) (hg2 : Gl X "range") (hm2 : X.mg "range" = none) (ha : PE X a (tE Φ w ca)) (hs : starEach [a] X.env = (false, eval a X.env) :: starEach [] X.env) :
    PE X (.Call (.Name "list" p) [.Call (.Name "range" p2) [a] [] pos2] [] pos) (tF Φ w (.lrng (.rng ca))) := (pe_listRg hc hg hm (prg_1 hg2 hm2 ha hs)).via fun σ H Q ⟨ρ, F, S, h⟩ => ⟨ρ, F, S, by
  have h : PostF w F σ Q (((evE Φ ca ρ).bind fun x ρ => .of (rngD (.int 0) x) ρ).bind fun x ρ => match x with | .list ds => .ok (.list ds) ρ | _ => .bad) := h
  cases q : evE Φ ca ρ with
  | bad => rw [q] at h; exact h
  | exc z ρ' => rw [q] at h; exact h
  | ok d ρ' =>
    rw [q] at h
    intro F' H' v l S' r
    cases r with
    | int j =>
      obtain ⟨c, h⟩ := rng_okF h
      refine ⟨j, rfl, c, fun t ht => h F' _ t _ l (S'.laid ht _) (S'.fresh ht) ?_⟩
      exact rgV_rep 0 j
    | _ => exact False.elim h⟩
theorem sF_lrng2 {p2 pos2 : Pos} (hc : X.calm = true) (hg : Gl X "list") (hm : X.mg "list" = none) (hg2 : Gl X "range") (hm2 : X.mg "range" = none) (ha : PE X a (tE Φ w ca)) (hb : PE X b (tE Φ w cb)) (hs : starEach [a, b] X.env = (false, eval a X.env) :: starEach [b] X.env) (hs2 : starEach [b] X.env = (false, eval b X.env) :: starEach [] X.env) (hpl : (backTo pos2 (starEach [b] X.env)).any (·.1) = false) :
    PE X (.Call (.Name "list" p) [.Call (.Name "range" p2) [a, b] [] pos2] [] pos) (tF Φ w (.lrng (.rng2 ca cb))) := (pe_listRg hc hg hm (prg_2 hg2 hm2 ha hb hs hs2 hpl)).via fun σ H Q ⟨ρ, F, S, h⟩ => ⟨ρ, F, S, by
  have h : PostF w F σ Q (((evE Φ ca ρ).bind fun x ρ => (evE Φ cb ρ).bind fun y ρ => .of (rngD x y) ρ).bind fun x ρ => match x with | .list ds => .ok (.list ds) ρ | _ => .bad) := h
  cases q : evE Φ ca ρ with
  | bad => rw [q] at h; exact h
  | exc z ρ' => rw [q] at h; exact h
  | ok d ρ' =>
    rw [q] at h
    intro F' H' v l S' r
    refine ⟨ρ', F', S', ?_⟩
    have h : PostF w F σ Q (((evE Φ cb ρ').bind fun y ρ => .of (rngD d y) ρ).bind fun x ρ => match x with | .list ds => .ok (.list ds) ρ | _ => .bad) := h
    cases q2 : evE Φ cb ρ' with
    | bad => rw [q2] at h; exact h.elim
    | exc z ρ2 => rw [q2] at h; exact PostX.up h l
    | ok d2 ρ2 =>
      rw [q2] at h
      intro F2 H2 v2 l2 S2 r2
      cases r with
      | int i =>
        cases r2 with
        | int j =>
          obtain ⟨c, h⟩ := rng_okF h
          exact ⟨i, j, rfl, rfl, c, fun t ht => h F2 _ t _ (l.tr l2) (S2.laid ht _) (S2.fresh ht) (rgV_rep i j)⟩
        | _ => exact False.elim h
      | _ => cases r2 <;> exact False.elim h⟩
theorem sE_trng1 {p2 pos2 : Pos} (hc : X.calm = true) (hg : Gl X "tuple") (hm : X.mg "tuple" = none) (hg2 : Gl X "range") (hm2 : X.mg "range" = none) (ha : PE X a (tE Φ w ca)) (hs : starEach [a] X.env = (false, eval a X.env) :: starEach [] X.env) :
    PE X (.Call (.Name "tuple" p) [.Call (.Name "range" p2) [a] [] pos2] [] pos) (tE Φ w (.trng (.rng ca))) := (pe_tupRg hc hg hm (prg_1 hg2 hm2 ha hs)).via fun σ H Q ⟨ρ, F, S, h⟩ => ⟨ρ, F, S, by
  have h : PostE w F σ Q (((evE Φ ca ρ).bind fun x ρ => .of (rngD (.int 0) x) ρ).bind fun x ρ => match x with | .list ds => .ok (.tuple ds) ρ | _ => .bad) := h
  cases q : evE Φ ca ρ with
  | bad => rw [q] at h; exact h
  | exc z ρ' => rw [q] at h; exact h
  | ok d ρ' =>
    rw [q] at h
    intro F' H' v l S' r
    cases r with
    | int j =>
      obtain ⟨c, h⟩ := rng_ok h
      refine ⟨j, rfl, c, fun t ht => ?_⟩
      have E := Ext.new S'.fh ht (.tup (rgV 0 j))
      exact h _ _ _ (l.tr E.ff) (S'.ext E) (.tup (.inl (.inl upd_same)) (rgV_rep 0 j))
    | _ => exact False.elim h⟩
theorem sE_trng2 {p2 pos2 : Pos} (hc : X.calm = true) (hg : Gl X "tuple") (hm : X.mg "tuple" = none) (hg2 : Gl X "range") (hm2 : X.mg "range" = none) (ha : PE X a (tE Φ w ca)) (hb : PE X b (tE Φ w cb)) (hs : starEach [a, b] X.env = (false, eval a X.env) :: starEach [b] X.env) (hs2 : starEach [b] X.env = (false, eval b X.env) :: starEach [] X.env) (hpl : (backTo pos2 (starEach [b] X.env)).any (·.1) = false) :
    PE X (.Call (.Name "tuple" p) [.Call (.Name "range" p2) [a, b] [] pos2] [] pos) (tE Φ w (.trng (.rng2 ca cb))) := (pe_tupRg hc hg hm (prg_2 hg2 hm2 ha hb hs hs2 hpl)).via fun σ H Q ⟨ρ, F, S, h⟩ => ⟨ρ, F, S, by
  have h : PostE w F σ Q (((evE Φ ca ρ).bind fun x ρ => (evE Φ cb ρ).bind fun y ρ => .of (rngD x y) ρ).bind fun x ρ => match x with | .list ds => .ok (.tuple ds) ρ | _ => .bad) := h
  cases q : evE Φ ca ρ with
  | bad => rw [q] at h; exact h
  | exc z ρ' => rw [q] at h; exact h
  | ok d ρ' =>
    rw [q] at h
    intro F' H' v l S' r
    refine ⟨ρ', F', S', ?_⟩
    have h : PostE w F σ Q (((evE Φ cb ρ').bind fun y ρ => .of (rngD d y) ρ).bind fun x ρ => match x with | .list ds => .ok (.tuple ds) ρ | _ => .bad) := h
    cases q2 : evE Φ cb ρ' with
    | bad => rw [q2] at h; exact h.elim
    | exc z ρ2 => rw [q2] at h; exact PostX.up h l
    | ok d2 ρ2 =>
      rw [q2] at h
      intro F2 H2 v2 l2 S2 r2
      cases r with
      | int i =>
        cases r2 with
        | int j =>
          obtain ⟨c, h⟩ := rng_ok h
          refine ⟨i, j, rfl, rfl, c, fun t ht => ?_⟩
          have E := Ext.new S2.fh ht (.tup (rgV i j))
          exact h _ _ _ ((l.tr l2).tr E.ff) (S2.ext E) (.tup (.inl (.inl upd_same)) (rgV_rep i j))
        | _ => exact False.elim h
      | _ => cases r2 <;> exact False.elim h⟩
theorem lrng_list (ρ : Env) (d : PyData) (ρ' : Env) (h : evE Φ (.lrng ca) ρ = .ok d ρ') : ∃ ds, d = .list ds := by
  obtain ⟨x, ρ1, _, h⟩ := bind_ok (show (evE Φ ca ρ).bind (fun x ρ => match x with | .list ds => .ok (.list ds) ρ | _ => .bad) = .ok d ρ' from h)
  split at h
  · cases h; exact ⟨_, rfl⟩
  · cases h
/-- xs[::-1] of a list -/
theorem sF_revL {k : Nat} {p1 p2 p3 : Pos} (hK : X.K = w.K) (ha : PE X a (tE Φ w ca)) (hl : ∀ ρ d ρ', evE Φ ca ρ = .ok d ρ' → (∃ z, revD d = some z) → ∃ ds, d = .list ds) : PE X (.Subscript a (.Slice none none (some (.UnaryOp .USub (.Constant (.int 1) k p1) p2)) p3) pos) (tF Φ w (.rev ca)) :=
  (pe_revL ha).via fun σ H Q ⟨ρ, F, S, h⟩ => ⟨ρ, F, S, by
    have h : PostF w F σ Q ((evE Φ ca ρ).bind fun x ρ => .of (revD x) ρ) := h
    cases q : evE Φ ca ρ with
    | bad => rw [q] at h; exact h
    | exc z ρ' => rw [q] at h; exact h
    | ok d ρ' =>
      rw [q] at h
      have h : PostF w F σ Q (.of (revD d) ρ') := h
      intro F' H' v l S' r
      cases e : revD d with
      | none => rw [e] at h; exact h.elim
      | some z =>
        obtain ⟨ds, rfl⟩ := hl ρ d ρ' q ⟨z, e⟩
        cases r with
        | lst s1 r1 =>
          refine ⟨_, _, rfl, by rw [hK]; exact .inl (Rd.mo S'.fh s1), fun t ht => ?_⟩
          exact h F' _ t _ l (S'.laid ht _) (S'.fresh ht) r1.rev⟩
end
/-! ### pairs stored at once -/
def swNames (sc : Scope) (ts : List Expr) : List Str := ts.filterMap fun
    | .Name id pos => if sc.names.lookup id == some .local && pos.line == (ts.head?.map (·.pos.line)).getD 0 then some id else none
    | _ => none
def fnKind (sc : Scope) : Bool := match sc.kind with
  | .function => true
  | _ => false
def isStr' : Expr → Bool
  | .Starred .. => true
  | _ => false
/-- the names that are stored from the right -/
def swS (sc : Scope) (ts vs : List Expr) : Option (List Str) :=
  if (!(ts.length == 2 || ts.length == 3) || vs.length != ts.length || !fnKind sc) = true then none
  else if (vs.any isStr') = true then none
  else if ((swNames sc ts).length != ts.length || (swNames sc ts).eraseDups.length != (swNames sc ts).length) = true then none
  else if vs.all (foldedForSure 8) = true then none
  else some (swNames sc ts)
theorem swS_ok {ts vs : List Expr} {kt k2 : Nat} {pt p2 : Pos} {env : PySem.Env} (hk : fnKind env.scope = true) (h : vs.all (constantsAlone 8) = false ∨ vs.all (foldedForSure 8) = true) : swappedStores [.Tuple ts kt pt] (.Tuple vs k2 p2) env = pure (swS env.scope ts vs) := by
  have kind : env.scope.kind = .function := by
    unfold fnKind at hk
    split at hk
    · assumption
    · cases hk
  have bk : env.blockKind = .function := by unfold PySem.Env.blockKind; rw [kind]; rfl
  have key : ∀ (c0 c1 c2 c3 c4 c5 : Bool) (N : List Str), (c5 = false ∨ c4 = true) → c1 = c0 → ((if c1 = true then pure none else if c2 = true then pure none else if c3 = true then pure none else if c4 = true then pure none else if c5 = true then (do unsupported "assign.tuple-of-constant-expressions:order-of-the-stores"; pure (some N)) else pure (some N)) : Sem (Option (List Str)))
      = pure (if c0 = true then none else if c2 = true then none else if c3 = true then none else if c4 = true then none else some N) := fun c0 c1 c2 c3 c4 c5 N h e => by
    subst e
    cases c1 <;> cases c2 <;> cases c3 <;> cases c4 <;> cases c5 <;> first | rfl | (rcases h with h | h <;> cases h)
  unfold swappedStores swS
  rw [hk, bk]
  exact key _ _ _ _ _ _ _ h (by rfl)
end HM

namespace HM
open PySem PySem.Spec PyProof.Rows L2

/-! ### a text and its plain form: a check by computing -/
structure FnI where
  name : Str
  id : Nat
  pars : Nat
  io : Option Nat
  own : Bool
structure Ck where
  N : List Str
  sc : Scope
  fb : Bool
  fns : List FnI
  gi : List (Str × Int)
  bl : List Str
def isStar : Expr → Bool
  | .Starred .. => true
  | _ => false
def isSlice : Expr → Bool
  | .Slice .. => true
  | _ => false
def isSet : Expr → Bool
  | .Set .. => true
  | _ => false
def isComp : Expr → Bool
  | .ListComp .. | .SetComp .. | .DictComp .. => true
  | _ => false
def isTupE : Expr → Bool
  | .Tuple .. => true
  | _ => false
def visB (sc : Scope) (x : Str) : Bool := match sc.names.lookup x with
  | some .local => true
  | some .cell => true
  | some .free => true
  | _ => false
def locB (ck : Ck) (x : Str) : Bool := match ck.sc.names.lookup x with
  | some .local => true
  | some .cell => ck.fb
  | _ => false
def isLoc (ck : Ck) (x : Str) : Bool := match ck.sc.names.lookup x with
  | some .local => true
  | _ => false
def glB (ck : Ck) (x : Str) : Bool := (match ck.sc.names.lookup x with
  | some .globalImplicit => true
  | _ => false) && !(x == ("__debug__" : Str))
def ixB (ck : Ck) (i : Nat) (x : Str) : Bool := match ck.N[i]? with
  | some y => decide (y = x)
  | none => false
def nmB (ck : Ck) (i : Nat) (x : Str) : Bool := ixB ck i x && visB ck.sc x && !(x == ("__debug__" : Str)) && !(x == ("__classdict__" : Str))
def plainA (xs : List Expr) : Bool := xs.all fun x => !isStar x
/-- a test by its value's truth -/
def plainT : Expr → Bool
  | .UnaryOp .Not _ _ => false
  | .BoolOp .. | .IfExp .. | .Compare .. => false
  | _ => true
def blB (ck : Ck) (x : Str) : Bool := glB ck x && ck.bl.any fun y => decide (y = x)
theorem star_cons {a : Expr} {es : List Expr} {env : PySem.Env} (h : isStar a = false) : starEach (a :: es) env = (false, eval a env) :: starEach es env := by
  cases a <;> first | rfl | cases h
theorem plainA_cons {a : Expr} {es : List Expr} (h : plainA (a :: es) = true) : isStar a = false ∧ plainA es = true := by
  unfold plainA at h ⊢
  rw [List.all_cons, Bool.and_eq_true] at h
  exact ⟨by simpa using h.1, h.2⟩
theorem plain_back {env : PySem.Env} {pos : Pos} : ∀ {es : List Expr}, plainA es = true → (backTo pos (starEach es env)).any (·.1) = false
  | [], _ => rfl
  | a :: es, h => by
    obtain ⟨h1, h2⟩ := plainA_cons h
    rw [star_cons h1]
    have := plain_back (env := env) (pos := pos) h2
    unfold backTo at this ⊢
    rw [List.map_cons, List.any_cons, this]
    rfl
theorem plain_tail {es : List Expr} (h : plainA es = true) : plainA es.tail = true := by
  cases es with
  | nil => rfl
  | cons a es => exact (plainA_cons h).2
theorem plain_ix {b : Expr} (h : isSlice b = false) : PlainIx b := fun o i => by
  cases b <;> first | rfl | cases h
theorem plainT_ok {x : Expr} {env : PySem.Env} (h : plainT x = true) : ∀ whole, PySem.isTrue x env whole = (do let v ← whole; standAt x.pos; holding [v] (truthy v)) := fun whole => by
  cases x with
  | UnaryOp op e p => cases op <;> first | rfl | cases h
  | BoolOp op e p => cases h
  | IfExp op e p => cases h
  | Compare op e p => cases h
  | _ => rfl
theorem notSet_ok {x : Expr} {env : PySem.Env} (h : isSet x = false) : ∀ v, foldedSetIterable x env v = pure v := fun v => by
  cases x <;> first | rfl | cases h
theorem notSet_marks {x : Expr} {op : CmpOp} (h : isSet x = false) : behindInMarks op x = false := by
  cases x <;> first | rfl | cases h
theorem notComp_sw {x : Expr} {t : Option Expr} {l : Nat} {env : PySem.Env} (h : isComp x = false) : swapsWith x t l env = pure false := by
  cases x <;> first | rfl | cases h
/-! ### what the check stands on -/
structure CtxOk (X : Cx) (ck : Ck) (Φ : Fns) (w : Wd) (k : Nat) : Prop where
  sc : X.env.scope = ck.sc
  N : X.N = ck.N
  nd : X.N.Nodup
  calm : X.calm = true
  K : X.K = w.K
  tk : Takes X w.W
  hr : Room k X.A
  fns : ∀ f ∈ ck.fns, FnHas X w.XR k f.name (Φ f.id) f.pars f.io f.own ∧ ∀ args, Φ f.id args ≠ .bad → args.length = f.pars
  gi : ∀ g ∈ ck.gi, ∃ t, X.mg g.1 = some (.int g.2 t)
  bl : ∀ b ∈ ck.bl, X.mg b = none
  fn : ck.fb = true → ∀ x, X.fn x = true
section
variable {X : Cx} {ck : Ck} {Φ : Fns} {w : Wd} {k : Nat}
theorem CtxOk.u (o : CtxOk X ck Φ w k) : X.A.units + 70 < cLine := by have := o.hr.un; omega
theorem CtxOk.ix (o : CtxOk X ck Φ w k) {i : Nat} {x : Str} (h : ixB ck i x = true) : X.N[i]? = some x := by
  rw [o.N]
  unfold ixB at h
  cases q : ck.N[i]? with
  | none => rw [q] at h; cases h
  | some y => rw [q] at h; rw [of_decide_eq_true h]
theorem CtxOk.vis (o : CtxOk X ck Φ w k) {x : Str} (h : visB ck.sc x = true) : Vis X.env.scope x := by
  unfold visB at h
  rw [o.sc]
  unfold Vis
  split at h <;> first | exact .inl ‹_› | exact .inr (.inl ‹_›) | exact .inr (.inr ‹_›) | cases h
theorem CtxOk.loc (o : CtxOk X ck Φ w k) {x : Str} (h : locB ck x = true) : Loc X.env.scope x ∧ (X.fn x = true ∨ X.env.scope.names.lookup x = some .local) := by
  unfold locB at h
  rw [o.sc]
  unfold L2.Loc
  split at h
  · exact ⟨.inl ‹_›, .inr ‹_›⟩
  · exact ⟨.inr ‹_›, .inl (o.fn h x)⟩
  · cases h
theorem CtxOk.isLoc (o : CtxOk X ck Φ w k) {x : Str} (h : isLoc ck x = true) : X.env.scope.names.lookup x = some .local := by
  unfold HM.isLoc at h
  rw [o.sc]
  split at h
  · assumption
  · cases h
theorem CtxOk.gl (o : CtxOk X ck Φ w k) {x : Str} (h : glB ck x = true) : Gl X x ∧ (x == ("__debug__" : Str)) = false := by
  unfold glB at h
  rw [Bool.and_eq_true] at h
  refine ⟨?_, by simpa using h.2⟩
  have h := h.1
  show X.env.scope.names.lookup x = some .globalImplicit
  rw [o.sc]
  split at h
  · assumption
  · cases h
theorem CtxOk.nm (o : CtxOk X ck Φ w k) {i : Nat} {x : Str} (h : nmB ck i x = true) : X.N[i]? = some x ∧ Vis X.env.scope x ∧ (x == ("__debug__" : Str)) = false ∧ (x == ("__classdict__" : Str)) = false := by
  unfold nmB at h
  rw [Bool.and_eq_true, Bool.and_eq_true, Bool.and_eq_true] at h
  exact ⟨o.ix h.1.1.1, o.vis h.1.1.2, by simpa using h.1.2, by simpa using h.2⟩
theorem CtxOk.blt (o : CtxOk X ck Φ w k) {x : Str} (h : blB ck x = true) : Gl X x ∧ X.mg x = none := by
  unfold blB at h
  rw [Bool.and_eq_true, List.any_eq_true] at h
  obtain ⟨y, hy, e⟩ := h.2
  rw [of_decide_eq_true e] at hy
  exact ⟨(o.gl h.1).1, o.bl x hy⟩
end
/-! ### the check -/
inductive Jd where
  | e (x : Expr) | t (x : Expr) | wv (x : Expr) | a (xs : List Expr) | f (x : Expr) | i (tg x : Expr) | io (q i : Nat) (xs : List Expr) | ts (xs : List Expr) | o (x : Option Expr)
def namesE : List Expr → Option (List Str)
  | [] => some []
  | .Name id _ :: r => (namesE r).map (id :: ·)
  | _ => none
def tgsB (ck : Ck) : List Expr → List Nat → Bool
  | [], [] => true
  | .Name id _ :: r, i :: is => ixB ck i id && locB ck id && tgsB ck r is
  | _, _ => false
def tgB (ck : Ck) : Expr → Tg → Bool
  | .Name id _, .one i => ixB ck i id && locB ck id
  | .Tuple es _ _, .many is => tgsB ck es is
  | _, _ => false
def blkK (ck : Ck) (scope : Scope) : Ck := { ck with sc := relS scope ck.sc, fb := false }
def ownS (ck : Ck) (own : List Nat) : List (Str × Nat) := own.map fun i => (ck.N.getD i default, i)
/-! ### an expression's shape -/
def onName (x : Expr) (f : Str → Bool) : Bool := match x with | .Name id _ => f id | _ => false
theorem onName_ok {x : Expr} {f : Str → Bool} (h : onName x f = true) : ∃ id p, x = .Name id p ∧ f id = true := by
  unfold onName at h; split at h <;> first | exact ⟨_, _, rfl, h⟩ | cases h
def onConst (x : Expr) (f : Const → Bool) : Bool := match x with | .Constant z _ _ => f z | _ => false
theorem onConst_ok {x : Expr} {f : Const → Bool} (h : onConst x f = true) : ∃ z j p, x = .Constant z j p ∧ f z = true := by
  unfold onConst at h; split at h <;> first | exact ⟨_, _, _, rfl, h⟩ | cases h
def onBin (x : Expr) (f : Expr → Operator → Expr → Bool) : Bool := match x with | .BinOp l op r _ => f l op r | _ => false
theorem onBin_ok {x : Expr} {f : Expr → Operator → Expr → Bool} (h : onBin x f = true) : ∃ l op r p, x = .BinOp l op r p ∧ f l op r = true := by
  unfold onBin at h; split at h <;> first | exact ⟨_, _, _, _, rfl, h⟩ | cases h
def onUn (x : Expr) (f : UnaryOp → Expr → Bool) : Bool := match x with | .UnaryOp op y _ => f op y | _ => false
theorem onUn_ok {x : Expr} {f : UnaryOp → Expr → Bool} (h : onUn x f = true) : ∃ op y p, x = .UnaryOp op y p ∧ f op y = true := by
  unfold onUn at h; split at h <;> first | exact ⟨_, _, _, rfl, h⟩ | cases h
def onCmp (x : Expr) (f : Expr → CmpOp → Expr → Bool) : Bool := match x with | .Compare l [op] [r] _ => f l op r | _ => false
theorem onCmp_ok {x : Expr} {f : Expr → CmpOp → Expr → Bool} (h : onCmp x f = true) : ∃ l op r p, x = .Compare l [op] [r] p ∧ f l op r = true := by
  unfold onCmp at h; split at h <;> first | exact ⟨_, _, _, _, rfl, h⟩ | cases h
def onCmp2 (x : Expr) (f : Expr → CmpOp → Expr → CmpOp → Expr → Bool) : Bool := match x with | .Compare l [op, op'] [r, r'] _ => f l op r op' r' | _ => false
theorem onCmp2_ok {x : Expr} {f : Expr → CmpOp → Expr → CmpOp → Expr → Bool} (h : onCmp2 x f = true) : ∃ l op r op' r' p, x = .Compare l [op, op'] [r, r'] p ∧ f l op r op' r' = true := by
  unfold onCmp2 at h; split at h <;> first | exact ⟨_, _, _, _, _, _, rfl, h⟩ | cases h
def onBool1 (x : Expr) (f : Expr → Bool) : Bool := match x with | .BoolOp _ [y] _ => f y | _ => false
theorem onBool1_ok {x : Expr} {f : Expr → Bool} (h : onBool1 x f = true) : ∃ op y p, x = .BoolOp op [y] p ∧ f y = true := by
  unfold onBool1 at h; split at h <;> first | exact ⟨_, _, _, rfl, h⟩ | cases h
def onBool (x : Expr) (f : BoolOp → Expr → Expr → Bool) : Bool := match x with | .BoolOp op (y :: z :: r) p => f op y (.BoolOp op (z :: r) p) | _ => false
theorem onBool_ok {x : Expr} {f : BoolOp → Expr → Expr → Bool} (h : onBool x f = true) : ∃ op y z r p, x = .BoolOp op (y :: z :: r) p ∧ f op y (.BoolOp op (z :: r) p) = true := by
  unfold onBool at h; split at h <;> first | exact ⟨_, _, _, _, _, rfl, h⟩ | cases h
def onIf (x : Expr) (f : Expr → Expr → Expr → Bool) : Bool := match x with | .IfExp y z u _ => f y z u | _ => false
theorem onIf_ok {x : Expr} {f : Expr → Expr → Expr → Bool} (h : onIf x f = true) : ∃ y z u p, x = .IfExp y z u p ∧ f y z u = true := by
  unfold onIf at h; split at h <;> first | exact ⟨_, _, _, _, rfl, h⟩ | cases h
def onTup (x : Expr) (f : List Expr → Bool) : Bool := match x with | .Tuple xs _ _ => f xs | _ => false
theorem onTup_ok {x : Expr} {f : List Expr → Bool} (h : onTup x f = true) : ∃ xs j p, x = .Tuple xs j p ∧ f xs = true := by
  unfold onTup at h; split at h <;> first | exact ⟨_, _, _, rfl, h⟩ | cases h
def onLst (x : Expr) (f : List Expr → Bool) : Bool := match x with | .List xs _ => f xs | _ => false
theorem onLst_ok {x : Expr} {f : List Expr → Bool} (h : onLst x f = true) : ∃ xs p, x = .List xs p ∧ f xs = true := by
  unfold onLst at h; split at h <;> first | exact ⟨_, _, rfl, h⟩ | cases h
def onSub (x : Expr) (f : Expr → Expr → Bool) : Bool := match x with | .Subscript y z _ => f y z | _ => false
theorem onSub_ok {x : Expr} {f : Expr → Expr → Bool} (h : onSub x f = true) : ∃ y z p, x = .Subscript y z p ∧ f y z = true := by
  unfold onSub at h; split at h <;> first | exact ⟨_, _, _, rfl, h⟩ | cases h
def onSl (x : Expr) (f : Option Expr → Option Expr → Option Expr → Bool) : Bool := match x with | .Slice a b c _ => f a b c | _ => false
theorem onSl_ok {x : Expr} {f : Option Expr → Option Expr → Option Expr → Bool} (h : onSl x f = true) : ∃ a b c p, x = .Slice a b c p ∧ f a b c = true := by
  unfold onSl at h; split at h <;> first | exact ⟨_, _, _, _, rfl, h⟩ | cases h
def onCall (x : Expr) (f : Str → List Expr → Bool) : Bool := match x with | .Call (.Name id _) xs [] _ => f id xs | _ => false
theorem onCall_ok {x : Expr} {f : Str → List Expr → Bool} (h : onCall x f = true) : ∃ id p xs p2, x = .Call (.Name id p) xs [] p2 ∧ f id xs = true := by
  unfold onCall at h; split at h <;> first | exact ⟨_, _, _, _, rfl, h⟩ | cases h
def onMeth (x : Expr) (f : Str → Str → List Expr → Bool) : Bool := match x with | .Call (.Attribute (.Name y _) m ap) xs [] p => (ap.endLine == p.line) && f y m xs | _ => false
theorem onMeth_ok {x : Expr} {f : Str → Str → List Expr → Bool} (h : onMeth x f = true) : ∃ y p1 m ap xs p, x = .Call (.Attribute (.Name y p1) m ap) xs [] p ∧ (ap.endLine == p.line) = true ∧ f y m xs = true := by
  unfold onMeth at h
  split at h
  · rw [Bool.and_eq_true] at h
    exact ⟨_, _, _, _, _, _, rfl, h.1, h.2⟩
  · cases h
def on1 {α : Type} (xs : List α) (f : α → Bool) : Bool := match xs with | [y] => f y | _ => false
theorem on1_ok {α : Type} {xs : List α} {f : α → Bool} (h : on1 xs f = true) : ∃ y, xs = [y] ∧ f y = true := by
  unfold on1 at h; split at h <;> first | exact ⟨_, rfl, h⟩ | cases h
def on2 {α : Type} (xs : List α) (f : α → α → Bool) : Bool := match xs with | [y, z] => f y z | _ => false
theorem on2_ok {α : Type} {xs : List α} {f : α → α → Bool} (h : on2 xs f = true) : ∃ y z, xs = [y, z] ∧ f y z = true := by
  unfold on2 at h; split at h <;> first | exact ⟨_, _, rfl, h⟩ | cases h
def onC {α : Type} (xs : List α) (f : α → List α → Bool) : Bool := match xs with | y :: r => f y r | _ => false
theorem onC_ok {α : Type} {xs : List α} {f : α → List α → Bool} (h : onC xs f = true) : ∃ y r, xs = y :: r ∧ f y r = true := by
  unfold onC at h; split at h <;> first | exact ⟨_, _, rfl, h⟩ | cases h
def onN {α : Type} (xs : Option α) : Bool := match xs with | none => true | _ => false
theorem onN_ok {α : Type} {xs : Option α} (h : onN xs = true) : xs = none := by
  cases xs <;> first | rfl | cases h
def onLc (x : Expr) (f : Expr → Expr → Expr → List Expr → Scope → Bool) : Bool := match x with | .ListComp e [⟨t, i, ifs, 0⟩] sc _ => f e t i ifs sc | _ => false
theorem onLc_ok {x : Expr} {f : Expr → Expr → Expr → List Expr → Scope → Bool} (h : onLc x f = true) : ∃ e t i ifs sc p, x = .ListComp e [⟨t, i, ifs, 0⟩] sc p ∧ f e t i ifs sc = true := by
  unfold onLc at h; split at h <;> first | exact ⟨_, _, _, _, _, _, rfl, h⟩ | cases h
def onNil (x : Expr) (op : CmpOp) (f : Str → Bool) : Bool := onCmp x fun l o r => decide (o = op) && onName l fun id => onLst r fun xs => xs.isEmpty && f id
theorem onNil_ok {x : Expr} {op : CmpOp} {f : Str → Bool} (h : onNil x op f = true) : ∃ id p p2 p3, x = .Compare (.Name id p) [op] [.List [] p2] p3 ∧ f id = true := by
  replace h := onCmp_ok h
  obtain ⟨l, o, r, p, rfl, h⟩ := h
  rw [Bool.and_eq_true] at h
  obtain ⟨h1, h⟩ := h
  replace h := onName_ok h
  obtain ⟨id, p1, rfl, h⟩ := h
  replace h := onLst_ok h
  obtain ⟨xs, p2, rfl, h⟩ := h
  rw [Bool.and_eq_true] at h
  obtain ⟨h2, h⟩ := h
  rw [List.isEmpty_iff.mp h2, of_decide_eq_true h1]
  exact ⟨_, _, _, _, rfl, h⟩
def onOf (nm : Str) (x : Expr) (f : Str → Str → List Expr → Bool) : Bool := match x with | .Call (.Name id _) [.Call (.Name id2 _) xs [] _] [] _ => decide (id = nm) && f id id2 xs | _ => false
theorem onOf_ok {nm : Str} {x : Expr} {f : Str → Str → List Expr → Bool} (h : onOf nm x f = true) : ∃ p id2 p2 xs q q2, x = .Call (.Name nm p) [.Call (.Name id2 p2) xs [] q] [] q2 ∧ f nm id2 xs = true := by
  unfold onOf at h
  split at h
  · rw [Bool.and_eq_true] at h
    obtain ⟨h1, h2⟩ := h
    have e := of_decide_eq_true h1
    subst e
    exact ⟨_, _, _, _, _, _, rfl, h2⟩
  · cases h
def isM1 : Option Expr → Bool
  | some (.UnaryOp .USub (.Constant (.int 1) _ _) _) => true
  | _ => false
theorem isM1_ok {x : Option Expr} (h : isM1 x = true) : ∃ k p1 p2, x = some (.UnaryOp .USub (.Constant (.int 1) k p1) p2) := by
  unfold isM1 at h
  split at h
  · exact ⟨_, _, _, rfl⟩
  · cases h
def isDict0 : Expr → Bool
  | .Dict [] [] _ => true
  | _ => false
theorem isDict0_ok {x : Expr} (h : isDict0 x = true) : ∃ p, x = .Dict [] [] p := by
  unfold isDict0 at h
  split at h
  · exact ⟨_, rfl⟩
  · cases h
/-- the ends of a range -/
def isRng : E → Option (E ⊕ E × E)
  | .rng a => some (.inl a)
  | .rng2 a b => some (.inr (a, b))
  | _ => none
theorem isRng1 {c a : E} (h : isRng c = some (.inl a)) : c = .rng a := by cases c <;> cases h; rfl
theorem isRng2 {c a b : E} (h : isRng c = some (.inr (a, b))) : c = .rng2 a b := by cases c <;> cases h; rfl
def isNMi : E → Option Nat
  | .nilM i => some i
  | _ => none
def fnB (ck : Ck) (id : Str) (p : FnI → Bool) : Bool := glB ck id && ck.fns.any fun f => decide (f.name = id) && p f
/-! ### the check -/
def chk : Nat → Ck → E → Jd → Bool
  | 0, _, _, _ => false
  | n + 1, ck, c, .e x => (onBool1 x fun y => chk n ck c (.e y)) || match c with
      | .var i => onName x fun id => nmB ck i id
      | .non => onConst x fun z => decide (z = .none)
      | .bl b => onConst x fun z => decide (z = .bool b)
      | .int i => onConst x fun z => decide (z = .int i)
      | .str s => onConst x fun z => decide (z = .str s)
      | .gint y z => onName x fun id => decide (id = y) && (glB ck y && ck.gi.any fun g => decide (g.1 = y) && decide (g.2 = z))
      | .bin o a b => onBin x fun l op r => decide (op = op2 o) && (chk n ck a (.e l) && chk n ck b (.e r))
      | .neg a => onUn x fun op y => decide (op = .USub) && chk n ck a (.e y)
      | .cmp o a b => onCmp x fun l op r => decide (op = cm o) && (!isSet r && (chk n ck a (.e l) && chk n ck b (.e r)))
      | .chain o p a b d => onCmp2 x fun l op r op' r' => decide (op = cm o) && (decide (op' = cm p) && (!isSet r && (!isSet r' && (chk n ck a (.e l) && (chk n ck b (.e r) && chk n ck d (.e r'))))))
      | .not a => (onUn x fun op y => decide (op = .Not) && chk n ck a (.e y)) || (match isNMi a with
        | some i => onNil x .NotEq fun id => nmB ck i id
        | none => false)
      | .and a b => onBool x fun op y r => decide (op = .And) && (chk n ck a (.e y) && chk n ck b (.e r))
      | .or a b => onBool x fun op y r => decide (op = .Or) && (chk n ck a (.e y) && chk n ck b (.e r))
      | .ite d a b => onIf x fun y z u => chk n ck d (.t y) && (chk n ck a (.e z) && chk n ck b (.e u))
      | .tup es => onTup x fun xs => decide (xs.length ≤ 1000) && chk n ck es (.a xs)
      | .lst es => onLst x fun xs => decide (xs.length ≤ 1000) && chk n ck es (.a xs)
      | .ix a b => onSub x fun y z => !isSlice z && (chk n ck a (.e y) && chk n ck b (.e z))
      | .sl a lo hi => onSub x fun y z => onSl z fun l h s => onN s && (chk n ck a (.e y) && (chk n ck lo (.o l) && chk n ck hi (.o h)))
      | .call fn es => onCall x fun id xs => fnB ck id (fun f => decide (f.id = fn) && f.io.isNone) && chk n ck es (.a xs)
      | .callio fn p i es => onCall x fun id xs => fnB ck id (fun f => decide (f.id = fn) && (decide (f.io = some p) && (decide (p < f.pars) && !f.own))) && chk n ck es (.io p i xs)
      | .bi f es => onCall x fun id xs => decide (id = biN f) && (blB ck id && (!xs.isEmpty && chk n ck es (.a xs)))
      | .isi a t => onCall x fun id xs => decide (id = "isinstance") && (blB ck id && on2 xs fun y z => onName z fun ty => decide (ty = Str.ofString (tyN t)) && (blB ck ty && (!isStar y && chk n ck a (.e y))))
      | .lenM i => onCall x fun id xs => decide (id = "len") && (blB ck id && on1 xs fun y => onName y fun z => nmB ck i z)
      | .ixM i e => onSub x fun y z => onName y fun id => nmB ck i id && (!isSlice z && chk n ck e (.e z))
      | .nilM i => onNil x .Eq fun id => nmB ck i id
      | .popM i e => onMeth x fun y m xs => decide (m = "pop") && (nmB ck i y && on1 xs fun z => !isStar z && chk n ck e (.e z))
      | .edic => isDict0 x
      | .trng c => onOf "tuple" x fun id id2 xs => blB ck id && (decide (id2 = "range") && (blB ck id2 && match isRng c with
        | some (.inl a) => on1 xs fun y => !isStar y && chk n ck a (.e y)
        | some (.inr (a, b)) => on2 xs fun y z => !isStar y && (!isStar z && (chk n ck a (.e y) && chk n ck b (.e z)))
        | none => false))
      | .lrng a => chk n ck (.lrng a) (.f x)
      | .rev a => chk n ck (.rev a) (.f x)
      | .comp elt tg src cond own => onLc x fun elt' tgx iter ifs scope => blkC ck.N ck.sc scope (ownS ck own) && (tgB (blkK ck scope) tgx tg && ((tg.ixs.all fun i => own.contains i) && (!isSet iter
        && (chk n (blkK ck scope) elt (.e elt') && (chk n (blkK ck scope) cond (.ts ifs) && chk n ck src (.i tgx iter))))))
      | _ => false
  | n + 1, ck, c, .t x => (chk n ck c (.wv x)) || ((plainT x && chk n ck c (.e x)) || match c with
      | .not a => (onUn x fun op y => decide (op = .Not) && chk n ck a (.t y)) || (match isNMi a with
        | some i => onNil x .NotEq fun id => nmB ck i id
        | none => false)
      | .cmp o a b => onCmp x fun l op r => decide (op = cm o) && (!isSet r && (chk n ck a (.e l) && chk n ck b (.e r)))
      | .chain o p a b d => onCmp2 x fun l op r op' r' => decide (op = cm o) && (decide (op' = cm p) && (!isSet r && (!isSet r' && (chk n ck a (.e l) && (chk n ck b (.e r) && chk n ck d (.e r'))))))
      | .nilM i => onNil x .Eq fun id => nmB ck i id
      | _ => false)
  | n + 1, ck, c, .wv x => (onBool1 x fun y => chk n ck c (.t y)) || match c with
      | .and a b => onBool x fun op y r => decide (op = .And) && (chk n ck a (.t y) && chk n ck b (.wv r))
      | .or a b => onBool x fun op y r => decide (op = .Or) && (chk n ck a (.t y) && chk n ck b (.wv r))
      | _ => false
  | n + 1, ck, c, .a xs => (match c with
    | .nil => xs.isEmpty
    | .cons a b => onC xs fun y ys => !isStar y && (chk n ck a (.e y) && chk n ck b (.a ys))
    | _ => false)
  | n + 1, ck, c, .io q i xs => (match q with
    | 0 => onC xs fun y ys => onName y fun id => nmB ck i id && chk n ck c (.a ys)
    | q + 1 => (match c with | .cons a b => onC xs fun y ys => !isStar y && (chk n ck a (.e y) && chk n ck b (.io q i ys)) | _ => false))
  | n + 1, ck, c, .f x => (match c with
    | .lst es => onLst x fun xs => decide (xs.length ≤ 1000) && chk n ck es (.a xs)
    | .rev a => onSub x fun y z => onSl z fun l h s => onN l && (onN h && (isM1 s && chk n ck a (.e y)))
    | .lrng c => onOf "list" x fun id id2 xs => blB ck id && (decide (id2 = "range") && (blB ck id2 && match isRng c with
        | some (.inl a) => on1 xs fun y => !isStar y && chk n ck a (.e y)
        | some (.inr (a, b)) => on2 xs fun y z => !isStar y && (!isStar z && (chk n ck a (.e y) && chk n ck b (.e z)))
        | none => false))
    | .call fn es => onCall x fun id xs => fnB ck id (fun f => decide (f.id = fn) && (f.io.isNone && f.own)) && chk n ck es (.a xs)
    | .comp elt tg src cond own => onLc x fun elt' tgx iter ifs scope => blkC ck.N ck.sc scope (ownS ck own) && (tgB (blkK ck scope) tgx tg && ((tg.ixs.all fun i => own.contains i) && (!isSet iter
        && (chk n (blkK ck scope) elt (.e elt') && (chk n (blkK ck scope) cond (.ts ifs) && chk n ck src (.i tgx iter))))))
    | _ => false)
  | n + 1, ck, c, .i tg x => (chk n ck c (.e x)) || (match c with
    | .rng a => onCall x fun id xs => decide (id = "range") && (blB ck id && on1 xs fun y => !isStar y && chk n ck a (.e y))
    | .rng2 a b => onCall x fun id xs => decide (id = "range") && (blB ck id && on2 xs fun y z => !isStar y && (!isStar z && (chk n ck a (.e y) && chk n ck b (.e z))))
    | .enum a => onTup tg fun _ => onCall x fun id xs => decide (id = "enumerate") && (blB ck id && on1 xs fun y => !isStar y && chk n ck a (.e y))
    | .zip a b => onTup tg fun _ => onCall x fun id xs => decide (id = "zip") && (blB ck id && on2 xs fun y z => !isStar y && (!isStar z && (chk n ck a (.e y) && chk n ck b (.e z))))
    | _ => false)
  | n + 1, ck, c, .ts xs => (match xs with
    | [] => (match c with | .bl true => true | _ => false)
    | [y] => chk n ck c (.t y)
    | _ => false)
  | n + 1, ck, c, .o x => (match x with
    | none => c.isNon
    | some y => !c.isNon && chk n ck c (.e y))
end HM

namespace HM
open PySem PySem.Spec PyProof.Rows L2

structure HoldsA (X : Cx) (Φ : Fns) (w : Wd) (c : E) (xs : List Expr) : Prop where
  pa : PA X xs (tA Φ w c)
  pl : plainA xs = true
  len : ∀ ρ d ρ', evE Φ c ρ = .ok d ρ' → (tupOf d).length = xs.length
  nil : xs = [] → ∀ ρ, evE Φ c ρ = .ok (.tuple []) ρ
def Holds (X : Cx) (Φ : Fns) (w : Wd) (c : E) : Jd → Prop
  | .e x => PE X x (tE Φ w c)
  | .t x => PT X x (tT Φ w c)
  | .wv x => PW X x (tT Φ w c)
  | .a xs => HoldsA X Φ w c xs
  | .f x => PE X x (tF Φ w c)
  | .i tg x => PI X tg x (tI Φ w c)
  | .io q i xs => PA X xs (tAio Φ w q i c) ∧ plainA xs = true ∧ xs ≠ []
  | .ts xs => PTs X xs (tT Φ w c)
  | .o x => PO X x (tO Φ w c)
theorem and3 {a b : Bool} (h : (a && b) = true) : a = true ∧ b = true := by rwa [Bool.and_eq_true] at h
theorem nt {a : Bool} (h : (!a) = true) : a = false := by simpa using h
theorem dc {p : Prop} [Decidable p] (h : decide p = true) : p := of_decide_eq_true h
section
variable {X : Cx} {ck : Ck} {Φ : Fns} {w : Wd} {k : Nat}
theorem tgs_ok (o : CtxOk X ck Φ w k) : ∀ {es : List Expr} {is : List Nat}, tgsB ck es is = true → PGs X es (tGs w is) ∧ is.length = es.length ∧ (assignEach es X.env).length = es.length ∧ (assignEach es X.env).findIdx? (·.1) = none
  | [], [], _ => ⟨sG_nil, rfl, rfl, rfl⟩
  | [], _ :: _, h => by cases h
  | e :: r, [], h => by cases e <;> cases h
  | e :: r, i :: is, h => by
    cases e with
    | Name id p =>
      replace h := and3 h
      obtain ⟨h1, h2⟩ := h
      replace h1 := and3 h1
      obtain ⟨h1, h3⟩ := h1
      obtain ⟨p1, p2, p3, p4⟩ := tgs_ok o h2
      obtain ⟨l1, l2⟩ := o.loc h3
      refine ⟨sG_cons o.nd (o.ix h1) l1 l2 p1, by rw [List.length_cons, List.length_cons, p2], by show (_ :: assignEach r X.env).length = _; rw [List.length_cons, List.length_cons, p3], ?_⟩
      show ((false, _) :: assignEach r X.env).findIdx? (·.1) = none
      rw [List.findIdx?_cons, p4]
      rfl
    | _ => cases h
theorem tg_ok (o : CtxOk X ck Φ w k) {e : Expr} {tg : Tg} (h : tgB ck e tg = true) : PG X e (tG w tg) := by
  cases e with
  | Name id p =>
    cases tg with
    | one i =>
      replace h := and3 h
      obtain ⟨h1, h3⟩ := h
      obtain ⟨l1, l2⟩ := o.loc h3
      exact sG_name o.nd (o.ix h1) l1 l2
    | many is => cases h
  | Tuple es n p =>
    cases tg with
    | one i => cases h
    | many is =>
      obtain ⟨p1, p2, p3, p4⟩ := tgs_ok o (show tgsB ck es is = true from h)
      exact sG_tup o.K o.calm p1 p2 p3 p4
  | _ => cases h
theorem blk_ok (o : CtxOk X ck Φ w k) {scope : Scope} (G : Hp) (s : Shared) (H : Hp) (C : Addr) (cl : List (Str × Addr)) (fp : List Addr) : CtxOk (X.blk s H scope (compEnvC scope cl C X.env) fp) (blkK ck scope) Φ (w.at G) k where
  sc := by
    show relS scope X.env.scope = relS scope ck.sc
    rw [o.sc]
  N := o.N
  nd := o.nd
  calm := o.calm
  K := o.K
  tk := takes0
  hr := o.hr
  fns := fun f hf => ⟨⟨(o.fns f hf).1.ex⟩, (o.fns f hf).2⟩
  gi := o.gi
  bl := o.bl
  fn := fun h => by cases h
theorem fn_of (o : CtxOk X ck Φ w k) {id : Str} {p : FnI → Bool} (h : fnB ck id p = true) : Gl X id ∧ (id == ("__debug__" : Str)) = false ∧ ∃ f, f.name = id ∧ p f = true ∧ FnHas X w.XR k f.name (Φ f.id) f.pars f.io f.own ∧ ∀ args, Φ f.id args ≠ .bad → args.length = f.pars := by
  replace h := and3 h
  obtain ⟨h1, h⟩ := h
  rw [List.any_eq_true] at h
  obtain ⟨f, hf, hp⟩ := h
  replace hp := and3 hp
  obtain ⟨e, hp⟩ := hp
  obtain ⟨g1, g2⟩ := o.gl h1
  exact ⟨g1, g2, f, dc e, hp, o.fns f hf⟩
theorem or3 {a b : Bool} (h : (a || b) = true) : a = true ∨ b = true := by rwa [Bool.or_eq_true] at h
theorem isNMi_ok {a : E} {i : Nat} (h : isNMi a = some i) : a = .nilM i := by
  cases a <;> cases h
  rfl
theorem ne_nil {xs : List Expr} (h : (!xs.isEmpty) = true) : ∃ y ys, xs = y :: ys := by
  cases xs with
  | nil => cases h
  | cons y ys => exact ⟨y, ys, rfl⟩
theorem ownS_map (own : List Nat) : (ownS ck own).map (·.2) = own := by
  unfold ownS
  rw [List.map_map]
  exact (List.map_congr_left fun _ _ => rfl).trans (List.map_id _)
theorem comp_ok (o : CtxOk X ck Φ w k) {elt cond : E} {tg : Tg} {own : List Nat} {elt' tgx : Expr} {ifs : List Expr} {scope : Scope}
    (h1 : blkC ck.N ck.sc scope (ownS ck own) = true) (h2 : tgB (blkK ck scope) tgx tg = true) (h3 : (tg.ixs.all fun i => own.contains i) = true)
    (he : ∀ (X : Cx) (w : Wd) (k : Nat), CtxOk X (blkK ck scope) Φ w k → PE X elt' (tE Φ w elt)) (hc : ∀ (X : Cx) (w : Wd) (k : Nat), CtxOk X (blkK ck scope) Φ w k → PTs X ifs (tT Φ w cond)) : CompOk X Φ w tgx elt' ifs scope (ownS ck own) tg elt cond where
  nd := o.nd
  calm := o.calm
  blk := by rw [o.N, o.sc]; exact blkOk_by h1
  ixs := fun i hi => by
    rw [ownS_map]
    have := List.all_eq_true.mp h3 i hi
    simpa using this
  g := fun G s H C cl fp => tg_ok (blk_ok o G s H C cl fp) h2
  t := fun G s H C cl fp => hc _ _ _ (blk_ok o G s H C cl fp)
  e := fun G s H C cl fp => he _ _ _ (blk_ok o G s H C cl fp)
theorem sT_yes : PTs X [] (tT Φ w (.bl true)) := ⟨fun pins s σ H Q I ⟨ρ, F, S, h⟩ => pts_nil.run pins s σ H Q I (h F H FLe.rf S)⟩
theorem star_all {xs : List Expr} (h : plainA xs = true) : ∀ e r, xs = e :: r → starEach (e :: r) X.env = (false, eval e X.env) :: starEach r X.env := fun e r q => by
  subst q
  exact star_cons (plainA_cons h).1
end
theorem smallSL {n : Nat} (h : n ≤ 1000) : n ≤ SL := Nat.le_trans h (by decide)
theorem chk_ok (Φ : Fns) : ∀ (n : Nat) (X : Cx) (ck : Ck) (w : Wd) (k : Nat) (c : E) (j : Jd), CtxOk X ck Φ w k → chk n ck c j = true → Holds X Φ w c j := fun n => by
  induction n with
  | zero => intro X ck w k c j o h; cases h
  | succ n ih =>
    intro X ck w k c j o h
    have comp : ∀ {elt : E} {tg : Tg} {src cond : E} {own : List Nat} {x : Expr}, (onLc x fun elt' tgx iter ifs scope => blkC ck.N ck.sc scope (ownS ck own) && (tgB (blkK ck scope) tgx tg && ((tg.ixs.all fun i => own.contains i) && (!isSet iter
        && (chk n (blkK ck scope) elt (.e elt') && (chk n (blkK ck scope) cond (.ts ifs) && chk n ck src (.i tgx iter))))))) = true → PE X x (tF Φ w (.comp elt tg src cond own)) := fun {elt tg src cond own x} h => by
      replace h := onLc_ok h
      obtain ⟨elt', tgx, iter, ifs, scope, p, rfl, h⟩ := h
      replace h := and3 h
      obtain ⟨h1, h⟩ := h
      replace h := and3 h
      obtain ⟨h2, h⟩ := h
      replace h := and3 h
      obtain ⟨h3, h⟩ := h
      replace h := and3 h
      obtain ⟨h4, h⟩ := h
      replace h := and3 h
      obtain ⟨h5, h⟩ := h
      replace h := and3 h
      obtain ⟨h6, h7⟩ := h
      have c := comp_ok o h1 h2 h3 (fun X w k o => ih X _ w k elt _ o h5) (fun X w k o => ih X _ w k cond _ o h6)
      have r := sF_comp (pos := p) c (ih X ck w k src _ o h7) (notSet_ok (nt h4))
      rw [ownS_map] at r
      exact r
    cases j with
    | o x =>
      cases x with
      | none =>
        cases c with
        | non => exact sO_none
        | _ => cases h
      | some y =>
        obtain ⟨h1, h2⟩ := and3 (show (!c.isNon && chk n ck c (.e y)) = true from h)
        exact sO_some (ih X ck w k c (.e y) o h2) (nt h1)
    | ts xs =>
      cases xs with
      | nil =>
        cases c with
        | bl b => cases b with
          | true => exact sT_yes
          | false => cases h
        | _ => cases h
      | cons y ys =>
        cases ys with
        | nil => exact pts_one (ih X ck w k c (.t y) o h)
        | cons _ _ => cases h
    | a xs =>
      cases c with
      | nil =>
        cases xs with
        | nil => exact ⟨sA_nil, rfl, fun ρ d ρ' e => by cases e; rfl, fun _ ρ => rfl⟩
        | cons _ _ => cases h
      | cons a b =>
        replace h := onC_ok h
        obtain ⟨y, ys, rfl, h⟩ := h
        replace h := and3 h
        obtain ⟨h1, h⟩ := h
        replace h := and3 h
        obtain ⟨h2, h3⟩ := h
        have pb : HoldsA X Φ w b ys := ih X ck w k b (.a ys) o h3
        refine ⟨sA_cons (ih X ck w k a (.e y) o h2) pb.pa (star_cons (nt h1)), ?_, fun ρ d ρ' e => ?_, fun z => by cases z⟩
        · unfold plainA
          rw [List.all_cons, h1]
          exact pb.pl
        · obtain ⟨x1, ρ1, e1, e2⟩ := bind_ok (show (evE Φ a ρ).bind (fun x ρ => (evE Φ b ρ).bind fun y ρ => .ok (.tuple (x :: tupOf y)) ρ) = .ok d ρ' from e)
          obtain ⟨x2, ρ2, e3, e4⟩ := bind_ok e2
          cases e4
          show (x1 :: tupOf x2).length = _
          rw [List.length_cons, List.length_cons, pb.len _ _ _ e3]
      | _ => cases h
    | io q i xs =>
      cases q with
      | zero =>
        replace h := onC_ok h
        obtain ⟨y, ys, rfl, h⟩ := h
        replace h := onName_ok h
        obtain ⟨id, p, rfl, h⟩ := h
        replace h := and3 h
        obtain ⟨h1, h2⟩ := h
        obtain ⟨n1, n2, n3, n4⟩ := o.nm h1
        have pb : HoldsA X Φ w c ys := ih X ck w k c (.a ys) o h2
        exact ⟨sA_io0 n1 n2 n3 n4 pb.pa, pb.pl, fun z => by cases z⟩
      | succ q =>
        cases c with
        | cons a b =>
          replace h := onC_ok h
          obtain ⟨y, ys, rfl, h⟩ := h
          replace h := and3 h
          obtain ⟨h1, h⟩ := h
          replace h := and3 h
          obtain ⟨h2, h3⟩ := h
          obtain ⟨p1, p2, p3⟩ := ih X ck w k b (.io q i ys) o h3
          refine ⟨sA_ioS (ih X ck w k a (.e y) o h2) p1 (star_cons (nt h1)), ?_, fun z => by cases z⟩
          unfold plainA
          rw [List.all_cons, h1]
          exact p2
        | _ => cases h
    | wv x =>
      replace h := or3 h
      rcases h with h | h
      · replace h := onBool1_ok h
        obtain ⟨op, y, p, rfl, h⟩ := h
        cases op with
        | And => exact pw_and1 (ih X ck w k c (.t y) o h)
        | Or => exact pw_or1 (ih X ck w k c (.t y) o h)
      · cases c with
        | and a b =>
          replace h := onBool_ok h
          obtain ⟨op, y, z, r, p, rfl, h⟩ := h
          replace h := and3 h
          obtain ⟨e, h⟩ := h
          replace h := and3 h
          obtain ⟨h1, h2⟩ := h
          obtain rfl := dc e
          exact sT_and (ih X ck w k a (.t y) o h1) (ih X ck w k b (.wv _) o h2)
        | or a b =>
          replace h := onBool_ok h
          obtain ⟨op, y, z, r, p, rfl, h⟩ := h
          replace h := and3 h
          obtain ⟨e, h⟩ := h
          replace h := and3 h
          obtain ⟨h1, h2⟩ := h
          obtain rfl := dc e
          exact sT_or (ih X ck w k a (.t y) o h1) (ih X ck w k b (.wv _) o h2)
        | _ => cases h
    | i tg x =>
      replace h := or3 h
      rcases h with h | h
      · exact sI_val o.K (ih X ck w k c (.e x) o h)
      · cases c with
        | rng a =>
          replace h := onCall_ok h
          obtain ⟨id, p, xs, p2, rfl, h⟩ := h
          replace h := and3 h
          obtain ⟨h1, h⟩ := h
          replace h := and3 h
          obtain ⟨h2, h⟩ := h
          replace h := on1_ok h
          obtain ⟨y, rfl, h⟩ := h
          replace h := and3 h
          obtain ⟨h3, h4⟩ := h
          obtain rfl := dc h1
          obtain ⟨g1, g2⟩ := o.blt h2
          exact sI_rng g1 g2 (ih X ck w k a _ o h4) (star_cons (nt h3))
        | rng2 a b =>
          replace h := onCall_ok h
          obtain ⟨id, p, xs, p2, rfl, h⟩ := h
          replace h := and3 h
          obtain ⟨h1, h⟩ := h
          replace h := and3 h
          obtain ⟨h2, h⟩ := h
          replace h := on2_ok h
          obtain ⟨y, z, rfl, h⟩ := h
          replace h := and3 h
          obtain ⟨h3, h⟩ := h
          replace h := and3 h
          obtain ⟨h4, h⟩ := h
          replace h := and3 h
          obtain ⟨h5, h6⟩ := h
          obtain rfl := dc h1
          obtain ⟨g1, g2⟩ := o.blt h2
          exact sI_rng2 g1 g2 (ih X ck w k a _ o h5) (ih X ck w k b _ o h6) (by rw [star_cons (nt h3), star_cons (nt h4)]; rfl) (star_cons (nt h4))
        | enum a =>
          replace h := onTup_ok h
          obtain ⟨es, j, tp, rfl, h⟩ := h
          replace h := onCall_ok h
          obtain ⟨id, p, xs, p2, rfl, h⟩ := h
          replace h := and3 h
          obtain ⟨h1, h⟩ := h
          replace h := and3 h
          obtain ⟨h2, h⟩ := h
          replace h := on1_ok h
          obtain ⟨y, rfl, h⟩ := h
          replace h := and3 h
          obtain ⟨h3, h4⟩ := h
          obtain rfl := dc h1
          obtain ⟨g1, g2⟩ := o.blt h2
          exact sI_enum o.K g1 g2 (ih X ck w k a _ o h4) (star_cons (nt h3))
        | zip a b =>
          replace h := onTup_ok h
          obtain ⟨es, j, tp, rfl, h⟩ := h
          replace h := onCall_ok h
          obtain ⟨id, p, xs, p2, rfl, h⟩ := h
          replace h := and3 h
          obtain ⟨h1, h⟩ := h
          replace h := and3 h
          obtain ⟨h2, h⟩ := h
          replace h := on2_ok h
          obtain ⟨y, z, rfl, h⟩ := h
          replace h := and3 h
          obtain ⟨h3, h⟩ := h
          replace h := and3 h
          obtain ⟨h4, h⟩ := h
          replace h := and3 h
          obtain ⟨h5, h6⟩ := h
          obtain rfl := dc h1
          obtain ⟨g1, g2⟩ := o.blt h2
          exact sI_zip o.K g1 g2 (ih X ck w k a _ o h5) (ih X ck w k b _ o h6) (star_cons (nt h3)) (star_cons (nt h4)) (plain_back (by unfold plainA; rw [List.all_cons, h4]; rfl))
        | _ => cases h
    | f x =>
      cases c with
      | lst es =>
        replace h := onLst_ok h
        obtain ⟨xs, p, rfl, h⟩ := h
        replace h := and3 h
        obtain ⟨h1, h2⟩ := h
        have pa : HoldsA X Φ w es _ := ih X ck w k es _ o h2
        exact sF_lst pa.pa (smallSL (dc h1)) pa.len
      | call fn es =>
        replace h := onCall_ok h
        obtain ⟨id, p, xs, p2, rfl, h⟩ := h
        replace h := and3 h
        obtain ⟨h1, h2⟩ := h
        obtain ⟨g1, g2, f, hn, hf, F, L⟩ := fn_of o h1
        replace hf := and3 hf
        obtain ⟨e1, hf⟩ := hf
        replace hf := and3 hf
        obtain ⟨e2, e3⟩ := hf
        obtain ⟨fn', fi, fp, fio, fo⟩ := f
        obtain rfl := dc e1
        obtain rfl := hn
        cases fio with
        | some _ => cases e2
        | none =>
          cases fo with
          | false => cases e3
          | true =>
            have pa : HoldsA X Φ w es _ := ih X ck w k es _ o h2
            exact sF_call o.K o.tk o.hr F g1 g2 pa.pa pa.nil (star_all pa.pl) (plain_back (plain_tail pa.pl))
      | comp elt tg src cond own => exact comp h
      | rev a =>
        replace h := onSub_ok h
        obtain ⟨y, z, p, rfl, h⟩ := h
        replace h := onSl_ok h
        obtain ⟨l, u, s, p2, rfl, h⟩ := h
        replace h := and3 h
        obtain ⟨h1, h⟩ := h
        replace h := and3 h
        obtain ⟨h2, h⟩ := h
        replace h := and3 h
        obtain ⟨h3, h4⟩ := h
        obtain rfl := onN_ok h1
        obtain rfl := onN_ok h2
        obtain ⟨k1, q1, q2, rfl⟩ := isM1_ok h3
        exact sF_revL o.K (ih X ck w k a _ o h4) fun ρ d ρ' _ ⟨z, e⟩ => by
          cases d with
          | list ds => exact ⟨ds, rfl⟩
          | _ => cases e
      | lrng c =>
        replace h := onOf_ok h
        obtain ⟨p, id2, p2, xs, q, q2, rfl, h⟩ := h
        replace h := and3 h
        obtain ⟨h1, h⟩ := h
        replace h := and3 h
        obtain ⟨h2, h⟩ := h
        replace h := and3 h
        obtain ⟨h3, h⟩ := h
        obtain rfl := dc h2
        obtain ⟨g1, g2⟩ := o.blt h1
        obtain ⟨g3, g4⟩ := o.blt h3
        cases e : isRng c with
        | none => rw [e] at h; cases h
        | some z =>
          rw [e] at h
          cases z with
          | inl a =>
            obtain rfl := isRng1 e
            replace h := on1_ok h
            obtain ⟨y, rfl, h⟩ := h
            replace h := and3 h
            obtain ⟨h5, h6⟩ := h
            exact sF_lrng1 o.calm g1 g2 g3 g4 (ih X ck w k a _ o h6) (star_cons (nt h5))
          | inr ab =>
            obtain ⟨a, b⟩ := ab
            obtain rfl := isRng2 e
            replace h := on2_ok h
            obtain ⟨y, z, rfl, h⟩ := h
            replace h := and3 h
            obtain ⟨h5, h⟩ := h
            replace h := and3 h
            obtain ⟨h6, h⟩ := h
            replace h := and3 h
            obtain ⟨h7, h8⟩ := h
            exact sF_lrng2 o.calm g1 g2 g3 g4 (ih X ck w k a _ o h7) (ih X ck w k b _ o h8) (star_cons (nt h5)) (star_cons (nt h6)) (plain_back (by unfold plainA; rw [List.all_cons, h6]; rfl))
      | _ => cases h
    | t x =>
      replace h := or3 h
      rcases h with h | h
      · exact (show PW X x (tT Φ w c) from ih X ck w k c (.wv x) o h).pt
      replace h := or3 h
      rcases h with h | h
      · replace h := and3 h
        obtain ⟨h1, h2⟩ := h
        exact sT_val (ih X ck w k c (.e x) o h2) (plainT_ok h1)
      cases c with
      | not a =>
        replace h := or3 h
        rcases h with h | h
        · replace h := onUn_ok h
          obtain ⟨op, y, p, rfl, h⟩ := h
          replace h := and3 h
          obtain ⟨h1, h2⟩ := h
          obtain rfl := dc h1
          exact sT_not (ih X ck w k a (.t y) o h2)
        · cases q : isNMi a with
          | none => rw [q] at h; cases h
          | some i =>
            rw [q] at h
            obtain rfl := isNMi_ok q
            replace h := onNil_ok h
            obtain ⟨id, p, p2, p3, rfl, h⟩ := h
            obtain ⟨n1, n2, n3, n4⟩ := o.nm h
            exact (sE_nnilM o.hr.units0 n1 n2 n3 n4).2
      | cmp oo a b =>
        replace h := onCmp_ok h
        obtain ⟨l, op, r, p, rfl, h⟩ := h
        replace h := and3 h
        obtain ⟨h1, h⟩ := h
        replace h := and3 h
        obtain ⟨h2, h⟩ := h
        replace h := and3 h
        obtain ⟨h3, h4⟩ := h
        obtain rfl := dc h1
        exact sT_cmp o.K o.u oo (ih X ck w k a _ o h3) (ih X ck w k b _ o h4) (notSet_marks (nt h2))
      | chain oo pp a b d =>
        replace h := onCmp2_ok h
        obtain ⟨l, op, r, op', r', p, rfl, h⟩ := h
        replace h := and3 h
        obtain ⟨h1, h⟩ := h
        replace h := and3 h
        obtain ⟨h2, h⟩ := h
        replace h := and3 h
        obtain ⟨h3, h⟩ := h
        replace h := and3 h
        obtain ⟨h4, h⟩ := h
        replace h := and3 h
        obtain ⟨h5, h⟩ := h
        replace h := and3 h
        obtain ⟨h6, h7⟩ := h
        obtain rfl := dc h1
        obtain rfl := dc h2
        exact sT_chain o.K o.u oo pp (ih X ck w k a _ o h5) (ih X ck w k b _ o h6) (ih X ck w k d _ o h7) (notSet_marks (nt h4))
      | nilM i =>
        replace h := onNil_ok h
        obtain ⟨id, p, p2, p3, rfl, h⟩ := h
        obtain ⟨n1, n2, n3, n4⟩ := o.nm h
        exact (sE_nilM o.hr.units0 n1 n2 n3 n4).2
      | _ => cases h
    | e x =>
      replace h := or3 h
      rcases h with h | h
      · replace h := onBool1_ok h
        obtain ⟨op, y, p, rfl, h⟩ := h
        exact pe_one (ih X ck w k c (.e y) o h)
      cases c with
      | var i =>
        replace h := onName_ok h
        obtain ⟨id, p, rfl, h⟩ := h
        obtain ⟨n1, n2, n3, n4⟩ := o.nm h
        exact sE_var n1 n2 n3 n4
      | non =>
        replace h := onConst_ok h
        obtain ⟨z, j, p, rfl, h⟩ := h
        obtain rfl := dc h
        exact sE_non
      | bl b =>
        replace h := onConst_ok h
        obtain ⟨z, j, p, rfl, h⟩ := h
        obtain rfl := dc h
        exact sE_bl
      | int i =>
        replace h := onConst_ok h
        obtain ⟨z, j, p, rfl, h⟩ := h
        obtain rfl := dc h
        exact sE_int
      | str s =>
        replace h := onConst_ok h
        obtain ⟨z, j, p, rfl, h⟩ := h
        obtain rfl := dc h
        exact sE_str
      | gint y z =>
        replace h := onName_ok h
        obtain ⟨id, p, rfl, h⟩ := h
        replace h := and3 h
        obtain ⟨h1, h⟩ := h
        replace h := and3 h
        obtain ⟨h2, h⟩ := h
        obtain rfl := dc h1
        rw [List.any_eq_true] at h
        obtain ⟨g, hg, e⟩ := h
        obtain ⟨e1, e2⟩ := and3 e
        have := o.gi g hg
        rw [dc e1, dc e2] at this
        exact sE_gint (o.gl h2).1 this (o.gl h2).2
      | bin oo a b =>
        replace h := onBin_ok h
        obtain ⟨l, op, r, p, rfl, h⟩ := h
        replace h := and3 h
        obtain ⟨h1, h⟩ := h
        replace h := and3 h
        obtain ⟨h3, h4⟩ := h
        obtain rfl := dc h1
        exact sE_bin o.K oo (ih X ck w k a _ o h3) (ih X ck w k b _ o h4)
      | neg a =>
        replace h := onUn_ok h
        obtain ⟨op, y, p, rfl, h⟩ := h
        replace h := and3 h
        obtain ⟨h1, h2⟩ := h
        obtain rfl := dc h1
        exact sE_neg (ih X ck w k a _ o h2)
      | cmp oo a b =>
        replace h := onCmp_ok h
        obtain ⟨l, op, r, p, rfl, h⟩ := h
        replace h := and3 h
        obtain ⟨h1, h⟩ := h
        replace h := and3 h
        obtain ⟨h2, h⟩ := h
        replace h := and3 h
        obtain ⟨h3, h4⟩ := h
        obtain rfl := dc h1
        exact sE_cmp o.K o.u oo (ih X ck w k a _ o h3) (ih X ck w k b _ o h4) (notSet_marks (nt h2))
      | chain oo pp a b d =>
        replace h := onCmp2_ok h
        obtain ⟨l, op, r, op', r', p, rfl, h⟩ := h
        replace h := and3 h
        obtain ⟨h1, h⟩ := h
        replace h := and3 h
        obtain ⟨h2, h⟩ := h
        replace h := and3 h
        obtain ⟨h3, h⟩ := h
        replace h := and3 h
        obtain ⟨h4, h⟩ := h
        replace h := and3 h
        obtain ⟨h5, h⟩ := h
        replace h := and3 h
        obtain ⟨h6, h7⟩ := h
        obtain rfl := dc h1
        obtain rfl := dc h2
        exact sE_chain o.K o.u oo pp (ih X ck w k a _ o h5) (ih X ck w k b _ o h6) (ih X ck w k d _ o h7) (notSet_marks (nt h4))
      | not a =>
        replace h := or3 h
        rcases h with h | h
        · replace h := onUn_ok h
          obtain ⟨op, y, p, rfl, h⟩ := h
          replace h := and3 h
          obtain ⟨h1, h2⟩ := h
          obtain rfl := dc h1
          exact sE_not (ih X ck w k a (.e y) o h2)
        · cases q : isNMi a with
          | none => rw [q] at h; cases h
          | some i =>
            rw [q] at h
            obtain rfl := isNMi_ok q
            replace h := onNil_ok h
            obtain ⟨id, p, p2, p3, rfl, h⟩ := h
            obtain ⟨n1, n2, n3, n4⟩ := o.nm h
            exact (sE_nnilM o.hr.units0 n1 n2 n3 n4).1
      | and a b =>
        replace h := onBool_ok h
        obtain ⟨op, y, z, r, p, rfl, h⟩ := h
        replace h := and3 h
        obtain ⟨e, h⟩ := h
        replace h := and3 h
        obtain ⟨h1, h2⟩ := h
        obtain rfl := dc e
        exact sE_and (ih X ck w k a _ o h1) (ih X ck w k b _ o h2)
      | or a b =>
        replace h := onBool_ok h
        obtain ⟨op, y, z, r, p, rfl, h⟩ := h
        replace h := and3 h
        obtain ⟨e, h⟩ := h
        replace h := and3 h
        obtain ⟨h1, h2⟩ := h
        obtain rfl := dc e
        exact sE_or (ih X ck w k a _ o h1) (ih X ck w k b _ o h2)
      | ite d a b =>
        replace h := onIf_ok h
        obtain ⟨y, z, u, p, rfl, h⟩ := h
        replace h := and3 h
        obtain ⟨h1, h⟩ := h
        replace h := and3 h
        obtain ⟨h2, h3⟩ := h
        exact sE_ite (ih X ck w k d (.t y) o h1) (ih X ck w k a _ o h2) (ih X ck w k b _ o h3)
      | tup es =>
        replace h := onTup_ok h
        obtain ⟨xs, j, p, rfl, h⟩ := h
        replace h := and3 h
        obtain ⟨h1, h2⟩ := h
        have pa : HoldsA X Φ w es _ := ih X ck w k es _ o h2
        exact sE_tup pa.pa (smallSL (dc h1)) pa.len
      | lst es =>
        replace h := onLst_ok h
        obtain ⟨xs, p, rfl, h⟩ := h
        replace h := and3 h
        obtain ⟨h1, h2⟩ := h
        have pa : HoldsA X Φ w es _ := ih X ck w k es _ o h2
        exact sE_of_fresh (sF_lst pa.pa (smallSL (dc h1)) pa.len) lst_list
      | ix a b =>
        replace h := onSub_ok h
        obtain ⟨y, z, p, rfl, h⟩ := h
        replace h := and3 h
        obtain ⟨h1, h⟩ := h
        replace h := and3 h
        obtain ⟨h2, h3⟩ := h
        exact sE_ix o.K (ih X ck w k a _ o h2) (ih X ck w k b _ o h3) (plain_ix (nt h1))
      | sl a lo hi =>
        replace h := onSub_ok h
        obtain ⟨y, z, p, rfl, h⟩ := h
        replace h := onSl_ok h
        obtain ⟨l, u, s, p2, rfl, h⟩ := h
        replace h := and3 h
        obtain ⟨h1, h⟩ := h
        replace h := and3 h
        obtain ⟨h2, h⟩ := h
        replace h := and3 h
        obtain ⟨h3, h4⟩ := h
        obtain rfl := onN_ok h1
        exact sE_sl o.K (ih X ck w k a _ o h2) (ih X ck w k lo (.o l) o h3) (ih X ck w k hi (.o u) o h4)
      | call fn es =>
        replace h := onCall_ok h
        obtain ⟨id, p, xs, p2, rfl, h⟩ := h
        replace h := and3 h
        obtain ⟨h1, h2⟩ := h
        obtain ⟨g1, g2, f, hn, hf, F, L⟩ := fn_of o h1
        replace hf := and3 hf
        obtain ⟨e1, e2⟩ := hf
        obtain ⟨fn', fi, fp, fio, fo⟩ := f
        obtain rfl := dc e1
        obtain rfl := hn
        cases fio with
        | some _ => cases e2
        | none =>
          have pa : HoldsA X Φ w es _ := ih X ck w k es _ o h2
          exact sE_call o.K o.tk o.hr F g1 g2 pa.pa pa.nil (star_all pa.pl) (plain_back (plain_tail pa.pl))
      | callio fn q i es =>
        replace h := onCall_ok h
        obtain ⟨id, p, xs, p2, rfl, h⟩ := h
        replace h := and3 h
        obtain ⟨h1, h2⟩ := h
        obtain ⟨g1, g2, f, hn, hf, F, L⟩ := fn_of o h1
        replace hf := and3 hf
        obtain ⟨e1, hf⟩ := hf
        replace hf := and3 hf
        obtain ⟨e2, hf⟩ := hf
        replace hf := and3 hf
        obtain ⟨e3, e4⟩ := hf
        obtain ⟨fn', fi, fp, fio, fo⟩ := f
        obtain rfl := dc e1
        obtain rfl := hn
        obtain rfl := dc e2
        cases fo with
        | true => cases e4
        | false =>
          obtain ⟨pa, pl, pn⟩ := ih X ck w k es (.io q i xs) o h2
          exact sE_callio o.K o.tk o.hr F L (dc e3) g1 g2 pa pn (star_all pl) (plain_back (plain_tail pl))
      | bi f es =>
        replace h := onCall_ok h
        obtain ⟨id, p, xs, p2, rfl, h⟩ := h
        replace h := and3 h
        obtain ⟨h1, h⟩ := h
        replace h := and3 h
        obtain ⟨h2, h⟩ := h
        replace h := and3 h
        obtain ⟨h3, h4⟩ := h
        obtain ⟨y, ys, rfl⟩ := ne_nil h3
        obtain rfl := dc h1
        obtain ⟨g1, g2⟩ := o.blt h2
        have pa : HoldsA X Φ w es _ := ih X ck w k es _ o h4
        exact sE_bi o.K o.calm f g1 g2 pa.pa (star_cons (plainA_cons pa.pl).1) (plain_back (plainA_cons pa.pl).2)
      | isi a t =>
        replace h := onCall_ok h
        obtain ⟨id, p, xs, p2, rfl, h⟩ := h
        replace h := and3 h
        obtain ⟨h1, h⟩ := h
        replace h := and3 h
        obtain ⟨h2, h⟩ := h
        replace h := on2_ok h
        obtain ⟨y, z, rfl, h⟩ := h
        replace h := onName_ok h
        obtain ⟨ty, p3, rfl, h⟩ := h
        replace h := and3 h
        obtain ⟨h3, h⟩ := h
        replace h := and3 h
        obtain ⟨h4, h⟩ := h
        replace h := and3 h
        obtain ⟨h5, h6⟩ := h
        obtain rfl := dc h1
        obtain rfl := dc h3
        obtain ⟨g1, g2⟩ := o.blt h2
        obtain ⟨g3, g4⟩ := o.blt h4
        exact sE_isi o.K t g1 g2 g3 g4 (ih X ck w k a _ o h6) (star_cons (nt h5))
      | lenM i =>
        replace h := onCall_ok h
        obtain ⟨id, p, xs, p2, rfl, h⟩ := h
        replace h := and3 h
        obtain ⟨h1, h⟩ := h
        replace h := and3 h
        obtain ⟨h2, h⟩ := h
        replace h := on1_ok h
        obtain ⟨y, rfl, h⟩ := h
        replace h := onName_ok h
        obtain ⟨z, p3, rfl, h⟩ := h
        obtain rfl := dc h1
        obtain ⟨g1, g2⟩ := o.blt h2
        obtain ⟨n1, n2, n3, n4⟩ := o.nm h
        exact sE_lenM n1 n2 n3 n4 g1 g2
      | ixM i e =>
        replace h := onSub_ok h
        obtain ⟨y, z, p, rfl, h⟩ := h
        replace h := onName_ok h
        obtain ⟨id, p2, rfl, h⟩ := h
        replace h := and3 h
        obtain ⟨h1, h⟩ := h
        replace h := and3 h
        obtain ⟨h2, h3⟩ := h
        obtain ⟨n1, n2, n3, n4⟩ := o.nm h1
        exact sE_ixM n1 n2 n3 n4 (ih X ck w k e _ o h3) (plain_ix (nt h2))
      | nilM i =>
        replace h := onNil_ok h
        obtain ⟨id, p, p2, p3, rfl, h⟩ := h
        obtain ⟨n1, n2, n3, n4⟩ := o.nm h
        exact (sE_nilM o.hr.units0 n1 n2 n3 n4).1
      | popM i e =>
        replace h := onMeth_ok h
        obtain ⟨y, p1, m, ap, xs, p, rfl, hl, h⟩ := h
        replace h := and3 h
        obtain ⟨h1, h⟩ := h
        replace h := and3 h
        obtain ⟨h2, h⟩ := h
        replace h := on1_ok h
        obtain ⟨z, rfl, h⟩ := h
        replace h := and3 h
        obtain ⟨h3, h4⟩ := h
        obtain rfl := dc h1
        obtain ⟨n1, n2, n3, n4⟩ := o.nm h2
        exact sE_popM n1 n2 n3 n4 (ih X ck w k e _ o h4) (star_cons (nt h3)) hl
      | comp elt tg src cond own => exact sE_of_fresh (comp h) comp_list
      | lrng a => exact sE_of_fresh (ih X ck w k (.lrng a) (.f x) o h) lrng_list
      | rev a =>
        refine sE_of_fresh (ih X ck w k (.rev a) (.f x) o h) fun ρ d ρ' e => ?_
        obtain ⟨y, ρ1, _, e⟩ := bind_ok (show (evE Φ a ρ).bind (fun x ρ => .of (revD x) ρ) = .ok d ρ' from e)
        cases y with
        | list ds => cases e; exact ⟨_, rfl⟩
        | _ => cases e
      | edic =>
        obtain ⟨p, rfl⟩ := isDict0_ok h
        exact sE_edic
      | trng c =>
        replace h := onOf_ok h
        obtain ⟨p, id2, p2, xs, q, q2, rfl, h⟩ := h
        replace h := and3 h
        obtain ⟨h1, h⟩ := h
        replace h := and3 h
        obtain ⟨h2, h⟩ := h
        replace h := and3 h
        obtain ⟨h3, h⟩ := h
        obtain rfl := dc h2
        obtain ⟨g1, g2⟩ := o.blt h1
        obtain ⟨g3, g4⟩ := o.blt h3
        cases e : isRng c with
        | none => rw [e] at h; cases h
        | some z =>
          rw [e] at h
          cases z with
          | inl a =>
            obtain rfl := isRng1 e
            replace h := on1_ok h
            obtain ⟨y, rfl, h⟩ := h
            replace h := and3 h
            obtain ⟨h5, h6⟩ := h
            exact sE_trng1 o.calm g1 g2 g3 g4 (ih X ck w k a _ o h6) (star_cons (nt h5))
          | inr ab =>
            obtain ⟨a, b⟩ := ab
            obtain rfl := isRng2 e
            replace h := on2_ok h
            obtain ⟨y, z, rfl, h⟩ := h
            replace h := and3 h
            obtain ⟨h5, h⟩ := h
            replace h := and3 h
            obtain ⟨h6, h⟩ := h
            replace h := and3 h
            obtain ⟨h7, h8⟩ := h
            exact sE_trng2 o.calm g1 g2 g3 g4 (ih X ck w k a _ o h7) (ih X ck w k b _ o h8) (star_cons (nt h5)) (star_cons (nt h6)) (plain_back (by unfold plainA; rw [List.all_cons, h6]; rfl))
      | _ => cases h
end HM

namespace HM
open PySem PySem.Spec PyProof.Rows L2

/-! ### statements: their shape -/
def onAsg (s : Stmt) (f : Expr → Expr → Bool) : Bool := match s with | .Assign [t] v _ => f t v | _ => false
theorem onAsg_ok {s : Stmt} {f : Expr → Expr → Bool} (h : onAsg s f = true) : ∃ t v p, s = .Assign [t] v p ∧ f t v = true := by
  unfold onAsg at h; split at h <;> first | exact ⟨_, _, _, rfl, h⟩ | cases h
def onNameP (x : Expr) (f : Str → Pos → Bool) : Bool := match x with | .Name id p => f id p | _ => false
theorem onNameP_ok {x : Expr} {f : Str → Pos → Bool} (h : onNameP x f = true) : ∃ id p, x = .Name id p ∧ f id p = true := by
  unfold onNameP at h; split at h <;> first | exact ⟨_, _, rfl, h⟩ | cases h
def onAug (s : Stmt) (f : Expr → Operator → Expr → Bool) : Bool := match s with | .AugAssign t op v _ => f t op v | _ => false
theorem onAug_ok {s : Stmt} {f : Expr → Operator → Expr → Bool} (h : onAug s f = true) : ∃ t op v p, s = .AugAssign t op v p ∧ f t op v = true := by
  unfold onAug at h; split at h <;> first | exact ⟨_, _, _, _, rfl, h⟩ | cases h
def onRet (s : Stmt) (f : Option Expr → Bool) : Bool := match s with | .Return v _ => f v | _ => false
theorem onRet_ok {s : Stmt} {f : Option Expr → Bool} (h : onRet s f = true) : ∃ v p, s = .Return v p ∧ f v = true := by
  unfold onRet at h; split at h <;> first | exact ⟨_, _, rfl, h⟩ | cases h
def onIfS (s : Stmt) (f : Expr → List Stmt → List Stmt → Bool) : Bool := match s with | .If c a b _ => f c a b | _ => false
theorem onIfS_ok {s : Stmt} {f : Expr → List Stmt → List Stmt → Bool} (h : onIfS s f = true) : ∃ c a b p, s = .If c a b p ∧ f c a b = true := by
  unfold onIfS at h; split at h <;> first | exact ⟨_, _, _, _, rfl, h⟩ | cases h
def onFor (s : Stmt) (f : Expr → Expr → List Stmt → Bool) : Bool := match s with | .For t i b [] _ => f t i b | _ => false
theorem onFor_ok {s : Stmt} {f : Expr → Expr → List Stmt → Bool} (h : onFor s f = true) : ∃ t i b p, s = .For t i b [] p ∧ f t i b = true := by
  unfold onFor at h; split at h <;> first | exact ⟨_, _, _, _, rfl, h⟩ | cases h
def onWhile (s : Stmt) (f : Expr → List Stmt → Bool) : Bool := match s with | .While c b [] _ => f c b | _ => false
theorem onWhile_ok {s : Stmt} {f : Expr → List Stmt → Bool} (h : onWhile s f = true) : ∃ c b p, s = .While c b [] p ∧ f c b = true := by
  unfold onWhile at h; split at h <;> first | exact ⟨_, _, _, rfl, h⟩ | cases h
def onEx (s : Stmt) (f : Expr → Bool) : Bool := match s with | .Expr e _ => f e | _ => false
theorem onEx_ok {s : Stmt} {f : Expr → Bool} (h : onEx s f = true) : ∃ e p, s = .Expr e p ∧ f e = true := by
  unfold onEx at h; split at h <;> first | exact ⟨_, _, rfl, h⟩ | cases h
def isPass : Stmt → Bool
  | .Pass _ => true
  | .Expr (.Constant (.str _) _ _) _ => true
  | _ => false
def isBreak : Stmt → Bool
  | .Break _ => true
  | _ => false
def isCont : Stmt → Bool
  | .Continue _ => true
  | _ => false
def isSkip : S → Bool
  | .skip => true
  | _ => false
def lcB (n : Nat) (ck : Ck) (elt : E) (tg : Tg) (src cond : E) (own : List Nat) (x : Expr) : Bool := onLc x fun elt' tgx iter ifs scope => blkC ck.N ck.sc scope (ownS ck own) && (tgB (blkK ck scope) tgx tg && ((tg.ixs.all fun i => own.contains i) && (!isSet iter
        && (chk n (blkK ck scope) elt (.e elt') && (chk n (blkK ck scope) cond (.ts ifs) && chk n ck src (.i tgx iter))))))
/-- a comprehension stored on its own line to a local name -/
def swT (ck : Ck) (id : Str) (np : Pos) (x : Expr) : Bool := (match ck.sc.kind with | .function => true | _ => false) && (isLoc ck id && match x with
  | .ListComp _ _ scope p => (np.line == p.line) && !(scope.names.any fun (n, k) => n == id && (k == .local || k == .cell))
  | _ => false)
/-- .. on another line, or no comprehension -/
def swF (np : Pos) (x : Expr) : Bool := !isComp x || match x with
  | .ListComp _ _ _ p => !(np.line == p.line)
  | _ => false
theorem swF_ok {np : Pos} {x : Expr} {id : Str} {l : Nat} {env : PySem.Env} (h : swF np x = true) : swapsWith x (some (.Name id np)) l env = pure false := by
  unfold swF at h
  rw [Bool.or_eq_true] at h
  rcases h with h | h
  · exact notComp_sw (by simpa using h)
  · split at h
    · rename_i p
      have e : (np.line == p.line) = false := by simpa using h
      show (pure (env.blockKind == .function && env.kindOf id == some .local && np.line == p.line && _) : Sem Bool) = pure false
      rw [e]
      simp
    · cases h
inductive Sj where
  | s (s : Stmt) | ss (s : List Stmt)
def chkS : Nat → Ck → S → Sj → Bool
  | 0, _, _, _ => false
  | n + 1, ck, c, .ss xs => (match xs with
    | [] => isSkip c
    | x :: r => (match c with | .seq a b => chkS n ck a (.s x) && chkS n ck b (.ss r) | _ => false))
  | n + 1, ck, c, .s x => (match c with
    | .skip => isPass x
    | .brk => isBreak x
    | .cnt => isCont x
    | .asg i e => onAsg x fun t v => onNameP t fun id np => ixB ck i id && (locB ck id && ((swF np v && chk n ck e (.e v)) || (swT ck id np v && match e with
      | .comp elt tg src cond own => lcB n ck elt tg src cond own v
      | _ => false)))
    | .asgM i e => onAsg x fun t v => onNameP t fun id np => ixB ck i id && (locB ck id && ((swF np v && chk n ck e (.f v)) || (swT ck id np v && match e with
      | .comp elt tg src cond own => lcB n ck elt tg src cond own v
      | _ => false)))
    | .asgs is e => onAsg x fun t v => onTup t fun es => tgsB ck es is && ((!isTupE v || onTup v fun vs => fnKind ck.sc && ((!(vs.all (constantsAlone 8)) || vs.all (foldedForSure 8)) && (swS ck.sc es vs).isNone)) && (!isComp v && chk n ck e (.e v)))
    | .two i j a b => onAsg x fun t v => onTup t fun ts => onTup v fun vs => on2 ts fun t1 t2 => onName t1 fun x1 => onName t2 fun x2 => on2 vs fun v1 v2 =>
      ixB ck i x1 && (ixB ck j x2 && (decide (i ≠ j) && (isLoc ck x1 && (isLoc ck x2 && (fnKind ck.sc && (!(vs.all (constantsAlone 8)) && (decide (swS ck.sc ts vs = some [x1, x2]) && (!isStar v1 && (!isStar v2 && (chk n ck a (.e v1) && chk n ck b (.e v2)))))))))))
    | .app i e => onEx x fun y => onMeth y fun id m xs => decide (m = "append") && (nmB ck i id && on1 xs fun z => !isStar z && chk n ck e (.e z))
    | .setM i a e => onAsg x fun t v => onSub t fun y z => onName y fun id => nmB ck i id && (!isSlice z && (!isComp v && (chk n ck a (.e z) && chk n ck e (.e v))))
    | .aug i o e => onAug x fun t op v => onName t fun id => decide (augOp o = some op) && (ixB ck i id && (locB ck id && chk n ck e (.e v)))
    | .ret e => onRet x fun v => (match v with
      | none => e.isNon
      | some y => chk n ck e (.e y))
    | .retM i => onRet x fun v => (match v with
      | some y => onName y fun id => nmB ck i id
      | none => false)
    | .ite e a b => onIfS x fun y p q => chk n ck e (.t y) && (chkS n ck a (.ss p) && chkS n ck b (.ss q))
    | .for_ tg src b => onFor x fun t i p => tgB ck t tg && (!isSet i && (chk n ck src (.i t i) && chkS n ck b (.ss p)))
    | .while_ e b => onWhile x fun y p => chk n ck e (.t y) && chkS n ck b (.ss p)
    | .drop e => onEx x fun y => !isComp y && chk n ck e (.e y)
    | _ => false)
def HoldsS (X : Cx) (Φ : Fns) (w : Wd) (c : S) : Sj → Prop
  | .s x => PS X x (tS Φ w c)
  | .ss xs => PSs X xs (tS Φ w c)
section
variable {X : Cx} {ck : Ck} {Φ : Fns} {w : Wd} {k : Nat}
theorem lc_ok {n : Nat} {elt : E} {tg : Tg} {src cond : E} {own : List Nat} {x : Expr} (o : CtxOk X ck Φ w k) (h : lcB n ck elt tg src cond own x = true) :
    ∃ elt' tgx iter ifs scope p, x = .ListComp elt' [⟨tgx, iter, ifs, 0⟩] scope p ∧ CompOk X Φ w tgx elt' ifs scope (ownS ck own) tg elt cond ∧ PI X tgx iter (tI Φ w src) ∧ (∀ v, foldedSetIterable iter X.env v = pure v) := by
  replace h := onLc_ok h
  obtain ⟨elt', tgx, iter, ifs, scope, p, rfl, h⟩ := h
  replace h := and3 h
  obtain ⟨h1, h⟩ := h
  replace h := and3 h
  obtain ⟨h2, h⟩ := h
  replace h := and3 h
  obtain ⟨h3, h⟩ := h
  replace h := and3 h
  obtain ⟨h4, h⟩ := h
  replace h := and3 h
  obtain ⟨h5, h⟩ := h
  replace h := and3 h
  obtain ⟨h6, h7⟩ := h
  exact ⟨_, _, _, _, _, _, rfl, comp_ok o h1 h2 h3 (fun X w k o => chk_ok Φ n X _ w k elt _ o h5) (fun X w k o => chk_ok Φ n X _ w k cond _ o h6), chk_ok Φ n X ck w k src _ o h7, notSet_ok (nt h4)⟩
theorem swT_ok (o : CtxOk X ck Φ w k) {id : Str} {np p : Pos} {elt : Expr} {gs : List Comprehension} {scope : Scope} {l : Nat} (h : swT ck id np (.ListComp elt gs scope p) = true) :
    X.env.scope.names.lookup id = some .local ∧ swapsWith (.ListComp elt gs scope p) (some (.Name id np)) l X.env = pure true := by
  replace h := and3 h
  obtain ⟨h1, h⟩ := h
  replace h := and3 h
  obtain ⟨h2, h⟩ := h
  replace h := and3 h
  obtain ⟨h3, h4⟩ := h
  have hk : X.env.scope.kind = .function := by
    rw [o.sc]
    split at h1
    · assumption
    · cases h1
  exact ⟨o.isLoc h2, sw_true hk (o.isLoc h2) h3 (nt h4)⟩
end
theorem chkS_ok (Φ : Fns) : ∀ (n : Nat) (X : Cx) (ck : Ck) (w : Wd) (k : Nat) (c : S) (j : Sj), CtxOk X ck Φ w k → PassesOwn (model X.prog X.w) X.A X.env X.xe → chkS n ck c j = true → HoldsS X Φ w c j := fun n => by
  induction n with
  | zero => intro X ck w k c j o hp h; cases h
  | succ n ih =>
    intro X ck w k c j o hp h
    have ce : ∀ {c : E} {j : Jd}, chk n ck c j = true → Holds X Φ w c j := fun {c j} h => chk_ok Φ n X ck w k c j o h
    cases j with
    | ss xs =>
      cases xs with
      | nil =>
        cases c with
        | skip => exact sS_nil
        | _ => cases h
      | cons x r =>
        cases c with
        | seq a b =>
          obtain ⟨h1, h2⟩ := and3 (show (chkS n ck a (.s x) && chkS n ck b (.ss r)) = true from h)
          exact sS_cons (ih X ck w k a (.s x) o hp h1) (ih X ck w k b (.ss r) o hp h2)
        | _ => cases h
    | s x =>
      cases c with
      | skip =>
        have h : isPass x = true := h
        unfold isPass at h
        split at h
        · exact sS_pass
        · exact sS_doc
        · cases h
      | brk =>
        have h : isBreak x = true := h
        unfold isBreak at h
        split at h
        · exact sS_brk
        · cases h
      | cnt =>
        have h : isCont x = true := h
        unfold isCont at h
        split at h
        · exact sS_cnt
        · cases h
      | asg i e =>
        replace h := onAsg_ok h
        obtain ⟨t, v, p, rfl, h⟩ := h
        replace h := onNameP_ok h
        obtain ⟨id, np, rfl, h⟩ := h
        replace h := and3 h
        obtain ⟨h1, h⟩ := h
        replace h := and3 h
        obtain ⟨h2, h⟩ := h
        obtain ⟨l1, l2⟩ := o.loc h2
        replace h := or3 h
        rcases h with h | h
        · replace h := and3 h
          obtain ⟨h3, h4⟩ := h
          exact sS_asg o.nd (o.ix h1) l1 l2 (ce h4) (swF_ok h3)
        · replace h := and3 h
          obtain ⟨h3, h4⟩ := h
          cases e with
          | comp elt tg src cond own =>
            obtain ⟨elt', tgx, iter, ifs, scope, pp, rfl, c1, c2, c3⟩ := lc_ok o h4
            obtain ⟨s1, s2⟩ := swT_ok (l := p.line) o h3
            have r := sS_setLc c1 c2 c3 (o.ix h1) s1 s2
            rw [ownS_map] at r
            exact r
          | _ => cases h4
      | asgM i e =>
        replace h := onAsg_ok h
        obtain ⟨t, v, p, rfl, h⟩ := h
        replace h := onNameP_ok h
        obtain ⟨id, np, rfl, h⟩ := h
        replace h := and3 h
        obtain ⟨h1, h⟩ := h
        replace h := and3 h
        obtain ⟨h2, h⟩ := h
        obtain ⟨l1, l2⟩ := o.loc h2
        replace h := or3 h
        rcases h with h | h
        · replace h := and3 h
          obtain ⟨h3, h4⟩ := h
          exact sS_asgM o.nd (o.ix h1) l1 l2 (ce h4) (swF_ok h3)
        · replace h := and3 h
          obtain ⟨h3, h4⟩ := h
          cases e with
          | comp elt tg src cond own =>
            obtain ⟨elt', tgx, iter, ifs, scope, pp, rfl, c1, c2, c3⟩ := lc_ok o h4
            obtain ⟨s1, s2⟩ := swT_ok (l := p.line) o h3
            have r := sS_setLcM c1 c2 c3 (o.ix h1) s1 s2
            rw [ownS_map] at r
            exact r
          | _ => cases h4
      | asgs is e =>
        replace h := onAsg_ok h
        obtain ⟨t, v, p, rfl, h⟩ := h
        replace h := onTup_ok h
        obtain ⟨es, j, tp, rfl, h⟩ := h
        replace h := and3 h
        obtain ⟨h1, h⟩ := h
        replace h := and3 h
        obtain ⟨h2, h⟩ := h
        replace h := and3 h
        obtain ⟨h3, h4⟩ := h
        obtain ⟨p1, p2, p3, p4⟩ := tgs_ok o h1
        refine sS_asgs (sG_tup o.K o.calm p1 p2 p3 p4) (ce h4) (by unfold swapsWithSole; exact notComp_sw (nt h3)) ?_
        replace h2 := or3 h2
        rcases h2 with h2 | h2
        · cases v <;> first | rfl | cases h2
        · replace h2 := onTup_ok h2
          obtain ⟨vs, j2, p2, rfl, h2⟩ := h2
          replace h2 := and3 h2
          obtain ⟨k1, h2⟩ := h2
          replace h2 := and3 h2
          obtain ⟨k2, k3⟩ := h2
          rw [swS_ok (by rw [o.sc]; exact k1) ((or3 k2).imp nt id), o.sc]
          cases q : swS ck.sc es vs with
          | none => rfl
          | some z => rw [q] at k3; cases k3
      | two i j a b =>
        replace h := onAsg_ok h
        obtain ⟨t, v, p, rfl, h⟩ := h
        replace h := onTup_ok h
        obtain ⟨ts, kt, pt, rfl, h⟩ := h
        replace h := onTup_ok h
        obtain ⟨vs, k2, pt2, rfl, h⟩ := h
        replace h := on2_ok h
        obtain ⟨t1, t2, rfl, h⟩ := h
        replace h := onName_ok h
        obtain ⟨x1, px, rfl, h⟩ := h
        replace h := onName_ok h
        obtain ⟨x2, py, rfl, h⟩ := h
        replace h := on2_ok h
        obtain ⟨v1, v2, rfl, h⟩ := h
        replace h := and3 h
        obtain ⟨h1, h⟩ := h
        replace h := and3 h
        obtain ⟨h2, h⟩ := h
        replace h := and3 h
        obtain ⟨h3, h⟩ := h
        replace h := and3 h
        obtain ⟨h4, h⟩ := h
        replace h := and3 h
        obtain ⟨h5, h⟩ := h
        replace h := and3 h
        obtain ⟨h6, h⟩ := h
        replace h := and3 h
        obtain ⟨h7, h⟩ := h
        replace h := and3 h
        obtain ⟨h8, h⟩ := h
        replace h := and3 h
        obtain ⟨h9, h⟩ := h
        replace h := and3 h
        obtain ⟨h10, h⟩ := h
        replace h := and3 h
        obtain ⟨h11, h12⟩ := h
        refine sS_two o.calm o.nd (o.ix h1) (o.ix h2) (dc h3) (o.isLoc h4) (o.isLoc h5) (ce h11) (ce h12) (star_cons (nt h9)) (star_cons (nt h10)) ?_
        rw [swS_ok (by rw [o.sc]; exact h6) (.inl (nt h7)), o.sc, dc h8]
      | app i e =>
        replace h := onEx_ok h
        obtain ⟨y, p, rfl, h⟩ := h
        replace h := onMeth_ok h
        obtain ⟨id, p1, m, ap, xs, cp, rfl, hl, h⟩ := h
        replace h := and3 h
        obtain ⟨h1, h⟩ := h
        replace h := and3 h
        obtain ⟨h2, h⟩ := h
        replace h := on1_ok h
        obtain ⟨z, rfl, h⟩ := h
        replace h := and3 h
        obtain ⟨h3, h4⟩ := h
        obtain rfl := dc h1
        obtain ⟨n1, n2, n3, n4⟩ := o.nm h2
        exact sS_app n1 n2 n3 n4 (ce h4) (star_cons (nt h3)) hl
      | setM i a e =>
        replace h := onAsg_ok h
        obtain ⟨t, v, p, rfl, h⟩ := h
        replace h := onSub_ok h
        obtain ⟨y, z, sp, rfl, h⟩ := h
        replace h := onName_ok h
        obtain ⟨id, p1, rfl, h⟩ := h
        replace h := and3 h
        obtain ⟨h1, h⟩ := h
        replace h := and3 h
        obtain ⟨h0, h⟩ := h
        replace h := and3 h
        obtain ⟨h2, h⟩ := h
        replace h := and3 h
        obtain ⟨h3, h4⟩ := h
        obtain ⟨n1, n2, n3, n4⟩ := o.nm h1
        refine sS_setM n1 n2 n3 n4 (ce h3) (ce h4) (by unfold swapsWithSole; exact notComp_sw (nt h2)) ?_ (fun v' => by cases z <;> first | rfl | cases h0)
        cases v <;> rfl
      | aug i oo e =>
        replace h := onAug_ok h
        obtain ⟨t, op, v, p, rfl, h⟩ := h
        replace h := onName_ok h
        obtain ⟨id, p1, rfl, h⟩ := h
        replace h := and3 h
        obtain ⟨h1, h⟩ := h
        replace h := and3 h
        obtain ⟨h2, h⟩ := h
        replace h := and3 h
        obtain ⟨h3, h4⟩ := h
        obtain ⟨l1, l2⟩ := o.loc h3
        exact sS_aug (dc h1) o.nd (o.ix h2) l1 l2 (ce h4)
      | ret e =>
        replace h := onRet_ok h
        obtain ⟨v, p, rfl, h⟩ := h
        cases v with
        | none =>
          cases e with
          | non => exact sS_retN
          | _ => cases h
        | some y => exact sS_ret (ce h)
      | retM i =>
        replace h := onRet_ok h
        obtain ⟨v, p, rfl, h⟩ := h
        cases v with
        | none => cases h
        | some y =>
          replace h := onName_ok h
          obtain ⟨id, p1, rfl, h⟩ := h
          obtain ⟨n1, n2, n3, n4⟩ := o.nm h
          exact sS_retM n1 n2 n3 n4
      | ite e a b =>
        replace h := onIfS_ok h
        obtain ⟨y, q, r, p, rfl, h⟩ := h
        replace h := and3 h
        obtain ⟨h1, h⟩ := h
        replace h := and3 h
        obtain ⟨h2, h3⟩ := h
        exact sS_ite (ce h1) (ih X ck w k a (.ss q) o hp h2) (ih X ck w k b (.ss r) o hp h3)
      | for_ tg src b =>
        replace h := onFor_ok h
        obtain ⟨t, i, q, p, rfl, h⟩ := h
        replace h := and3 h
        obtain ⟨h1, h⟩ := h
        replace h := and3 h
        obtain ⟨h2, h⟩ := h
        replace h := and3 h
        obtain ⟨h3, h4⟩ := h
        exact sS_for hp o.calm (chk_ok Φ n X ck w k src _ o h3) (tg_ok o h1) (ih X ck w k b (.ss q) o hp h4) (notSet_ok (nt h2))
      | while_ e b =>
        replace h := onWhile_ok h
        obtain ⟨y, q, p, rfl, h⟩ := h
        replace h := and3 h
        obtain ⟨h1, h2⟩ := h
        exact sS_while hp (ce h1) (ih X ck w k b (.ss q) o hp h2)
      | drop e =>
        replace h := onEx_ok h
        obtain ⟨y, p, rfl, h⟩ := h
        replace h := and3 h
        obtain ⟨h1, h2⟩ := h
        exact sS_drop (ce h2) (notComp_sw (nt h1))
      | _ => cases h
end HM

namespace HM
open PySem PySem.Spec PyProof.Rows L2

/-! ### a def's start and end -/
theorem startS_len : ∀ (k : Nat) (io : Option Nat) (args : List PyData), (startS k io args).length = args.length
  | _, _, [] => rfl
  | k, io, d :: r => by
    show (_ :: startS (k + 1) io r).length = _
    rw [List.length_cons, List.length_cons, startS_len]
theorem startS_get : ∀ (k : Nat) (io : Option Nat) (args : List PyData) (i : Nat) (s : Slot), (startS k io args)[i]? = some s → ∃ d, args[i]? = some d ∧ ((s = .val d ∧ (io = some (k + i) → ∀ ds, d ≠ .list ds)) ∨ (io = some (k + i) ∧ ∃ ds, d = .list ds ∧ s = .par ds))
  | _, _, [], i, s, h => by cases h
  | k, io, d :: r, 0, s, h => by
    refine ⟨d, rfl, ?_⟩
    cases io with
    | none =>
      have h : Slot.val d = s := Option.some.inj h
      exact .inl ⟨h.symm, fun z => by cases z⟩
    | some p =>
      cases d with
      | list ds =>
        have h : (if p = k then Slot.par ds else .val (.list ds)) = s := Option.some.inj h
        by_cases e : p = k
        · rw [if_pos e] at h; exact .inr ⟨by rw [e]; rfl, ds, rfl, h.symm⟩
        · rw [if_neg e] at h; exact .inl ⟨h.symm, fun z => absurd (Option.some.inj z) e⟩
      | none => exact .inl ⟨(Option.some.inj h).symm, fun _ ds z => by cases z⟩
      | bool b => exact .inl ⟨(Option.some.inj h).symm, fun _ ds z => by cases z⟩
      | int b => exact .inl ⟨(Option.some.inj h).symm, fun _ ds z => by cases z⟩
      | str b => exact .inl ⟨(Option.some.inj h).symm, fun _ ds z => by cases z⟩
      | tuple b => exact .inl ⟨(Option.some.inj h).symm, fun _ ds z => by cases z⟩
      | dict b => exact .inl ⟨(Option.some.inj h).symm, fun _ ds z => by cases z⟩
  | k, io, d :: r, i + 1, s, h => by
    obtain ⟨d', e, q⟩ := startS_get (k + 1) io r i s h
    rw [show k + 1 + i = k + (i + 1) by omega] at q
    exact ⟨d', e, q⟩
section
variable {K : PySem.W.Frag} {G : Hp} {pa : Addr} {F H : Hp}
theorem start_get {N : List Str} {vs : List V} {i : Nat} {v : V} (h : vs[i]? = some v) : (L2.start N vs)[i]? = some (some v) := by
  unfold L2.start
  rw [List.getElem?_append_left (by rw [List.length_map]; exact (List.getElem?_eq_some_iff.mp h).1), List.getElem?_map, h]
  rfl
theorem sim_start {io : Option Nat} {args : List PyData} {vs : List V} {N : List Str} {n : Nat} (fh : FLe F H) (gh : FLe G H) (fg : ∀ a, F a = none ∨ G a = none) (pn : H pa ≠ none) (gp : io ≠ none → G pa = none) (A : ArgsOk K F H pa io args vs) (hn : N.length = n) (hv : vs.length ≤ n) :
    Sim K G pa F H (startS 0 io args ++ List.replicate (n - args.length) .un) (L2.start N vs) := by
  have la := A.len
  have get : ∀ (i : Nat) (s : Slot), (startS 0 io args ++ List.replicate (n - args.length) .un)[i]? = some s → s = .un ∨ (startS 0 io args)[i]? = some s := fun i s h => by
    by_cases c : i < (startS 0 io args).length
    · rw [List.getElem?_append_left c] at h; exact .inr h
    · rw [List.getElem?_append_right (by omega), List.getElem?_replicate] at h
      split at h
      · exact .inl (Option.some.inj h).symm
      · cases h
  have par : ∀ (i : Nat) (s : Slot), (startS 0 io args ++ List.replicate (n - args.length) .un)[i]? = some s → isM s = true → io = some i := fun i s h m => by
    rcases get i s h with rfl | h
    · cases m
    · obtain ⟨d, e, q⟩ := startS_get 0 io args i s h
      rcases q with ⟨rfl, _⟩ | ⟨q, _⟩
      · cases m
      · rw [q, Nat.zero_add]
  refine ⟨fh, gh, fg, pn, ?_, fun i s h => ?_, fun i j s t a hi hj mi mj _ _ => ?_⟩
  · unfold L2.start
    rw [List.length_append, List.length_append, List.length_replicate, List.length_replicate, startS_len, List.length_map, hn]
    omega
  · rcases get i s h with rfl | h
    · trivial
    · obtain ⟨d, e, q⟩ := startS_get 0 io args i s h
      rw [Nat.zero_add] at q
      obtain ⟨v, ev⟩ : ∃ v, vs[i]? = some v := by
        have := (List.getElem?_eq_some_iff.mp e).1
        exact ⟨_, List.getElem?_eq_getElem (by omega)⟩
      rcases q with ⟨rfl, q⟩ | ⟨q, ds, rfl, rfl⟩
      · by_cases c : io = some i
        · obtain ⟨ds, xs, rfl, _⟩ := A.lst i d v c e ev
          exact absurd rfl (q c ds)
        · exact ⟨v, start_get ev, A.val i d v c e ev⟩
      · obtain ⟨ds', xs, e1, rfl, f1, f2, f3⟩ := A.lst i _ v q e ev
        cases e1
        exact ⟨xs, start_get ev, f1, gp (by rw [q]; intro z; cases z), f2, f3⟩
  · have e1 := par i s hi mi
    have e2 := par j t hj mj
    rw [e1] at e2
    exact Option.some.inj e2
theorem left_of {io : Option Nat} {F0 : Hp} {ρ : Env} {σ : L2.St} {ds : List PyData} (l : FLe F0 F) (S : Sim K G pa F H ρ σ) (h : parOf io ρ = some ds) : Left K G pa io F0 F H ds where
  ff := l
  fh := S.fh
  gh := S.gh
  fg := S.fg
  pn := S.pn
  lst := fun n => by
    cases io with
    | none => exact absurd rfl n
    | some p =>
      unfold parOf at h
      dsimp only at h
      cases q : getS ρ p with
      | par es =>
        rw [q] at h
        cases h
        have hr : ρ[p]? = some (.par ds) := by
          unfold getS at q
          rw [List.getD_eq_getElem?_getD] at q
          cases q3 : ρ[p]? with
          | none => rw [q3] at q; cases q
          | some s => rw [q3] at q; exact congrArg some q
        obtain ⟨xs, _, f, g, hx, r⟩ := S.slot p _ hr
        exact ⟨f, xs, hx, r⟩
      | un => rw [q] at h; cases h
      | val d => rw [q] at h; cases h
      | mu d => rw [q] at h; cases h
end
/-! ### all defs of a text -/
structure FnP where
  name : Str
  id : Nat
  st : Stmt
  N : List Str
  ps : List Str
  fd : Fd
def FnP.info (f : FnP) : FnI := ⟨f.name, f.id, f.fd.pars, f.fd.io, f.fd.own⟩
def ckOf (prog : List FnP) (gi : List (Str × Int)) (bl : List Str) (f : FnP) : Ck := ⟨f.N, defScope f.st, true, prog.map FnP.info, gi, bl⟩
/-- what the machine checks of a def -/
structure FnP.Ok (prog : List FnP) (gi : List (Str × Int)) (bl : List Str) (f : FnP) : Prop where
  chk : chkS 200 (ckOf prog gi bl f) f.fd.body (.ss (defBody f.st)) = true
  sc : FnScope f.N f.ps (defScope f.st)
  size : f.N.length = f.fd.size
  pars : f.ps.length = f.fd.pars
  le : f.fd.pars ≤ f.fd.size
  bind : ∀ (kV doc pm : Value) (an : Option Addr) (cdv ct : Value) (us : List Value), us.length = f.ps.length → bindArgs (PySem.W.fnOf f.name f.name (defArgs f.st) (defBody f.st) (defScope f.st) .none kV doc pm an cdv ct) ⟨us, []⟩ = pure (f.ps.zip us)
theorem runFd_len {Φ : Fns} {fd : Fd} {args : List PyData} (h : runFd Φ fd args ≠ .bad) : args.length = fd.pars := by
  unfold runFd at h
  by_cases e : args.length = fd.pars
  · exact e
  · rw [if_neg e] at h; exact absurd rfl h
section
variable {P : Program} {w : World} {K : PySem.W.Frag} {mg : Str → Option Value} {base : Heap} {prog : List FnP} {gi : List (Str × Int)} {bl : List Str} {T : Nat → Option Fd} {ad : Str → Addr} {XR : XRT}
theorem body_ok {Φ : Fns} {f : FnP} (ok : f.Ok prog gi bl) {a : Addr} {fd : FuncData} {k : Nat}
    (F : FunD K f.name f.name (defArgs f.st) (defBody f.st) (defScope f.st) [] [] a fd)
    (fns : ∀ (cdv : Value) (A : Around) (outer : List PySem.Env) (s : Shared) (H : Hp) (E : XK) (g : FnP), g ∈ prog → FnHas (cxOf (L2.CX P w) P w K mg base f.N f.name (defScope f.st) a cdv A outer s H E) XR k g.name (Φ g.id) g.fd.pars g.fd.io g.fd.own ∧ ∀ args, Φ g.id args ≠ .bad → args.length = g.fd.pars)
    (hgi : ∀ g ∈ gi, ∃ t, mg g.1 = some (.int g.2 t)) (hbl : ∀ b ∈ bl, mg b = none) :
    FnOk P w K mg base (L2.CX P w) (k + 1) a fd f.ps (spOf K XR (runFd Φ f.fd) f.fd.io f.fd.own) := by
  refine F.ok ok.sc (fun vs H Q E h => ?_) (fun cdv A outer s H vs Q E hr h => ?_)
  · obtain ⟨F0, G, pa, args, _, _, _, _, _, AO, h⟩ := h
    rw [← AO.len, ok.pars]
    exact runFd_len fun z => by rw [z] at h; exact h
  · obtain ⟨F0, G, pa, args, fh, gh, fg, pn, gp, AO, h⟩ := h
    have la : args.length = f.fd.pars := runFd_len fun z => by rw [z] at h; exact h
    have le := ok.le
    let w' : Wd := ⟨K, G, pa, fun cls d _ H => E cls d H, XR⟩
    let X : Cx := cxOf (L2.CX P w) P w K mg base f.N f.name (defScope f.st) a cdv A outer s H E
    have tk : Takes X w'.W := takes_of (X := X) rfl rfl rfl (E₁ := fun e' s'' => L2.CX P w outer H s E e' s'') rfl
    have hp : PassesOwn (model X.prog X.w) X.A X.env X.xe := passes_of (X := X) (E₁ := fun e' s'' => L2.CX P w outer H s E e' s'') rfl
    have o : CtxOk X (ckOf prog gi bl f) Φ w' k := {
      sc := rfl
      N := rfl
      nd := ok.sc.nd
      calm := rfl
      K := rfl
      tk := tk
      hr := hr
      fns := fun i hi => by
        obtain ⟨g, hg, rfl⟩ := List.mem_map.mp (show i ∈ prog.map FnP.info from hi)
        exact fns cdv A outer s H E g hg
      gi := hgi
      bl := hbl
      fn := fun _ _ => rfl }
    refine ⟨tS Φ w' f.fd.body, chkS_ok Φ 200 X _ w' k f.fd.body (.ss (defBody f.st)) o hp ok.chk, startS 0 f.fd.io args ++ List.replicate (f.fd.size - f.fd.pars) .un, F0, ?_, ?_⟩
    · rw [← la]
      exact sim_start fh gh fg pn gp AO ok.size (by rw [← AO.len]; omega)
    · unfold runFd at h
      rw [if_pos la] at h
      cases q : evS Φ f.fd.body (startS 0 f.fd.io args ++ List.replicate (f.fd.size - f.fd.pars) .un) with
      | bad => rw [q] at h; exact h
      | brk ρ => rw [q] at h; exact h.elim
      | cnt ρ => rw [q] at h; exact h.elim
      | nx ρ =>
        rw [q] at h
        dsimp only at h
        intro F' H' σ l S
        cases q1 : f.fd.own with
        | true => rw [q1, if_pos rfl] at h; exact h.elim
        | false =>
          rw [q1, if_neg Bool.false_ne_true] at h
          cases q2 : parOf f.fd.io ρ with
          | none => rw [q2] at h; exact h.elim
          | some ds => rw [q2] at h; exact h F' H' _ (left_of l S q2) .non
      | ret own d ρ =>
        rw [q] at h
        dsimp only at h
        intro F' H' σ v l S r
        by_cases e : own = f.fd.own
        · rw [if_pos e] at h
          cases q2 : parOf f.fd.io ρ with
          | none => rw [q2] at h; exact h.elim
          | some ds => rw [q2] at h; exact h F' H' v (left_of l S q2) (by rw [← e]; exact r)
        · rw [if_neg e] at h; exact h.elim
      | exc x ρ =>
        rw [q] at h
        dsimp only at h
        intro σ F' H' cls dd l S xr
        cases q2 : parOf f.fd.io ρ with
        | none => rw [q2] at h; exact h.elim
        | some ds => rw [q2] at h; exact h F' H' cls dd (left_of l S q2) xr
/-- every def keeps its promise, whatever the depth of its calls -/
theorem all_ok (hok : ∀ f ∈ prog, f.Ok prog gi bl) (hT : ∀ f ∈ prog, T f.id = some f.fd) (fdo : FnP → FuncData)
    (hF : ∀ f ∈ prog, FunD K f.name f.name (defArgs f.st) (defBody f.st) (defScope f.st) [] [] (ad f.name) (fdo f)) (hm : ∀ f ∈ prog, mg f.name = some (.ref (ad f.name)))
    (hgi : ∀ g ∈ gi, ∃ t, mg g.1 = some (.int g.2 t)) (hbl : ∀ b ∈ bl, mg b = none) :
    ∀ n, ∀ f ∈ prog, FnOk P w K mg base (L2.CX P w) (n + 1) (ad f.name) (fdo f) f.ps (spOf K XR (Phi T n f.id) f.fd.io f.fd.own) := fun n => by
  induction n with
  | zero =>
    intro f hf
    have bad : ∀ vs H Q E, ¬ spOf K XR (Phi T 0 f.id) f.fd.io f.fd.own vs H Q E := fun vs H Q E ⟨F0, G, pa, args, _, _, _, _, _, _, h⟩ => h
    exact (hF f hf).ok (hok f hf).sc (fun vs H Q E h => absurd h (bad vs H Q E)) (fun cdv A outer s H vs Q E hr h => absurd h (bad vs H Q E))
  | succ n ih =>
    intro f hf
    have e : Phi T (n + 1) f.id = runFd (Phi T n) f.fd := by
      funext args
      show (match T f.id with | some fd => runFd (Phi T n) fd args | none => .bad) = _
      rw [hT f hf]
    rw [e]
    refine body_ok (hok f hf) (hF f hf) (fun cdv A outer s H E g hg => ⟨⟨ad g.name, fdo g, g.ps, hm g hg, (hF g hg).kp, (hF g hg).bindsN (hok g hg).bind, (hok g hg).pars, ih g hg⟩, fun args h => ?_⟩) hgi hbl
    cases n with
    | zero => exact absurd rfl h
    | succ m =>
      refine runFd_len (Φ := Phi T m) (fd := g.fd) fun z => h ?_
      show (match T g.id with | some fd => runFd (Phi T m) fd args | none => .bad) = _
      rw [hT g hg]
      exact z
end
end HM

namespace HM
open PySem PySem.Spec PyProof.Rows L2

/-! ### the head: what is seen of the heap behind the top; no list among it -/
def noL (K : PySem.W.Frag) : Bool := K.all fun p => match p.2.cls with
  | .type c => !(c == "list")
  | _ => true
def obsM (fa : List He.Fa) (fn : List He.DefD) (K : PySem.W.Frag) : He.AlD × Bool := (He.obsD fa fn K, noL K)
def obsMG (n : Nat) (fa : List He.Fa) (fn : List He.DefD) (g : Addr → Option Obj) : He.AlD × Bool := obsM fa fn (He.frG g (He.asD g n))
def hookM (n : Nat) (fa : List He.Fa) (fn : List He.DefD) : PySem.W.Hook where
  α := He.AlD × Bool
  obs := fun s => obsMG n fa fn s.heap.get?
  val := fun _ => (He.valD fn, true)
  says := fun _ h => ∃ K : PySem.W.Frag, K.In h ∧ He.SaysD fa fn K ∧ noL K = true
  of := fun _ _ e => ⟨_, He.frG_in, congrArg Prod.fst e, congrArg Prod.snd e⟩
  keeps := fun _ _ _ ⟨K, hK, c⟩ k => ⟨K, PySem.W.Frag.In.keeps hK k, c⟩
theorem obsMG_eq {n : Nat} {fa : List He.Fa} {fn : List He.DefD} {g : Addr → Option Obj} {s : Shared} (h : ∀ a, g a = s.heap.get? a) : obsMG n fa fn g = (hookM n fa fn).obs s := by
  have e : g = s.heap.get? := funext h
  rw [e] <;> rfl
theorem lookup_mem' {α β : Type} [BEq α] [LawfulBEq α] : ∀ {l : List (α × β)} {a : α} {b : β}, l.lookup a = some b → (a, b) ∈ l
  | (x, y) :: r, a, b, h => by
    rw [List.lookup_cons] at h
    cases q : a == x with
    | true =>
      rw [q] at h
      cases h
      rw [eq_of_beq q]
      exact List.mem_cons_self
    | false =>
      rw [q] at h
      exact List.mem_cons_of_mem _ (lookup_mem' h)
/-- nothing of K is a list -/
theorem noL_rd {K : PySem.W.Frag} {H : Hp} {a : Addr} {xs : List V} (n : noL K = true) (h : SqL K H a xs) : Rd H a (.lst xs) := by
  rcases h with h | ⟨o, its, m, e, hc, _⟩
  · exact h
  · exfalso
    have q := List.all_eq_true.mp n _ (lookup_mem' e)
    dsimp only at q
    rw [hc] at q
    revert q
    decide
def FnP.dd (f : FnP) : He.DefD := ⟨(f.name, none), f.name, f.name, defArgs f.st, defBody f.st, defScope f.st, [], []⟩
def faOf (prog : List FnP) (gi : List (Str × Int)) (bl : List Str) : List He.Fa := prog.map (fun f => .glo f.name) ++ gi.map (fun g => .int g.1 g.2) ++ bl.map .free
/-- a promise with no exception -/
theorem FnOk.calm {P : Program} {w : World} {K : PySem.W.Frag} {mg : Str → Option Value} {base : Heap} {k : Nat} {f : Addr} {fd : FuncData} {ps : List Str} {sp : Sp} (F : FnOk P w K mg base (L2.CX P w) k f fd ps sp) :
    FnOk P w K mg base CX0 k f fd ps (fun vs H Q _ => sp vs H Q fun _ _ _ => False) :=
  ⟨fun vs H Q E h => F.len _ _ _ _ h, fun A outer s H args us vs Q E hr he hb hv hs => codeAny_mono (F.run A outer s H args us vs Q _ hr he hb hv hs) fun r s' hq => by
    cases r with
    | ok fl =>
      cases fl with
      | ret u => exact hq
      | next => exact hq
      | brk => exact hq
      | cont => exact hq
    | error e =>
      obtain ⟨a, B, H', cls, d, _, _, _, _, _, _, _, z⟩ := hq
      exact z.elim⟩
def XR0 : XRT := fun _ _ _ _ _ => False
theorem law_fn {P : Program} {w : World} {K : PySem.W.Frag} {h : Heap} {mg : Str → Option Value} {a0 : Addr} {prog : List FnP} {gi : List (Str × Int)} {bl : List Str} {T : Nat → Option Fd} {f0 : FnP} {n most : Nat}
    (X : K.In h) (G : h.Ns mainGlobals mg) (c : He.SaysD (faOf prog gi bl) (prog.map FnP.dd) K) (nl : noL K = true) (hok : ∀ f ∈ prog, f.Ok prog gi bl) (hT : ∀ f ∈ prog, T f.id = some f.fd) (h0 : f0 ∈ prog) (hio : f0.fd.io = none) (hown : f0.fd.own = false) (hps : f0.ps = ([("script" : Str)] : List Str))
    (ha : mg f0.name = some (.ref a0)) (hlaw : ∀ ns : List Int, ns.length ≤ most → Phi T n f0.id [.list (ns.map .int)] = .ok (.bool true) []) :
    ∃ (K : PySem.W.Frag) (fd : FuncData) (sp : Sp), K.In h ∧ (∀ (s : Shared) (u : Value), BindsTo s fd ⟨[u], []⟩ [("script", u)]) ∧
        (∀ (H : Hp) (a : Addr) (ns : List Int), ns.length ≤ most → Only H → SqL K H a (ns.map V.int) → sp [.ref a] H (fun v _ => v = .bl true) fun _ _ _ => False) ∧
        ∀ base : Heap, K.In base → base.Ns mainGlobals mg → FnOk P w K mg base CX0 (n + 1) a0 fd ["script"] sp := by
  have ex : ∀ f ∈ prog, ∃ fd, FunD K f.name f.name (defArgs f.st) (defBody f.st) (defScope f.st) [] [] (He.fAd K (f.name, none)) fd := fun f hf => c.defs (d := f.dd) (List.mem_map.mpr ⟨f, hf, rfl⟩)
  have ⟨fdo, hF⟩ : ∃ fdo : FnP → FuncData, ∀ f ∈ prog, FunD K f.name f.name (defArgs f.st) (defBody f.st) (defScope f.st) [] [] (He.fAd K (f.name, none)) (fdo f) := by
    classical
    refine ⟨fun f => if q : f ∈ prog then (ex f q).choose else (ex f0 h0).choose, fun f hf => ?_⟩
    dsimp only
    rw [dif_pos hf]
    exact (ex f hf).choose_spec
  have hm : ∀ f ∈ prog, mg f.name = some (.ref (He.fAd K (f.name, none))) := fun f hf => He.glo_ok X G (c.facts (f := .glo f.name) (by unfold faOf; exact List.mem_append_left _ (List.mem_append_left _ (List.mem_map.mpr ⟨f, hf, rfl⟩))))
  have hgi : ∀ g ∈ gi, ∃ t, mg g.1 = some (.int g.2 t) := fun g hg => He.int_ok X G (c.facts (f := .int g.1 g.2) (by unfold faOf; exact List.mem_append_left _ (List.mem_append_right _ (List.mem_map.mpr ⟨g, hg, rfl⟩))))
  have hbl : ∀ b ∈ bl, mg b = none := fun b hb => He.free_ok X G (c.facts (f := .free b) (by unfold faOf; exact List.mem_append_right _ (List.mem_map.mpr ⟨b, hb, rfl⟩)))
  have e0 : a0 = He.fAd K (f0.name, none) := by
    have := hm f0 h0
    rw [ha] at this
    injection Option.some.inj this
  refine ⟨K, fdo f0, fun vs H Q _ => spOf K XR0 (Phi T n f0.id) f0.fd.io f0.fd.own vs H Q fun _ _ _ => False, X, fun s v => ?_, ?_, fun base _ _ => ?sp⟩
  case sp =>
    have r := FnOk.calm (all_ok (P := P) (w := w) (base := base) (ad := fun x => He.fAd K (x, none)) (XR := XR0) hok hT fdo hF hm hgi hbl n f0 h0)
    rw [hps] at r
    rw [e0]
    exact r
  · have := (hF f0 h0).bindsA (hok f0 h0).bind s [v] (by rw [hps]; rfl)
    rw [hps] at this
    exact this
  · intro H a ns hl hO hS
    have rd := noL_rd nl hS
    refine ⟨H, fun _ => none, a, [.list (ns.map .int)], FLe.rf, (fun _ _ z => by cases z), fun _ => .inr rfl, ?_, fun _ => rfl, ⟨rfl, fun i d v _ h1 h2 => ?_, fun i d v z => ?_⟩, ?_⟩
    · rcases rd with rd | ⟨o, rd⟩ <;> (rw [rd]; intro z; cases z)
    · cases i with
      | zero =>
        cases h1
        cases h2
        exact .lst rd (RepAll.ofInts ns)
      | succ i => cases h1
    · rw [hio] at z; cases z
    · rw [hlaw ns hl]
      intro F' H' v L r
      rw [hown] at r
      have r : Rep K F' (.bool true) v := r
      cases r
      rfl
end HM

namespace HM
open PySem

/-! ### to run the evaluator by rewriting -/
theorem bin_mul_l {i j : Int} (h : i.natAbs < 2 ^ 64) : bin .mul (.int i) (.int j) = some (.int (i * j)) := if_pos (.inl h)
theorem bin_mul_r {i j : Int} (h : j.natAbs < 2 ^ 64) : bin .mul (.int i) (.int j) = some (.int (i * j)) := if_pos (.inr (.inl h))
theorem bin_mul_g {i j : Int} (h : Sm GB i) (g : Sm GB j) : bin .mul (.int i) (.int j) = some (.int (i * j)) := if_pos (.inr (.inr ⟨h, g⟩))
theorem bin_add (i j : Int) : bin .add (.int i) (.int j) = some (.int (i + j)) := rfl
theorem bin_sub (i j : Int) : bin .sub (.int i) (.int j) = some (.int (i - j)) := rfl
theorem bin_mod {i j : Int} (h : 0 < j) : bin .mod (.int i) (.int j) = some (.int (i % j)) := by
  rw [← Int.fmod_eq_emod_of_nonneg i (Int.le_of_lt h)]
  exact if_pos (by omega)
theorem sm_mono {m n : Nat} {i : Int} (h : Sm m i) (l : m ≤ n) : Sm n i := Nat.lt_of_lt_of_le h (Nat.pow_le_pow_right (by decide) l)
theorem sm64 {i : Int} (h : i.natAbs < 2 ^ 64) : Sm 9000 i := sm_mono (m := 64) h (by decide)
theorem bin_div {i j : Int} (h : 0 < j) (g : j.natAbs < 2 ^ 64) : bin .fdiv (.int i) (.int j) = some (.int (i / j)) := by
  rw [← Int.fdiv_eq_ediv_of_nonneg i (Int.le_of_lt h)]
  exact if_pos ⟨by omega, .inl (sm64 g)⟩
theorem bin_pow {i j : Int} (h : powOk i j) : bin .pow (.int i) (.int j) = some (.int (i ^ j.toNat)) := if_pos h
theorem bin_cat {xs ys : List PyData} (h : xs.length + ys.length ≤ SL) : bin .add (.tuple xs) (.tuple ys) = some (.tuple (xs ++ ys)) := if_pos h
theorem bin_catL {xs ys : List PyData} (h : xs.length + ys.length ≤ SL) : bin .add (.list xs) (.list ys) = some (.list (xs ++ ys)) := if_pos h
theorem runFd_of {Φ : Fns} {fd : Fd} {args : List PyData} (h : args.length = fd.pars) : runFd Φ fd args = match evS Φ fd.body (startS 0 fd.io args ++ List.replicate (fd.size - fd.pars) .un) with
    | .nx ρ => if fd.own then .bad else .ofIo .none (parOf fd.io ρ)
    | .ret own d ρ => if own = fd.own then .ofIo d (parOf fd.io ρ) else .bad
    | .exc x ρ => .exIo x (parOf fd.io ρ)
    | _ => .bad := if_pos h
theorem rb_ok {α β : Type} (a : α) (ρ : Env) (f : α → Env → R β) : (R.ok a ρ).bind f = f a ρ := rfl
theorem ro_ok {α : Type} (a : α) (ρ : Env) (f : α → Env → O) : (R.ok a ρ).out f = f a ρ := rfl
theorem of_some {α : Type} (a : α) (ρ : Env) : R.of (some a) ρ = .ok a ρ := rfl
theorem oof_some (ρ : Env) : O.of (some ρ) = .nx ρ := rfl
theorem getS_0 (a : Slot) (r : Env) : getS (a :: r) 0 = a := rfl
theorem getS_s (a : Slot) (r : Env) (i : Nat) : getS (a :: r) (i + 1) = getS r i := rfl
theorem rd_val {ρ : Env} {i : Nat} {d : PyData} (h : getS ρ i = .val d) : rdVar ρ i = .ok d ρ := by unfold rdVar; rw [h]
/-! ### one step -/
def O.thn : O → (Env → O) → O
  | .nx ρ, f => f ρ
  | o, _ => o
theorem thn_nx (ρ : Env) (f : Env → O) : (O.nx ρ).thn f = f ρ := rfl
theorem thn_ret (b : Bool) (d : PyData) (ρ : Env) (f : Env → O) : (O.ret b d ρ).thn f = .ret b d ρ := rfl
noncomputable def forF (Φ : Fns) (tg : Tg) (b : S) (d : PyData) (ρ : Env) : O := match asgT tg d ρ with
  | some ρ' => evS Φ b ρ'
  | none => .bad
theorem forF_of {Φ : Fns} {tg : Tg} {b : S} {d : PyData} {ρ ρ' : Env} (h : asgT tg d ρ = some ρ') : forF Φ tg b d ρ = evS Φ b ρ' := by unfold forF; rw [h]
section
variable (Φ : Fns) (ρ : Env)
theorem eE_var (i : Nat) : evE Φ (.var i) ρ = rdVar ρ i := rfl
theorem eE_non : evE Φ .non ρ = .ok .none ρ := rfl
theorem eE_bl (b : Bool) : evE Φ (.bl b) ρ = .ok (.bool b) ρ := rfl
theorem eE_int (z : Int) : evE Φ (.int z) ρ = .ok (.int z) ρ := rfl
theorem eE_str (z : Str) : evE Φ (.str z) ρ = .ok (.str z) ρ := rfl
theorem eE_gint (x : Str) (z : Int) : evE Φ (.gint x z) ρ = .ok (.int z) ρ := rfl
theorem eE_nil : evE Φ .nil ρ = .ok (.tuple []) ρ := rfl
theorem eE_cons (a b : E) : evE Φ (.cons a b) ρ = (evE Φ a ρ).bind fun x ρ => (evE Φ b ρ).bind fun y ρ => .ok (.tuple (x :: tupOf y)) ρ := rfl
theorem eE_bin (o : Op2) (a b : E) : evE Φ (.bin o a b) ρ = (evE Φ a ρ).bind fun x ρ => (evE Φ b ρ).bind fun y ρ => .of (bin o x y) ρ := rfl
theorem eE_neg (a : E) : evE Φ (.neg a) ρ = (evE Φ a ρ).bind fun x ρ => match x with | .int i => .ok (.int (-i)) ρ | _ => .bad := rfl
theorem eE_cmp (o : Cm) (a b : E) : evE Φ (.cmp o a b) ρ = (evE Φ a ρ).bind fun x ρ => (evE Φ b ρ).bind fun y ρ => .of ((cmpD o x y).map .bool) ρ := rfl
theorem eE_chain (o p : Cm) (a b c : E) : evE Φ (.chain o p a b c) ρ = (evE Φ a ρ).bind fun x ρ => (evE Φ b ρ).bind fun y ρ => match cmpD o x y with
    | some true => (evE Φ c ρ).bind fun z ρ => .of ((cmpD p y z).map .bool) ρ
    | some false => .ok (.bool false) ρ
    | none => .bad := rfl
theorem eE_not (a : E) : evE Φ (.not a) ρ = (evE Φ a ρ).bind fun x ρ => match x with | .bool b => .ok (.bool (!b)) ρ | _ => .bad := rfl
theorem eE_and (a b : E) : evE Φ (.and a b) ρ = (evE Φ a ρ).bind fun x ρ => match x with | .bool true => evE Φ b ρ | .bool false => .ok (.bool false) ρ | _ => .bad := rfl
theorem eE_or (a b : E) : evE Φ (.or a b) ρ = (evE Φ a ρ).bind fun x ρ => match x with | .bool true => .ok (.bool true) ρ | .bool false => evE Φ b ρ | _ => .bad := rfl
theorem eE_ite (c a b : E) : evE Φ (.ite c a b) ρ = (evE Φ c ρ).bind fun x ρ => match x with | .bool true => evE Φ a ρ | .bool false => evE Φ b ρ | _ => .bad := rfl
theorem eE_tup (es : E) : evE Φ (.tup es) ρ = (evE Φ es ρ).bind fun x ρ => .ok (.tuple (tupOf x)) ρ := rfl
theorem eE_lst (es : E) : evE Φ (.lst es) ρ = (evE Φ es ρ).bind fun x ρ => .ok (.list (tupOf x)) ρ := rfl
theorem eE_ix (a b : E) : evE Φ (.ix a b) ρ = (evE Φ a ρ).bind fun x ρ => (evE Φ b ρ).bind fun y ρ => .of (ixD x y) ρ := rfl
theorem eE_sl (a lo hi : E) : evE Φ (.sl a lo hi) ρ = (evE Φ a ρ).bind fun x ρ => (evE Φ lo ρ).bind fun y ρ => if slOk lo.isNon y then (evE Φ hi ρ).bind fun z ρ => if slOk hi.isNon z then .of (slD x y z) ρ else .bad else .bad := rfl
theorem eE_rev (a : E) : evE Φ (.rev a) ρ = (evE Φ a ρ).bind fun x ρ => .of (revD x) ρ := rfl
theorem eE_call (f : Nat) (es : E) : evE Φ (.call f es) ρ = (evE Φ es ρ).bind fun x ρ => match Φ f (tupOf x) with
    | .ok d _ => .ok d ρ
    | .exc z _ => .exc z ρ
    | .bad => .bad := rfl
theorem eE_callio (f p i : Nat) (es : E) : evE Φ (.callio f p i es) ρ = if (mutS (getS ρ i)).isSome then (evE Φ es ρ).bind fun x ρ => match mutS (getS ρ i) with
    | none => .bad
    | some ds => match Φ f (insAt p (.list ds) (tupOf x)) with
      | .ok d ds' => .ok d (ρ.set i (remut (getS ρ i) ds'))
      | .exc z ds' => .exc z (ρ.set i (remut (getS ρ i) ds'))
      | .bad => .bad
    else .bad := rfl
theorem eE_bi (f : Bi) (es : E) : evE Φ (.bi f es) ρ = (evE Φ es ρ).bind fun x ρ => .of (biD f (tupOf x)) ρ := rfl
theorem eE_isi (a : E) (t : Ty) : evE Φ (.isi a t) ρ = (evE Φ a ρ).bind fun x ρ => .ok (.bool (isTy t x)) ρ := rfl
theorem eE_rng (a : E) : evE Φ (.rng a) ρ = (evE Φ a ρ).bind fun x ρ => .of (rngD (.int 0) x) ρ := rfl
theorem eE_rng2 (a b : E) : evE Φ (.rng2 a b) ρ = (evE Φ a ρ).bind fun x ρ => (evE Φ b ρ).bind fun y ρ => .of (rngD x y) ρ := rfl
theorem eE_enum (a : E) : evE Φ (.enum a) ρ = (evE Φ a ρ).bind fun x ρ => .of (enumD x) ρ := rfl
theorem eE_zip (a b : E) : evE Φ (.zip a b) ρ = (evE Φ a ρ).bind fun x ρ => (evE Φ b ρ).bind fun y ρ => .of (zipD x y) ρ := rfl
theorem eE_comp (elt src cond : E) (tg : Tg) (own : List Nat) : evE Φ (.comp elt tg src cond own) ρ = (evE Φ src ρ).bind fun x ρ => match itemsD x, ownOk own ρ with
    | some ds, true => (compGo (turnC own tg (evE Φ cond) (evE Φ elt)) ds ρ).bind fun ys ρ5 => .ok (.list ys) (giveS own ρ ρ5)
    | _, _ => .bad := rfl
theorem eE_lrng (a : E) : evE Φ (.lrng a) ρ = (evE Φ a ρ).bind fun x ρ => match x with | .list ds => .ok (.list ds) ρ | _ => .bad := rfl
theorem eE_trng (a : E) : evE Φ (.trng a) ρ = (evE Φ a ρ).bind fun x ρ => match x with | .list ds => .ok (.tuple ds) ρ | _ => .bad := rfl
theorem eE_edic : evE Φ .edic ρ = .ok (.dict []) ρ := rfl
theorem eE_lenM (i : Nat) : evE Φ (.lenM i) ρ = match mutS (getS ρ i) with | some ds => .ok (.int ds.length) ρ | none => .bad := rfl
theorem eE_ixM (i : Nat) (e : E) : evE Φ (.ixM i e) ρ = if (mutS (getS ρ i)).isSome then (evE Φ e ρ).bind fun x ρ => match mutS (getS ρ i), x with
    | some ds, .int k => .of (ixAt ds k) ρ
    | _, _ => .bad
    else .bad := rfl
theorem eE_nilM (i : Nat) : evE Φ (.nilM i) ρ = match mutS (getS ρ i) with | some ds => .ok (.bool ds.isEmpty) ρ | none => .bad := rfl
theorem eE_popM (i : Nat) (e : E) : evE Φ (.popM i e) ρ = if (mutS (getS ρ i)).isSome then (evE Φ e ρ).bind fun x ρ => match mutS (getS ρ i), x with
    | some ds, .int k => (match ds[k.toNat]? with
      | some d => if 0 ≤ k ∧ k < 2 ^ 63 then .ok d (ρ.set i (remut (getS ρ i) (ds.eraseIdx k.toNat))) else .bad
      | none => .bad)
    | _, _ => .bad
    else .bad := rfl
theorem eS_skip : evS Φ .skip ρ = .nx ρ := rfl
theorem eS_seq (a b : S) : evS Φ (.seq a b) ρ = (evS Φ a ρ).thn (evS Φ b) := by
  show (match evS Φ a ρ with | .nx ρ' => evS Φ b ρ' | o => o) = _
  cases evS Φ a ρ <;> rfl
theorem eS_asg (i : Nat) (e : E) : evS Φ (.asg i e) ρ = (evE Φ e ρ).out fun d ρ => O.of (putS ρ i (.val d)) := rfl
theorem eS_asgM (i : Nat) (e : E) : evS Φ (.asgM i e) ρ = (evE Φ e ρ).out fun d ρ => match d with | .list ds => O.of (putS ρ i (.mu ds)) | _ => .bad := rfl
theorem eS_asgs (is : List Nat) (e : E) : evS Φ (.asgs is e) ρ = (evE Φ e ρ).out fun d ρ => O.of (asgT (.many is) d ρ) := rfl
theorem eS_two (i j : Nat) (a b : E) : evS Φ (.two i j a b) ρ = (evE Φ a ρ).out fun x ρ => (evE Φ b ρ).out fun y ρ => O.of ((putS ρ i (.val x)).bind fun ρ => putS ρ j (.val y)) := rfl
theorem eS_app (i : Nat) (e : E) : evS Φ (.app i e) ρ = if (mutS (getS ρ i)).isSome then (evE Φ e ρ).out fun d ρ => match mutS (getS ρ i) with
    | some ds => if ds.length < SL then .nx (ρ.set i (remut (getS ρ i) (ds ++ [d]))) else .bad
    | none => .bad
    else .bad := rfl
theorem eS_setM (i : Nat) (a e : E) : evS Φ (.setM i a e) ρ = (evE Φ e ρ).out fun d ρ => if (mutS (getS ρ i)).isSome then (evE Φ a ρ).out fun k ρ => match mutS (getS ρ i), k with
    | some ds, .int k => (match setAt ds k d with
      | some ds' => .nx (ρ.set i (remut (getS ρ i) ds'))
      | none => .bad)
    | _, _ => .bad
    else .bad := rfl
theorem eS_aug (i : Nat) (o : Op2) (e : E) : evS Φ (.aug i o e) ρ = match getS ρ i with
    | .val (.int x) => (evE Φ e ρ).out fun y ρ => match bin o (.int x) y with
      | some z => O.of (putS ρ i (.val z))
      | none => .bad
    | _ => .bad := rfl
theorem eS_ret (e : E) : evS Φ (.ret e) ρ = (evE Φ e ρ).out fun d ρ => .ret false d ρ := rfl
theorem eS_retM (i : Nat) : evS Φ (.retM i) ρ = match getS ρ i with
    | .mu ds => .ret true (.list ds) ρ
    | _ => .bad := rfl
theorem eS_ite (c : E) (a b : S) : evS Φ (.ite c a b) ρ = (evE Φ c ρ).out fun x ρ => match x with | .bool true => evS Φ a ρ | .bool false => evS Φ b ρ | _ => .bad := rfl
theorem eS_drop (e : E) : evS Φ (.drop e) ρ = (evE Φ e ρ).out fun _ ρ => .nx ρ := rfl
theorem eS_brk : evS Φ .brk ρ = .brk ρ := rfl
theorem eS_cnt : evS Φ .cnt ρ = .cnt ρ := rfl
theorem eS_for (tg : Tg) (src : E) (b : S) : evS Φ (.for_ tg src b) ρ = (evE Φ src ρ).out fun x ρ => match itemsD x with
    | some ds => forGo (forF Φ tg b) ds ρ
    | none => .bad := rfl
theorem eS_while (c : E) (b : S) : evS Φ (.while_ c b) ρ = whileD (evE Φ c) (evS Φ b) ρ := rfl
end
/-! ### loops -/
theorem forGo_inv {f : PyData → Env → O} {ds : List PyData} (I : Nat → Env → Prop) : ∀ {ρ : Env}, I 0 ρ → (∀ i d ρ, ds[i]? = some d → I i ρ → ∃ ρ', (f d ρ = .nx ρ' ∨ f d ρ = .cnt ρ') ∧ I (i + 1) ρ') → ∃ ρ', forGo f ds ρ = .nx ρ' ∧ I ds.length ρ' := by
  induction ds generalizing I with
  | nil => intro ρ h _; exact ⟨ρ, rfl, h⟩
  | cons d ds ih =>
    intro ρ h0 hs
    obtain ⟨ρ1, e, h1⟩ := hs 0 d ρ rfl h0
    obtain ⟨ρ2, e2, h2⟩ := ih (fun i => I (i + 1)) h1 fun i d ρ hd hi => hs (i + 1) d ρ hd hi
    refine ⟨ρ2, ?_, h2⟩
    rw [forGo]
    rcases e with e | e <;> (rw [e]; exact e2)
/-- .. that may end early with o -/
theorem forGo_inv' {f : PyData → Env → O} {ds : List PyData} (P : O → Prop) (I : Nat → Env → Prop) : ∀ {ρ : Env}, I 0 ρ → (∀ i d ρ, ds[i]? = some d → I i ρ → (∃ ρ', (f d ρ = .nx ρ' ∨ f d ρ = .cnt ρ') ∧ I (i + 1) ρ') ∨ (∃ ρ', f d ρ = .brk ρ' ∧ P (.nx ρ')) ∨ (∃ o d' ρ', f d ρ = .ret o d' ρ' ∧ P (.ret o d' ρ')) ∨ (∃ x ρ', f d ρ = .exc x ρ' ∧ P (.exc x ρ'))) →
    (∀ ρ, I ds.length ρ → P (.nx ρ)) → P (forGo f ds ρ) := by
  induction ds generalizing I with
  | nil => intro ρ h _ hd; exact hd ρ h
  | cons d ds ih =>
    intro ρ h0 hs hd
    rw [forGo]
    rcases hs 0 d ρ rfl h0 with ⟨ρ1, e, h1⟩ | ⟨ρ1, e, h1⟩ | ⟨o, d', ρ1, e, h1⟩ | ⟨x, ρ1, e, h1⟩
    · have r := ih (fun i => I (i + 1)) h1 (fun i d ρ hd hi => hs (i + 1) d ρ hd hi) hd
      rcases e with e | e <;> (rw [e]; exact r)
    · rw [e]; exact h1
    · rw [e]; exact h1
    · rw [e]; exact h1
theorem whileN_det {c : Env → R PyData} {f : Env → O} : ∀ {m n : Nat} {ρ : Env} {o o' : O}, whileN c f m ρ = some o → whileN c f n ρ = some o' → o = o' := fun {m} => by
  induction m with
  | zero => intro n ρ o o' h; cases h
  | succ m ih =>
    intro n ρ o o' h g
    cases n with
    | zero => cases g
    | succ n =>
      rw [whileN] at h g
      cases q : c ρ with
      | bad => rw [q] at h g; cases h; cases g; rfl
      | exc x ρ1 => rw [q] at h g; cases h; cases g; rfl
      | ok d ρ1 =>
        rw [q] at h g
        cases d with
        | bool b =>
          cases b with
          | false => cases h; cases g; rfl
          | true =>
            dsimp only at h g
            cases q2 : f ρ1 with
            | nx ρ' => rw [q2] at h g; exact ih h g
            | cnt ρ' => rw [q2] at h g; exact ih h g
            | brk ρ' => rw [q2] at h g; cases h; cases g; rfl
            | ret a b ρ' => rw [q2] at h g; cases h; cases g; rfl
            | exc a ρ' => rw [q2] at h g; cases h; cases g; rfl
            | bad => rw [q2] at h g; cases h; cases g; rfl
        | _ => cases h; cases g; rfl
theorem whileD_of {c : Env → R PyData} {f : Env → O} {ρ : Env} {n : Nat} {o : O} (h : whileN c f n ρ = some o) : whileD c f ρ = o := by
  have hx : ∃ n o, whileN c f n ρ = some o := ⟨n, o, h⟩
  unfold whileD
  rw [dif_pos hx]
  exact whileN_det hx.choose_spec.choose_spec h
theorem whileD_stop {c : Env → R PyData} {f : Env → O} {ρ ρ1 : Env} (h : c ρ = .ok (.bool false) ρ1) : whileD c f ρ = .nx ρ1 := whileD_of (n := 1) (by rw [whileN, h])
/-- a while, by a measure and a word -/
theorem whileN_inv {c : Env → R PyData} {f : Env → O} (P : O → Prop) (I : Nat → Env → Prop) (hs : ∀ m ρ, I m ρ → (∃ ρ1, c ρ = .ok (.bool false) ρ1 ∧ P (.nx ρ1)) ∨ (∃ ρ1, c ρ = .ok (.bool true) ρ1 ∧
    ((∃ ρ' m', (f ρ1 = .nx ρ' ∨ f ρ1 = .cnt ρ') ∧ m' < m ∧ I m' ρ') ∨ (∃ ρ', f ρ1 = .brk ρ' ∧ P (.nx ρ')) ∨ (∃ o d ρ', f ρ1 = .ret o d ρ' ∧ P (.ret o d ρ'))))) :
    ∀ m ρ, I m ρ → ∃ n o, whileN c f n ρ = some o ∧ P o := fun m => by
  induction m using Nat.strongRecOn with
  | ind m ih =>
    intro ρ h
    rcases hs m ρ h with ⟨ρ1, e, p⟩ | ⟨ρ1, e, q⟩
    · exact ⟨1, _, by rw [whileN, e], p⟩
    · rcases q with ⟨ρ', m', e2, l, i⟩ | ⟨ρ', e2, p⟩ | ⟨o, d, ρ', e2, p⟩
      · obtain ⟨n, o, e3, p⟩ := ih m' l ρ' i
        refine ⟨n + 1, o, ?_, p⟩
        rw [whileN, e]
        dsimp only
        rcases e2 with e2 | e2 <;> (rw [e2]; exact e3)
      · exact ⟨1, _, by rw [whileN, e]; dsimp only; rw [e2], p⟩
      · exact ⟨1, _, by rw [whileN, e]; dsimp only; rw [e2], p⟩
theorem whileD_inv {c : Env → R PyData} {f : Env → O} (P : O → Prop) (I : Nat → Env → Prop) (hs : ∀ m ρ, I m ρ → (∃ ρ1, c ρ = .ok (.bool false) ρ1 ∧ P (.nx ρ1)) ∨ (∃ ρ1, c ρ = .ok (.bool true) ρ1 ∧
    ((∃ ρ' m', (f ρ1 = .nx ρ' ∨ f ρ1 = .cnt ρ') ∧ m' < m ∧ I m' ρ') ∨ (∃ ρ', f ρ1 = .brk ρ' ∧ P (.nx ρ')) ∨ (∃ o d ρ', f ρ1 = .ret o d ρ' ∧ P (.ret o d ρ'))))) (m : Nat) (ρ : Env) (h : I m ρ) : P (whileD c f ρ) := by
  obtain ⟨n, o, e, p⟩ := whileN_inv P I hs m ρ h
  rw [whileD_of e]
  exact p
/-! ### comprehensions -/
/-- each turn gives g d and leaves the names as they were but for its own -/
theorem compGo_map {f : PyData → Env → R (Option PyData)} {g : PyData → Option PyData} (I : Env → Prop) : ∀ {ds : List PyData} {ρ : Env}, I ρ → (∀ d ∈ ds, ∀ ρ, I ρ → ∃ ρ', f d ρ = .ok (g d) ρ' ∧ I ρ') → ∃ ρ', compGo f ds ρ = .ok (ds.filterMap g) ρ' ∧ I ρ'
  | [], ρ, h, _ => ⟨ρ, rfl, h⟩
  | d :: ds, ρ, h, hs => by
    obtain ⟨ρ1, e1, h1⟩ := hs d List.mem_cons_self ρ h
    obtain ⟨ρ2, e2, h2⟩ := compGo_map (g := g) I h1 fun d hd => hs d (List.mem_cons_of_mem _ hd)
    refine ⟨ρ2, ?_, h2⟩
    rw [compGo, e1]
    dsimp only
    rw [e2, List.filterMap_cons]
    cases g d <;> rfl
/-! ### draws -/
def nx : List Int → Int
  | [] => 0
  | d :: _ => d
def tl : List Int → List Int
  | [] => []
  | _ :: r => r
def Draws (ds : List Int) : Prop := ∀ d ∈ ds, 0 ≤ d ∧ d < 2147483629
theorem Draws.tl {ds : List Int} (h : Draws ds) : Draws (HM.tl ds) := by
  cases ds with
  | nil => exact h
  | cons d r => exact fun x hx => h x (List.mem_cons_of_mem _ hx)
theorem Draws.nx {ds : List Int} (h : Draws ds) : 0 ≤ HM.nx ds ∧ HM.nx ds < 2147483629 := by
  cases ds with
  | nil => exact ⟨Int.le_refl _, by decide⟩
  | cons d r => exact h d List.mem_cons_self
def mixedI (c k : Int) : Int := ((c % 2147483647 * 48271 + 7919 * k * k + 104729) % 2147483647) * ((c % 2147483647 * 48271 + 7919 * k * k + 104729) % 2147483647) % 2147483629
theorem mixedI_b (c k : Int) : 0 ≤ mixedI c k ∧ mixedI c k < 2147483629 := ⟨Int.emod_nonneg _ (by decide), Int.emod_lt_of_pos _ (by decide)⟩
end HM

namespace HM
open PySem
/-- common_of -/
def fd1 : Fd := ⟨2, 2, none, false, (.seq (.asg 0 (.bi .abs (.cons (.var 0) .nil))) (.seq (.asg 1 (.bi .abs (.cons (.var 1) .nil))) (.seq (.while_ (.cmp .gt (.var 1) (.int 0)) (.seq (.two 0 1 (.var 1) (.bin .mod (.var 0) (.var 1))) .skip)) (.seq (.ret (.var 0)) .skip))))⟩
/-- common_in -/
def fd2 : Fd := ⟨1, 3, none, false, (.seq (.asg 1 (.int 0)) (.seq (.for_ (.one 2) (.var 0) (.seq (.asg 1 (.call 1 (.cons (.var 1) (.cons (.var 2) .nil)))) .skip)) (.seq (.ret (.var 1)) .skip)))⟩
/-- _law_mixed -/
def fd4 : Fd := ⟨2, 3, none, false, (.seq (.asg 2 (.bin .mod (.bin .add (.bin .add (.bin .mul (.bin .mod (.var 0) (.int 2147483647)) (.int 48271)) (.bin .mul (.bin .mul (.int 7919) (.var 1)) (.var 1))) (.int 104729)) (.int 2147483647))) (.seq (.ret (.bin .mod (.bin .mul (.var 2) (.var 2)) (.int 2147483629))) .skip))⟩
/-- _law_draws -/
def fd5 : Fd := ⟨1, 5, none, true, (.seq (.asgM 1 (.lst .nil)) (.seq (.for_ (.one 2) (.rng (.bi .min2 (.cons (.bi .len (.cons (.var 0) .nil)) (.cons (.int 63) .nil)))) (.seq (.asg 3 (.bi .abs (.cons (.ix (.var 0) (.var 2)) .nil))) (.seq (.ite (.cmp .lt (.var 3) (.bin .pow (.int 10) (.int 18))) (.seq (.for_ (.one 4) (.rng (.int 12)) (.seq (.app 1 (.call 4 (.cons (.call 4 (.cons (.var 3) (.cons (.bin .add (.bin .mul (.int 3) (.var 4)) (.int 1)) .nil))) (.cons (.bin .add (.bin .add (.var 4) (.var 2)) (.int 2)) .nil)))) .skip)) .skip) .skip) (.seq (.while_ (.and (.cmp .ge (.var 3) (.bin .pow (.int 10) (.int 18))) (.cmp .lt (.lenM 1) (.int 900))) (.seq (.app 1 (.bin .mod (.var 3) (.int 2147483629))) (.seq (.asg 3 (.bin .fdiv (.var 3) (.int 2147483629))) .skip))) (.seq (.ite (.cmp .ge (.var 3) (.int 2147483629)) (.seq (.app 1 (.bin .mod (.var 3) (.int 2147483629))) .skip) .skip) .skip))))) (.seq (.retM 1) .skip)))⟩
/-- _law_next -/
def fd6 : Fd := ⟨1, 1, some 0, false, (.seq (.ite (.nilM 0) (.seq (.ret (.int 0)) .skip) .skip) (.seq (.ret (.popM 0 (.int 0))) .skip))⟩
/-- _law_gcd -/
def fd7 : Fd := ⟨2, 2, none, false, (.seq (.while_ (.cmp .ne (.var 1) (.int 0)) (.seq (.two 0 1 (.var 1) (.bin .mod (.var 0) (.var 1))) .skip)) (.seq (.ret (.bi .abs (.cons (.var 0) .nil))) .skip))⟩
/-- _law_lowest -/
def fd8 : Fd := ⟨2, 4, none, false, (.seq (.asg 2 (.var 1)) (.seq (.for_ (.one 3) (.var 0) (.seq (.asg 2 (.call 7 (.cons (.var 2) (.cons (.var 3) .nil)))) .skip)) (.seq (.ite (.cmp .lt (.var 1) (.int 0)) (.seq (.asg 2 (.bin .sub (.int 0) (.bi .abs (.cons (.var 2) .nil)))) .skip) .skip) (.seq (.ret (.bin .add (.bi .tuple (.cons (.comp (.bin .fdiv (.var 3) (.var 2)) (.one 3) (.var 0) (.bl true) [3]) .nil)) (.tup (.cons (.bin .fdiv (.var 1) (.var 2)) .nil)))) .skip))))⟩
/-- _law_far -/
def fd14 : Fd := ⟨1, 3, none, false, (.seq (.asg 1 (.ix (.lst (.cons (.int 0) (.cons (.int 1) (.cons (.int 9) (.cons (.int 1000) (.cons (.bin .pow (.int 10) (.int 6)) (.cons (.bin .pow (.int 10) (.int 20)) (.cons (.bin .mul (.bin .pow (.int 10) (.int 60)) (.bin .pow (.int 10) (.int 37))) .nil)))))))) (.bin .mod (.var 0) (.int 7)))) (.seq (.asg 2 (.bin .add (.bin .fdiv (.bin .mul (.bin .add (.bin .mul (.bin .fdiv (.var 0) (.int 7)) (.int 7919)) (.int 1)) (.var 1)) (.int 1000)) (.bin .mod (.bin .fdiv (.var 0) (.int 7)) (.int 10)))) (.seq (.ret (.bin .mul (.var 2) (.ix (.lst (.cons (.int 1) (.cons (.neg (.int 1)) .nil))) (.bin .mod (.bin .fdiv (.var 0) (.int 70)) (.int 2))))) .skip)))⟩
/-- _law_neighbours -/
def fd16 : Fd := ⟨0, 2, none, false, (.seq (.asgs [0, 1] (.tup (.cons (.int 1) (.cons (.int 1) .nil)))) (.seq (.while_ (.cmp .lt (.var 1) (.bin .pow (.bin .pow (.int 10) (.int 58)) (.int 5))) (.seq (.two 0 1 (.var 1) (.bin .add (.var 0) (.var 1))) .skip)) (.seq (.ret (.tup (.cons (.var 0) (.cons (.var 1) .nil)))) .skip)))⟩
/-- spot_at -/
def fd30 : Fd := ⟨2, 4, none, false, (.seq (.asg 2 (.call 1 (.cons (.call 2 (.cons (.var 0) .nil)) (.cons (.var 1) .nil)))) (.seq (.ite (.cmp .lt (.var 1) (.int 0)) (.seq (.asg 2 (.bin .sub (.int 0) (.var 2))) .skip) .skip) (.seq (.ret (.bin .add (.bi .tuple (.cons (.comp (.bin .fdiv (.var 3) (.var 2)) (.one 3) (.var 0) (.bl true) [3]) .nil)) (.tup (.cons (.bin .fdiv (.var 1) (.var 2)) .nil)))) .skip)))⟩
/-- _law_same -/
def fd31 : Fd := ⟨2, 4, none, false, (.seq (.ite (.or (.cmp .ne (.isi (.var 0) .tuple) (.isi (.var 1) .tuple)) (.cmp .ne (.isi (.var 0) .list) (.isi (.var 1) .list))) (.seq (.ret (.bl false)) .skip) .skip) (.seq (.ite (.or (.isi (.var 0) .tuple) (.isi (.var 0) .list)) (.seq (.ite (.cmp .ne (.bi .len (.cons (.var 0) .nil)) (.bi .len (.cons (.var 1) .nil))) (.seq (.ret (.bl false)) .skip) .skip) (.seq (.ret (.bi .all (.cons (.comp (.call 31 (.cons (.var 2) (.cons (.var 3) .nil))) (.many [2, 3]) (.zip (.var 0) (.var 1)) (.bl true) [2, 3]) .nil))) .skip)) .skip) (.seq (.ret (.and (.cmp .eq (.isi (.var 0) .bool) (.isi (.var 1) .bool)) (.cmp .eq (.var 0) (.var 1)))) .skip)))⟩
/-- law -/
def fd32 : Fd := ⟨1, 11, none, false, (.seq (.asgM 1 (.call 5 (.cons (.var 0) .nil))) (.seq (.for_ (.one 2) (.rng (.bin .add (.int 4) (.bi .min2 (.cons (.int 30) (.cons (.bin .mul (.int 2) (.bi .len (.cons (.var 0) .nil))) .nil))))) (.seq (.asg 3 (.bin .add (.int 1) (.bin .mod (.callio 6 0 1 .nil) (.int 3)))) (.seq (.asg 4 (.comp (.call 14 (.cons (.callio 6 0 1 .nil) .nil)) (.one 10) (.rng (.var 3)) (.bl true) [10])) (.seq (.asg 5 (.ix (.lst (.cons (.call 14 (.cons (.callio 6 0 1 .nil) .nil)) (.cons (.bin .add (.int 1) (.bin .mod (.callio 6 0 1 .nil) (.int 70))) .nil))) (.bin .mod (.callio 6 0 1 .nil) (.int 2)))) (.seq (.ite (.cmp .eq (.var 5) (.int 0)) (.seq (.asg 5 (.neg (.int 1))) .skip) .skip) (.seq (.asg 6 (.bin .add (.int 1) (.bin .mod (.callio 6 0 1 .nil) (.ix (.lst (.cons (.int 1) (.cons (.int 12) (.cons (.bin .pow (.int 10) (.int 6)) .nil)))) (.bin .mod (.callio 6 0 1 .nil) (.int 3)))))) (.seq (.asg 6 (.bin .mul (.var 6) (.ix (.lst (.cons (.int 1) (.cons (.neg (.int 1)) .nil))) (.bin .mod (.callio 6 0 1 .nil) (.int 2))))) (.seq (.asg 7 (.call 8 (.cons (.var 4) (.cons (.var 5) .nil)))) (.seq (.ite (.not (.call 31 (.cons (.call 30 (.cons (.bi .tuple (.cons (.var 4) .nil)) (.cons (.var 5) .nil))) (.cons (.var 7) .nil)))) (.seq (.ret (.bl false)) .skip) .skip) (.seq (.ite (.not (.call 31 (.cons (.call 30 (.cons (.bi .tuple (.cons (.comp (.bin .mul (.var 6) (.var 8)) (.one 8) (.var 4) (.bl true) [8]) .nil)) (.cons (.bin .mul (.var 6) (.var 5)) .nil))) (.cons (.var 7) .nil)))) (.seq (.ret (.bl false)) .skip) .skip) (.seq (.ite (.not (.call 31 (.cons (.call 30 (.cons (.bin .mul (.tup (.cons (.int 0) .nil)) (.var 3)) (.cons (.var 5) .nil))) (.cons (.bin .add (.bin .mul (.tup (.cons (.int 0) .nil)) (.var 3)) (.tup (.cons (.int 1) .nil))) .nil)))) (.seq (.ret (.bl false)) .skip) .skip) .skip))))))))))) (.seq (.asgs [8, 9] (.call 16 .nil)) (.seq (.ret (.call 31 (.cons (.call 30 (.cons (.tup (.cons (.bin .mul (.int 2) (.var 8)) .nil)) (.cons (.bin .mul (.int 2) (.var 9)) .nil))) (.cons (.tup (.cons (.var 8) (.cons (.var 9) .nil))) .nil)))) .skip))))⟩
theorem cmp_ne_int (i j : Int) : cmpD .ne (.int i) (.int j) = some (!decide (i = j)) := rfl
theorem cmp_eq_int (i j : Int) : cmpD .eq (.int i) (.int j) = some (decide (i = j)) := rfl
theorem cmp_eq_bool (i j : Bool) : cmpD .eq (.bool i) (.bool j) = some (i == j) := rfl
theorem cmp_ne_bool (i j : Bool) : cmpD .ne (.bool i) (.bool j) = some (!(i == j)) := rfl
theorem cmp_lt_int (i j : Int) : cmpD .lt (.int i) (.int j) = some (decide (i < j)) := rfl
theorem cmp_gt_int (i j : Int) : cmpD .gt (.int i) (.int j) = some (decide (j < i)) := rfl
theorem cmp_le_int (i j : Int) : cmpD .le (.int i) (.int j) = some (decide (i ≤ j)) := rfl
theorem cmp_ge_int (i j : Int) : cmpD .ge (.int i) (.int j) = some (decide (j ≤ i)) := rfl
theorem bin_mod0 {i j : Int} (h : j ≠ 0) : bin .mod (.int i) (.int j) = some (.int (i.fmod j)) := if_pos h
theorem fmod_lt {a b : Int} (h : b ≠ 0) : (a.fmod b).natAbs < b.natAbs := by
  rcases Int.lt_or_gt_of_ne h with h | h
  · have e := Int.neg_fmod_neg a b
    have h1 := Int.fmod_lt_of_pos (-a) (show 0 < -b by omega)
    have h2 := Int.fmod_nonneg_of_pos (-a) (show 0 < -b by omega)
    omega
  · have h1 := Int.fmod_lt_of_pos a h
    have h2 := Int.fmod_nonneg_of_pos a h
    omega
theorem gcd_fmod (a b : Int) : Int.gcd b (a.fmod b) = Int.gcd a b := by
  rw [Int.fmod_def, Int.mul_comm, Int.gcd_sub_mul_right_right, Int.gcd_comm]
theorem run7 (Φ : Fns) (a b : Int) : runFd Φ fd7 [.int a, .int b] = .ok (.int (Int.gcd a b)) [] := by
  have w : ∃ g : Int, evS Φ (.while_ (.cmp .ne (.var 1) (.int 0)) (.seq (.two 0 1 (.var 1) (.bin .mod (.var 0) (.var 1))) .skip)) [.val (.int a), .val (.int b)] = .nx [.val (.int g), .val (.int 0)] ∧ g.natAbs = Int.gcd a b := by
    rw [eS_while]
    refine whileD_inv (P := fun o => ∃ g : Int, o = .nx [.val (.int g), .val (.int 0)] ∧ g.natAbs = Int.gcd a b) (I := fun m ρ => ∃ x y : Int, ρ = [.val (.int x), .val (.int y)] ∧ y.natAbs = m ∧ Int.gcd x y = Int.gcd a b) ?_ b.natAbs _ ⟨a, b, rfl, rfl, rfl⟩
    rintro m ρ ⟨x, y, rfl, rfl, e⟩
    by_cases h : y = 0
    · subst h
      exact .inl ⟨_, by simp [runFd, eS_skip, eS_seq, eS_asg, eS_asgM, eS_asgs, eS_two, eS_app, eS_setM, eS_aug, eS_ret, eS_retM, eS_ite, eS_drop, eS_brk, eS_cnt, thn_nx, thn_ret, eE_var, eE_non, eE_bl, eE_int, eE_str, eE_gint, eE_nil, eE_cons, eE_bin, eE_neg, eE_cmp, eE_chain, eE_not, eE_and, eE_or, eE_ite, eE_tup, eE_lst, eE_ix, eE_sl, eE_rev, eE_call, eE_callio, eE_bi, eE_isi, eE_rng, eE_rng2, eE_enum, eE_zip, eE_lrng, eE_trng, eE_edic, eE_lenM, eE_ixM, eE_nilM, eE_popM, startS, rdVar, getS_0, getS_s, rb_ok, ro_ok, of_some, oof_some, putS, List.getElem?_cons_zero, List.getElem?_cons_succ, bin_add, bin_sub, parOf, FR.ofIo, mutS, remut, cmp_ne_int], x, rfl, by rw [← e]; simp⟩
    · refine .inr ⟨[.val (.int x), .val (.int y)], by simp [runFd, eS_skip, eS_seq, eS_asg, eS_asgM, eS_asgs, eS_two, eS_app, eS_setM, eS_aug, eS_ret, eS_retM, eS_ite, eS_drop, eS_brk, eS_cnt, thn_nx, thn_ret, eE_var, eE_non, eE_bl, eE_int, eE_str, eE_gint, eE_nil, eE_cons, eE_bin, eE_neg, eE_cmp, eE_chain, eE_not, eE_and, eE_or, eE_ite, eE_tup, eE_lst, eE_ix, eE_sl, eE_rev, eE_call, eE_callio, eE_bi, eE_isi, eE_rng, eE_rng2, eE_enum, eE_zip, eE_lrng, eE_trng, eE_edic, eE_lenM, eE_ixM, eE_nilM, eE_popM, startS, rdVar, getS_0, getS_s, rb_ok, ro_ok, of_some, oof_some, putS, List.getElem?_cons_zero, List.getElem?_cons_succ, bin_add, bin_sub, parOf, FR.ofIo, mutS, remut, cmp_ne_int, h], .inl ⟨[.val (.int y), .val (.int (x.fmod y))], _, .inl ?_, fmod_lt h, y, _, rfl, rfl, by rw [gcd_fmod, e]⟩⟩
      simp (disch := assumption) [runFd, eS_skip, eS_seq, eS_asg, eS_asgM, eS_asgs, eS_two, eS_app, eS_setM, eS_aug, eS_ret, eS_retM, eS_ite, eS_drop, eS_brk, eS_cnt, thn_nx, thn_ret, eE_var, eE_non, eE_bl, eE_int, eE_str, eE_gint, eE_nil, eE_cons, eE_bin, eE_neg, eE_cmp, eE_chain, eE_not, eE_and, eE_or, eE_ite, eE_tup, eE_lst, eE_ix, eE_sl, eE_rev, eE_call, eE_callio, eE_bi, eE_isi, eE_rng, eE_rng2, eE_enum, eE_zip, eE_lrng, eE_trng, eE_edic, eE_lenM, eE_ixM, eE_nilM, eE_popM, startS, rdVar, getS_0, getS_s, rb_ok, ro_ok, of_some, oof_some, putS, List.getElem?_cons_zero, List.getElem?_cons_succ, bin_add, bin_sub, parOf, FR.ofIo, mutS, remut, bin_mod0]
  obtain ⟨g, e, hg⟩ := w
  have k : (if g < 0 then -g else g) = (Int.gcd a b : Int) := by split <;> omega
  simp [runFd, eS_skip, eS_seq, eS_asg, eS_asgM, eS_asgs, eS_two, eS_app, eS_setM, eS_aug, eS_ret, eS_retM, eS_ite, eS_drop, eS_brk, eS_cnt, thn_nx, thn_ret, eE_var, eE_non, eE_bl, eE_int, eE_str, eE_gint, eE_nil, eE_cons, eE_bin, eE_neg, eE_cmp, eE_chain, eE_not, eE_and, eE_or, eE_ite, eE_tup, eE_lst, eE_ix, eE_sl, eE_rev, eE_call, eE_callio, eE_bi, eE_isi, eE_rng, eE_rng2, eE_enum, eE_zip, eE_lrng, eE_trng, eE_edic, eE_lenM, eE_ixM, eE_nilM, eE_popM, startS, rdVar, getS_0, getS_s, rb_ok, ro_ok, of_some, oof_some, putS, List.getElem?_cons_zero, List.getElem?_cons_succ, bin_add, bin_sub, parOf, FR.ofIo, mutS, remut, fd7, e, biD, tupOf, k]

theorem run1 (Φ : Fns) (a b : Int) : runFd Φ fd1 [.int a, .int b] = .ok (.int (Int.gcd a b)) [] := by
  have w : ∀ x y : Int, 0 ≤ x → 0 ≤ y → evS Φ (.while_ (.cmp .gt (.var 1) (.int 0)) (.seq (.two 0 1 (.var 1) (.bin .mod (.var 0) (.var 1))) .skip)) [.val (.int x), .val (.int y)] = .nx [.val (.int (Int.gcd x y)), .val (.int 0)] := fun a b ha hb => by
    rw [eS_while]
    refine whileD_inv (P := fun o => o = .nx [.val (.int (Int.gcd a b)), .val (.int 0)]) (I := fun m ρ => ∃ x y : Int, ρ = [.val (.int x), .val (.int y)] ∧ 0 ≤ x ∧ 0 ≤ y ∧ y.natAbs = m ∧ Int.gcd x y = Int.gcd a b) ?_ b.natAbs _ ⟨a, b, rfl, ha, hb, rfl, rfl⟩
    rintro m ρ ⟨x, y, rfl, hx, hy, rfl, e⟩
    by_cases h : y = 0
    · subst h
      refine .inl ⟨[.val (.int x), .val (.int 0)], by simp [runFd, eS_skip, eS_seq, eS_asg, eS_asgM, eS_asgs, eS_two, eS_app, eS_setM, eS_aug, eS_ret, eS_retM, eS_ite, eS_drop, eS_brk, eS_cnt, thn_nx, thn_ret, eE_var, eE_non, eE_bl, eE_int, eE_str, eE_gint, eE_nil, eE_cons, eE_bin, eE_neg, eE_cmp, eE_chain, eE_not, eE_and, eE_or, eE_ite, eE_tup, eE_lst, eE_ix, eE_sl, eE_rev, eE_call, eE_callio, eE_bi, eE_isi, eE_rng, eE_rng2, eE_enum, eE_zip, eE_lrng, eE_trng, eE_edic, eE_lenM, eE_ixM, eE_nilM, eE_popM, startS, rdVar, getS_0, getS_s, rb_ok, ro_ok, of_some, oof_some, putS, List.getElem?_cons_zero, List.getElem?_cons_succ, bin_add, bin_sub, parOf, FR.ofIo, mutS, remut, cmp_gt_int], ?_⟩
      have : (Int.gcd a b : Int) = x := by rw [← e]; simp; omega
      rw [this]
    · have h2 : 0 < y := by omega
      refine .inr ⟨[.val (.int x), .val (.int y)], by simp [runFd, eS_skip, eS_seq, eS_asg, eS_asgM, eS_asgs, eS_two, eS_app, eS_setM, eS_aug, eS_ret, eS_retM, eS_ite, eS_drop, eS_brk, eS_cnt, thn_nx, thn_ret, eE_var, eE_non, eE_bl, eE_int, eE_str, eE_gint, eE_nil, eE_cons, eE_bin, eE_neg, eE_cmp, eE_chain, eE_not, eE_and, eE_or, eE_ite, eE_tup, eE_lst, eE_ix, eE_sl, eE_rev, eE_call, eE_callio, eE_bi, eE_isi, eE_rng, eE_rng2, eE_enum, eE_zip, eE_lrng, eE_trng, eE_edic, eE_lenM, eE_ixM, eE_nilM, eE_popM, startS, rdVar, getS_0, getS_s, rb_ok, ro_ok, of_some, oof_some, putS, List.getElem?_cons_zero, List.getElem?_cons_succ, bin_add, bin_sub, parOf, FR.ofIo, mutS, remut, cmp_gt_int, h2], .inl ⟨[.val (.int y), .val (.int (x.fmod y))], _, .inl ?_, fmod_lt h, y, _, rfl, hy, Int.fmod_nonneg_of_pos x h2, rfl, by rw [gcd_fmod, e]⟩⟩
      simp (disch := assumption) [runFd, eS_skip, eS_seq, eS_asg, eS_asgM, eS_asgs, eS_two, eS_app, eS_setM, eS_aug, eS_ret, eS_retM, eS_ite, eS_drop, eS_brk, eS_cnt, thn_nx, thn_ret, eE_var, eE_non, eE_bl, eE_int, eE_str, eE_gint, eE_nil, eE_cons, eE_bin, eE_neg, eE_cmp, eE_chain, eE_not, eE_and, eE_or, eE_ite, eE_tup, eE_lst, eE_ix, eE_sl, eE_rev, eE_call, eE_callio, eE_bi, eE_isi, eE_rng, eE_rng2, eE_enum, eE_zip, eE_lrng, eE_trng, eE_edic, eE_lenM, eE_ixM, eE_nilM, eE_popM, startS, rdVar, getS_0, getS_s, rb_ok, ro_ok, of_some, oof_some, putS, List.getElem?_cons_zero, List.getElem?_cons_succ, bin_add, bin_sub, parOf, FR.ofIo, mutS, remut, bin_mod0]
  have e := w (if a < 0 then -a else a) (if b < 0 then -b else b) (by split <;> omega) (by split <;> omega)
  have g : Int.gcd (if a < 0 then -a else a) (if b < 0 then -b else b) = Int.gcd a b := by
    split <;> split <;> simp [Int.gcd]
  rw [g] at e
  simp [runFd, eS_skip, eS_seq, eS_asg, eS_asgM, eS_asgs, eS_two, eS_app, eS_setM, eS_aug, eS_ret, eS_retM, eS_ite, eS_drop, eS_brk, eS_cnt, thn_nx, thn_ret, eE_var, eE_non, eE_bl, eE_int, eE_str, eE_gint, eE_nil, eE_cons, eE_bin, eE_neg, eE_cmp, eE_chain, eE_not, eE_and, eE_or, eE_ite, eE_tup, eE_lst, eE_ix, eE_sl, eE_rev, eE_call, eE_callio, eE_bi, eE_isi, eE_rng, eE_rng2, eE_enum, eE_zip, eE_lrng, eE_trng, eE_edic, eE_lenM, eE_ixM, eE_nilM, eE_popM, startS, rdVar, getS_0, getS_s, rb_ok, ro_ok, of_some, oof_some, putS, List.getElem?_cons_zero, List.getElem?_cons_succ, bin_add, bin_sub, parOf, FR.ofIo, mutS, remut, fd1, biD, tupOf, e]
def gI (a b : Int) : Int := Int.gcd a b
/-- no list that changes -/
def Lo (s : Slot) : Prop := s = .un ∨ ∃ d, s = .val d
theorem Lo.val (d : PyData) : Lo (.val d) := .inr ⟨d, rfl⟩
theorem Lo.un : Lo .un := .inl rfl
theorem loop2 (Φ : Fns) (h : ∀ a b : Int, Φ 1 [.int a, .int b] = .ok (.int (Int.gcd a b)) []) (d : PyData) : ∀ (ns : List Int) (g : Int) (s : Slot), Lo s → ∃ s', Lo s' ∧ forGo (forF Φ (.one 2) (.seq (.asg 1 (.call 1 (.cons (.var 1) (.cons (.var 2) .nil)))) .skip)) (ns.map .int) [.val d, .val (.int g), s] = .nx [.val d, .val (.int (ns.foldl gI g)), s']
  | [], g, s, hs => ⟨s, hs, rfl⟩
  | n :: r, g, s, hs => by
    obtain ⟨s', h1, e⟩ := loop2 Φ h d r (gI g n) (.val (.int n)) (.val _)
    refine ⟨s', h1, ?_⟩
    have st : forF Φ (.one 2) (.seq (.asg 1 (.call 1 (.cons (.var 1) (.cons (.var 2) .nil)))) .skip) (.int n) [.val d, .val (.int g), s] = .nx [.val d, .val (.int (gI g n)), .val (.int n)] := by
      rcases hs with rfl | ⟨x, rfl⟩ <;> simp [forF, asgT, runFd, eS_skip, eS_seq, eS_asg, eS_asgM, eS_asgs, eS_two, eS_app, eS_setM, eS_aug, eS_ret, eS_retM, eS_ite, eS_drop, eS_brk, eS_cnt, thn_nx, thn_ret, eE_var, eE_non, eE_bl, eE_int, eE_str, eE_gint, eE_nil, eE_cons, eE_bin, eE_neg, eE_cmp, eE_chain, eE_not, eE_and, eE_or, eE_ite, eE_tup, eE_lst, eE_ix, eE_sl, eE_rev, eE_call, eE_callio, eE_bi, eE_isi, eE_rng, eE_rng2, eE_enum, eE_zip, eE_lrng, eE_trng, eE_edic, eE_lenM, eE_ixM, eE_nilM, eE_popM, startS, rdVar, getS_0, getS_s, rb_ok, ro_ok, of_some, oof_some, putS, List.getElem?_cons_zero, List.getElem?_cons_succ, bin_add, bin_sub, parOf, FR.ofIo, mutS, remut, tupOf, h, gI]
    rw [List.map_cons, forGo, st]
    exact e
theorem run2 (Φ : Fns) (h : ∀ a b : Int, Φ 1 [.int a, .int b] = .ok (.int (Int.gcd a b)) []) (ns : List Int) {d : PyData} (hd : itemsD d = some (ns.map .int)) (hl : ∀ ds, d ≠ .list ds ∨ True) : runFd Φ fd2 [d] = .ok (.int (ns.foldl gI 0)) [] := by
  obtain ⟨s', _, e⟩ := loop2 Φ h d ns 0 .un .un
  have c : startS 0 fd2.io [d] = [.val d] := by cases d <;> rfl
  rw [runFd_of rfl, c]
  simp [runFd, eS_skip, eS_seq, eS_asg, eS_asgM, eS_asgs, eS_two, eS_app, eS_setM, eS_aug, eS_ret, eS_retM, eS_ite, eS_drop, eS_brk, eS_cnt, thn_nx, thn_ret, eE_var, eE_non, eE_bl, eE_int, eE_str, eE_gint, eE_nil, eE_cons, eE_bin, eE_neg, eE_cmp, eE_chain, eE_not, eE_and, eE_or, eE_ite, eE_tup, eE_lst, eE_ix, eE_sl, eE_rev, eE_call, eE_callio, eE_bi, eE_isi, eE_rng, eE_rng2, eE_enum, eE_zip, eE_lrng, eE_trng, eE_edic, eE_lenM, eE_ixM, eE_nilM, eE_popM, startS, rdVar, getS_0, getS_s, rb_ok, ro_ok, of_some, oof_some, putS, List.getElem?_cons_zero, List.getElem?_cons_succ, bin_add, bin_sub, parOf, FR.ofIo, mutS, remut, fd2, eS_for, hd, e]
theorem gI_fold : ∀ (ns : List Int) (a : Int), (ns.foldl gI a).natAbs = Int.gcd (ns.foldl gI 0) a
  | [], a => by simp
  | n :: r, a => by
    have h1 := gI_fold r (gI a n)
    have h2 := gI_fold r (gI 0 n)
    show (r.foldl gI (gI a n)).natAbs = Int.gcd (r.foldl gI (gI 0 n)) a
    rw [h1]
    have : Int.gcd (r.foldl gI (gI 0 n)) a = Nat.gcd (r.foldl gI (gI 0 n)).natAbs a.natAbs := rfl
    rw [this, h2]
    simp only [gI, Int.gcd, Int.natAbs_natCast, Int.natAbs_zero, Nat.gcd_zero_left]
    rw [Nat.gcd_assoc, Nat.gcd_comm n.natAbs]
/-- the common divisor, below 0 as the bottom is -/
def sgn (ns : List Int) (b : Int) : Int := if b < 0 then 0 - (Int.gcd (ns.foldl gI 0) b : Int) else Int.gcd (ns.foldl gI 0) b
def lowT (ns : List Int) (b : Int) : List Int := ns.map (fun n => n.fdiv (sgn ns b)) ++ [b.fdiv (sgn ns b)]
theorem sgn_ok {ns : List Int} {b : Int} (hb : b ≠ 0) : sgn ns b ≠ 0 ∧ (sgn ns b).natAbs ≤ b.natAbs := by
  have h0 : Int.gcd (ns.foldl gI 0) b ≠ 0 := fun z => hb (Int.eq_zero_of_gcd_eq_zero_right z)
  have h1 : Int.gcd (ns.foldl gI 0) b ≤ b.natAbs := Nat.le_of_dvd (by omega) (Nat.gcd_dvd_right _ _)
  unfold sgn
  split <;> constructor <;> omega
theorem divOk_of {i j : Int} (h : j ≠ 0) (g : Sm 9000 j) : bin .fdiv (.int i) (.int j) = some (.int (i.fdiv j)) := if_pos ⟨h, .inl g⟩
/-- [number // g for number in numbers] -/
theorem comp_div (Φ : Fns) (a : Nat) (g : Int) (hg : g ≠ 0) (hs : Sm 9000 g) (pre : List Slot) (hp : getS pre a = .val (.int g)) (hl : pre.length = 3) (ha : a < 3) : ∀ (ns : List Int) (s : Slot), ∃ s', compGo (turnC [3] (.one 3) (evE Φ (.bl true)) (evE Φ (.bin .fdiv (.var 3) (.var a)))) (ns.map .int) (pre ++ [s]) = .ok ((ns.map fun n => n.fdiv g).map .int) (pre ++ [s'])
  | [], s => ⟨s, rfl⟩
  | n :: r, s => by
    obtain ⟨s', e⟩ := comp_div Φ a g hg hs pre hp hl ha r (.val (.int n))
    refine ⟨s', ?_⟩
    match pre, hl with
    | [p0, p1, p2], _ =>
      have st : turnC [3] (.one 3) (evE Φ (.bl true)) (evE Φ (.bin .fdiv (.var 3) (.var a))) (.int n) ([p0, p1, p2] ++ [s]) = .ok (some (.int (n.fdiv g))) ([p0, p1, p2] ++ [.val (.int n)]) := by
        have ha' : a = 0 ∨ a = 1 ∨ a = 2 := by omega
        rcases ha' with rfl | rfl | rfl <;> simp [getS_0, getS_s] at hp <;> subst hp <;> simp (disch := assumption) [turnC, wipeS, asgT, runFd, eS_skip, eS_seq, eS_asg, eS_asgM, eS_asgs, eS_two, eS_app, eS_setM, eS_aug, eS_ret, eS_retM, eS_ite, eS_drop, eS_brk, eS_cnt, thn_nx, thn_ret, eE_var, eE_non, eE_bl, eE_int, eE_str, eE_gint, eE_nil, eE_cons, eE_bin, eE_neg, eE_cmp, eE_chain, eE_not, eE_and, eE_or, eE_ite, eE_tup, eE_lst, eE_ix, eE_sl, eE_rev, eE_call, eE_callio, eE_bi, eE_isi, eE_rng, eE_rng2, eE_enum, eE_zip, eE_lrng, eE_trng, eE_edic, eE_lenM, eE_ixM, eE_nilM, eE_popM, startS, rdVar, getS_0, getS_s, rb_ok, ro_ok, of_some, oof_some, putS, List.getElem?_cons_zero, List.getElem?_cons_succ, bin_add, bin_sub, parOf, FR.ofIo, mutS, remut, divOk_of]
      rw [List.map_cons, compGo, st]
      dsimp only
      rw [e]
      rfl
theorem run30 (Φ : Fns) (h1 : ∀ a b : Int, Φ 1 [.int a, .int b] = .ok (.int (Int.gcd a b)) []) (ns : List Int) (h2 : Φ 2 [.tuple (ns.map .int)] = .ok (.int (ns.foldl gI 0)) []) (b : Int) (hb : b ≠ 0) (hs : Sm 9000 b) (hl : ns.length < 1000) :
    runFd Φ fd30 [.tuple (ns.map .int), .int b] = .ok (.tuple ((lowT ns b).map .int)) [] := by
  obtain ⟨g0, g1⟩ := sgn_ok (ns := ns) hb
  have gs : Sm 9000 (sgn ns b) := Nat.lt_of_le_of_lt g1 hs
  obtain ⟨s', e⟩ := comp_div Φ 2 (sgn ns b) g0 gs [.val (.tuple (ns.map .int)), .val (.int b), .val (.int (sgn ns b))] rfl rfl (by decide) ns .un
  have hc : evE Φ (.comp (.bin .fdiv (.var 3) (.var 2)) (.one 3) (.var 0) (.bl true) [3]) [.val (.tuple (ns.map .int)), .val (.int b), .val (.int (sgn ns b)), .un] = .ok (.list ((ns.map fun n => n.fdiv (sgn ns b)).map .int)) [.val (.tuple (ns.map .int)), .val (.int b), .val (.int (sgn ns b)), .un] := by
    rw [eE_comp]
    simp only [eE_var, rdVar, getS_0, rb_ok, itemsD]
    have : ownOk [3] [.val (.tuple (ns.map .int)), .val (.int b), .val (.int (sgn ns b)), .un] = true := rfl
    rw [this]
    dsimp only
    rw [show [Slot.val (.tuple (ns.map .int)), .val (.int b), .val (.int (sgn ns b)), .un] = [Slot.val (.tuple (ns.map .int)), .val (.int b), .val (.int (sgn ns b))] ++ [.un] from rfl, e]
    rfl
  have hcat : bin .add (.tuple ((ns.map fun n => n.fdiv (sgn ns b)).map .int)) (.tuple [.int (b.fdiv (sgn ns b))]) = some (.tuple ((ns.map fun n => n.fdiv (sgn ns b)).map .int ++ [.int (b.fdiv (sgn ns b))])) := bin_cat (by simp [SL]; omega)
  by_cases hb0 : b < 0
  · have hsg : 0 - (Int.gcd (ns.foldl gI 0) b : Int) = sgn ns b := by unfold sgn; rw [if_pos hb0]
    simp (disch := assumption) [runFd, eS_skip, eS_seq, eS_asg, eS_asgM, eS_asgs, eS_two, eS_app, eS_setM, eS_aug, eS_ret, eS_retM, eS_ite, eS_drop, eS_brk, eS_cnt, thn_nx, thn_ret, eE_var, eE_non, eE_bl, eE_int, eE_str, eE_gint, eE_nil, eE_cons, eE_bin, eE_neg, eE_cmp, eE_chain, eE_not, eE_and, eE_or, eE_ite, eE_tup, eE_lst, eE_ix, eE_sl, eE_rev, eE_call, eE_callio, eE_bi, eE_isi, eE_rng, eE_rng2, eE_enum, eE_zip, eE_lrng, eE_trng, eE_edic, eE_lenM, eE_ixM, eE_nilM, eE_popM, startS, rdVar, getS_0, getS_s, rb_ok, ro_ok, of_some, oof_some, putS, List.getElem?_cons_zero, List.getElem?_cons_succ, bin_add, bin_sub, parOf, FR.ofIo, mutS, remut, -List.map_map, fd30, h1, h2, tupOf, cmp_lt_int, hb0, hsg, hc, biD, divOk_of, hcat, lowT]
  · have hsg : (Int.gcd (ns.foldl gI 0) b : Int) = sgn ns b := by unfold sgn; rw [if_neg hb0]
    simp (disch := assumption) [runFd, eS_skip, eS_seq, eS_asg, eS_asgM, eS_asgs, eS_two, eS_app, eS_setM, eS_aug, eS_ret, eS_retM, eS_ite, eS_drop, eS_brk, eS_cnt, thn_nx, thn_ret, eE_var, eE_non, eE_bl, eE_int, eE_str, eE_gint, eE_nil, eE_cons, eE_bin, eE_neg, eE_cmp, eE_chain, eE_not, eE_and, eE_or, eE_ite, eE_tup, eE_lst, eE_ix, eE_sl, eE_rev, eE_call, eE_callio, eE_bi, eE_isi, eE_rng, eE_rng2, eE_enum, eE_zip, eE_lrng, eE_trng, eE_edic, eE_lenM, eE_ixM, eE_nilM, eE_popM, startS, rdVar, getS_0, getS_s, rb_ok, ro_ok, of_some, oof_some, putS, List.getElem?_cons_zero, List.getElem?_cons_succ, bin_add, bin_sub, parOf, FR.ofIo, mutS, remut, -List.map_map, fd30, h1, h2, tupOf, cmp_lt_int, hb0, hsg, hc, biD, divOk_of, hcat, lowT]
theorem run4 (Φ : Fns) (c k : Int) (h : k.natAbs < 2 ^ 64) : runFd Φ fd4 [.int c, .int k] = .ok (.int (mixedI c k)) [] := by
  have hb : ((c % 2147483647 * 48271 + 7919 * k * k + 104729) % 2147483647).natAbs < 2 ^ 64 := by omega
  simp (disch := omega) [runFd, eS_skip, eS_seq, eS_asg, eS_asgM, eS_asgs, eS_two, eS_app, eS_setM, eS_aug, eS_ret, eS_retM, eS_ite, eS_drop, eS_brk, eS_cnt, thn_nx, thn_ret, eE_var, eE_non, eE_bl, eE_int, eE_str, eE_gint, eE_nil, eE_cons, eE_bin, eE_neg, eE_cmp, eE_chain, eE_not, eE_and, eE_or, eE_ite, eE_tup, eE_lst, eE_ix, eE_sl, eE_rev, eE_call, eE_callio, eE_bi, eE_isi, eE_rng, eE_rng2, eE_enum, eE_zip, eE_lrng, eE_trng, eE_edic, eE_lenM, eE_ixM, eE_nilM, eE_popM, startS, rdVar, getS_0, getS_s, rb_ok, ro_ok, of_some, oof_some, putS, List.getElem?_cons_zero, List.getElem?_cons_succ, bin_add, bin_sub, parOf, FR.ofIo, mutS, remut, fd4, bin_mod, bin_mul_l, bin_mul_r, mixedI]
theorem run6 (Φ : Fns) (ds : List Int) : runFd Φ fd6 [.list (ds.map .int)] = .ok (.int (nx ds)) ((tl ds).map .int) := by
  cases ds <;> simp [runFd, eS_skip, eS_seq, eS_asg, eS_asgM, eS_asgs, eS_two, eS_app, eS_setM, eS_aug, eS_ret, eS_retM, eS_ite, eS_drop, eS_brk, eS_cnt, thn_nx, thn_ret, eE_var, eE_non, eE_bl, eE_int, eE_str, eE_gint, eE_nil, eE_cons, eE_bin, eE_neg, eE_cmp, eE_chain, eE_not, eE_and, eE_or, eE_ite, eE_tup, eE_lst, eE_ix, eE_sl, eE_rev, eE_call, eE_callio, eE_bi, eE_isi, eE_rng, eE_rng2, eE_enum, eE_zip, eE_lrng, eE_trng, eE_edic, eE_lenM, eE_ixM, eE_nilM, eE_popM, startS, rdVar, getS_0, getS_s, rb_ok, ro_ok, of_some, oof_some, putS, List.getElem?_cons_zero, List.getElem?_cons_succ, bin_add, bin_sub, parOf, FR.ofIo, mutS, remut, fd6, nx, tl]
theorem rangeD_get {lo : Int} {n i : Nat} {d : PyData} (h : (rangeD lo n)[i]? = some d) : d = .int (lo + i) ∧ i < n := by
  unfold rangeD at h
  rw [List.getElem?_map] at h
  by_cases c : i < n
  · rw [List.getElem?_range c] at h
    cases h
    exact ⟨rfl, c⟩
  · rw [List.getElem?_eq_none (by rw [List.length_range]; omega)] at h
    cases h
theorem rangeD_len (lo : Int) (n : Nat) : (rangeD lo n).length = n := by simp [rangeD]
theorem rngD_ok {lo hi : Int} (h : rngOk lo hi) : rngD (.int lo) (.int hi) = some (.list (rangeD lo (hi - lo).toNat)) := if_pos h
theorem ixAt_nat {α : Type} (xs : List α) (i : Nat) : ixAt xs (i : Int) = xs[i]? := by
  unfold ixAt
  rw [if_pos (by omega), Int.toNat_natCast]
theorem putS_lo {ρ : Env} {i : Nat} {s t : Slot} (h : ρ[i]? = some s) (l : Lo s) : putS ρ i t = some (ρ.set i t) := by
  unfold putS
  rw [h]
  rcases l with rfl | ⟨d, rfl⟩ <;> rfl
theorem draws_for (Φ : Fns) (h4 : ∀ c k : Int, k.natAbs < 2 ^ 64 → Φ 4 [.int c, .int k] = .ok (.int (mixedI c k)) []) (L : PyData) (i : Nat) (hi : i < 63) (c : Int) (ds : List Int) (hD : Draws ds) (hl : ds.length ≤ 900 + 13 * i) (s4 : Slot) (l4 : Lo s4) :
    ∃ ds' s4', evS Φ (.for_ (.one 4) (.rng (.int 12)) (.seq (.app 1 (.call 4 (.cons (.call 4 (.cons (.var 3) (.cons (.bin .add (.bin .mul (.int 3) (.var 4)) (.int 1)) .nil))) (.cons (.bin .add (.bin .add (.var 4) (.var 2)) (.int 2)) .nil)))) .skip)) [.val L, .mu (ds.map .int), .val (.int i), .val (.int c), s4]
      = .nx [.val L, .mu (ds'.map .int), .val (.int i), .val (.int c), s4'] ∧ Draws ds' ∧ ds'.length ≤ 912 + 13 * i ∧ Lo s4' := by
  rw [eS_for, eE_rng, eE_int, rb_ok, rngD_ok (by decide), of_some, ro_ok]
  show ∃ ds' s4', forGo (forF Φ _ _) (rangeD 0 12) _ = _ ∧ _
  obtain ⟨ρ', e, ds', s', rfl, h1, h2, h3⟩ := forGo_inv (f := forF Φ (.one 4) (.seq (.app 1 (.call 4 (.cons (.call 4 (.cons (.var 3) (.cons (.bin .add (.bin .mul (.int 3) (.var 4)) (.int 1)) .nil))) (.cons (.bin .add (.bin .add (.var 4) (.var 2)) (.int 2)) .nil)))) .skip)) (ds := rangeD 0 12)
    (fun j ρ => ∃ (es : List Int) (s : Slot), ρ = [.val L, .mu (es.map .int), .val (.int i), .val (.int c), s] ∧ Draws es ∧ es.length = ds.length + j ∧ Lo s) (ρ := [.val L, .mu (ds.map .int), .val (.int i), .val (.int c), s4]) ⟨ds, s4, rfl, hD, rfl, l4⟩ fun j d ρ hd ⟨es, s, e, hE, le, ls⟩ => by
      obtain ⟨rfl, hj⟩ := rangeD_get hd
      subst e
      have hlt : es.length < SL := by
        show es.length < 16777216
        omega
      refine ⟨[.val L, .mu ((es ++ [mixedI (mixedI c (3 * j + 1)) (j + i + 2)]).map .int), .val (.int i), .val (.int c), .val (.int j)], .inl ?_, _, _, rfl, ?_, by rw [List.length_append, le, List.length_singleton]; omega, Lo.val _⟩
      · rw [forF_of (ρ' := [.val L, .mu (es.map .int), .val (.int i), .val (.int c), .val (.int j)]) (by rw [Int.zero_add]; exact putS_lo rfl ls)]
        simp (disch := omega) [runFd, eS_skip, eS_seq, eS_asg, eS_asgM, eS_asgs, eS_two, eS_app, eS_setM, eS_aug, eS_ret, eS_retM, eS_ite, eS_drop, eS_brk, eS_cnt, thn_nx, thn_ret, eE_var, eE_non, eE_bl, eE_int, eE_str, eE_gint, eE_nil, eE_cons, eE_bin, eE_neg, eE_cmp, eE_chain, eE_not, eE_and, eE_or, eE_ite, eE_tup, eE_lst, eE_ix, eE_sl, eE_rev, eE_call, eE_callio, eE_bi, eE_isi, eE_rng, eE_rng2, eE_enum, eE_zip, eE_lrng, eE_trng, eE_edic, eE_lenM, eE_ixM, eE_nilM, eE_popM, startS, rdVar, getS_0, getS_s, rb_ok, ro_ok, of_some, oof_some, putS, List.getElem?_cons_zero, List.getElem?_cons_succ, bin_add, bin_sub, parOf, FR.ofIo, mutS, remut, tupOf, h4, bin_mul_l, hlt]
      · intro x hx
        rcases List.mem_append.mp hx with hx | hx
        · exact hE x hx
        · rw [List.mem_singleton.mp hx]; exact mixedI_b _ _
  refine ⟨ds', s', e, h1, ?_, h3⟩
  rw [rangeD_len] at h2
  omega
theorem draws_while (Φ : Fns) (L : PyData) (i : Nat) (hi : i < 63) (c : Int) (hc : 0 ≤ c) (ds : List Int) (hD : Draws ds) (B : Nat) (hB : 900 ≤ B) (hl : ds.length ≤ B) (s4 : Slot) :
    ∃ (ds' : List Int) (c' : Int), evS Φ (.while_ (.and (.cmp .ge (.var 3) (.bin .pow (.int 10) (.int 18))) (.cmp .lt (.lenM 1) (.int 900))) (.seq (.app 1 (.bin .mod (.var 3) (.int 2147483629))) (.seq (.asg 3 (.bin .fdiv (.var 3) (.int 2147483629))) .skip))) [.val L, .mu (ds.map .int), .val (.int i), .val (.int c), s4]
      = .nx [.val L, .mu (ds'.map .int), .val (.int i), .val (.int c'), s4] ∧ Draws ds' ∧ ds'.length ≤ B ∧ 0 ≤ c' := by
  rw [eS_while]
  have p18 : powOk 10 18 := by decide
  refine whileD_inv (P := fun o => ∃ (ds' : List Int) (c' : Int), o = .nx [.val L, .mu (ds'.map .int), .val (.int i), .val (.int c'), s4] ∧ Draws ds' ∧ ds'.length ≤ B ∧ 0 ≤ c') (I := fun m ρ => ∃ (es : List Int) (x : Int), ρ = [.val L, .mu (es.map .int), .val (.int i), .val (.int x), s4] ∧ Draws es ∧ es.length ≤ B ∧ 0 ≤ x ∧ m = 1000 - es.length) ?_ (1000 - ds.length) _ ⟨ds, c, rfl, hD, hl, hc, rfl⟩
  rintro m ρ ⟨es, x, rfl, hE, le, hx, rfl⟩
  by_cases c1 : x < 1000000000000000000
  · refine .inl ⟨[.val L, .mu (es.map .int), .val (.int i), .val (.int x), s4], ?_, es, x, rfl, hE, le, hx⟩
    have : ¬ (1000000000000000000 ≤ x) := by omega
    simp [runFd, eS_skip, eS_seq, eS_asg, eS_asgM, eS_asgs, eS_two, eS_app, eS_setM, eS_aug, eS_ret, eS_retM, eS_ite, eS_drop, eS_brk, eS_cnt, thn_nx, thn_ret, eE_var, eE_non, eE_bl, eE_int, eE_str, eE_gint, eE_nil, eE_cons, eE_bin, eE_neg, eE_cmp, eE_chain, eE_not, eE_and, eE_or, eE_ite, eE_tup, eE_lst, eE_ix, eE_sl, eE_rev, eE_call, eE_callio, eE_bi, eE_isi, eE_rng, eE_rng2, eE_enum, eE_zip, eE_lrng, eE_trng, eE_edic, eE_lenM, eE_ixM, eE_nilM, eE_popM, startS, rdVar, getS_0, getS_s, rb_ok, ro_ok, of_some, oof_some, putS, List.getElem?_cons_zero, List.getElem?_cons_succ, bin_add, bin_sub, parOf, FR.ofIo, mutS, remut, bin_pow p18, cmp_ge_int, this]
  · have c1' : 1000000000000000000 ≤ x := by omega
    by_cases c2 : es.length < 900
    · have c2' : (es.length : Int) < 900 := by omega
      have hlt : es.length < SL := by show es.length < 16777216; omega
      refine .inr ⟨[.val L, .mu (es.map .int), .val (.int i), .val (.int x), s4], by simp [runFd, eS_skip, eS_seq, eS_asg, eS_asgM, eS_asgs, eS_two, eS_app, eS_setM, eS_aug, eS_ret, eS_retM, eS_ite, eS_drop, eS_brk, eS_cnt, thn_nx, thn_ret, eE_var, eE_non, eE_bl, eE_int, eE_str, eE_gint, eE_nil, eE_cons, eE_bin, eE_neg, eE_cmp, eE_chain, eE_not, eE_and, eE_or, eE_ite, eE_tup, eE_lst, eE_ix, eE_sl, eE_rev, eE_call, eE_callio, eE_bi, eE_isi, eE_rng, eE_rng2, eE_enum, eE_zip, eE_lrng, eE_trng, eE_edic, eE_lenM, eE_ixM, eE_nilM, eE_popM, startS, rdVar, getS_0, getS_s, rb_ok, ro_ok, of_some, oof_some, putS, List.getElem?_cons_zero, List.getElem?_cons_succ, bin_add, bin_sub, parOf, FR.ofIo, mutS, remut, bin_pow p18, cmp_ge_int, cmp_lt_int, c1', c2'], .inl ⟨[.val L, .mu ((es ++ [x % 2147483629]).map .int), .val (.int i), .val (.int (x / 2147483629)), s4], 1000 - (es.length + 1), .inl ?_, by omega, _, _, rfl, ?_, by rw [List.length_append]; show es.length + 1 ≤ B; omega, by omega, by rw [List.length_append, List.length_singleton]⟩⟩
      · simp (disch := omega) [runFd, eS_skip, eS_seq, eS_asg, eS_asgM, eS_asgs, eS_two, eS_app, eS_setM, eS_aug, eS_ret, eS_retM, eS_ite, eS_drop, eS_brk, eS_cnt, thn_nx, thn_ret, eE_var, eE_non, eE_bl, eE_int, eE_str, eE_gint, eE_nil, eE_cons, eE_bin, eE_neg, eE_cmp, eE_chain, eE_not, eE_and, eE_or, eE_ite, eE_tup, eE_lst, eE_ix, eE_sl, eE_rev, eE_call, eE_callio, eE_bi, eE_isi, eE_rng, eE_rng2, eE_enum, eE_zip, eE_lrng, eE_trng, eE_edic, eE_lenM, eE_ixM, eE_nilM, eE_popM, startS, rdVar, getS_0, getS_s, rb_ok, ro_ok, of_some, oof_some, putS, List.getElem?_cons_zero, List.getElem?_cons_succ, bin_add, bin_sub, parOf, FR.ofIo, mutS, remut, bin_mod, bin_div, hlt]
      · intro y hy
        rcases List.mem_append.mp hy with hy | hy
        · exact hE y hy
        · rw [List.mem_singleton.mp hy]; omega
    · have c2' : ¬ ((es.length : Int) < 900) := by omega
      exact .inl ⟨[.val L, .mu (es.map .int), .val (.int i), .val (.int x), s4], by simp [runFd, eS_skip, eS_seq, eS_asg, eS_asgM, eS_asgs, eS_two, eS_app, eS_setM, eS_aug, eS_ret, eS_retM, eS_ite, eS_drop, eS_brk, eS_cnt, thn_nx, thn_ret, eE_var, eE_non, eE_bl, eE_int, eE_str, eE_gint, eE_nil, eE_cons, eE_bin, eE_neg, eE_cmp, eE_chain, eE_not, eE_and, eE_or, eE_ite, eE_tup, eE_lst, eE_ix, eE_sl, eE_rev, eE_call, eE_callio, eE_bi, eE_isi, eE_rng, eE_rng2, eE_enum, eE_zip, eE_lrng, eE_trng, eE_edic, eE_lenM, eE_ixM, eE_nilM, eE_popM, startS, rdVar, getS_0, getS_s, rb_ok, ro_ok, of_some, oof_some, putS, List.getElem?_cons_zero, List.getElem?_cons_succ, bin_add, bin_sub, parOf, FR.ofIo, mutS, remut, bin_pow p18, cmp_ge_int, cmp_lt_int, c1', c2'], es, x, rfl, hE, le, hx⟩
theorem rngOk_nat {n : Nat} (h : n ≤ 1000000) : rngOk 0 (n : Int) := by
  unfold rngOk SL
  omega
theorem rngD_nat {n : Nat} (h : n ≤ 1000000) : rngD (.int 0) (.int (n : Int)) = some (.list (rangeD 0 n)) := by
  have := rngOk_nat h
  show (if rngOk 0 (n : Int) then some (PyData.list (rangeD 0 ((n : Int) - 0).toNat)) else none) = _
  rw [if_pos this, Int.sub_zero, Int.toNat_natCast]
theorem min63 (n : Nat) (hn : n ≤ 63) : (if (63 : Int) < (n : Int) then (63 : Int) else (n : Int)) = (n : Int) := if_neg (by omega)
theorem draws_src (Φ : Fns) (ns : List Int) (hn : ns.length ≤ 63) (r : Env) : evE Φ (.rng (.bi .min2 (.cons (.bi .len (.cons (.var 0) .nil)) (.cons (.int 63) .nil)))) (.val (.list (ns.map .int)) :: r) = .ok (.list (rangeD 0 ns.length)) (.val (.list (ns.map .int)) :: r) := by
  have e1 : evE Φ (.bi .len (.cons (.var 0) .nil)) (.val (.list (ns.map .int)) :: r) = .ok (.int ns.length) (.val (.list (ns.map .int)) :: r) := by
    rw [eE_bi, eE_cons, eE_var, rdVar, getS_0]
    show R.of (some (PyData.int ((ns.map PyData.int).length : Nat))) _ = _
    rw [List.length_map]
    rfl
  have e2 : biD .min2 [.int (ns.length : Int), .int 63] = some (.int (ns.length : Int)) := by
    show some (PyData.int (if (63 : Int) < (ns.length : Int) then 63 else (ns.length : Int))) = _
    rw [min63 _ hn]
  rw [eE_rng, eE_bi, eE_cons, e1, rb_ok, eE_cons, eE_int, rb_ok, eE_nil, rb_ok]
  show (R.of (biD .min2 [.int (ns.length : Int), .int 63]) _).bind _ = _
  rw [e2, of_some, rb_ok, rngD_nat (by omega)]
  rfl
theorem draws_ite (Φ : Fns) (h4 : ∀ c k : Int, k.natAbs < 2 ^ 64 → Φ 4 [.int c, .int k] = .ok (.int (mixedI c k)) []) (L : PyData) (i : Nat) (hi : i < 63) (c : Int) (ds : List Int) (hD : Draws ds) (hl : ds.length ≤ 900 + 13 * i) (s4 : Slot) (l4 : Lo s4) :
    ∃ (ds1 : List Int) (s4' : Slot), evS Φ (.ite (.cmp .lt (.var 3) (.bin .pow (.int 10) (.int 18))) (.seq (.for_ (.one 4) (.rng (.int 12)) (.seq (.app 1 (.call 4 (.cons (.call 4 (.cons (.var 3) (.cons (.bin .add (.bin .mul (.int 3) (.var 4)) (.int 1)) .nil))) (.cons (.bin .add (.bin .add (.var 4) (.var 2)) (.int 2)) .nil)))) .skip)) .skip) .skip) [.val L, .mu (ds.map .int), .val (.int i), .val (.int c), s4] = .nx [.val L, .mu (ds1.map .int), .val (.int i), .val (.int c), s4'] ∧ Draws ds1 ∧ ds1.length ≤ 912 + 13 * i ∧ Lo s4' := by
  have p18 : powOk 10 18 := by decide
  by_cases c1 : c < 1000000000000000000
  · obtain ⟨ds1, s4', e, h1, h2, h3⟩ := draws_for Φ h4 L i hi c ds hD hl s4 l4
    exact ⟨ds1, s4', by simp [runFd, eS_skip, eS_seq, eS_asg, eS_asgM, eS_asgs, eS_two, eS_app, eS_setM, eS_aug, eS_ret, eS_retM, eS_ite, eS_drop, eS_brk, eS_cnt, thn_nx, thn_ret, eE_var, eE_non, eE_bl, eE_int, eE_str, eE_gint, eE_nil, eE_cons, eE_bin, eE_neg, eE_cmp, eE_chain, eE_not, eE_and, eE_or, eE_ite, eE_tup, eE_lst, eE_ix, eE_sl, eE_rev, eE_call, eE_callio, eE_bi, eE_isi, eE_rng, eE_rng2, eE_enum, eE_zip, eE_lrng, eE_trng, eE_edic, eE_lenM, eE_ixM, eE_nilM, eE_popM, startS, rdVar, getS_0, getS_s, rb_ok, ro_ok, of_some, oof_some, putS, List.getElem?_cons_zero, List.getElem?_cons_succ, bin_add, bin_sub, parOf, FR.ofIo, mutS, remut, bin_pow p18, cmp_lt_int, c1, e], h1, h2, h3⟩
  · exact ⟨ds, s4, by simp [runFd, eS_skip, eS_seq, eS_asg, eS_asgM, eS_asgs, eS_two, eS_app, eS_setM, eS_aug, eS_ret, eS_retM, eS_ite, eS_drop, eS_brk, eS_cnt, thn_nx, thn_ret, eE_var, eE_non, eE_bl, eE_int, eE_str, eE_gint, eE_nil, eE_cons, eE_bin, eE_neg, eE_cmp, eE_chain, eE_not, eE_and, eE_or, eE_ite, eE_tup, eE_lst, eE_ix, eE_sl, eE_rev, eE_call, eE_callio, eE_bi, eE_isi, eE_rng, eE_rng2, eE_enum, eE_zip, eE_lrng, eE_trng, eE_edic, eE_lenM, eE_ixM, eE_nilM, eE_popM, startS, rdVar, getS_0, getS_s, rb_ok, ro_ok, of_some, oof_some, putS, List.getElem?_cons_zero, List.getElem?_cons_succ, bin_add, bin_sub, parOf, FR.ofIo, mutS, remut, bin_pow p18, cmp_lt_int, c1], hD, by omega, l4⟩
theorem draws_last (Φ : Fns) (L : PyData) (i : Nat) (c : Int) (ds : List Int) (hD : Draws ds) (hl : ds.length < 100000) (s4 : Slot) :
    ∃ (ds1 : List Int), evS Φ (.seq (.ite (.cmp .ge (.var 3) (.int 2147483629)) (.seq (.app 1 (.bin .mod (.var 3) (.int 2147483629))) .skip) .skip) .skip) [.val L, .mu (ds.map .int), .val (.int i), .val (.int c), s4] = .nx [.val L, .mu (ds1.map .int), .val (.int i), .val (.int c), s4] ∧ Draws ds1 ∧ ds1.length ≤ ds.length + 1 := by
  have hlt : ds.length < SL := by unfold SL; omega
  by_cases c3 : 2147483629 ≤ c
  · refine ⟨ds ++ [c % 2147483629], ?_, ?_, by rw [List.length_append, List.length_singleton]; exact Nat.le_refl _⟩
    · simp (disch := omega) [runFd, eS_skip, eS_seq, eS_asg, eS_asgM, eS_asgs, eS_two, eS_app, eS_setM, eS_aug, eS_ret, eS_retM, eS_ite, eS_drop, eS_brk, eS_cnt, thn_nx, thn_ret, eE_var, eE_non, eE_bl, eE_int, eE_str, eE_gint, eE_nil, eE_cons, eE_bin, eE_neg, eE_cmp, eE_chain, eE_not, eE_and, eE_or, eE_ite, eE_tup, eE_lst, eE_ix, eE_sl, eE_rev, eE_call, eE_callio, eE_bi, eE_isi, eE_rng, eE_rng2, eE_enum, eE_zip, eE_lrng, eE_trng, eE_edic, eE_lenM, eE_ixM, eE_nilM, eE_popM, startS, rdVar, getS_0, getS_s, rb_ok, ro_ok, of_some, oof_some, putS, List.getElem?_cons_zero, List.getElem?_cons_succ, bin_add, bin_sub, parOf, FR.ofIo, mutS, remut, cmp_ge_int, c3, bin_mod, hlt]
    · intro y hy
      rcases List.mem_append.mp hy with hy | hy
      · exact hD y hy
      · rw [List.mem_singleton.mp hy]; omega
  · exact ⟨ds, by simp [runFd, eS_skip, eS_seq, eS_asg, eS_asgM, eS_asgs, eS_two, eS_app, eS_setM, eS_aug, eS_ret, eS_retM, eS_ite, eS_drop, eS_brk, eS_cnt, thn_nx, thn_ret, eE_var, eE_non, eE_bl, eE_int, eE_str, eE_gint, eE_nil, eE_cons, eE_bin, eE_neg, eE_cmp, eE_chain, eE_not, eE_and, eE_or, eE_ite, eE_tup, eE_lst, eE_ix, eE_sl, eE_rev, eE_call, eE_callio, eE_bi, eE_isi, eE_rng, eE_rng2, eE_enum, eE_zip, eE_lrng, eE_trng, eE_edic, eE_lenM, eE_ixM, eE_nilM, eE_popM, startS, rdVar, getS_0, getS_s, rb_ok, ro_ok, of_some, oof_some, putS, List.getElem?_cons_zero, List.getElem?_cons_succ, bin_add, bin_sub, parOf, FR.ofIo, mutS, remut, cmp_ge_int, c3], hD, by omega⟩
theorem draws_turn (Φ : Fns) (h4 : ∀ c k : Int, k.natAbs < 2 ^ 64 → Φ 4 [.int c, .int k] = .ok (.int (mixedI c k)) []) (ns : List Int) (i : Nat) (hi : i < 63) (n : Int) (en : ns[i]? = some n) (ds : List Int) (hD : Draws ds) (hl : ds.length ≤ 900 + 13 * i) (s2 s3 s4 : Slot) (l2 : Lo s2) (l3 : Lo s3) (l4 : Lo s4) :
    ∃ (ds1 : List Int) (c : Int) (s4' : Slot), forF Φ (.one 2) (.seq (.asg 3 (.bi .abs (.cons (.ix (.var 0) (.var 2)) .nil))) (.seq (.ite (.cmp .lt (.var 3) (.bin .pow (.int 10) (.int 18))) (.seq (.for_ (.one 4) (.rng (.int 12)) (.seq (.app 1 (.call 4 (.cons (.call 4 (.cons (.var 3) (.cons (.bin .add (.bin .mul (.int 3) (.var 4)) (.int 1)) .nil))) (.cons (.bin .add (.bin .add (.var 4) (.var 2)) (.int 2)) .nil)))) .skip)) .skip) .skip) (.seq (.while_ (.and (.cmp .ge (.var 3) (.bin .pow (.int 10) (.int 18))) (.cmp .lt (.lenM 1) (.int 900))) (.seq (.app 1 (.bin .mod (.var 3) (.int 2147483629))) (.seq (.asg 3 (.bin .fdiv (.var 3) (.int 2147483629))) .skip))) (.seq (.ite (.cmp .ge (.var 3) (.int 2147483629)) (.seq (.app 1 (.bin .mod (.var 3) (.int 2147483629))) .skip) .skip) .skip)))) (.int (0 + (i : Int))) [.val (.list (ns.map .int)), .mu (ds.map .int), s2, s3, s4] = .nx [.val (.list (ns.map .int)), .mu (ds1.map .int), .val (.int i), .val (.int c), s4'] ∧ Draws ds1 ∧ ds1.length ≤ 900 + 13 * (i + 1) ∧ Lo s4' := by
  rw [forF_of (ρ' := [.val (.list (ns.map .int)), .mu (ds.map .int), .val (.int i), s3, s4]) (by rw [Int.zero_add]; exact putS_lo rfl l2)]
  have a1 : evS Φ (.asg 3 (.bi .abs (.cons (.ix (.var 0) (.var 2)) .nil))) [.val (.list (ns.map .int)), .mu (ds.map .int), .val (.int i), s3, s4] = .nx [.val (.list (ns.map .int)), .mu (ds.map .int), .val (.int i), .val (.int (if n < 0 then -n else n)), s4] := by
    have : ixD (.list (ns.map .int)) (.int i) = some (.int n) := by
      show ixAt (ns.map PyData.int) (i : Int) = _
      rw [ixAt_nat, List.getElem?_map, en]
      rfl
    rcases l3 with rfl | ⟨x, rfl⟩ <;> simp [runFd, eS_skip, eS_seq, eS_asg, eS_asgM, eS_asgs, eS_two, eS_app, eS_setM, eS_aug, eS_ret, eS_retM, eS_ite, eS_drop, eS_brk, eS_cnt, thn_nx, thn_ret, eE_var, eE_non, eE_bl, eE_int, eE_str, eE_gint, eE_nil, eE_cons, eE_bin, eE_neg, eE_cmp, eE_chain, eE_not, eE_and, eE_or, eE_ite, eE_tup, eE_lst, eE_ix, eE_sl, eE_rev, eE_call, eE_callio, eE_bi, eE_isi, eE_rng, eE_rng2, eE_enum, eE_zip, eE_lrng, eE_trng, eE_edic, eE_lenM, eE_ixM, eE_nilM, eE_popM, startS, rdVar, getS_0, getS_s, rb_ok, ro_ok, of_some, oof_some, putS, List.getElem?_cons_zero, List.getElem?_cons_succ, bin_add, bin_sub, parOf, FR.ofIo, mutS, remut, tupOf, biD, this]
  obtain ⟨c, c0, ec⟩ : ∃ c : Int, 0 ≤ c ∧ (if n < 0 then -n else n) = c := ⟨_, by split <;> omega, rfl⟩
  rw [ec] at a1
  obtain ⟨ds1, s4', e2, hD1, hl1, l4'⟩ := draws_ite Φ h4 (.list (ns.map .int)) i hi c ds hD hl s4 l4
  obtain ⟨ds2, c', e3, hD2, hl2, c0'⟩ := draws_while Φ (.list (ns.map .int)) i hi c c0 ds1 hD1 (912 + 13 * i) (by omega) hl1 s4'
  obtain ⟨ds3, e4, hD3, hl3⟩ := draws_last Φ (.list (ns.map .int)) i c' ds2 hD2 (by omega) s4'
  refine ⟨ds3, c', s4', ?_, hD3, by omega, l4'⟩
  rw [eS_seq, a1, thn_nx, eS_seq, e2, thn_nx, eS_seq, e3, thn_nx, e4]
theorem run5 (Φ : Fns) (h4 : ∀ c k : Int, k.natAbs < 2 ^ 64 → Φ 4 [.int c, .int k] = .ok (.int (mixedI c k)) []) (ns : List Int) (hn : ns.length ≤ 63) : ∃ ds, runFd Φ fd5 [.list (ns.map .int)] = .ok (.list (ds.map .int)) [] ∧ Draws ds := by
  obtain ⟨ρ', e, ds, s2, s3, s4, rfl, hD, _, _, _⟩ := forGo_inv (f := forF Φ (.one 2) (.seq (.asg 3 (.bi .abs (.cons (.ix (.var 0) (.var 2)) .nil))) (.seq (.ite (.cmp .lt (.var 3) (.bin .pow (.int 10) (.int 18))) (.seq (.for_ (.one 4) (.rng (.int 12)) (.seq (.app 1 (.call 4 (.cons (.call 4 (.cons (.var 3) (.cons (.bin .add (.bin .mul (.int 3) (.var 4)) (.int 1)) .nil))) (.cons (.bin .add (.bin .add (.var 4) (.var 2)) (.int 2)) .nil)))) .skip)) .skip) .skip) (.seq (.while_ (.and (.cmp .ge (.var 3) (.bin .pow (.int 10) (.int 18))) (.cmp .lt (.lenM 1) (.int 900))) (.seq (.app 1 (.bin .mod (.var 3) (.int 2147483629))) (.seq (.asg 3 (.bin .fdiv (.var 3) (.int 2147483629))) .skip))) (.seq (.ite (.cmp .ge (.var 3) (.int 2147483629)) (.seq (.app 1 (.bin .mod (.var 3) (.int 2147483629))) .skip) .skip) .skip))))) (ds := rangeD 0 ns.length)
      (fun i ρ => ∃ (ds : List Int) (s2 s3 s4 : Slot), ρ = [.val (.list (ns.map .int)), .mu (ds.map .int), s2, s3, s4] ∧ Draws ds ∧ ds.length ≤ 900 + 13 * i ∧ (Lo s2 ∧ Lo s3) ∧ Lo s4) (ρ := [.val (.list (ns.map .int)), .mu [], .un, .un, .un]) ⟨[], .un, .un, .un, rfl, (fun _ h => by cases h), Nat.zero_le _, ⟨.un, .un⟩, .un⟩ fun i d ρ hd ⟨ds, s2, s3, s4, e, hD, hl, ⟨l2, l3⟩, l4⟩ => by
        obtain ⟨rfl, hi⟩ := rangeD_get hd
        subst e
        obtain ⟨ds1, c, s4', e, h1, h2, h3⟩ := draws_turn Φ h4 ns i (by omega) _ (List.getElem?_eq_getElem hi) ds hD hl s2 s3 s4 l2 l3 l4
        exact ⟨_, .inl e, ds1, _, _, _, rfl, h1, h2, ⟨.val _, .val _⟩, h3⟩
  refine ⟨ds, ?_, hD⟩
  have e0 : evS Φ (.for_ (.one 2) (.rng (.bi .min2 (.cons (.bi .len (.cons (.var 0) .nil)) (.cons (.int 63) .nil)))) (.seq (.asg 3 (.bi .abs (.cons (.ix (.var 0) (.var 2)) .nil))) (.seq (.ite (.cmp .lt (.var 3) (.bin .pow (.int 10) (.int 18))) (.seq (.for_ (.one 4) (.rng (.int 12)) (.seq (.app 1 (.call 4 (.cons (.call 4 (.cons (.var 3) (.cons (.bin .add (.bin .mul (.int 3) (.var 4)) (.int 1)) .nil))) (.cons (.bin .add (.bin .add (.var 4) (.var 2)) (.int 2)) .nil)))) .skip)) .skip) .skip) (.seq (.while_ (.and (.cmp .ge (.var 3) (.bin .pow (.int 10) (.int 18))) (.cmp .lt (.lenM 1) (.int 900))) (.seq (.app 1 (.bin .mod (.var 3) (.int 2147483629))) (.seq (.asg 3 (.bin .fdiv (.var 3) (.int 2147483629))) .skip))) (.seq (.ite (.cmp .ge (.var 3) (.int 2147483629)) (.seq (.app 1 (.bin .mod (.var 3) (.int 2147483629))) .skip) .skip) .skip))))) [.val (.list (ns.map .int)), .mu [], .un, .un, .un] = .nx [.val (.list (ns.map .int)), .mu (ds.map .int), s2, s3, s4] := by
    rw [eS_for, draws_src Φ ns hn, ro_ok]
    exact e
  have e1 : evS Φ (.asgM 1 (.lst .nil)) [.val (.list (ns.map .int)), .un, .un, .un, .un] = .nx [.val (.list (ns.map .int)), .mu [], .un, .un, .un] := by simp [runFd, eS_skip, eS_seq, eS_asg, eS_asgM, eS_asgs, eS_two, eS_app, eS_setM, eS_aug, eS_ret, eS_retM, eS_ite, eS_drop, eS_brk, eS_cnt, thn_nx, thn_ret, eE_var, eE_non, eE_bl, eE_int, eE_str, eE_gint, eE_nil, eE_cons, eE_bin, eE_neg, eE_cmp, eE_chain, eE_not, eE_and, eE_or, eE_ite, eE_tup, eE_lst, eE_ix, eE_sl, eE_rev, eE_call, eE_callio, eE_bi, eE_isi, eE_rng, eE_rng2, eE_enum, eE_zip, eE_lrng, eE_trng, eE_edic, eE_lenM, eE_ixM, eE_nilM, eE_popM, startS, rdVar, getS_0, getS_s, rb_ok, ro_ok, of_some, oof_some, putS, List.getElem?_cons_zero, List.getElem?_cons_succ, bin_add, bin_sub, parOf, FR.ofIo, mutS, remut, tupOf]
  have e2 : evS Φ (.seq (.retM 1) .skip) [.val (.list (ns.map .int)), .mu (ds.map .int), s2, s3, s4] = .ret true (.list (ds.map .int)) [.val (.list (ns.map .int)), .mu (ds.map .int), s2, s3, s4] := by simp [runFd, eS_skip, eS_seq, eS_asg, eS_asgM, eS_asgs, eS_two, eS_app, eS_setM, eS_aug, eS_ret, eS_retM, eS_ite, eS_drop, eS_brk, eS_cnt, thn_nx, thn_ret, eE_var, eE_non, eE_bl, eE_int, eE_str, eE_gint, eE_nil, eE_cons, eE_bin, eE_neg, eE_cmp, eE_chain, eE_not, eE_and, eE_or, eE_ite, eE_tup, eE_lst, eE_ix, eE_sl, eE_rev, eE_call, eE_callio, eE_bi, eE_isi, eE_rng, eE_rng2, eE_enum, eE_zip, eE_lrng, eE_trng, eE_edic, eE_lenM, eE_ixM, eE_nilM, eE_popM, startS, rdVar, getS_0, getS_s, rb_ok, ro_ok, of_some, oof_some, putS, List.getElem?_cons_zero, List.getElem?_cons_succ, bin_add, bin_sub, parOf, FR.ofIo, mutS, remut]
  have e3 : evS Φ fd5.body [.val (.list (ns.map .int)), .un, .un, .un, .un] = .ret true (.list (ds.map .int)) [.val (.list (ns.map .int)), .mu (ds.map .int), s2, s3, s4] := by
    show evS Φ (.seq (.asgM 1 (.lst .nil)) (.seq (.for_ (.one 2) (.rng (.bi .min2 (.cons (.bi .len (.cons (.var 0) .nil)) (.cons (.int 63) .nil)))) (.seq (.asg 3 (.bi .abs (.cons (.ix (.var 0) (.var 2)) .nil))) (.seq (.ite (.cmp .lt (.var 3) (.bin .pow (.int 10) (.int 18))) (.seq (.for_ (.one 4) (.rng (.int 12)) (.seq (.app 1 (.call 4 (.cons (.call 4 (.cons (.var 3) (.cons (.bin .add (.bin .mul (.int 3) (.var 4)) (.int 1)) .nil))) (.cons (.bin .add (.bin .add (.var 4) (.var 2)) (.int 2)) .nil)))) .skip)) .skip) .skip) (.seq (.while_ (.and (.cmp .ge (.var 3) (.bin .pow (.int 10) (.int 18))) (.cmp .lt (.lenM 1) (.int 900))) (.seq (.app 1 (.bin .mod (.var 3) (.int 2147483629))) (.seq (.asg 3 (.bin .fdiv (.var 3) (.int 2147483629))) .skip))) (.seq (.ite (.cmp .ge (.var 3) (.int 2147483629)) (.seq (.app 1 (.bin .mod (.var 3) (.int 2147483629))) .skip) .skip) .skip))))) (.seq (.retM 1) .skip))) _ = _
    rw [eS_seq, e1, thn_nx, eS_seq, e0, thn_nx, e2]
  rw [runFd_of rfl]
  show (match evS Φ fd5.body [.val (.list (ns.map .int)), .un, .un, .un, .un] with
    | .nx ρ => if fd5.own then FR.bad else FR.ofIo .none (parOf fd5.io ρ)
    | .ret own d ρ => if own = fd5.own then FR.ofIo d (parOf fd5.io ρ) else FR.bad
    | .exc x ρ => FR.exIo x (parOf fd5.io ρ)
    | _ => FR.bad) = _
  rw [e3]
  rfl
theorem loop8 (Φ : Fns) (h : ∀ a b : Int, Φ 7 [.int a, .int b] = .ok (.int (Int.gcd a b)) []) (d b : PyData) : ∀ (ns : List Int) (g : Int) (s : Slot), Lo s → ∃ s', Lo s' ∧ forGo (forF Φ (.one 3) (.seq (.asg 2 (.call 7 (.cons (.var 2) (.cons (.var 3) .nil)))) .skip)) (ns.map .int) [.val d, .val b, .val (.int g), s] = .nx [.val d, .val b, .val (.int (ns.foldl gI g)), s']
  | [], g, s, hs => ⟨s, hs, rfl⟩
  | n :: r, g, s, hs => by
    obtain ⟨s', h1, e⟩ := loop8 Φ h d b r (gI g n) (.val (.int n)) (.val _)
    refine ⟨s', h1, ?_⟩
    have st : forF Φ (.one 3) (.seq (.asg 2 (.call 7 (.cons (.var 2) (.cons (.var 3) .nil)))) .skip) (.int n) [.val d, .val b, .val (.int g), s] = .nx [.val d, .val b, .val (.int (gI g n)), .val (.int n)] := by
      rcases hs with rfl | ⟨x, rfl⟩ <;> simp [forF, asgT, runFd, eS_skip, eS_seq, eS_asg, eS_asgM, eS_asgs, eS_two, eS_app, eS_setM, eS_aug, eS_ret, eS_retM, eS_ite, eS_drop, eS_brk, eS_cnt, thn_nx, thn_ret, eE_var, eE_non, eE_bl, eE_int, eE_str, eE_gint, eE_nil, eE_cons, eE_bin, eE_neg, eE_cmp, eE_chain, eE_not, eE_and, eE_or, eE_ite, eE_tup, eE_lst, eE_ix, eE_sl, eE_rev, eE_call, eE_callio, eE_bi, eE_isi, eE_rng, eE_rng2, eE_enum, eE_zip, eE_lrng, eE_trng, eE_edic, eE_lenM, eE_ixM, eE_nilM, eE_popM, startS, rdVar, getS_0, getS_s, rb_ok, ro_ok, of_some, oof_some, putS, List.getElem?_cons_zero, List.getElem?_cons_succ, bin_add, bin_sub, parOf, FR.ofIo, mutS, remut, tupOf, h, gI]
    rw [List.map_cons, forGo, st]
    exact e
theorem run8 (Φ : Fns) (h : ∀ a b : Int, Φ 7 [.int a, .int b] = .ok (.int (Int.gcd a b)) []) (ns : List Int) (b : Int) (hb : b ≠ 0) (hs : Sm 9000 b) (hl : ns.length < 1000) : runFd Φ fd8 [.list (ns.map .int), .int b] = .ok (.tuple ((lowT ns b).map .int)) [] := by
  obtain ⟨g0, g1⟩ := sgn_ok (ns := ns) hb
  have gs : Sm 9000 (sgn ns b) := Nat.lt_of_le_of_lt g1 hs
  obtain ⟨s1, l1, e1⟩ := loop8 Φ h (.list (ns.map .int)) (.int b) ns b .un .un
  obtain ⟨s2, e⟩ := comp_div Φ 2 (sgn ns b) g0 gs [.val (.list (ns.map .int)), .val (.int b), .val (.int (sgn ns b))] rfl rfl (by decide) ns s1
  have hc : evE Φ (.comp (.bin .fdiv (.var 3) (.var 2)) (.one 3) (.var 0) (.bl true) [3]) [.val (.list (ns.map .int)), .val (.int b), .val (.int (sgn ns b)), s1] = .ok (.list ((ns.map fun n => n.fdiv (sgn ns b)).map .int)) [.val (.list (ns.map .int)), .val (.int b), .val (.int (sgn ns b)), s1] := by
    rw [eE_comp]
    simp only [eE_var, rdVar, getS_0, rb_ok, itemsD]
    have : ownOk [3] [.val (.list (ns.map .int)), .val (.int b), .val (.int (sgn ns b)), s1] = true := by rcases l1 with rfl | ⟨x, rfl⟩ <;> rfl
    rw [this]
    dsimp only
    rw [show [Slot.val (.list (ns.map .int)), .val (.int b), .val (.int (sgn ns b)), s1] = [Slot.val (.list (ns.map .int)), .val (.int b), .val (.int (sgn ns b))] ++ [s1] from rfl, e]
    rfl
  have hcat : bin .add (.tuple ((ns.map fun n => n.fdiv (sgn ns b)).map .int)) (.tuple [.int (b.fdiv (sgn ns b))]) = some (.tuple ((ns.map fun n => n.fdiv (sgn ns b)).map .int ++ [.int (b.fdiv (sgn ns b))])) := bin_cat (by simp [SL]; omega)
  have hg := gI_fold ns b
  have i3 : itemsD (.list (ns.map .int)) = some (ns.map PyData.int) := rfl
  by_cases hb0 : b < 0
  · have hsg : (if ns.foldl gI b < 0 then 0 + ns.foldl gI b else 0 - ns.foldl gI b) = sgn ns b := by
      unfold sgn
      rw [if_pos hb0]
      split <;> omega
    have hsg2 : 0 - (if ns.foldl gI b < 0 then -ns.foldl gI b else ns.foldl gI b) = sgn ns b := by
      rw [← hsg]
      split <;> omega
    simp (disch := assumption) [runFd, eS_skip, eS_seq, eS_asg, eS_asgM, eS_asgs, eS_two, eS_app, eS_setM, eS_aug, eS_ret, eS_retM, eS_ite, eS_drop, eS_brk, eS_cnt, thn_nx, thn_ret, eE_var, eE_non, eE_bl, eE_int, eE_str, eE_gint, eE_nil, eE_cons, eE_bin, eE_neg, eE_cmp, eE_chain, eE_not, eE_and, eE_or, eE_ite, eE_tup, eE_lst, eE_ix, eE_sl, eE_rev, eE_call, eE_callio, eE_bi, eE_isi, eE_rng, eE_rng2, eE_enum, eE_zip, eE_lrng, eE_trng, eE_edic, eE_lenM, eE_ixM, eE_nilM, eE_popM, startS, rdVar, getS_0, getS_s, rb_ok, ro_ok, of_some, oof_some, putS, List.getElem?_cons_zero, List.getElem?_cons_succ, bin_add, bin_sub, parOf, FR.ofIo, mutS, remut, -List.map_map, fd8, tupOf, cmp_lt_int, hb0, eS_for, i3, e1, biD, hsg2, hc, divOk_of, hcat, lowT]
  · have hge : 0 ≤ ns.foldl gI b := by
      have : ∀ (l : List Int) (a : Int), 0 ≤ a → 0 ≤ l.foldl gI a := fun l => by
        induction l with
        | nil => intro a h; exact h
        | cons x r ih => intro a h; exact ih _ (Int.natCast_nonneg _)
      exact this ns b (by omega)
    have hsg : ns.foldl gI b = sgn ns b := by
      unfold sgn
      rw [if_neg hb0]
      omega
    rw [hsg] at e1
    simp (disch := assumption) [runFd, eS_skip, eS_seq, eS_asg, eS_asgM, eS_asgs, eS_two, eS_app, eS_setM, eS_aug, eS_ret, eS_retM, eS_ite, eS_drop, eS_brk, eS_cnt, thn_nx, thn_ret, eE_var, eE_non, eE_bl, eE_int, eE_str, eE_gint, eE_nil, eE_cons, eE_bin, eE_neg, eE_cmp, eE_chain, eE_not, eE_and, eE_or, eE_ite, eE_tup, eE_lst, eE_ix, eE_sl, eE_rev, eE_call, eE_callio, eE_bi, eE_isi, eE_rng, eE_rng2, eE_enum, eE_zip, eE_lrng, eE_trng, eE_edic, eE_lenM, eE_ixM, eE_nilM, eE_popM, startS, rdVar, getS_0, getS_s, rb_ok, ro_ok, of_some, oof_some, putS, List.getElem?_cons_zero, List.getElem?_cons_succ, bin_add, bin_sub, parOf, FR.ofIo, mutS, remut, -List.map_map, fd8, tupOf, cmp_lt_int, hb0, eS_for, i3, e1, biD, hc, divOk_of, hcat, lowT]
/-- two rows of the same ints -/
theorem same_comp (Φ : Fns) (h : ∀ a : Int, Φ 31 [.int a, .int a] = .ok (.bool true) []) (x y : PyData) : ∀ (ns : List Int) (s2 s3 : Slot), ∃ s2' s3' : Slot, compGo (turnC [2, 3] (.many [2, 3]) (evE Φ (.bl true)) (evE Φ (.call 31 (.cons (.var 2) (.cons (.var 3) .nil))))) (zipL (ns.map .int) (ns.map .int)) [.val x, .val y, s2, s3] = .ok (ns.map fun _ => .bool true) [.val x, .val y, s2', s3']
  | [], s2, s3 => ⟨s2, s3, rfl⟩
  | n :: r, s2, s3 => by
    obtain ⟨s2', s3', e⟩ := same_comp Φ h x y r (.val (.int n)) (.val (.int n))
    refine ⟨s2', s3', ?_⟩
    have st : turnC [2, 3] (.many [2, 3]) (evE Φ (.bl true)) (evE Φ (.call 31 (.cons (.var 2) (.cons (.var 3) .nil)))) (.tuple [.int n, .int n]) [.val x, .val y, s2, s3] = .ok (some (.bool true)) [.val x, .val y, .val (.int n), .val (.int n)] := by
      simp [turnC, wipeS, asgT, putAll, runFd, eS_skip, eS_seq, eS_asg, eS_asgM, eS_asgs, eS_two, eS_app, eS_setM, eS_aug, eS_ret, eS_retM, eS_ite, eS_drop, eS_brk, eS_cnt, thn_nx, thn_ret, eE_var, eE_non, eE_bl, eE_int, eE_str, eE_gint, eE_nil, eE_cons, eE_bin, eE_neg, eE_cmp, eE_chain, eE_not, eE_and, eE_or, eE_ite, eE_tup, eE_lst, eE_ix, eE_sl, eE_rev, eE_call, eE_callio, eE_bi, eE_isi, eE_rng, eE_rng2, eE_enum, eE_zip, eE_lrng, eE_trng, eE_edic, eE_lenM, eE_ixM, eE_nilM, eE_popM, startS, rdVar, getS_0, getS_s, rb_ok, ro_ok, of_some, oof_some, putS, List.getElem?_cons_zero, List.getElem?_cons_succ, bin_add, bin_sub, parOf, FR.ofIo, mutS, remut, tupOf, h]
    rw [List.map_cons, zipL, compGo, st]
    dsimp only
    rw [e]
    rfl
theorem run31i (Φ : Fns) (a : Int) : runFd Φ fd31 [.int a, .int a] = .ok (.bool true) [] := by
  simp [runFd, eS_skip, eS_seq, eS_asg, eS_asgM, eS_asgs, eS_two, eS_app, eS_setM, eS_aug, eS_ret, eS_retM, eS_ite, eS_drop, eS_brk, eS_cnt, thn_nx, thn_ret, eE_var, eE_non, eE_bl, eE_int, eE_str, eE_gint, eE_nil, eE_cons, eE_bin, eE_neg, eE_cmp, eE_chain, eE_not, eE_and, eE_or, eE_ite, eE_tup, eE_lst, eE_ix, eE_sl, eE_rev, eE_call, eE_callio, eE_bi, eE_isi, eE_rng, eE_rng2, eE_enum, eE_zip, eE_lrng, eE_trng, eE_edic, eE_lenM, eE_ixM, eE_nilM, eE_popM, startS, rdVar, getS_0, getS_s, rb_ok, ro_ok, of_some, oof_some, putS, List.getElem?_cons_zero, List.getElem?_cons_succ, bin_add, bin_sub, parOf, FR.ofIo, mutS, remut, fd31, isTy, cmp_ne_bool, cmp_eq_bool, cmp_eq_int]
theorem bools_true (ns : List Int) : boolsD (ns.map fun _ => PyData.bool true) = some (ns.map fun _ => true) := by
  induction ns with
  | nil => rfl
  | cons n r ih => rw [List.map_cons, boolsD, ih]; rfl
theorem run31t (Φ : Fns) (h : ∀ a : Int, Φ 31 [.int a, .int a] = .ok (.bool true) []) (ns : List Int) : runFd Φ fd31 [.tuple (ns.map .int), .tuple (ns.map .int)] = .ok (.bool true) [] := by
  obtain ⟨s2, s3, e⟩ := same_comp Φ h (.tuple (ns.map .int)) (.tuple (ns.map .int)) ns .un .un
  have hc : evE Φ (.comp (.call 31 (.cons (.var 2) (.cons (.var 3) .nil))) (.many [2, 3]) (.zip (.var 0) (.var 1)) (.bl true) [2, 3]) [.val (.tuple (ns.map .int)), .val (.tuple (ns.map .int)), .un, .un] = .ok (.list (ns.map fun _ => .bool true)) [.val (.tuple (ns.map .int)), .val (.tuple (ns.map .int)), .un, .un] := by
    rw [eE_comp]
    simp only [eE_zip, eE_var, rdVar, getS_0, getS_s, rb_ok, zipD, of_some, itemsD]
    have : ownOk [2, 3] [.val (.tuple (ns.map .int)), .val (.tuple (ns.map .int)), .un, .un] = true := rfl
    rw [this]
    dsimp only
    rw [e]
    rfl
  have ha : biD .all [.list (ns.map fun _ => .bool true)] = some (.bool true) := by
    show (boolsD _).map (fun bs => PyData.bool (bs.all id)) = _
    rw [bools_true]
    simp
  have hn : cmpD .ne (.int ns.length) (.int ns.length) = some false := by rw [cmp_ne_int]; simp
  have hlen : biD .len [.tuple (ns.map .int)] = some (.int ns.length) := by
    show some (PyData.int ((ns.map PyData.int).length : Nat)) = _
    rw [List.length_map]
  simp [runFd, eS_skip, eS_seq, eS_asg, eS_asgM, eS_asgs, eS_two, eS_app, eS_setM, eS_aug, eS_ret, eS_retM, eS_ite, eS_drop, eS_brk, eS_cnt, thn_nx, thn_ret, eE_var, eE_non, eE_bl, eE_int, eE_str, eE_gint, eE_nil, eE_cons, eE_bin, eE_neg, eE_cmp, eE_chain, eE_not, eE_and, eE_or, eE_ite, eE_tup, eE_lst, eE_ix, eE_sl, eE_rev, eE_call, eE_callio, eE_bi, eE_isi, eE_rng, eE_rng2, eE_enum, eE_zip, eE_lrng, eE_trng, eE_edic, eE_lenM, eE_ixM, eE_nilM, eE_popM, startS, rdVar, getS_0, getS_s, rb_ok, ro_ok, of_some, oof_some, putS, List.getElem?_cons_zero, List.getElem?_cons_succ, bin_add, bin_sub, parOf, FR.ofIo, mutS, remut, fd31, tupOf, isTy, cmp_ne_bool, hlen, hn, hc, ha]
theorem bin_mul_m {i j : Int} (h : i.natAbs < 2 ^ 250) (g : j.natAbs < 2 ^ 250) : bin .mul (.int i) (.int j) = some (.int (i * j)) := bin_mul_g (sm_mono (m := 250) h (by unfold GB; omega)) (sm_mono (m := 250) g (by unfold GB; omega))
theorem run_ret {Φ : Fns} {fd : Fd} {args : List PyData} {ρ0 ρ1 : Env} {own : Bool} {d : PyData} {io : List PyData} (hl : args.length = fd.pars) (h0 : startS 0 fd.io args ++ List.replicate (fd.size - fd.pars) .un = ρ0) (h : evS Φ fd.body ρ0 = .ret own d ρ1) (ho : own = fd.own) (hp : parOf fd.io ρ1 = some io) : runFd Φ fd args = .ok d io := by
  rw [runFd_of hl, h0, h]
  dsimp only
  rw [if_pos ho, hp]
  rfl
theorem far_list (Φ : Fns) (ρ : Env) : ∃ p q z : Int, evE Φ (.lst (.cons (.int 0) (.cons (.int 1) (.cons (.int 9) (.cons (.int 1000) (.cons (.bin .pow (.int 10) (.int 6)) (.cons (.bin .pow (.int 10) (.int 20)) (.cons (.bin .mul (.bin .pow (.int 10) (.int 60)) (.bin .pow (.int 10) (.int 37))) .nil)))))))) ρ = .ok (.list [.int 0, .int 1, .int 9, .int 1000, .int p, .int q, .int z]) ρ ∧ (0 ≤ p ∧ p ≤ 10 ^ 97) ∧ (0 ≤ q ∧ q ≤ 10 ^ 97) ∧ (0 ≤ z ∧ z ≤ 10 ^ 97) := by
  obtain ⟨p, hp, q6⟩ : ∃ p : Int, (0 ≤ p ∧ p ≤ 10 ^ 97) ∧ bin .pow (.int 10) (.int 6) = some (.int p) := ⟨1000000, by decide, bin_pow (by decide)⟩
  obtain ⟨q, hq, q20⟩ : ∃ p : Int, (0 ≤ p ∧ p ≤ 10 ^ 97) ∧ bin .pow (.int 10) (.int 20) = some (.int p) := ⟨100000000000000000000, by decide, bin_pow (by decide)⟩
  obtain ⟨x, hx, q60⟩ : ∃ p : Int, (0 ≤ p ∧ p ≤ 10 ^ 60) ∧ bin .pow (.int 10) (.int 60) = some (.int p) := ⟨10 ^ 60, by decide, bin_pow (by decide)⟩
  obtain ⟨y, hy, q37⟩ : ∃ p : Int, (0 ≤ p ∧ p ≤ 10 ^ 37) ∧ bin .pow (.int 10) (.int 37) = some (.int p) := ⟨10 ^ 37, by decide, bin_pow (by decide)⟩
  have qm : bin .mul (.int x) (.int y) = some (.int (x * y)) := bin_mul_m (by omega) (by omega)
  refine ⟨p, q, x * y, ?_, hp, hq, Int.mul_nonneg hx.1 hy.1, ?_⟩
  · simp only [eE_lst, eE_cons, eE_int, eE_nil, rb_ok, eE_bin, q6, q20, q60, q37, qm, of_some, tupOf]
  · have := Int.mul_le_mul hx.2 hy.2 hy.1 (by decide)
    exact Int.le_trans this (by decide)
theorem far_pick (Φ : Fns) (n : Int) : ∃ size : Int, 0 ≤ size ∧ size ≤ 10 ^ 97 ∧ evE Φ (.ix (.lst (.cons (.int 0) (.cons (.int 1) (.cons (.int 9) (.cons (.int 1000) (.cons (.bin .pow (.int 10) (.int 6)) (.cons (.bin .pow (.int 10) (.int 20)) (.cons (.bin .mul (.bin .pow (.int 10) (.int 60)) (.bin .pow (.int 10) (.int 37))) .nil)))))))) (.bin .mod (.var 0) (.int 7))) [.val (.int n), .un, .un] = .ok (.int size) [.val (.int n), .un, .un] := by
  obtain ⟨p, q, z, l, hp, hq, hz⟩ := far_list Φ [.val (.int n), .un, .un]
  have m : bin .mod (.int n) (.int 7) = some (.int (n % 7)) := bin_mod (by decide)
  have : n % 7 = 0 ∨ n % 7 = 1 ∨ n % 7 = 2 ∨ n % 7 = 3 ∨ n % 7 = 4 ∨ n % 7 = 5 ∨ n % 7 = 6 := by omega
  rcases this with e | e | e | e | e | e | e <;> rw [e] at m <;> rw [eE_ix, l, rb_ok, eE_bin, eE_var, rd_val rfl, rb_ok, eE_int, rb_ok, m, of_some, rb_ok]
  · exact ⟨0, by decide, by decide, rfl⟩
  · exact ⟨1, by decide, by decide, rfl⟩
  · exact ⟨9, by decide, by decide, rfl⟩
  · exact ⟨1000, by decide, by decide, rfl⟩
  · exact ⟨p, hp.1, hp.2, rfl⟩
  · exact ⟨q, hq.1, hq.2, rfl⟩
  · exact ⟨z, hz.1, hz.2, rfl⟩
theorem run14 (Φ : Fns) (n : Int) (h0 : 0 ≤ n) (h1 : n < 2147483629) : ∃ v : Int, runFd Φ fd14 [.int n] = .ok (.int v) [] ∧ v.natAbs < 10 ^ 110 := by
  obtain ⟨size, z0, z1, e⟩ := far_pick Φ n
  have hA : (n / 7 * 7919 + 1).natAbs < 2 ^ 64 := by omega
  have hA1 : 0 ≤ n / 7 * 7919 + 1 ∧ n / 7 * 7919 + 1 ≤ 10 ^ 13 := by omega
  have hprod : 0 ≤ (n / 7 * 7919 + 1) * size ∧ (n / 7 * 7919 + 1) * size ≤ 10 ^ 13 * 10 ^ 97 := ⟨Int.mul_nonneg hA1.1 z0, Int.mul_le_mul hA1.2 z1 z0 (by decide)⟩
  obtain ⟨f, hf⟩ : ∃ f, f = (n / 7 * 7919 + 1) * size / 1000 + n / 7 % 10 := ⟨_, rfl⟩
  have hfb : 0 ≤ f ∧ f < 10 ^ 109 := by
    rw [hf]
    generalize (n / 7 * 7919 + 1) * size = p at hprod
    omega
  have sg : ∃ s : Int, (s = 1 ∨ s = -1) ∧ ∀ f' : Int, evE Φ (.ix (.lst (.cons (.int 1) (.cons (.neg (.int 1)) .nil))) (.bin .mod (.bin .fdiv (.var 0) (.int 70)) (.int 2))) [.val (.int n), .val (.int size), .val (.int f')] = .ok (.int s) [.val (.int n), .val (.int size), .val (.int f')] := by
    have d : bin .fdiv (.int n) (.int 70) = some (.int (n / 70)) := bin_div (by decide) (by decide)
    have m : bin .mod (.int (n / 70)) (.int 2) = some (.int (n / 70 % 2)) := bin_mod (by decide)
    have : n / 70 % 2 = 0 ∨ n / 70 % 2 = 1 := by omega
    rcases this with e | e <;> rw [e] at m
    · exact ⟨1, .inl rfl, fun f' => by simp only [eE_ix, eE_lst, eE_cons, eE_int, eE_neg, eE_nil, rb_ok, tupOf, eE_bin, eE_var, rd_val (show getS [Slot.val (PyData.int n), .val (.int size), .val (.int f')] 0 = .val (.int n) from rfl), d, m, of_some]; rfl⟩
    · exact ⟨-1, .inr rfl, fun f' => by simp only [eE_ix, eE_lst, eE_cons, eE_int, eE_neg, eE_nil, rb_ok, tupOf, eE_bin, eE_var, rd_val (show getS [Slot.val (PyData.int n), .val (.int size), .val (.int f')] 0 = .val (.int n) from rfl), d, m, of_some]; rfl⟩
  obtain ⟨s, hs, es⟩ := sg
  have ms : bin .mul (.int f) (.int s) = some (.int (f * s)) := bin_mul_r (by rcases hs with rfl | rfl <;> decide)
  refine ⟨f * s, ?_, by rcases hs with rfl | rfl <;> omega⟩
  have a1 : evS Φ (.asg 2 (.bin .add (.bin .fdiv (.bin .mul (.bin .add (.bin .mul (.bin .fdiv (.var 0) (.int 7)) (.int 7919)) (.int 1)) (.var 1)) (.int 1000)) (.bin .mod (.bin .fdiv (.var 0) (.int 7)) (.int 10)))) [.val (.int n), .val (.int size), .un] = .nx [.val (.int n), .val (.int size), .val (.int f)] := by
    simp (disch := omega) [runFd, eS_skip, eS_seq, eS_asg, eS_asgM, eS_asgs, eS_two, eS_app, eS_setM, eS_aug, eS_ret, eS_retM, eS_ite, eS_drop, eS_brk, eS_cnt, thn_nx, thn_ret, eE_var, eE_non, eE_bl, eE_int, eE_str, eE_gint, eE_nil, eE_cons, eE_bin, eE_neg, eE_cmp, eE_chain, eE_not, eE_and, eE_or, eE_ite, eE_tup, eE_lst, eE_ix, eE_sl, eE_rev, eE_call, eE_callio, eE_bi, eE_isi, eE_rng, eE_rng2, eE_enum, eE_zip, eE_lrng, eE_trng, eE_edic, eE_lenM, eE_ixM, eE_nilM, eE_popM, startS, rdVar, getS_0, getS_s, rb_ok, ro_ok, of_some, oof_some, putS, List.getElem?_cons_zero, List.getElem?_cons_succ, bin_add, bin_sub, parOf, FR.ofIo, mutS, remut, bin_div, bin_mul_l, bin_mul_r, bin_mod, hf]
  have a0 : evS Φ (.asg 1 (.ix (.lst (.cons (.int 0) (.cons (.int 1) (.cons (.int 9) (.cons (.int 1000) (.cons (.bin .pow (.int 10) (.int 6)) (.cons (.bin .pow (.int 10) (.int 20)) (.cons (.bin .mul (.bin .pow (.int 10) (.int 60)) (.bin .pow (.int 10) (.int 37))) .nil)))))))) (.bin .mod (.var 0) (.int 7)))) [.val (.int n), .un, .un] = .nx [.val (.int n), .val (.int size), .un] := by
    rw [eS_asg, e]
    rfl
  have a2 : evS Φ (.seq (.ret (.bin .mul (.var 2) (.ix (.lst (.cons (.int 1) (.cons (.neg (.int 1)) .nil))) (.bin .mod (.bin .fdiv (.var 0) (.int 70)) (.int 2))))) .skip) [.val (.int n), .val (.int size), .val (.int f)] = .ret false (.int (f * s)) [.val (.int n), .val (.int size), .val (.int f)] := by
    rw [eS_seq, eS_ret, eE_bin, eE_var, rd_val rfl, rb_ok, es f, rb_ok, ms, of_some]
    rfl
  have a3 : evS Φ fd14.body [.val (.int n), .un, .un] = .ret false (.int (f * s)) [.val (.int n), .val (.int size), .val (.int f)] := by
    unfold fd14
    rw [eS_seq, a0, thn_nx, eS_seq, a1, thn_nx, a2]
  exact run_ret rfl rfl a3 rfl rfl
theorem run16 (Φ : Fns) : ∃ a b : Int, runFd Φ fd16 [] = .ok (.tuple [.int a, .int b]) [] ∧ 0 < a ∧ 0 < b ∧ Int.gcd a b = 1 ∧ a.natAbs < 10 ^ 300 ∧ b.natAbs < 10 ^ 300 := by
  have p1 : bin .pow (.int 10) (.int 58) = some (.int (10 ^ 58)) := bin_pow (by decide)
  have p2 : bin .pow (.int (10 ^ 58)) (.int 5) = some (.int ((10 ^ 58) ^ 5)) := bin_pow (by decide)
  obtain ⟨N, hN, hN1, p3⟩ : ∃ N : Int, 0 < N ∧ N < 10 ^ 299 ∧ bin .pow (.int (10 ^ 58)) (.int 5) = some (.int N) := ⟨_, by decide, by decide, p2⟩
  have hN2 : N < 10 ^ 299 := hN1
  have cond : ∀ ρ, evE Φ (.cmp .lt (.var 1) (.bin .pow (.bin .pow (.int 10) (.int 58)) (.int 5))) ρ = (rdVar ρ 1).bind fun x ρ => .of ((cmpD .lt x (.int N)).map .bool) ρ := fun ρ => by
    simp only [eE_cmp, eE_var, eE_bin, eE_int, rb_ok, p1, of_some, p3]
  have w : ∃ a b : Int, evS Φ (.while_ (.cmp .lt (.var 1) (.bin .pow (.bin .pow (.int 10) (.int 58)) (.int 5))) (.seq (.two 0 1 (.var 1) (.bin .add (.var 0) (.var 1))) .skip)) [.val (.int 1), .val (.int 1)] = .nx [.val (.int a), .val (.int b)] ∧ 0 < a ∧ a ≤ b ∧ Int.gcd a b = 1 ∧ b < 2 * N + 2 := by
    rw [eS_while]
    refine whileD_inv (P := fun o => ∃ a b : Int, o = .nx [.val (.int a), .val (.int b)] ∧ 0 < a ∧ a ≤ b ∧ Int.gcd a b = 1 ∧ b < 2 * N + 2) (I := fun m ρ => ∃ x y : Int, ρ = [.val (.int x), .val (.int y)] ∧ 0 < x ∧ x ≤ y ∧ Int.gcd x y = 1 ∧ y < 2 * N + 2 ∧ m = (2 * N + 2 - y).toNat) ?_ _ _ ⟨1, 1, rfl, by decide, by decide, by decide, by omega, rfl⟩
    rintro m ρ ⟨x, y, rfl, hx, hxy, hg, hy, rfl⟩
    by_cases h : y < N
    · refine .inr ⟨[.val (.int x), .val (.int y)], by rw [cond, rd_val rfl, rb_ok, cmp_lt_int, decide_eq_true h]; rfl, .inl ⟨[.val (.int y), .val (.int (x + y))], _, .inl (by simp [runFd, eS_skip, eS_seq, eS_asg, eS_asgM, eS_asgs, eS_two, eS_app, eS_setM, eS_aug, eS_ret, eS_retM, eS_ite, eS_drop, eS_brk, eS_cnt, thn_nx, thn_ret, eE_var, eE_non, eE_bl, eE_int, eE_str, eE_gint, eE_nil, eE_cons, eE_bin, eE_neg, eE_cmp, eE_chain, eE_not, eE_and, eE_or, eE_ite, eE_tup, eE_lst, eE_ix, eE_sl, eE_rev, eE_call, eE_callio, eE_bi, eE_isi, eE_rng, eE_rng2, eE_enum, eE_zip, eE_lrng, eE_trng, eE_edic, eE_lenM, eE_ixM, eE_nilM, eE_popM, startS, rdVar, getS_0, getS_s, rb_ok, ro_ok, of_some, oof_some, putS, List.getElem?_cons_zero, List.getElem?_cons_succ, bin_add, bin_sub, parOf, FR.ofIo, mutS, remut]), ?_, y, x + y, rfl, by omega, by omega, ?_, by omega, rfl⟩⟩
      · omega
      · have := Int.gcd_add_mul_right_right y x 1
        rw [Int.one_mul] at this
        rw [this, Int.gcd_comm, hg]
    · exact .inl ⟨[.val (.int x), .val (.int y)], by rw [cond, rd_val rfl, rb_ok, cmp_lt_int, decide_eq_false h]; rfl, x, y, rfl, hx, hxy, hg, hy⟩
  obtain ⟨a, b, e, h1, h2, h3, h4⟩ := w
  refine ⟨a, b, ?_, h1, by omega, h3, ?_, ?_⟩
  · have a0 : evS Φ (.asgs [0, 1] (.tup (.cons (.int 1) (.cons (.int 1) .nil)))) [.un, .un] = .nx [.val (.int 1), .val (.int 1)] := by simp [runFd, eS_skip, eS_seq, eS_asg, eS_asgM, eS_asgs, eS_two, eS_app, eS_setM, eS_aug, eS_ret, eS_retM, eS_ite, eS_drop, eS_brk, eS_cnt, thn_nx, thn_ret, eE_var, eE_non, eE_bl, eE_int, eE_str, eE_gint, eE_nil, eE_cons, eE_bin, eE_neg, eE_cmp, eE_chain, eE_not, eE_and, eE_or, eE_ite, eE_tup, eE_lst, eE_ix, eE_sl, eE_rev, eE_call, eE_callio, eE_bi, eE_isi, eE_rng, eE_rng2, eE_enum, eE_zip, eE_lrng, eE_trng, eE_edic, eE_lenM, eE_ixM, eE_nilM, eE_popM, startS, rdVar, getS_0, getS_s, rb_ok, ro_ok, of_some, oof_some, putS, List.getElem?_cons_zero, List.getElem?_cons_succ, bin_add, bin_sub, parOf, FR.ofIo, mutS, remut, tupOf, asgT, putAll]
    have a2 : evS Φ (.seq (.ret (.tup (.cons (.var 0) (.cons (.var 1) .nil)))) .skip) [.val (.int a), .val (.int b)] = .ret false (.tuple [.int a, .int b]) [.val (.int a), .val (.int b)] := by simp [runFd, eS_skip, eS_seq, eS_asg, eS_asgM, eS_asgs, eS_two, eS_app, eS_setM, eS_aug, eS_ret, eS_retM, eS_ite, eS_drop, eS_brk, eS_cnt, thn_nx, thn_ret, eE_var, eE_non, eE_bl, eE_int, eE_str, eE_gint, eE_nil, eE_cons, eE_bin, eE_neg, eE_cmp, eE_chain, eE_not, eE_and, eE_or, eE_ite, eE_tup, eE_lst, eE_ix, eE_sl, eE_rev, eE_call, eE_callio, eE_bi, eE_isi, eE_rng, eE_rng2, eE_enum, eE_zip, eE_lrng, eE_trng, eE_edic, eE_lenM, eE_ixM, eE_nilM, eE_popM, startS, rdVar, getS_0, getS_s, rb_ok, ro_ok, of_some, oof_some, putS, List.getElem?_cons_zero, List.getElem?_cons_succ, bin_add, bin_sub, parOf, FR.ofIo, mutS, remut, tupOf]
    have a3 : evS Φ fd16.body [.un, .un] = .ret false (.tuple [.int a, .int b]) [.val (.int a), .val (.int b)] := by
      unfold fd16
      rw [eS_seq, a0, thn_nx, eS_seq, e, thn_nx, a2]
    rw [runFd_of rfl]
    show (match evS Φ fd16.body [.un, .un] with
      | .nx ρ => if fd16.own then FR.bad else FR.ofIo .none (parOf fd16.io ρ)
      | .ret own d ρ => if own = fd16.own then FR.ofIo d (parOf fd16.io ρ) else FR.bad
      | .exc x ρ => FR.exIo x (parOf fd16.io ρ)
      | _ => FR.bad) = _
    rw [a3]
    rfl
  · omega
  · omega
/-- what the law's callees do -/
structure Hyp32 (Φ : Fns) (far : Int → Int) : Prop where
  h6 : ∀ ds : List Int, Φ 6 [.list (ds.map .int)] = .ok (.int (nx ds)) ((tl ds).map .int)
  h14 : ∀ n : Int, 0 ≤ n → n < 2147483629 → Φ 14 [.int n] = .ok (.int (far n)) [] ∧ (far n).natAbs < 10 ^ 110
  h8 : ∀ (ns : List Int) (b : Int), b ≠ 0 → b.natAbs < 10 ^ 130 → ns.length < 1000 → Φ 8 [.list (ns.map .int), .int b] = .ok (.tuple ((lowT ns b).map .int)) []
  h30 : ∀ (ns : List Int) (b : Int), b ≠ 0 → b.natAbs < 10 ^ 301 → ns.length < 1000 → Φ 30 [.tuple (ns.map .int), .int b] = .ok (.tuple ((lowT ns b).map .int)) []
  h31 : ∀ ns : List Int, Φ 31 [.tuple (ns.map .int), .tuple (ns.map .int)] = .ok (.bool true) []
theorem lowT_scale (f : Int) (hf : f ≠ 0) (ns : List Int) (b : Int) (hb : b ≠ 0) : lowT (ns.map (f * ·)) (f * b) = lowT ns b := by
  have hfold : ∀ (l : List Int) (a : Int), ((l.map (f * ·)).foldl gI (f * a)).natAbs = (f * (l.foldl gI a)).natAbs := fun l => by
    induction l with
    | nil => intro a; rfl
    | cons x r ih =>
      intro a
      show ((r.map (f * ·)).foldl gI (gI (f * a) (f * x))).natAbs = (f * (r.foldl gI (gI a x))).natAbs
      have e : gI (f * a) (f * x) = (f.natAbs : Int) * gI a x := by
        unfold gI
        rw [Int.gcd_mul_left]
        simp
      have h1 := ih (gI a x)
      have h2 := gI_fold (r.map (f * ·)) (gI (f * a) (f * x))
      have h3 := gI_fold (r.map (f * ·)) (f * gI a x)
      rw [h2, ← h1, h3, e]
      simp only [Int.gcd, Int.natAbs_mul, Int.natAbs_natCast]
  have hg : Int.gcd ((ns.map (f * ·)).foldl gI 0) (f * b) = f.natAbs * Int.gcd (ns.foldl gI 0) b := by
    have h := hfold ns 0
    rw [Int.mul_zero] at h
    have e : Int.gcd ((ns.map (f * ·)).foldl gI 0) (f * b) = Nat.gcd ((ns.map (f * ·)).foldl gI 0).natAbs (f * b).natAbs := rfl
    rw [e, h, Int.natAbs_mul, Int.natAbs_mul, Nat.gcd_mul_left]
    rfl
  have hs : sgn (ns.map (f * ·)) (f * b) = f * sgn ns b := by
    unfold sgn
    rw [hg]
    rcases Int.lt_or_gt_of_ne hf with h | h
    · have hfn : (f.natAbs : Int) = -f := by omega
      by_cases hb0 : b < 0
      · rw [if_pos hb0, if_neg (by have := Int.mul_pos_of_neg_of_neg h hb0; omega)]
        push_cast
        rw [hfn, Int.neg_mul, Int.zero_sub, Int.mul_neg]
      · have hb1 : 0 < b := by omega
        rw [if_neg hb0, if_pos (Int.mul_neg_of_neg_of_pos h hb1)]
        push_cast
        rw [hfn, Int.neg_mul, Int.zero_sub, Int.neg_neg]
    · have hfn : (f.natAbs : Int) = f := by omega
      by_cases hb0 : b < 0
      · rw [if_pos hb0, if_pos (Int.mul_neg_of_pos_of_neg h hb0)]
        push_cast
        rw [hfn, Int.zero_sub, Int.zero_sub, Int.mul_neg]
      · have hb1 : 0 < b := by omega
        rw [if_neg hb0, if_neg (by have := Int.mul_pos h hb1; omega)]
        push_cast
        rw [hfn]
  have h0 := (sgn_ok (ns := ns) hb).1
  unfold lowT
  rw [hs]
  have q : ∀ x : Int, (f * x).fdiv (f * sgn ns b) = x.fdiv (sgn ns b) := fun x => by
    rcases Int.lt_or_gt_of_ne hf with h | h
    · have e1 : f * x = (-f) * (-x) := by rw [Int.neg_mul_neg]
      have e2 : f * sgn ns b = (-f) * (-(sgn ns b)) := by rw [Int.neg_mul_neg]
      rw [e1, e2, Int.mul_fdiv_mul_of_pos _ _ (by omega), Int.neg_fdiv_neg]
    · rw [Int.mul_fdiv_mul_of_pos _ _ h]
  rw [q, List.map_map]
  congr 1
  exact List.map_congr_left fun x _ => q x
theorem lowT_zeros (n : Nat) (b : Int) (hb : b ≠ 0) : lowT (List.replicate n 0) b = List.replicate n 0 ++ [1] := by
  have hz : ∀ n : Nat, (List.replicate n (0 : Int)).foldl gI 0 = 0 := fun n => by
    induction n with
    | zero => rfl
    | succ n ih => rw [List.replicate_succ, List.foldl_cons]; exact ih
  have hs : sgn (List.replicate n 0) b = b := by
    unfold sgn
    rw [hz]
    simp
    split <;> omega
  unfold lowT
  rw [hs, Int.fdiv_self hb]
  simp
theorem lowT_two (a b : Int) (ha : 0 < a) (hb : 0 < b) (g : Int.gcd a b = 1) : lowT [2 * a] (2 * b) = [a, b] := by
  have hs : sgn [2 * a] (2 * b) = 2 := by
    unfold sgn
    rw [if_neg (by omega)]
    have : (List.foldl gI 0 [2 * a] : Int) = 2 * a := by
      show ((Int.gcd 0 (2 * a) : Nat) : Int) = 2 * a
      rw [Int.gcd_zero_left]
      omega
    rw [this, Int.gcd_mul_left, g]
    rfl
  unfold lowT
  rw [hs]
  show [(2 * a).fdiv 2] ++ [(2 * b).fdiv 2] = _
  rw [Int.mul_fdiv_cancel_left _ (by decide), Int.mul_fdiv_cancel_left _ (by decide)]
  rfl
theorem nxE {Φ : Fns} {far : Int → Int} (h : Hyp32 Φ far) (L : PyData) (ds : List Int) (r : Env) : evE Φ (.callio 6 0 1 .nil) (.val L :: .mu (ds.map .int) :: r) = .ok (.int (nx ds)) (.val L :: .mu ((tl ds).map .int) :: r) := by
  simp [runFd, eS_skip, eS_seq, eS_asg, eS_asgM, eS_asgs, eS_two, eS_app, eS_setM, eS_aug, eS_ret, eS_retM, eS_ite, eS_drop, eS_brk, eS_cnt, thn_nx, thn_ret, eE_var, eE_non, eE_bl, eE_int, eE_str, eE_gint, eE_nil, eE_cons, eE_bin, eE_neg, eE_cmp, eE_chain, eE_not, eE_and, eE_or, eE_ite, eE_tup, eE_lst, eE_ix, eE_sl, eE_rev, eE_call, eE_callio, eE_bi, eE_isi, eE_rng, eE_rng2, eE_enum, eE_zip, eE_lrng, eE_trng, eE_edic, eE_lenM, eE_ixM, eE_nilM, eE_popM, startS, rdVar, getS_0, getS_s, rb_ok, ro_ok, of_some, oof_some, putS, List.getElem?_cons_zero, List.getElem?_cons_succ, bin_add, bin_sub, parOf, FR.ofIo, mutS, remut, tupOf, insAt, h.h6]
theorem farE {Φ : Fns} {far : Int → Int} (h : Hyp32 Φ far) (L : PyData) (ds : List Int) (hD : Draws ds) (r : Env) : evE Φ (.call 14 (.cons (.callio 6 0 1 .nil) .nil)) (.val L :: .mu (ds.map .int) :: r) = .ok (.int (far (nx ds))) (.val L :: .mu ((tl ds).map .int) :: r) := by
  rw [eE_call, eE_cons, nxE h, rb_ok, eE_nil, rb_ok, rb_ok]
  show (match Φ 14 [.int (nx ds)] with
    | .ok d _ => R.ok d (.val L :: .mu ((tl ds).map .int) :: r)
    | .exc z _ => R.exc z (.val L :: .mu ((tl ds).map .int) :: r)
    | .bad => R.bad) = _
  rw [(h.h14 _ hD.nx.1 hD.nx.2).1]
theorem far_comp {Φ : Fns} {far : Int → Int} (h : Hyp32 Φ far) (L : PyData) (s2 s3 s4 s5 s6 s7 s8 s9 : Slot) : ∀ (es : List PyData) (ds : List Int) (s10 : Slot), Draws ds → ∃ (ys ds' : List Int) (s' : Slot),
    compGo (turnC [10] (.one 10) (evE Φ (.bl true)) (evE Φ (.call 14 (.cons (.callio 6 0 1 .nil) .nil)))) es [.val L, .mu (ds.map .int), s2, s3, s4, s5, s6, s7, s8, s9, s10] = .ok (ys.map .int) [.val L, .mu (ds'.map .int), s2, s3, s4, s5, s6, s7, s8, s9, s'] ∧ Draws ds' ∧ ys.length = es.length
  | [], ds, s10, hD => ⟨[], ds, s10, rfl, hD, rfl⟩
  | e :: es, ds, s10, hD => by
    obtain ⟨ys, ds', s', q, h1, h2⟩ := far_comp h L s2 s3 s4 s5 s6 s7 s8 s9 es (tl ds) (.val e) hD.tl
    refine ⟨far (nx ds) :: ys, ds', s', ?_, h1, by rw [List.length_cons, List.length_cons, h2]⟩
    have st : turnC [10] (.one 10) (evE Φ (.bl true)) (evE Φ (.call 14 (.cons (.callio 6 0 1 .nil) .nil))) e [.val L, .mu (ds.map .int), s2, s3, s4, s5, s6, s7, s8, s9, s10] = .ok (some (.int (far (nx ds)))) [.val L, .mu ((tl ds).map .int), s2, s3, s4, s5, s6, s7, s8, s9, .val e] := by
      unfold turnC
      have ea : asgT (.one 10) e (wipeS [10] [.val L, .mu (ds.map .int), s2, s3, s4, s5, s6, s7, s8, s9, s10]) = some [.val L, .mu (ds.map .int), s2, s3, s4, s5, s6, s7, s8, s9, .val e] := rfl
      rw [ea]
      dsimp only
      rw [eE_bl, rb_ok]
      dsimp only
      rw [farE h L ds hD, rb_ok]
    rw [compGo, st]
    dsimp only
    rw [q]
    rfl
theorem mul_comp (Φ : Fns) (f : Int) (hf : f.natAbs < 2 ^ 64) (a b s2 s3 s4 s5 s7 s9 s10 : Slot) : ∀ (ns : List Int) (s8 : Slot), ∃ s' : Slot,
    compGo (turnC [8] (.one 8) (evE Φ (.bl true)) (evE Φ (.bin .mul (.var 6) (.var 8)))) (ns.map .int) [a, b, s2, s3, s4, s5, .val (.int f), s7, s8, s9, s10] = .ok ((ns.map (f * ·)).map .int) [a, b, s2, s3, s4, s5, .val (.int f), s7, s', s9, s10]
  | [], s8 => ⟨s8, rfl⟩
  | n :: r, s8 => by
    obtain ⟨s', e⟩ := mul_comp Φ f hf a b s2 s3 s4 s5 s7 s9 s10 r (.val (.int n))
    refine ⟨s', ?_⟩
    have st : turnC [8] (.one 8) (evE Φ (.bl true)) (evE Φ (.bin .mul (.var 6) (.var 8))) (.int n) [a, b, s2, s3, s4, s5, .val (.int f), s7, s8, s9, s10] = .ok (some (.int (f * n))) [a, b, s2, s3, s4, s5, .val (.int f), s7, .val (.int n), s9, s10] := by
      simp (disch := assumption) [turnC, wipeS, asgT, runFd, eS_skip, eS_seq, eS_asg, eS_asgM, eS_asgs, eS_two, eS_app, eS_setM, eS_aug, eS_ret, eS_retM, eS_ite, eS_drop, eS_brk, eS_cnt, thn_nx, thn_ret, eE_var, eE_non, eE_bl, eE_int, eE_str, eE_gint, eE_nil, eE_cons, eE_bin, eE_neg, eE_cmp, eE_chain, eE_not, eE_and, eE_or, eE_ite, eE_tup, eE_lst, eE_ix, eE_sl, eE_rev, eE_call, eE_callio, eE_bi, eE_isi, eE_rng, eE_rng2, eE_enum, eE_zip, eE_lrng, eE_trng, eE_edic, eE_lenM, eE_ixM, eE_nilM, eE_popM, startS, rdVar, getS_0, getS_s, rb_ok, ro_ok, of_some, oof_some, putS, List.getElem?_cons_zero, List.getElem?_cons_succ, bin_add, bin_sub, parOf, FR.ofIo, mutS, remut, bin_mul_l]
    rw [List.map_cons, compGo, st]
    dsimp only
    rw [e]
    rfl
theorem rep_tup (n : Int) (h0 : 0 ≤ n) (h1 : n ≤ 1000) : bin .mul (.tuple [.int 0]) (.int n) = some (.tuple ((List.replicate n.toNat (0 : Int)).map .int)) := by
  have c : repOk [PyData.int 0].length n := ⟨by omega, by omega, by show 1 * n.toNat ≤ SL; unfold SL; omega⟩
  have e : repL [PyData.int 0] n = (List.replicate n.toNat (0 : Int)).map .int := by
    unfold repL
    generalize n.toNat = m
    induction m with
    | zero => rfl
    | succ m ih => rw [List.replicate_succ, List.flatten_cons, ih, List.replicate_succ]; rfl
  show (if repOk [PyData.int 0].length n then some (PyData.tuple (repL [PyData.int 0] n)) else none) = _
  rw [if_pos c, e]
theorem turn32 {Φ : Fns} {far : Int → Int} (h : Hyp32 Φ far) (L : PyData) (ds : List Int) (hD : Draws ds) (s2 s3 s4 s5 s6 s7 s8 s9 s10 : Slot) (l3 : Lo s3) (l4 : Lo s4) (l5 : Lo s5) (l6 : Lo s6) (l7 : Lo s7) (l8 : Lo s8) (l9 : Lo s9) (l10 : Lo s10) :
    ∃ (ds' : List Int) (t3 t4 t5 t6 t7 : Slot), evS Φ (.seq (.asg 3 (.bin .add (.int 1) (.bin .mod (.callio 6 0 1 .nil) (.int 3)))) (.seq (.asg 4 (.comp (.call 14 (.cons (.callio 6 0 1 .nil) .nil)) (.one 10) (.rng (.var 3)) (.bl true) [10])) (.seq (.asg 5 (.ix (.lst (.cons (.call 14 (.cons (.callio 6 0 1 .nil) .nil)) (.cons (.bin .add (.int 1) (.bin .mod (.callio 6 0 1 .nil) (.int 70))) .nil))) (.bin .mod (.callio 6 0 1 .nil) (.int 2)))) (.seq (.ite (.cmp .eq (.var 5) (.int 0)) (.seq (.asg 5 (.neg (.int 1))) .skip) .skip) (.seq (.asg 6 (.bin .add (.int 1) (.bin .mod (.callio 6 0 1 .nil) (.ix (.lst (.cons (.int 1) (.cons (.int 12) (.cons (.bin .pow (.int 10) (.int 6)) .nil)))) (.bin .mod (.callio 6 0 1 .nil) (.int 3)))))) (.seq (.asg 6 (.bin .mul (.var 6) (.ix (.lst (.cons (.int 1) (.cons (.neg (.int 1)) .nil))) (.bin .mod (.callio 6 0 1 .nil) (.int 2))))) (.seq (.asg 7 (.call 8 (.cons (.var 4) (.cons (.var 5) .nil)))) (.seq (.ite (.not (.call 31 (.cons (.call 30 (.cons (.bi .tuple (.cons (.var 4) .nil)) (.cons (.var 5) .nil))) (.cons (.var 7) .nil)))) (.seq (.ret (.bl false)) .skip) .skip) (.seq (.ite (.not (.call 31 (.cons (.call 30 (.cons (.bi .tuple (.cons (.comp (.bin .mul (.var 6) (.var 8)) (.one 8) (.var 4) (.bl true) [8]) .nil)) (.cons (.bin .mul (.var 6) (.var 5)) .nil))) (.cons (.var 7) .nil)))) (.seq (.ret (.bl false)) .skip) .skip) (.seq (.ite (.not (.call 31 (.cons (.call 30 (.cons (.bin .mul (.tup (.cons (.int 0) .nil)) (.var 3)) (.cons (.var 5) .nil))) (.cons (.bin .add (.bin .mul (.tup (.cons (.int 0) .nil)) (.var 3)) (.tup (.cons (.int 1) .nil))) .nil)))) (.seq (.ret (.bl false)) .skip) .skip) .skip)))))))))) [.val L, .mu (ds.map .int), s2, s3, s4, s5, s6, s7, s8, s9, s10] = .nx [.val L, .mu (ds'.map .int), s2, t3, t4, t5, t6, t7, s8, s9, s10] ∧ Draws ds' ∧ Lo t3 ∧ Lo t4 ∧ Lo t5 ∧ Lo t6 ∧ Lo t7 := by
  -- directions
  obtain ⟨d, hd⟩ : ∃ d, d = 1 + nx ds % 3 := ⟨_, rfl⟩
  have hd1 : 1 ≤ d ∧ d ≤ 3 := by omega
  have a3 : evS Φ (.asg 3 (.bin .add (.int 1) (.bin .mod (.callio 6 0 1 .nil) (.int 3)))) [.val L, .mu (ds.map .int), s2, s3, s4, s5, s6, s7, s8, s9, s10] = .nx [.val L, .mu ((tl ds).map .int), s2, .val (.int d), s4, s5, s6, s7, s8, s9, s10] := by
    rw [eS_asg, eE_bin, eE_int, rb_ok, eE_bin, nxE h, rb_ok, eE_int, rb_ok, bin_mod (by decide), of_some, rb_ok, bin_add, of_some, ro_ok, putS_lo (s := s3) rfl l3, ← hd]
    rfl
  -- numbers
  obtain ⟨ns, d1, s', q, hD1, hl⟩ := far_comp h L s2 (.val (.int d)) s4 s5 s6 s7 s8 s9 (rangeD 0 d.toNat) (tl ds) s10 hD.tl
  rw [rangeD_len] at hl
  have hl' : ns.length < 1000 := by omega
  have a4 : evS Φ (.asg 4 (.comp (.call 14 (.cons (.callio 6 0 1 .nil) .nil)) (.one 10) (.rng (.var 3)) (.bl true) [10])) [.val L, .mu ((tl ds).map .int), s2, .val (.int d), s4, s5, s6, s7, s8, s9, s10] = .nx [.val L, .mu (d1.map .int), s2, .val (.int d), .val (.list (ns.map .int)), s5, s6, s7, s8, s9, s10] := by
    have hr : rngD (.int 0) (.int d) = some (.list (rangeD 0 d.toNat)) := by
      have : d = ((d.toNat : Nat) : Int) := by omega
      rw [this, rngD_nat (by omega), Int.toNat_natCast]
    have ho : ownOk [10] [.val L, .mu ((tl ds).map .int), s2, .val (.int d), s4, s5, s6, s7, s8, s9, s10] = true := by rcases l10 with rfl | ⟨x, rfl⟩ <;> rfl
    rw [eS_asg, eE_comp, eE_rng, eE_var, rd_val (d := .int d) rfl, rb_ok, hr, of_some, rb_ok, ho]
    dsimp only [itemsD]
    rw [q, rb_ok, ro_ok]
    show O.of (putS [.val L, .mu (d1.map .int), s2, .val (.int d), s4, s5, s6, s7, s8, s9, s10] 4 _) = _
    rw [putS_lo (s := s4) rfl l4]
    rfl
  -- bottom
  have a5 : ∃ (b : Int) (d2 : List Int), evS Φ (.asg 5 (.ix (.lst (.cons (.call 14 (.cons (.callio 6 0 1 .nil) .nil)) (.cons (.bin .add (.int 1) (.bin .mod (.callio 6 0 1 .nil) (.int 70))) .nil))) (.bin .mod (.callio 6 0 1 .nil) (.int 2)))) [.val L, .mu (d1.map .int), s2, .val (.int d), .val (.list (ns.map .int)), s5, s6, s7, s8, s9, s10] = .nx [.val L, .mu (d2.map .int), s2, .val (.int d), .val (.list (ns.map .int)), .val (.int b), s6, s7, s8, s9, s10] ∧ Draws d2 ∧ b.natAbs < 10 ^ 110 := by
    have lst : evE Φ (.lst (.cons (.call 14 (.cons (.callio 6 0 1 .nil) .nil)) (.cons (.bin .add (.int 1) (.bin .mod (.callio 6 0 1 .nil) (.int 70))) .nil))) [.val L, .mu (d1.map .int), s2, .val (.int d), .val (.list (ns.map .int)), s5, s6, s7, s8, s9, s10] = .ok (.list [.int (far (nx d1)), .int (1 + nx (tl d1) % 70)]) [.val L, .mu ((tl (tl d1)).map .int), s2, .val (.int d), .val (.list (ns.map .int)), s5, s6, s7, s8, s9, s10] := by
      rw [eE_lst, eE_cons, farE h L d1 hD1, rb_ok, eE_cons, eE_bin, eE_int, rb_ok, eE_bin, nxE h, rb_ok, eE_int, rb_ok, bin_mod (by decide), of_some, rb_ok, bin_add, of_some, rb_ok, eE_nil, rb_ok, rb_ok, rb_ok]
      rfl
    have hb1 := (h.h14 _ hD1.nx.1 hD1.nx.2).2
    have hb2 := hD1.tl.nx
    have md : bin .mod (.int (nx (tl (tl d1)))) (.int 2) = some (.int (nx (tl (tl d1)) % 2)) := bin_mod (by decide)
    have : nx (tl (tl d1)) % 2 = 0 ∨ nx (tl (tl d1)) % 2 = 1 := by omega
    rcases this with e | e <;> rw [e] at md
    · refine ⟨far (nx d1), tl (tl (tl d1)), ?_, hD1.tl.tl.tl, hb1⟩
      rw [eS_asg, eE_ix, lst, rb_ok, eE_bin, nxE h, rb_ok, eE_int, rb_ok, md, of_some, rb_ok]
      show (R.ok (PyData.int (far (nx d1))) _).out _ = _
      rw [ro_ok, putS_lo (s := s5) rfl l5]
      rfl
    · refine ⟨1 + nx (tl d1) % 70, tl (tl (tl d1)), ?_, hD1.tl.tl.tl, by omega⟩
      rw [eS_asg, eE_ix, lst, rb_ok, eE_bin, nxE h, rb_ok, eE_int, rb_ok, md, of_some, rb_ok]
      show (R.ok (PyData.int (1 + nx (tl d1) % 70)) _).out _ = _
      rw [ro_ok, putS_lo (s := s5) rfl l5]
      rfl
  obtain ⟨b0, d2, a5, hD2, hb0⟩ := a5
  have a6 : ∃ b : Int, evS Φ (.ite (.cmp .eq (.var 5) (.int 0)) (.seq (.asg 5 (.neg (.int 1))) .skip) .skip) [.val L, .mu (d2.map .int), s2, .val (.int d), .val (.list (ns.map .int)), .val (.int b0), s6, s7, s8, s9, s10] = .nx [.val L, .mu (d2.map .int), s2, .val (.int d), .val (.list (ns.map .int)), .val (.int b), s6, s7, s8, s9, s10] ∧ b ≠ 0 ∧ b.natAbs < 10 ^ 110 := by
    by_cases c : b0 = 0
    · exact ⟨-1, by simp [runFd, eS_skip, eS_seq, eS_asg, eS_asgM, eS_asgs, eS_two, eS_app, eS_setM, eS_aug, eS_ret, eS_retM, eS_ite, eS_drop, eS_brk, eS_cnt, thn_nx, thn_ret, eE_var, eE_non, eE_bl, eE_int, eE_str, eE_gint, eE_nil, eE_cons, eE_bin, eE_neg, eE_cmp, eE_chain, eE_not, eE_and, eE_or, eE_ite, eE_tup, eE_lst, eE_ix, eE_sl, eE_rev, eE_call, eE_callio, eE_bi, eE_isi, eE_rng, eE_rng2, eE_enum, eE_zip, eE_lrng, eE_trng, eE_edic, eE_lenM, eE_ixM, eE_nilM, eE_popM, startS, rdVar, getS_0, getS_s, rb_ok, ro_ok, of_some, oof_some, putS, List.getElem?_cons_zero, List.getElem?_cons_succ, bin_add, bin_sub, parOf, FR.ofIo, mutS, remut, cmp_eq_int, c], by decide, by decide⟩
    · exact ⟨b0, by simp [runFd, eS_skip, eS_seq, eS_asg, eS_asgM, eS_asgs, eS_two, eS_app, eS_setM, eS_aug, eS_ret, eS_retM, eS_ite, eS_drop, eS_brk, eS_cnt, thn_nx, thn_ret, eE_var, eE_non, eE_bl, eE_int, eE_str, eE_gint, eE_nil, eE_cons, eE_bin, eE_neg, eE_cmp, eE_chain, eE_not, eE_and, eE_or, eE_ite, eE_tup, eE_lst, eE_ix, eE_sl, eE_rev, eE_call, eE_callio, eE_bi, eE_isi, eE_rng, eE_rng2, eE_enum, eE_zip, eE_lrng, eE_trng, eE_edic, eE_lenM, eE_ixM, eE_nilM, eE_popM, startS, rdVar, getS_0, getS_s, rb_ok, ro_ok, of_some, oof_some, putS, List.getElem?_cons_zero, List.getElem?_cons_succ, bin_add, bin_sub, parOf, FR.ofIo, mutS, remut, cmp_eq_int, c], c, hb0⟩
  obtain ⟨b, a6, hb, hbb⟩ := a6
  -- factor
  have a7 : ∃ (f : Int) (d3 : List Int), evS Φ (.asg 6 (.bin .add (.int 1) (.bin .mod (.callio 6 0 1 .nil) (.ix (.lst (.cons (.int 1) (.cons (.int 12) (.cons (.bin .pow (.int 10) (.int 6)) .nil)))) (.bin .mod (.callio 6 0 1 .nil) (.int 3)))))) [.val L, .mu (d2.map .int), s2, .val (.int d), .val (.list (ns.map .int)), .val (.int b), s6, s7, s8, s9, s10] = .nx [.val L, .mu (d3.map .int), s2, .val (.int d), .val (.list (ns.map .int)), .val (.int b), .val (.int f), s7, s8, s9, s10] ∧ Draws d3 ∧ 1 ≤ f ∧ f ≤ 1000000 := by
    have p6 : bin .pow (.int 10) (.int 6) = some (.int 1000000) := bin_pow (by decide)
    have md : bin .mod (.int (nx (tl d2))) (.int 3) = some (.int (nx (tl d2) % 3)) := bin_mod (by decide)
    have pick : ∃ m : Int, 1 ≤ m ∧ m ≤ 1000000 ∧ evE Φ (.ix (.lst (.cons (.int 1) (.cons (.int 12) (.cons (.bin .pow (.int 10) (.int 6)) .nil)))) (.bin .mod (.callio 6 0 1 .nil) (.int 3))) [.val L, .mu ((tl d2).map .int), s2, .val (.int d), .val (.list (ns.map .int)), .val (.int b), s6, s7, s8, s9, s10] = .ok (.int m) [.val L, .mu ((tl (tl d2)).map .int), s2, .val (.int d), .val (.list (ns.map .int)), .val (.int b), s6, s7, s8, s9, s10] := by
      have : nx (tl d2) % 3 = 0 ∨ nx (tl d2) % 3 = 1 ∨ nx (tl d2) % 3 = 2 := by omega
      rcases this with e | e | e <;> rw [e] at md <;> simp only [eE_ix, eE_lst, eE_cons, eE_int, rb_ok, eE_bin, p6, of_some, eE_nil, tupOf, nxE h, md]
      · exact ⟨1, by decide, by decide, rfl⟩
      · exact ⟨12, by decide, by decide, rfl⟩
      · exact ⟨1000000, by decide, by decide, rfl⟩
    obtain ⟨m, m0, m1, em⟩ := pick
    refine ⟨1 + nx d2 % m, tl (tl d2), ?_, hD2.tl.tl, ?_, ?_⟩
    · rw [eS_asg, eE_bin, eE_int, rb_ok, eE_bin, nxE h, rb_ok, em, rb_ok, bin_mod (by omega), of_some, rb_ok, bin_add, of_some, ro_ok, putS_lo (s := s6) rfl l6]
      rfl
    · have := Int.emod_nonneg (nx d2) (show m ≠ 0 by omega); omega
    · have := Int.emod_lt_of_pos (nx d2) (show 0 < m by omega); omega
  obtain ⟨f0, d3, a7, hD3, hf0, hf1⟩ := a7
  have a8 : ∃ (f : Int), evS Φ (.asg 6 (.bin .mul (.var 6) (.ix (.lst (.cons (.int 1) (.cons (.neg (.int 1)) .nil))) (.bin .mod (.callio 6 0 1 .nil) (.int 2))))) [.val L, .mu (d3.map .int), s2, .val (.int d), .val (.list (ns.map .int)), .val (.int b), .val (.int f0), s7, s8, s9, s10] = .nx [.val L, .mu ((tl d3).map .int), s2, .val (.int d), .val (.list (ns.map .int)), .val (.int b), .val (.int f), s7, s8, s9, s10] ∧ f ≠ 0 ∧ f.natAbs ≤ 1000000 := by
    have md : bin .mod (.int (nx d3)) (.int 2) = some (.int (nx d3 % 2)) := bin_mod (by decide)
    have : nx d3 % 2 = 0 ∨ nx d3 % 2 = 1 := by omega
    rcases this with e | e <;> rw [e] at md
    · refine ⟨f0 * 1, ?_, by omega, by omega⟩
      simp only [eS_asg, eE_ix, eE_lst, eE_cons, eE_int, eE_neg, rb_ok, eE_bin, of_some, eE_nil, tupOf, nxE h, md, eE_var, rd_val (show getS [Slot.val L, .mu (d3.map .int), s2, .val (.int d), .val (.list (ns.map .int)), .val (.int b), .val (.int f0), s7, s8, s9, s10] 6 = .val (.int f0) from rfl)]
      show (R.of (bin .mul (.int f0) (.int 1)) _).out _ = _
      rw [bin_mul_r (by decide), of_some]
      rfl
    · refine ⟨f0 * -1, ?_, by omega, by omega⟩
      simp only [eS_asg, eE_ix, eE_lst, eE_cons, eE_int, eE_neg, rb_ok, eE_bin, of_some, eE_nil, tupOf, nxE h, md, eE_var, rd_val (show getS [Slot.val L, .mu (d3.map .int), s2, .val (.int d), .val (.list (ns.map .int)), .val (.int b), .val (.int f0), s7, s8, s9, s10] 6 = .val (.int f0) from rfl)]
      show (R.of (bin .mul (.int f0) (.int (-1))) _).out _ = _
      rw [bin_mul_r (by decide), of_some]
      rfl
  obtain ⟨f, a8, hf, hfb⟩ := a8
  have hfb2 : f.natAbs < 2 ^ 64 := by omega
  have hprod : (f * b).natAbs < 10 ^ 130 := by
    rw [Int.natAbs_mul]
    exact Nat.lt_of_le_of_lt (Nat.mul_le_mul hfb (Nat.le_of_lt hbb)) (by decide)
  have hfbz : f * b ≠ 0 := Int.mul_ne_zero hf hb
  -- due
  have b7 := h.h8 ns b hb (Nat.lt_trans hbb (by decide)) hl'
  have a9 : evS Φ (.asg 7 (.call 8 (.cons (.var 4) (.cons (.var 5) .nil)))) [.val L, .mu ((tl d3).map .int), s2, .val (.int d), .val (.list (ns.map .int)), .val (.int b), .val (.int f), s7, s8, s9, s10] = .nx [.val L, .mu ((tl d3).map .int), s2, .val (.int d), .val (.list (ns.map .int)), .val (.int b), .val (.int f), .val (.tuple ((lowT ns b).map .int)), s8, s9, s10] := by
    rcases l7 with rfl | ⟨x, rfl⟩ <;> simp [runFd, eS_skip, eS_seq, eS_asg, eS_asgM, eS_asgs, eS_two, eS_app, eS_setM, eS_aug, eS_ret, eS_retM, eS_ite, eS_drop, eS_brk, eS_cnt, thn_nx, thn_ret, eE_var, eE_non, eE_bl, eE_int, eE_str, eE_gint, eE_nil, eE_cons, eE_bin, eE_neg, eE_cmp, eE_chain, eE_not, eE_and, eE_or, eE_ite, eE_tup, eE_lst, eE_ix, eE_sl, eE_rev, eE_call, eE_callio, eE_bi, eE_isi, eE_rng, eE_rng2, eE_enum, eE_zip, eE_lrng, eE_trng, eE_edic, eE_lenM, eE_ixM, eE_nilM, eE_popM, startS, rdVar, getS_0, getS_s, rb_ok, ro_ok, of_some, oof_some, putS, List.getElem?_cons_zero, List.getElem?_cons_succ, bin_add, bin_sub, parOf, FR.ofIo, mutS, remut, tupOf, b7]
  have c1 := h.h30 ns b hb (Nat.lt_trans hbb (by decide)) hl'
  have k1 := h.h31 (lowT ns b)
  have a10 : evS Φ (.ite (.not (.call 31 (.cons (.call 30 (.cons (.bi .tuple (.cons (.var 4) .nil)) (.cons (.var 5) .nil))) (.cons (.var 7) .nil)))) (.seq (.ret (.bl false)) .skip) .skip) [.val L, .mu ((tl d3).map .int), s2, .val (.int d), .val (.list (ns.map .int)), .val (.int b), .val (.int f), .val (.tuple ((lowT ns b).map .int)), s8, s9, s10] = .nx [.val L, .mu ((tl d3).map .int), s2, .val (.int d), .val (.list (ns.map .int)), .val (.int b), .val (.int f), .val (.tuple ((lowT ns b).map .int)), s8, s9, s10] := by
    simp [runFd, eS_skip, eS_seq, eS_asg, eS_asgM, eS_asgs, eS_two, eS_app, eS_setM, eS_aug, eS_ret, eS_retM, eS_ite, eS_drop, eS_brk, eS_cnt, thn_nx, thn_ret, eE_var, eE_non, eE_bl, eE_int, eE_str, eE_gint, eE_nil, eE_cons, eE_bin, eE_neg, eE_cmp, eE_chain, eE_not, eE_and, eE_or, eE_ite, eE_tup, eE_lst, eE_ix, eE_sl, eE_rev, eE_call, eE_callio, eE_bi, eE_isi, eE_rng, eE_rng2, eE_enum, eE_zip, eE_lrng, eE_trng, eE_edic, eE_lenM, eE_ixM, eE_nilM, eE_popM, startS, rdVar, getS_0, getS_s, rb_ok, ro_ok, of_some, oof_some, putS, List.getElem?_cons_zero, List.getElem?_cons_succ, bin_add, bin_sub, parOf, FR.ofIo, mutS, remut, tupOf, biD, c1, k1]
  have c2 := h.h30 (ns.map (f * ·)) (f * b) hfbz (Nat.lt_trans hprod (by decide)) (by rw [List.length_map]; exact hl')
  rw [lowT_scale f hf ns b hb] at c2
  have mb : bin .mul (.int f) (.int b) = some (.int (f * b)) := bin_mul_l hfb2
  obtain ⟨s8', em⟩ := mul_comp Φ f hfb2 (.val L) (.mu ((tl d3).map .int)) s2 (.val (.int d)) (.val (.list (ns.map .int))) (.val (.int b)) (.val (.tuple ((lowT ns b).map .int))) s9 s10 ns s8
  have hcm : evE Φ (.comp (.bin .mul (.var 6) (.var 8)) (.one 8) (.var 4) (.bl true) [8]) [.val L, .mu ((tl d3).map .int), s2, .val (.int d), .val (.list (ns.map .int)), .val (.int b), .val (.int f), .val (.tuple ((lowT ns b).map .int)), s8, s9, s10] = .ok (.list ((ns.map (f * ·)).map .int)) [.val L, .mu ((tl d3).map .int), s2, .val (.int d), .val (.list (ns.map .int)), .val (.int b), .val (.int f), .val (.tuple ((lowT ns b).map .int)), s8, s9, s10] := by
    have ho : ownOk [8] [.val L, .mu ((tl d3).map .int), s2, .val (.int d), .val (.list (ns.map .int)), .val (.int b), .val (.int f), .val (.tuple ((lowT ns b).map .int)), s8, s9, s10] = true := by rcases l8 with rfl | ⟨x, rfl⟩ <;> rfl
    rw [eE_comp, eE_var, rd_val (d := .list (ns.map .int)) rfl, rb_ok, ho]
    dsimp only [itemsD]
    rw [em, rb_ok]
    rfl
  have a11 : evS Φ (.ite (.not (.call 31 (.cons (.call 30 (.cons (.bi .tuple (.cons (.comp (.bin .mul (.var 6) (.var 8)) (.one 8) (.var 4) (.bl true) [8]) .nil)) (.cons (.bin .mul (.var 6) (.var 5)) .nil))) (.cons (.var 7) .nil)))) (.seq (.ret (.bl false)) .skip) .skip) [.val L, .mu ((tl d3).map .int), s2, .val (.int d), .val (.list (ns.map .int)), .val (.int b), .val (.int f), .val (.tuple ((lowT ns b).map .int)), s8, s9, s10] = .nx [.val L, .mu ((tl d3).map .int), s2, .val (.int d), .val (.list (ns.map .int)), .val (.int b), .val (.int f), .val (.tuple ((lowT ns b).map .int)), s8, s9, s10] := by
    simp [runFd, eS_skip, eS_seq, eS_asg, eS_asgM, eS_asgs, eS_two, eS_app, eS_setM, eS_aug, eS_ret, eS_retM, eS_ite, eS_drop, eS_brk, eS_cnt, thn_nx, thn_ret, eE_var, eE_non, eE_bl, eE_int, eE_str, eE_gint, eE_nil, eE_cons, eE_bin, eE_neg, eE_cmp, eE_chain, eE_not, eE_and, eE_or, eE_ite, eE_tup, eE_lst, eE_ix, eE_sl, eE_rev, eE_call, eE_callio, eE_bi, eE_isi, eE_rng, eE_rng2, eE_enum, eE_zip, eE_lrng, eE_trng, eE_edic, eE_lenM, eE_ixM, eE_nilM, eE_popM, startS, rdVar, getS_0, getS_s, rb_ok, ro_ok, of_some, oof_some, putS, List.getElem?_cons_zero, List.getElem?_cons_succ, bin_add, bin_sub, parOf, FR.ofIo, mutS, remut, -List.map_map, tupOf, biD, hcm, mb, c2, k1]
  have rt := rep_tup d (by omega) (by omega)
  have c3 := h.h30 (List.replicate d.toNat 0) b hb (Nat.lt_trans hbb (by decide)) (by rw [List.length_replicate]; omega)
  rw [lowT_zeros _ _ hb] at c3
  have k3 := h.h31 (List.replicate d.toNat 0 ++ [1])
  have cat : bin .add (.tuple ((List.replicate d.toNat (0 : Int)).map .int)) (.tuple [.int 1]) = some (.tuple ((List.replicate d.toNat (0 : Int) ++ [1]).map .int)) := by
    rw [bin_cat (by simp [SL]; omega), List.map_append]
    rfl
  have a12 : evS Φ (.seq (.ite (.not (.call 31 (.cons (.call 30 (.cons (.bin .mul (.tup (.cons (.int 0) .nil)) (.var 3)) (.cons (.var 5) .nil))) (.cons (.bin .add (.bin .mul (.tup (.cons (.int 0) .nil)) (.var 3)) (.tup (.cons (.int 1) .nil))) .nil)))) (.seq (.ret (.bl false)) .skip) .skip) .skip) [.val L, .mu ((tl d3).map .int), s2, .val (.int d), .val (.list (ns.map .int)), .val (.int b), .val (.int f), .val (.tuple ((lowT ns b).map .int)), s8, s9, s10] = .nx [.val L, .mu ((tl d3).map .int), s2, .val (.int d), .val (.list (ns.map .int)), .val (.int b), .val (.int f), .val (.tuple ((lowT ns b).map .int)), s8, s9, s10] := by
    simp only [eS_seq, eS_ite, eE_not, eE_call, eE_cons, eE_bin, eE_tup, eE_int, eE_nil, rb_ok, tupOf, eE_var, rd_val (show getS [Slot.val L, .mu ((tl d3).map .int), s2, .val (.int d), .val (.list (ns.map .int)), .val (.int b), .val (.int f), .val (.tuple ((lowT ns b).map .int)), s8, s9, s10] 3 = .val (.int d) from rfl), rd_val (show getS [Slot.val L, .mu ((tl d3).map .int), s2, .val (.int d), .val (.list (ns.map .int)), .val (.int b), .val (.int f), .val (.tuple ((lowT ns b).map .int)), s8, s9, s10] 5 = .val (.int b) from rfl), rt, of_some, c3, cat, k3, ro_ok, Bool.not_true, eS_skip, thn_nx]
  refine ⟨tl d3, .val (.int d), .val (.list (ns.map .int)), .val (.int b), .val (.int f), .val (.tuple ((lowT ns b).map .int)), ?_, hD3.tl, .val _, .val _, .val _, .val _, .val _⟩
  rw [eS_seq, a3, thn_nx, eS_seq, a4, thn_nx, eS_seq, a5, thn_nx, eS_seq, a6, thn_nx, eS_seq, a7, thn_nx, eS_seq, a8, thn_nx, eS_seq, a9, thn_nx, eS_seq, a10, thn_nx, eS_seq, a11, thn_nx, a12]

theorem run32 {Φ : Fns} {far : Int → Int} (h : Hyp32 Φ far) (h5 : ∀ ns : List Int, ns.length ≤ 63 → ∃ ds, Φ 5 [.list (ns.map .int)] = .ok (.list (ds.map .int)) [] ∧ Draws ds) (h16 : ∃ a b : Int, Φ 16 [] = .ok (.tuple [.int a, .int b]) [] ∧ 0 < a ∧ 0 < b ∧ Int.gcd a b = 1 ∧ a.natAbs < 10 ^ 300 ∧ b.natAbs < 10 ^ 300) (ns : List Int) (hn : ns.length ≤ 63) :
    runFd Φ fd32 [.list (ns.map .int)] = .ok (.bool true) [] := by
  obtain ⟨ds, e5, hD⟩ := h5 ns hn
  obtain ⟨a, b, e16, ha, hb, hg, hab, hbb⟩ := h16
  have a1 : evS Φ (.asgM 1 (.call 5 (.cons (.var 0) .nil))) [.val (.list (ns.map .int)), .un, .un, .un, .un, .un, .un, .un, .un, .un, .un] = .nx [.val (.list (ns.map .int)), .mu (ds.map .int), .un, .un, .un, .un, .un, .un, .un, .un, .un] := by
    simp [runFd, eS_skip, eS_seq, eS_asg, eS_asgM, eS_asgs, eS_two, eS_app, eS_setM, eS_aug, eS_ret, eS_retM, eS_ite, eS_drop, eS_brk, eS_cnt, thn_nx, thn_ret, eE_var, eE_non, eE_bl, eE_int, eE_str, eE_gint, eE_nil, eE_cons, eE_bin, eE_neg, eE_cmp, eE_chain, eE_not, eE_and, eE_or, eE_ite, eE_tup, eE_lst, eE_ix, eE_sl, eE_rev, eE_call, eE_callio, eE_bi, eE_isi, eE_rng, eE_rng2, eE_enum, eE_zip, eE_lrng, eE_trng, eE_edic, eE_lenM, eE_ixM, eE_nilM, eE_popM, startS, rdVar, getS_0, getS_s, rb_ok, ro_ok, of_some, oof_some, putS, List.getElem?_cons_zero, List.getElem?_cons_succ, bin_add, bin_sub, parOf, FR.ofIo, mutS, remut, tupOf, e5]
  have src : ∃ m : Nat, evE Φ (.rng (.bin .add (.int 4) (.bi .min2 (.cons (.int 30) (.cons (.bin .mul (.int 2) (.bi .len (.cons (.var 0) .nil))) .nil))))) [.val (.list (ns.map .int)), .mu (ds.map .int), .un, .un, .un, .un, .un, .un, .un, .un, .un] = .ok (.list (rangeD 0 m)) [.val (.list (ns.map .int)), .mu (ds.map .int), .un, .un, .un, .un, .un, .un, .un, .un, .un] := by
    have lenE : evE Φ (.bi .len (.cons (.var 0) .nil)) [.val (.list (ns.map .int)), .mu (ds.map .int), .un, .un, .un, .un, .un, .un, .un, .un, .un] = .ok (.int ns.length) [.val (.list (ns.map .int)), .mu (ds.map .int), .un, .un, .un, .un, .un, .un, .un, .un, .un] := by
      rw [eE_bi, eE_cons, eE_var, rd_val rfl, rb_ok, eE_nil, rb_ok, rb_ok]
      show R.of (some (PyData.int ((ns.map PyData.int).length : Nat))) _ = _
      rw [List.length_map]
      rfl
    obtain ⟨z, hz0, hz1, e2⟩ : ∃ z : Int, 0 ≤ z ∧ z ≤ 30 ∧ biD .min2 [.int 30, .int (2 * (ns.length : Int))] = some (.int z) := by
      refine ⟨if 2 * (ns.length : Int) < 30 then 2 * (ns.length : Int) else 30, ?_, ?_, rfl⟩ <;> split <;> omega
    refine ⟨(4 + z).toNat, ?_⟩
    have hr : rngD (.int 0) (.int (4 + z)) = some (.list (rangeD 0 (4 + z).toNat)) := by
      have : 4 + z = (((4 + z).toNat : Nat) : Int) := by omega
      rw [this, rngD_nat (by omega), Int.toNat_natCast]
    rw [eE_rng, eE_bin, eE_int, rb_ok, eE_bi, eE_cons, eE_int, rb_ok, eE_cons, eE_bin, eE_int, rb_ok, lenE, rb_ok, bin_mul_l (by decide), of_some, rb_ok, eE_nil, rb_ok, rb_ok, rb_ok]
    show ((R.of (biD .min2 [.int 30, .int (2 * (ns.length : Int))]) _).bind _).bind _ = _
    rw [e2, of_some, rb_ok, bin_add, of_some, rb_ok, hr]
    rfl
  obtain ⟨m, src⟩ := src
  have a2 : ∃ (ds' : List Int) (t2 t3 t4 t5 t6 t7 : Slot), evS Φ (.for_ (.one 2) (.rng (.bin .add (.int 4) (.bi .min2 (.cons (.int 30) (.cons (.bin .mul (.int 2) (.bi .len (.cons (.var 0) .nil))) .nil))))) (.seq (.asg 3 (.bin .add (.int 1) (.bin .mod (.callio 6 0 1 .nil) (.int 3)))) (.seq (.asg 4 (.comp (.call 14 (.cons (.callio 6 0 1 .nil) .nil)) (.one 10) (.rng (.var 3)) (.bl true) [10])) (.seq (.asg 5 (.ix (.lst (.cons (.call 14 (.cons (.callio 6 0 1 .nil) .nil)) (.cons (.bin .add (.int 1) (.bin .mod (.callio 6 0 1 .nil) (.int 70))) .nil))) (.bin .mod (.callio 6 0 1 .nil) (.int 2)))) (.seq (.ite (.cmp .eq (.var 5) (.int 0)) (.seq (.asg 5 (.neg (.int 1))) .skip) .skip) (.seq (.asg 6 (.bin .add (.int 1) (.bin .mod (.callio 6 0 1 .nil) (.ix (.lst (.cons (.int 1) (.cons (.int 12) (.cons (.bin .pow (.int 10) (.int 6)) .nil)))) (.bin .mod (.callio 6 0 1 .nil) (.int 3)))))) (.seq (.asg 6 (.bin .mul (.var 6) (.ix (.lst (.cons (.int 1) (.cons (.neg (.int 1)) .nil))) (.bin .mod (.callio 6 0 1 .nil) (.int 2))))) (.seq (.asg 7 (.call 8 (.cons (.var 4) (.cons (.var 5) .nil)))) (.seq (.ite (.not (.call 31 (.cons (.call 30 (.cons (.bi .tuple (.cons (.var 4) .nil)) (.cons (.var 5) .nil))) (.cons (.var 7) .nil)))) (.seq (.ret (.bl false)) .skip) .skip) (.seq (.ite (.not (.call 31 (.cons (.call 30 (.cons (.bi .tuple (.cons (.comp (.bin .mul (.var 6) (.var 8)) (.one 8) (.var 4) (.bl true) [8]) .nil)) (.cons (.bin .mul (.var 6) (.var 5)) .nil))) (.cons (.var 7) .nil)))) (.seq (.ret (.bl false)) .skip) .skip) (.seq (.ite (.not (.call 31 (.cons (.call 30 (.cons (.bin .mul (.tup (.cons (.int 0) .nil)) (.var 3)) (.cons (.var 5) .nil))) (.cons (.bin .add (.bin .mul (.tup (.cons (.int 0) .nil)) (.var 3)) (.tup (.cons (.int 1) .nil))) .nil)))) (.seq (.ret (.bl false)) .skip) .skip) .skip))))))))))) [.val (.list (ns.map .int)), .mu (ds.map .int), .un, .un, .un, .un, .un, .un, .un, .un, .un] = .nx [.val (.list (ns.map .int)), .mu (ds'.map .int), t2, t3, t4, t5, t6, t7, .un, .un, .un] := by
    rw [eS_for, src, ro_ok]
    dsimp only [itemsD]
    obtain ⟨ρ', e, ds', t2, t3, t4, t5, t6, t7, rfl, _⟩ := forGo_inv (f := forF Φ (.one 2) (.seq (.asg 3 (.bin .add (.int 1) (.bin .mod (.callio 6 0 1 .nil) (.int 3)))) (.seq (.asg 4 (.comp (.call 14 (.cons (.callio 6 0 1 .nil) .nil)) (.one 10) (.rng (.var 3)) (.bl true) [10])) (.seq (.asg 5 (.ix (.lst (.cons (.call 14 (.cons (.callio 6 0 1 .nil) .nil)) (.cons (.bin .add (.int 1) (.bin .mod (.callio 6 0 1 .nil) (.int 70))) .nil))) (.bin .mod (.callio 6 0 1 .nil) (.int 2)))) (.seq (.ite (.cmp .eq (.var 5) (.int 0)) (.seq (.asg 5 (.neg (.int 1))) .skip) .skip) (.seq (.asg 6 (.bin .add (.int 1) (.bin .mod (.callio 6 0 1 .nil) (.ix (.lst (.cons (.int 1) (.cons (.int 12) (.cons (.bin .pow (.int 10) (.int 6)) .nil)))) (.bin .mod (.callio 6 0 1 .nil) (.int 3)))))) (.seq (.asg 6 (.bin .mul (.var 6) (.ix (.lst (.cons (.int 1) (.cons (.neg (.int 1)) .nil))) (.bin .mod (.callio 6 0 1 .nil) (.int 2))))) (.seq (.asg 7 (.call 8 (.cons (.var 4) (.cons (.var 5) .nil)))) (.seq (.ite (.not (.call 31 (.cons (.call 30 (.cons (.bi .tuple (.cons (.var 4) .nil)) (.cons (.var 5) .nil))) (.cons (.var 7) .nil)))) (.seq (.ret (.bl false)) .skip) .skip) (.seq (.ite (.not (.call 31 (.cons (.call 30 (.cons (.bi .tuple (.cons (.comp (.bin .mul (.var 6) (.var 8)) (.one 8) (.var 4) (.bl true) [8]) .nil)) (.cons (.bin .mul (.var 6) (.var 5)) .nil))) (.cons (.var 7) .nil)))) (.seq (.ret (.bl false)) .skip) .skip) (.seq (.ite (.not (.call 31 (.cons (.call 30 (.cons (.bin .mul (.tup (.cons (.int 0) .nil)) (.var 3)) (.cons (.var 5) .nil))) (.cons (.bin .add (.bin .mul (.tup (.cons (.int 0) .nil)) (.var 3)) (.tup (.cons (.int 1) .nil))) .nil)))) (.seq (.ret (.bl false)) .skip) .skip) .skip))))))))))) (ds := rangeD 0 m)
      (fun i ρ => ∃ (es : List Int) (t2 t3 t4 t5 t6 t7 : Slot), ρ = [.val (.list (ns.map .int)), .mu (es.map .int), t2, t3, t4, t5, t6, t7, .un, .un, .un] ∧ Draws es ∧ Lo t2 ∧ Lo t3 ∧ Lo t4 ∧ Lo t5 ∧ Lo t6 ∧ Lo t7) (ρ := [.val (.list (ns.map .int)), .mu (ds.map .int), .un, .un, .un, .un, .un, .un, .un, .un, .un])
      ⟨ds, .un, .un, .un, .un, .un, .un, rfl, hD, .un, .un, .un, .un, .un, .un⟩ fun i d ρ hd ⟨es, t2, t3, t4, t5, t6, t7, e, hE, l2, l3, l4, l5, l6, l7⟩ => by
        subst e
        obtain ⟨ds', u3, u4, u5, u6, u7, e, h1, m3, m4, m5, m6, m7⟩ := turn32 h (.list (ns.map .int)) es hE (.val d) t3 t4 t5 t6 t7 .un .un .un l3 l4 l5 l6 l7 .un .un .un
        refine ⟨_, .inl ?_, ds', .val d, u3, u4, u5, u6, u7, rfl, h1, .val _, m3, m4, m5, m6, m7⟩
        rw [forF_of (ρ' := [.val (.list (ns.map .int)), .mu (es.map .int), .val d, t3, t4, t5, t6, t7, .un, .un, .un]) (by exact putS_lo rfl l2)]
        exact e
    exact ⟨ds', t2, t3, t4, t5, t6, t7, e⟩
  obtain ⟨ds', t2, t3, t4, t5, t6, t7, a2⟩ := a2
  have h30 := h.h30 [2 * a] (2 * b) (by omega) (by omega) (show 1 < 1000 by decide)
  rw [lowT_two a b ha hb hg] at h30
  have k := h.h31 [a, b]
  have a3 : evS Φ (.seq (.asgs [8, 9] (.call 16 .nil)) (.seq (.ret (.call 31 (.cons (.call 30 (.cons (.tup (.cons (.bin .mul (.int 2) (.var 8)) .nil)) (.cons (.bin .mul (.int 2) (.var 9)) .nil))) (.cons (.tup (.cons (.var 8) (.cons (.var 9) .nil))) .nil)))) .skip)) [.val (.list (ns.map .int)), .mu (ds'.map .int), t2, t3, t4, t5, t6, t7, .un, .un, .un] = .ret false (.bool true) [.val (.list (ns.map .int)), .mu (ds'.map .int), t2, t3, t4, t5, t6, t7, .val (.int a), .val (.int b), .un] := by
    have b1 : evS Φ (.asgs [8, 9] (.call 16 .nil)) [.val (.list (ns.map .int)), .mu (ds'.map .int), t2, t3, t4, t5, t6, t7, .un, .un, .un] = .nx [.val (.list (ns.map .int)), .mu (ds'.map .int), t2, t3, t4, t5, t6, t7, .val (.int a), .val (.int b), .un] := by
      rw [eS_asgs, eE_call, eE_nil, rb_ok]
      show R.out (match Φ 16 [] with
        | .ok d _ => R.ok d [.val (.list (ns.map .int)), .mu (ds'.map .int), t2, t3, t4, t5, t6, t7, .un, .un, .un]
        | .exc z _ => R.exc z [.val (.list (ns.map .int)), .mu (ds'.map .int), t2, t3, t4, t5, t6, t7, .un, .un, .un]
        | .bad => R.bad) _ = _
      rw [e16]
      rfl
    have g8 : getS [.val (.list (ns.map .int)), .mu (ds'.map .int), t2, t3, t4, t5, t6, t7, .val (.int a), .val (.int b), .un] 8 = .val (.int a) := rfl
    have g9 : getS [.val (.list (ns.map .int)), .mu (ds'.map .int), t2, t3, t4, t5, t6, t7, .val (.int a), .val (.int b), .un] 9 = .val (.int b) := rfl
    have ma : bin .mul (.int 2) (.int a) = some (.int (2 * a)) := bin_mul_l (by decide)
    have mb : bin .mul (.int 2) (.int b) = some (.int (2 * b)) := bin_mul_l (by decide)
    have h30' : Φ 30 [.tuple [.int (2 * a)], .int (2 * b)] = .ok (.tuple [.int a, .int b]) [] := h30
    have k' : Φ 31 [.tuple [.int a, .int b], .tuple [.int a, .int b]] = .ok (.bool true) [] := k
    rw [eS_seq, b1, thn_nx]
    simp only [eS_seq, eS_ret, eE_call, eE_cons, eE_tup, eE_bin, eE_int, eE_var, rd_val g8, rd_val g9, rb_ok, eE_nil, tupOf, ma, mb, of_some, h30', k', ro_ok, thn_ret]
  refine run_ret (ρ0 := [.val (.list (ns.map .int)), .un, .un, .un, .un, .un, .un, .un, .un, .un, .un]) rfl rfl ?_ rfl rfl (ρ1 := [.val (.list (ns.map .int)), .mu (ds'.map .int), t2, t3, t4, t5, t6, t7, .val (.int a), .val (.int b), .un]) (own := false)
  unfold fd32
  rw [eS_seq, a1, thn_nx, eS_seq, a2, thn_nx, a3]

end HM

set_option maxHeartbeats 0
namespace My
open PySem PySem.Spec PyProof.Rows L2 HM
section
def top (i : Nat) : Stmt := PySem.Challenge.pw_heapsmeet_k03_spots_told_in_lowest_terms.main.body.getD i (.Pass ⟨0, 0, 0, 0⟩)
def T : Nat → Option Fd
  | 1 => some fd1
  | 2 => some fd2
  | 30 => some fd30
  | 4 => some fd4
  | 5 => some fd5
  | 6 => some fd6
  | 7 => some fd7
  | 8 => some fd8
  | 31 => some fd31
  | 14 => some fd14
  | 16 => some fd16
  | 32 => some fd32
  | _ => none
def p_common_of : FnP := ⟨"common_of", 1, top 1, ["one", "other"], ["one", "other"], fd1⟩
def p_common_in : FnP := ⟨"common_in", 2, top 2, ["numbers", "found", "number"], ["numbers"], fd2⟩
def p_spot_at : FnP := ⟨"spot_at", 30, top 3, ["numbers", "bottom", "share", "number"], ["numbers", "bottom"], fd30⟩
def p__law_mixed : FnP := ⟨"_law_mixed", 4, top 5, ["cell", "k", "number"], ["cell", "k"], fd4⟩
def p__law_draws : FnP := ⟨"_law_draws", 5, top 6, ["script", "drawn", "k", "cell", "j"], ["script"], fd5⟩
def p__law_next : FnP := ⟨"_law_next", 6, top 7, ["drawn"], ["drawn"], fd6⟩
def p__law_gcd : FnP := ⟨"_law_gcd", 7, top 8, ["one", "other"], ["one", "other"], fd7⟩
def p__law_lowest : FnP := ⟨"_law_lowest", 8, top 9, ["numbers", "bottom", "common", "number"], ["numbers", "bottom"], fd8⟩
def p__law_same : FnP := ⟨"_law_same", 31, top 10, ["one", "other", "here", "there"], ["one", "other"], fd31⟩
def p__law_far : FnP := ⟨"_law_far", 14, top 11, ["number", "size", "found"], ["number"], fd14⟩
def p__law_neighbours : FnP := ⟨"_law_neighbours", 16, top 12, ["one", "other"], [], fd16⟩
def p_law : FnP := ⟨"law", 32, top 13, ["script", "drawn", "turn", "directions", "numbers", "bottom", "factor", "due", "one", "other", "k"], ["script"], fd32⟩
def prog : List FnP := [p_common_of, p_common_in, p_spot_at, p__law_mixed, p__law_draws, p__law_next, p__law_gcd, p__law_lowest, p__law_same, p__law_far, p__law_neighbours, p_law]
def gi : List (Str × Int) := []
def bl : List Str := ["abs", "all", "bool", "isinstance", "len", "list", "min", "range", "tuple", "zip"]
theorem ok_common_of : p_common_of.Ok prog gi bl where
  chk := by decide +kernel
  sc := ⟨rfl, rfl, rfl, by decide +kernel, rfl, by decide +kernel, by decide +kernel⟩
  size := rfl
  pars := rfl
  le := by decide
  bind := fun _ _ _ _ _ _ us hl => match us, hl with | [_, _], _ => rfl
theorem ok_common_in : p_common_in.Ok prog gi bl where
  chk := by decide +kernel
  sc := ⟨rfl, rfl, rfl, by decide +kernel, rfl, by decide +kernel, by decide +kernel⟩
  size := rfl
  pars := rfl
  le := by decide
  bind := fun _ _ _ _ _ _ us hl => match us, hl with | [_], _ => rfl
theorem ok_spot_at : p_spot_at.Ok prog gi bl where
  chk := by decide +kernel
  sc := ⟨rfl, rfl, rfl, by decide +kernel, rfl, by decide +kernel, by decide +kernel⟩
  size := rfl
  pars := rfl
  le := by decide
  bind := fun _ _ _ _ _ _ us hl => match us, hl with | [_, _], _ => rfl
theorem ok__law_mixed : p__law_mixed.Ok prog gi bl where
  chk := by decide +kernel
  sc := ⟨rfl, rfl, rfl, by decide +kernel, rfl, by decide +kernel, by decide +kernel⟩
  size := rfl
  pars := rfl
  le := by decide
  bind := fun _ _ _ _ _ _ us hl => match us, hl with | [_, _], _ => rfl
theorem ok__law_draws : p__law_draws.Ok prog gi bl where
  chk := by decide +kernel
  sc := ⟨rfl, rfl, rfl, by decide +kernel, rfl, by decide +kernel, by decide +kernel⟩
  size := rfl
  pars := rfl
  le := by decide
  bind := fun _ _ _ _ _ _ us hl => match us, hl with | [_], _ => rfl
theorem ok__law_next : p__law_next.Ok prog gi bl where
  chk := by decide +kernel
  sc := ⟨rfl, rfl, rfl, by decide +kernel, rfl, by decide +kernel, by decide +kernel⟩
  size := rfl
  pars := rfl
  le := by decide
  bind := fun _ _ _ _ _ _ us hl => match us, hl with | [_], _ => rfl
theorem ok__law_gcd : p__law_gcd.Ok prog gi bl where
  chk := by decide +kernel
  sc := ⟨rfl, rfl, rfl, by decide +kernel, rfl, by decide +kernel, by decide +kernel⟩
  size := rfl
  pars := rfl
  le := by decide
  bind := fun _ _ _ _ _ _ us hl => match us, hl with | [_, _], _ => rfl
theorem ok__law_lowest : p__law_lowest.Ok prog gi bl where
  chk := by decide +kernel
  sc := ⟨rfl, rfl, rfl, by decide +kernel, rfl, by decide +kernel, by decide +kernel⟩
  size := rfl
  pars := rfl
  le := by decide
  bind := fun _ _ _ _ _ _ us hl => match us, hl with | [_, _], _ => rfl
theorem ok__law_same : p__law_same.Ok prog gi bl where
  chk := by decide +kernel
  sc := ⟨rfl, rfl, rfl, by decide +kernel, rfl, by decide +kernel, by decide +kernel⟩
  size := rfl
  pars := rfl
  le := by decide
  bind := fun _ _ _ _ _ _ us hl => match us, hl with | [_, _], _ => rfl
theorem ok__law_far : p__law_far.Ok prog gi bl where
  chk := by decide +kernel
  sc := ⟨rfl, rfl, rfl, by decide +kernel, rfl, by decide +kernel, by decide +kernel⟩
  size := rfl
  pars := rfl
  le := by decide
  bind := fun _ _ _ _ _ _ us hl => match us, hl with | [_], _ => rfl
theorem ok__law_neighbours : p__law_neighbours.Ok prog gi bl where
  chk := by decide +kernel
  sc := ⟨rfl, rfl, rfl, by decide +kernel, rfl, by decide +kernel, by decide +kernel⟩
  size := rfl
  pars := rfl
  le := by decide
  bind := fun _ _ _ _ _ _ us hl => match us, hl with | [], _ => rfl
theorem ok_law : p_law.Ok prog gi bl where
  chk := by decide +kernel
  sc := ⟨rfl, rfl, rfl, by decide +kernel, rfl, by decide +kernel, by decide +kernel⟩
  size := rfl
  pars := rfl
  le := by decide
  bind := fun _ _ _ _ _ _ us hl => match us, hl with | [_], _ => rfl
theorem allOk : ∀ f ∈ prog, f.Ok prog gi bl := by
  intro f hf
  simp only [prog, List.mem_cons, List.not_mem_nil, or_false] at hf
  rcases hf with rfl | rfl | rfl | rfl | rfl | rfl | rfl | rfl | rfl | rfl | rfl | rfl
  · exact ok_common_of
  · exact ok_common_in
  · exact ok_spot_at
  · exact ok__law_mixed
  · exact ok__law_draws
  · exact ok__law_next
  · exact ok__law_gcd
  · exact ok__law_lowest
  · exact ok__law_same
  · exact ok__law_far
  · exact ok__law_neighbours
  · exact ok_law
theorem allT : ∀ f ∈ prog, T f.id = some f.fd := by
  intro f hf
  simp only [prog, List.mem_cons, List.not_mem_nil, or_false] at hf
  rcases hf with rfl | rfl | rfl | rfl | rfl | rfl | rfl | rfl | rfl | rfl | rfl | rfl <;> rfl
end

section
abbrev R0 : PySem.W.OpenRow := PySem.W.OpenLaw.row PySem.Challenge.rw_heapsmeet_k03_spots_told_in_lowest_terms
abbrev hk : PySem.W.Hook := hookM 4 (faOf prog gi bl) (prog.map FnP.dd)
def ob (s : PySem.W.SharedT) : He.AlD × Bool := obsMG 4 (faOf prog gi bl) (prog.map FnP.dd) (HandSHeadRun.getT s)
theorem ob_eq (s : PySem.W.SharedT) : ob s = hk.obs s.abs := obsMG_eq (HandSHeadRun.getT_eq s)
theorem run (w : World) : HandSHeadRun.RunEq R0 (PySem.W.view R0.prog [13]) hk ob 2000 ((["_law_draws", "_law_far", "_law_gcd", "_law_lowest", "_law_mixed", "_law_neighbours", "_law_next", "_law_same", "common_in", "common_of", "spot_at"] : List Str)) w := by
  intro os
  kernel_rfl
end

theorem law_true (ns : List Int) (h : ns.length ≤ 63) : Phi T 40 32 [.list (ns.map .int)] = .ok (.bool true) [] := by
  have ex : ∃ far : Int → Int, ∀ n : Int, 0 ≤ n → n < 2147483629 → Phi T 39 14 [.int n] = .ok (.int (far n)) [] ∧ (far n).natAbs < 10 ^ 110 := by
    classical
    refine ⟨fun n => if q : 0 ≤ n ∧ n < 2147483629 then (run14 (Phi T 38) n q.1 q.2).choose else 0, fun n h0 h1 => ?_⟩
    dsimp only
    rw [dif_pos ⟨h0, h1⟩]
    exact (run14 (Phi T 38) n h0 h1).choose_spec
  obtain ⟨far, hfar⟩ := ex
  have H : Hyp32 (Phi T 39) far := {
    h6 := fun ds => run6 (Phi T 38) ds
    h14 := hfar
    h8 := fun ns b hb hs hl => run8 (Phi T 38) (fun a b => run7 (Phi T 37) a b) ns b hb (Nat.lt_trans hs (by decide)) hl
    h30 := fun ns b hb hs hl => run30 (Phi T 38) (fun a b => run1 (Phi T 37) a b) ns (run2 (Phi T 37) (fun a b => run1 (Phi T 36) a b) ns rfl (fun _ => .inr trivial)) b hb (Nat.lt_trans hs (by decide)) hl
    h31 := fun ns => run31t (Phi T 38) (fun a => run31i (Phi T 37) a) ns }
  exact run32 H (fun ns hn => run5 (Phi T 38) (fun c k hk => run4 (Phi T 37) c k hk) ns hn) (run16 (Phi T 38)) ns h

end My

open PySem PySem.W PySem.Calls PyProof.Rows
theorem PySem.Challenge.cw_heapsmeet_k03_spots_told_in_lowest_terms_holds : PySem.Challenge.rw_heapsmeet_k03_spots_told_in_lowest_terms.Holds := by
  w_on; o_law
  refine HandSHeadRun.head_any (r := OpenLaw.row PySem.Challenge.rw_heapsmeet_k03_spots_told_in_lowest_terms) (q := view (OpenLaw.row PySem.Challenge.rw_heapsmeet_k03_spots_told_in_lowest_terms).prog [13]) (H := My.hk) (ob := My.ob) (M := 2000) (loose := (["_law_draws", "_law_far", "_law_gcd", "_law_lowest", "_law_mixed", "_law_neighbours", "_law_next", "_law_same", "common_in", "common_of", "spot_at"] : List Str)) (d := HandSHeadRun.topDef (OpenLaw.row PySem.Challenge.rw_heapsmeet_k03_spots_told_in_lowest_terms).prog 13) (kwd := []) My.ob_eq
    (by kernel_rfl) (fun s => by kernel_rfl) My.run (by kernel_rfl) (by kernel_rfl) (by kernel_rfl) (by rfl) (by first | assumption | decide +kernel) (by decide +kernel) ⟨rfl, rfl, rfl, rfl, rfl, by decide +kernel⟩ ?hw ?hc
  case hw => w_witness2
  case hc =>
    refine L2.walk_ofE (l := PySem.Challenge.rw_heapsmeet_k03_spots_told_in_lowest_terms) (n := 63) (k := 41) (x := "script") (CX := L2.CX0) rfl (by decide) (by kernel_rfl) ⟨rfl, by decide, by decide⟩ ?F (fun _ _ _ _ z => z)
    intro w mg fa h Y G hmg0
    obtain ⟨K, KX, c, nl⟩ := Y
    have hmg : mg ("law" : PySem.Str) = some (.ref fa) := by
      have e : (HandSHeadRun.topDef (OpenLaw.row PySem.Challenge.rw_heapsmeet_k03_spots_told_in_lowest_terms).prog 13).name = ("law" : PySem.Str) := by kernel_rfl
      rw [← e]
      exact hmg0
    exact HM.law_fn (P := (PySem.Challenge.rw_heapsmeet_k03_spots_told_in_lowest_terms).prog) (w := w) (T := My.T) (f0 := My.p_law) (n := 40) KX G c nl My.allOk My.allT (by simp [My.prog]) rfl rfl rfl hmg My.law_true

