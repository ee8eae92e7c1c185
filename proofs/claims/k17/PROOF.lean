import PyProof.Rows.All
import PySem.PyData
import PyProof.EqLayable
import Wide.All
import OpenK.AllK
import Wide.FinOn
import KE.KStateDown
import Lean
import HandS.Base
import HandS.Call
import HandS.List
import HandS.Comp
import HandS.Ends
import HandS.Iter
import HandS.Exc
import HandS.TryOnly
import HandS.ExcOwn
import HandS.Words
import HandS.WordsList
import HandS.WordsExc
import HandS.IsInst
import HandS.Wide
import HandS.Sort
import HandS.SortInts
import HandS.Zip
import HandS.Defaults
import HandS.HeadEnd
import HandS.HeadHook1
import HandS.HeadHook2
import HandS.Head0
import HandS.Head1
import HandS.Head2
import HandS.TupAny
import HandS.TupMul
import HandS.Deep
import HandS.Conv
import HandS.Style
import HandS.Dict
import HandS.HeadHook4
import PyProof.P3Eq
import PySem.Challenge.RW_heapsmeet_k17_no_near_papers
set_option Elab.async false
set_option linter.all false
set_option maxRecDepth 100000
set_option maxHeartbeats 4000000
set_option autoImplicit false

/-! Sem: a plain evaluator of the part of Python that the laws are written in, over plain data (PySem.PyData). -/
namespace HM
open PySem

/-- the longest list, tuple, text -/
abbrev SL : Nat := 16777216

inductive Slot where
  | un | val (d : PyData) | mu (ds : List PyData) | par (ds : List PyData)
abbrev Env := List Slot
structure Xn where
  cls : Nat
  arg : Option PyData
inductive R (α : Type) where
  | ok (a : α) (ρ : Env) | exc (x : Xn) (ρ : Env) | bad
def R.bind {α β : Type} : R α → (α → Env → R β) → R β
  | .ok a ρ, f => f a ρ
  | .exc x ρ, _ => .exc x ρ
  | .bad, _ => .bad
def R.of {α : Type} : Option α → Env → R α
  | some a, ρ => .ok a ρ
  | none, _ => .bad
/-- what a call hands back -/
inductive FR where
  | ok (d : PyData) (io : List PyData) | exc (x : Xn) (io : List PyData) | bad

inductive Op2 where
  | add | sub | mul | mod | fdiv | pow | shl | shr | band
  deriving DecidableEq
inductive Cm where
  | eq | ne | lt | le | gt | ge | is | isnot | isin | notin
  deriving DecidableEq
inductive Ty where
  | int | bool | tuple | list | str | dict
  deriving DecidableEq
inductive Bi where
  | len | abs | tuple | list | sum | all | any | min | max | min2 | max2 | int | sorted
  deriving DecidableEq
inductive Tg where
  | one (i : Nat) | many (is : List Nat)

/-- at most n bits -/
def Sm (n : Nat) (i : Int) : Prop := i.natAbs < 2 ^ n
instance (n : Nat) (i : Int) : Decidable (Sm n i) := by unfold Sm; infer_instance
/-- the bits of a great number -/
abbrev GB : Nat := 60000000
def mulOk (i j : Int) : Prop := Sm 64 i ∨ Sm 64 j ∨ (Sm GB i ∧ Sm GB j)
instance (i j : Int) : Decidable (mulOk i j) := by unfold mulOk; infer_instance
def divOk (i j : Int) : Prop := j ≠ 0 ∧ (Sm 9000 j ∨ i.natAbs ≤ j.natAbs * 2 ^ 4000)
instance (i j : Int) : Decidable (divOk i j) := by unfold divOk; infer_instance
def powOk (i j : Int) : Prop := 0 ≤ j ∧ j ≤ 100000 ∧ Sm 1000 i
instance (i j : Int) : Decidable (powOk i j) := by unfold powOk; infer_instance
def shlOk (i j : Int) : Prop := 0 ≤ j ∧ j ≤ 1000000 ∧ Sm 64 i
instance (i j : Int) : Decidable (shlOk i j) := by unfold shlOk; infer_instance
/-- xs * k -/
def repOk (n : Nat) (k : Int) : Prop := -(2 ^ 63) ≤ k ∧ k < 2 ^ 63 ∧ n * k.toNat ≤ SL
instance (n : Nat) (k : Int) : Decidable (repOk n k) := by unfold repOk; infer_instance
def repL {α : Type} (xs : List α) (k : Int) : List α := (List.replicate k.toNat xs).flatten

def bin : Op2 → PyData → PyData → Option PyData
  | .add, .int i, .int j => some (.int (i + j))
  | .add, .tuple xs, .tuple ys => if xs.length + ys.length ≤ SL then some (.tuple (xs ++ ys)) else none
  | .add, .list xs, .list ys => if xs.length + ys.length ≤ SL then some (.list (xs ++ ys)) else none
  | .sub, .int i, .int j => some (.int (i - j))
  | .mul, .int i, .int j => if mulOk i j then some (.int (i * j)) else none
  | .mul, .tuple xs, .int k => if repOk xs.length k then some (.tuple (repL xs k)) else none
  | .mul, .list xs, .int k => if repOk xs.length k then some (.list (repL xs k)) else none
  | .mod, .int i, .int j => if j ≠ 0 then some (.int (i.fmod j)) else none
  | .fdiv, .int i, .int j => if divOk i j then some (.int (i.fdiv j)) else none
  | .pow, .int i, .int j => if powOk i j then some (.int (i ^ j.toNat)) else none
  | .shl, .int i, .int j => if shlOk i j then some (.int (i * 2 ^ j.toNat)) else none
  | .shr, .int i, .int j => if 0 ≤ j then some (.int (i / 2 ^ j.toNat)) else none
  | _, _, _ => none
def isNone : PyData → Bool
  | .none => true
  | _ => false
def isB (b : Bool) : PyData → Bool
  | .bool c => b == c
  | _ => false
def flat : PyData → Bool
  | .none | .bool _ | .int _ | .str _ => true
  | _ => false
def inD (x : PyData) (xs : List PyData) : Bool := xs.any fun y => PyData.eqv y x
def cmpD : Cm → PyData → PyData → Option Bool
  | .lt, .int i, .int j => some (decide (i < j))
  | .le, .int i, .int j => some (decide (i ≤ j))
  | .gt, .int i, .int j => some (decide (j < i))
  | .ge, .int i, .int j => some (decide (j ≤ i))
  | .is, x, .none => some (isNone x)
  | .isnot, x, .none => some (!isNone x)
  | .is, x, .bool b => some (isB b x)
  | .isnot, x, .bool b => some (!isB b x)
  | .isin, x, .list ys => if flat x && ys.all flat then some (inD x ys) else none
  | .isin, x, .tuple ys => if flat x && ys.all flat then some (inD x ys) else none
  | .notin, x, .list ys => if flat x && ys.all flat then some (!inD x ys) else none
  | .notin, x, .tuple ys => if flat x && ys.all flat then some (!inD x ys) else none
  | .eq, .tuple xs, .tuple [] => some xs.isEmpty
  | .eq, .list xs, .list [] => some xs.isEmpty
  | .ne, .tuple xs, .tuple [] => some (!xs.isEmpty)
  | .ne, .list xs, .list [] => some (!xs.isEmpty)
  | .eq, x, y => if SeqAt.shaped x && SeqAt.shaped y then some (PyData.eqv x y) else none
  | .ne, x, y => if SeqAt.shaped x && SeqAt.shaped y then some (!PyData.eqv x y) else none
  | _, _, _ => none
/-- the place of xs[i] -/
def ixAt {α : Type} (xs : List α) (i : Int) : Option α := if 0 ≤ i then xs[i.toNat]? else if 0 ≤ (xs.length : Int) + i then xs[((xs.length : Int) + i).toNat]? else none
def ixD : PyData → PyData → Option PyData
  | .list xs, .int i => ixAt xs i
  | .tuple xs, .int i => ixAt xs i
  | _, _ => none
/-- a slice's end -/
def sIx (n : Nat) : Int → Nat := fun i => if 0 ≤ i then Nat.min i.toNat n else (n + i).toNat
def cut {α : Type} (xs : List α) (lo hi : Nat) : List α := (xs.drop lo).take (hi - lo)
/-- .none: left out -/
def slEnd (n dflt : Nat) : PyData → Option Nat
  | .none => some dflt
  | .int i => some (sIx n i)
  | _ => none
def slD : PyData → PyData → PyData → Option PyData
  | .list xs, a, b => (slEnd xs.length 0 a).bind fun lo => (slEnd xs.length xs.length b).map fun hi => .list (cut xs lo hi)
  | .tuple xs, a, b => (slEnd xs.length 0 a).bind fun lo => (slEnd xs.length xs.length b).map fun hi => .tuple (cut xs lo hi)
  | _, _, _ => none
def revD : PyData → Option PyData
  | .list xs => some (.list xs.reverse)
  | .tuple xs => some (.tuple xs.reverse)
  | _ => none
def isTy : Ty → PyData → Bool
  | .int, .int _ | .int, .bool _ | .bool, .bool _ | .tuple, .tuple _ | .list, .list _ | .str, .str _ | .dict, .dict _ => true
  | _, _ => false
def intsD : List PyData → Option (List Int)
  | [] => some []
  | .int i :: r => (intsD r).map (i :: ·)
  | _ => none
def boolsD : List PyData → Option (List Bool)
  | [] => some []
  | .bool i :: r => (boolsD r).map (i :: ·)
  | _ => none
def leastI : Int → List Int → Int
  | m, [] => m
  | m, x :: r => leastI (if x < m then x else m) r
def mostI : Int → List Int → Int
  | m, [] => m
  | m, x :: r => mostI (if m < x then x else m) r
def insI (x : Int) : List Int → List Int
  | [] => [x]
  | y :: r => if x ≤ y then x :: y :: r else y :: insI x r
def sortI : List Int → List Int
  | [] => []
  | x :: r => insI x (sortI r)
def pairsD : List PyData → Option (List (Int × Int))
  | [] => some []
  | .tuple [.int i, .int j] :: r => (pairsD r).map ((i, j) :: ·)
  | _ => none
def lexP (p q : Int × Int) : Bool := decide (p.1 < q.1) || (decide (p.1 = q.1) && decide (p.2 < q.2))
def insP (x : Int × Int) : List (Int × Int) → List (Int × Int)
  | [] => [x]
  | y :: r => if lexP y x then y :: insP x r else x :: y :: r
def sortP : List (Int × Int) → List (Int × Int)
  | [] => []
  | x :: r => insP x (sortP r)
def sortD (xs : List PyData) : Option (List PyData) := match intsD xs with
  | some ns => some ((sortI ns).map .int)
  | none => (pairsD xs).map fun ps => (sortP ps).map fun p => .tuple [.int p.1, .int p.2]
def itemsD : PyData → Option (List PyData)
  | .list xs => some xs
  | .tuple xs => some xs
  | _ => none
def biD : Bi → List PyData → Option PyData
  | .len, [.list xs] => some (.int xs.length)
  | .len, [.tuple xs] => some (.int xs.length)
  | .abs, [.int i] => some (.int (if i < 0 then -i else i))
  | .tuple, [.list xs] => some (.tuple xs)
  | .tuple, [.tuple xs] => some (.tuple xs)
  | .list, [.list xs] => some (.list xs)
  | .list, [.tuple xs] => some (.list xs)
  | .sum, [.list xs] => (intsD xs).map fun ns => .int ns.sum
  | .all, [.list xs] => (boolsD xs).map fun bs => .bool (bs.all id)
  | .any, [.list xs] => (boolsD xs).map fun bs => .bool (bs.any id)
  | .min, [.list xs] => (intsD xs).bind fun ns => match ns with | [] => none | n :: r => some (.int (leastI n r))
  | .max, [.list xs] => (intsD xs).bind fun ns => match ns with | [] => none | n :: r => some (.int (mostI n r))
  | .min2, [.int i, .int j] => some (.int (if j < i then j else i))
  | .max2, [.int i, .int j] => some (.int (if j > i then j else i))
  | .int, [.int i] => some (.int i)
  | .int, [.bool b] => some (.int (if b then 1 else 0))
  | .sorted, [.list xs] => (sortD xs).map .list
  | _, _ => none

inductive E where
  | var (i : Nat) | non | bl (b : Bool) | int (z : Int) | str (s : Str) | gint (x : Str) (z : Int)
  | nil | cons (a b : E)
  | bin (o : Op2) (a b : E) | neg (a : E)
  | cmp (o : Cm) (a b : E) | chain (o p : Cm) (a b c : E)
  | not (a : E) | and (a b : E) | or (a b : E) | ite (c a b : E)
  | tup (es : E) | lst (es : E)
  | ix (a b : E) | sl (a lo hi : E) | rev (a : E)
  | call (f : Nat) (es : E) | callio (f p i : Nat) (es : E)
  | bi (f : Bi) (es : E) | isi (a : E) (t : Ty)
  | rng (a : E) | rng2 (a b : E) | enum (a : E) | zip (a b : E)
  | comp (elt : E) (tg : Tg) (src cond : E) (own : List Nat)
  | compM (elt : E) (tg : Tg) (i : Nat) (cond : E) (own : List Nat)
  | lrng (a : E) | trng (a : E) | edic | dic1 (a b : E) | callk (f : Nat) (es : E)
  | lenM (i : Nat) | ixM (i : Nat) (e : E) | nilM (i : Nat) | popM (i : Nat) (e : E)

def E.isNon : E → Bool
  | .non => true
  | _ => false
/-- a slice's end is left out, or an int -/
def slOk : Bool → PyData → Bool
  | true, .none => true
  | false, .int _ => true
  | _, _ => false
inductive S where
  | skip | seq (a b : S)
  | asg (i : Nat) (e : E) | asgM (i : Nat) (e : E) | asgs (is : List Nat) (e : E) | two (i j : Nat) (a b : E)
  | app (i : Nat) (e : E) | setM (i : Nat) (a e : E) | aug (i : Nat) (o : Op2) (e : E) | augM (i : Nat) (a : E) (o : Op2) (e : E) | ext (i : Nat) (e : E)
  | ret (e : E) | retM (i : Nat) | ite (c : E) (a b : S) | for_ (tg : Tg) (src : E) (b : S) | while_ (c : E) (b : S) | drop (e : E)
  | brk | cnt

/-- behind a statement -/
inductive O where
  | nx (ρ : Env) | ret (own : Bool) (d : PyData) (ρ : Env) | brk (ρ : Env) | cnt (ρ : Env) | exc (x : Xn) (ρ : Env) | bad

def getS (ρ : Env) (i : Nat) : Slot := ρ.getD i .un
/-- a store to a name: never to a list that was handed in to be changed -/
def putS (ρ : Env) (i : Nat) (s : Slot) : Option Env := match ρ[i]? with
  | none => none
  | some (.par _) => none
  | some _ => some (ρ.set i s)
/-- the items behind a list that may change -/
def mutS : Slot → Option (List PyData)
  | .mu ds => some ds
  | .par ds => some ds
  | _ => none
def remut : Slot → List PyData → Slot
  | .mu _, ds => .mu ds
  | .par _, ds => .par ds
  | s, _ => s
/-- a name's value read: a list that may change is frozen by it -/
def rdVar (ρ : Env) (i : Nat) : R PyData := match getS ρ i with
  | .val d => .ok d ρ
  | .mu ds => .ok (.list ds) (ρ.set i (.val (.list ds)))
  | _ => .bad
def putAll : List Nat → List PyData → Env → Option Env
  | [], [], ρ => some ρ
  | i :: is, d :: ds, ρ => (putS ρ i (.val d)).bind fun ρ' => putAll is ds ρ'
  | _, _, _ => none
def asgT : Tg → PyData → Env → Option Env
  | .one i, d, ρ => putS ρ i (.val d)
  | .many is, .tuple ds, ρ => putAll is ds ρ
  | _, _, _ => none
def wipeS : List Nat → Env → Env
  | [], ρ => ρ
  | i :: r, ρ => (wipeS r ρ).set i .un
/-- the names of a comprehension hold nothing that may change -/
def ownOk (own : List Nat) (ρ : Env) : Bool := own.all fun i => match getS ρ i with | .mu _ => false | .par _ => false | _ => true
def giveS : List Nat → Env → Env → Env
  | [], _, ρ => ρ
  | i :: r, ρ0, ρ => (giveS r ρ0 ρ).set i (getS ρ0 i)
def compGo (f : PyData → Env → R (Option PyData)) : List PyData → Env → R (List PyData)
  | [], ρ => .ok [] ρ
  | d :: ds, ρ => match f d ρ with
    | .ok y ρ1 => (match compGo f ds ρ1 with
      | .ok ys ρ2 => .ok (match y with | some y => y :: ys | none => ys) ρ2
      | _ => .bad)
    | _ => .bad
def rangeD (lo : Int) (n : Nat) : List PyData := (List.range n).map fun k => .int (lo + (k : Nat))
def rngOk (lo hi : Int) : Prop := -(2 ^ 62) ≤ lo ∧ lo < 2 ^ 62 ∧ -(2 ^ 62) ≤ hi ∧ hi < 2 ^ 62 ∧ (hi - lo).toNat ≤ SL
instance (lo hi : Int) : Decidable (rngOk lo hi) := by unfold rngOk; infer_instance
def rngD : PyData → PyData → Option PyData
  | .int lo, .int hi => if rngOk lo hi then some (.list (rangeD lo (hi - lo).toNat)) else none
  | _, _ => none
def enumFrom : Nat → List PyData → List PyData
  | _, [] => []
  | k, d :: r => .tuple [.int k, d] :: enumFrom (k + 1) r
def enumD : PyData → Option PyData
  | .list xs => some (.list (enumFrom 0 xs))
  | _ => none
def zipL : List PyData → List PyData → List PyData
  | a :: r, b :: s => .tuple [a, b] :: zipL r s
  | _, _ => []
def zipD : PyData → PyData → Option PyData
  | .list xs, .list ys => some (.list (zipL xs ys))
  | .tuple xs, .tuple ys => some (.list (zipL xs ys))
  | _, _ => none
def insAt {α : Type} (p : Nat) (x : α) (xs : List α) : List α := xs.take p ++ x :: xs.drop p
def asB : PyData → Option Bool
  | .bool b => some b
  | _ => none
def setAt (xs : List PyData) (i : Int) (y : PyData) : Option (List PyData) :=
  if 0 ≤ i then (if i.toNat < xs.length then some (xs.set i.toNat y) else none)
  else if 0 ≤ (xs.length : Int) + i then some (xs.set ((xs.length : Int) + i).toNat y) else none

abbrev Fns := Nat → List PyData → FR
def tupOf : PyData → List PyData
  | .tuple ds => ds
  | _ => []
/-- a comprehension's turn -/
def turnC (own : List Nat) (tg : Tg) (fc fe : Env → R PyData) (d : PyData) (ρ : Env) : R (Option PyData) := match asgT tg d (wipeS own ρ) with
  | none => .bad
  | some ρ2 => (fc ρ2).bind fun c ρ3 => match c with
    | .bool true => (fe ρ3).bind fun y ρ4 => .ok (some y) ρ4
    | .bool false => .ok none ρ3
    | _ => .bad
section
variable (Φ : Fns)
def evE : E → Env → R PyData
  | .var i, ρ => rdVar ρ i
  | .non, ρ => .ok .none ρ
  | .bl b, ρ => .ok (.bool b) ρ
  | .int z, ρ => .ok (.int z) ρ
  | .str s, ρ => .ok (.str s) ρ
  | .gint _ z, ρ => .ok (.int z) ρ
  | .nil, ρ => .ok (.tuple []) ρ
  | .cons a b, ρ => (evE a ρ).bind fun x ρ => (evE b ρ).bind fun y ρ => .ok (.tuple (x :: tupOf y)) ρ
  | .bin o a b, ρ => (evE a ρ).bind fun x ρ => (evE b ρ).bind fun y ρ => .of (bin o x y) ρ
  | .neg a, ρ => (evE a ρ).bind fun x ρ => match x with | .int i => .ok (.int (-i)) ρ | _ => .bad
  | .cmp o a b, ρ => (evE a ρ).bind fun x ρ => (evE b ρ).bind fun y ρ => .of ((cmpD o x y).map .bool) ρ
  | .chain o p a b c, ρ => (evE a ρ).bind fun x ρ => (evE b ρ).bind fun y ρ => match cmpD o x y with
    | some true => (evE c ρ).bind fun z ρ => .of ((cmpD p y z).map .bool) ρ
    | some false => .ok (.bool false) ρ
    | none => .bad
  | .not a, ρ => (evE a ρ).bind fun x ρ => match x with | .bool b => .ok (.bool (!b)) ρ | _ => .bad
  | .and a b, ρ => (evE a ρ).bind fun x ρ => match x with | .bool true => evE b ρ | .bool false => .ok (.bool false) ρ | _ => .bad
  | .or a b, ρ => (evE a ρ).bind fun x ρ => match x with | .bool true => .ok (.bool true) ρ | .bool false => evE b ρ | _ => .bad
  | .ite c a b, ρ => (evE c ρ).bind fun x ρ => match x with | .bool true => evE a ρ | .bool false => evE b ρ | _ => .bad
  | .tup es, ρ => (evE es ρ).bind fun x ρ => .ok (.tuple (tupOf x)) ρ
  | .lst es, ρ => (evE es ρ).bind fun x ρ => .ok (.list (tupOf x)) ρ
  | .ix a b, ρ => (evE a ρ).bind fun x ρ => (evE b ρ).bind fun y ρ => .of (ixD x y) ρ
  | .sl a lo hi, ρ => (evE a ρ).bind fun x ρ => (evE lo ρ).bind fun y ρ => if slOk lo.isNon y then (evE hi ρ).bind fun z ρ => if slOk hi.isNon z then .of (slD x y z) ρ else .bad else .bad
  | .rev a, ρ => (evE a ρ).bind fun x ρ => .of (revD x) ρ
  | .call f es, ρ => (evE es ρ).bind fun x ρ => match Φ f (tupOf x) with
    | .ok d _ => .ok d ρ
    | .exc z _ => .exc z ρ
    | .bad => .bad
  | .callio f p i es, ρ => if (mutS (getS ρ i)).isSome then (evE es ρ).bind fun x ρ => match mutS (getS ρ i) with
    | none => .bad
    | some ds => match Φ f (insAt p (.list ds) (tupOf x)) with
      | .ok d ds' => .ok d (ρ.set i (remut (getS ρ i) ds'))
      | .exc z ds' => .exc z (ρ.set i (remut (getS ρ i) ds'))
      | .bad => .bad
    else .bad
  | .bi f es, ρ => (evE es ρ).bind fun x ρ => .of (biD f (tupOf x)) ρ
  | .isi a t, ρ => (evE a ρ).bind fun x ρ => .ok (.bool (isTy t x)) ρ
  | .rng a, ρ => (evE a ρ).bind fun x ρ => .of (rngD (.int 0) x) ρ
  | .rng2 a b, ρ => (evE a ρ).bind fun x ρ => (evE b ρ).bind fun y ρ => .of (rngD x y) ρ
  | .enum a, ρ => (evE a ρ).bind fun x ρ => .of (enumD x) ρ
  | .zip a b, ρ => (evE a ρ).bind fun x ρ => (evE b ρ).bind fun y ρ => .of (zipD x y) ρ
  | .comp elt tg src cond own, ρ => (evE src ρ).bind fun x ρ => match itemsD x, ownOk own ρ with
    | some ds, true => (compGo (turnC own tg (evE cond) (evE elt)) ds ρ).bind fun ys ρ5 => .ok (.list ys) (giveS own ρ ρ5)
    | _, _ => .bad
  | .compM elt tg i cond own, ρ => match mutS (getS ρ i), ownOk (i :: own) (ρ.set i .un) && !own.contains i with
    | some ds, true => (compGo (turnC own tg (evE cond) (evE elt)) ds (ρ.set i .un)).bind fun ys ρ5 => .ok (.list ys) ((giveS own (ρ.set i .un) ρ5).set i (getS ρ i))
    | _, _ => .bad
  | .lrng a, ρ => (evE a ρ).bind fun x ρ => match x with | .list ds => .ok (.list ds) ρ | _ => .bad
  | .trng a, ρ => (evE a ρ).bind fun x ρ => match x with | .list ds => .ok (.tuple ds) ρ | _ => .bad
  | .edic, ρ => .ok (.dict []) ρ
  | .dic1 a b, ρ => (evE a ρ).bind fun x ρ => (evE b ρ).bind fun y ρ => match x with
    | .int i => .ok (.dict [(.int i, y)]) ρ
    | .str i => .ok (.dict [(.str i, y)]) ρ
    | _ => .bad
  | .callk f es, ρ => (evE es ρ).bind fun x ρ => match Φ f (tupOf x) with
    | .ok d _ => .ok d ρ
    | .exc z _ => .exc z ρ
    | .bad => .bad
  | .lenM i, ρ => match mutS (getS ρ i) with | some ds => .ok (.int ds.length) ρ | none => .bad
  | .ixM i e, ρ => if (mutS (getS ρ i)).isSome then (evE e ρ).bind fun x ρ => match mutS (getS ρ i), x with
    | some ds, .int k => .of (ixAt ds k) ρ
    | _, _ => .bad
    else .bad
  | .nilM i, ρ => match mutS (getS ρ i) with | some ds => .ok (.bool ds.isEmpty) ρ | none => .bad
  | .popM i e, ρ => if (mutS (getS ρ i)).isSome then (evE e ρ).bind fun x ρ => match mutS (getS ρ i), x with
    | some ds, .int k => (match ds[k.toNat]? with
      | some d => if 0 ≤ k ∧ k < 2 ^ 63 then .ok d (ρ.set i (remut (getS ρ i) (ds.eraseIdx k.toNat))) else .bad
      | none => .bad)
    | _, _ => .bad
    else .bad

def forGo (f : PyData → Env → O) : List PyData → Env → O
  | [], ρ => .nx ρ
  | d :: ds, ρ => match f d ρ with
    | .nx ρ' => forGo f ds ρ'
    | .cnt ρ' => forGo f ds ρ'
    | .brk ρ' => .nx ρ'
    | o => o
/-- a while's turns, n at most -/
def whileN (c : Env → R PyData) (f : Env → O) : Nat → Env → Option O
  | 0, _ => none
  | n + 1, ρ => match c ρ with
    | .ok (.bool true) ρ1 => (match f ρ1 with
      | .nx ρ' => whileN c f n ρ'
      | .cnt ρ' => whileN c f n ρ'
      | .brk ρ' => some (.nx ρ')
      | o => some o)
    | .ok (.bool false) ρ1 => some (.nx ρ1)
    | .exc x ρ1 => some (.exc x ρ1)
    | _ => some .bad
open Classical in
noncomputable def whileD (c : Env → R PyData) (f : Env → O) (ρ : Env) : O := if h : ∃ n o, whileN c f n ρ = some o then h.choose_spec.choose else .bad
def O.of : Option Env → O
  | some ρ => .nx ρ
  | none => .bad
def R.out {α : Type} : R α → (α → Env → O) → O
  | .ok a ρ, f => f a ρ
  | .exc x ρ, _ => .exc x ρ
  | .bad, _ => .bad
noncomputable def evS : S → Env → O
  | .skip, ρ => .nx ρ
  | .seq a b, ρ => match evS a ρ with
    | .nx ρ' => evS b ρ'
    | o => o
  | .asg i e, ρ => (evE Φ e ρ).out fun d ρ => O.of (putS ρ i (.val d))
  | .asgM i e, ρ => (evE Φ e ρ).out fun d ρ => match d with | .list ds => O.of (putS ρ i (.mu ds)) | _ => .bad
  | .asgs is e, ρ => (evE Φ e ρ).out fun d ρ => O.of (asgT (.many is) d ρ)
  | .two i j a b, ρ => (evE Φ a ρ).out fun x ρ => (evE Φ b ρ).out fun y ρ => O.of ((putS ρ i (.val x)).bind fun ρ => putS ρ j (.val y))
  | .app i e, ρ => if (mutS (getS ρ i)).isSome then (evE Φ e ρ).out fun d ρ => match mutS (getS ρ i) with
    | some ds => if ds.length < SL then .nx (ρ.set i (remut (getS ρ i) (ds ++ [d]))) else .bad
    | none => .bad
    else .bad
  | .ext i e, ρ => if (mutS (getS ρ i)).isSome then (evE Φ e ρ).out fun d ρ => match mutS (getS ρ i), d with
    | some ds, .list es => if ds.length + es.length ≤ SL then .nx (ρ.set i (remut (getS ρ i) (ds ++ es))) else .bad
    | _, _ => .bad
    else .bad
  | .setM i a e, ρ => (evE Φ e ρ).out fun d ρ => if (mutS (getS ρ i)).isSome then (evE Φ a ρ).out fun k ρ => match mutS (getS ρ i), k with
    | some ds, .int k => (match setAt ds k d with
      | some ds' => .nx (ρ.set i (remut (getS ρ i) ds'))
      | none => .bad)
    | _, _ => .bad
    else .bad
  | .aug i o e, ρ => match getS ρ i with
    | .val (.int x) => (evE Φ e ρ).out fun y ρ => match bin o (.int x) y with
      | some z => O.of (putS ρ i (.val z))
      | none => .bad
    | _ => .bad
  | .augM i a o e, ρ => if (mutS (getS ρ i)).isSome then (evE Φ a ρ).out fun k ρ => match mutS (getS ρ i), k with
    | some ds, .int k => (match ixAt ds k with
      | some (.int x) => (evE Φ e ρ).out fun y ρ => (match bin o (.int x) y, mutS (getS ρ i) with
        | some z, some ds' => (match setAt ds' k z with
          | some ds'' => .nx (ρ.set i (remut (getS ρ i) ds''))
          | none => .bad)
        | _, _ => .bad)
      | _ => .bad)
    | _, _ => .bad
    else .bad
  | .ret e, ρ => (evE Φ e ρ).out fun d ρ => .ret false d ρ
  | .retM i, ρ => match getS ρ i with
    | .mu ds => .ret true (.list ds) ρ
    | _ => .bad
  | .ite c a b, ρ => (evE Φ c ρ).out fun x ρ => match x with | .bool true => evS a ρ | .bool false => evS b ρ | _ => .bad
  | .for_ tg src b, ρ => (evE Φ src ρ).out fun x ρ => match itemsD x with
    | some ds => forGo (fun d ρ => match asgT tg d ρ with
      | some ρ' => evS b ρ'
      | none => .bad) ds ρ
    | none => .bad
  | .while_ c b, ρ => whileD (fun ρ => evE Φ c ρ) (fun ρ => evS b ρ) ρ
  | .drop e, ρ => (evE Φ e ρ).out fun _ ρ => .nx ρ
  | .brk, ρ => .brk ρ
  | .cnt, ρ => .cnt ρ
end

/-- a def: how many names, its parameters, the one whose list it changes, whether it hands back a list of its own -/
structure Fd where
  pars : Nat
  size : Nat
  io : Option Nat
  own : Bool
  body : S
def startS : Nat → Option Nat → List PyData → List Slot
  | _, _, [] => []
  | k, io, d :: r => (match io, d with
    | some p, .list ds => if p = k then .par ds else .val d
    | _, _ => .val d) :: startS (k + 1) io r
/-- what the list that was handed in to be changed holds at last -/
def parOf (io : Option Nat) (ρ : Env) : Option (List PyData) := match io with
  | some p => (match getS ρ p with | .par ds => some ds | _ => none)
  | none => some []
def FR.ofIo (d : PyData) : Option (List PyData) → FR
  | some ds => .ok d ds
  | none => .bad
def FR.exIo (x : Xn) : Option (List PyData) → FR
  | some ds => .exc x ds
  | none => .bad
noncomputable def runFd (Φ : Fns) (fd : Fd) (args : List PyData) : FR :=
  if args.length = fd.pars then
    match evS Φ fd.body (startS 0 fd.io args ++ List.replicate (fd.size - fd.pars) .un) with
    | .nx ρ => if fd.own then .bad else .ofIo .none (parOf fd.io ρ)
    | .ret own d ρ => if own = fd.own then .ofIo d (parOf fd.io ρ) else .bad
    | .exc x ρ => .exIo x (parOf fd.io ρ)
    | _ => .bad
  else .bad
/-- all defs, calls n deep -/
noncomputable def Phi (T : Nat → Option Fd) : Nat → Fns
  | 0, _, _ => .bad
  | n + 1, f, args => match T f with
    | some fd => runFd (Phi T n) fd args
    | none => .bad
end HM

namespace HM
open PySem PySem.Spec PyProof.Rows L2

/-! ### the plain data in the heap -/
def FLe (F F' : Hp) : Prop := ∀ a o, F a = some o → F' a = some o
theorem FLe.rf {F : Hp} : FLe F F := fun _ _ h => h
theorem FLe.tr {F G H : Hp} (h : FLe F G) (g : FLe G H) : FLe F H := fun a o e => g a o (h a o e)
theorem FLe.new {F H : Hp} {p : Addr} {o : HO} (h : FLe F H) (hp : H p = none) : FLe F (upd F p o) := fun a u e => by
  rw [upd_ne]
  · exact e
  · intro z
    subst z
    rw [h _ _ e] at hp
    cases hp

section
variable (K : PySem.W.Frag) (F : Hp)
mutual
inductive Rep : PyData → V → Prop
  | non : Rep .none .non
  | bl (b : Bool) : Rep (.bool b) (.bl b)
  | int (i : Int) : Rep (.int i) (.int i)
  | str (x : Str) : Rep (.str x) (.str x)
  | lst {a : Addr} {xs : List V} {ds : List PyData} : Rd F a (.lst xs) → RepAll ds xs → Rep (.list ds) (.ref a)
  | tup {a : Addr} {xs : List V} {ds : List PyData} : SqT K F a xs → RepAll ds xs → Rep (.tuple ds) (.ref a)
  | dic {a : Addr} {kvs : List (Key × V)} {es : List (PyData × PyData)} : F a = some (.dK kvs) → RepKV es kvs → Rep (.dict es) (.ref a)
inductive RepAll : List PyData → List V → Prop
  | nil : RepAll [] []
  | cons {d : PyData} {v : V} {ds : List PyData} {vs : List V} : Rep d v → RepAll ds vs → RepAll (d :: ds) (v :: vs)
inductive RepKV : List (PyData × PyData) → List (Key × V) → Prop
  | nil : RepKV [] []
  | int {i : Int} {d : PyData} {v : V} {es : List (PyData × PyData)} {kvs : List (Key × V)} : Rep d v → RepKV es kvs → RepKV ((.int i, d) :: es) ((.inl i, v) :: kvs)
  | str {i : Str} {d : PyData} {v : V} {es : List (PyData × PyData)} {kvs : List (Key × V)} : Rep d v → RepKV es kvs → RepKV ((.str i, d) :: es) ((.inr i, v) :: kvs)
end
end
section
variable {K : PySem.W.Frag} {F F' H : Hp}
theorem Rd.mo (h : FLe F F') {a : Addr} {u : HO} (q : Rd F a u) : Rd F' a u := by
  rcases q with q | ⟨o, q⟩
  · exact .inl (h _ _ q)
  · exact .inr ⟨o, h _ _ q⟩
theorem SqT.mo (h : FLe F F') {a : Addr} {xs : List V} (q : SqT K F a xs) : SqT K F' a xs := by
  rcases q with (q | ⟨o, q⟩) | q
  · exact .inl (.inl (h _ _ q))
  · exact .inl (.inr ⟨o, h _ _ q⟩)
  · exact .inr q
mutual
theorem Rep.mo (h : FLe F F') : ∀ {d : PyData} {v : V}, Rep K F d v → Rep K F' d v
  | _, _, .non => .non
  | _, _, .bl b => .bl b
  | _, _, .int i => .int i
  | _, _, .str i => .str i
  | _, _, .lst s r => .lst (Rd.mo h s) (RepAll.mo h r)
  | _, _, .tup s r => .tup (SqT.mo h s) (RepAll.mo h r)
  | _, _, .dic s r => .dic (h _ _ s) (RepKV.mo h r)
theorem RepAll.mo (h : FLe F F') : ∀ {ds : List PyData} {vs : List V}, RepAll K F ds vs → RepAll K F' ds vs
  | _, _, .nil => .nil
  | _, _, .cons a b => .cons (Rep.mo h a) (RepAll.mo h b)
theorem RepKV.mo (h : FLe F F') : ∀ {es : List (PyData × PyData)} {kvs : List (Key × V)}, RepKV K F es kvs → RepKV K F' es kvs
  | _, _, .nil => .nil
  | _, _, .int a b => .int (Rep.mo h a) (RepKV.mo h b)
  | _, _, .str a b => .str (Rep.mo h a) (RepKV.mo h b)
end
theorem RepAll.length : ∀ {ds : List PyData} {vs : List V}, RepAll K F ds vs → ds.length = vs.length
  | _, _, .nil => rfl
  | _, _, .cons _ r => by rw [List.length_cons, List.length_cons, RepAll.length r]
theorem RepAll.get : ∀ {ds : List PyData} {vs : List V} {i : Nat} {d : PyData}, RepAll K F ds vs → ds[i]? = some d → ∃ v, vs[i]? = some v ∧ Rep K F d v
  | _, _, _, _, .nil, e => by simp at e
  | _, _, 0, _, .cons r _, e => by simp at e; subst e; exact ⟨_, rfl, r⟩
  | _, _, i + 1, _, .cons _ t, e => by
    obtain ⟨u, h1, h2⟩ := RepAll.get (i := i) t (by simpa using e)
    exact ⟨u, by simpa using h1, h2⟩
theorem RepAll.getV : ∀ {ds : List PyData} {vs : List V} {i : Nat} {v : V}, RepAll K F ds vs → vs[i]? = some v → ∃ d, ds[i]? = some d ∧ Rep K F d v
  | _, _, _, _, .nil, e => by simp at e
  | _, _, 0, _, .cons r _, e => by simp at e; subst e; exact ⟨_, rfl, r⟩
  | _, _, i + 1, _, .cons _ t, e => by
    obtain ⟨u, h1, h2⟩ := RepAll.getV (i := i) t (by simpa using e)
    exact ⟨u, by simpa using h1, h2⟩
theorem RepAll.app : ∀ {ds es : List PyData} {vs us : List V}, RepAll K F ds vs → RepAll K F es us → RepAll K F (ds ++ es) (vs ++ us)
  | _, _, _, _, .nil, s => s
  | _, _, _, _, .cons r t, s => .cons r (RepAll.app t s)
theorem RepAll.take : ∀ {ds : List PyData} {vs : List V} (n : Nat), RepAll K F ds vs → RepAll K F (ds.take n) (vs.take n)
  | _, _, 0, _ => .nil
  | _, _, _ + 1, .nil => .nil
  | _, _, n + 1, .cons r t => .cons r (RepAll.take n t)
theorem RepAll.drop : ∀ {ds : List PyData} {vs : List V} (n : Nat), RepAll K F ds vs → RepAll K F (ds.drop n) (vs.drop n)
  | _, _, 0, r => r
  | _, _, _ + 1, .nil => .nil
  | _, _, n + 1, .cons _ t => RepAll.drop n t
theorem RepAll.set {d : PyData} {v : V} (r : Rep K F d v) : ∀ {ds : List PyData} {vs : List V} (i : Nat), RepAll K F ds vs → RepAll K F (ds.set i d) (vs.set i v)
  | _, _, _, .nil => .nil
  | _, _, 0, .cons _ t => .cons r t
  | _, _, i + 1, .cons q t => .cons q (RepAll.set r i t)
theorem RepAll.erase : ∀ {ds : List PyData} {vs : List V} (i : Nat), RepAll K F ds vs → RepAll K F (ds.eraseIdx i) (vs.eraseIdx i)
  | _, _, _, .nil => .nil
  | _, _, 0, .cons _ t => t
  | _, _, i + 1, .cons q t => .cons q (RepAll.erase i t)
theorem RepAll.rev : ∀ {ds : List PyData} {vs : List V}, RepAll K F ds vs → RepAll K F ds.reverse vs.reverse
  | _, _, .nil => .nil
  | _, _, .cons r t => by
    rw [List.reverse_cons, List.reverse_cons]
    exact RepAll.app (RepAll.rev t) (.cons r .nil)
theorem RepAll.rep {ds : List PyData} {vs : List V} (r : RepAll K F ds vs) : ∀ n : Nat, RepAll K F (List.replicate n ds).flatten (List.replicate n vs).flatten
  | 0 => .nil
  | n + 1 => by
    rw [List.replicate_succ, List.replicate_succ, List.flatten_cons, List.flatten_cons]
    exact RepAll.app r (RepAll.rep r n)
theorem RepAll.insAt {d : PyData} {v : V} (r : Rep K F d v) {ds : List PyData} {vs : List V} (p : Nat) (h : RepAll K F ds vs) : RepAll K F (insAt p d ds) (insAt p v vs) := by
  unfold HM.insAt
  exact RepAll.app (h.take p) (.cons r (h.drop p))
theorem RepAll.ints : ∀ {ds : List PyData} {vs : List V} {ns : List Int}, RepAll K F ds vs → intsD ds = some ns → vs = ns.map V.int
  | _, _, _, .nil, e => by
    cases e
    rfl
  | d :: ds, v :: vs, ns, .cons r t, e => by
    cases r with
    | int i =>
      cases q : intsD ds with
      | none => rw [intsD, q] at e; cases e
      | some ms =>
        rw [intsD, q] at e
        cases e
        rw [RepAll.ints t q]
        rfl
    | _ => cases e
theorem RepAll.ofInts : ∀ ns : List Int, RepAll K F (ns.map .int) (ns.map V.int)
  | [] => .nil
  | _ :: r => .cons (.int _) (RepAll.ofInts r)
theorem RepAll.bools : ∀ {ds : List PyData} {vs : List V} {ns : List Bool}, RepAll K F ds vs → boolsD ds = some ns → vs = ns.map V.bl
  | _, _, _, .nil, e => by
    cases e
    rfl
  | d :: ds, v :: vs, ns, .cons r t, e => by
    cases r with
    | bl i =>
      cases q : boolsD ds with
      | none => rw [boolsD, q] at e; cases e
      | some ms =>
        rw [boolsD, q] at e
        cases e
        rw [RepAll.bools t q]
        rfl
    | _ => cases e
end

/-! ### the heap grows by frozen objects -/
structure Ext (F H F' H' : Hp) : Prop where
  ff : FLe F F'
  hh : FLe H H'
  fh : FLe F' H'
  sep : ∀ a, H a ≠ none → F a = none → F' a = none
theorem Ext.nn {F H F' H' : Hp} (E : Ext F H F' H') {a : Addr} (h : H a ≠ none) : H' a ≠ none := fun z => by
  cases q : H a with
  | none => exact h q
  | some o => rw [E.hh _ _ q] at z; cases z
theorem Ext.rf {F H : Hp} (h : FLe F H) : Ext F H F H := ⟨FLe.rf, FLe.rf, h, fun _ _ q => q⟩
theorem Ext.tr {F H F1 H1 F2 H2 : Hp} (a : Ext F H F1 H1) (b : Ext F1 H1 F2 H2) : Ext F H F2 H2 :=
  ⟨a.ff.tr b.ff, a.hh.tr b.hh, b.fh, fun c hc hf => b.sep c (by
    intro z
    apply hc
    cases q : H c with
    | none => rfl
    | some o => rw [a.hh c o q] at z; cases z) (a.sep c hc hf)⟩
theorem Ext.new {F H : Hp} (h : FLe F H) {p : Addr} (hp : H p = none) (o : HO) : Ext F H (upd F p o) (upd H p o) := by
  refine ⟨h.new hp, FLe.rf.new hp, fun a u e => ?_, fun a ha hf => ?_⟩
  · by_cases z : a = p
    · subst z; rw [upd_same] at e ⊢; exact e
    · rw [upd_ne z] at e ⊢; exact h _ _ e
  · have z : a ≠ p := fun z => by subst z; exact ha hp
    rw [upd_ne z]
    exact hf
/-- what is wanted of a value that represents z -/
def Res (K : PySem.W.Frag) (F H : Hp) (z : PyData) (Q : VK) : Prop := ∀ F' H' v, Ext F H F' H' → Rep K F' z v → Q v H'
theorem Res.now {K : PySem.W.Frag} {F H : Hp} {z : PyData} {Q : VK} (r : Res K F H z Q) (h : FLe F H) {v : V} (q : Rep K F z v) : Q v H := r F H v (Ext.rf h) q
theorem Res.tup {K : PySem.W.Frag} {F H : Hp} {ds : List PyData} {xs : List V} {Q : VK} (r : Res K F H (.tuple ds) Q) (h : FLe F H) (q : RepAll K F ds xs) : ∀ p, H p = none → Q (.ref p) (upd H p (.tup xs)) := fun p hp =>
  r _ _ _ (Ext.new h hp _) (.tup (.inl (.inl upd_same)) (q.mo (h.new hp)))
theorem Res.lst {K : PySem.W.Frag} {F H : Hp} {ds : List PyData} {xs : List V} {Q : VK} (r : Res K F H (.list ds) Q) (h : FLe F H) (q : RepAll K F ds xs) : ∀ p, H p = none → Q (.ref p) (upd H p (.lst xs)) := fun p hp =>
  r _ _ _ (Ext.new h hp _) (.lst (.inl upd_same) (q.mo (h.new hp)))

/-! ### the slots -/
def SlotOk (K : PySem.W.Frag) (G : Hp) (pa : Addr) (F H : Hp) : Slot → Option (Option V) → Prop
  | .un, _ => True
  | .val d, o => ∃ v, o = some (some v) ∧ Rep K F d v
  | .mu ds, o => ∃ a xs, o = some (some (.ref a)) ∧ F a = none ∧ G a = none ∧ a ≠ pa ∧ H a = some (.lst xs) ∧ RepAll K F ds xs
  | .par ds, o => ∃ xs, o = some (some (.ref pa)) ∧ F pa = none ∧ G pa = none ∧ H pa = some (.lst xs) ∧ RepAll K F ds xs
def isM : Slot → Bool
  | .mu _ => true
  | .par _ => true
  | _ => false
structure Sim (K : PySem.W.Frag) (G : Hp) (pa : Addr) (F H : Hp) (ρ : Env) (σ : L2.St) : Prop where
  fh : FLe F H
  gh : FLe G H
  fg : ∀ a, F a = none ∨ G a = none
  pn : H pa ≠ none
  len : ρ.length = σ.length
  slot : ∀ (i : Nat) (s : Slot), ρ[i]? = some s → SlotOk K G pa F H s σ[i]?
  sep : ∀ (i j : Nat) (s t : Slot) (a : Addr), ρ[i]? = some s → ρ[j]? = some t → isM s = true → isM t = true → σ[i]? = some (some (.ref a)) → σ[j]? = some (some (.ref a)) → i = j
section
variable {K : PySem.W.Frag} {G : Hp} {pa : Addr} {F F' H H' : Hp} {ρ : Env} {σ : L2.St}
theorem Sim.ext (S : Sim K G pa F H ρ σ) (E : Ext F H F' H') : Sim K G pa F' H' ρ σ := by
  have nn : ∀ a o, H a = some o → H a ≠ none := fun a o e z => by rw [e] at z; cases z
  refine ⟨E.fh, S.gh.tr E.hh, fun a => ?_, E.nn S.pn, S.len, fun i s hi => ?_, S.sep⟩
  · cases q : G a with
    | none => exact .inr rfl
    | some o => exact .inl (E.sep a (nn a o (S.gh a o q)) ((S.fg a).resolve_right fun z => by rw [q] at z; cases z))
  · have h := S.slot i s hi
    cases s with
    | un => trivial
    | val d => obtain ⟨v, e, r⟩ := h; exact ⟨v, e, r.mo E.ff⟩
    | mu ds => obtain ⟨a, xs, e, f, g, n, hx, r⟩ := h; exact ⟨a, xs, e, E.sep a (nn a _ hx) f, g, n, E.hh _ _ hx, r.mo E.ff⟩
    | par ds => obtain ⟨xs, e, f, g, hx, r⟩ := h; exact ⟨xs, e, E.sep pa (nn pa _ hx) f, g, E.hh _ _ hx, r.mo E.ff⟩
/-- a new object that nothing of the plain data names -/
theorem Sim.laid (S : Sim K G pa F H ρ σ) {p : Addr} (hp : H p = none) (o : HO) : Sim K G pa F (upd H p o) ρ σ := by
  have ne : ∀ a u, H a = some u → a ≠ p := fun a u e z => by subst z; rw [hp] at e; cases e
  refine ⟨fun a u e => ?_, fun a u e => ?_, S.fg, fun z => S.pn (by rw [upd_ne (fun z2 => by subst z2; rw [upd_same] at z; cases z)] at z; exact z), S.len, fun i s hi => ?_, S.sep⟩
  · rw [upd_ne (ne a u (S.fh a u e))]; exact S.fh a u e
  · rw [upd_ne (ne a u (S.gh a u e))]; exact S.gh a u e
  · have h := S.slot i s hi
    cases s with
    | un => trivial
    | val d => exact h
    | mu ds => obtain ⟨a, xs, e, f, g, n, hx, r⟩ := h; exact ⟨a, xs, e, f, g, n, by rw [upd_ne (ne a _ hx)]; exact hx, r⟩
    | par ds => obtain ⟨xs, e, f, g, hx, r⟩ := h; exact ⟨xs, e, f, g, by rw [upd_ne (ne pa _ hx)]; exact hx, r⟩
theorem get_set {α : Type} {l : List α} {i j : Nat} {x y : α} (h : (l.set i x)[j]? = some y) : (j = i ∧ y = x ∧ i < l.length) ∨ (j ≠ i ∧ l[j]? = some y) := by
  by_cases e : j = i
  · subst e
    have hl : j < l.length := by
      have := (List.getElem?_eq_some_iff.mp h).1
      simpa using this
    rw [List.getElem?_set_self hl] at h
    exact .inl ⟨rfl, (Option.some.inj h).symm, hl⟩
  · rw [List.getElem?_set_ne (Ne.symm e)] at h
    exact .inr ⟨e, h⟩
theorem Sim.put (S : Sim K G pa F H ρ σ) {i : Nat} {d : PyData} {v : V} (r : Rep K F d v) : Sim K G pa F H (ρ.set i (.val d)) (σ.set i (some v)) := by
  refine ⟨S.fh, S.gh, S.fg, S.pn, by rw [List.length_set, List.length_set, S.len], fun j s hj => ?_, fun j k s t a hj hk ms mt e1 e2 => ?_⟩
  · rcases get_set hj with ⟨rfl, rfl, hl⟩ | ⟨ne, hj⟩
    · exact ⟨v, by rw [List.getElem?_set_self (by rw [← S.len]; exact hl)], r⟩
    · rw [List.getElem?_set_ne (Ne.symm ne)]
      exact S.slot j s hj
  · rcases get_set hj with ⟨rfl, rfl, hl⟩ | ⟨ne, hj⟩
    · cases ms
    · rcases get_set hk with ⟨rfl, rfl, hl⟩ | ⟨nk, hk⟩
      · cases mt
      · rw [List.getElem?_set_ne (Ne.symm ne)] at e1
        rw [List.getElem?_set_ne (Ne.symm nk)] at e2
        exact S.sep j k s t a hj hk ms mt e1 e2
theorem Sim.putM (S : Sim K G pa F H ρ σ) {i : Nat} {ds : List PyData} {a : Addr} {xs : List V} (f : F a = none) (g : G a = none) (n : a ≠ pa) (hx : H a = some (.lst xs)) (r : RepAll K F ds xs)
    (nw : ∀ (j : Nat) (s : Slot), ρ[j]? = some s → isM s = true → σ[j]? ≠ some (some (.ref a))) : Sim K G pa F H (ρ.set i (.mu ds)) (σ.set i (some (.ref a))) := by
  refine ⟨S.fh, S.gh, S.fg, S.pn, by rw [List.length_set, List.length_set, S.len], fun j s hj => ?_, fun j k s t b hj hk ms mt e1 e2 => ?_⟩
  · rcases get_set hj with ⟨rfl, rfl, hl⟩ | ⟨ne, hj⟩
    · exact ⟨a, xs, by rw [List.getElem?_set_self (by rw [← S.len]; exact hl)], f, g, n, hx, r⟩
    · rw [List.getElem?_set_ne (Ne.symm ne)]
      exact S.slot j s hj
  · rcases get_set hj with ⟨rfl, rfl, hl⟩ | ⟨ne, hj'⟩
    · rcases get_set hk with ⟨rfl, rfl, hl⟩ | ⟨nk, hk⟩
      · rfl
      · rw [List.getElem?_set_self (by rw [← S.len]; exact hl)] at e1
        rw [List.getElem?_set_ne (Ne.symm nk)] at e2
        cases e1
        exact absurd e2 (nw k t hk mt)
    · rw [List.getElem?_set_ne (Ne.symm ne)] at e1
      rcases get_set hk with ⟨rfl, rfl, hl⟩ | ⟨nk, hk⟩
      · rw [List.getElem?_set_self (by rw [← S.len]; exact hl)] at e2
        cases e2
        exact absurd e1 (nw j s hj' ms)
      · rw [List.getElem?_set_ne (Ne.symm nk)] at e2
        exact S.sep j k s t b hj' hk ms mt e1 e2
/-- an address that no list of this def's has -/
theorem Sim.newM (S : Sim K G pa F H ρ σ) {a : Addr} (ha : H a = none) : ∀ (j : Nat) (s : Slot), ρ[j]? = some s → isM s = true → σ[j]? ≠ some (some (.ref a)) := fun j s hj ms e => by
  have h := S.slot j s hj
  cases s with
  | un => cases ms
  | val d => cases ms
  | mu ds =>
    obtain ⟨b, xs, e', f, g, n, hx, r⟩ := h
    rw [e] at e'
    cases e'
    rw [ha] at hx
    cases hx
  | par ds =>
    obtain ⟨xs, e', f, g, hx, r⟩ := h
    rw [e] at e'
    cases e'
    rw [ha] at hx
    cases hx
/-- a slot forgotten -/
theorem Sim.un (S : Sim K G pa F H ρ σ) {i : Nat} {o : Option V} : Sim K G pa F H (ρ.set i .un) (σ.set i o) := by
  refine ⟨S.fh, S.gh, S.fg, S.pn, by rw [List.length_set, List.length_set, S.len], fun j s hj => ?_, fun j k s t a hj hk ms mt e1 e2 => ?_⟩
  · rcases get_set hj with ⟨rfl, rfl, hl⟩ | ⟨ne, hj⟩
    · trivial
    · rw [List.getElem?_set_ne (Ne.symm ne)]
      exact S.slot j s hj
  · rcases get_set hj with ⟨rfl, rfl, hl⟩ | ⟨ne, hj⟩
    · cases ms
    · rcases get_set hk with ⟨rfl, rfl, hl⟩ | ⟨nk, hk⟩
      · cases mt
      · rw [List.getElem?_set_ne (Ne.symm ne)] at e1
        rw [List.getElem?_set_ne (Ne.symm nk)] at e2
        exact S.sep j k s t a hj hk ms mt e1 e2
/-- a slot's record set without a store -/
theorem Sim.note (S : Sim K G pa F H ρ σ) {i : Nat} {d : PyData} (h : ∃ v, σ[i]? = some (some v) ∧ Rep K F d v) : Sim K G pa F H (ρ.set i (.val d)) σ := by
  refine ⟨S.fh, S.gh, S.fg, S.pn, by rw [List.length_set, S.len], fun j s hj => ?_, fun j k s t a hj hk ms mt e1 e2 => ?_⟩
  · rcases get_set hj with ⟨rfl, rfl, hl⟩ | ⟨ne, hj⟩
    · exact h
    · exact S.slot j s hj
  · rcases get_set hj with ⟨rfl, rfl, hl⟩ | ⟨ne, hj⟩
    · cases ms
    · rcases get_set hk with ⟨rfl, rfl, hl⟩ | ⟨nk, hk⟩
      · cases mt
      · exact S.sep j k s t a hj hk ms mt e1 e2
/-- a list that might change is frozen -/
theorem Sim.freeze (S : Sim K G pa F H ρ σ) {i : Nat} {ds : List PyData} (h : ρ[i]? = some (.mu ds)) : ∃ a xs, σ[i]? = some (some (.ref a)) ∧ FLe F (upd F a (.lst xs)) ∧ RepAll K F ds xs ∧ Sim K G pa (upd F a (.lst xs)) H (ρ.set i (.val (.list ds))) σ := by
  obtain ⟨a, xs, e, f, g, n, hx, r⟩ := S.slot i _ h
  have le : FLe F (upd F a (.lst xs)) := fun b u eb => by
    rw [upd_ne]
    · exact eb
    · intro z; subst z; rw [f] at eb; cases eb
  refine ⟨a, xs, e, le, r, ?_⟩
  refine ⟨fun b u eb => ?_, S.gh, fun b => ?_, S.pn, by rw [List.length_set, S.len], fun j s hj => ?_, fun j k s t b hj hk ms mt e1 e2 => ?_⟩
  · by_cases z : b = a
    · subst z; rw [upd_same] at eb; cases eb; exact hx
    · rw [upd_ne z] at eb; exact S.fh b u eb
  · by_cases z : b = a
    · subst z; exact .inr g
    · rw [upd_ne z]; exact S.fg b
  · rcases get_set hj with ⟨rfl, rfl, hl⟩ | ⟨ne, hj⟩
    · exact ⟨.ref a, e, .lst (.inl upd_same) (r.mo le)⟩
    · have q := S.slot j s hj
      cases s with
      | un => trivial
      | val d => obtain ⟨v, e', r'⟩ := q; exact ⟨v, e', r'.mo le⟩
      | mu es =>
        obtain ⟨b, ys, e', f', g', n', hx', r'⟩ := q
        have nb : b ≠ a := fun z => by
          subst z
          exact ne (S.sep j i _ _ _ hj h rfl rfl e' e)
        exact ⟨b, ys, e', by rw [upd_ne nb]; exact f', g', n', hx', r'.mo le⟩
      | par es =>
        obtain ⟨ys, e', f', g', hx', r'⟩ := q
        exact ⟨ys, e', by rw [upd_ne (Ne.symm n)]; exact f', g', hx', r'.mo le⟩
  · rcases get_set hj with ⟨rfl, rfl, hl⟩ | ⟨ne, hj⟩
    · cases ms
    · rcases get_set hk with ⟨rfl, rfl, hl⟩ | ⟨nk, hk⟩
      · cases mt
      · exact S.sep j k s t b hj hk ms mt e1 e2
/-- the list of a slot that may change -/
theorem Sim.mutL (S : Sim K G pa F H ρ σ) {i : Nat} {ds : List PyData} (h : mutS (getS ρ i) = some ds) : ∃ s a xs, ρ[i]? = some s ∧ mutS s = some ds ∧ isM s = true ∧ σ[i]? = some (some (.ref a)) ∧ F a = none ∧ G a = none ∧ H a = some (.lst xs) ∧ RepAll K F ds xs := by
  have e : ∃ s, ρ[i]? = some s ∧ getS ρ i = s := by
    unfold getS at h ⊢
    rw [List.getD_eq_getElem?_getD] at h ⊢
    cases q : ρ[i]? with
    | none => rw [q] at h; cases h
    | some s => exact ⟨s, rfl, rfl⟩
  obtain ⟨s, e1, e2⟩ := e
  rw [e2] at h
  have q := S.slot i s e1
  cases s with
  | un => cases h
  | val d => cases h
  | mu es =>
    cases h
    obtain ⟨a, xs, e, f, g, n, hx, r⟩ := q
    exact ⟨_, a, xs, e1, rfl, rfl, e, f, g, hx, r⟩
  | par es =>
    cases h
    obtain ⟨xs, e, f, g, hx, r⟩ := q
    exact ⟨_, pa, xs, e1, rfl, rfl, e, f, g, hx, r⟩
/-- .. written -/
theorem Sim.write (S : Sim K G pa F H ρ σ) {i : Nat} {s : Slot} {a : Addr} {xs ys : List V} {es : List PyData} (h : ρ[i]? = some s) (m : isM s = true) (e : σ[i]? = some (some (.ref a))) (r : RepAll K F es ys) :
    Sim K G pa F (upd H a (.lst ys)) (ρ.set i (remut s es)) σ := by
  have q := S.slot i s h
  have fg : F a = none ∧ G a = none := by
    cases s with
    | un => cases m
    | val d => cases m
    | mu ds => obtain ⟨b, _, e', f, g, _⟩ := q; rw [e] at e'; cases e'; exact ⟨f, g⟩
    | par ds => obtain ⟨_, e', f, g, _⟩ := q; rw [e] at e'; cases e'; exact ⟨f, g⟩
  refine ⟨fun b u eb => ?_, fun b u eb => ?_, S.fg, fun z => S.pn (by rw [upd_ne (fun z2 => by subst z2; rw [upd_same] at z; cases z)] at z; exact z), by rw [List.length_set, S.len], fun j t hj => ?_, fun j k t u b hj hk mt mu e1 e2 => ?_⟩
  · rw [upd_ne (fun z => by subst z; rw [fg.1] at eb; cases eb)]; exact S.fh b u eb
  · rw [upd_ne (fun z => by subst z; rw [fg.2] at eb; cases eb)]; exact S.gh b u eb
  · rcases get_set hj with ⟨rfl, rfl, hl⟩ | ⟨ne, hj⟩
    · cases s with
      | un => cases m
      | val d => cases m
      | mu ds =>
        obtain ⟨b, _, e', f, g, n, _⟩ := q
        rw [e] at e'
        cases e'
        exact ⟨a, ys, e, f, g, n, upd_same, r⟩
      | par ds =>
        obtain ⟨_, e', f, g, _⟩ := q
        rw [e] at e'
        cases e'
        exact ⟨ys, e, f, g, upd_same, r⟩
    · have q' := S.slot j t hj
      cases t with
      | un => trivial
      | val d => exact q'
      | mu ds =>
        obtain ⟨b, zs, e', f, g, n, hx, r'⟩ := q'
        have nb : b ≠ a := fun z => by subst z; exact ne (S.sep j i _ _ _ hj h rfl m e' e)
        exact ⟨b, zs, e', f, g, n, by rw [upd_ne nb]; exact hx, r'⟩
      | par ds =>
        obtain ⟨zs, e', f, g, hx, r'⟩ := q'
        have nb : pa ≠ a := fun z => by subst z; exact ne (S.sep j i _ _ _ hj h rfl m e' e)
        exact ⟨zs, e', f, g, by rw [upd_ne nb]; exact hx, r'⟩
  · have im : ∀ s es, isM s = true → isM (remut s es) = true := fun s es h => by cases s <;> first | rfl | cases h
    rcases get_set hj with ⟨rfl, rfl, hl⟩ | ⟨ne, hj'⟩
    · rcases get_set hk with ⟨rfl, rfl, hl⟩ | ⟨nk, hk⟩
      · rfl
      · exact S.sep j k s u b h hk m mu e1 e2
    · rcases get_set hk with ⟨rfl, rfl, hl⟩ | ⟨nk, hk⟩
      · exact S.sep j k t s b hj' h mt m e1 e2
      · exact S.sep j k t u b hj' hk mt mu e1 e2
theorem Sim.neP (S : Sim K G pa F H ρ σ) {p : Addr} (hp : H p = none) : p ≠ pa := fun z => by subst z; exact S.pn hp
/-- a new list that is kept from all that goes on -/
theorem Sim.prot (S : Sim K G pa F H ρ σ) {D : Addr} (hD : H D = none) (u : HO) : Sim K (upd G D u) pa F (upd H D u) ρ σ := by
  have S' := S.laid hD u
  have nF : F D = none := by
    cases q : F D with
    | none => rfl
    | some o => rw [S.fh _ _ q] at hD; cases hD
  refine ⟨S'.fh, fun a o e => ?_, fun a => ?_, S'.pn, S.len, fun i s hi => ?_, S.sep⟩
  · by_cases z : a = D
    · subst z; rw [upd_same] at e ⊢; exact e
    · rw [upd_ne z] at e; exact S'.gh a o e
  · by_cases z : a = D
    · subst z; exact .inl nF
    · rw [upd_ne z]; exact S.fg a
  · have q := S'.slot i s hi
    have q0 := S.slot i s hi
    cases s with
    | un => trivial
    | val d => exact q
    | mu ds =>
      obtain ⟨a, xs, e, f, g, n, hx, r⟩ := q0
      have na : a ≠ D := fun z => by subst z; rw [hD] at hx; cases hx
      exact ⟨a, xs, e, f, by rw [upd_ne na]; exact g, n, by rw [upd_ne na]; exact hx, r⟩
    | par ds =>
      obtain ⟨xs, e, f, g, hx, r⟩ := q0
      have na : pa ≠ D := fun z => by subst z; rw [hD] at hx; cases hx
      exact ⟨xs, e, f, by rw [upd_ne na]; exact g, by rw [upd_ne na]; exact hx, r⟩
theorem Sim.reprot {D : Addr} {u u' : HO} (S : Sim K (upd G D u) pa F H ρ σ) : Sim K (upd G D u') pa F (upd H D u') ρ σ := by
  have nF : F D = none := (S.fg D).resolve_right (by rw [upd_same]; intro z; cases z)
  refine ⟨fun a o e => ?_, fun a o e => ?_, fun a => ?_, fun z => S.pn (by rw [upd_ne (fun z2 => by subst z2; rw [upd_same] at z; cases z)] at z; exact z), S.len, fun i s hi => ?_, S.sep⟩
  · rw [upd_ne (fun z => by subst z; rw [nF] at e; cases e)]; exact S.fh a o e
  · by_cases z : a = D
    · subst z; rw [upd_same] at e ⊢; exact e
    · rw [upd_ne z] at e ⊢; exact S.gh a o (by rw [upd_ne z]; exact e)
  · by_cases z : a = D
    · subst z; exact .inl nF
    · have := S.fg a; rw [upd_ne z] at this ⊢; exact this
  · have q := S.slot i s hi
    cases s with
    | un => trivial
    | val d => exact q
    | mu ds =>
      obtain ⟨a, xs, e, f, g, n, hx, r⟩ := q
      have na : a ≠ D := fun z => by subst z; rw [upd_same] at g; cases g
      exact ⟨a, xs, e, f, by rw [upd_ne na] at g ⊢; exact g, n, by rw [upd_ne na]; exact hx, r⟩
    | par ds =>
      obtain ⟨xs, e, f, g, hx, r⟩ := q
      have na : pa ≠ D := fun z => by subst z; rw [upd_same] at g; cases g
      exact ⟨xs, e, f, by rw [upd_ne na] at g ⊢; exact g, by rw [upd_ne na]; exact hx, r⟩
theorem Sim.unprot {D : Addr} {u : HO} (gD : G D = none) (S : Sim K (upd G D u) pa F H ρ σ) : Sim K G pa F H ρ σ ∧ F D = none ∧ H D = some u ∧ ∀ (j : Nat) (s : Slot), ρ[j]? = some s → isM s = true → σ[j]? ≠ some (some (.ref D)) := by
  have nF : F D = none := (S.fg D).resolve_right (by rw [upd_same]; intro z; cases z)
  have gg : ∀ a o, G a = some o → (upd G D u) a = some o := fun a o e => by rw [upd_ne (fun z => by subst z; rw [gD] at e; cases e)]; exact e
  have gn : ∀ a, (upd G D u) a = none → G a = none ∧ a ≠ D := fun a e => by
    by_cases z : a = D
    · subst z; rw [upd_same] at e; cases e
    · rw [upd_ne z] at e; exact ⟨e, z⟩
  refine ⟨⟨S.fh, fun a o e => S.gh a o (gg a o e), fun a => ?_, S.pn, S.len, fun i s hi => ?_, S.sep⟩, nF, S.gh D u upd_same, fun j s hj ms e => ?_⟩
  · rcases S.fg a with q | q
    · exact .inl q
    · exact .inr (gn a q).1
  · have q := S.slot i s hi
    cases s with
    | un => trivial
    | val d => exact q
    | mu ds =>
      obtain ⟨a, xs, e, f, g, n, hx, r⟩ := q
      exact ⟨a, xs, e, f, (gn a g).1, n, hx, r⟩
    | par ds =>
      obtain ⟨xs, e, f, g, hx, r⟩ := q
      exact ⟨xs, e, f, (gn _ g).1, hx, r⟩
  · have q := S.slot j s hj
    cases s with
    | un => cases ms
    | val d => cases ms
    | mu ds => obtain ⟨a, xs, e', f, g, _⟩ := q; rw [e] at e'; cases e'; exact (gn _ g).2 rfl
    | par ds => obtain ⟨xs, e', f, g, _⟩ := q; rw [e] at e'; cases e'; exact (gn _ g).2 rfl
end
/-- a new list of the def's own, not yet named -/
structure Fresh (K : PySem.W.Frag) (G : Hp) (pa : Addr) (F H : Hp) (ρ : Env) (σ : L2.St) (p : Addr) (xs : List V) : Prop where
  h : H p = some (.lst xs)
  f : F p = none
  g : G p = none
  n : p ≠ pa
  sep : ∀ (j : Nat) (s : Slot), ρ[j]? = some s → isM s = true → σ[j]? ≠ some (some (.ref p))
section
variable {K : PySem.W.Frag} {G : Hp} {pa : Addr} {F F' H H' : Hp} {ρ : Env} {σ : L2.St} {p : Addr} {xs : List V}
/-- .. frozen -/
theorem Fresh.frz (X : Fresh K G pa F H ρ σ p xs) (S : Sim K G pa F H ρ σ) : FLe F (upd F p (.lst xs)) ∧ Sim K G pa (upd F p (.lst xs)) H ρ σ := by
  have le : FLe F (upd F p (.lst xs)) := fun b u eb => by
    rw [upd_ne]
    · exact eb
    · intro z; subst z; rw [X.f] at eb; cases eb
  refine ⟨le, fun b u eb => ?_, S.gh, fun b => ?_, S.pn, S.len, fun j s hj => ?_, S.sep⟩
  · by_cases z : b = p
    · subst z; rw [upd_same] at eb; cases eb; exact X.h
    · rw [upd_ne z] at eb; exact S.fh b u eb
  · by_cases z : b = p
    · subst z; exact .inr X.g
    · rw [upd_ne z]; exact S.fg b
  · have q := S.slot j s hj
    cases s with
    | un => trivial
    | val d => obtain ⟨v, e', r'⟩ := q; exact ⟨v, e', r'.mo le⟩
    | mu es =>
      obtain ⟨b, ys, e', f', g', n', hx', r'⟩ := q
      have nb : b ≠ p := fun z => by subst z; exact X.sep j _ hj rfl e'
      exact ⟨b, ys, e', by rw [upd_ne nb]; exact f', g', n', hx', r'.mo le⟩
    | par es =>
      obtain ⟨ys, e', f', g', hx', r'⟩ := q
      exact ⟨ys, e', by rw [upd_ne (Ne.symm X.n)]; exact f', g', hx', r'.mo le⟩
theorem Sim.fresh (S : Sim K G pa F H ρ σ) (hp : H p = none) : Fresh K G pa F (upd H p (.lst xs)) ρ σ p xs := by
  refine ⟨upd_same, ?_, ?_, S.neP hp, S.newM hp⟩
  · cases q : F p with
    | none => rfl
    | some o => rw [S.fh _ _ q] at hp; cases hp
  · cases q : G p with
    | none => rfl
    | some o => rw [S.gh _ _ q] at hp; cases hp
/-- .. named -/
theorem Fresh.put (X : Fresh K G pa F H ρ σ p xs) (S : Sim K G pa F H ρ σ) {ds : List PyData} (r : RepAll K F ds xs) (i : Nat) : Sim K G pa F H (ρ.set i (.mu ds)) (σ.set i (some (.ref p))) := S.putM X.f X.g X.n X.h r X.sep
/-! ### a comprehension's own names -/
theorem wipeS_len : ∀ (own : List Nat) (ρ : Env), (wipeS own ρ).length = ρ.length
  | [], _ => rfl
  | i :: r, ρ => by rw [wipeS, List.length_set, wipeS_len r ρ]
theorem Sim.wipe (S : Sim K G pa F H ρ σ) : ∀ own : List Nat, Sim K G pa F H (wipeS own ρ) (L2.wipe σ own)
  | [] => S
  | i :: r => (S.wipe r).un
theorem wipeS_get {own : List Nat} {ρ : Env} {j : Nat} (h : j ∉ own) : (wipeS own ρ)[j]? = ρ[j]? := by
  induction own with
  | nil => rfl
  | cons i r ih =>
    have h1 : j ≠ i ∧ j ∉ r := by simpa using h
    rw [wipeS, List.getElem?_set_ne (Ne.symm h1.1)]
    exact ih h1.2
theorem giveS_get {own : List Nat} {ρ0 ρ : Env} {j : Nat} (h : j ∉ own) : (giveS own ρ0 ρ)[j]? = ρ[j]? := by
  induction own with
  | nil => rfl
  | cons i r ih =>
    have h1 : j ≠ i ∧ j ∉ r := by simpa using h
    rw [giveS, List.getElem?_set_ne (Ne.symm h1.1)]
    exact ih h1.2
theorem giveS_len : ∀ (own : List Nat) (ρ0 ρ : Env), (giveS own ρ0 ρ).length = ρ.length
  | [], _, _ => rfl
  | i :: r, ρ0, ρ => by rw [giveS, List.length_set, giveS_len r ρ0 ρ]
theorem giveS_own {own : List Nat} {ρ0 ρ : Env} {j : Nat} (h : j ∈ own) (hl : j < ρ.length) : (giveS own ρ0 ρ)[j]? = some (getS ρ0 j) := by
  induction own with
  | nil => simp at h
  | cons i r ih =>
    rw [giveS]
    by_cases e : j = i
    · subst e
      rw [List.getElem?_set_self (by rw [giveS_len]; exact hl)]
    · rw [List.getElem?_set_ne (Ne.symm e)]
      exact ih (by rcases List.mem_cons.mp h with h | h; exact absurd h e; exact h)
/-- behind a comprehension the def's names are what they were -/
theorem Sim.give {own : List Nat} {ρ0 : Env} {F0 H0 : Hp} (S0 : Sim K G pa F0 H0 ρ0 σ) (l : FLe F0 F) (ok : ownOk own ρ0 = true) (S : Sim K G pa F H (wipeS own ρ) (L2.wipe σ own)) : Sim K G pa F H (giveS own ρ0 ρ) σ := by
  have hl : ρ.length = σ.length := by have := S.len; rw [wipeS_len, wipe_length] at this; exact this
  have nown : ∀ i s, i ∈ own → (giveS own ρ0 ρ)[i]? = some s → isM s = false := fun i s hi h => by
    have h1 : i < ρ.length := by
      have := (List.getElem?_eq_some_iff.mp h).1
      rw [giveS_len] at this; exact this
    rw [giveS_own hi h1] at h
    cases h
    have := List.all_eq_true.mp ok i hi
    cases q : getS ρ0 i with
    | un => rfl
    | val d => rfl
    | mu ds => rw [q] at this; cases this
    | par ds => rw [q] at this; cases this
  have wg : ∀ j, j ∉ own → (L2.wipe σ own)[j]? = σ[j]? := fun j hj => by
    induction own with
    | nil => rfl
    | cons i r ih =>
      have h1 : j ≠ i ∧ j ∉ r := by simpa using hj
      show ((L2.wipe σ r).set i none)[j]? = σ[j]?
      rw [List.getElem?_set_ne (Ne.symm h1.1)]
      clear ih nown S ok hl
      induction r with
      | nil => rfl
      | cons k r ih =>
        have h2 : j ≠ k ∧ j ∉ r := by simpa using h1.2
        show ((L2.wipe σ r).set k none)[j]? = σ[j]?
        rw [List.getElem?_set_ne (Ne.symm h2.1)]
        exact ih (by simp [hj] at hj ⊢; exact ⟨h1.1, h2.2⟩) ⟨h1.1, h2.2⟩
  refine ⟨S.fh, S.gh, S.fg, S.pn, by rw [giveS_len]; exact hl, fun i s hi => ?_, fun i j s t a hi hj ms mt e1 e2 => ?_⟩
  · by_cases ho : i ∈ own
    · have h1 : i < ρ.length := by
        have := (List.getElem?_eq_some_iff.mp hi).1
        rw [giveS_len] at this; exact this
      have m := nown i s ho hi
      rw [giveS_own ho h1] at hi
      cases hi
      have h0 : i < ρ0.length := by rw [S0.len, ← hl]; exact h1
      have e0 : ρ0[i]? = some (getS ρ0 i) := by
        unfold getS
        rw [List.getD_eq_getElem?_getD, List.getElem?_eq_getElem h0]
        rfl
      have q := S0.slot i _ e0
      revert q m
      cases getS ρ0 i with
      | un => intro _ _; trivial
      | val d => intro _ ⟨v, e, r⟩; exact ⟨v, e, r.mo l⟩
      | mu ds => intro m _; cases m
      | par ds => intro m _; cases m
    · rw [giveS_get ho] at hi
      have q := S.slot i s (by rw [wipeS_get ho]; exact hi)
      rw [wg i ho] at q
      exact q
  · have n1 : i ∉ own := fun z => by have := nown i s z hi; rw [ms] at this; cases this
    have n2 : j ∉ own := fun z => by have := nown j t z hj; rw [mt] at this; cases this
    rw [giveS_get n1] at hi
    rw [giveS_get n2] at hj
    exact S.sep i j s t a (by rw [wipeS_get n1]; exact hi) (by rw [wipeS_get n2]; exact hj) ms mt (by rw [wg i n1]; exact e1) (by rw [wg j n2]; exact e2)
end
end HM

namespace HM
open PySem PySem.Spec PyProof.Rows L2

theorem SL_eq : SL = sizeLine := by rw [sizeLine_eq]
section
variable {X : Cx}
theorem lstR {pins : List (Addr × Obj)} {σ : L2.St} {H : Hp} {s : Shared} {l : Addr} {xs : List V} (I : Inv X pins σ H s) (hH : Rd H l (.lst xs)) :
    xs.length ≤ sizeLine ∧ ∃ (its : List Value) (n : Nat), Vals xs its ∧ xs.length = its.length ∧ s.heap.get? l = some { cls := .type "list", data := .seq its.toArray n } := by
  obtain ⟨z, its, n, r, e⟩ := hH.ok I.hok
  exact ⟨z, its, n, r, r.length, e⟩

/-! ### + and * of lists that are only read -/
def wCat : R2 := fun x y H Q => ∃ l b xs zs, x = V.ref l ∧ y = V.ref b ∧ Rd H l (.lst xs) ∧ Rd H b (.lst zs) ∧ xs.length + zs.length ≤ sizeLine ∧ ∀ p, H p = none → Q (V.ref p) (upd H p (.lst (xs ++ zs)))
theorem ow_cat : OpR X (binaryOp .Add) wCat := by
  intro pins s σ H x y v u Q I rx ry h
  obtain ⟨l, b, xs, zs, rfl, rfl, hH, hB, hz, q⟩ := h
  cases rx; cases ry
  obtain ⟨z, its, n, r, hl, e⟩ := lstR I hH
  obtain ⟨z2, its2, n2, r2, hl2, e2⟩ := lstR I hB
  refine PySem.P.add_list e e2 ?_ (by simp only [List.size_toArray]; omega)
  rw [show its.toArray ++ its2.toArray = (its ++ its2).toArray by simp]
  exact ⟨.ref _, _, I.lnew (t' := s.toks) (r.append r2) (by simp only [List.length_append]; omega), rfl, q _ I.fresh⟩
def wRep : R2 := fun x y H Q => ∃ l k xs, x = V.ref l ∧ y = V.int k ∧ Rd H l (.lst xs) ∧ repOk xs.length k ∧ ∀ p, H p = none → Q (V.ref p) (upd H p (.lst (repL xs k)))
theorem ow_rep : OpR X (binaryOp .Mult) wRep := by
  intro pins s σ H x y v u Q I rx ry h
  obtain ⟨l, k, xs, rfl, rfl, hH, ⟨h1, h2, hz⟩, q⟩ := h
  rw [SL_eq] at hz
  cases rx
  obtain ⟨t, rfl⟩ := ry
  obtain ⟨z, its, n, r, hl, e⟩ := lstR I hH
  have len : its.toArray.size * k.toNat ≤ sizeLine := by rw [List.size_toArray, ← hl]; exact hz
  have cap : ¬ its.toArray.size * k.toNat > (2 ^ 63 - 1) / 8 := by
    have : (sizeLine : Nat) ≤ (2 ^ 63 - 1) / 8 := by decide
    omega
  have fit : ¬ (!Builtin.List.listFitsIndex k) = true := by rw [fitsIndex_both h1 h2]; decide
  have long : ¬ Builtin.List.listTooLong (its.toArray.size * k.toNat) = true := by rw [notLongL len]; decide
  have new : List.foldl (fun x1 x2 => x1 ++ x2) #[] (List.replicate (if its.toArray.isEmpty = true then 0 else k.toNat) its.toArray) = (List.replicate k.toNat its).flatten.toArray := by
    rw [size_rep]
    cases its with
    | nil => simp
    | cons a r' => rw [if_neg (by simp)]
  refine wpAny_binaryOp_repeat_ref (T := "list") (U := "int") (by decide) ⟨_, e, rfl⟩ (fun s' => typeIs_int s' k t) noFill_list_mul F.fills_int_mul F.slot_int_rmul repeat_list F.slot_int_index.lookup
    (call_meets F.slot_int_rmul (typeIs_int s k t) F.entry_int_rmul (F.args_int_rmul_2 _ _) (int___rmul___int_list k t l its.toArray n)
      ⟨e, rfl, ⟨_, e, rfl⟩, call_meets F.slot_list_mul ⟨_, e, rfl⟩ F.entry_list_mul (F.args_list_mul_2 _ _) (AutoListH.list___mul___list_int_3 l its.toArray n k t fit cap long) ⟨e, ?_⟩⟩)
  rw [new]
  exact ⟨.ref _, _, I.lnew (t' := s.toks) (r.rep k.toNat) (by rw [PyProof.Rows.lm_len_rep_flat, Nat.mul_comm]; exact hz), rfl, q _ I.fresh⟩

/-! ### tuple * int -/
theorem tup_mul_same (l : Addr) (items : Array Value) (n : Nat) (dd : Option Addr) (sl : Array (Option Value)) (x : Int) (u : Tok) (c0 : (decide (x < -(2 ^ 63)) || decide (x ≥ 2 ^ 63)) = false) (c1 : (items.isEmpty || x == 1) = true) :
    Meets (Builtin.«tuple.__mul__» ⟨[.ref l, .int x u], []⟩) (fun _ R s => s.heap.get? l = some { cls := .type "tuple", dict := dd, data := .seq items n, slots := sl } ∧ R (.ok (.ret (Value.ref l))) s) :=
  .of_wp fun prog w A R s h => by
    obtain ⟨hp, g, d, tk, os⟩ := s
    obtain ⟨hl, h⟩ := h
    have f1 := AutoSeq1.idx_int
    wp_walk using wpAny_loadPart' hl
    repeat (first
      | (refine wpAny_ite_false (decide_eq_false (by rw [c0]; exact Bool.false_ne_true)) ?_; wp_walk using wpAny_loadPart' hl)
      | (refine wpAny_ite_true (decide_eq_true c1) ?_; wp_walk using wpAny_loadPart' hl))
    exact ⟨_, rfl, h⟩
theorem tup_mul_none (l : Addr) (items : Array Value) (n : Nat) (dd : Option Addr) (sl : Array (Option Value)) (x : Int) (u : Tok) (c0 : (decide (x < -(2 ^ 63)) || decide (x ≥ 2 ^ 63)) = false) (c1 : (items.isEmpty || x == 1) = false) (c2 : (decide (x ≤ 0) || items.isEmpty) = true) :
    Meets (Builtin.«tuple.__mul__» ⟨[.ref l, .int x u], []⟩) (fun _ R s => s.heap.get? l = some { cls := .type "tuple", dict := dd, data := .seq items n, slots := sl } ∧
      R (.ok (.ret (Value.ref s.heap.objs.size))) { s with heap := s.heap.push { cls := Value.type "tuple", data := Data.seq #[] }, toks := s.toks }) :=
  .of_wp fun prog w A R s h => by
    obtain ⟨hp, g, d, tk, os⟩ := s
    obtain ⟨hl, h⟩ := h
    have f1 := AutoSeq1.idx_int
    wp_walk using wpAny_loadPart' hl
    repeat (first
      | (refine wpAny_ite_false (decide_eq_false (by rw [c0]; exact Bool.false_ne_true)) ?_; wp_walk using wpAny_loadPart' hl)
      | (refine wpAny_ite_false (decide_eq_false (by rw [c1]; exact Bool.false_ne_true)) ?_; wp_walk using wpAny_loadPart' hl)
      | (refine wpAny_ite_true (decide_eq_true c2) ?_; wp_walk using wpAny_loadPart' hl))
    exact ⟨_, rfl, h⟩
/-- a tuple times an int -/
def wRepT (K : PySem.W.Frag) : R2 := fun x y H Q => ∃ l k xs, x = V.ref l ∧ y = V.int k ∧ SqT K H l xs ∧ repOk xs.length k ∧
  (repL xs k = xs → Q (V.ref l) H) ∧ (∀ p, H p = none → Q (V.ref p) (upd H p (.tup (repL xs k))))
theorem ow_repT : OpR X (binaryOp .Mult) (wRepT X.K) := by
  intro pins s σ H x y v u Q I rx ry h
  obtain ⟨l, k, xs, rfl, rfl, hT, ⟨h1, h2, hz⟩, q0, q⟩ := h
  rw [SL_eq] at hz
  cases rx
  obtain ⟨t, rfl⟩ := ry
  obtain ⟨its, r, ⟨⟨cls, dd, data, sl⟩, ho, hc, n, hd⟩, hs⟩ := I.tuple hT
  simp only at hc hd
  subst hc hd
  have hle : its.length = xs.length := r.length.symm
  have c0 : (decide (k < -(2 ^ 63)) || decide (k ≥ 2 ^ 63)) = false := by
    rw [decide_eq_false (by omega), decide_eq_false (by omega)] <;> rfl
  have go : ∀ {Q' : Value → Shared → Prop}, wpAny (model X.prog X.w) X.A (call (.builtin "tuple.__mul__") [.ref l, .int k t]) Q' X.xe s → wpAny (model X.prog X.w) X.A (binaryOp .Mult (.ref l) (.int k t)) Q' X.xe s := fun m => wpAny_binaryOp_repeat_ref (T := "tuple") (U := "int") (by decide) ⟨_, ho, rfl⟩ (fun s' => typeIs_int s' k t) noFill_tuple_mul F.fills_int_mul F.slot_int_rmul repeat_tuple F.slot_int_index.lookup
    (call_meets F.slot_int_rmul (typeIs_int s k t) F.entry_int_rmul (F.args_int_rmul_2 _ _) (int_rmul_tuple k t l its.toArray n dd sl)
      ⟨ho, rfl, ⟨_, ho, rfl⟩, m⟩)
  by_cases e1 : (its.toArray.isEmpty || k == 1) = true
  · have same : repL xs k = xs := by
      unfold repL
      rw [Bool.or_eq_true] at e1
      rcases e1 with e1 | e1
      · have : xs = [] := by
          cases its with
          | nil => exact List.eq_nil_of_length_eq_zero hle.symm
          | cons a b => cases e1
        subst this
        induction k.toNat with
        | zero => rfl
        | succ m ih => rw [List.replicate_succ, List.flatten_cons, ih]; rfl
      · rw [beq_iff_eq.mp e1]
        show (List.replicate 1 xs).flatten = xs
        simp
    refine go (call_meets F.slot_tuple_mul ⟨_, ho, rfl⟩ F.entry_tuple_mul (F.args_tuple_mul_2 _ _) (tup_mul_same l its.toArray n dd sl k t c0 e1) ⟨ho, ?_⟩)
    exact ⟨.ref l, H, I, rfl, q0 same⟩
  · have e1' : (its.toArray.isEmpty || k == 1) = false := by simpa using e1
    have hz' : its.toArray.size * k.toNat ≤ sizeLine := by rw [List.size_toArray, hle]; exact hz
    by_cases e2 : (decide (k ≤ 0) || its.toArray.isEmpty) = true
    · have none : repL xs k = [] := by
        unfold repL
        rw [Bool.or_eq_true] at e2
        rcases e2 with e2 | e2
        · have := of_decide_eq_true e2
          rw [show k.toNat = 0 by omega]
          rfl
        · rw [e2, Bool.true_or] at e1'; cases e1'
      refine go (call_meets F.slot_tuple_mul ⟨_, ho, rfl⟩ F.entry_tuple_mul (F.args_tuple_mul_2 _ _) (tup_mul_none l its.toArray n dd sl k t c0 e1' e2) ⟨ho, ?_⟩)
      refine ⟨.ref s.heap.objs.size, _, I.laid (t' := s.toks) (o := .tup (repL xs k)) (fun b ob q => Heap.get?_push_of_some _ q) (Nat.le_refl _) ?_, rfl, q _ (I.hok.fresh (Nat.le_refl _))⟩
      rw [none]
      exact ⟨Nat.zero_le _, [], .nil, IsTup.new _ _⟩
    · have e2' : (decide (k ≤ 0) || its.toArray.isEmpty) = false := by simpa using e2
      have hk : 0 < k := by
        rw [Bool.or_eq_false_iff] at e2'
        have := of_decide_eq_false e2'.1
        omega
      have prod : ((its.toArray.size : Nat) : Int) * k = ((its.toArray.size * k.toNat : Nat) : Int) := by
        rw [Int.natCast_mul, Int.toNat_of_nonneg (by omega)]
      have le2 : ((its.toArray.size : Nat) : Int) * k ≤ (sizeLine : Nat) := by rw [prod]; omega
      rw [sizeLine_eq] at le2
      have c4 : Builtin.Tuple.tupleTooMany (((its.toArray.size : Nat) : Int) * k) = false := by
        unfold Builtin.Tuple.tupleTooMany
        rw [sizeLine_eq]
        exact decide_eq_false (by omega)
      have flen : (List.replicate k.toNat its).flatten.length ≤ sizeLine := by
        rw [PyProof.Rows.lm_len_rep_flat, hle, Nat.mul_comm]; exact hz
      refine go (call_meets F.slot_tuple_mul ⟨_, ho, rfl⟩ F.entry_tuple_mul (F.args_tuple_mul_2 _ _) (tuple_mulW l its.toArray n dd sl k t c0 e1' e2' (by omega) c4 (by rw [size_rep, List.size_toArray]; exact flen)) ⟨ho, ?_⟩)
      rw [size_rep]
      refine ⟨.ref s.heap.objs.size, _, I.laid (t' := s.toks) (o := .tup (repL xs k)) (fun b ob q => Heap.get?_push_of_some _ q) (Nat.le_refl _) ?_, rfl, q _ (I.hok.fresh (Nat.le_refl _))⟩
      refine ⟨?_, _, r.rep k.toNat, IsTup.new _ _⟩
      show (List.replicate k.toNat xs).flatten.length ≤ sizeLine
      rw [PyProof.Rows.lm_len_rep_flat, Nat.mul_comm]; exact hz

/-! ### numbers -/
theorem Sm.log {n : Nat} {i : Int} (h : Sm n i) (h0 : 0 < n) : i.natAbs.log2 < n := by
  unfold Sm at h
  rcases Nat.eq_zero_or_pos i.natAbs with z | z
  · rw [z]; exact h0
  · exact (Nat.log2_lt (Nat.ne_of_gt z)).mpr h
theorem Sm.bits {n : Nat} {i : Int} (h : Sm n i) (h0 : 0 < n) : Builtin.Int.intBits i ≤ n := by
  have := h.log h0
  unfold Builtin.Int.intBits
  split <;> omega
theorem mulOk.ok {i j : Int} (h : mulOk i j) : IntMulOk i j := by
  rcases h with h | h | h
  · exact .of_left (h.bits (by decide))
  · exact .of_right (h.bits (by decide))
  · have h1 := h.1.bits (by decide)
    have h2 := h.2.bits (by decide)
    have e : bitsLine = 134217728 := by decide
    unfold IntMulOk
    intro z
    rw [Bool.and_eq_true] at z
    have z2 := z.2
    unfold Builtin.Int.intTooBig at z2
    have z3 := of_decide_eq_true z2
    rw [e] at z3
    have e2 : GB = 60000000 := rfl
    omega
theorem divOk.ok {i j : Int} (h : divOk i j) : Builtin.divisionGoesByPylong i j = false := by
  rcases h.2 with h2 | h2
  · exact PyProof.noPylong_of_log2 (h2.log (by decide))
  · unfold Builtin.divisionGoesByPylong
    have hj : (j == 0) = false := beq_eq_false_iff_ne.mpr h.1
    simp only [hj, Bool.and_eq_false_iff, decide_eq_false_iff_not]
    right
    have hjn : j.natAbs ≠ 0 := by have := h.1; omega
    by_cases hi : i = 0
    · subst hi
      simp
    · have hi2 : (i == 0) = false := beq_eq_false_iff_ne.mpr hi
      simp only [hi2]
      have hin : i.natAbs ≠ 0 := by omega
      have lt : i.natAbs < 2 ^ (j.natAbs.log2 + 1 + 4000) := by
        have : j.natAbs < 2 ^ (j.natAbs.log2 + 1) := Nat.lt_log2_self
        rw [Nat.pow_add]
        exact Nat.lt_of_le_of_lt h2 (Nat.mul_lt_mul_of_pos_right this (Nat.pow_pos (by decide)))
      have := (Nat.log2_lt hin).mpr lt
      show ¬ (i.natAbs.log2 / 30 + 1 > j.natAbs.log2 / 30 + 1 + 150)
      omega
theorem on_mul : OpR X (binaryOp .Mult) (rI mulOk fun i j => .int (i * j)) := opI fun _ _ _ _ _ _ _ hc q => mul_int q hc.ok
theorem on_fdiv : OpR X (binaryOp .FloorDiv) (rI divOk fun i j => .int (i.fdiv j)) := opI fun _ _ _ _ _ _ _ hc q => floordiv_int hc.1 q (.inl hc.ok)
theorem on_pow : OpR X (binaryOp .Pow) (rI powOk fun i j => .int (i ^ j.toNat)) := opI fun i j _ _ _ _ _ hc q => pow_int hc.1 (by
  have h1 := hc.2.2.bits (by decide)
  have h2 := hc.2.1
  have h3 := hc.1
  have a1 : (Builtin.Int.intBits i : Int) * j ≤ 1000 * j := Int.mul_le_mul_of_nonneg_right (by omega) h3
  have : (2 : Int) ^ 27 = 134217728 := by decide
  omega) q
theorem on_shl : OpR X (binaryOp .LShift) (rI shlOk fun i j => .int (i * 2 ^ j.toNat)) := opI fun _ _ _ _ _ _ _ hc q => lshift_int_small hc.1 hc.2.1 hc.2.2 q
def op2 : Op2 → Operator
  | .add => .Add | .sub => .Sub | .mul => .Mult | .mod => .Mod | .fdiv => .FloorDiv | .pow => .Pow | .shl => .LShift | .shr => .RShift | .band => .BitAnd
/-- what is known of two values and an operator's answer -/
def rD (K : PySem.W.Frag) (f : PyData → PyData → Option PyData) : R2 := fun x y H Q => ∃ F d e z, FLe F H ∧ Rep K F d x ∧ Rep K F e y ∧ f d e = some z ∧ Res K F H z Q
theorem repL_len {α : Type} (xs : List α) (k : Int) : (repL xs k).length = xs.length * k.toNat := by
  unfold repL
  rw [PyProof.Rows.lm_len_rep_flat, Nat.mul_comm]
theorem iteS {α : Type} {c : Prop} [Decidable c] {a b : α} (h : (if c then some a else none) = some b) : c ∧ a = b := by
  by_cases z : c
  · rw [if_pos z] at h; exact ⟨z, Option.some.inj h⟩
  · rw [if_neg z] at h; cases h
theorem ob_bin (o : Op2) : OpR X (binaryOp (op2 o)) (rD X.K (bin o)) := by
  intro pins s σ H x y v u Q I rx ry h
  obtain ⟨F, d, e, z, fh, rd, re, hz, q⟩ := h
  cases rd with
  | non => cases o <;> cases e <;> cases hz
  | bl b => cases o <;> cases e <;> cases hz
  | str b => cases o <;> cases e <;> cases hz
  | dic h1 h2 => cases o <;> cases e <;> cases hz
  | int i =>
    cases re with
    | int j =>
      cases o with
      | add => cases hz; exact op_add pins s σ H _ _ v u Q I rx ry ⟨i, j, rfl, rfl, q.now fh (.int _)⟩
      | sub => cases hz; exact op_sub pins s σ H _ _ v u Q I rx ry ⟨i, j, rfl, rfl, q.now fh (.int _)⟩
      | band => cases hz
      | mul =>
        obtain ⟨c, rfl⟩ := iteS hz
        exact on_mul pins s σ H _ _ v u Q I rx ry ⟨i, j, rfl, rfl, c, q.now fh (.int _)⟩
      | mod =>
        obtain ⟨c, rfl⟩ := iteS hz
        exact op_modN pins s σ H _ _ v u Q I rx ry ⟨i, j, rfl, rfl, c, q.now fh (.int _)⟩
      | fdiv =>
        obtain ⟨c, rfl⟩ := iteS hz
        exact on_fdiv pins s σ H _ _ v u Q I rx ry ⟨i, j, rfl, rfl, c, q.now fh (.int _)⟩
      | pow =>
        obtain ⟨c, rfl⟩ := iteS hz
        exact on_pow pins s σ H _ _ v u Q I rx ry ⟨i, j, rfl, rfl, c, q.now fh (.int _)⟩
      | shl =>
        obtain ⟨c, rfl⟩ := iteS hz
        exact on_shl pins s σ H _ _ v u Q I rx ry ⟨i, j, rfl, rfl, c, q.now fh (.int _)⟩
      | shr =>
        obtain ⟨c, rfl⟩ := iteS hz
        exact op_shr pins s σ H _ _ v u Q I rx ry ⟨i, j, rfl, rfl, c, q.now fh (.int _)⟩
    | _ => cases o <;> cases hz
  | @lst a xs ds s1 r1 =>
    cases re with
    | @lst b ys es s2 r2 =>
      cases o with
      | add =>
        · obtain ⟨c, rfl⟩ := iteS hz
          rw [SL_eq, r1.length, r2.length] at c
          exact ow_cat pins s σ H _ _ v u Q I rx ry ⟨a, b, xs, ys, rfl, rfl, Rd.mo fh s1, Rd.mo fh s2, c, q.lst fh (r1.app r2)⟩
      | _ => cases hz
    | int k =>
      cases o with
      | mul =>
        · obtain ⟨c, rfl⟩ := iteS hz
          rw [r1.length] at c
          exact ow_rep pins s σ H _ _ v u Q I rx ry ⟨a, k, xs, rfl, rfl, Rd.mo fh s1, c, q.lst fh (r1.rep _)⟩
      | _ => cases hz
    | _ => cases o <;> cases hz
  | @tup a xs ds s1 r1 =>
    cases re with
    | @tup b ys es s2 r2 =>
      cases o with
      | add =>
        · obtain ⟨c, rfl⟩ := iteS hz
          rw [SL_eq, r1.length, r2.length] at c
          have l1 := r1.length
          have l2 := r2.length
          refine op_catA pins s σ H _ _ v u Q I rx ry ⟨a, b, xs, ys, rfl, rfl, SqT.mo fh s1, SqT.mo fh s2, c, fun e => ?_, fun _ e => ?_, fun _ _ => q.tup fh (r1.app r2)⟩
          · rw [e] at l1
            have e2 : ds = [] := List.eq_nil_of_length_eq_zero l1
            rw [e2] at q
            exact q.now fh (.tup s2 r2)
          · rw [e] at l2
            have e2 : es = [] := List.eq_nil_of_length_eq_zero l2
            rw [e2, List.append_nil] at q
            exact q.now fh (.tup s1 r1)
      | _ => cases hz
    | int k =>
      cases o with
      | mul =>
        · obtain ⟨c, rfl⟩ := iteS hz
          have l1 := r1.length
          have r3 : RepAll X.K F (repL ds k) (repL xs k) := r1.rep _
          rw [l1] at c
          refine ow_repT pins s σ H _ _ v u Q I rx ry ⟨a, k, xs, rfl, rfl, SqT.mo fh s1, c, fun e => ?_, q.tup fh r3⟩
          rw [e] at r3
          exact q.now fh (.tup s1 r3)
      | _ => cases hz
    | _ => cases o <;> cases hz
end
end HM

namespace HM
open PySem PySem.Spec PyProof.Rows L2

/-! ### the same data as the library's -/
section
variable {K : PySem.W.Frag} {F H : Hp}
mutual
theorem Rep.dp (h : FLe F H) : ∀ {d : PyData} {v : V}, Rep K F d v → d.canLay0 = true → Dp K H v d
  | _, _, .non, _ => .non
  | _, _, .bl b, _ => .bl b
  | _, _, .int i, _ => .int i
  | _, _, .str i, _ => .str i
  | _, _, .lst s r, c => .lst (.inl (Rd.mo h s)) (RepAll.dp h r (by simpa [PyData.canLay0] using c))
  | _, _, .tup s r, c => .tup (SqT.mo h s) (RepAll.dp h r (by simpa [PyData.canLay0] using c))
  | _, _, .dic s r, c => by simp [PyData.canLay0] at c
theorem RepAll.dp (h : FLe F H) : ∀ {ds : List PyData} {vs : List V}, RepAll K F ds vs → PyData.canLayAll0 ds = true → DpAll K H vs ds
  | _, _, .nil, _ => .nil
  | _, _, .cons a b, c => by
    rw [PyData.canLayAll0, Bool.and_eq_true] at c
    exact .cons (Rep.dp h a c.1) (RepAll.dp h b c.2)
end
theorem flat_flatV : ∀ {d : PyData} {v : V}, Rep K F d v → flat d = true → flatV v = true
  | _, _, .non, _ => rfl
  | _, _, .bl b, _ => rfl
  | _, _, .int i, _ => rfl
  | _, _, .str i, _ => rfl
  | _, _, .lst s r, c => by cases c
  | _, _, .tup s r, c => by cases c
  | _, _, .dic s r, c => by cases c
theorem eqv_eqV : ∀ {d : PyData} {v : V} {e : PyData} {u : V}, Rep K F d v → flat d = true → Rep K F e u → flat e = true → eqV v u = PyData.eqv d e := by
  intro d v e u rd fd re fe
  cases rd with
  | lst s r => cases fd
  | tup s r => cases fd
  | dic s r => cases fd
  | non =>
    cases re with
    | lst s r => cases fe
    | tup s r => cases fe
    | dic s r => cases fe
    | _ => simp [eqV, PyData.eqv]
  | bl b =>
    cases re with
    | lst s r => cases fe
    | tup s r => cases fe
    | dic s r => cases fe
    | _ => simp [eqV, PyData.eqv, Bool.beq_eq_decide_eq]
  | int b =>
    cases re with
    | lst s r => cases fe
    | tup s r => cases fe
    | dic s r => cases fe
    | _ => simp [eqV, PyData.eqv, Bool.beq_eq_decide_eq]
  | str b =>
    cases re with
    | lst s r => cases fe
    | tup s r => cases fe
    | dic s r => cases fe
    | _ => simp [eqV, PyData.eqv, Bool.beq_eq_decide_eq]
theorem inD_inV {x : PyData} {v : V} (rx : Rep K F x v) (fx : flat x = true) : ∀ {ds : List PyData} {vs : List V}, RepAll K F ds vs → ds.all flat = true → vs.all flatV = true ∧ inV v vs = inD x ds
  | _, _, .nil, _ => ⟨rfl, rfl⟩
  | _, _, .cons a b, h => by
    rw [List.all_cons, Bool.and_eq_true] at h
    obtain ⟨h1, h2⟩ := inD_inV rx fx b h.2
    refine ⟨by rw [List.all_cons, flat_flatV a h.1, h1]; rfl, ?_⟩
    unfold inV inD at h2 ⊢
    rw [List.any_cons, List.any_cons, h2, eqv_eqV a h.1 rx fx]
end

/-! ### comparisons -/
def cm : Cm → CmpOp
  | .eq => .Eq | .ne => .NotEq | .lt => .Lt | .le => .LtE | .gt => .Gt | .ge => .GtE | .is => .Is | .isnot => .IsNot | .isin => .In | .notin => .NotIn
def rCm (K : PySem.W.Frag) (f : PyData → PyData → Option Bool) : R2 := fun x y H Q => ∃ F d e z, FLe F H ∧ Rep K F d x ∧ Rep K F e y ∧ f d e = some z ∧ Q (.bl z) H
section
variable {X : Cx}
theorem isB_same {M : Model} {A : Around} {E : Value → Shared → Prop} {s : Shared} {x : V} {v : Value} {b : Bool} (r : RelV x v) {Q : Bool → Shared → Prop} (h : Q (decide (x = .bl b)) s) : wpAny M A (isSame v (.bool b)) Q E s := by
  unfold isSame
  cases x with
  | non => cases r; exact wpAny_pure h
  | bl c =>
    cases r
    refine wpAny_pure ?_
    have e : (Value.bool c == Value.bool b) = decide (V.bl c = V.bl b) := by
      by_cases z : c = b
      · subst z; simp
      · rw [decide_eq_false (fun q => z (V.bl.inj q))]
        exact beq_eq_false_iff_ne.mpr (fun q => z (by injection q))
    show Q (Value.bool c == Value.bool b) s
    rw [e]
    exact h
  | int i => obtain ⟨t, rfl⟩ := r; exact wpAny_pure h
  | str i => obtain ⟨t, rfl⟩ := r; exact wpAny_pure h
  | byt i => obtain ⟨t, rfl⟩ := r; exact wpAny_pure h
  | flt i => obtain ⟨t, rfl⟩ := r; exact wpAny_pure h
  | ref a => cases r; exact wpAny_pure h
  | ty n => cases r; exact wpAny_pure h
theorem op_isB : OpR X (compareOp .Is) (fun x y H Q => ∃ b, y = .bl b ∧ Q (.bl (decide (x = .bl b))) H) := by
  intro pins s σ H x y v u Q I rx ry h
  obtain ⟨b, rfl, q⟩ := h
  cases ry
  show wpAny _ _ (isSame v (.bool b) >>= fun c => pure (Value.bool c)) _ _ s
  exact wpAny_bind (isB_same rx (wpAny_pure ⟨.bl _, H, I, rfl, q⟩))
theorem op_isnB : OpR X (compareOp .IsNot) (fun x y H Q => ∃ b, y = .bl b ∧ Q (.bl (!decide (x = .bl b))) H) := by
  intro pins s σ H x y v u Q I rx ry h
  obtain ⟨b, rfl, q⟩ := h
  cases ry
  show wpAny _ _ (isSame v (.bool b) >>= fun c => pure (Value.bool (!c))) _ _ s
  exact wpAny_bind (isB_same rx (wpAny_pure ⟨.bl _, H, I, rfl, q⟩))
theorem Rep.isB {K : PySem.W.Frag} {F : Hp} {d : PyData} {v : V} (r : Rep K F d v) (b : Bool) : decide (v = .bl b) = HM.isB b d := by
  cases r with
  | bl c => unfold HM.isB; by_cases z : b = c
            · subst z; simp
            · rw [decide_eq_false (fun q => z (V.bl.inj q).symm)]; simp [z]
  | _ => rfl
theorem Rep.isN {K : PySem.W.Frag} {F : Hp} {d : PyData} {v : V} (r : Rep K F d v) : decide (v = .non) = HM.isNone d := by
  cases r <;> rfl
/-- == with what is empty -/
theorem ow_eq0 (hu : X.A.units < cLine) {pins : List (Addr × Obj)} {s : Shared} {σ : L2.St} {H : Hp} {a b : Addr} {xs : List V} {Q : VK} (I : Inv X pins σ H s) (h1 : SqT X.K H a xs) (h2 : SqT X.K H b []) (q : Q (.bl xs.isEmpty) H) :
    wpAny (model X.prog X.w) X.A (compareOp .Eq (.ref a) (.ref b)) (EP X pins σ Q) X.xe s := by
  obtain ⟨its, r, ht, hz⟩ := I.tuple h1
  obtain ⟨its2, r2, ht2, hz2⟩ := I.tuple h2
  cases r2
  refine SeqAt.eq_tupleAt (e := fun _ => true) (show s.heap.IsTuple a its.toArray from ht) (show s.heap.IsTuple b ([] : List Value).toArray from ht2) hu (fun j _ h => absurd h (by simp)) ⟨.bl xs.isEmpty, H, I, ?_, q⟩
  cases r <;> simp [L2.RelV]
theorem ow_ne0 (hu : X.A.units < cLine) {pins : List (Addr × Obj)} {s : Shared} {σ : L2.St} {H : Hp} {a b : Addr} {xs : List V} {Q : VK} (I : Inv X pins σ H s) (h1 : SqT X.K H a xs) (h2 : SqT X.K H b []) (q : Q (.bl (!xs.isEmpty)) H) :
    wpAny (model X.prog X.w) X.A (compareOp .NotEq (.ref a) (.ref b)) (EP X pins σ Q) X.xe s := by
  obtain ⟨its, r, ht, hz⟩ := I.tuple h1
  obtain ⟨its2, r2, ht2, hz2⟩ := I.tuple h2
  cases r2
  refine SeqAt.RcNeAt.tuples (e := fun _ => true) (show s.heap.IsTuple a its.toArray from ht) (show s.heap.IsTuple b ([] : List Value).toArray from ht2) hu (fun j _ h => absurd h (by simp)) X.prog X.w X.xe _ ⟨.bl (!xs.isEmpty), H, I, ?_, q⟩
  cases r <;> simp [L2.RelV]
theorem ow_eq0L (hu : X.A.units < cLine) {pins : List (Addr × Obj)} {s : Shared} {σ : L2.St} {H : Hp} {a b : Addr} {xs : List V} {Q : VK} (I : Inv X pins σ H s) (h1 : SqL X.K H a xs) (h2 : SqL X.K H b []) (q : Q (.bl xs.isEmpty) H) :
    wpAny (model X.prog X.w) X.A (compareOp .Eq (.ref a) (.ref b)) (EP X pins σ Q) X.xe s := by
  obtain ⟨its, r, ht, hz⟩ := I.list h1
  obtain ⟨its2, r2, ht2, hz2⟩ := I.list h2
  cases r2
  cases r with
  | nil => exact SeqAt.eq_listAt (e := fun _ => true) ht.isList ht2.isList rfl hu (fun j _ h => absurd h (by simp)) ⟨.bl true, H, I, rfl, q⟩
  | cons r1 r2 => exact SeqAt.eq_list_lengthsAt ht.isList ht2.isList (by simp) hu ⟨.bl false, H, I, rfl, q⟩
theorem ow_ne0L (hu : X.A.units < cLine) {pins : List (Addr × Obj)} {s : Shared} {σ : L2.St} {H : Hp} {a b : Addr} {xs : List V} {Q : VK} (I : Inv X pins σ H s) (h1 : SqL X.K H a xs) (h2 : SqL X.K H b []) (q : Q (.bl (!xs.isEmpty)) H) :
    wpAny (model X.prog X.w) X.A (compareOp .NotEq (.ref a) (.ref b)) (EP X pins σ Q) X.xe s := by
  obtain ⟨its, r, ht, hz⟩ := I.list h1
  obtain ⟨its2, r2, ht2, hz2⟩ := I.list h2
  cases r2
  cases r with
  | nil => exact SeqAt.RcNeAt.lists (e := fun _ => true) ht.isList ht2.isList rfl hu (fun j _ h => absurd h (by simp)) X.prog X.w X.xe _ ⟨.bl false, H, I, rfl, q⟩
  | cons r1 r2 => exact SeqAt.RcNeAt.lists_lengths ht.isList ht2.isList (by simp) hu X.prog X.w X.xe _ ⟨.bl true, H, I, rfl, q⟩
theorem shaped_lay {d : PyData} (h : SeqAt.shaped d = true) : d.canLay0 = true := SeqAt.canLay_of_shaped h
theorem ob_eqv (hu : X.A.units + 64 < cLine) {F H : Hp} {d e : PyData} {x y : V} {z : Bool} (fh : FLe F H) (rd : Rep X.K F d x) (re : Rep X.K F e y) (h : (if SeqAt.shaped d && SeqAt.shaped e then some (PyData.eqv d e) else none) = some z) {Q : VK} (q : Q (.bl z) H) : rEqD X.K x y H Q := by
  obtain ⟨c, rfl⟩ := iteS h
  rw [Bool.and_eq_true] at c
  exact ⟨d, e, rd.dp fh (shaped_lay c.1), re.dp fh (shaped_lay c.2), c.1, c.2, q⟩
theorem ob_nev (hu : X.A.units + 64 < cLine) {F H : Hp} {d e : PyData} {x y : V} {z : Bool} (fh : FLe F H) (rd : Rep X.K F d x) (re : Rep X.K F e y) (h : (if SeqAt.shaped d && SeqAt.shaped e then some (!PyData.eqv d e) else none) = some z) {Q : VK} (q : Q (.bl z) H) : rNeD X.K x y H Q := by
  obtain ⟨c, rfl⟩ := iteS h
  rw [Bool.and_eq_true] at c
  exact ⟨d, e, rd.dp fh (shaped_lay c.1), re.dp fh (shaped_lay c.2), c.1, c.2, q⟩
theorem RepAll.emp {K : PySem.W.Frag} {F : Hp} {ds : List PyData} {xs : List V} (r : RepAll K F ds xs) : ds.isEmpty = xs.isEmpty := by
  cases r <;> rfl
/-- what == says -/
theorem eqD_cases {d e : PyData} {z : Bool} (h : cmpD .eq d e = some z) : (∃ xs, d = .tuple xs ∧ e = .tuple [] ∧ z = xs.isEmpty) ∨ (∃ xs, d = .list xs ∧ e = .list [] ∧ z = xs.isEmpty) ∨ (if SeqAt.shaped d && SeqAt.shaped e then some (PyData.eqv d e) else none) = some z := by
  by_cases h1 : ∃ xs, d = .tuple xs ∧ e = .tuple []
  · obtain ⟨xs, rfl, rfl⟩ := h1; exact .inl ⟨xs, rfl, rfl, (Option.some.inj h).symm⟩
  · by_cases h2 : ∃ xs, d = .list xs ∧ e = .list []
    · obtain ⟨xs, rfl, rfl⟩ := h2; exact .inr (.inl ⟨xs, rfl, rfl, (Option.some.inj h).symm⟩)
    · refine .inr (.inr ?_)
      rw [← h, cmpD]
      · intro xs a b; exact h1 ⟨xs, a, b⟩
      · intro xs a b; exact h2 ⟨xs, a, b⟩
theorem neD_cases {d e : PyData} {z : Bool} (h : cmpD .ne d e = some z) : (∃ xs, d = .tuple xs ∧ e = .tuple [] ∧ z = !xs.isEmpty) ∨ (∃ xs, d = .list xs ∧ e = .list [] ∧ z = !xs.isEmpty) ∨ (if SeqAt.shaped d && SeqAt.shaped e then some (!PyData.eqv d e) else none) = some z := by
  by_cases h1 : ∃ xs, d = .tuple xs ∧ e = .tuple []
  · obtain ⟨xs, rfl, rfl⟩ := h1; exact .inl ⟨xs, rfl, rfl, (Option.some.inj h).symm⟩
  · by_cases h2 : ∃ xs, d = .list xs ∧ e = .list []
    · obtain ⟨xs, rfl, rfl⟩ := h2; exact .inr (.inl ⟨xs, rfl, rfl, (Option.some.inj h).symm⟩)
    · refine .inr (.inr ?_)
      rw [← h, cmpD]
      · intro xs a b; exact h1 ⟨xs, a, b⟩
      · intro xs a b; exact h2 ⟨xs, a, b⟩
theorem ob_cmp (hu : X.A.units + 70 < cLine) (o : Cm) : OpR X (compareOp (cm o)) (rCm X.K (cmpD o)) := by
  intro pins s σ H x y v u Q I rx ry h
  obtain ⟨F, d, e, z, fh, rd, re, hz, q⟩ := h
  have intsX : ∀ (op : CmpOp) (p : Int → Int → Bool), OpR X (compareOp op) (rI0 fun i j => .bl (p i j)) → (∃ i j, d = .int i ∧ e = .int j ∧ z = p i j) → wpAny (model X.prog X.w) X.A (compareOp op v u) (EP X pins σ Q) X.xe s := fun op p hop hij => by
    obtain ⟨i, j, rfl, rfl, rfl⟩ := hij
    cases rd; cases re
    exact hop pins s σ H _ _ v u Q I rx ry ⟨i, j, rfl, rfl, q⟩
  have ij : ∀ (c : Cm) (p : Int → Int → Bool), (∀ d e, cmpD c d e = match d, e with | .int i, .int j => some (p i j) | _, _ => none) → cmpD c d e = some z → ∃ i j, d = .int i ∧ e = .int j ∧ z = p i j := fun c p hc hz => by
    rw [hc] at hz
    split at hz
    · cases hz; exact ⟨_, _, rfl, rfl, rfl⟩
    · cases hz
  cases o with
  | lt => exact intsX .Lt (fun i j => decide (i < j)) op_lt (ij .lt _ (fun d e => by cases d <;> cases e <;> rfl) hz)
  | le => exact intsX .LtE (fun i j => decide (i ≤ j)) op_le (ij .le _ (fun d e => by cases d <;> cases e <;> rfl) hz)
  | gt => exact intsX .Gt (fun i j => decide (j < i)) op_gt (ij .gt _ (fun d e => by cases d <;> cases e <;> rfl) hz)
  | ge => exact intsX .GtE (fun i j => decide (j ≤ i)) op_ge (ij .ge _ (fun d e => by cases d <;> cases e <;> rfl) hz)
  | is =>
    cases re with
    | non => cases hz; exact op_isN pins s σ H _ _ v u Q I rx ry ⟨rfl, by rw [rd.isN]; exact q⟩
    | bl b => cases hz; exact op_isB pins s σ H _ _ v u Q I rx ry ⟨b, rfl, by rw [rd.isB]; exact q⟩
    | _ => cases hz
  | isnot =>
    cases re with
    | non => cases hz; exact op_notN pins s σ H _ _ v u Q I rx ry ⟨rfl, by rw [rd.isN]; exact q⟩
    | bl b => cases hz; exact op_isnB pins s σ H _ _ v u Q I rx ry ⟨b, rfl, by rw [rd.isB]; exact q⟩
    | _ => cases hz
  | isin =>
    cases re with
    | lst s1 r1 =>
      obtain ⟨c, rfl⟩ := iteS (show (if flat d && _ then some _ else none) = some z from hz)
      rw [Bool.and_eq_true] at c
      obtain ⟨a1, a2⟩ := inD_inV rd c.1 r1 c.2
      exact op_in_seq pins s σ H _ _ v u Q I rx ry ⟨_, _, rfl, .inl (.inl (Rd.mo fh s1)), flat_flatV rd c.1, a1, by rw [a2]; exact q⟩
    | tup s1 r1 =>
      obtain ⟨c, rfl⟩ := iteS (show (if flat d && _ then some _ else none) = some z from hz)
      rw [Bool.and_eq_true] at c
      obtain ⟨a1, a2⟩ := inD_inV rd c.1 r1 c.2
      exact op_in_seq pins s σ H _ _ v u Q I rx ry ⟨_, _, rfl, .inr (SqT.mo fh s1), flat_flatV rd c.1, a1, by rw [a2]; exact q⟩
    | _ => cases hz
  | notin =>
    cases re with
    | lst s1 r1 =>
      obtain ⟨c, rfl⟩ := iteS (show (if flat d && _ then some _ else none) = some z from hz)
      rw [Bool.and_eq_true] at c
      obtain ⟨a1, a2⟩ := inD_inV rd c.1 r1 c.2
      exact op_notIn_seq pins s σ H _ _ v u Q I rx ry ⟨_, _, rfl, .inl (.inl (Rd.mo fh s1)), flat_flatV rd c.1, a1, by rw [a2]; exact q⟩
    | tup s1 r1 =>
      obtain ⟨c, rfl⟩ := iteS (show (if flat d && _ then some _ else none) = some z from hz)
      rw [Bool.and_eq_true] at c
      obtain ⟨a1, a2⟩ := inD_inV rd c.1 r1 c.2
      exact op_notIn_seq pins s σ H _ _ v u Q I rx ry ⟨_, _, rfl, .inr (SqT.mo fh s1), flat_flatV rd c.1, a1, by rw [a2]; exact q⟩
    | _ => cases hz
  | eq =>
    rcases eqD_cases hz with ⟨ds, rfl, rfl, rfl⟩ | ⟨ds, rfl, rfl, rfl⟩ | hs
    · cases rd with
      | tup s1 r1 =>
        cases re with
        | tup s2 r2 =>
          cases r2; cases rx; cases ry
          exact ow_eq0 (by omega) I (SqT.mo fh s1) (SqT.mo fh s2) (by rw [← r1.emp]; exact q)
    · cases rd with
      | lst s1 r1 =>
        cases re with
        | lst s2 r2 =>
          cases r2; cases rx; cases ry
          exact ow_eq0L (by omega) I (.inl (Rd.mo fh s1)) (.inl (Rd.mo fh s2)) (by rw [← r1.emp]; exact q)
    · exact op_eqD (by omega) pins s σ H _ _ v u Q I rx ry (ob_eqv (by omega) fh rd re hs q)
  | ne =>
    rcases neD_cases hz with ⟨ds, rfl, rfl, rfl⟩ | ⟨ds, rfl, rfl, rfl⟩ | hs
    · cases rd with
      | tup s1 r1 =>
        cases re with
        | tup s2 r2 =>
          cases r2; cases rx; cases ry
          exact ow_ne0 (by omega) I (SqT.mo fh s1) (SqT.mo fh s2) (by rw [← r1.emp]; exact q)
    · cases rd with
      | lst s1 r1 =>
        cases re with
        | lst s2 r2 =>
          cases r2; cases rx; cases ry
          exact ow_ne0L (by omega) I (.inl (Rd.mo fh s1)) (.inl (Rd.mo fh s2)) (by rw [← r1.emp]; exact q)
    · exact op_neD (by omega) pins s σ H _ _ v u Q I rx ry (ob_nev (by omega) fh rd re hs q)
end
end HM

namespace HM
open PySem PySem.Spec PyProof.Rows L2

/-! ### places -/
section
variable {K : PySem.W.Frag} {F : Hp}
theorem ixAt_rep {ds : List PyData} {xs : List V} {i : Int} {d : PyData} (r : RepAll K F ds xs) (h : ixAt ds i = some d) : ∃ v, atI xs i = some v ∧ Rep K F d v := by
  have l := r.length
  unfold ixAt at h
  unfold atI ixN
  by_cases h0 : 0 ≤ i
  · rw [if_pos h0] at h ⊢
    obtain ⟨v, e, q⟩ := r.get h
    have hl : i.toNat < xs.length := (List.getElem?_eq_some_iff.mp e).1
    rw [if_pos (by omega)]
    exact ⟨v, e, q⟩
  · rw [if_neg h0] at h ⊢
    by_cases h1 : 0 ≤ (ds.length : Int) + i
    · rw [if_pos h1] at h
      obtain ⟨v, e, q⟩ := r.get h
      rw [if_pos (by omega)]
      refine ⟨v, ?_, q⟩
      show xs[(i + (xs.length : Int)).toNat]? = some v
      rw [show (i + (xs.length : Int)).toNat = ((ds.length : Int) + i).toNat by omega]
      exact e
    · rw [if_neg h1] at h; cases h
theorem setAt_rep {ds ds' : List PyData} {xs : List V} {i : Int} {d : PyData} {v : V} (r : RepAll K F ds xs) (q : Rep K F d v) (h : setAt ds i d = some ds') : ∃ j, ixN xs.length i = some j ∧ RepAll K F ds' (xs.set j v) := by
  have l := r.length
  unfold setAt at h
  unfold ixN
  by_cases h0 : 0 ≤ i
  · rw [if_pos h0] at h ⊢
    obtain ⟨c, rfl⟩ := iteS h
    rw [if_pos (by omega)]
    exact ⟨_, rfl, r.set q _⟩
  · rw [if_neg h0] at h ⊢
    obtain ⟨c, rfl⟩ := iteS h
    rw [if_pos (by omega)]
    refine ⟨_, rfl, ?_⟩
    rw [show (i + (xs.length : Int)).toNat = ((ds.length : Int) + i).toNat by omega]
    exact r.set q _
theorem sIx_eq (n dflt : Nat) (i : Int) : HT.sIx n dflt (some i) = sIx n i := by
  show (if i < 0 then (i + (n : Int)).toNat else min i.toNat n) = if 0 ≤ i then Nat.min i.toNat n else ((n : Int) + i).toNat
  by_cases h : i < 0
  · rw [if_pos h, if_neg (by omega), Int.add_comm]
  · rw [if_neg h, if_pos (by omega)]
/-- a slice's part -/
def partD : PyData → Option (Option Int)
  | .none => some none
  | .int i => some (some i)
  | _ => none
theorem slEnd_eq {n dflt : Nat} {a : PyData} {lo : Nat} (h : slEnd n dflt a = some lo) : ∃ o, partD a = some o ∧ HT.sIx n dflt o = lo := by
  cases a with
  | none => cases h; exact ⟨none, rfl, rfl⟩
  | int i => cases h; exact ⟨some i, rfl, sIx_eq _ _ _⟩
  | _ => cases h
theorem cut_rep {ds : List PyData} {xs : List V} {lo hi : Option Int} (r : RepAll K F ds xs) : RepAll K F (cut ds (HT.sIx ds.length 0 lo) (HT.sIx ds.length ds.length hi)) (cutV xs lo hi) := by
  unfold cut cutV
  rw [r.length]
  exact (r.drop _).take _
end
section
variable {X : Cx}
theorem ob_ix : IxR X (rD X.K ixD) := by
  intro value slice pins s σ H x y v u Q I rx ry h hs
  obtain ⟨F, d, e, z, fh, rd, re, hz, q⟩ := h
  cases rd with
  | lst s1 r1 =>
    cases re with
    | int i =>
      obtain ⟨w, e1, q1⟩ := ixAt_rep r1 (show ixAt _ i = some z from hz)
      exact ix_list (value := value) (slice := slice) pins s σ H _ _ v u Q I rx ry ⟨_, _, i, w, rfl, rfl, .inl (Rd.mo fh s1), e1, q.now fh q1⟩ hs
    | _ => cases hz
  | tup s1 r1 =>
    cases re with
    | int i =>
      obtain ⟨w, e1, q1⟩ := ixAt_rep r1 (show ixAt _ i = some z from hz)
      exact ix_tup (value := value) (slice := slice) pins s σ H _ _ v u Q I rx ry ⟨_, _, i, w, rfl, rfl, SqT.mo fh s1, e1, q.now fh q1⟩ hs
    | _ => cases hz
  | _ => cases re <;> cases hz
/-- a slice by its parts -/
def rSlD (K : PySem.W.Frag) : V → Option Int → Option Int → Hp → VK → Prop := fun x lo hi H Q => ∃ F d a b z, FLe F H ∧ Rep K F d x ∧ partD a = some lo ∧ partD b = some hi ∧ slD d a b = some z ∧ Res K F H z Q
theorem ob_sl : SlR X (rSlD X.K) := by
  intro pins s σ H x v vl vu lo hi sl Q I rx hs pl pu h
  obtain ⟨F, d, a, b, z, fh, rd, ha, hb, hz, q⟩ := h
  have ends : ∀ n, ∃ l u, slEnd n 0 a = some l ∧ slEnd n n b = some u ∧ HT.sIx n 0 lo = l ∧ HT.sIx n n hi = u := fun n => by
    cases a with
    | none => cases ha; cases b with
              | none => cases hb; exact ⟨_, _, rfl, rfl, rfl, rfl⟩
              | int j => cases hb; exact ⟨_, _, rfl, rfl, rfl, sIx_eq _ _ _⟩
              | _ => cases hb
    | int i => cases ha; cases b with
               | none => cases hb; exact ⟨_, _, rfl, rfl, sIx_eq _ _ _, rfl⟩
               | int j => cases hb; exact ⟨_, _, rfl, rfl, sIx_eq _ _ _, sIx_eq _ _ _⟩
               | _ => cases hb
    | _ => cases ha
  cases rd with
  | @lst p xs ds s1 r1 =>
    obtain ⟨l, u, e1, e2, e3, e4⟩ := ends ds.length
    have hz' : slD (.list ds) a b = some (.list (cut ds l u)) := by rw [slD, e1, e2]; rfl
    rw [hz'] at hz
    cases hz
    have r2 : RepAll X.K F (cut ds l u) (cutV xs lo hi) := by have := cut_rep (lo := lo) (hi := hi) r1; rw [e3, e4] at this; exact this
    exact sl_list pins s σ H _ v vl vu lo hi sl Q I rx hs pl pu ⟨p, xs, rfl, .inl (Rd.mo fh s1), q.lst fh r2⟩
  | @tup p xs ds s1 r1 =>
    obtain ⟨l, u, e1, e2, e3, e4⟩ := ends ds.length
    have hz' : slD (.tuple ds) a b = some (.tuple (cut ds l u)) := by rw [slD, e1, e2]; rfl
    rw [hz'] at hz
    cases hz
    have r2 : RepAll X.K F (cut ds l u) (cutV xs lo hi) := by have := cut_rep (lo := lo) (hi := hi) r1; rw [e3, e4] at this; exact this
    refine sl_tupA pins s σ H _ v vl vu lo hi sl Q I rx hs pl pu ⟨p, xs, rfl, SqT.mo fh s1, fun w => ?_, fun _ => q.tup fh r2⟩
    rw [← r1.length, e3, e4] at w
    have e5 : cut ds l u = ds := by
      unfold cut
      rw [w.1, w.2, List.drop_zero, Nat.sub_zero, List.take_length]
    rw [e5] at q
    exact q.now fh (.tup s1 r1)
  | _ => cases hz

/-! ### isinstance -/
def tyN : Ty → String
  | .int => "int" | .bool => "bool" | .tuple => "tuple" | .list => "list" | .str => "str" | .dict => "dict"
def tyD : PyData → String
  | .none => "NoneType" | .bool _ => "bool" | .int _ => "int" | .str _ => "str" | .list _ => "list" | .tuple _ => "tuple" | .dict _ => "dict"
theorem kit_tys (d : PyData) (t : Ty) : kitB (tyD d) (tyN t) = some (isTy t d) := by
  cases d <;> cases t <;> (dsimp only [tyD, tyN, isTy]; decide +kernel)
theorem Rep.ty {F H : Hp} (fh : FLe F H) {d : PyData} {v : V} (r : Rep X.K F d v) : TyX X.K H v (.type (tyD d)) := by
  cases r with
  | non => exact .base .non
  | bl b => exact .base (.bl b)
  | int i => exact .base (.int i)
  | str i => exact .base (.str i)
  | lst s r =>
    rcases Rd.mo fh s with s | ⟨o, s⟩
    · exact .base (.lst s)
    · exact .base (.frz s)
  | tup s r =>
    rcases SqT.mo fh s with (s | ⟨o, s⟩) | ⟨o, its, n, h1, h2, _⟩
    · exact .base (.tup s)
    · exact .fTuple s
    · exact .kTuple h1 h2
  | dic s r => exact .base (.dK (fh _ _ s))
theorem ob_isi (t : Ty) : CallR X (.builtin "isinstance") (fun vs H Q => ∃ F d x, vs = [x, .ty (tyN t)] ∧ FLe F H ∧ Rep X.K F d x ∧ Q (.bl (isTy t d)) H) := by
  intro pins s σ H xs us Q I r h
  obtain ⟨F, d, x, rfl, fh, rd, q⟩ := h
  exact call_isi pins s σ H _ us Q I r ⟨x, .ty (tyN t), .type (tyD d), .type (tyN t), isTy t d, rfl, .ty (tyN t), rd.ty fh, kit_ty (kit_tys d t), q⟩

/-! ### built-ins -/
theorem leastI_le : ∀ (r : List Int) (m : Int), leastI m r ≤ m ∧ (leastI m r = m ∨ leastI m r ∈ r) ∧ ∀ y ∈ r, leastI m r ≤ y
  | [], m => ⟨Int.le_refl _, .inl rfl, fun _ h => nomatch h⟩
  | x :: r, m => by
    obtain ⟨h1, h2, h3⟩ := leastI_le r (if x < m then x else m)
    show leastI (if x < m then x else m) r ≤ m ∧ (leastI (if x < m then x else m) r = m ∨ leastI (if x < m then x else m) r ∈ x :: r) ∧ ∀ y ∈ x :: r, leastI (if x < m then x else m) r ≤ y
    by_cases c : x < m
    · rw [if_pos c] at h1 h2 h3 ⊢
      refine ⟨by omega, .inr ?_, fun y hy => ?_⟩
      · rcases h2 with e | e
        · rw [e]; exact List.mem_cons_self
        · exact List.mem_cons_of_mem _ e
      · rcases List.mem_cons.mp hy with e | e
        · rw [e]; exact h1
        · exact h3 y e
    · rw [if_neg c] at h1 h2 h3 ⊢
      refine ⟨h1, ?_, fun y hy => ?_⟩
      · rcases h2 with e | e
        · exact .inl e
        · exact .inr (List.mem_cons_of_mem _ e)
      · rcases List.mem_cons.mp hy with e | e
        · omega
        · exact h3 y e
theorem mostI_ge : ∀ (r : List Int) (m : Int), m ≤ mostI m r ∧ (mostI m r = m ∨ mostI m r ∈ r) ∧ ∀ y ∈ r, y ≤ mostI m r
  | [], m => ⟨Int.le_refl _, .inl rfl, fun _ h => nomatch h⟩
  | x :: r, m => by
    obtain ⟨h1, h2, h3⟩ := mostI_ge r (if m < x then x else m)
    show m ≤ mostI (if m < x then x else m) r ∧ (mostI (if m < x then x else m) r = m ∨ mostI (if m < x then x else m) r ∈ x :: r) ∧ ∀ y ∈ x :: r, y ≤ mostI (if m < x then x else m) r
    by_cases c : m < x
    · rw [if_pos c] at h1 h2 h3 ⊢
      refine ⟨by omega, .inr ?_, fun y hy => ?_⟩
      · rcases h2 with e | e
        · rw [e]; exact List.mem_cons_self
        · exact List.mem_cons_of_mem _ e
      · rcases List.mem_cons.mp hy with e | e
        · rw [e]; exact h1
        · exact h3 y e
    · rw [if_neg c] at h1 h2 h3 ⊢
      refine ⟨h1, ?_, fun y hy => ?_⟩
      · rcases h2 with e | e
        · exact .inl e
        · exact .inr (List.mem_cons_of_mem _ e)
      · rcases List.mem_cons.mp hy with e | e
        · omega
        · exact h3 y e
theorem insI_perm (x : Int) : ∀ r : List Int, (insI x r).Perm (x :: r)
  | [] => .refl _
  | y :: r => by
    unfold insI
    split
    · exact .refl _
    · exact ((insI_perm x r).cons y).trans (.swap x y r)
theorem insI_sorted (x : Int) : ∀ {r : List Int}, r.Pairwise (· ≤ ·) → (insI x r).Pairwise (· ≤ ·)
  | [], _ => by simp [insI]
  | y :: r, h => by
    unfold insI
    split
    · rename_i c
      refine List.pairwise_cons.mpr ⟨fun z hz => ?_, h⟩
      rcases List.mem_cons.mp hz with e | e
      · omega
      · exact Int.le_trans c ((List.pairwise_cons.mp h).1 z e)
    · rename_i c
      refine List.pairwise_cons.mpr ⟨fun z hz => ?_, insI_sorted x (List.pairwise_cons.mp h).2⟩
      rcases List.mem_cons.mp ((insI_perm x r).mem_iff.mp hz) with e | e
      · omega
      · exact (List.pairwise_cons.mp h).1 z e
theorem sortI_perm : ∀ r : List Int, (sortI r).Perm r
  | [] => .refl _
  | x :: r => (insI_perm x (sortI r)).trans ((sortI_perm r).cons x)
theorem sortI_sorted : ∀ r : List Int, (sortI r).Pairwise (· ≤ ·)
  | [] => .nil
  | x :: r => insI_sorted x (sortI_sorted r)
theorem sorted_one : ∀ {a b : List Int}, a.Perm b → a.Pairwise (· ≤ ·) → b.Pairwise (· ≤ ·) → a = b
  | [], b, p, _, _ => (List.nil_perm.mp p).symm
  | x :: a, [], p, _, _ => absurd p.length_eq (by simp)
  | x :: a, y :: b, p, h, k => by
    have e : x = y := by
      have h1 : x ∈ y :: b := p.mem_iff.mp List.mem_cons_self
      have h2 : y ∈ x :: a := p.mem_iff.mpr List.mem_cons_self
      rcases List.mem_cons.mp h1 with e | e
      · exact e
      · rcases List.mem_cons.mp h2 with e2 | e2
        · exact e2.symm
        · have a1 := (List.pairwise_cons.mp k).1 x e
          have a2 := (List.pairwise_cons.mp h).1 y e2
          omega
    subst e
    rw [sorted_one (List.Perm.cons_inv p) (List.pairwise_cons.mp h).2 (List.pairwise_cons.mp k).2]
/-! pairs of ints, sorted -/
theorem insP_perm (x : Int × Int) : ∀ r : List (Int × Int), (insP x r).Perm (x :: r)
  | [] => .rfl
  | y :: r => by
    unfold insP
    split
    · exact ((insP_perm x r).cons y).trans (.swap x y r)
    · exact .rfl
theorem lexP_iff {p q : Int × Int} : lexP p q = true ↔ p.1 < q.1 ∨ (p.1 = q.1 ∧ p.2 < q.2) := by
  unfold lexP
  simp
def leP (p q : Int × Int) : Prop := ¬ (q.1 < p.1 ∨ (q.1 = p.1 ∧ q.2 < p.2))
theorem insP_sorted (x : Int × Int) : ∀ {r : List (Int × Int)}, r.Pairwise leP → (insP x r).Pairwise leP
  | [], _ => by simp [insP]
  | y :: r, h => by
    have hy := (List.pairwise_cons.mp h).1
    unfold insP
    split
    · rename_i c
      have c := lexP_iff.mp c
      refine List.pairwise_cons.mpr ⟨fun z hz => ?_, insP_sorted x (List.pairwise_cons.mp h).2⟩
      rcases List.mem_cons.mp ((insP_perm x r).mem_iff.mp hz) with e | e
      · rw [e]; unfold leP; omega
      · exact hy z e
    · rename_i c
      have c : ¬ (y.1 < x.1 ∨ (y.1 = x.1 ∧ y.2 < x.2)) := fun q => c (lexP_iff.mpr q)
      refine List.pairwise_cons.mpr ⟨fun z hz => ?_, h⟩
      rcases List.mem_cons.mp hz with e | e
      · rw [e]; exact c
      · have := hy z e
        unfold leP at this ⊢
        omega
theorem sortP_perm : ∀ r : List (Int × Int), (sortP r).Perm r
  | [] => .rfl
  | x :: r => (insP_perm x (sortP r)).trans ((sortP_perm r).cons x)
theorem sortP_sorted : ∀ r : List (Int × Int), (sortP r).Pairwise leP
  | [] => .nil
  | x :: r => insP_sorted x (sortP_sorted r)
theorem sortedP_one : ∀ {a b : List (Int × Int)}, a.Perm b → a.Pairwise leP → b.Pairwise leP → a = b
  | [], b, p, _, _ => (List.nil_perm.mp p).symm
  | x :: a, [], p, _, _ => absurd p.length_eq (by simp)
  | x :: a, y :: b, p, h, k => by
    have e : x = y := by
      have h1 : x ∈ y :: b := p.mem_iff.mp List.mem_cons_self
      have h2 : y ∈ x :: a := p.mem_iff.mpr List.mem_cons_self
      rcases List.mem_cons.mp h1 with e | e
      · exact e
      · rcases List.mem_cons.mp h2 with e2 | e2
        · exact e2.symm
        · have a1 := (List.pairwise_cons.mp k).1 x e
          have a2 := (List.pairwise_cons.mp h).1 y e2
          unfold leP at a1 a2
          exact Prod.ext (by omega) (by omega)
    subst e
    rw [sortedP_one (List.Perm.cons_inv p) (List.pairwise_cons.mp h).2 (List.pairwise_cons.mp k).2]
theorem cr_srtPairs {X : Cx} : CallR X (.builtin "sorted") (fun ws H Q => ∃ (a : Addr) (zs : List V) (key : V → Int × Int), ws = [V.ref a] ∧ SqL X.K H a zs ∧ (∀ z ∈ zs, ∃ t, z = V.ref t ∧ SqT X.K H t [.int (key z).1, .int (key z).2]) ∧
    ∀ os p, SrtO.Srtd (ltP key) os → SrtO.Stb (ltP key) os zs → H p = none → Q (.ref p) (upd H p (.lst os))) := by
  intro pins s σ H ws us Q inv rl hh
  obtain ⟨a, zs, key, rfl, hsq, hz, cont⟩ := hh
  obtain ⟨items, rel, hpl, hlen⟩ := inv.list hsq
  obtain ⟨u0, rfl, ru0⟩ := vals1 rl
  obtain rfl : u0 = Value.ref a := ru0
  obtain ⟨b1, b2⟩ := refs_back rel fun z m => by
    obtain ⟨t, ez, _⟩ := hz z m
    exact ⟨t, ez⟩
  refine SrtO.sorted_pairsO (k := fun u => key (backV u)) hpl.isList (by rw [← rel.length]; exact hlen) (fun v mv => ?_) fun heap2 d outs h1 h2 keep hd hnew => ?_
  · obtain ⟨t, rfl⟩ := b2 v mv
    have inz : V.ref t ∈ zs := by rw [b1]; exact List.mem_map.mpr ⟨_, mv, rfl⟩
    obtain ⟨t', ez, hT⟩ := hz _ inz
    cases ez
    obtain ⟨its2, r2, ⟨ob, h3, h4, n, h5⟩, _⟩ := inv.tuple hT
    obtain ⟨u1, u2, rfl, ri, rj⟩ := vals2 r2
    obtain ⟨t1, rfl⟩ := ri
    obtain ⟨t2, rfl⟩ := rj
    exact ⟨t, ob, t1, t2, n, rfl, h3, h4, h5⟩
  · have refs : ∀ u ∈ outs, ∃ a, u = Value.ref a := fun u mu => b2 u (h2.perm.mem_iff.mp mu)
    obtain ⟨n, hn⟩ := hnew
    have stable : SrtO.Stb (ltP key) (outs.map backV) zs := by
      rw [b1]
      exact SrtO.Stb.map (ltP_swo key) backV h2
    refine ⟨.ref d, upd H d (.lst (outs.map backV)), inv.laid (t' := s.toks) keep hd ⟨?_, outs, n, vals_back refs, hn⟩, rfl, cont _ d (SrtO.srtd_map h1) stable (inv.hok.fresh hd)⟩
    rw [stable.len]
    exact hlen
theorem pairsD_eq : ∀ {es : List PyData} {ps : List (Int × Int)}, pairsD es = some ps → es = ps.map fun p => .tuple [.int p.1, .int p.2]
  | [], ps, h => by cases h; rfl
  | d :: r, ps, h => by
    unfold pairsD at h
    split at h
    · rename_i e; cases e
    · rename_i i j r' e
      cases e
      obtain ⟨q, hq, rfl⟩ := Option.map_eq_some_iff.mp h
      rw [pairsD_eq hq]; rfl
    · cases h
theorem rep_pair {K : PySem.W.Frag} {F : Hp} {i j : Int} {v : V} (h : Rep K F (.tuple [.int i, .int j]) v) : ∃ t, v = .ref t ∧ SqT K F t [.int i, .int j] := by
  cases h with
  | tup hs hr =>
    cases hr with
    | cons h1 h2 =>
      cases h1
      cases h2 with
      | cons h3 h4 => cases h3; cases h4; exact ⟨_, rfl, hs⟩
open Classical in
noncomputable def keyP (K : PySem.W.Frag) (F : Hp) (v : V) : Int × Int := if h : ∃ p : Int × Int, ∃ t, v = .ref t ∧ SqT K F t [.int p.1, .int p.2] then h.choose else (0, 0)
theorem keyP_ok {K : PySem.W.Frag} {F : Hp} {v : V} (h : ∃ p : Int × Int, ∃ t, v = .ref t ∧ SqT K F t [.int p.1, .int p.2]) : ∃ t, v = .ref t ∧ SqT K F t [.int (keyP K F v).1, .int (keyP K F v).2] := by
  unfold keyP
  rw [dif_pos h]
  exact h.choose_spec
theorem rep_keys {X : Cx} {pins : List (Addr × Obj)} {σ : L2.St} {H F : Hp} {s : Shared} (I : L2.Inv X pins σ H s) (fh : FLe F H) : ∀ {ps : List (Int × Int)} {vs : List V}, RepAll X.K F (ps.map fun p => .tuple [.int p.1, .int p.2]) vs → vs.map (keyP X.K F) = ps ∧ ∀ v ∈ vs, ∃ t, v = .ref t ∧ SqT X.K F t [.int (keyP X.K F v).1, .int (keyP X.K F v).2]
  | [], vs, h => by cases h; exact ⟨rfl, fun v hv => by cases hv⟩
  | p :: ps, vs, h => by
    cases h with
    | @cons _ v _ vs h1 h2 =>
      obtain ⟨i1, i2⟩ := rep_keys I fh h2
      obtain ⟨t, rfl, ht⟩ := rep_pair h1
      have hk := keyP_ok (K := X.K) (F := F) (v := .ref t) ⟨p, t, rfl, ht⟩
      obtain ⟨t', e, hk'⟩ := hk
      cases e
      have := I.tuple_inj (SqT.mo fh ht) (SqT.mo fh hk')
      have e1 : p.1 = (keyP X.K F (.ref t)).1 := by injection this with a b; injection a
      have e2 : p.2 = (keyP X.K F (.ref t)).2 := by injection this with a b; injection b with b c; injection b
      refine ⟨by rw [List.map_cons, i1]; congr 1; exact Prod.ext e1.symm e2.symm, fun v hv => ?_⟩
      rcases List.mem_cons.mp hv with rfl | hv
      · exact ⟨t, rfl, hk'⟩
      · exact i2 v hv
theorem keys_rep {K : PySem.W.Frag} {F : Hp} : ∀ {vs : List V}, (∀ v ∈ vs, ∃ t, v = .ref t ∧ SqT K F t [.int (keyP K F v).1, .int (keyP K F v).2]) → RepAll K F ((vs.map (keyP K F)).map fun p => .tuple [.int p.1, .int p.2]) vs
  | [], _ => .nil
  | v :: vs, h => by
    obtain ⟨t, e, ht⟩ := h v List.mem_cons_self
    refine .cons ?_ (keys_rep fun u hu => h u (List.mem_cons_of_mem _ hu))
    subst e
    exact .tup ht (.cons (.int _) (.cons (.int _) .nil))
def biV : Bi → Value
  | .len => .builtin "len" | .abs => .builtin "abs" | .tuple => .type "tuple" | .list => .type "list" | .sum => .builtin "sum" | .all => .builtin "all" | .any => .builtin "any"
  | .min => .builtin "min" | .max => .builtin "max" | .min2 => .builtin "min" | .max2 => .builtin "max" | .int => .type "int" | .sorted => .builtin "sorted"
def rBi (K : PySem.W.Frag) (f : List PyData → Option PyData) : List V → Hp → VK → Prop := fun vs H Q => ∃ F ds z, FLe F H ∧ RepAll K F ds vs ∧ f ds = some z ∧ Res K F H z Q
theorem ob_bi (hc : X.calm = true) (f : Bi) : CallR X (biV f) (rBi X.K (biD f)) := by
  intro pins s σ H vs us Q I r h
  obtain ⟨F, ds, z, fh, rs, hz, q⟩ := h
  cases rs with
  | nil => cases f <;> cases hz
  | @cons d v ds vs a t =>
    cases t with
    | nil =>
      cases f with
      | len =>
        cases a with
        | lst s1 r1 => cases hz; exact call_len_seq pins s σ H _ us Q I r ⟨_, _, rfl, .inl (.inl (Rd.mo fh s1)), by rw [← r1.length]; exact q.now fh (.int _)⟩
        | tup s1 r1 => cases hz; exact call_len_seq pins s σ H _ us Q I r ⟨_, _, rfl, .inr (SqT.mo fh s1), by rw [← r1.length]; exact q.now fh (.int _)⟩
        | _ => cases hz
      | abs =>
        cases a with
        | int i => cases hz; exact call_abs pins s σ H _ us Q I r ⟨i, rfl, q.now fh (.int _)⟩
        | _ => cases hz
      | tuple =>
        cases a with
        | lst s1 r1 => cases hz; exact call_tuple_of pins s σ H _ us Q I r ⟨_, _, rfl, .inl ⟨.inl (Rd.mo fh s1), q.tup fh r1⟩⟩
        | tup s1 r1 => cases hz; exact call_tuple_of pins s σ H _ us Q I r ⟨_, _, rfl, .inr ⟨SqT.mo fh s1, q.now fh (.tup s1 r1)⟩⟩
        | _ => cases hz
      | list =>
        cases a with
        | lst s1 r1 => cases hz; exact call_list_of pins s σ H _ us Q I r ⟨_, _, rfl, .inl (.inl (Rd.mo fh s1)), q.lst fh r1⟩
        | tup s1 r1 => cases hz; exact call_list_of pins s σ H _ us Q I r ⟨_, _, rfl, .inr (SqT.mo fh s1), q.lst fh r1⟩
        | _ => cases hz
      | sum =>
        cases a with
        | @lst p xs es s1 r1 =>
          cases e : intsD es with
          | none => rw [biD, e] at hz; cases hz
          | some ns => rw [biD, e] at hz; cases hz; exact cr_sum hc pins s σ H _ us Q I r ⟨_, ns, rfl, .inl (by rw [← r1.ints e]; exact Rd.mo fh s1), q.now fh (.int _)⟩
        | _ => cases hz
      | all =>
        cases a with
        | @lst p xs es s1 r1 =>
          cases e : boolsD es with
          | none => rw [biD, e] at hz; cases hz
          | some ns => rw [biD, e] at hz; cases hz; exact cr_all hc pins s σ H _ us Q I r ⟨_, ns, rfl, .inl (by rw [← r1.bools e]; exact Rd.mo fh s1), q.now fh (.bl _)⟩
        | _ => cases hz
      | any =>
        cases a with
        | @lst p xs es s1 r1 =>
          cases e : boolsD es with
          | none => rw [biD, e] at hz; cases hz
          | some ns => rw [biD, e] at hz; cases hz; exact cr_any hc pins s σ H _ us Q I r ⟨_, ns, rfl, .inl (by rw [← r1.bools e]; exact Rd.mo fh s1), q.now fh (.bl _)⟩
        | _ => cases hz
      | min =>
        cases a with
        | @lst p xs es s1 r1 =>
          cases e : intsD es with
          | none => rw [biD, e] at hz; cases hz
          | some ns =>
            cases ns with
            | nil => rw [biD, e] at hz; cases hz
            | cons n ns =>
              rw [biD, e] at hz
              cases hz
              obtain ⟨h1, h2, h3⟩ := leastI_le ns n
              refine cr_min hc pins s σ H _ us Q I r ⟨_, n :: ns, rfl, .inl (by rw [← r1.ints e]; exact Rd.mo fh s1), Nat.succ_pos _, fun m hm hl => ?_⟩
              have e2 : m = leastI n ns := by
                have a1 : m ≤ leastI n ns := by
                  rcases h2 with e | e
                  · rw [e]; exact hl n List.mem_cons_self
                  · exact hl _ (List.mem_cons_of_mem _ e)
                have a2 : leastI n ns ≤ m := by
                  rcases List.mem_cons.mp hm with e | e
                  · rw [e]; exact h1
                  · exact h3 m e
                omega
              rw [e2]
              exact q.now fh (.int _)
        | _ => cases hz
      | max =>
        cases a with
        | @lst p xs es s1 r1 =>
          cases e : intsD es with
          | none => rw [biD, e] at hz; cases hz
          | some ns =>
            cases ns with
            | nil => rw [biD, e] at hz; cases hz
            | cons n ns =>
              rw [biD, e] at hz
              cases hz
              obtain ⟨h1, h2, h3⟩ := mostI_ge ns n
              refine cr_max hc pins s σ H _ us Q I r ⟨_, n :: ns, rfl, .inl (by rw [← r1.ints e]; exact Rd.mo fh s1), Nat.succ_pos _, fun m hm hl => ?_⟩
              have e2 : m = mostI n ns := by
                have a1 : mostI n ns ≤ m := by
                  rcases h2 with e | e
                  · rw [e]; exact hl n List.mem_cons_self
                  · exact hl _ (List.mem_cons_of_mem _ e)
                have a2 : m ≤ mostI n ns := by
                  rcases List.mem_cons.mp hm with e | e
                  · rw [e]; exact h1
                  · exact h3 m e
                omega
              rw [e2]
              exact q.now fh (.int _)
        | _ => cases hz
      | min2 => cases a <;> cases hz
      | max2 => cases a <;> cases hz
      | int =>
        cases a with
        | int i => cases hz; exact call_int1 pins s σ H _ us Q I r (.inl ⟨i, rfl, q.now fh (.int _)⟩)
        | bl b => cases hz; exact call_int1 pins s σ H _ us Q I r (.inr ⟨b, rfl, q.now fh (.int _)⟩)
        | _ => cases hz
      | sorted =>
        cases a with
        | @lst p xs es s1 r1 =>
          have hz : (sortD es).map PyData.list = some z := hz
          unfold sortD at hz
          cases e : intsD es with
          | none =>
            rw [e] at hz
            cases e2 : pairsD es with
            | none => rw [e2] at hz; cases hz
            | some ps =>
              rw [e2] at hz
              cases hz
              have ee := pairsD_eq e2
              subst ee
              obtain ⟨k1, k2⟩ := rep_keys I fh r1
              refine cr_srtPairs pins s σ H _ us Q I r ⟨_, xs, keyP X.K F, rfl, .inl (Rd.mo fh s1), fun v hv => ?_, fun ys p hs hb hn => ?_⟩
              · obtain ⟨t, e, ht⟩ := k2 v hv
                exact ⟨t, e, SqT.mo fh ht⟩
              · have hk := keys_rep fun v hv => k2 v (hb.perm.mem_iff.mp hv)
                have hp : (ys.map (keyP X.K F)).Perm (sortP ps) := by
                  have := hb.perm.map (keyP X.K F)
                  rw [k1] at this
                  exact this.trans (sortP_perm ps).symm
                have hsr : (ys.map (keyP X.K F)).Pairwise leP := by
                  refine List.pairwise_map.mpr (hs.imp fun {x y} h => ?_)
                  exact SrtO.lexB_no.mp h
                have := sortedP_one hp hsr (sortP_sorted ps)
                rw [this] at hk
                exact q.lst fh hk p hn
          | some ns =>
            rw [e] at hz
            cases hz
            refine cr_sortedI pins s σ H _ us Q I r ⟨_, ns, rfl, .inl (by rw [← r1.ints e]; exact Rd.mo fh s1), fun ns' p hp hs hn => ?_⟩
            rw [sorted_one (hp.trans (sortI_perm ns).symm) hs (sortI_sorted ns)]
            exact q.lst fh (RepAll.ofInts _) p hn
        | _ => cases hz
    | @cons e w ds vs b t =>
      cases t with
      | nil =>
        cases f with
        | min2 =>
          cases a with
          | int i => cases b with
                     | int j => cases hz; exact call_min2 hc pins s σ H _ us Q I r ⟨i, j, rfl, q.now fh (.int _)⟩
                     | _ => cases hz
          | _ => cases b <;> cases hz
        | max2 =>
          cases a with
          | int i => cases b with
                     | int j => cases hz; exact call_max2 hc pins s σ H _ us Q I r ⟨i, j, rfl, q.now fh (.int _)⟩
                     | _ => cases hz
          | _ => cases b <;> cases hz
        | _ => simp [biD] at hz
      | cons c t => cases f <;> simp [biD] at hz
end
end HM

namespace HM
open PySem PySem.Spec PyProof.Rows L2

/-! ### what is wanted behind an expression -/
abbrev XRT := Hp → Xn → Value → Option Addr → Hp → Prop
/-- what stays around an expression: the written part, what others hold, the address of the list that was handed in to be changed, the wish of exceptions, how they lie -/
structure Wd where
  K : PySem.W.Frag
  G : Hp
  pa : Addr
  W : WX
  XR : XRT
abbrev Wd.sim (w : Wd) (F H : Hp) (ρ : Env) (σ : L2.St) : Prop := Sim w.K w.G w.pa F H ρ σ
def PostX (w : Wd) (F : Hp) (σ : L2.St) (x : Xn) (ρ : Env) : Prop := ∀ F' H' cls dd, FLe F F' → w.sim F' H' ρ σ → w.XR F' x cls dd H' → w.W cls dd σ H'
def PostE (w : Wd) (F : Hp) (σ : L2.St) (Q : VK) : R PyData → Prop
  | .ok d ρ => ∀ F' H' v, FLe F F' → w.sim F' H' ρ σ → Rep w.K F' d v → Q v H'
  | .exc x ρ => PostX w F σ x ρ
  | .bad => False
def PostA (w : Wd) (F : Hp) (σ : L2.St) (Q : List V → Hp → Prop) : R PyData → Prop
  | .ok d ρ => ∀ F' H' vs, FLe F F' → w.sim F' H' ρ σ → RepAll w.K F' (tupOf d) vs → Q vs H'
  | .exc x ρ => PostX w F σ x ρ
  | .bad => False
def PostT (w : Wd) (F : Hp) (σ : L2.St) (Q : Bool → Hp → Prop) : R PyData → Prop
  | .ok (.bool b) ρ => ∀ F' H', FLe F F' → w.sim F' H' ρ σ → Q b H'
  | .exc x ρ => PostX w F σ x ρ
  | _ => False
theorem PostX.up {w : Wd} {F F1 : Hp} {σ : L2.St} {x : Xn} {ρ : Env} (h : PostX w F σ x ρ) (l : FLe F F1) : PostX w F1 σ x ρ := fun F' H' c d l' => h F' H' c d (l.tr l')
theorem PostE.up {w : Wd} {F F1 : Hp} {σ : L2.St} {Q : VK} {r : R PyData} (h : PostE w F σ Q r) (l : FLe F F1) : PostE w F1 σ Q r := by
  cases r with
  | ok d ρ => exact fun F' H' v l' => h F' H' v (l.tr l')
  | exc x ρ => exact PostX.up h l
  | bad => exact h
theorem PostA.up {w : Wd} {F F1 : Hp} {σ : L2.St} {Q : List V → Hp → Prop} {r : R PyData} (h : PostA w F σ Q r) (l : FLe F F1) : PostA w F1 σ Q r := by
  cases r with
  | ok d ρ => exact fun F' H' v l' => h F' H' v (l.tr l')
  | exc x ρ => exact PostX.up h l
  | bad => exact h
theorem PostT.up {w : Wd} {F F1 : Hp} {σ : L2.St} {Q : Bool → Hp → Prop} {r : R PyData} (h : PostT w F σ Q r) (l : FLe F F1) : PostT w F1 σ Q r := by
  cases r with
  | ok d ρ => cases d with
    | bool b => exact fun F' H' l' => h F' H' (l.tr l')
    | _ => exact h
  | exc x ρ => exact PostX.up h l
  | bad => exact h
theorem PostE.mono {w : Wd} {F : Hp} {σ : L2.St} {Q Q' : VK} {r : R PyData} (h : PostE w F σ Q r) (f : ∀ v H, Q v H → Q' v H) : PostE w F σ Q' r := by
  cases r with
  | ok d ρ => exact fun F' H' v l S q => f _ _ (h F' H' v l S q)
  | exc x ρ => exact h
  | bad => exact h
theorem PostA.mono {w : Wd} {F : Hp} {σ : L2.St} {Q Q' : List V → Hp → Prop} {r : R PyData} (h : PostA w F σ Q r) (f : ∀ v H, Q v H → Q' v H) : PostA w F σ Q' r := by
  cases r with
  | ok d ρ => exact fun F' H' v l S q => f _ _ (h F' H' v l S q)
  | exc x ρ => exact h
  | bad => exact h
theorem PostT.mono {w : Wd} {F : Hp} {σ : L2.St} {Q Q' : Bool → Hp → Prop} {r : R PyData} (h : PostT w F σ Q r) (f : ∀ v H, Q v H → Q' v H) : PostT w F σ Q' r := by
  cases r with
  | ok d ρ => cases d with
    | bool b => exact fun F' H' l S => f _ _ (h F' H' l S)
    | _ => exact h
  | exc x ρ => exact h
  | bad => exact h
/-- a value has come -/
def Got (w : Wd) (F : Hp) (σ : L2.St) (v : V) (H : Hp) (k : PyData → Env → Hp → Prop) : Prop := ∃ d ρ F1, FLe F F1 ∧ w.sim F1 H ρ σ ∧ Rep w.K F1 d v ∧ k d ρ F1
theorem PostE.bind {w : Wd} {F : Hp} {σ : L2.St} {Q : VK} {r : R PyData} {f : PyData → Env → R PyData} (h : PostE w F σ Q (r.bind f)) : PostE w F σ (fun v H1 => Got w F σ v H1 fun d ρ F1 => PostE w F1 σ Q (f d ρ)) r := by
  cases r with
  | ok d ρ => exact fun F' H' v l S q => ⟨d, ρ, F', l, S, q, PostE.up h l⟩
  | exc x ρ => exact h
  | bad => exact h
theorem PostE.bindA {w : Wd} {F : Hp} {σ : L2.St} {Q : List V → Hp → Prop} {r : R PyData} {f : PyData → Env → R PyData} (h : PostA w F σ Q (r.bind f)) : PostE w F σ (fun v H1 => Got w F σ v H1 fun d ρ F1 => PostA w F1 σ Q (f d ρ)) r := by
  cases r with
  | ok d ρ => exact fun F' H' v l S q => ⟨d, ρ, F', l, S, q, PostA.up h l⟩
  | exc x ρ => exact h
  | bad => exact h
theorem PostE.bindT {w : Wd} {F : Hp} {σ : L2.St} {Q : Bool → Hp → Prop} {r : R PyData} {f : PyData → Env → R PyData} (h : PostT w F σ Q (r.bind f)) : PostE w F σ (fun v H1 => Got w F σ v H1 fun d ρ F1 => PostT w F1 σ Q (f d ρ)) r := by
  cases r with
  | ok d ρ => exact fun F' H' v l S q => ⟨d, ρ, F', l, S, q, PostT.up h l⟩
  | exc x ρ => exact h
  | bad => exact h
/-- arguments have come -/
def GotA (w : Wd) (F : Hp) (σ : L2.St) (vs : List V) (H : Hp) (k : PyData → Env → Hp → Prop) : Prop := ∃ d ρ F1, FLe F F1 ∧ w.sim F1 H ρ σ ∧ RepAll w.K F1 (tupOf d) vs ∧ k d ρ F1
theorem PostA.bind {w : Wd} {F : Hp} {σ : L2.St} {Q : VK} {r : R PyData} {f : PyData → Env → R PyData} (h : PostE w F σ Q (r.bind f)) : PostA w F σ (fun vs H1 => GotA w F σ vs H1 fun d ρ F1 => PostE w F1 σ Q (f d ρ)) r := by
  cases r with
  | ok d ρ => exact fun F' H' v l S q => ⟨d, ρ, F', l, S, q, PostE.up h l⟩
  | exc x ρ => exact h
  | bad => exact h
theorem PostA.bindA {w : Wd} {F : Hp} {σ : L2.St} {Q : List V → Hp → Prop} {r : R PyData} {f : PyData → Env → R PyData} (h : PostA w F σ Q (r.bind f)) : PostA w F σ (fun vs H1 => GotA w F σ vs H1 fun d ρ F1 => PostA w F1 σ Q (f d ρ)) r := by
  cases r with
  | ok d ρ => exact fun F' H' v l S q => ⟨d, ρ, F', l, S, q, PostA.up h l⟩
  | exc x ρ => exact h
  | bad => exact h
theorem PostT.bind {w : Wd} {F : Hp} {σ : L2.St} {Q : VK} {r : R PyData} {f : PyData → Env → R PyData} (h : PostE w F σ Q (r.bind f)) (hf : ∀ d ρ, f d ρ ≠ .bad → ∃ b, d = .bool b) : PostT w F σ (fun b H1 => ∃ ρ F1, FLe F F1 ∧ w.sim F1 H1 ρ σ ∧ PostE w F1 σ Q (f (.bool b) ρ)) r := by
  cases r with
  | ok d ρ =>
    have nb : f d ρ ≠ .bad := fun z => by
      have h' : PostE w F σ Q (f d ρ) := h
      rw [z] at h'; exact h'
    obtain ⟨b, rfl⟩ := hf d ρ nb
    exact fun F' H' l S => ⟨ρ, F', l, S, PostE.up h l⟩
  | exc x ρ => exact h
  | bad => exact h
theorem PostT.bindT {w : Wd} {F : Hp} {σ : L2.St} {Q : Bool → Hp → Prop} {r : R PyData} {f : PyData → Env → R PyData} (h : PostT w F σ Q (r.bind f)) (hf : ∀ d ρ, f d ρ ≠ .bad → ∃ b, d = .bool b) : PostT w F σ (fun b H1 => ∃ ρ F1, FLe F F1 ∧ w.sim F1 H1 ρ σ ∧ PostT w F1 σ Q (f (.bool b) ρ)) r := by
  cases r with
  | ok d ρ =>
    have nb : f d ρ ≠ .bad := fun z => by
      have h' : PostT w F σ Q (f d ρ) := h
      rw [z] at h'; exact h'
    obtain ⟨b, rfl⟩ := hf d ρ nb
    exact fun F' H' l S => ⟨ρ, F', l, S, PostT.up h l⟩
  | exc x ρ => exact h
  | bad => exact h
/-- an operator's answer -/
theorem PostE.of {w : Wd} {F H : Hp} {σ : L2.St} {Q : VK} {o : Option PyData} {ρ : Env} (h : PostE w F σ Q (.of o ρ)) (S : w.sim F H ρ σ) : ∃ z, o = some z ∧ Res w.K F H z Q := by
  cases o with
  | none => exact False.elim h
  | some z => exact ⟨z, rfl, fun F' H' v E r => h F' H' v E.ff (S.ext E) r⟩

section
variable (Φ : Fns) (w : Wd)
def tE (c : E) : TE := fun σ H Q => ∃ ρ F, w.sim F H ρ σ ∧ PostE w F σ Q (evE Φ c ρ)
def tA (c : E) : TA := fun σ H Q => ∃ ρ F, w.sim F H ρ σ ∧ PostA w F σ Q (evE Φ c ρ)
def tT (c : E) : TT := fun σ H Q => ∃ ρ F, w.sim F H ρ σ ∧ PostT w F σ Q (evE Φ c ρ)
end
/-- a rule with a weaker reading -/
theorem _root_.L2.PE.via {X : Cx} {e : Expr} {t t' : TE} (h : PE X e t) (f : ∀ σ H Q, t' σ H Q → t σ H Q) : PE X e t' := ⟨fun pins s σ H Q I q => h.run pins s σ H Q I (f σ H Q q)⟩
theorem _root_.L2.PT.via {X : Cx} {e : Expr} {t t' : TT} (h : PT X e t) (f : ∀ σ H Q, t' σ H Q → t σ H Q) : PT X e t' := ⟨fun pins s σ H Q I q => h.run pins s σ H Q I (f σ H Q q)⟩
theorem _root_.L2.PW.via {X : Cx} {e : Expr} {t t' : TT} (h : PW X e t) (f : ∀ σ H Q, t' σ H Q → t σ H Q) : PW X e t' := ⟨fun wh pins s σ H Q I q => h.run wh pins s σ H Q I (f σ H Q q)⟩
theorem _root_.L2.PA.via {X : Cx} {e : List Expr} {t t' : TA} (h : PA X e t) (f : ∀ σ H Q, t' σ H Q → t σ H Q) : PA X e t' := ⟨fun p pins s σ H Q I q => h.run p pins s σ H Q I (f σ H Q q)⟩

section
variable {X : Cx} {Φ : Fns} {w : Wd} {pos : Pos} {a b c e : Expr} {es : List Expr} {ca cb cc : E}
theorem getS_some {ρ : Env} {i : Nat} {s : Slot} (h : getS ρ i = s) (n : s ≠ .un) : ρ[i]? = some s := by
  unfold getS at h
  rw [List.getD_eq_getElem?_getD] at h
  cases q : ρ[i]? with
  | none => rw [q] at h; exact absurd h.symm n
  | some t => rw [q] at h; exact congrArg some h
theorem sE_var {i : Nat} {x : Str} (hN : X.N[i]? = some x) (hv : Vis X.env.scope x) (hd : (x == ("__debug__" : Str)) = false) (hc : (x == ("__classdict__" : Str)) = false) : PE X (.Name x pos) (tE Φ w (.var i)) :=
  (pe_var hN hv hd hc).via fun σ H Q ⟨ρ, F, S, p⟩ => by
    have p : PostE w F σ Q (rdVar ρ i) := p
    unfold rdVar at p
    split at p
    · rename_i d e
      obtain ⟨v, e1, r⟩ := S.slot i _ (getS_some e (by intro z; cases z))
      exact ⟨v, e1, p F H v FLe.rf S r⟩
    · rename_i ds e
      obtain ⟨a, xs, e1, le, r, S'⟩ := S.freeze (getS_some e (by intro z; cases z))
      exact ⟨.ref a, e1, p _ H _ le S' (.lst (.inl upd_same) (r.mo le))⟩
    · exact p.elim
theorem sE_non {j : Nat} : PE X (.Constant .none j pos) (tE Φ w .non) := pe_non.via fun σ H Q ⟨ρ, F, S, p⟩ => p F H _ FLe.rf S .non
theorem sE_bl {j : Nat} {b : Bool} : PE X (.Constant (.bool b) j pos) (tE Φ w (.bl b)) := pe_bl.via fun σ H Q ⟨ρ, F, S, p⟩ => p F H _ FLe.rf S (.bl b)
theorem sE_int {j : Nat} {z : Int} : PE X (.Constant (.int z) j pos) (tE Φ w (.int z)) := pe_int.via fun σ H Q ⟨ρ, F, S, p⟩ => p F H _ FLe.rf S (.int z)
theorem sE_str {j : Nat} {z : Str} : PE X (.Constant (.str z) j pos) (tE Φ w (.str z)) := pe_str.via fun σ H Q ⟨ρ, F, S, p⟩ => p F H _ FLe.rf S (.str z)
theorem sE_gint {x : Str} {z : Int} (hg : Gl X x) (hm : ∃ t, X.mg x = some (.int z t)) (hd : (x == ("__debug__" : Str)) = false) : PE X (.Name x pos) (tE Φ w (.gint x z)) := by
  obtain ⟨t, hm⟩ := hm
  exact (pe_glob (v := .int z) hg hm ⟨t, rfl⟩ hd).via fun σ H Q ⟨ρ, F, S, p⟩ => p F H _ FLe.rf S (.int z)
theorem sE_bin (hK : X.K = w.K) (o : Op2) (ha : PE X a (tE Φ w ca)) (hb : PE X b (tE Φ w cb)) : PE X (.BinOp a (op2 o) b pos) (tE Φ w (.bin o ca cb)) :=
  (pe_op (ob_bin o) ha hb).via fun σ H Q ⟨ρ, F, S, p⟩ => ⟨ρ, F, S, by
    have p := PostE.bind p
    refine PostE.mono p fun v H1 ⟨d, ρ1, F1, l1, S1, r1, p1⟩ => ⟨ρ1, F1, S1, ?_⟩
    refine PostE.mono (PostE.bind p1) fun v2 H2 ⟨d2, ρ2, F2, l2, S2, r2, p2⟩ => ?_
    obtain ⟨z, e, q⟩ := PostE.of p2 S2
    rw [hK]
    exact ⟨F2, d, d2, z, S2.fh, r1.mo l2, r2, e, q⟩⟩
theorem sE_neg (ha : PE X a (tE Φ w ca)) : PE X (.UnaryOp .USub a pos) (tE Φ w (.neg ca)) :=
  (pe_un un_neg ha).via fun σ H Q ⟨ρ, F, S, p⟩ => ⟨ρ, F, S, PostE.mono (PostE.bind p) fun v H1 ⟨d, ρ1, F1, l1, S1, r1, p1⟩ => by
    cases r1 with
    | int i => exact ⟨i, rfl, p1 F1 H1 _ FLe.rf S1 (.int _)⟩
    | _ => exact p1.elim⟩
theorem cmp_got {o : Cm} (hK : X.K = w.K) {σ : L2.St} {Q : Bool → Hp → Prop} {F : Hp} {H1 : Hp} {x : V} {ρ1 : Env} {d : PyData} (r1 : Rep w.K F d x) {q : R PyData → Prop}
    {v2 : V} {H2 F2 : Hp} {d2 : PyData} (l2 : FLe F F2) (fh : FLe F2 H2) (r2 : Rep w.K F2 d2 v2) {z : Bool} (e : cmpD o d d2 = some z) (hq : Q z H2) : rCm X.K (cmpD o) x v2 H2 (fun y H => ∃ c, y = .bl c ∧ Q c H) := by
  rw [hK]
  exact ⟨F2, d, d2, z, fh, r1.mo l2, r2, e, z, rfl, hq⟩
theorem sE_cmp (hK : X.K = w.K) (hu : X.A.units + 70 < cLine) (o : Cm) (ha : PE X a (tE Φ w ca)) (hb : PE X b (tE Φ w cb)) (hm : behindInMarks (cm o) b = false) : PE X (.Compare a [cm o] [b] pos) (tE Φ w (.cmp o ca cb)) :=
  (pe_cmpR (ob_cmp hu o) ha hb hm).via fun σ H Q ⟨ρ, F, S, p⟩ => ⟨ρ, F, S, by
    refine PostE.mono (PostE.bind p) fun v H1 ⟨d, ρ1, F1, l1, S1, r1, p1⟩ => ⟨ρ1, F1, S1, ?_⟩
    refine PostE.mono (PostE.bind p1) fun v2 H2 ⟨d2, ρ2, F2, l2, S2, r2, p2⟩ => ?_
    obtain ⟨z, e, q⟩ := PostE.of p2 S2
    try dsimp only at p2
    cases q0 : cmpD o d d2 with
    | none => rw [q0] at e; cases e
    | some b =>
      rw [q0] at e
      cases e
      rw [hK]
      exact ⟨F2, d, d2, b, S2.fh, r1.mo l2, r2, q0, q.now S2.fh (.bl _)⟩⟩
theorem sT_cmp (hK : X.K = w.K) (hu : X.A.units + 70 < cLine) (o : Cm) (ha : PE X a (tE Φ w ca)) (hb : PE X b (tE Φ w cb)) (hm : behindInMarks (cm o) b = false) : PT X (.Compare a [cm o] [b] pos) (tT Φ w (.cmp o ca cb)) :=
  (pt_cmpR (ob_cmp hu o) ha hb hm).via fun σ H Q ⟨ρ, F, S, p⟩ => ⟨ρ, F, S, by
    refine PostE.mono (PostE.bindT p) fun v H1 ⟨d, ρ1, F1, l1, S1, r1, p1⟩ => ⟨ρ1, F1, S1, ?_⟩
    refine PostE.mono (PostE.bindT p1) fun v2 H2 ⟨d2, ρ2, F2, l2, S2, r2, p2⟩ => ?_
    try dsimp only at p2
    cases q0 : cmpD o d d2 with
    | none => rw [q0] at p2; exact p2.elim
    | some b =>
      rw [q0] at p2
      rw [hK]
      exact ⟨F2, d, d2, b, S2.fh, r1.mo l2, r2, q0, b, rfl, p2 F2 H2 FLe.rf S2⟩⟩
theorem sE_chain (hK : X.K = w.K) (hu : X.A.units + 70 < cLine) (o o' : Cm) (ha : PE X a (tE Φ w ca)) (hb : PE X b (tE Φ w cb)) (hc : PE X c (tE Φ w cc)) (hm : lastMarks [cm o, cm o'] [b, c] = false) :
    PE X (.Compare a [cm o, cm o'] [b, c] pos) (tE Φ w (.chain o o' ca cb cc)) :=
  (pe_chain (ob_cmp hu o) (ob_cmp hu o') ha hb hc hm).via fun σ H Q ⟨ρ, F, S, p⟩ => ⟨ρ, F, S, by
    refine PostE.mono (PostE.bind p) fun v H1 ⟨d, ρ1, F1, l1, S1, r1, p1⟩ => ⟨ρ1, F1, S1, ?_⟩
    refine PostE.mono (PostE.bind p1) fun v2 H2 ⟨d2, ρ2, F2, l2, S2, r2, p2⟩ => ?_
    rw [hK]
    try dsimp only at p2
    cases q0 : cmpD o d d2 with
    | none => rw [q0] at p2; exact p2.elim
    | some b =>
      rw [q0] at p2
      refine ⟨F2, d, d2, b, S2.fh, r1.mo l2, r2, q0, b, rfl, ?_⟩
      cases b with
      | false => exact p2 F2 H2 _ FLe.rf S2 (.bl _)
      | true =>
        refine ⟨ρ2, F2, S2, PostE.mono (PostE.bind p2) fun v3 H3 ⟨d3, ρ3, F3, l3, S3, r3, p3⟩ => ?_⟩
        obtain ⟨z, e, q⟩ := PostE.of p3 S3
        try dsimp only at p3
        cases q1 : cmpD o' d2 d3 with
        | none => rw [q1] at e; cases e
        | some b =>
          rw [q1] at e
          cases e
          exact ⟨F3, d2, d3, b, S3.fh, r2.mo l3, r3, q1, q.now S3.fh (.bl _)⟩⟩
theorem sT_chain (hK : X.K = w.K) (hu : X.A.units + 70 < cLine) (o o' : Cm) (ha : PE X a (tE Φ w ca)) (hb : PE X b (tE Φ w cb)) (hc : PE X c (tE Φ w cc)) (hm : lastMarks [cm o, cm o'] [b, c] = false) :
    PT X (.Compare a [cm o, cm o'] [b, c] pos) (tT Φ w (.chain o o' ca cb cc)) :=
  (pt_chain (ob_cmp hu o) (ob_cmp hu o') ha hb hc hm).via fun σ H Q ⟨ρ, F, S, p⟩ => ⟨ρ, F, S, by
    refine PostE.mono (PostE.bindT p) fun v H1 ⟨d, ρ1, F1, l1, S1, r1, p1⟩ => ⟨ρ1, F1, S1, ?_⟩
    refine PostE.mono (PostE.bindT p1) fun v2 H2 ⟨d2, ρ2, F2, l2, S2, r2, p2⟩ => ?_
    rw [hK]
    try dsimp only at p2
    cases q0 : cmpD o d d2 with
    | none => rw [q0] at p2; exact p2.elim
    | some b =>
      rw [q0] at p2
      refine ⟨F2, d, d2, b, S2.fh, r1.mo l2, r2, q0, b, rfl, ?_⟩
      cases b with
      | false => exact ⟨false, rfl, p2 F2 H2 FLe.rf S2⟩
      | true =>
        refine ⟨ρ2, F2, S2, PostE.mono (PostE.bindT p2) fun v3 H3 ⟨d3, ρ3, F3, l3, S3, r3, p3⟩ => ?_⟩
        try dsimp only at p3
        cases q1 : cmpD o' d2 d3 with
        | none => rw [q1] at p3; exact p3.elim
        | some b =>
          rw [q1] at p3
          exact ⟨F3, d2, d3, b, S3.fh, r2.mo l3, r3, q1, b, rfl, p3 F3 H3 FLe.rf S3⟩⟩
theorem sE_not (ha : PE X a (tE Φ w ca)) : PE X (.UnaryOp .Not a pos) (tE Φ w (.not ca)) :=
  (pe_not ha).via fun σ H Q ⟨ρ, F, S, p⟩ => ⟨ρ, F, S, PostE.mono (PostE.bind p) fun v H1 ⟨d, ρ1, F1, l1, S1, r1, p1⟩ => by
    cases r1 with
    | bl i => exact ⟨i, rfl, p1 F1 H1 _ FLe.rf S1 (.bl _)⟩
    | _ => exact p1.elim⟩
theorem sE_and {rest : List Expr} (ha : PE X a (tE Φ w ca)) (hb : PE X (.BoolOp .And (b :: rest) pos) (tE Φ w cb)) : PE X (.BoolOp .And (a :: b :: rest) pos) (tE Φ w (.and ca cb)) :=
  (pe_and ha hb).via fun σ H Q ⟨ρ, F, S, p⟩ => ⟨ρ, F, S, PostE.mono (PostE.bind p) fun v H1 ⟨d, ρ1, F1, l1, S1, r1, p1⟩ => by
    cases r1 with
    | bl i => cases i with
              | true => exact ⟨true, rfl, ρ1, F1, S1, p1⟩
              | false => exact ⟨false, rfl, p1 F1 H1 _ FLe.rf S1 (.bl _)⟩
    | _ => exact p1.elim⟩
theorem sE_or {rest : List Expr} (ha : PE X a (tE Φ w ca)) (hb : PE X (.BoolOp .Or (b :: rest) pos) (tE Φ w cb)) : PE X (.BoolOp .Or (a :: b :: rest) pos) (tE Φ w (.or ca cb)) :=
  (pe_or ha hb).via fun σ H Q ⟨ρ, F, S, p⟩ => ⟨ρ, F, S, PostE.mono (PostE.bind p) fun v H1 ⟨d, ρ1, F1, l1, S1, r1, p1⟩ => by
    cases r1 with
    | bl i => cases i with
              | true => exact ⟨true, rfl, p1 F1 H1 _ FLe.rf S1 (.bl _)⟩
              | false => exact ⟨false, rfl, ρ1, F1, S1, p1⟩
    | _ => exact p1.elim⟩
theorem sT_not (ha : PT X a (tT Φ w ca)) : PT X (.UnaryOp .Not a pos) (tT Φ w (.not ca)) :=
  (pt_not ha).via fun σ H Q ⟨ρ, F, S, p⟩ => ⟨ρ, F, S, by
    have p : PostT w F σ Q ((evE Φ ca ρ).bind fun x ρ => match x with | .bool b => .ok (.bool (!b)) ρ | _ => .bad) := p
    refine PostT.mono (PostT.bindT p fun d ρ h => by cases d <;> first | exact ⟨_, rfl⟩ | exact absurd rfl h) fun b H1 ⟨ρ1, F1, l1, S1, p1⟩ => p1 F1 H1 FLe.rf S1⟩
theorem sT_and {rest : List Expr} (ha : PT X a (tT Φ w ca)) (hb : PW X (.BoolOp .And (b :: rest) pos) (tT Φ w cb)) : PW X (.BoolOp .And (a :: b :: rest) pos) (tT Φ w (.and ca cb)) :=
  (pw_and ha hb).via fun σ H Q ⟨ρ, F, S, p⟩ => ⟨ρ, F, S, by
    have p : PostT w F σ Q ((evE Φ ca ρ).bind fun x ρ => match x with | .bool true => evE Φ cb ρ | .bool false => .ok (.bool false) ρ | _ => .bad) := p
    refine PostT.mono (PostT.bindT p fun d ρ h => by cases d <;> first | exact ⟨_, rfl⟩ | exact absurd rfl h) fun b H1 ⟨ρ1, F1, l1, S1, p1⟩ => ?_
    cases b with
    | true => exact ⟨ρ1, F1, S1, p1⟩
    | false => exact p1 F1 H1 FLe.rf S1⟩
theorem sT_or {rest : List Expr} (ha : PT X a (tT Φ w ca)) (hb : PW X (.BoolOp .Or (b :: rest) pos) (tT Φ w cb)) : PW X (.BoolOp .Or (a :: b :: rest) pos) (tT Φ w (.or ca cb)) :=
  (pw_or ha hb).via fun σ H Q ⟨ρ, F, S, p⟩ => ⟨ρ, F, S, by
    have p : PostT w F σ Q ((evE Φ ca ρ).bind fun x ρ => match x with | .bool true => .ok (.bool true) ρ | .bool false => evE Φ cb ρ | _ => .bad) := p
    refine PostT.mono (PostT.bindT p fun d ρ h => by cases d <;> first | exact ⟨_, rfl⟩ | exact absurd rfl h) fun b H1 ⟨ρ1, F1, l1, S1, p1⟩ => ?_
    cases b with
    | true => exact p1 F1 H1 FLe.rf S1
    | false => exact ⟨ρ1, F1, S1, p1⟩⟩
/-- a value that is a truth, as a test -/
theorem sT_val (ha : PE X a (tE Φ w ca)) (he : ∀ whole, isTrue a X.env whole = (do let v ← whole; standAt a.pos; holding [v] (truthy v))) : PT X a (tT Φ w ca) :=
  (pt_val ha he).via fun σ H Q ⟨ρ, F, S, p⟩ => ⟨ρ, F, S, by
    have p : PostT w F σ Q (evE Φ ca ρ) := p
    cases q : evE Φ ca ρ with
    | bad => rw [q] at p; exact p
    | exc x ρ' => rw [q] at p; exact p
    | ok d ρ' =>
      rw [q] at p
      cases d with
      | bool b => exact fun F' H' v l S' r => by
                    cases r
                    exact ⟨b, rfl, p F' H' l S'⟩
      | _ => exact p.elim⟩
theorem sE_ite (hc : PT X c (tT Φ w cc)) (ha : PE X a (tE Φ w ca)) (hb : PE X b (tE Φ w cb)) : PE X (.IfExp c a b pos) (tE Φ w (.ite cc ca cb)) :=
  (pe_ifExp hc ha hb).via fun σ H Q ⟨ρ, F, S, p⟩ => ⟨ρ, F, S, by
    have p : PostE w F σ Q ((evE Φ cc ρ).bind fun x ρ => match x with | .bool true => evE Φ ca ρ | .bool false => evE Φ cb ρ | _ => .bad) := p
    refine PostT.mono (PostT.bind p fun d ρ h => by cases d <;> first | exact ⟨_, rfl⟩ | exact absurd rfl h) fun b H1 ⟨ρ1, F1, l1, S1, p1⟩ => ?_
    cases b with
    | true => exact ⟨ρ1, F1, S1, p1⟩
    | false => exact ⟨ρ1, F1, S1, p1⟩⟩
theorem sA_nil : PA X [] (tA Φ w .nil) := pa_nil.via fun σ H Q ⟨ρ, F, S, p⟩ => p F H [] FLe.rf S .nil
theorem sA_cons (ha : PE X a (tE Φ w ca)) (hb : PA X es (tA Φ w cb)) (hs : starEach (a :: es) X.env = (false, eval a X.env) :: starEach es X.env) : PA X (a :: es) (tA Φ w (.cons ca cb)) :=
  (pa_cons ha hb hs).via fun σ H Q ⟨ρ, F, S, p⟩ => ⟨ρ, F, S, by
    refine PostE.mono (PostE.bindA p) fun v H1 ⟨d, ρ1, F1, l1, S1, r1, p1⟩ => ⟨ρ1, F1, S1, ?_⟩
    refine PostA.mono (PostA.bindA p1) fun vs H2 ⟨d2, ρ2, F2, l2, S2, r2, p2⟩ => ?_
    exact p2 F2 H2 _ FLe.rf S2 (.cons (r1.mo l2) r2)⟩
theorem sE_tup {k : Nat} (h : PA X es (tA Φ w ca)) (hl : es.length ≤ SL) (hn : ∀ ρ d ρ', evE Φ ca ρ = .ok d ρ' → (tupOf d).length = es.length) : PE X (.Tuple es k pos) (tE Φ w (.tup ca)) :=
  (pe_tup h).via fun σ H Q ⟨ρ, F, S, p⟩ => ⟨ρ, F, S, by
    have p : PostE w F σ Q ((evE Φ ca ρ).bind fun x ρ => .ok (.tuple (tupOf x)) ρ) := p
    cases q : evE Φ ca ρ with
    | bad => rw [q] at p; exact p
    | exc x ρ' => rw [q] at p; exact p
    | ok d ρ' =>
      rw [q] at p
      have e := hn ρ d ρ' q
      refine fun F' H' vs l S' r => ⟨by rw [← r.length, e, ← SL_eq]; exact hl, fun t ht => ?_⟩
      exact p _ _ _ (l.tr (S'.fh.new ht)) (S'.ext (Ext.new S'.fh ht _)) (.tup (.inl (.inl upd_same)) (r.mo (S'.fh.new ht)))⟩
end
end HM

namespace HM
open PySem PySem.Spec PyProof.Rows L2

/-! ### new lists -/
def PostF (w : Wd) (F : Hp) (σ : L2.St) (Q : VK) : R PyData → Prop
  | .ok (.list ds) ρ => ∀ F' H' p xs, FLe F F' → w.sim F' H' ρ σ → Fresh w.K w.G w.pa F' H' ρ σ p xs → RepAll w.K F' ds xs → Q (.ref p) H'
  | .exc x ρ => PostX w F σ x ρ
  | _ => False
def tF (Φ : Fns) (w : Wd) (c : E) : TE := fun σ H Q => ∃ ρ F, w.sim F H ρ σ ∧ PostF w F σ Q (evE Φ c ρ)
section
variable {X : Cx} {Φ : Fns} {w : Wd} {pos : Pos} {a b c e : Expr} {es : List Expr} {ca cb cc : E}
/-- a new list may be frozen at once -/
theorem sE_of_fresh (h : PE X e (tF Φ w ca)) (hl : ∀ ρ d ρ', evE Φ ca ρ = .ok d ρ' → ∃ ds, d = .list ds) : PE X e (tE Φ w ca) := h.via fun σ H Q ⟨ρ, F, S, p⟩ => ⟨ρ, F, S, by
  cases q : evE Φ ca ρ with
  | bad => rw [q] at p; exact p
  | exc x ρ' => rw [q] at p; exact p
  | ok d ρ' =>
    obtain ⟨ds, rfl⟩ := hl ρ d ρ' q
    rw [q] at p
    intro F' H' pp xs l S' fr r
    obtain ⟨le, S2⟩ := fr.frz S'
    exact p _ H' _ (l.tr le) S2 (.lst (.inl upd_same) (r.mo le))⟩
theorem sF_lst (h : PA X es (tA Φ w ca)) (hl : es.length ≤ SL) (hn : ∀ ρ d ρ', evE Φ ca ρ = .ok d ρ' → (tupOf d).length = es.length) : PE X (.List es pos) (tF Φ w (.lst ca)) :=
  (pe_lst h).via fun σ H Q ⟨ρ, F, S, p⟩ => ⟨ρ, F, S, by
    have p : PostF w F σ Q ((evE Φ ca ρ).bind fun x ρ => .ok (.list (tupOf x)) ρ) := p
    cases q : evE Φ ca ρ with
    | bad => rw [q] at p; exact p
    | exc x ρ' => rw [q] at p; exact p
    | ok d ρ' =>
      rw [q] at p
      have e := hn ρ d ρ' q
      refine fun F' H' vs l S' r => ⟨by rw [← r.length, e, ← SL_eq]; exact hl, fun t ht => ?_⟩
      exact p F' _ t vs l (S'.laid ht _) (S'.fresh ht) r⟩
theorem bind_ok {α β : Type} {r : R α} {f : α → Env → R β} {y : β} {ρ : Env} (h : r.bind f = .ok y ρ) : ∃ x ρ1, r = .ok x ρ1 ∧ f x ρ1 = .ok y ρ := by
  cases r with
  | ok x ρ1 => exact ⟨x, ρ1, rfl, h⟩
  | exc x ρ1 => cases h
  | bad => cases h
theorem lst_list (ρ : Env) (d : PyData) (ρ' : Env) (h : evE Φ (.lst ca) ρ = .ok d ρ') : ∃ ds, d = .list ds := by
  obtain ⟨x, ρ1, _, h⟩ := bind_ok (show (evE Φ ca ρ).bind (fun x ρ => .ok (.list (tupOf x)) ρ) = .ok d ρ' from h)
  cases h
  exact ⟨_, rfl⟩
theorem sE_ix (hK : X.K = w.K) (ha : PE X a (tE Φ w ca)) (hb : PE X b (tE Φ w cb)) (hs : PlainIx b) : PE X (.Subscript a b pos) (tE Φ w (.ix ca cb)) :=
  (pe_ix ob_ix ha hb hs).via fun σ H Q ⟨ρ, F, S, p⟩ => ⟨ρ, F, S, by
    refine PostE.mono (PostE.bind p) fun v H1 ⟨d, ρ1, F1, l1, S1, r1, p1⟩ => ⟨ρ1, F1, S1, ?_⟩
    refine PostE.mono (PostE.bind p1) fun v2 H2 ⟨d2, ρ2, F2, l2, S2, r2, p2⟩ => ?_
    obtain ⟨z, e, q⟩ := PostE.of p2 S2
    rw [hK]
    exact ⟨F2, d, d2, z, S2.fh, r1.mo l2, r2, e, q⟩⟩
/-- a slice's end: left out, or an int -/
theorem _root_.L2.PO.via {X : Cx} {e : Option Expr} {t t' : TO} (h : PO X e t) (f : ∀ σ H Q, t' σ H Q → t σ H Q) : PO X e t' := ⟨fun pins s σ H Q I q => h.run pins s σ H Q I (f σ H Q q)⟩
def tO (Φ : Fns) (w : Wd) (c : E) : TO := fun σ H Q => ∃ ρ F, w.sim F H ρ σ ∧ PostE w F σ (fun v H1 => ∃ d o, (∃ F1, Rep w.K F1 d v) ∧ partD d = some o ∧ slOk c.isNon d = true ∧ Q o H1) (evE Φ c ρ)
theorem sO_none : PO X none (tO Φ w .non) := po_none.via fun σ H Q ⟨ρ, F, S, p⟩ => by
  obtain ⟨d, o, ⟨F1, r⟩, e, k, q⟩ := p F H .non FLe.rf S .non
  cases r
  cases e
  exact q
theorem sO_some (h : PE X e (tE Φ w ca)) (hn : ca.isNon = false) : PO X (some e) (tO Φ w ca) := (po_some h).via fun σ H Q ⟨ρ, F, S, p⟩ => ⟨ρ, F, S, PostE.mono p fun v H1 ⟨d, o, ⟨F1, r⟩, e, k, q⟩ => by
  rw [hn] at k
  cases d with
  | int i => cases r; cases e; exact ⟨i, rfl, q⟩
  | _ => cases k⟩
theorem sE_sl (hK : X.K = w.K) {lo hi : Option Expr} {p2 : Pos} (ha : PE X a (tE Φ w ca)) (hb : PO X lo (tO Φ w cb)) (hc : PO X hi (tO Φ w cc)) : PE X (.Subscript a (.Slice lo hi none p2) pos) (tE Φ w (.sl ca cb cc)) :=
  (pe_slice ob_sl ha hb hc).via fun σ H Q ⟨ρ, F, S, p⟩ => ⟨ρ, F, S, by
    refine PostE.mono (PostE.bind p) fun v H1 ⟨d, ρ1, F1, l1, S1, r1, p1⟩ => ⟨ρ1, F1, S1, ?_⟩
    dsimp only at p1
    -- the first end
    have p1 : PostE w F1 σ Q ((evE Φ cb ρ1).bind fun y ρ => if slOk cb.isNon y then (evE Φ cc ρ).bind fun z ρ => if slOk cc.isNon z then .of (slD d y z) ρ else .bad else .bad) := p1
    have part : ∀ {b : Bool} {y : PyData}, slOk b y = true → ∃ o, partD y = some o := fun {b y} h => by
      cases y with
      | none => exact ⟨_, rfl⟩
      | int i => exact ⟨_, rfl⟩
      | _ => cases b <;> cases h
    cases q1 : evE Φ cb ρ1 with
    | bad => rw [q1] at p1; exact p1
    | exc x ρ' => rw [q1] at p1; exact p1
    | ok y ρ2 =>
      rw [q1] at p1
      intro F2 H2 v2 l2 S2 r2
      have p2 : PostE w F2 σ Q (if slOk cb.isNon y then (evE Φ cc ρ2).bind fun z ρ => if slOk cc.isNon z then .of (slD d y z) ρ else .bad else .bad) := PostE.up p1 l2
      by_cases k1 : slOk cb.isNon y = true
      · obtain ⟨o, e⟩ := part k1
        rw [if_pos k1] at p2
        refine ⟨y, o, ⟨F2, r2⟩, e, k1, ρ2, F2, S2, ?_⟩
        cases q2 : evE Φ cc ρ2 with
        | bad => rw [q2] at p2; exact p2
        | exc x ρ' => rw [q2] at p2; exact p2
        | ok z ρ3 =>
          rw [q2] at p2
          intro F3 H3 v3 l3 S3 r3
          have p3 : PostE w F3 σ Q (if slOk cc.isNon z then .of (slD d y z) ρ3 else .bad) := PostE.up p2 l3
          by_cases k2 : slOk cc.isNon z = true
          · obtain ⟨o2, e2⟩ := part k2
            rw [if_pos k2] at p3
            obtain ⟨zz, ez, q⟩ := PostE.of p3 S3
            refine ⟨z, o2, ⟨F3, r3⟩, e2, k2, ?_⟩
            rw [hK]
            exact ⟨F3, d, y, z, zz, S3.fh, r1.mo (l2.tr l3), e, e2, ez, q⟩
          · rw [if_neg k2] at p3
            exact p3.elim
      · rw [if_neg k1] at p2
        exact p2.elim⟩
/-! ### built-ins -/
def biN : Bi → Str
  | .len => "len" | .abs => "abs" | .tuple => "tuple" | .list => "list" | .sum => "sum" | .all => "all" | .any => "any" | .min => "min" | .max => "max" | .min2 => "min" | .max2 => "max" | .int => "int" | .sorted => "sorted"
theorem sE_bi (hK : X.K = w.K) (hc : X.calm = true) (f : Bi) {p : Pos} (hg : Gl X (biN f)) (hm : X.mg (biN f) = none) (ha : PA X (e :: es) (tA Φ w ca)) (he : starEach (e :: es) X.env = (false, eval e X.env) :: starEach es X.env) (hpl : (backTo pos (starEach es X.env)).any (·.1) = false) :
    PE X (.Call (.Name (biN f) p) (e :: es) [] pos) (tE Φ w (.bi f ca)) := by
  have h : PE X (.Call (.Name (biN f) p) (e :: es) [] pos) (tCB (rBi X.K (biD f)) (tA Φ w ca)) := by
    have o := ob_bi hc f
    cases f with
    | len => exact pe_callB o hg hm PySem.boot_len ha (by decide) (by decide) he hpl
    | abs => exact pe_callB o hg hm (by decide +kernel) ha (by decide) (by decide) he hpl
    | sum => exact pe_callB o hg hm (by decide +kernel) ha (by decide) (by decide) he hpl
    | all => exact pe_callB o hg hm (by decide +kernel) ha (by decide) (by decide) he hpl
    | any => exact pe_callB o hg hm (by decide +kernel) ha (by decide) (by decide) he hpl
    | min => exact pe_callB o hg hm (by decide +kernel) ha (by decide) (by decide) he hpl
    | max => exact pe_callB o hg hm (by decide +kernel) ha (by decide) (by decide) he hpl
    | min2 => exact pe_callB o hg hm (by decide +kernel) ha (by decide) (by decide) he hpl
    | max2 => exact pe_callB o hg hm (by decide +kernel) ha (by decide) (by decide) he hpl
    | sorted => exact pe_callB o hg hm (by decide +kernel) ha (by decide) (by decide) he hpl
    | tuple => exact pe_callTy o hg hm (by decide +kernel) ha (by decide) (by decide) he hpl
    | list => exact pe_callTy o hg hm (by decide +kernel) ha (by decide) (by decide) he hpl
    | int => exact pe_callTy o hg hm (by decide +kernel) ha (by decide) (by decide) he hpl
  exact h.via fun σ H Q ⟨ρ, F, S, p⟩ => ⟨ρ, F, S, PostA.mono (PostA.bind p) fun vs H1 ⟨d, ρ1, F1, l1, S1, r1, p1⟩ => by
    obtain ⟨z, e, q⟩ := PostE.of p1 S1
    rw [hK]
    exact ⟨F1, _, z, S1.fh, r1, e, q⟩⟩
theorem sE_isi (hK : X.K = w.K) (t : Ty) {p p2 : Pos} (hg : Gl X "isinstance") (hm : X.mg "isinstance" = none) (hg2 : Gl X (Str.ofString (tyN t))) (hm2 : X.mg (Str.ofString (tyN t)) = none) (ha : PE X a (tE Φ w ca))
    (he : starEach [a, .Name (Str.ofString (tyN t)) p2] X.env = (false, eval a X.env) :: starEach [.Name (Str.ofString (tyN t)) p2] X.env) :
    PE X (.Call (.Name "isinstance" p) [a, .Name (Str.ofString (tyN t)) p2] [] pos) (tE Φ w (.isi ca t)) := by
  have hty : PE X (.Name (Str.ofString (tyN t)) p2) (tC (.ty (tyN t))) := by
    cases t <;> exact pe_bltn hg2 hm2 (by decide +kernel) rfl (by decide) (by decide)
  have hA : PA X [a, .Name (Str.ofString (tyN t)) p2] _ := pa_cons ha (pa_cons hty pa_nil) he
  exact (pe_callB (ob_isi t) hg hm (by decide +kernel) hA (by decide) (by decide) he).via fun σ H Q ⟨ρ, F, S, p⟩ => ⟨ρ, F, S, PostE.mono (PostE.bind p) fun v H1 ⟨d, ρ1, F1, l1, S1, r1, p1⟩ => by
    refine ⟨F1, d, v, rfl, S1.fh, by rw [hK]; exact r1, ?_⟩
    exact p1 F1 H1 _ FLe.rf S1 (.bl _)⟩
end
end HM

namespace HM
open PySem PySem.Spec PyProof.Rows L2

/-! ### what a def promises -/
/-- the arguments: the one at io is a list that the def may change -/
structure ArgsOk (K : PySem.W.Frag) (F H : Hp) (pa : Addr) (io : Option Nat) (args : List PyData) (vs : List V) : Prop where
  len : args.length = vs.length
  val : ∀ (i : Nat) d v, io ≠ some i → args[i]? = some d → vs[i]? = some v → Rep K F d v
  lst : ∀ (i : Nat) d v, io = some i → args[i]? = some d → vs[i]? = some v → ∃ ds xs, d = .list ds ∧ v = .ref pa ∧ F pa = none ∧ H pa = some (.lst xs) ∧ RepAll K F ds xs
/-- what a call leaves -/
structure Left (K : PySem.W.Frag) (G : Hp) (pa : Addr) (io : Option Nat) (F F' H' : Hp) (ds : List PyData) : Prop where
  ff : FLe F F'
  fh : FLe F' H'
  gh : FLe G H'
  fg : ∀ a, F' a = none ∨ G a = none
  pn : H' pa ≠ none
  lst : io ≠ none → F' pa = none ∧ ∃ xs, H' pa = some (.lst xs) ∧ RepAll K F' ds xs
def RetOk (K : PySem.W.Frag) (G : Hp) (pa : Addr) (own : Bool) (F' H' : Hp) (d : PyData) (v : V) : Prop :=
  if own = true then ∃ ds p xs, d = .list ds ∧ v = .ref p ∧ H' p = some (.lst xs) ∧ F' p = none ∧ G p = none ∧ p ≠ pa ∧ RepAll K F' ds xs else Rep K F' d v
def SpPost (K : PySem.W.Frag) (XR : XRT) (F G : Hp) (pa : Addr) (io : Option Nat) (own : Bool) (Q : VK) (E : XK) : FR → Prop
  | .ok d ds => ∀ F' H' v, Left K G pa io F F' H' ds → RetOk K G pa own F' H' d v → Q v H'
  | .exc x ds => ∀ F' H' cls dd, Left K G pa io F F' H' ds → XR F' x cls dd H' → E cls dd H'
  | .bad => False
def spOf (K : PySem.W.Frag) (XR : XRT) (f : List PyData → FR) (io : Option Nat) (own : Bool) : Sp := fun vs H Q E =>
  ∃ F G pa args, FLe F H ∧ FLe G H ∧ (∀ a, F a = none ∨ G a = none) ∧ H pa ≠ none ∧ (io ≠ none → G pa = none) ∧ ArgsOk K F H pa io args vs ∧ SpPost K XR F G pa io own Q E (f args)

/-- what a caller keeps from a callee: all that is not frozen, but the list handed in -/
noncomputable def others (F H : Hp) (p : Option Addr) : Hp := fun a => if F a = none ∧ p ≠ some a then H a else none
theorem others_le {F H : Hp} {p : Option Addr} : FLe (others F H p) H := fun a o e => by
  unfold others at e
  split at e
  · exact e
  · cases e
theorem others_sep {F H : Hp} {p : Option Addr} (a : Addr) : F a = none ∨ others F H p a = none := by
  by_cases h : F a = none
  · exact .inl h
  · refine .inr ?_
    unfold others
    rw [if_neg (fun z => h z.1)]
theorem others_at {F H : Hp} {p : Option Addr} {a : Addr} (h : F a = none) (n : p ≠ some a) : others F H p a = H a := by
  unfold others
  rw [if_pos ⟨h, n⟩]
theorem others_p {F H : Hp} {a : Addr} : others F H (some a) a = none := by
  unfold others
  rw [if_neg (fun z => z.2 rfl)]
section
variable {K : PySem.W.Frag} {G : Hp} {pa : Addr} {F F' H H' : Hp} {ρ : Env} {σ : L2.St}
/-- behind a call that changes no list of ours -/
theorem Sim.called (S : Sim K G pa F H ρ σ) {ds : List PyData} (L : Left K (others F H none) pa none F F' H' ds) : Sim K G pa F' H' ρ σ := by
  have keep : ∀ a o, F a = none → H a = some o → H' a = some o ∧ F' a = none := fun a o f e => by
    have e2 : others F H none a = some o := by rw [others_at f (fun z => by cases z)]; exact e
    exact ⟨L.gh a o e2, (L.fg a).resolve_right (by rw [e2]; intro z; cases z)⟩
  have gF : ∀ a o, G a = some o → F a = none := fun a o e => (S.fg a).resolve_right (by rw [e]; intro z; cases z)
  refine ⟨L.fh, fun a o e => (keep a o (gF a o e) (S.gh a o e)).1, fun a => ?_, L.pn, S.len, fun i s hi => ?_, S.sep⟩
  · cases q : G a with
    | none => exact .inr rfl
    | some o => exact .inl (keep a o (gF a o q) (S.gh a o q)).2
  · have q := S.slot i s hi
    cases s with
    | un => trivial
    | val d => obtain ⟨v, e, r⟩ := q; exact ⟨v, e, r.mo L.ff⟩
    | mu es => obtain ⟨a, xs, e, f, g, n, hx, r⟩ := q; exact ⟨a, xs, e, (keep a _ f hx).2, g, n, (keep a _ f hx).1, r.mo L.ff⟩
    | par es => obtain ⟨xs, e, f, g, hx, r⟩ := q; exact ⟨xs, e, (keep pa _ f hx).2, g, (keep pa _ f hx).1, r.mo L.ff⟩
/-- behind a call that changed the list at a, slot i's -/
theorem Sim.calledM (S : Sim K G pa F H ρ σ) {i : Nat} {s : Slot} {a : Addr} {xs : List V} {p : Nat} {es : List PyData} (hi : ρ[i]? = some s) (ms : isM s = true) (hσ : σ[i]? = some (some (.ref a))) (ha : H a = some (.lst xs)) (fa : F a = none) (ga : G a = none)
    (L : Left K (others F H (some a)) a (some p) F F' H' es) (pn : H' pa ≠ none) : Sim K G pa F' H' (ρ.set i (remut s es)) σ := by
  have keep : ∀ b o, b ≠ a → F b = none → H b = some o → H' b = some o ∧ F' b = none := fun b o n f e => by
    have e2 : others F H (some a) b = some o := by rw [others_at f (fun z => n (Option.some.inj z).symm)]; exact e
    exact ⟨L.gh b o e2, (L.fg b).resolve_right (by rw [e2]; intro z; cases z)⟩
  have gF : ∀ a o, G a = some o → F a = none := fun a o e => (S.fg a).resolve_right (by rw [e]; intro z; cases z)
  have gN : ∀ b o, G b = some o → b ≠ a := fun b o e z => by subst z; rw [ga] at e; cases e
  obtain ⟨fa', ys, ha', ry⟩ := L.lst (fun z => by cases z)
  refine ⟨L.fh, fun b o e => (keep b o (gN b o e) (gF b o e) (S.gh b o e)).1, fun b => ?_, pn, by rw [List.length_set, S.len], fun j t hj => ?_, fun j k t u b hj hk mt mu e1 e2 => ?_⟩
  · cases q : G b with
    | none => exact .inr rfl
    | some o => exact .inl (keep b o (gN b o q) (gF b o q) (S.gh b o q)).2
  · rcases get_set hj with ⟨rfl, rfl, hl⟩ | ⟨ne, hj⟩
    · have q := S.slot j s hi
      cases s with
      | un => cases ms
      | val d => cases ms
      | mu ds => obtain ⟨b, zs, e, f, g, n, hx, r⟩ := q; rw [hσ] at e; cases e; exact ⟨a, ys, hσ, fa', g, n, ha', ry⟩
      | par ds => obtain ⟨zs, e, f, g, hx, r⟩ := q; rw [hσ] at e; cases e; exact ⟨ys, hσ, fa', g, ha', ry⟩
    · have q := S.slot j t hj
      cases t with
      | un => trivial
      | val d => obtain ⟨v, e, r⟩ := q; exact ⟨v, e, r.mo L.ff⟩
      | mu ds =>
        obtain ⟨b, zs, e, f, g, n, hx, r⟩ := q
        have nb : b ≠ a := fun z => by subst z; exact ne (S.sep j i _ _ _ hj hi rfl ms e hσ)
        exact ⟨b, zs, e, (keep b _ nb f hx).2, g, n, (keep b _ nb f hx).1, r.mo L.ff⟩
      | par ds =>
        obtain ⟨zs, e, f, g, hx, r⟩ := q
        have nb : pa ≠ a := fun z => by subst z; exact ne (S.sep j i _ _ _ hj hi rfl ms e hσ)
        exact ⟨zs, e, (keep pa _ nb f hx).2, g, (keep pa _ nb f hx).1, r.mo L.ff⟩
  · have im : ∀ s es, isM s = true → isM (remut s es) = true := fun s es h => by cases s <;> first | rfl | cases h
    rcases get_set hj with ⟨rfl, rfl, hl⟩ | ⟨ne, hj'⟩
    · rcases get_set hk with ⟨rfl, rfl, hl⟩ | ⟨nk, hk'⟩
      · rfl
      · exact S.sep j k s u b hi hk' ms mu e1 e2
    · rcases get_set hk with ⟨rfl, rfl, hl⟩ | ⟨nk, hk'⟩
      · exact S.sep j k t s b hj' hi mt ms e1 e2
      · exact S.sep j k t u b hj' hk' mt mu e1 e2
end
/-- a callee keeps its promise -/
structure FnHas (X : Cx) (XR : XRT) (k : Nat) (x : Str) (f : List PyData → FR) (pars : Nat) (io : Option Nat) (own : Bool) : Prop where
  ex : ∃ (g : Addr) (fd : FuncData) (ps : List Str), X.mg x = some (.ref g) ∧ PySem.W.keepIn X.K (.ref g) = true ∧ Binds X.K fd ps [] ∧ ps.length = pars ∧ FnOk X.prog X.w X.K X.mg X.base (L2.CX X.prog X.w) k g fd ps (spOf X.K XR f io own)
section
variable {X : Cx} {Φ : Fns} {w : Wd} {pos p : Pos} {e : Expr} {es : List Expr} {ca : E} {k : Nat} {x : Str} {E0 : L2.St → XK}
theorem pe_call0S {CX : CXT} {f : Addr} {fd : FuncData} {ps : List Str} {sp : Sp} (F : FnOk X.prog X.w X.K X.mg X.base CX k f fd ps sp) (hr : Room k X.A) (hg : Gl X x) (hm : X.mg x = some (.ref f)) (hk : PySem.W.keepIn X.K (.ref f) = true) (hb : Binds X.K fd ps []) (hx : ∀ σ, PassesAt CX X σ (E0 σ))
    (hdb : (x == ("__debug__" : Str)) = false) : PE X (.Call (.Name x p) [] [] pos) (tCallS sp E0 tNil) := by
  refine ⟨fun pins s σ H Q I h => ?_⟩
  refine wpAny_Call_Name_kw (ld_glob I hg hm ?_ hdb)
  exact PySem.W.callWith_K0 I.kIn hk (run_fnS (us := []) F hr hb (hx σ) I .nil h)
theorem pe_callA {CX : CXT} {f : Addr} {fd : FuncData} {ps : List Str} {sp : Sp} {t : TA} (F : FnOk X.prog X.w X.K X.mg X.base CX k f fd ps sp) (hr : Room k X.A) (hg : Gl X x) (hm : X.mg x = some (.ref f)) (hk : PySem.W.keepIn X.K (.ref f) = true) (hb : Binds X.K fd ps []) (hx : ∀ σ, PassesAt CX X σ (E0 σ))
    (hdb : (x == ("__debug__" : Str)) = false) (ha : PA X es t) (hn : ∀ σ H Q, es = [] → t σ H Q → Q [] H) (hs : ∀ e r, es = e :: r → starEach (e :: r) X.env = (false, eval e X.env) :: starEach r X.env) (hpl : (backTo pos (starEach es.tail X.env)).any (·.1) = false) : PE X (.Call (.Name x p) es [] pos) (tCallS sp E0 t) := by
  cases es with
  | nil => exact (pe_call0S F hr hg hm hk hb hx hdb).via fun σ H Q h => hn σ H _ rfl h
  | cons e r => exact pe_callS F hr hg hm hk hb hx ha hdb (hs e r rfl) hpl
theorem args_ok {K : PySem.W.Frag} {F H : Hp} {pa : Addr} {args : List PyData} {vs : List V} (r : RepAll K F args vs) : ArgsOk K F H pa none args vs :=
  ⟨r.length, fun i d v _ h1 h2 => by obtain ⟨v', e, q⟩ := r.get h1; rw [e] at h2; cases h2; exact q, fun i d v h => by cases h⟩
theorem tA_nil_at (h : ∀ ρ, evE Φ ca ρ = .ok (.tuple []) ρ) : ∀ σ H Q, tA Φ w ca σ H Q → Q [] H := fun σ H Q ⟨ρ, F, S, p⟩ => by
  rw [h] at p
  exact p F H [] FLe.rf S .nil
theorem sE_call (hK : X.K = w.K) (tk : Takes X w.W) (hr : Room k X.A) {fn pars : Nat} {own : Bool} (hf : FnHas X w.XR k x (Φ fn) pars none own) (hg : Gl X x) (hdb : (x == ("__debug__" : Str)) = false) (ha : PA X es (tA Φ w ca))
    (hn : es = [] → ∀ ρ, evE Φ ca ρ = .ok (.tuple []) ρ) (hs : ∀ e r, es = e :: r → starEach (e :: r) X.env = (false, eval e X.env) :: starEach r X.env) (hpl : (backTo pos (starEach es.tail X.env)).any (·.1) = false) :
    PE X (.Call (.Name x p) es [] pos) (tE Φ w (.call fn ca)) := by
  obtain ⟨g, fd, ps, hm, hk, hb, hl, F⟩ := hf.ex
  refine (pe_callA F hr hg hm hk hb (passAt tk) hdb ha (fun σ H Q e h => tA_nil_at (hn e) σ H Q h) hs hpl).via fun σ H Q ⟨ρ, F, S, q⟩ => ⟨ρ, F, S, PostA.mono (PostA.bind q) fun vs H1 ⟨d, ρ1, F1, l1, S1, r1, p1⟩ => ?_⟩
  dsimp only at p1
  refine ⟨F1, others F1 H1 none, w.pa, tupOf d, S1.fh, others_le, others_sep, S1.pn, fun z => absurd rfl z, by rw [hK]; exact args_ok r1, ?_⟩
  rw [hK]
  cases q2 : Φ fn (tupOf d) with
  | bad => rw [q2] at p1; exact p1
  | exc z ds =>
    rw [q2] at p1
    exact fun F' H' cls dd L xr => p1 F' H' cls dd L.ff (S1.called L) xr
  | ok y ds =>
    rw [q2] at p1
    intro F' H' v L ret
    have S2 := S1.called L
    cases own with
    | false => exact p1 F' H' v L.ff S2 ret
    | true =>
      obtain ⟨zs, pp, xs, rfl, rfl, h1, h2, h3, h4, h5⟩ := ret
      have fr : Fresh w.K w.G w.pa F' H' ρ1 σ pp xs := by
        have hp : ∀ o, H1 pp = some o → F1 pp ≠ none := fun o e f => by rw [others_at f (fun z => by cases z), e] at h3; cases h3
        refine ⟨h1, h2, ?_, h4, fun j s hj ms e => ?_⟩
        · cases q : w.G pp with
          | none => rfl
          | some o => exact absurd ((S1.fg pp).resolve_right (by rw [q]; intro z; cases z)) (hp o (S1.gh _ _ q))
        · have q := S1.slot j s hj
          cases s with
          | un => cases ms
          | val d => cases ms
          | mu ds => obtain ⟨b, ys, e', f, g, n, hx, r⟩ := q; rw [e] at e'; cases e'; exact hp _ hx f
          | par ds => obtain ⟨ys, e', f, g, hx, r⟩ := q; rw [e] at e'; cases e'; exact hp _ hx f
      obtain ⟨le, S3⟩ := fr.frz S2
      exact p1 _ H' _ (L.ff.tr le) S3 (.lst (.inl upd_same) (h5.mo le))
end
end HM

namespace HM
open PySem PySem.Spec PyProof.Rows L2

theorem insAt_get {α : Type} {p : Nat} {x : α} {l : List α} (hp : p ≤ l.length) (j : Nat) : (insAt p x l)[j]? = if j < p then l[j]? else if j = p then some x else l[j - 1]? := by
  unfold insAt
  have lt : (l.take p).length = p := by rw [List.length_take]; omega
  by_cases h : j < p
  · rw [if_pos h, List.getElem?_append_left (by rw [lt]; exact h), List.getElem?_take_of_lt h]
  · rw [if_neg h, List.getElem?_append_right (by rw [lt]; omega), lt]
    by_cases e : j = p
    · subst e
      rw [if_pos rfl, Nat.sub_self]
      rfl
    · rw [if_neg e]
      obtain ⟨m, rfl⟩ : ∃ m, j = p + 1 + m := ⟨j - p - 1, by omega⟩
      rw [show p + 1 + m - p = m + 1 by omega, List.getElem?_cons_succ, List.getElem?_drop, show p + 1 + m - 1 = p + m by omega]
theorem insAt_len {α : Type} {p : Nat} {x : α} {l : List α} : (insAt p x l).length = l.length + 1 := by
  unfold insAt
  rw [List.length_append, List.length_cons, List.length_take, List.length_drop]
  omega
theorem args_io {K : PySem.W.Frag} {F H : Hp} {a : Addr} {p : Nat} {args ds : List PyData} {vs xs : List V} (hp : p ≤ args.length) (r : RepAll K F args vs) (f : F a = none) (h : H a = some (.lst xs)) (rd : RepAll K F ds xs) :
    ArgsOk K F H a (some p) (insAt p (.list ds) args) (insAt p (.ref a) vs) := by
  have l := r.length
  refine ⟨by rw [insAt_len, insAt_len, l], fun i d v n h1 h2 => ?_, fun i d v n h1 h2 => ?_⟩
  · rw [insAt_get hp] at h1
    rw [insAt_get (by omega)] at h2
    have ne : i ≠ p := fun z => n (by rw [z])
    by_cases c : i < p
    · rw [if_pos c] at h1 h2
      obtain ⟨v', e, q⟩ := r.get h1
      rw [e] at h2; cases h2; exact q
    · rw [if_neg c, if_neg ne] at h1 h2
      obtain ⟨v', e, q⟩ := r.get h1
      rw [e] at h2; cases h2; exact q
  · cases n
    rw [insAt_get hp, if_neg (Nat.lt_irrefl _), if_pos rfl] at h1
    rw [insAt_get (by omega), if_neg (Nat.lt_irrefl _), if_pos rfl] at h2
    cases h1; cases h2
    exact ⟨ds, xs, rfl, rfl, f, h, rd⟩
section
variable {X : Cx} {Φ : Fns} {w : Wd} {pos p p2 : Pos} {a b e : Expr} {es : List Expr} {ca cb : E} {k : Nat} {x : Str}
/-- arguments, one of which is a list that the callee may change -/
def tAio (Φ : Fns) (w : Wd) (q i : Nat) (c : E) : TA := fun σ H Q => ∃ ρ F, w.sim F H ρ σ ∧ ∃ v, σ[i]? = some (some v) ∧ PostA w F σ (fun vs H1 => Q (insAt q v vs) H1) (evE Φ c ρ)
theorem sA_io0 {i : Nat} (hN : X.N[i]? = some x) (hv : Vis X.env.scope x) (hd : (x == ("__debug__" : Str)) = false) (hc : (x == ("__classdict__" : Str)) = false) (ha : PA X es (tA Φ w ca)) : PA X (.Name x p :: es) (tAio Φ w 0 i ca) :=
  (pa_cons (pe_var hN hv hd hc) ha).via fun σ H Q ⟨ρ, F, S, v, e, q⟩ => ⟨v, e, ρ, F, S, q⟩
theorem sA_ioS {q i : Nat} (ha : PE X a (tE Φ w ca)) (hb : PA X es (tAio Φ w q i cb)) (hs : starEach (a :: es) X.env = (false, eval a X.env) :: starEach es X.env) : PA X (a :: es) (tAio Φ w (q + 1) i (.cons ca cb)) :=
  (pa_cons ha hb hs).via fun σ H Q ⟨ρ, F, S, v, e, p⟩ => ⟨ρ, F, S, by
    refine PostE.mono (PostE.bindA p) fun u H1 ⟨d, ρ1, F1, l1, S1, r1, p1⟩ => ⟨ρ1, F1, S1, v, e, ?_⟩
    refine PostA.mono (PostA.bindA p1) fun vs H2 ⟨d2, ρ2, F2, l2, S2, r2, p2⟩ => ?_
    exact p2 F2 H2 _ FLe.rf S2 (.cons (r1.mo l2) r2)⟩
theorem sE_callio (hK : X.K = w.K) (tk : Takes X w.W) (hr : Room k X.A) {fn pars q i : Nat} (hf : FnHas X w.XR k x (Φ fn) pars (some q) false) (hl : ∀ args, Φ fn args ≠ .bad → args.length = pars) (hq : q < pars) (hg : Gl X x) (hdb : (x == ("__debug__" : Str)) = false) (ha : PA X es (tAio Φ w q i ca))
    (hne : es ≠ []) (hs : ∀ e r, es = e :: r → starEach (e :: r) X.env = (false, eval e X.env) :: starEach r X.env) (hpl : (backTo pos (starEach es.tail X.env)).any (·.1) = false) :
    PE X (.Call (.Name x p) es [] pos) (tE Φ w (.callio fn q i ca)) := by
  obtain ⟨g, fd, ps, hm, hk, hb, hpl', F⟩ := hf.ex
  refine (pe_callA F hr hg hm hk hb (passAt tk) hdb ha (fun σ H Q e h => absurd e hne) hs hpl).via fun σ H Q ⟨ρ, F, S, h⟩ => ?_
  have h : PostE w F σ Q (if (mutS (getS ρ i)).isSome then (evE Φ ca ρ).bind fun x ρ => match mutS (getS ρ i) with
    | none => .bad
    | some ds => match Φ fn (insAt q (.list ds) (tupOf x)) with
      | .ok d ds' => .ok d (ρ.set i (remut (getS ρ i) ds'))
      | .exc z ds' => .exc z (ρ.set i (remut (getS ρ i) ds'))
      | .bad => .bad
    else .bad) := h
  cases q0 : mutS (getS ρ i) with
  | none => rw [q0] at h; exact h.elim
  | some ds0 =>
    rw [q0, if_pos (show (some ds0).isSome = true from rfl)] at h
    obtain ⟨s0, a, xs0, hi0, ms0, im0, hσ, fa0, ga0, ha0, rr0⟩ := S.mutL q0
    refine ⟨ρ, F, S, .ref a, hσ, PostA.mono (PostA.bind h) fun vs H1 ⟨d, ρ1, F1, l1, S1, r1, p1⟩ => ?_⟩
    dsimp only at p1
    cases q1 : mutS (getS ρ1 i) with
    | none => rw [q1] at p1; exact p1.elim
    | some ds =>
      rw [q1] at p1
      obtain ⟨s1, a1, xs, hi, ms, im, hσ1, fa, ga, ha1, rr⟩ := S1.mutL q1
      rw [hσ] at hσ1
      cases hσ1
      have gs : getS ρ1 i = s1 := by
        unfold getS
        rw [List.getD_eq_getElem?_getD, hi]
        rfl
      rw [gs] at p1
      have hlen : Φ fn (insAt q (.list ds) (tupOf d)) ≠ .bad := fun z => by
        dsimp only at p1
        rw [z] at p1
        exact p1
      have hlen2 := hl _ hlen
      rw [insAt_len] at hlen2
      refine ⟨F1, others F1 H1 (some a), a, _, S1.fh, others_le, others_sep, (fun z => by rw [ha1] at z; cases z), fun _ => others_p, by rw [hK]; exact args_io (by omega) r1 fa ha1 rr, ?_⟩
      rw [hK]
      dsimp only at p1
      cases q2 : Φ fn (insAt q (.list ds) (tupOf d)) with
      | bad => exact absurd q2 hlen
      | exc z es' =>
        rw [q2] at p1
        intro F' H' cls dd L xr
        have pn : H' w.pa ≠ none := by
          by_cases e : w.pa = a
          · rw [e]; exact L.pn
          · intro z
            cases q3 : F1 w.pa with
            | some o =>
              have := L.fh _ _ (L.ff _ _ q3)
              rw [this] at z; cases z
            | none =>
              cases q4 : H1 w.pa with
              | none => exact S1.pn q4
              | some o =>
                have := L.gh w.pa o (by rw [others_at q3 (fun z => e (Option.some.inj z).symm)]; exact q4)
                rw [this] at z; cases z
        exact p1 F' H' cls dd L.ff (S1.calledM hi im hσ ha1 fa ga L pn) xr
      | ok y es' =>
        rw [q2] at p1
        intro F' H' v L ret
        have pn : H' w.pa ≠ none := by
          by_cases e : w.pa = a
          · rw [e]; exact L.pn
          · intro z
            cases q3 : F1 w.pa with
            | some o =>
              have := L.fh _ _ (L.ff _ _ q3)
              rw [this] at z; cases z
            | none =>
              cases q4 : H1 w.pa with
              | none => exact S1.pn q4
              | some o =>
                have := L.gh w.pa o (by rw [others_at q3 (fun z => e (Option.some.inj z).symm)]; exact q4)
                rw [this] at z; cases z
        exact p1 F' H' v L.ff (S1.calledM hi im hσ ha1 fa ga L pn) ret
/-- an own list back, kept as the def's own -/
theorem sF_call (hK : X.K = w.K) (tk : Takes X w.W) (hr : Room k X.A) {fn pars : Nat} (hf : FnHas X w.XR k x (Φ fn) pars none true) (hg : Gl X x) (hdb : (x == ("__debug__" : Str)) = false) (ha : PA X es (tA Φ w ca))
    (hn : es = [] → ∀ ρ, evE Φ ca ρ = .ok (.tuple []) ρ) (hs : ∀ e r, es = e :: r → starEach (e :: r) X.env = (false, eval e X.env) :: starEach r X.env) (hpl : (backTo pos (starEach es.tail X.env)).any (·.1) = false) :
    PE X (.Call (.Name x p) es [] pos) (tF Φ w (.call fn ca)) := by
  obtain ⟨g, fd, ps, hm, hk, hb, hl, F⟩ := hf.ex
  refine (pe_callA F hr hg hm hk hb (passAt tk) hdb ha (fun σ H Q e h => tA_nil_at (hn e) σ H Q h) hs hpl).via fun σ H Q ⟨ρ, F, S, q⟩ => ⟨ρ, F, S, ?_⟩
  have q : PostF w F σ Q ((evE Φ ca ρ).bind fun x ρ => match Φ fn (tupOf x) with
    | .ok d _ => .ok d ρ
    | .exc z _ => .exc z ρ
    | .bad => .bad) := q
  cases q1 : evE Φ ca ρ with
  | bad => rw [q1] at q; exact q
  | exc z ρ1 => rw [q1] at q; exact q
  | ok d ρ1 =>
    rw [q1] at q
    have q : PostF w F σ Q (match Φ fn (tupOf d) with
      | .ok d _ => .ok d ρ1
      | .exc z _ => .exc z ρ1
      | .bad => .bad) := q
    intro F1 H1 vs l1 S1 r1
    refine ⟨F1, others F1 H1 none, w.pa, tupOf d, S1.fh, others_le, others_sep, S1.pn, fun z => absurd rfl z, by rw [hK]; exact args_ok r1, ?_⟩
    rw [hK]
    cases q2 : Φ fn (tupOf d) with
    | bad => rw [q2] at q; exact q
    | exc z ds =>
      rw [q2] at q
      exact fun F' H' cls dd L xr => q F' H' cls dd (l1.tr L.ff) (S1.called L) xr
    | ok y ds =>
      rw [q2] at q
      intro F' H' v L ret
      have S2 := S1.called L
      obtain ⟨zs, pp, xs, rfl, rfl, h1, h2, h3, h4, h5⟩ := ret
      have hp : ∀ o, H1 pp = some o → F1 pp ≠ none := fun o e f => by rw [others_at f (fun z => by cases z), e] at h3; cases h3
      refine q F' H' pp xs (l1.tr L.ff) S2 ⟨h1, h2, ?_, h4, fun j s hj ms e => ?_⟩ h5
      · cases q : w.G pp with
        | none => rfl
        | some o => exact absurd ((S1.fg pp).resolve_right (by rw [q]; intro z; cases z)) (hp o (S1.gh _ _ q))
      · have q := S1.slot j s hj
        cases s with
        | un => cases ms
        | val d => cases ms
        | mu ds => obtain ⟨b, ys, e', f, g, n, hx, r⟩ := q; rw [e] at e'; cases e'; exact hp _ hx f
        | par ds => obtain ⟨ys, e', f, g, hx, r⟩ := q; rw [e] at e'; cases e'; exact hp _ hx f
/-! ### lists that may change, looked at -/
theorem sE_lenM {i : Nat} (hN : X.N[i]? = some x) (hv : Vis X.env.scope x) (hd : (x == ("__debug__" : Str)) = false) (hc : (x == ("__classdict__" : Str)) = false) (hg : Gl X "len") (hm : X.mg "len" = none) :
    PE X (.Call (.Name "len" p) [.Name x p2] [] pos) (tE Φ w (.lenM i)) :=
  (pe_callB call_len_seq hg hm PySem.boot_len (pa_cons (pe_var hN hv hd hc) pa_nil (by rfl)) (by decide) (by decide) (by rfl) (by rfl)).via fun σ H Q ⟨ρ, F, S, h⟩ => by
    have h : PostE w F σ Q (match mutS (getS ρ i) with | some ds => .ok (.int ds.length) ρ | none => .bad) := h
    cases q0 : mutS (getS ρ i) with
    | none => rw [q0] at h; exact h.elim
    | some ds =>
      rw [q0] at h
      obtain ⟨s0, a, xs, hi, ms, im, hσ, fa, ga, ha, rr⟩ := S.mutL q0
      refine ⟨.ref a, hσ, a, xs, rfl, .inl (SqL.of ha), ?_⟩
      rw [← rr.length]
      exact h F H _ FLe.rf S (.int _)
theorem sE_ixM {i : Nat} (hN : X.N[i]? = some x) (hv : Vis X.env.scope x) (hd : (x == ("__debug__" : Str)) = false) (hc : (x == ("__classdict__" : Str)) = false) (hb : PE X b (tE Φ w cb)) (hs : PlainIx b) :
    PE X (.Subscript (.Name x p) b pos) (tE Φ w (.ixM i cb)) := 
  (pe_ix ix_list (pe_var hN hv hd hc) hb hs).via fun σ H Q ⟨ρ, F, S, h⟩ => by
    have h : PostE w F σ Q (if (mutS (getS ρ i)).isSome then (evE Φ cb ρ).bind fun x ρ => match mutS (getS ρ i), x with
      | some ds, .int k => .of (ixAt ds k) ρ
      | _, _ => .bad
      else .bad) := h
    cases q0 : mutS (getS ρ i) with
    | none => rw [q0] at h; exact h.elim
    | some ds0 =>
      rw [q0, if_pos (show (some ds0).isSome = true from rfl)] at h
      obtain ⟨s0, a, xs0, hi0, ms0, im0, hσ, fa0, ga0, ha0, rr0⟩ := S.mutL q0
      refine ⟨.ref a, hσ, ρ, F, S, PostE.mono (PostE.bind h) fun v H1 ⟨d, ρ1, F1, l1, S1, r1, p1⟩ => ?_⟩
      dsimp only at p1
      cases q1 : mutS (getS ρ1 i) with
      | none => rw [q1] at p1; exact p1.elim
      | some ds =>
        rw [q1] at p1
        cases r1 with
        | int kk =>
          obtain ⟨s1, a1, xs, hi, ms, im, hσ1, fa, ga, ha1, rr⟩ := S1.mutL q1
          rw [hσ] at hσ1
          cases hσ1
          obtain ⟨z, e, q⟩ := PostE.of p1 S1
          obtain ⟨u, e1, q1⟩ := ixAt_rep rr e
          exact ⟨a, xs, kk, u, rfl, rfl, SqL.of ha1, e1, q.now S1.fh q1⟩
        | _ => exact p1.elim
theorem op_nil (hu : X.A.units < cLine) : OpR X (compareOp .Eq) (fun x y H Q => ∃ a b xs, x = .ref a ∧ y = .ref b ∧ SqL X.K H a xs ∧ SqL X.K H b [] ∧ Q (.bl xs.isEmpty) H) := by
  intro pins s σ H x y v u Q I rx ry ⟨a, b, xs, e1, e2, h1, h2, q⟩
  subst e1 e2
  cases rx; cases ry
  exact ow_eq0L hu I h1 h2 q
theorem op_nnil (hu : X.A.units < cLine) : OpR X (compareOp .NotEq) (fun x y H Q => ∃ a b xs, x = .ref a ∧ y = .ref b ∧ SqL X.K H a xs ∧ SqL X.K H b [] ∧ Q (.bl (!xs.isEmpty)) H) := by
  intro pins s σ H x y v u Q I rx ry ⟨a, b, xs, e1, e2, h1, h2, q⟩
  subst e1 e2
  cases rx; cases ry
  exact ow_ne0L hu I h1 h2 q
theorem nil_got {i : Nat} {σ : L2.St} {H : Hp} {ρ : Env} {F : Hp} (S : w.sim F H ρ σ) {ds : List PyData} (q0 : mutS (getS ρ i) = some ds) {R : V → V → Hp → Prop}
    (h : ∀ a b xs H2, SqL X.K H2 a xs → SqL X.K H2 b [] → ds.isEmpty = xs.isEmpty → w.sim F H2 ρ σ → R (.ref a) (.ref b) H2) : tVar i σ H fun x H1 => tLst tNil σ H1 fun y H2 => R x y H2 := by
  obtain ⟨s0, a, xs, hi, ms, im, hσ, fa, ga, ha, rr⟩ := S.mutL q0
  refine ⟨.ref a, hσ, Nat.zero_le _, fun b hb => ?_⟩
  have na : a ≠ b := fun z => by subst z; rw [ha] at hb; cases hb
  exact h a b xs _ (SqL.of (by rw [upd_ne na]; exact ha)) (SqL.of upd_same) rr.emp (S.laid hb _)
theorem sE_nilM (hu : X.A.units < cLine) {i : Nat} (hN : X.N[i]? = some x) (hv : Vis X.env.scope x) (hd : (x == ("__debug__" : Str)) = false) (hc : (x == ("__classdict__" : Str)) = false) :
    PE X (.Compare (.Name x p) [.Eq] [.List [] p2] pos) (tE Φ w (.nilM i)) ∧ PT X (.Compare (.Name x p) [.Eq] [.List [] p2] pos) (tT Φ w (.nilM i)) := by
  have hb : behindInMarks .Eq (.List [] p2) = false := rfl
  refine ⟨(pe_cmpR (op_nil hu) (pe_var hN hv hd hc) (pe_lst pa_nil) hb).via fun σ H Q ⟨ρ, F, S, h⟩ => ?_, (pt_cmpR (op_nil hu) (pe_var hN hv hd hc) (pe_lst pa_nil) hb).via fun σ H Q ⟨ρ, F, S, h⟩ => ?_⟩
  · have h : PostE w F σ Q (match mutS (getS ρ i) with | some ds => .ok (.bool ds.isEmpty) ρ | none => .bad) := h
    cases q0 : mutS (getS ρ i) with
    | none => rw [q0] at h; exact h.elim
    | some ds =>
      rw [q0] at h
      exact nil_got S q0 fun a b xs H2 h1 h2 e S2 => ⟨a, b, xs, rfl, rfl, h1, h2, by rw [← e]; exact h F H2 _ FLe.rf S2 (.bl _)⟩
  · have h : PostT w F σ Q (match mutS (getS ρ i) with | some ds => .ok (.bool ds.isEmpty) ρ | none => .bad) := h
    cases q0 : mutS (getS ρ i) with
    | none => rw [q0] at h; exact h.elim
    | some ds =>
      rw [q0] at h
      exact nil_got S q0 fun a b xs H2 h1 h2 e S2 => ⟨a, b, xs, rfl, rfl, h1, h2, _, rfl, by rw [← e]; exact h F H2 FLe.rf S2⟩
theorem sE_nnilM (hu : X.A.units < cLine) {i : Nat} (hN : X.N[i]? = some x) (hv : Vis X.env.scope x) (hd : (x == ("__debug__" : Str)) = false) (hc : (x == ("__classdict__" : Str)) = false) :
    PE X (.Compare (.Name x p) [.NotEq] [.List [] p2] pos) (tE Φ w (.not (.nilM i))) ∧ PT X (.Compare (.Name x p) [.NotEq] [.List [] p2] pos) (tT Φ w (.not (.nilM i))) := by
  have hb : behindInMarks .NotEq (.List [] p2) = false := rfl
  refine ⟨(pe_cmpR (op_nnil hu) (pe_var hN hv hd hc) (pe_lst pa_nil) hb).via fun σ H Q ⟨ρ, F, S, h⟩ => ?_, (pt_cmpR (op_nnil hu) (pe_var hN hv hd hc) (pe_lst pa_nil) hb).via fun σ H Q ⟨ρ, F, S, h⟩ => ?_⟩
  · have h : PostE w F σ Q (R.bind (match mutS (getS ρ i) with | some ds => .ok (PyData.bool ds.isEmpty) ρ | none => .bad : R PyData) fun x ρ => match x with | .bool b => .ok (.bool (!b)) ρ | _ => .bad) := h
    cases q0 : mutS (getS ρ i) with
    | none => rw [q0] at h; exact h.elim
    | some ds =>
      rw [q0] at h
      exact nil_got S q0 fun a b xs H2 h1 h2 e S2 => ⟨a, b, xs, rfl, rfl, h1, h2, by rw [← e]; exact h F H2 _ FLe.rf S2 (.bl _)⟩
  · have h : PostT w F σ Q (R.bind (match mutS (getS ρ i) with | some ds => .ok (PyData.bool ds.isEmpty) ρ | none => .bad : R PyData) fun x ρ => match x with | .bool b => .ok (.bool (!b)) ρ | _ => .bad) := h
    cases q0 : mutS (getS ρ i) with
    | none => rw [q0] at h; exact h.elim
    | some ds =>
      rw [q0] at h
      exact nil_got S q0 fun a b xs H2 h1 h2 e S2 => ⟨a, b, xs, rfl, rfl, h1, h2, _, rfl, by rw [← e]; exact h F H2 FLe.rf S2⟩
theorem sE_popM {i : Nat} {apos : Pos} (hN : X.N[i]? = some x) (hv : Vis X.env.scope x) (hd : (x == ("__debug__" : Str)) = false) (hc : (x == ("__classdict__" : Str)) = false) (hb : PE X b (tE Φ w cb))
    (hs : starEach [b] X.env = (false, eval b X.env) :: starEach [] X.env) (hline : (apos.endLine == pos.line) = true) :
    PE X (.Call (.Attribute (.Name x p) "pop" apos) [b] [] pos) (tE Φ w (.popM i cb)) :=
  (pe_bm PySem.F.plainAttrs_list PySem.F.slot_list_pop PySem.F.type_list_pop mt_popAt (pe_var hN hv hd hc) (pa_cons hb pa_nil hs) (by rfl) (by rw [hs]; rfl) hline hs (by rfl)).via fun σ H Q ⟨ρ, F, S, h⟩ => by
    have h : PostE w F σ Q (if (mutS (getS ρ i)).isSome then (evE Φ cb ρ).bind fun x ρ => match mutS (getS ρ i), x with
      | some ds, .int k => (match ds[k.toNat]? with
        | some d => if 0 ≤ k ∧ k < 2 ^ 63 then .ok d (ρ.set i (remut (getS ρ i) (ds.eraseIdx k.toNat))) else .bad
        | none => .bad)
      | _, _ => .bad
      else .bad) := h
    cases q0 : mutS (getS ρ i) with
    | none => rw [q0] at h; exact h.elim
    | some ds0 =>
      rw [q0, if_pos (show (some ds0).isSome = true from rfl)] at h
      obtain ⟨s0, a, xs0, hi0, ms0, im0, hσ, fa0, ga0, ha0, rr0⟩ := S.mutL q0
      refine ⟨.ref a, hσ, .inl ⟨rfl, xs0, SqL.of ha0⟩, ρ, F, S, PostE.mono (PostE.bind h) fun v H1 ⟨d, ρ1, F1, l1, S1, r1, p1⟩ => ?_⟩
      dsimp only at p1
      cases q1 : mutS (getS ρ1 i) with
      | none => rw [q1] at p1; exact p1.elim
      | some ds =>
        rw [q1] at p1
        cases r1 with
        | int kk =>
          dsimp only at p1
          obtain ⟨s1, a1, xs, hi, ms, im, hσ1, fa, ga, ha1, rr⟩ := S1.mutL q1
          rw [hσ] at hσ1
          cases hσ1
          have gs : getS ρ1 i = s1 := by
            unfold getS
            rw [List.getD_eq_getElem?_getD, hi]
            rfl
          cases q2 : ds[kk.toNat]? with
          | none => rw [q2] at p1; exact p1.elim
          | some dd =>
            rw [q2] at p1
            dsimp only at p1
            by_cases c : 0 ≤ kk ∧ kk < 2 ^ 63
            · rw [if_pos c, gs] at p1
              obtain ⟨u, e1, ru⟩ := rr.get q2
              have lt : kk.toNat < xs.length := (List.getElem?_eq_some_iff.mp e1).1
              have c1 := c.1
              refine ⟨a, xs, kk, kk.toNat, u, rfl, rfl, ha1, Int.le_trans (by decide) c1, c.2, ?_, e1, ?_⟩
              · have h1 : (decide (0 ≤ kk) && decide (kk < (xs.length : Int))) = true := by
                  rw [decide_eq_true c1, decide_eq_true (by omega)]; rfl
                unfold seqIndex?
                simp only [if_neg (show ¬ kk < 0 by omega), h1, if_true]
              · exact p1 F1 _ u FLe.rf (S1.write (xs := xs) hi im hσ (rr.erase _)) ru
            · rw [if_neg c] at p1; exact p1.elim
        | _ => exact p1.elim
end
end HM

namespace HM
open PySem PySem.Spec PyProof.Rows L2

/-! ### targets -/
def Tg.ixs : Tg → List Nat
  | .one i => [i]
  | .many is => is
def Keep (is : List Nat) (σ σ' : L2.St) : Prop := σ'.length = σ.length ∧ ∀ (j : Nat), j ∉ is → σ'[j]? = σ[j]?
theorem Keep.rf {is : List Nat} {σ : L2.St} : Keep is σ σ := ⟨rfl, fun _ _ => rfl⟩
theorem Keep.set {is : List Nat} {σ : L2.St} {i : Nat} {o : Option V} (h : i ∈ is) : Keep is σ (σ.set i o) := ⟨List.length_set, fun j hj => List.getElem?_set_ne (by intro z; subst z; exact hj h)⟩
theorem Keep.tr {is : List Nat} {a b c : L2.St} (h : Keep is a b) (g : Keep is b c) : Keep is a c := ⟨g.1.trans h.1, fun j hj => (g.2 j hj).trans (h.2 j hj)⟩
theorem Keep.up {is js : List Nat} {a b : L2.St} (h : Keep is a b) (s : ∀ i ∈ is, i ∈ js) : Keep js a b := ⟨h.1, fun j hj => h.2 j fun z => hj (s j z)⟩
def tG (w : Wd) (tg : Tg) : TG := fun v σ H Q => ∃ ρ F d ρ', w.sim F H ρ σ ∧ Rep w.K F d v ∧ asgT tg d ρ = some ρ' ∧ ∀ σ', w.sim F H ρ' σ' → Keep tg.ixs σ σ' → Q σ' H
def tGs (w : Wd) (is : List Nat) : TGs := fun vs σ H Q => ∃ ρ F ds ρ', w.sim F H ρ σ ∧ RepAll w.K F ds vs ∧ putAll is ds ρ = some ρ' ∧ ∀ σ', w.sim F H ρ' σ' → Keep is σ σ' → Q σ' H
theorem _root_.L2.PG.via {X : Cx} {e : Expr} {t t' : TG} (h : PG X e t) (f : ∀ v σ H Q, t' v σ H Q → t v σ H Q) : PG X e t' := ⟨fun pins s σ H v u Q I r q => h.run pins s σ H v u Q I r (f v σ H Q q)⟩
theorem _root_.L2.PGs.via {X : Cx} {e : List Expr} {t t' : TGs} (h : PGs X e t) (f : ∀ v σ H Q, t' v σ H Q → t v σ H Q) : PGs X e t' := ⟨fun pins s σ H v u Q I r q => h.run pins s σ H v u Q I r (f v σ H Q q)⟩
theorem putS_some {ρ ρ' : Env} {i : Nat} {s : Slot} (h : putS ρ i s = some ρ') : ρ' = ρ.set i s := by
  unfold putS at h
  split at h
  · cases h
  · cases h
  · exact (Option.some.inj h).symm
section
variable {X : Cx} {w : Wd} {pos : Pos} {x : Str}
theorem sG_name {i : Nat} (hN : X.N.Nodup) (hi : X.N[i]? = some x) (hx : Loc X.env.scope x) (hf : X.fn x = true ∨ X.env.scope.names.lookup x = some .local) : PG X (.Name x pos) (tG w (.one i)) :=
  (pg_name hN hi hx hf).via fun v σ H Q ⟨ρ, F, d, ρ', S, r, e, q⟩ => by
    obtain rfl := putS_some e
    exact q _ (S.put r) (Keep.set List.mem_cons_self)
theorem sG_nil : PGs X [] (tGs w []) := pgs_nil.via fun vs σ H Q ⟨ρ, F, ds, ρ', S, r, e, q⟩ => by
  cases r with
  | nil => cases e; exact ⟨rfl, q σ S Keep.rf⟩
  | cons a b => cases e
theorem sG_cons {i : Nat} {is : List Nat} {es : List Expr} {p : Pos} (hN : X.N.Nodup) (hi : X.N[i]? = some x) (hx : Loc X.env.scope x) (hf : X.fn x = true ∨ X.env.scope.names.lookup x = some .local) (h : PGs X es (tGs w is)) : PGs X (.Name x p :: es) (tGs w (i :: is)) :=
  (pgs_cons (pg_name hN hi hx hf) h (by rfl)).via fun vs σ H Q ⟨ρ, F, ds, ρ', S, r, e, q⟩ => by
    cases r with
    | nil => cases e
    | @cons d v ds vs a b =>
      cases e1 : putS ρ i (.val d) with
      | none => rw [putAll, e1] at e; cases e
      | some ρ1 =>
        rw [putAll, e1] at e
        obtain rfl := putS_some e1
        exact ⟨v, vs, rfl, _, F, ds, ρ', S.put a, b, e, fun σ' S' k => q σ' S' ((Keep.set List.mem_cons_self).tr (k.up fun j hj => List.mem_cons_of_mem _ hj))⟩
theorem sG_tup (hK : X.K = w.K) (hc : X.calm = true) {is : List Nat} {es : List Expr} {k n : Nat} (h : PGs X es (tGs w is)) (hl : is.length = n) (hn : (assignEach es X.env).length = n) (hst : (assignEach es X.env).findIdx? (·.1) = none) : PG X (.Tuple es k pos) (tG w (.many is)) :=
  (pg_tup hc h hn hst).via fun v σ H Q ⟨ρ, F, d, ρ', S, r, e, q⟩ => by
    cases r with
    | @tup a xs ds s1 r1 =>
      have e' : putAll is ds ρ = some ρ' := e
      have len : ∀ (is : List Nat) (ds : List PyData) (ρ ρ' : Env), putAll is ds ρ = some ρ' → is.length = ds.length := fun is => by
        induction is with
        | nil => intro ds ρ ρ' h; cases ds with
                 | nil => rfl
                 | cons a b => cases h
        | cons i is ih => intro ds ρ ρ' h; cases ds with
                          | nil => cases h
                          | cons a b =>
                            cases e1 : putS ρ i (.val a) with
                            | none => rw [putAll, e1] at h; cases h
                            | some ρ1 => rw [putAll, e1] at h; rw [List.length_cons, List.length_cons, ih b ρ1 ρ' h]
      refine ⟨a, xs, rfl, by rw [hK]; exact SqT.mo S.fh s1, by rw [← r1.length, ← len _ _ _ _ e', hl], ρ, F, ds, ρ', S, r1, e', q⟩
    | _ => cases e
end

/-! ### what a loop walks -/
structure Src (K : PySem.W.Frag) (J : It) (Stay : Hp → Prop) (F0 : Hp) (ds : List PyData) : Prop where
  go : ∀ i H, i < ds.length → Stay H → J.go i H
  yld : ∀ (i : Nat) H x H' F, FLe F0 F → FLe F H → Stay H → J.yld i H x H' → i < ds.length → ∃ d F', ds[i]? = some d ∧ Ext F H F' H' ∧ Rep K F' d x
  stop : ∀ H, Stay H → J.stop ds.length H
theorem src_list {K : PySem.W.Frag} {F0 : Hp} {a : Addr} {xs : List V} {ds : List PyData} (h : Rd F0 a (.lst xs)) (r : RepAll K F0 ds xs) : Src K (Itl K a) (FLe F0) F0 ds where
  go := fun i H hi l => by
    obtain ⟨d, e⟩ : ∃ d, ds[i]? = some d := ⟨_, List.getElem?_eq_getElem hi⟩
    obtain ⟨v, e, _⟩ := r.get e
    exact ⟨xs, v, .inl (Rd.mo l h), e⟩
  yld := fun i H x H' F l1 l2 l3 y hi => by
    obtain ⟨rfl, y⟩ := y
    obtain ⟨d, e, q⟩ := r.getV (y xs (.inl (Rd.mo l3 h)))
    exact ⟨d, F, e, Ext.rf l2, q.mo l1⟩
  stop := fun H l => ⟨xs, .inl (Rd.mo l h), by rw [r.length]; exact Nat.le_refl _⟩
theorem src_tup {K : PySem.W.Frag} {F0 : Hp} {a : Addr} {xs : List V} {ds : List PyData} (h : SqT K F0 a xs) (r : RepAll K F0 ds xs) : Src K (Itt K a) (FLe F0) F0 ds where
  go := fun i H hi l => by
    obtain ⟨d, e⟩ : ∃ d, ds[i]? = some d := ⟨_, List.getElem?_eq_getElem hi⟩
    obtain ⟨v, e, _⟩ := r.get e
    exact ⟨xs, v, SqT.mo l h, e⟩
  yld := fun i H x H' F l1 l2 l3 y hi => by
    obtain ⟨rfl, y⟩ := y
    obtain ⟨d, e, q⟩ := r.getV (y xs (SqT.mo l3 h))
    exact ⟨d, F, e, Ext.rf l2, q.mo l1⟩
  stop := fun H l => ⟨xs, SqT.mo l h, by rw [r.length]; exact Nat.le_refl _⟩
/-- a list that may change, kept meanwhile -/
theorem src_mut {K : PySem.W.Frag} {F0 : Hp} {a : Addr} {xs : List V} {ds : List PyData} (r : RepAll K F0 ds xs) : Src K (Itl K a) (fun H => H a = some (.lst xs)) F0 ds where
  go := fun i H hi l => by
    obtain ⟨d, e⟩ : ∃ d, ds[i]? = some d := ⟨_, List.getElem?_eq_getElem hi⟩
    obtain ⟨v, e, _⟩ := r.get e
    exact ⟨xs, v, SqL.of l, e⟩
  yld := fun i H x H' F l1 l2 l3 y hi => by
    obtain ⟨rfl, y⟩ := y
    obtain ⟨d, e, q⟩ := r.getV (y xs (SqL.of l3))
    exact ⟨d, F, e, Ext.rf l2, q.mo l1⟩
  stop := fun H l => ⟨xs, SqL.of l, by rw [r.length]; exact Nat.le_refl _⟩
theorem src_range {K : PySem.W.Frag} {F0 : Hp} {lo : Int} {n : Nat} : Src K (Itr lo n) (FLe F0) F0 (rangeD lo n) where
  go := fun i H hi l => by
    have hi' : i < n := by simpa [rangeD] using hi
    exact hi'
  yld := fun i H x H' F l1 l2 l3 y hi => by
    obtain ⟨rfl, rfl⟩ := y
    have hi' : i < n := by simpa [rangeD] using hi
    exact ⟨.int (lo + i), F, by unfold rangeD; rw [List.getElem?_map, List.getElem?_range hi']; rfl, Ext.rf l2, .int _⟩
  stop := fun H l => by
    show n ≤ (rangeD lo n).length
    simp [rangeD]
def PostI (w : Wd) (F : Hp) (σ : L2.St) (Q : It → Hp → Prop) : R PyData → Prop
  | .ok d ρ => ∃ ds, itemsD d = some ds ∧ ∀ F' H' J, FLe F F' → w.sim F' H' ρ σ → Src w.K J (FLe F') F' ds → ds.length ≤ SL → Q J H'
  | .exc x ρ => PostX w F σ x ρ
  | .bad => False
def tI (Φ : Fns) (w : Wd) (c : E) : TI := fun σ H R => ∃ ρ F, w.sim F H ρ σ ∧ PostI w F σ R (evE Φ c ρ)
theorem _root_.L2.PI.via {X : Cx} {tg e : Expr} {t t' : TI} (h : PI X tg e t) (f : ∀ σ H Q, t' σ H Q → t σ H Q) : PI X tg e t' := ⟨fun pins s σ H Q I q => h.run pins s σ H Q I (f σ H Q q)⟩
section
variable {X : Cx} {Φ : Fns} {w : Wd} {pos p : Pos} {tg a b : Expr} {ca cb : E} {x : Str}
/-- what is walked is no longer than lists may be -/
theorem PI.sz {e : Expr} {wi : TI} (h : PI X tg e wi) : PI X tg e (fun σ H R => wi σ H fun J H' => (∀ a xs, (SqL X.K H' a xs ∨ SqT X.K H' a xs) → xs.length ≤ sizeLine) → R J H') := ⟨fun pins s σ H R I q =>
  thn (h.run pins s σ H _ I q) fun v s1 h1 => thn h1 fun itv s2 ⟨it, fp, tn, J, H', e, I2, T, t0, f, r⟩ => ⟨it, fp, tn, J, H', e, I2, T, t0, f, r fun a xs hs => by
    rcases hs with hs | hs
    · obtain ⟨_, _, _, z⟩ := I2.list hs; exact z
    · obtain ⟨_, _, _, z⟩ := I2.tuple hs; exact z⟩⟩
/-- a list or a tuple, whichever comes -/
theorem sI_val (hK : X.K = w.K) (ha : PE X a (tE Φ w ca)) : PI X tg a (tI Φ w ca) := by
  refine ⟨fun pins s σ H R I ⟨ρ, F, S, h⟩ => ?_⟩
  -- which of the two
  have key : ∀ (isL : Bool), (∀ d ρ', evE Φ ca ρ = .ok d ρ' → if isL = true then ∃ ds, d = .list ds else ∃ ds, d = .tuple ds) →
      wpAny (model X.prog X.w) X.A (eval a X.env) (fun v s1 => wpAny (model X.prog X.w) X.A (pyIter v) (PIE X pins σ tg R) X.xe s1) X.xe s := fun isL hd => by
    cases isL with
    | true =>
      refine (PI.sz (pi_list ha)).run pins s σ H R I ⟨ρ, F, S, ?_⟩
      cases q : evE Φ ca ρ with
      | bad => rw [q] at h; exact h
      | exc z ρ' => rw [q] at h; exact h
      | ok d ρ' =>
        rw [q] at h
        obtain ⟨ds, rfl⟩ := hd d ρ' q
        obtain ⟨ds', e, h⟩ := h
        cases e
        intro F' H' v l S' r
        cases r with
        | lst s1 r1 => exact ⟨_, rfl, ⟨_, .inl (Rd.mo S'.fh s1)⟩, fun sz => h F' H' _ l S' (by rw [hK]; exact src_list s1 r1) (by rw [r1.length, SL_eq]; exact sz _ _ (.inl (.inl (Rd.mo S'.fh s1))))⟩
    | false =>
      refine (PI.sz (pi_tup ha)).run pins s σ H R I ⟨ρ, F, S, ?_⟩
      cases q : evE Φ ca ρ with
      | bad => rw [q] at h; exact h
      | exc z ρ' => rw [q] at h; exact h
      | ok d ρ' =>
        rw [q] at h
        obtain ⟨ds, rfl⟩ := hd d ρ' q
        obtain ⟨ds', e, h⟩ := h
        cases e
        intro F' H' v l S' r
        cases r with
        | tup s1 r1 => exact ⟨_, rfl, ⟨_, by rw [hK]; exact SqT.mo S'.fh s1⟩, fun sz => h F' H' _ l S' (by rw [hK]; exact src_tup s1 r1) (by rw [r1.length, SL_eq]; exact sz _ _ (.inr (by rw [hK]; exact SqT.mo S'.fh s1)))⟩
  cases q : evE Φ ca ρ with
  | bad => rw [q] at h; exact h.elim
  | exc z ρ' => exact key true (fun d ρ2 e => by rw [q] at e; cases e)
  | ok d ρ' =>
    rw [q] at h
    obtain ⟨ds', e, _⟩ := h
    cases d with
    | list ds => exact key true (fun d2 ρ2 e => by rw [q] at e; cases e; exact ⟨ds, rfl⟩)
    | tuple ds => exact key false (fun d2 ρ2 e => by rw [q] at e; cases e; exact ⟨ds, rfl⟩)
    | _ => cases e
theorem sI_rng (hg : Gl X "range") (hm : X.mg "range" = none) (ha : PE X a (tE Φ w ca)) (hs : starEach [a] X.env = [(false, eval a X.env)]) : PI X tg (.Call (.Name "range" p) [a] [] pos) (tI Φ w (.rng ca)) :=
  (pi_range1 hg hm (pa_cons ha pa_nil hs) hs).via fun σ H R ⟨ρ, F, S, h⟩ => ⟨ρ, F, S, by
    have h : PostI w F σ R ((evE Φ ca ρ).bind fun x ρ => .of (rngD (.int 0) x) ρ) := h
    cases q : evE Φ ca ρ with
    | bad => rw [q] at h; exact h
    | exc z ρ' => rw [q] at h; exact h
    | ok d ρ' =>
      rw [q] at h
      have h : PostI w F σ R (.of (rngD (.int 0) d) ρ') := h
      intro F' H' v l S' r
      cases r with
      | int j =>
        by_cases c : rngOk 0 j
        · rw [show rngD (.int 0) (.int j) = some (.list (rangeD 0 (j - 0).toNat)) from if_pos c] at h
          obtain ⟨ds, e, h⟩ := h
          cases e
          refine ⟨j, rfl, c.2.2.1, c.2.2.2.1, h F' H' _ l S' ?_ ?_⟩
          · rw [Int.sub_zero]
            exact src_range
          · have := c.2.2.2.2
            simp only [rangeD, List.length_map, List.length_range]
            exact this
        · rw [show rngD (.int 0) (.int j) = none from if_neg c] at h
          exact h.elim
      | _ => exact h.elim⟩
theorem sI_rng2 (hg : Gl X "range") (hm : X.mg "range" = none) (ha : PE X a (tE Φ w ca)) (hb : PE X b (tE Φ w cb)) (hs : starEach [a, b] X.env = [(false, eval a X.env), (false, eval b X.env)]) (hs2 : starEach [b] X.env = [(false, eval b X.env)]) :
    PI X tg (.Call (.Name "range" p) [a, b] [] pos) (tI Φ w (.rng2 ca cb)) :=
  (pi_range2 hg hm (pa_cons ha (pa_cons hb pa_nil hs2) (by rw [hs, hs2])) hs hs2).via fun σ H R ⟨ρ, F, S, h⟩ => ⟨ρ, F, S, by
    have h : PostI w F σ R ((evE Φ ca ρ).bind fun x ρ => (evE Φ cb ρ).bind fun y ρ => .of (rngD x y) ρ) := h
    cases q : evE Φ ca ρ with
    | bad => rw [q] at h; exact h
    | exc z ρ' => rw [q] at h; exact h
    | ok d ρ' =>
      rw [q] at h
      intro F' H' v l S' r
      refine ⟨ρ', F', S', ?_⟩
      have h : PostI w F σ R ((evE Φ cb ρ').bind fun y ρ => .of (rngD d y) ρ) := h
      cases q2 : evE Φ cb ρ' with
      | bad => rw [q2] at h; exact h.elim
      | exc z ρ2 => rw [q2] at h; exact PostX.up h l
      | ok d2 ρ2 =>
        rw [q2] at h
        have h : PostI w F σ R (.of (rngD d d2) ρ2) := h
        intro F2 H2 v2 l2 S2 r2
        cases r with
        | int i =>
          cases r2 with
          | int j =>
            by_cases c : rngOk i j
            · rw [show rngD (.int i) (.int j) = some (.list (rangeD i (j - i).toNat)) from if_pos c] at h
              obtain ⟨ds, e, h⟩ := h
              cases e
              exact ⟨i, j, rfl, ⟨c.1, c.2.1, c.2.2.1, c.2.2.2.1⟩, h F2 H2 _ (l.tr l2) S2 src_range (by have := c.2.2.2.2; simp only [rangeD, List.length_map, List.length_range]; exact this)⟩
            · rw [show rngD (.int i) (.int j) = none from if_neg c] at h
              exact h.elim
          | _ => exact h.elim
        | _ => cases r2 <;> exact h.elim⟩
end

/-! ### comprehensions -/
def W0 : WX := fun _ _ _ _ => False
def Wd.at (w : Wd) (G : Hp) : Wd := { w with G := G, W := W0 }
theorem PE.any {X : Cx} {e : Expr} {ι : Sort _} {t : ι → TE} (h : ∀ i, PE X e (t i)) : PE X e (fun σ H Q => ∃ i, t i σ H Q) := ⟨fun pins s σ H Q I ⟨i, q⟩ => (h i).run pins s σ H Q I q⟩
theorem PTs.any {X : Cx} {e : List Expr} {ι : Sort _} {t : ι → TT} (h : ∀ i, PTs X e (t i)) : PTs X e (fun σ H Q => ∃ i, t i σ H Q) := ⟨fun pins s σ H Q I ⟨i, q⟩ => (h i).run pins s σ H Q I q⟩
theorem PG.any {X : Cx} {e : Expr} {ι : Sort _} {t : ι → TG} (h : ∀ i, PG X e (t i)) : PG X e (fun v σ H Q => ∃ i, t i v σ H Q) := ⟨fun pins s σ H v u Q I r ⟨i, q⟩ => (h i).run pins s σ H v u Q I r q⟩
def gG (w : Wd) (tg : Tg) : TG := fun v σ H Q => ∃ G, tG (w.at G) tg v σ H Q
def gT (Φ : Fns) (w : Wd) (c : E) : TT := fun σ H Q => ∃ G, tT Φ (w.at G) c σ H Q
def gE (Φ : Fns) (w : Wd) (c : E) : TE := fun σ H Q => ∃ G, tE Φ (w.at G) c σ H Q
theorem wipe_keep {own : List Nat} {σ σ' : L2.St} (k : Keep own σ σ') : L2.wipe σ' own = L2.wipe σ own := by
  have gen : ∀ (own is : List Nat), (∀ j, j ∈ is → j ∈ own) → ∀ σ σ' : L2.St, σ'.length = σ.length → (∀ j, j ∉ own → σ'[j]? = σ[j]?) → ∀ j, (j ∈ is ∨ j ∉ own) → (L2.wipe σ' is)[j]? = (L2.wipe σ is)[j]? := fun own is => by
    induction is with
    | nil => intro _ σ σ' _ h j hj; exact h j (hj.resolve_left (by simp))
    | cons i is ih =>
      intro hs σ σ' hl h j hj
      show ((L2.wipe σ' is).set i none)[j]? = ((L2.wipe σ is).set i none)[j]?
      by_cases e : j = i
      · subst e
        by_cases c : j < σ.length
        · rw [List.getElem?_set_self (by rw [wipe_length, hl]; exact c), List.getElem?_set_self (by rw [wipe_length]; exact c)]
        · rw [List.getElem?_eq_none (by rw [List.length_set, wipe_length, hl]; omega), List.getElem?_eq_none (by rw [List.length_set, wipe_length]; omega)]
      · rw [List.getElem?_set_ne (Ne.symm e), List.getElem?_set_ne (Ne.symm e)]
        exact ih (fun k hk => hs k (List.mem_cons_of_mem _ hk)) σ σ' hl h j (hj.imp (fun z => (List.mem_cons.mp z).resolve_left e) id)
  apply List.ext_getElem?
  intro j
  by_cases c : j ∈ own
  · exact gen own own (fun _ h => h) σ σ' k.1 k.2 j (.inl c)
  · exact gen own own (fun _ h => h) σ σ' k.1 k.2 j (.inr c)
theorem wipe_twice {own : List Nat} {σ : L2.St} : L2.wipe (L2.wipe σ own) own = L2.wipe σ own := by
  have k : ∀ is : List Nat, (∀ j ∈ is, j ∈ own) → Keep own σ (L2.wipe σ is) := fun is => by
    induction is with
    | nil => intro _; exact Keep.rf
    | cons i is ih =>
      intro h
      exact (ih fun j hj => h j (List.mem_cons_of_mem _ hj)).tr (Keep.set (h i List.mem_cons_self))
  exact wipe_keep (k own fun _ h => h)
theorem turn_ok {own : List Nat} {tg : Tg} {fc fe : Env → R PyData} {d : PyData} {ρ ρ' : Env} {y : Option PyData} (h : turnC own tg fc fe d ρ = .ok y ρ') :
    ∃ ρ2, asgT tg d (wipeS own ρ) = some ρ2 ∧ ((∃ ρ3 v, fc ρ2 = .ok (.bool true) ρ3 ∧ fe ρ3 = .ok v ρ' ∧ y = some v) ∨ (fc ρ2 = .ok (.bool false) ρ' ∧ y = none)) := by
  unfold turnC at h
  cases e : asgT tg d (wipeS own ρ) with
  | none => rw [e] at h; cases h
  | some ρ2 =>
    rw [e] at h
    obtain ⟨c, ρ3, e1, h⟩ := bind_ok h
    cases c with
    | bool b =>
      cases b with
      | true =>
        obtain ⟨v, ρ4, e2, h⟩ := bind_ok h
        cases h
        exact ⟨ρ2, rfl, .inl ⟨ρ3, v, e1, e2, rfl⟩⟩
      | false => cases h; exact ⟨ρ2, rfl, .inr ⟨e1, rfl⟩⟩
    | _ => cases h
theorem comp_cons {f : PyData → Env → R (Option PyData)} {d : PyData} {ds zs : List PyData} {ρ ρ' : Env} (h : compGo f (d :: ds) ρ = .ok zs ρ') : ∃ y ρ1 ys, f d ρ = .ok y ρ1 ∧ compGo f ds ρ1 = .ok ys ρ' ∧ zs = (match y with | some y => y :: ys | none => ys) := by
  rw [compGo] at h
  cases e : f d ρ with
  | ok y ρ1 =>
    rw [e] at h
    cases e2 : compGo f ds ρ1 with
    | ok ys ρ2 => simp only [e2] at h; cases h; exact ⟨y, ρ1, ys, rfl, e2, rfl⟩
    | exc z ρ2 => simp only [e2] at h; cases h
    | bad => simp only [e2] at h; cases h
  | exc z ρ1 => rw [e] at h; cases h
  | bad => rw [e] at h; cases h
/-- a comprehension's turns -/
theorem lc_go {Φ : Fns} {w : Wd} {J : It} {Stay : Hp → Prop} {F1 H1 : Hp} {ds zs : List PyData} {own : List Nat} {tg : Tg} {elt cond : E} {ρ ρ5 : Env} {σ : L2.St} {D : Addr} {Qd : Hp → Prop}
    (hJ : Src w.K J Stay F1 ds) (hst : ∀ F H ρ u, FLe F1 F → Sim w.K (upd w.G D u) w.pa F H ρ (L2.wipe σ own) → Stay H) (S : w.sim F1 H1 ρ σ) (ht : ∀ i ∈ tg.ixs, i ∈ own) (hl : ds.length ≤ SL)
    (hgo : compGo (turnC own tg (evE Φ cond) (evE Φ elt)) ds ρ = .ok zs ρ5) (hD : H1 D = none)
    (done : ∀ F H acc, FLe F1 F → Sim w.K (upd w.G D (.lst acc)) w.pa F H (wipeS own ρ5) (L2.wipe σ own) → RepAll w.K F zs acc → Qd H) :
    ∃ W : Nat → Nat → Hp → Prop, (∃ m, W 0 m (upd H1 D (.lst []))) ∧ ∀ i m H, W i m H →
      (J.stop i H ∧ Qd H) ∨ (J.go i H ∧ ∃ Nx : Hp → Prop, (∀ H', Nx H' → ∃ m', m' < m ∧ W (i + 1) m' H') ∧ ∀ x H', J.yld i H x H' → gG w tg x (L2.wipe σ own) H' fun σ2 H2 => L2.wipe σ2 own = L2.wipe σ own ∧ gT Φ w cond σ2 H2 fun b H3 =>
        if b = true then gE Φ w elt σ2 H3 fun y H4 => ∃ acc, H4 D = some (.lst acc) ∧ acc.length < sizeLine ∧ Nx (upd H4 D (.lst (acc ++ [y]))) else Nx H3) := by
  refine ⟨fun i m H => m = ds.length - i ∧ i ≤ ds.length ∧ ∃ F ρi acc ys rest, FLe F1 F ∧ Sim w.K (upd w.G D (.lst acc)) w.pa F H (wipeS own ρi) (L2.wipe σ own) ∧ RepAll w.K F ys acc ∧ ys.length ≤ i ∧
    compGo (turnC own tg (evE Φ cond) (evE Φ elt)) (ds.drop i) ρi = .ok rest ρ5 ∧ zs = ys ++ rest,
    ⟨ds.length, by simp, Nat.zero_le _, F1, ρ, [], [], zs, FLe.rf, (S.prot hD (.lst [])).wipe own, .nil, Nat.le_refl _, hgo, rfl⟩, ?_⟩
  rintro i m H ⟨rfl, hi, F, ρi, acc, ys, rest, l, Si, ra, hy, hg, hz⟩
  have stay : Stay H := hst F H _ _ l Si
  by_cases hlt : i < ds.length
  · refine .inr ⟨hJ.go i H hlt stay, fun H' => ∃ F ρi acc ys rest, FLe F1 F ∧ Sim w.K (upd w.G D (.lst acc)) w.pa F H' (wipeS own ρi) (L2.wipe σ own) ∧ RepAll w.K F ys acc ∧ ys.length ≤ i + 1 ∧
      compGo (turnC own tg (evE Φ cond) (evE Φ elt)) (ds.drop (i + 1)) ρi = .ok rest ρ5 ∧ zs = ys ++ rest, fun H' h => ⟨ds.length - (i + 1), by omega, rfl, hlt, h⟩, fun x H' y => ?_⟩
    obtain ⟨d, F', ed, ext, rd⟩ := hJ.yld i H x H' F l Si.fh stay y hlt
    have S' := Si.ext ext
    have edrop : ds.drop i = d :: ds.drop (i + 1) := by
      rw [List.drop_eq_getElem_cons hlt]
      rw [List.getElem?_eq_getElem hlt] at ed
      rw [Option.some.inj ed]
    rw [edrop] at hg
    obtain ⟨yo, ρ1, ys', e1, e2, e3⟩ := comp_cons hg
    obtain ⟨ρ2, e4, e5⟩ := turn_ok e1
    have ll := l.tr ext.ff
    refine ⟨upd w.G D (.lst acc), wipeS own ρi, F', d, ρ2, S', rd, e4, fun σ2 S2 k => ⟨?_, ?_⟩⟩
    · rw [wipe_keep (k.up ht), wipe_twice]
    have wp : L2.wipe σ2 own = L2.wipe σ own := by rw [wipe_keep (k.up ht), wipe_twice]
    refine ⟨upd w.G D (.lst acc), ρ2, F', S2, ?_⟩
    have alen : acc.length < sizeLine := by
      have a1 := ra.length
      have a2 : SL = sizeLine := SL_eq
      omega
    rcases e5 with ⟨ρ3, v, e6, e7, rfl⟩ | ⟨e6, rfl⟩
    · rw [e6]
      intro F3 H3 l3 S3
      rw [if_pos rfl]
      refine ⟨upd w.G D (.lst acc), ρ3, F3, S3, ?_⟩
      rw [e7]
      intro F4 H4 u l4 S4 r4
      have hD4 : H4 D = some (.lst acc) := S4.gh D _ upd_same
      refine ⟨acc, hD4, alen, F4, ρ1, acc ++ [u], ys ++ [v], ys', ll.tr (l3.tr l4), ?_, (ra.mo (ext.ff.tr (l3.tr l4))).app (.cons r4 .nil), ?_, e2, ?_⟩
      · have := (S4.reprot (u' := .lst (acc ++ [u]))).wipe own
        rw [wp] at this
        exact this
      · rw [List.length_append, List.length_singleton]; omega
      · rw [hz, e3, List.append_assoc]; rfl
    · rw [e6]
      intro F3 H3 l3 S3
      rw [if_neg Bool.false_ne_true]
      refine ⟨F3, ρ1, acc, ys, ys', ll.tr l3, ?_, ra.mo (ext.ff.tr l3), by omega, e2, ?_⟩
      · have := S3.wipe own
        rw [wp] at this
        exact this
      · rw [hz, e3]
  · have e : i = ds.length := by omega
    subst e
    rw [List.drop_length] at hg
    cases hg
    refine .inl ⟨hJ.stop H stay, done F H acc l Si ?_⟩
    rw [hz, List.append_nil]
    exact ra
section
variable {X : Cx} {Φ : Fns} {w : Wd} {pos p : Pos} {tg iter elt' : Expr} {ifs : List Expr} {src elt cond : E} {x : Str} {tgc : Tg} {own : List (Str × Nat)} {scope : Scope}
/-- what a comprehension's parts are -/
structure CompOk (X : Cx) (Φ : Fns) (w : Wd) (tg elt' : Expr) (ifs : List Expr) (scope : Scope) (own : List (Str × Nat)) (tgc : Tg) (elt cond : E) : Prop where
  nd : X.N.Nodup
  calm : X.calm = true
  blk : BlkOk X.N X.env.scope scope own
  ixs : ∀ i ∈ tgc.ixs, i ∈ own.map (·.2)
  g : ∀ G (s : Shared) (H : Hp) (C : Addr) (cl : List (Str × Addr)) (fp : List Addr), PG (X.blk s H scope (compEnvC scope cl C X.env) fp) tg (tG (w.at G) tgc)
  t : ∀ G (s : Shared) (H : Hp) (C : Addr) (cl : List (Str × Addr)) (fp : List Addr), PTs (X.blk s H scope (compEnvC scope cl C X.env) fp) ifs (tT Φ (w.at G) cond)
  e : ∀ G (s : Shared) (H : Hp) (C : Addr) (cl : List (Str × Addr)) (fp : List Addr), PE (X.blk s H scope (compEnvC scope cl C X.env) fp) elt' (tE Φ (w.at G) elt)
theorem lc_read (c : CompOk X Φ w tg elt' ifs scope own tgc elt cond) {σ : L2.St} {H : Hp} {Q : VK} (h : tF Φ w (.comp elt tgc src cond (own.map (·.2))) σ H Q) : tLc (tI Φ w src) (gG w tgc) (gT Φ w cond) (gE Φ w elt) (own.map (·.2)) σ H Q := by
  obtain ⟨ρ, F, S, h⟩ := h
  refine ⟨ρ, F, S, ?_⟩
  have h : PostF w F σ Q ((evE Φ src ρ).bind fun x ρ => match itemsD x, ownOk (own.map (·.2)) ρ with
    | some ds, true => (compGo (turnC (own.map (·.2)) tgc (evE Φ cond) (evE Φ elt)) ds ρ).bind fun ys ρ5 => .ok (.list ys) (giveS (own.map (·.2)) ρ ρ5)
    | _, _ => .bad) := h
  cases q : evE Φ src ρ with
  | bad => rw [q] at h; exact h
  | exc z ρ' => rw [q] at h; exact h
  | ok d ρ1 =>
    rw [q] at h
    have h : PostF w F σ Q (match itemsD d, ownOk (own.map (·.2)) ρ1 with
      | some ds, true => (compGo (turnC (own.map (·.2)) tgc (evE Φ cond) (evE Φ elt)) ds ρ1).bind fun ys ρ5 => .ok (.list ys) (giveS (own.map (·.2)) ρ1 ρ5)
      | _, _ => .bad) := h
    cases q1 : itemsD d with
    | none => rw [q1] at h; exact h.elim
    | some ds =>
      cases q2 : ownOk (own.map (·.2)) ρ1 with
      | false => rw [q1, q2] at h; exact h.elim
      | true =>
        rw [q1, q2] at h
        have h : PostF w F σ Q ((compGo (turnC (own.map (·.2)) tgc (evE Φ cond) (evE Φ elt)) ds ρ1).bind fun ys ρ5 => .ok (.list ys) (giveS (own.map (·.2)) ρ1 ρ5)) := h
        cases q3 : compGo (turnC (own.map (·.2)) tgc (evE Φ cond) (evE Φ elt)) ds ρ1 with
        | bad => rw [q3] at h; exact h.elim
        | exc z ρ' =>
          exfalso
          have : ∀ (ds : List PyData) (ρ : Env) z ρ', compGo (turnC (own.map (·.2)) tgc (evE Φ cond) (evE Φ elt)) ds ρ ≠ .exc z ρ' := fun ds => by
            cases ds with
            | nil => intro ρ z ρ' e; cases e
            | cons d ds =>
              intro ρ z ρ' e
              rw [compGo] at e
              split at e
              · split at e <;> cases e
              · cases e
          exact this ds ρ1 z ρ' q3
        | ok zs ρ5 =>
          rw [q3] at h
          have h : ∀ F' H' p xs, FLe F F' → w.sim F' H' (giveS (own.map (·.2)) ρ1 ρ5) σ → Fresh w.K w.G w.pa F' H' (giveS (own.map (·.2)) ρ1 ρ5) σ p xs → RepAll w.K F' zs xs → Q (.ref p) H' := h
          refine ⟨ds, q1, fun F1 H1 J l1 S1 hJ hl D hD => ?_⟩
          have gD : w.G D = none := by
            cases e : w.G D with
            | none => rfl
            | some o => rw [S1.gh _ _ e] at hD; cases hD
          refine lc_go hJ (fun F H ρ u l S => l.tr S.fh) S1 c.ixs hl q3 hD fun F2 H2 acc l2 S2 ra => ?_
          obtain ⟨S3, fD, hD2, sepD⟩ := S2.unprot gD
          have S4 := S1.give l2 q2 S3
          -- the new list is none of the def's own
          have nf : Fresh w.K w.G w.pa F2 H2 (giveS (own.map (·.2)) ρ1 ρ5) σ D acc := by
            refine ⟨hD2, fD, gD, S1.neP hD, fun j s hj ms e => ?_⟩
            have q := S4.slot j s hj
            -- its slot was there ahead of the comprehension, or is one that the turns left
            by_cases ho : j ∈ own.map (·.2)
            · have hj2 : j < List.length ρ5 := by
                have := (List.getElem?_eq_some_iff.mp hj).1
                rw [giveS_len] at this; exact this
              rw [giveS_own ho hj2] at hj
              cases hj
              have := List.all_eq_true.mp q2 j ho
              cases q4 : getS ρ1 j with
              | un => rw [q4] at ms; cases ms
              | val d => rw [q4] at ms; cases ms
              | mu ds => rw [q4] at this; cases this
              | par ds => rw [q4] at this; cases this
            · rw [giveS_get ho] at hj
              have hw : (L2.wipe σ (own.map (·.2)))[j]? = σ[j]? := by
                have k : ∀ is : List Nat, j ∉ is → (L2.wipe σ is)[j]? = σ[j]? := fun is => by
                  induction is with
                  | nil => intro _; rfl
                  | cons i is ih =>
                    intro h
                    have h1 : j ≠ i ∧ j ∉ is := by simpa using h
                    show ((L2.wipe σ is).set i none)[j]? = σ[j]?
                    rw [List.getElem?_set_ne (Ne.symm h1.1)]
                    exact ih h1.2
                exact k _ ho
              exact sepD j s (by rw [wipeS_get ho]; exact hj) ms (by rw [hw]; exact e)
          exact h F2 H2 D acc (l1.tr l2) S4 nf ra
theorem sF_comp (c : CompOk X Φ w tg elt' ifs scope own tgc elt cond) (hi : PI X tg iter (tI Φ w src)) (hs : ∀ x, foldedSetIterable iter X.env x = pure x) : PE X (.ListComp elt' [⟨tg, iter, ifs, 0⟩] scope pos) (tF Φ w (.comp elt tgc src cond (own.map (·.2)))) :=
  (pe_lc c.calm c.nd hi c.blk (fun s H C cl fp => PG.any fun G => c.g G s H C cl fp) (fun s H C cl fp => PTs.any fun G => c.t G s H C cl fp) (fun s H C cl fp => PE.any fun G => c.e G s H C cl fp) hs).via fun σ H Q h => lc_read c h
theorem comp_list {own : List Nat} (ρ : Env) (d : PyData) (ρ' : Env) (h : evE Φ (.comp elt tgc src cond own) ρ = .ok d ρ') : ∃ ds, d = .list ds := by
  obtain ⟨x, ρ1, _, h⟩ := bind_ok (show (evE Φ src ρ).bind (fun x ρ => match itemsD x, ownOk own ρ with
    | some ds, true => (compGo (turnC own tgc (evE Φ cond) (evE Φ elt)) ds ρ).bind fun ys ρ5 => .ok (.list ys) (giveS own ρ ρ5)
    | _, _ => .bad) = .ok d ρ' from h)
  split at h
  · obtain ⟨y, ρ2, _, h⟩ := bind_ok h
    cases h
    exact ⟨_, rfl⟩
  · cases h
end
end HM

namespace HM
open PySem PySem.Spec PyProof.Rows L2

/-! ### statements -/
def PostS (w : Wd) (F : Hp) (D : Ends) : O → Prop
  | .nx ρ => ∀ F' H' σ, FLe F F' → w.sim F' H' ρ σ → D.nx σ H'
  | .ret own d ρ => ∀ F' H' σ v, FLe F F' → w.sim F' H' ρ σ → RetOk w.K w.G w.pa own F' H' d v → D.rt v H'
  | .brk ρ => ∀ F' H' σ, FLe F F' → w.sim F' H' ρ σ → D.bk σ H'
  | .cnt ρ => ∀ F' H' σ, FLe F F' → w.sim F' H' ρ σ → D.ct σ H'
  | .exc x ρ => ∀ σ, PostX w F σ x ρ
  | .bad => False
theorem PostS.up {w : Wd} {F F1 : Hp} {D : Ends} {r : O} (h : PostS w F D r) (l : FLe F F1) : PostS w F1 D r := by
  cases r with
  | nx ρ => exact fun F' H' σ l' => h F' H' σ (l.tr l')
  | ret own d ρ => exact fun F' H' σ v l' => h F' H' σ v (l.tr l')
  | brk ρ => exact fun F' H' σ l' => h F' H' σ (l.tr l')
  | cnt ρ => exact fun F' H' σ l' => h F' H' σ (l.tr l')
  | exc x ρ => exact fun σ => PostX.up (h σ) l
  | bad => exact h
theorem PostS.nt {w : Wd} {F : Hp} {D : Ends} (h : PostS w F D .bad) {P : Prop} : P := False.elim h
noncomputable def tS (Φ : Fns) (w : Wd) (c : S) : TS := fun D σ H => ∃ ρ F, w.sim F H ρ σ ∧ PostS w F D (evS Φ c ρ)
theorem PostE.out {w : Wd} {F : Hp} {σ : L2.St} {D : Ends} {r : R PyData} {f : PyData → Env → O} (h : PostS w F D (r.out f)) : PostE w F σ (fun v H1 => Got w F σ v H1 fun d ρ F1 => PostS w F1 D (f d ρ)) r := by
  cases r with
  | ok d ρ => exact fun F' H' v l S q => ⟨d, ρ, F', l, S, q, PostS.up h l⟩
  | exc x ρ => exact h σ
  | bad => exact h
theorem PostA.out {w : Wd} {F : Hp} {σ : L2.St} {D : Ends} {r : R PyData} {f : PyData → Env → O} (h : PostS w F D (r.out f)) : PostA w F σ (fun v H1 => GotA w F σ v H1 fun d ρ F1 => PostS w F1 D (f d ρ)) r := by
  cases r with
  | ok d ρ => exact fun F' H' v l S q => ⟨d, ρ, F', l, S, q, PostS.up h l⟩
  | exc x ρ => exact h σ
  | bad => exact h
/-- a new list has come -/
def GotF (w : Wd) (F : Hp) (σ : L2.St) (v : V) (H : Hp) (k : PyData → Env → Hp → Prop) : Prop := ∃ ds ρ F1 p xs, v = .ref p ∧ FLe F F1 ∧ w.sim F1 H ρ σ ∧ Fresh w.K w.G w.pa F1 H ρ σ p xs ∧ RepAll w.K F1 ds xs ∧ k (.list ds) ρ F1
theorem PostF.out {w : Wd} {F : Hp} {σ : L2.St} {D : Ends} {r : R PyData} {f : PyData → Env → O} (h : PostS w F D (r.out f)) (hl : ∀ d ρ, r = .ok d ρ → f d ρ ≠ .bad → ∃ ds, d = .list ds) : PostF w F σ (fun v H1 => GotF w F σ v H1 fun d ρ F1 => PostS w F1 D (f d ρ)) r := by
  cases r with
  | ok d ρ =>
    obtain ⟨ds, rfl⟩ := hl d ρ rfl fun z => by
      have h : PostS w F D (f d ρ) := h
      rw [z] at h; exact h
    exact fun F' H' p xs l S fr q => ⟨ds, ρ, F', p, xs, rfl, l, S, fr, q, PostS.up h l⟩
  | exc x ρ => exact h σ
  | bad => exact h.elim
theorem PostT.out {w : Wd} {F : Hp} {σ : L2.St} {D : Ends} {r : R PyData} {f : PyData → Env → O} (h : PostS w F D (r.out f)) (hf : ∀ d ρ, f d ρ ≠ .bad → ∃ b, d = .bool b) : PostT w F σ (fun b H1 => ∃ ρ F1, FLe F F1 ∧ w.sim F1 H1 ρ σ ∧ PostS w F1 D (f (.bool b) ρ)) r := by
  cases r with
  | ok d ρ =>
    obtain ⟨b, rfl⟩ := hf d ρ fun z => by
      have h : PostS w F D (f d ρ) := h
      rw [z] at h; exact h
    exact fun F' H' l S => ⟨ρ, F', l, S, PostS.up h l⟩
  | exc x ρ => exact h σ
  | bad => exact h
theorem _root_.L2.PS.via {X : Cx} {e : Stmt} {t t' : TS} (h : PS X e t) (f : ∀ D σ H, t' D σ H → t D σ H) : PS X e t' := ⟨fun pins s σ H D I q => h.run pins s σ H D I (f D σ H q)⟩
theorem _root_.L2.PSs.via {X : Cx} {e : List Stmt} {t t' : TS} (h : PSs X e t) (f : ∀ D σ H, t' D σ H → t D σ H) : PSs X e t' := ⟨fun pins s σ H D I q => h.run pins s σ H D I (f D σ H q)⟩
theorem getS_at {ρ : Env} {i : Nat} {s : Slot} (h : ρ[i]? = some s) : getS ρ i = s := by
  unfold getS
  rw [List.getD_eq_getElem?_getD, h]
  rfl
section
variable {X : Cx} {Φ : Fns} {w : Wd} {pos p p2 : Pos} {e a b : Expr} {ce ca cb : E} {x y : Str} {i j : Nat} {st : Stmt} {sts ss ts : List Stmt} {cs ct : S} {cond : E}
theorem sS_nil : PSs X [] (tS Φ w .skip) := pss_nil.via fun D σ H ⟨ρ, F, S, h⟩ => h F H σ FLe.rf S
theorem sS_pass : PS X (.Pass pos) (tS Φ w .skip) := ps_pass.via fun D σ H ⟨ρ, F, S, h⟩ => h F H σ FLe.rf S
theorem sS_doc {z k} : PS X (.Expr (.Constant (.str z) k p) pos) (tS Φ w .skip) := ps_doc.via fun D σ H ⟨ρ, F, S, h⟩ => h F H σ FLe.rf S
theorem sS_brk : PS X (.Break pos) (tS Φ w .brk) := ps_break.via fun D σ H ⟨ρ, F, S, h⟩ => h F H σ FLe.rf S
theorem sS_cnt : PS X (.Continue pos) (tS Φ w .cnt) := ps_continue.via fun D σ H ⟨ρ, F, S, h⟩ => h F H σ FLe.rf S
theorem sS_cons (h1 : PS X st (tS Φ w cs)) (h2 : PSs X sts (tS Φ w ct)) : PSs X (st :: sts) (tS Φ w (.seq cs ct)) := (pss_cons h1 h2).via fun D σ H ⟨ρ, F, S, h⟩ => ⟨ρ, F, S, by
  have h : PostS w F D (match evS Φ cs ρ with
    | .nx ρ' => evS Φ ct ρ'
    | o => o) := h
  cases q : evS Φ cs ρ with
  | nx ρ' => rw [q] at h; exact fun F' H' σ' l S' => ⟨ρ', F', S', PostS.up h l⟩
  | ret own d ρ' => rw [q] at h; exact h
  | brk ρ' => rw [q] at h; exact h
  | cnt ρ' => rw [q] at h; exact h
  | exc z ρ' => rw [q] at h; exact h
  | bad => rw [q] at h; exact h⟩
theorem sS_ite {c : Expr} (hc : PT X c (tT Φ w cond)) (ha : PSs X ss (tS Φ w cs)) (hb : PSs X ts (tS Φ w ct)) : PS X (.If c ss ts pos) (tS Φ w (.ite cond cs ct)) := (ps_if hc ha hb).via fun D σ H ⟨ρ, F, S, h⟩ => ⟨ρ, F, S, by
  refine PostT.mono (PostT.out (show PostS w F D ((evE Φ cond ρ).out fun x ρ => match x with | .bool true => evS Φ cs ρ | .bool false => evS Φ ct ρ | _ => .bad) from h) fun d ρ n => ?_) fun b H1 ⟨ρ1, F1, l, S1, h1⟩ => ?_
  · cases d with
    | bool b => exact ⟨b, rfl⟩
    | _ => exact absurd rfl n
  · cases b with
    | true => rw [if_pos rfl]; exact ⟨ρ1, F1, S1, h1⟩
    | false => rw [if_neg Bool.false_ne_true]; exact ⟨ρ1, F1, S1, h1⟩⟩
/-! ### stores -/
theorem asg_val {D : Ends} {σ : L2.St} {H : Hp} (h : tS Φ w (.asg i ce) D σ H) : tE Φ w ce σ H fun v H1 => gName i v σ H1 D.nx := by
  obtain ⟨ρ, F, S, h⟩ := h
  refine ⟨ρ, F, S, PostE.mono (PostE.out (show PostS w F D ((evE Φ ce ρ).out fun d ρ => O.of (putS ρ i (.val d))) from h)) fun v H1 ⟨d, ρ1, F1, l, S1, r, h1⟩ => ?_⟩
  cases q : putS ρ1 i (.val d) with
  | none => dsimp only at h1; rw [q] at h1; exact h1.elim
  | some ρ2 =>
    dsimp only at h1
    rw [q] at h1
    obtain rfl := putS_some q
    exact h1 F1 H1 _ FLe.rf (S1.put r)
theorem sS_asg (hN : X.N.Nodup) (hi : X.N[i]? = some x) (hx : Loc X.env.scope x) (hf : X.fn x = true ∨ X.env.scope.names.lookup x = some .local) (he : PE X e (tE Φ w ce)) (hs : swapsWith e (some (.Name x p)) pos.line X.env = pure false) :
    PS X (.Assign [.Name x p] e pos) (tS Φ w (.asg i ce)) := (ps_set hN hi hx he hs hf).via fun D σ H h => asg_val h
theorem asg_new {D : Ends} {σ : L2.St} {H : Hp} (h : tS Φ w (.asgM i ce) D σ H) : tF Φ w ce σ H fun v H1 => gName i v σ H1 D.nx := by
  obtain ⟨ρ, F, S, h⟩ := h
  refine ⟨ρ, F, S, ?_⟩
  have h : PostS w F D ((evE Φ ce ρ).out fun d ρ => match d with | .list ds => O.of (putS ρ i (.mu ds)) | _ => .bad) := h
  have p := PostF.out (σ := σ) h fun d ρ e n => by
    cases d with
    | list ds => exact ⟨ds, rfl⟩
    | _ => exact absurd rfl n
  cases q : evE Φ ce ρ with
  | bad => rw [q] at p; exact p
  | exc z ρ' => rw [q] at p; exact p
  | ok d ρ' =>
    rw [q] at p
    cases d with
    | list ds =>
      intro F' H' pp xs l S' fr r
      obtain ⟨ds2, ρ1, F1, p2, xs2, e1, l1, S1, fr1, r1, h1⟩ := p F' H' pp xs l S' fr r
      cases e1
      dsimp only at h1
      cases q2 : putS ρ1 i (.mu ds2) with
      | none => rw [q2] at h1; exact h1.elim
      | some ρ2 =>
        rw [q2] at h1
        obtain rfl := putS_some q2
        exact h1 F1 H' _ FLe.rf (fr1.put S1 r1 i)
    | _ => exact p
theorem sS_asgM (hN : X.N.Nodup) (hi : X.N[i]? = some x) (hx : Loc X.env.scope x) (hf : X.fn x = true ∨ X.env.scope.names.lookup x = some .local) (he : PE X e (tF Φ w ce)) (hs : swapsWith e (some (.Name x p)) pos.line X.env = pure false) :
    PS X (.Assign [.Name x p] e pos) (tS Φ w (.asgM i ce)) := (ps_set hN hi hx he hs hf).via fun D σ H h => asg_new h
theorem frz_read (hl : ∀ ρ d ρ', evE Φ ce ρ = .ok d ρ' → ∃ ds, d = .list ds) {σ : L2.St} {H : Hp} {Q : VK} (h : tE Φ w ce σ H Q) : tF Φ w ce σ H Q := by
  obtain ⟨ρ, F, S, p⟩ := h
  refine ⟨ρ, F, S, ?_⟩
  cases q : evE Φ ce ρ with
  | bad => rw [q] at p; exact p
  | exc x ρ' => rw [q] at p; exact p
  | ok d ρ' =>
    obtain ⟨ds, rfl⟩ := hl ρ d ρ' q
    rw [q] at p
    intro F' H' pp xs l S' fr r
    obtain ⟨le, S2⟩ := fr.frz S'
    exact p _ H' _ (l.tr le) S2 (.lst (.inl upd_same) (r.mo le))
section
variable {tg iter elt' : Expr} {ifs : List Expr} {src elt cnd : E} {tgc : Tg} {own : List (Str × Nat)} {scope : Scope}
theorem sS_setLc (c : CompOk X Φ w tg elt' ifs scope own tgc elt cnd) (hi' : PI X tg iter (tI Φ w src)) (hs : ∀ x, foldedSetIterable iter X.env x = pure x) (hi : X.N[i]? = some x) (hx : X.env.scope.names.lookup x = some .local)
    (hsw : swapsWith (.ListComp elt' [⟨tg, iter, ifs, 0⟩] scope p) (some (.Name x p2)) pos.line X.env = pure true) :
    PS X (.Assign [.Name x p2] (.ListComp elt' [⟨tg, iter, ifs, 0⟩] scope p) pos) (tS Φ w (.asg i (.comp elt tgc src cnd (own.map (·.2))))) :=
  (ps_setLc c.calm c.nd hi hx hsw hi' c.blk (fun s H C cl fp => PG.any fun G => c.g G s H C cl fp) (fun s H C cl fp => PTs.any fun G => c.t G s H C cl fp) (fun s H C cl fp => PE.any fun G => c.e G s H C cl fp) hs).via fun D σ H h => lc_read c (frz_read comp_list (asg_val h))
theorem sS_setLcM (c : CompOk X Φ w tg elt' ifs scope own tgc elt cnd) (hi' : PI X tg iter (tI Φ w src)) (hs : ∀ x, foldedSetIterable iter X.env x = pure x) (hi : X.N[i]? = some x) (hx : X.env.scope.names.lookup x = some .local)
    (hsw : swapsWith (.ListComp elt' [⟨tg, iter, ifs, 0⟩] scope p) (some (.Name x p2)) pos.line X.env = pure true) :
    PS X (.Assign [.Name x p2] (.ListComp elt' [⟨tg, iter, ifs, 0⟩] scope p) pos) (tS Φ w (.asgM i (.comp elt tgc src cnd (own.map (·.2))))) :=
  (ps_setLc c.calm c.nd hi hx hsw hi' c.blk (fun s H C cl fp => PG.any fun G => c.g G s H C cl fp) (fun s H C cl fp => PTs.any fun G => c.t G s H C cl fp) (fun s H C cl fp => PE.any fun G => c.e G s H C cl fp) hs).via fun D σ H h => lc_read c (asg_new h)
end
theorem sS_asgs {is : List Nat} {es : List Expr} {k : Nat} (hg : PG X (.Tuple es k p) (tG w (.many is))) (he : PE X e (tE Φ w ce)) (hs : swapsWithSole [.Tuple es k p] e pos.line X.env = pure false) (hw : swappedStores [.Tuple es k p] e X.env = pure none) :
    PS X (.Assign [.Tuple es k p] e pos) (tS Φ w (.asgs is ce)) := (ps_asg he hg hs hw (by rfl)).via fun D σ H ⟨ρ, F, S, h⟩ => ⟨ρ, F, S, by
  refine PostE.mono (PostE.out (show PostS w F D ((evE Φ ce ρ).out fun d ρ => O.of (asgT (.many is) d ρ)) from h)) fun v H1 ⟨d, ρ1, F1, l, S1, r, h1⟩ => ?_
  dsimp only at h1
  cases q : asgT (.many is) d ρ1 with
  | none => rw [q] at h1; exact h1.elim
  | some ρ2 =>
    rw [q] at h1
    exact ⟨ρ1, F1, d, ρ2, S1, r, q, fun σ' S' _ => h1 F1 H1 σ' FLe.rf S'⟩⟩
theorem sS_two {px py pt : Pos} {kt k2 : Nat} {pt2 : Pos} (hc : X.calm = true) (hN : X.N.Nodup) (hi : X.N[i]? = some x) (hj : X.N[j]? = some y) (hij : i ≠ j)
    (hx : X.env.scope.names.lookup x = some .local) (hy : X.env.scope.names.lookup y = some .local) (ha : PE X a (tE Φ w ca)) (hb : PE X b (tE Φ w cb)) (hsa : starEach [a, b] X.env = (false, eval a X.env) :: starEach [b] X.env) (hsb : starEach [b] X.env = (false, eval b X.env) :: starEach [] X.env)
    (hw : swappedStores [.Tuple [.Name x px, .Name y py] kt pt] (.Tuple [a, b] k2 pt2) X.env = pure (some [x, y])) :
    PS X (.Assign [.Tuple [.Name x px, .Name y py] kt pt] (.Tuple [a, b] k2 pt2) pos) (tS Φ w (.two i j ca cb)) :=
  (ps_par hc hN hi hj hij hx hy (pa_cons ha (pa_cons hb pa_nil hsb) hsa) hw (by rfl)).via fun D σ H ⟨ρ, F, S, h⟩ => ⟨ρ, F, S, by
    refine PostE.mono (PostE.out (show PostS w F D ((evE Φ ca ρ).out fun x ρ => (evE Φ cb ρ).out fun y ρ => O.of ((putS ρ i (.val x)).bind fun ρ => putS ρ j (.val y))) from h)) fun v H1 ⟨d, ρ1, F1, l, S1, r, h1⟩ => ⟨ρ1, F1, S1, ?_⟩
    refine PostE.mono (PostE.out h1) fun v2 H2 ⟨d2, ρ2, F2, l2, S2, r2, h2⟩ => ⟨v, v2, rfl, ?_⟩
    dsimp only at h2
    cases q : putS ρ2 i (.val d) with
    | none => rw [q] at h2; exact h2.elim
    | some ρ3 =>
      rw [q] at h2
      obtain rfl := putS_some q
      have h2 : PostS w F2 D (O.of (putS (ρ2.set i (.val d)) j (.val d2))) := h2
      cases q2 : putS (ρ2.set i (.val d)) j (.val d2) with
      | none => rw [q2] at h2; exact h2.elim
      | some ρ4 =>
        rw [q2] at h2
        obtain rfl := putS_some q2
        exact h2 F2 H2 _ FLe.rf ((S2.put (r.mo l2)).put r2)⟩
/-! ### ends -/
theorem sS_ret (he : PE X e (tE Φ w ce)) : PS X (.Return (some e) pos) (tS Φ w (.ret ce)) := (ps_ret he).via fun D σ H ⟨ρ, F, S, h⟩ => ⟨ρ, F, S, by
  refine PostE.mono (PostE.out (show PostS w F D ((evE Φ ce ρ).out fun d ρ => .ret false d ρ) from h)) fun v H1 ⟨d, ρ1, F1, l, S1, r, h1⟩ => ?_
  exact h1 F1 H1 σ v FLe.rf S1 r⟩
theorem sS_retN : PS X (.Return none pos) (tS Φ w (.ret .non)) := ps_retN.via fun D σ H ⟨ρ, F, S, h⟩ => h F H σ .non FLe.rf S .non
theorem sS_retM (hN : X.N[i]? = some x) (hv : Vis X.env.scope x) (hd : (x == ("__debug__" : Str)) = false) (hc : (x == ("__classdict__" : Str)) = false) : PS X (.Return (some (.Name x p)) pos) (tS Φ w (.retM i)) :=
  (ps_ret (pe_var hN hv hd hc)).via fun D σ H ⟨ρ, F, S, h⟩ => by
    have h : PostS w F D (match getS ρ i with
      | .mu ds => .ret true (.list ds) ρ
      | _ => .bad) := h
    cases q : getS ρ i with
    | un => rw [q] at h; exact h.elim
    | val d => rw [q] at h; exact h.elim
    | par ds => rw [q] at h; exact h.elim
    | mu ds =>
      rw [q] at h
      obtain ⟨s0, a, xs, hi, ms, im, hσ, fa, ga, ha, rr⟩ := S.mutL (i := i) (ds := ds) (by rw [q]; rfl)
      rw [getS_at hi] at q
      subst q
      refine ⟨.ref a, hσ, h F H σ _ FLe.rf S ⟨ds, a, xs, rfl, rfl, ha, fa, ga, ?_, rr⟩⟩
      obtain ⟨b, ys, e', f, g, n, _⟩ := S.slot i _ hi
      rw [hσ] at e'; cases e'
      exact n
theorem sS_drop (he : PE X e (tE Φ w ce)) (hs : swapsWith e none pos.line X.env = pure false) : PS X (.Expr e pos) (tS Φ w (.drop ce)) := (ps_expr he hs).via fun D σ H ⟨ρ, F, S, h⟩ => ⟨ρ, F, S, by
  refine PostE.mono (PostE.out (show PostS w F D ((evE Φ ce ρ).out fun _ ρ => .nx ρ) from h)) fun v H1 ⟨d, ρ1, F1, l, S1, r, h1⟩ => ?_
  exact h1 F1 H1 σ FLe.rf S1⟩
/-! ### lists that change -/
theorem sS_app {apos : Pos} {cp : Pos} (hN : X.N[i]? = some x) (hv : Vis X.env.scope x) (hd : (x == ("__debug__" : Str)) = false) (hc : (x == ("__classdict__" : Str)) = false) (hb : PE X b (tE Φ w cb))
    (hs : starEach [b] X.env = (false, eval b X.env) :: starEach [] X.env) (hline : (apos.endLine == cp.line) = true) :
    PS X (.Expr (.Call (.Attribute (.Name x p) "append" apos) [b] [] cp) pos) (tS Φ w (.app i cb)) :=
  (ps_expr (pe_bm PySem.F.plainAttrs_list PySem.F.slot_list_append PySem.F.type_list_append mt_append (pe_var hN hv hd hc) (pa_cons hb pa_nil hs) (by rfl) (by rw [hs]; rfl) hline hs (by rfl)) (by rfl)).via fun D σ H ⟨ρ, F, S, h⟩ => by
    have h : PostS w F D (if (mutS (getS ρ i)).isSome then (evE Φ cb ρ).out fun d ρ => match mutS (getS ρ i) with
      | some ds => if ds.length < SL then .nx (ρ.set i (remut (getS ρ i) (ds ++ [d]))) else .bad
      | none => .bad
      else .bad) := h
    cases q0 : mutS (getS ρ i) with
    | none => rw [q0] at h; exact h.elim
    | some ds0 =>
      rw [q0, if_pos (show (some ds0).isSome = true from rfl)] at h
      obtain ⟨s0, a, xs0, hi0, ms0, im0, hσ, fa0, ga0, ha0, rr0⟩ := S.mutL q0
      refine ⟨.ref a, hσ, .inl ⟨rfl, xs0, SqL.of ha0⟩, ρ, F, S, PostE.mono (PostE.out h) fun v H1 ⟨d, ρ1, F1, l1, S1, r1, p1⟩ => ?_⟩
      dsimp only at p1
      cases q1 : mutS (getS ρ1 i) with
      | none => rw [q1] at p1; exact p1.elim
      | some ds =>
        rw [q1] at p1
        dsimp only at p1
        obtain ⟨s1, a1, xs, hi, ms, im, hσ1, fa, ga, ha1, rr⟩ := S1.mutL q1
        rw [hσ] at hσ1
        cases hσ1
        rw [getS_at hi] at p1
        by_cases c : ds.length < SL
        · rw [if_pos c] at p1
          refine ⟨a, xs, v, rfl, rfl, ha1, by rw [← rr.length, ← SL_eq]; exact c, ?_⟩
          exact p1 F1 _ σ FLe.rf (S1.write (xs := xs) hi im hσ (rr.app (.cons r1 .nil)))
        · rw [if_neg c] at p1; exact p1.elim
theorem sS_setM {sp : Pos} (hN : X.N[i]? = some x) (hv : Vis X.env.scope x) (hd : (x == ("__debug__" : Str)) = false) (hc : (x == ("__classdict__" : Str)) = false) (ha : PE X a (tE Φ w ca)) (he : PE X e (tE Φ w ce))
    (hs : swapsWithSole [.Subscript (.Name x p) a sp] e pos.line X.env = pure false) (hw : swappedStores [.Subscript (.Name x p) a sp] e X.env = pure none)
    (hga : ∀ v, assign (.Subscript (.Name x p) a sp) X.env v = (do
      let ov ← holding [v] (eval (.Name x p) X.env)
      let iv ← holding [v, ov] (eval a X.env)
      standAt sp
      holding [v, ov, iv] (setItem ov iv v)
      release [v, ov, iv] [])) :
    PS X (.Assign [.Subscript (.Name x p) a sp] e pos) (tS Φ w (.setM i ca ce)) :=
  (ps_asg he (pg_sub (pe_var hN hv hd hc) ha set_list hga) hs hw (by rfl)).via fun D σ H ⟨ρ, F, S, h⟩ => ⟨ρ, F, S, by
    refine PostE.mono (PostE.out (show PostS w F D ((evE Φ ce ρ).out fun d ρ => if (mutS (getS ρ i)).isSome then (evE Φ ca ρ).out fun k ρ => match mutS (getS ρ i), k with
      | some ds, .int k => (match setAt ds k d with
        | some ds' => .nx (ρ.set i (remut (getS ρ i) ds'))
        | none => .bad)
      | _, _ => .bad
      else .bad) from h)) fun v H1 ⟨d, ρ1, F1, l1, S1, r1, p1⟩ => ?_
    dsimp only at p1
    cases q0 : mutS (getS ρ1 i) with
    | none => rw [q0] at p1; exact p1.elim
    | some ds0 =>
      rw [q0, if_pos (show (some ds0).isSome = true from rfl)] at p1
      obtain ⟨s0, a, xs0, hi0, ms0, im0, hσ, fa0, ga0, ha0, rr0⟩ := S1.mutL q0
      refine ⟨.ref a, hσ, ρ1, F1, S1, PostE.mono (PostE.out p1) fun v2 H2 ⟨d2, ρ2, F2, l2, S2, r2, p2⟩ => ?_⟩
      dsimp only at p2
      cases q1 : mutS (getS ρ2 i) with
      | none => rw [q1] at p2; exact p2.elim
      | some ds =>
        rw [q1] at p2
        cases r2 with
        | int kk =>
          obtain ⟨s1, a1, xs, hi, ms, im, hσ1, fa, ga, ha1, rr⟩ := S2.mutL q1
          rw [hσ] at hσ1
          cases hσ1
          rw [getS_at hi] at p2
          dsimp only at p2
          cases q2 : setAt ds kk d with
          | none => rw [q2] at p2; exact p2.elim
          | some ds' =>
            rw [q2] at p2
            obtain ⟨jj, e1, rr2⟩ := setAt_rep rr (r1.mo l2) q2
            exact ⟨a, xs, kk, jj, rfl, rfl, ha1, e1, p2 F2 _ σ FLe.rf (S2.write (xs := xs) hi im hσ rr2)⟩
        | _ => exact p2.elim⟩
end
end HM

namespace HM
open PySem PySem.Spec PyProof.Rows L2
section
variable {X : Cx} {Φ : Fns} {w : Wd} {pos p : Pos} {e a b : Expr} {ce ca cb : E} {x y : Str} {i j : Nat} {st : Stmt} {sts ss ts : List Stmt} {cs ct : S} {cond : E}
def augOp : Op2 → Option Operator
  | .add => some .Add
  | .sub => some .Sub
  | _ => none
theorem sS_aug {o : Op2} {op : Operator} (ho : augOp o = some op) (hN : X.N.Nodup) (hi : X.N[i]? = some x) (hx : Loc X.env.scope x) (hf : X.fn x = true ∨ X.env.scope.names.lookup x = some .local) (he : PE X e (tE Φ w ce)) :
    PS X (.AugAssign (.Name x p) op e pos) (tS Φ w (.aug i o ce)) := by
  have key : ∀ (f : Int → Int → Int), (∀ i j, bin o (.int i) (.int j) = some (.int (f i j))) → (∀ i d z, bin o (.int i) d = some z → ∃ j, d = .int j) → PIp X op (ipI f) → PS X (.AugAssign (.Name x p) op e pos) (tS Φ w (.aug i o ce)) := fun f h1 h2 hp =>
    (ps_aug hN hi hx he hp hf).via fun D σ H ⟨ρ, F, S, h⟩ => by
      have h : PostS w F D (match getS ρ i with
        | .val (.int x) => (evE Φ ce ρ).out fun y ρ => match bin o (.int x) y with
          | some z => O.of (putS ρ i (.val z))
          | none => .bad
        | _ => .bad) := h
      cases q : getS ρ i with
      | un => rw [q] at h; exact h.elim
      | mu ds => rw [q] at h; exact h.elim
      | par ds => rw [q] at h; exact h.elim
      | val d =>
        rw [q] at h
        cases d with
        | int xi =>
          have hr : ρ[i]? = some (.val (.int xi)) := by
            unfold getS at q
            rw [List.getD_eq_getElem?_getD] at q
            cases q3 : ρ[i]? with
            | none => rw [q3] at q; cases q
            | some s => rw [q3] at q; exact congrArg some q
          obtain ⟨u, e1, r0⟩ := S.slot i _ hr
          refine ⟨u, e1, ρ, F, S, PostE.mono (PostE.out h) fun v H1 ⟨d, ρ1, F1, l1, S1, r1, p1⟩ => ?_⟩
          dsimp only at p1
          cases q1 : bin o (.int xi) d with
          | none => rw [q1] at p1; exact p1.elim
          | some z =>
            rw [q1] at p1
            obtain ⟨j, rfl⟩ := h2 _ _ _ q1
            rw [h1] at q1
            cases q1
            cases r0
            cases r1
            refine ⟨xi, j, rfl, rfl, ?_⟩
            dsimp only at p1
            cases q2 : putS ρ1 i (.val (.int (f xi j))) with
            | none => rw [q2] at p1; exact p1.elim
            | some ρ2 =>
              rw [q2] at p1
              obtain rfl := putS_some q2
              exact p1 F1 H1 _ FLe.rf (S1.put (.int _))
        | _ => exact h.elim
  cases o with
  | add => cases ho; exact key (fun i j => i + j) (fun _ _ => rfl) (fun i d z h => by cases d with | int j => exact ⟨j, rfl⟩ | _ => cases h) ip_add
  | sub => cases ho; exact key (fun i j => i - j) (fun _ _ => rfl) (fun i d z h => by cases d with | int j => exact ⟨j, rfl⟩ | _ => cases h) ip_sub
  | _ => cases ho
/-! ### loops -/
theorem forGo_out {w : Wd} {F : Hp} {D : Ends} {f : PyData → Env → O} {d : PyData} {ds : List PyData} {ρ : Env} (h : PostS w F D (forGo f (d :: ds) ρ)) (F0 : Hp) (l : FLe F0 F) :
    PostS w F { D with nx := fun σ H => ∃ ρ F, FLe F0 F ∧ w.sim F H ρ σ ∧ PostS w F D (forGo f ds ρ), ct := fun σ H => ∃ ρ F, FLe F0 F ∧ w.sim F H ρ σ ∧ PostS w F D (forGo f ds ρ), bk := D.nx } (f d ρ) := by
  rw [forGo] at h
  cases q : f d ρ with
  | nx ρ' => rw [q] at h; exact fun F' H' σ l' S => ⟨ρ', F', l.tr l', S, PostS.up h l'⟩
  | cnt ρ' => rw [q] at h; exact fun F' H' σ l' S => ⟨ρ', F', l.tr l', S, PostS.up h l'⟩
  | brk ρ' => rw [q] at h; exact h
  | ret own d ρ' => rw [q] at h; exact h
  | exc z ρ' => rw [q] at h; exact h
  | bad => rw [q] at h; exact h
theorem sS_for {tg iter : Expr} {tgc : Tg} {src : E} (hp : PassesOwn (model X.prog X.w) X.A X.env X.xe) (hc : X.calm = true) (hi : PI X tg iter (tI Φ w src)) (hg : PG X tg (tG w tgc)) (hb : PSs X ss (tS Φ w cs)) (hs : ∀ x, foldedSetIterable iter X.env x = pure x) :
    PS X (.For tg iter ss [] pos) (tS Φ w (.for_ tgc src cs)) := (ps_for hp hc hi hg hb hs).via fun D σ H ⟨ρ, F, S, h⟩ => ⟨ρ, F, S, by
  have h : PostS w F D ((evE Φ src ρ).out fun x ρ => match itemsD x with
    | some ds => forGo (fun d ρ => match asgT tgc d ρ with
      | some ρ' => evS Φ cs ρ'
      | none => .bad) ds ρ
    | none => .bad) := h
  cases q : evE Φ src ρ with
  | bad => rw [q] at h; exact h.elim
  | exc z ρ1 => rw [q] at h; exact h σ
  | ok d ρ1 =>
    rw [q] at h
    have h : PostS w F D (match itemsD d with
      | some ds => forGo (fun d ρ => match asgT tgc d ρ with
        | some ρ' => evS Φ cs ρ'
        | none => .bad) ds ρ1
      | none => .bad) := h
    cases q1 : itemsD d with
    | none => rw [q1] at h; exact h.elim
    | some ds =>
      rw [q1] at h
      refine ⟨ds, q1, fun F1 H1 J l1 S1 hJ hl => ?_⟩
      generalize hf : (fun d ρ => match asgT tgc d ρ with
        | some ρ' => evS Φ cs ρ'
        | none => O.bad : PyData → Env → O) = f at h
      refine ⟨fun i m σ H => m = ds.length - i ∧ i ≤ ds.length ∧ ∃ ρ F, FLe F1 F ∧ w.sim F H ρ σ ∧ PostS w F D (forGo f (ds.drop i) ρ), ⟨ds.length, by simp, Nat.zero_le _, ρ1, F1, FLe.rf, S1, PostS.up h l1⟩, ?_⟩
      rintro i m σ H ⟨rfl, hi', ρi, Fi, li, Si, hg'⟩
      by_cases hlt : i < ds.length
      · refine .inr ⟨hJ.go i H hlt (li.tr Si.fh), fun σ H => ∃ ρ F, FLe F1 F ∧ w.sim F H ρ σ ∧ PostS w F D (forGo f (ds.drop (i + 1)) ρ), fun σ' H' h' => ⟨ds.length - (i + 1), by omega, rfl, hlt, h'⟩, fun x H' y => ?_⟩
        obtain ⟨d', F', ed, ext, rd⟩ := hJ.yld i H x H' Fi li Si.fh (li.tr Si.fh) y hlt
        have S' := Si.ext ext
        have edrop : ds.drop i = d' :: ds.drop (i + 1) := by
          rw [List.drop_eq_getElem_cons hlt]
          rw [List.getElem?_eq_getElem hlt] at ed
          rw [Option.some.inj ed]
        rw [edrop] at hg'
        have o := forGo_out (PostS.up hg' ext.ff) F1 (li.tr ext.ff)
        rw [← hf] at o
        dsimp only at o
        cases q2 : asgT tgc d' ρi with
        | none => rw [q2] at o; exact o.elim
        | some ρ2 =>
          rw [q2] at o
          rw [hf] at o
          exact ⟨ρi, F', d', ρ2, S', rd, q2, fun σ2 S2 _ => ⟨ρ2, F', S2, o⟩⟩
      · have e : i = ds.length := by omega
        subst e
        rw [List.drop_length] at hg'
        exact .inl ⟨hJ.stop H (li.tr Si.fh), hg' Fi H σ FLe.rf Si⟩⟩
theorem whileD_some {c : Env → R PyData} {f : Env → O} {ρ : Env} (h : whileD c f ρ ≠ .bad) : ∃ n, whileN c f n ρ = some (whileD c f ρ) := by
  unfold whileD at h ⊢
  by_cases hx : ∃ n o, whileN c f n ρ = some o
  · rw [dif_pos hx]
    exact ⟨hx.choose, hx.choose_spec.choose_spec⟩
  · rw [dif_neg hx] at h
    exact absurd rfl h
theorem sS_while {c : Expr} (hp : PassesOwn (model X.prog X.w) X.A X.env X.xe) (hc : PT X c (tT Φ w cond)) (hb : PSs X ss (tS Φ w cs)) : PS X (.While c ss [] pos) (tS Φ w (.while_ cond cs)) :=
  (ps_while hp hc hb).via fun D σ H ⟨ρ, F, S, h⟩ => by
    have h : PostS w F D (whileD (fun ρ => evE Φ cond ρ) (fun ρ => evS Φ cs ρ) ρ) := h
    obtain ⟨n0, e0⟩ := whileD_some (c := fun ρ => evE Φ cond ρ) (f := fun ρ => evS Φ cs ρ) (ρ := ρ) (fun z => by rw [z] at h; exact h.elim)
    refine ⟨fun m σ H => ∃ ρ F o, w.sim F H ρ σ ∧ whileN (fun ρ => evE Φ cond ρ) (fun ρ => evS Φ cs ρ) m ρ = some o ∧ PostS w F D o, ⟨n0, ρ, F, _, S, e0, h⟩, ?_⟩
    rintro m σ H ⟨ρ, F, o, S, e, h⟩
    cases m with
    | zero => cases e
    | succ n =>
      refine ⟨ρ, F, S, ?_⟩
      rw [whileN] at e
      cases q : evE Φ cond ρ with
      | bad => rw [q] at e; cases e; exact h.elim
      | exc z ρ1 => rw [q] at e; cases e; exact h σ
      | ok d ρ1 =>
        rw [q] at e
        cases d with
        | bool b =>
          cases b with
          | false =>
            cases e
            intro F' H' l S'
            rw [if_neg Bool.false_ne_true]
            exact h F' H' σ l S'
          | true =>
            intro F' H' l S'
            rw [if_pos rfl]
            refine ⟨fun σ' H' => ∃ ρ F o, w.sim F H' ρ σ' ∧ whileN (fun ρ => evE Φ cond ρ) (fun ρ => evS Φ cs ρ) n ρ = some o ∧ PostS w F D o, fun σ' H' h' => ⟨n, Nat.lt_succ_self n, h'⟩, ρ1, F', S', ?_⟩
            dsimp only at e
            cases q2 : evS Φ cs ρ1 with
            | nx ρ' => rw [q2] at e; exact fun F2 H2 σ2 l2 S2 => ⟨ρ', F2, o, S2, e, PostS.up h (l.tr l2)⟩
            | cnt ρ' => rw [q2] at e; exact fun F2 H2 σ2 l2 S2 => ⟨ρ', F2, o, S2, e, PostS.up h (l.tr l2)⟩
            | brk ρ' => rw [q2] at e; cases e; exact PostS.up h l
            | ret own d ρ' => rw [q2] at e; cases e; exact PostS.up h l
            | exc z ρ' => rw [q2] at e; cases e; exact PostS.up h l
            | bad => rw [q2] at e; cases e; exact h.elim
        | _ => cases e; exact h.elim
end
end HM

namespace HM
open PySem PySem.Spec PyProof.Rows L2

/-! ### pairs of a walk -/
theorem zipL_get : ∀ {ds es : List PyData} {i : Nat} {a b : PyData}, ds[i]? = some a → es[i]? = some b → (zipL ds es)[i]? = some (.tuple [a, b])
  | [], _, _, _, _, h, _ => by cases h
  | _ :: _, [], _, _, _, _, h => by cases h
  | x :: r, y :: s, 0, a, b, h, g => by cases h; cases g; rfl
  | x :: r, y :: s, i + 1, a, b, h, g => zipL_get (ds := r) (es := s) (i := i) h g
theorem zipL_len : ∀ (ds es : List PyData), (zipL ds es).length = min ds.length es.length
  | [], es => by cases es <;> simp [zipL]
  | _ :: _, [] => rfl
  | x :: r, y :: s => by rw [zipL, List.length_cons, zipL_len r s, List.length_cons, List.length_cons]; omega
theorem enumFrom_get : ∀ {ds : List PyData} {k i : Nat} {a : PyData}, ds[i]? = some a → (enumFrom k ds)[i]? = some (.tuple [.int ((k + i : Nat) : Int), a])
  | [], _, _, _, h => by cases h
  | x :: r, k, 0, a, h => by cases h; rfl
  | x :: r, k, i + 1, a, h => by
    have := enumFrom_get (ds := r) (k := k + 1) (i := i) h
    rw [show k + 1 + i = k + (i + 1) by omega] at this
    exact this
theorem enumFrom_len : ∀ (k : Nat) (ds : List PyData), (enumFrom k ds).length = ds.length
  | _, [] => rfl
  | k, x :: r => by rw [enumFrom, List.length_cons, List.length_cons, enumFrom_len]
def zipIt (P Q : Hp → Addr → List V → Prop) (a b : Addr) : It :=
  ⟨fun i H => ∃ (xs ys : List V) (x y : V), P H a xs ∧ Q H b ys ∧ xs[i]? = some x ∧ ys[i]? = some y,
    fun i H v H' => ∃ T x y, v = .ref T ∧ H T = none ∧ H' = upd H T (.tup [x, y]) ∧ (∀ xs, P H a xs → xs[i]? = some x) ∧ ∀ ys, Q H b ys → ys[i]? = some y,
    fun i H => ∃ xs ys : List V, P H a xs ∧ Q H b ys ∧ (xs.length ≤ i ∨ ys.length ≤ i)⟩
theorem src_zip {K : PySem.W.Frag} {P Q : Hp → Addr → List V → Prop} {F0 : Hp} {a b : Addr} {xs ys : List V} {ds es : List PyData} (hP : ∀ H, FLe F0 H → P H a xs) (hQ : ∀ H, FLe F0 H → Q H b ys) (r : RepAll K F0 ds xs) (s : RepAll K F0 es ys) :
    Src K (zipIt P Q a b) (FLe F0) F0 (zipL ds es) where
  go := fun i H hi l => by
    rw [zipL_len] at hi
    obtain ⟨v, e, _⟩ := r.get (List.getElem?_eq_getElem (show i < ds.length by omega))
    obtain ⟨u, e2, _⟩ := s.get (List.getElem?_eq_getElem (show i < es.length by omega))
    exact ⟨xs, ys, v, u, hP H l, hQ H l, e, e2⟩
  yld := fun i H x H' F l1 l2 l3 y hi => by
    obtain ⟨T, v, u, rfl, hT, rfl, h1, h2⟩ := y
    obtain ⟨d, e, q⟩ := r.getV (h1 xs (hP H l3))
    obtain ⟨d2, e2, q2⟩ := s.getV (h2 ys (hQ H l3))
    have E := Ext.new l2 hT (.tup [v, u])
    exact ⟨.tuple [d, d2], _, zipL_get e e2, E, .tup (.inl (.inl upd_same)) (.cons (q.mo (l1.tr E.ff)) (.cons (q2.mo (l1.tr E.ff)) .nil))⟩
  stop := fun H l => by
    refine ⟨xs, ys, hP H l, hQ H l, ?_⟩
    rw [zipL_len, r.length, s.length]
    omega
theorem src_enum {K : PySem.W.Frag} {F0 : Hp} {a : Addr} {xs : List V} {ds : List PyData} (h : Rd F0 a (.lst xs)) (r : RepAll K F0 ds xs) : Src K (Ite K a) (FLe F0) F0 (enumFrom 0 ds) where
  go := fun i H hi l => by
    rw [enumFrom_len] at hi
    obtain ⟨v, e, _⟩ := r.get (List.getElem?_eq_getElem hi)
    exact ⟨xs, v, .inl (Rd.mo l h), e⟩
  yld := fun i H x H' F l1 l2 l3 y hi => by
    obtain ⟨T, v, rfl, hT, rfl, h1⟩ := y
    obtain ⟨d, e, q⟩ := r.getV (h1 xs (.inl (Rd.mo l3 h)))
    have E := Ext.new l2 hT (.tup [.int (i : Nat), v])
    refine ⟨.tuple [.int ((0 + i : Nat) : Int), d], _, enumFrom_get e, E, .tup (.inl (.inl upd_same)) (.cons ?_ (.cons (q.mo (l1.tr E.ff)) .nil))⟩
    rw [Nat.zero_add]
    exact .int _
  stop := fun H l => ⟨xs, .inl (Rd.mo l h), by rw [enumFrom_len, r.length]; exact Nat.le_refl _⟩
section
variable {X : Cx} {Φ : Fns} {w : Wd} {pos p tpos : Pos} {a b : Expr} {ca cb : E} {elts : List Expr} {kk : Nat}
theorem sI_zip (hK : X.K = w.K) (hg : Gl X "zip") (hm : X.mg "zip" = none) (ha : PE X a (tE Φ w ca)) (hb : PE X b (tE Φ w cb)) (hs : starEach [a, b] X.env = (false, eval a X.env) :: starEach [b] X.env) (hs2 : starEach [b] X.env = (false, eval b X.env) :: starEach [] X.env) (hpl : (backTo pos (starEach [b] X.env)).any (·.1) = false) :
    PI X (.Tuple elts kk tpos) (.Call (.Name "zip" p) [a, b] [] pos) (tI Φ w (.zip ca cb)) :=
  (PI.sz (RZ.pi_zipA hg hm (pa_cons ha (pa_cons hb pa_nil hs2) hs) hs hpl)).via fun σ H R ⟨ρ, F, S, h⟩ => ⟨ρ, F, S, by
    have h : PostI w F σ R ((evE Φ ca ρ).bind fun x ρ => (evE Φ cb ρ).bind fun y ρ => .of (zipD x y) ρ) := h
    cases q : evE Φ ca ρ with
    | bad => rw [q] at h; exact h
    | exc z ρ' => rw [q] at h; exact h
    | ok d ρ' =>
      rw [q] at h
      intro F' H' v l S' r
      refine ⟨ρ', F', S', ?_⟩
      have h : PostI w F σ R ((evE Φ cb ρ').bind fun y ρ => .of (zipD d y) ρ) := h
      cases q2 : evE Φ cb ρ' with
      | bad => rw [q2] at h; exact h.elim
      | exc z ρ2 => rw [q2] at h; exact PostX.up h l
      | ok d2 ρ2 =>
        rw [q2] at h
        have h : PostI w F σ R (.of (zipD d d2) ρ2) := h
        intro F2 H2 v2 l2 S2 r2
        have both : ∀ {ds es : List PyData}, zipD d d2 = some (.list (zipL ds es)) → ∀ J, Src w.K J (FLe F2) F2 (zipL ds es) → (zipL ds es).length ≤ SL → R J H2 := fun {ds es} e J hJ hl => by
          rw [e] at h
          obtain ⟨ds', e', h⟩ := h
          cases e'
          exact h F2 H2 J (l.tr l2) S2 hJ hl
        have r1 := r.mo l2
        cases r1 with
        | lst s1 r1 =>
          cases r2 with
          | lst s2 r2 =>
            refine ⟨_, _, _, _, rfl, .inl ⟨.inl (Rd.mo S2.fh s1), .inl (Rd.mo S2.fh s2), fun sz => ?_⟩⟩
            have z1 := sz _ _ (.inl (.inl (Rd.mo S2.fh s1)))
            refine both rfl _ ?_ ?_
            · rw [hK]
              exact src_zip (P := SqL w.K) (Q := SqL w.K) (fun H l => .inl (Rd.mo l s1)) (fun H l => .inl (Rd.mo l s2)) r1 r2
            · rw [zipL_len, r1.length, SL_eq]; omega
          | _ => exact h.elim
        | tup s1 r1 =>
          cases r2 with
          | tup s2 r2 =>
            have t1 := SqT.mo S2.fh s1
            have t2 := SqT.mo S2.fh s2
            refine ⟨_, _, _, _, rfl, .inr ⟨by rw [hK]; exact t1, by rw [hK]; exact t2, fun sz => ?_⟩⟩
            have z1 := sz _ _ (.inr (by rw [hK]; exact t1))
            refine both rfl _ ?_ ?_
            · rw [hK]
              exact src_zip (P := SqT w.K) (Q := SqT w.K) (fun H l => SqT.mo l s1) (fun H l => SqT.mo l s2) r1 r2
            · rw [zipL_len, r1.length, SL_eq]; omega
          | _ => exact h.elim
        | _ => cases r2 <;> exact h.elim⟩
theorem sI_enum (hK : X.K = w.K) (hg : Gl X "enumerate") (hm : X.mg "enumerate" = none) (ha : PE X a (tE Φ w ca)) (hs : starEach [a] X.env = [(false, eval a X.env)]) :
    PI X (.Tuple elts kk tpos) (.Call (.Name "enumerate" p) [a] [] pos) (tI Φ w (.enum ca)) :=
  (PI.sz (pi_enum hg hm (pa_cons ha pa_nil hs) hs)).via fun σ H R ⟨ρ, F, S, h⟩ => ⟨ρ, F, S, by
    have h : PostI w F σ R ((evE Φ ca ρ).bind fun x ρ => .of (enumD x) ρ) := h
    cases q : evE Φ ca ρ with
    | bad => rw [q] at h; exact h
    | exc z ρ' => rw [q] at h; exact h
    | ok d ρ' =>
      rw [q] at h
      have h : PostI w F σ R (.of (enumD d) ρ') := h
      intro F' H' v l S' r
      cases r with
      | lst s1 r1 =>
        obtain ⟨ds', e', h⟩ := h
        cases e'
        refine ⟨_, _, rfl, .inl (Rd.mo S'.fh s1), fun sz => ?_⟩
        have z1 := sz _ _ (.inl (.inl (Rd.mo S'.fh s1)))
        exact h F' H' _ l S' (by rw [hK]; exact src_enum s1 r1) (by rw [enumFrom_len, r1.length, SL_eq]; exact z1)
      | _ => exact h.elim⟩
theorem sE_edic : PE X (.Dict [] [] pos) (tE Φ w .edic) := pe_dnewK.via fun σ H Q ⟨ρ, F, S, h⟩ => fun p hp => by
  have E := Ext.new S.fh hp (.dK [])
  exact h _ _ _ E.ff (S.ext E) (.dic upd_same .nil)
theorem rgV_rep {K : PySem.W.Frag} {F : Hp} (a b : Int) : RepAll K F (rangeD a (b - a).toNat) (rgV a b) := by
  unfold rangeD rgV
  generalize List.range (b - a).toNat = l
  induction l with
  | nil => exact .nil
  | cons x r ih => exact .cons (.int _) ih
theorem rng_ok {w : Wd} {F : Hp} {σ : L2.St} {Q : VK} {i j : Int} {ρ : Env} {f : List PyData → PyData} (h : PostE w F σ Q ((R.of (rngD (.int i) (.int j)) ρ : R PyData).bind fun x ρ => match x with | .list ds => .ok (f ds) ρ | _ => .bad)) :
    RgOk i j ∧ PostE w F σ Q (.ok (f (rangeD i (j - i).toNat)) ρ) := by
  by_cases c : rngOk i j
  · rw [show rngD (.int i) (.int j) = some (.list (rangeD i (j - i).toNat)) from if_pos c] at h
    exact ⟨⟨c.1, c.2.1, c.2.2.1, c.2.2.2.1, c.2.2.2.2⟩, h⟩
  · rw [show rngD (.int i) (.int j) = none from if_neg c] at h
    exact h.elim
theorem rng_okF {w : Wd} {F : Hp} {σ : L2.St} {Q : VK} {i j : Int} {ρ : Env} (h : PostF w F σ Q ((R.of (rngD (.int i) (.int j)) ρ : R PyData).bind fun x ρ => match x with | .list ds => .ok (.list ds) ρ | _ => .bad)) :
    RgOk i j ∧ PostF w F σ Q (.ok (.list (rangeD i (j - i).toNat)) ρ) := by
  by_cases c : rngOk i j
  · rw [show rngD (.int i) (.int j) = some (.list (rangeD i (j - i).toNat)) from if_pos c] at h
    exact ⟨⟨c.1, c.2.1, c.2.2.1, c.2.2.2.1, c.2.2.2.2⟩, h⟩
  · rw [show rngD (.int i) (.int j) = none from if_neg c] at h
    exact h.elim
theorem rng_no {w : Wd} {F : Hp} {σ : L2.St} {Q : VK} {x y : PyData} {ρ : Env} {f : List PyData → PyData} (n : rngD x y = none) (h : PostE w F σ Q ((R.of (rngD x y) ρ : R PyData).bind fun x ρ => match x with | .list ds => .ok (f ds) ρ | _ => .bad)) : False := by
  rw [n] at h; exact h
theorem rng_noF {w : Wd} {F : Hp} {σ : L2.St} {Q : VK} {x y : PyData} {ρ : Env} {f : List PyData → PyData} (n : rngD x y = none) (h : PostF w F σ Q ((R.of (rngD x y) ρ : R PyData).bind fun x ρ => match x with | .list ds => .ok (f ds) ρ | _ => .bad)) : False := by
  rw [n] at h; exact h
theorem sF_lrng1 {p2 pos2 : Pos} (hc : X.calm = true) (hg : Gl X "list") (hm : X.mg "list" = none) (hg2 : Gl X "range") (hm2 : X.mg "range" = none) (ha : PE X a (tE Φ w ca)) (hs : starEach [a] X.env = (false, eval a X.env) :: starEach [] X.env) :
    PE X (.Call (.Name "list" p) [.Call (.Name "range" p2) [a] [] pos2] [] pos) (tF Φ w (.lrng (.rng ca))) := (pe_listRg hc hg hm (prg_1 hg2 hm2 ha hs)).via fun σ H Q ⟨ρ, F, S, h⟩ => ⟨ρ, F, S, by
  have h : PostF w F σ Q (((evE Φ ca ρ).bind fun x ρ => .of (rngD (.int 0) x) ρ).bind fun x ρ => match x with | .list ds => .ok (.list ds) ρ | _ => .bad) := h
  cases q : evE Φ ca ρ with
  | bad => rw [q] at h; exact h
  | exc z ρ' => rw [q] at h; exact h
  | ok d ρ' =>
    rw [q] at h
    intro F' H' v l S' r
    cases r with
    | int j =>
      obtain ⟨c, h⟩ := rng_okF h
      refine ⟨j, rfl, c, fun t ht => h F' _ t _ l (S'.laid ht _) (S'.fresh ht) ?_⟩
      exact rgV_rep 0 j
    | _ => exact False.elim h⟩
theorem sF_lrng2 {p2 pos2 : Pos} (hc : X.calm = true) (hg : Gl X "list") (hm : X.mg "list" = none) (hg2 : Gl X "range") (hm2 : X.mg "range" = none) (ha : PE X a (tE Φ w ca)) (hb : PE X b (tE Φ w cb)) (hs : starEach [a, b] X.env = (false, eval a X.env) :: starEach [b] X.env) (hs2 : starEach [b] X.env = (false, eval b X.env) :: starEach [] X.env) (hpl : (backTo pos2 (starEach [b] X.env)).any (·.1) = false) :
    PE X (.Call (.Name "list" p) [.Call (.Name "range" p2) [a, b] [] pos2] [] pos) (tF Φ w (.lrng (.rng2 ca cb))) := (pe_listRg hc hg hm (prg_2 hg2 hm2 ha hb hs hs2 hpl)).via fun σ H Q ⟨ρ, F, S, h⟩ => ⟨ρ, F, S, by
  have h : PostF w F σ Q (((evE Φ ca ρ).bind fun x ρ => (evE Φ cb ρ).bind fun y ρ => .of (rngD x y) ρ).bind fun x ρ => match x with | .list ds => .ok (.list ds) ρ | _ => .bad) := h
  cases q : evE Φ ca ρ with
  | bad => rw [q] at h; exact h
  | exc z ρ' => rw [q] at h; exact h
  | ok d ρ' =>
    rw [q] at h
    intro F' H' v l S' r
    refine ⟨ρ', F', S', ?_⟩
    have h : PostF w F σ Q (((evE Φ cb ρ').bind fun y ρ => .of (rngD d y) ρ).bind fun x ρ => match x with | .list ds => .ok (.list ds) ρ | _ => .bad) := h
    cases q2 : evE Φ cb ρ' with
    | bad => rw [q2] at h; exact h.elim
    | exc z ρ2 => rw [q2] at h; exact PostX.up h l
    | ok d2 ρ2 =>
      rw [q2] at h
      intro F2 H2 v2 l2 S2 r2
      cases r with
      | int i =>
        cases r2 with
        | int j =>
          obtain ⟨c, h⟩ := rng_okF h
          exact ⟨i, j, rfl, rfl, c, fun t ht => h F2 _ t _ (l.tr l2) (S2.laid ht _) (S2.fresh ht) (rgV_rep i j)⟩
        | _ => exact False.elim h
      | _ => cases r2 <;> exact False.elim h⟩
theorem sE_trng1 {p2 pos2 : Pos} (hc : X.calm = true) (hg : Gl X "tuple") (hm : X.mg "tuple" = none) (hg2 : Gl X "range") (hm2 : X.mg "range" = none) (ha : PE X a (tE Φ w ca)) (hs : starEach [a] X.env = (false, eval a X.env) :: starEach [] X.env) :
    PE X (.Call (.Name "tuple" p) [.Call (.Name "range" p2) [a] [] pos2] [] pos) (tE Φ w (.trng (.rng ca))) := (pe_tupRg hc hg hm (prg_1 hg2 hm2 ha hs)).via fun σ H Q ⟨ρ, F, S, h⟩ => ⟨ρ, F, S, by
  have h : PostE w F σ Q (((evE Φ ca ρ).bind fun x ρ => .of (rngD (.int 0) x) ρ).bind fun x ρ => match x with | .list ds => .ok (.tuple ds) ρ | _ => .bad) := h
  cases q : evE Φ ca ρ with
  | bad => rw [q] at h; exact h
  | exc z ρ' => rw [q] at h; exact h
  | ok d ρ' =>
    rw [q] at h
    intro F' H' v l S' r
    cases r with
    | int j =>
      obtain ⟨c, h⟩ := rng_ok h
      refine ⟨j, rfl, c, fun t ht => ?_⟩
      have E := Ext.new S'.fh ht (.tup (rgV 0 j))
      exact h _ _ _ (l.tr E.ff) (S'.ext E) (.tup (.inl (.inl upd_same)) (rgV_rep 0 j))
    | _ => exact False.elim h⟩
theorem sE_trng2 {p2 pos2 : Pos} (hc : X.calm = true) (hg : Gl X "tuple") (hm : X.mg "tuple" = none) (hg2 : Gl X "range") (hm2 : X.mg "range" = none) (ha : PE X a (tE Φ w ca)) (hb : PE X b (tE Φ w cb)) (hs : starEach [a, b] X.env = (false, eval a X.env) :: starEach [b] X.env) (hs2 : starEach [b] X.env = (false, eval b X.env) :: starEach [] X.env) (hpl : (backTo pos2 (starEach [b] X.env)).any (·.1) = false) :
    PE X (.Call (.Name "tuple" p) [.Call (.Name "range" p2) [a, b] [] pos2] [] pos) (tE Φ w (.trng (.rng2 ca cb))) := (pe_tupRg hc hg hm (prg_2 hg2 hm2 ha hb hs hs2 hpl)).via fun σ H Q ⟨ρ, F, S, h⟩ => ⟨ρ, F, S, by
  have h : PostE w F σ Q (((evE Φ ca ρ).bind fun x ρ => (evE Φ cb ρ).bind fun y ρ => .of (rngD x y) ρ).bind fun x ρ => match x with | .list ds => .ok (.tuple ds) ρ | _ => .bad) := h
  cases q : evE Φ ca ρ with
  | bad => rw [q] at h; exact h
  | exc z ρ' => rw [q] at h; exact h
  | ok d ρ' =>
    rw [q] at h
    intro F' H' v l S' r
    refine ⟨ρ', F', S', ?_⟩
    have h : PostE w F σ Q (((evE Φ cb ρ').bind fun y ρ => .of (rngD d y) ρ).bind fun x ρ => match x with | .list ds => .ok (.tuple ds) ρ | _ => .bad) := h
    cases q2 : evE Φ cb ρ' with
    | bad => rw [q2] at h; exact h.elim
    | exc z ρ2 => rw [q2] at h; exact PostX.up h l
    | ok d2 ρ2 =>
      rw [q2] at h
      intro F2 H2 v2 l2 S2 r2
      cases r with
      | int i =>
        cases r2 with
        | int j =>
          obtain ⟨c, h⟩ := rng_ok h
          refine ⟨i, j, rfl, rfl, c, fun t ht => ?_⟩
          have E := Ext.new S2.fh ht (.tup (rgV i j))
          exact h _ _ _ ((l.tr l2).tr E.ff) (S2.ext E) (.tup (.inl (.inl upd_same)) (rgV_rep i j))
        | _ => exact False.elim h
      | _ => cases r2 <;> exact False.elim h⟩
theorem lrng_list (ρ : Env) (d : PyData) (ρ' : Env) (h : evE Φ (.lrng ca) ρ = .ok d ρ') : ∃ ds, d = .list ds := by
  obtain ⟨x, ρ1, _, h⟩ := bind_ok (show (evE Φ ca ρ).bind (fun x ρ => match x with | .list ds => .ok (.list ds) ρ | _ => .bad) = .ok d ρ' from h)
  split at h
  · cases h; exact ⟨_, rfl⟩
  · cases h
/-- xs[::-1] of a list -/
theorem sF_revL {k : Nat} {p1 p2 p3 : Pos} (hK : X.K = w.K) (ha : PE X a (tE Φ w ca)) (hl : ∀ ρ d ρ', evE Φ ca ρ = .ok d ρ' → (∃ z, revD d = some z) → ∃ ds, d = .list ds) : PE X (.Subscript a (.Slice none none (some (.UnaryOp .USub (.Constant (.int 1) k p1) p2)) p3) pos) (tF Φ w (.rev ca)) :=
  (pe_revL ha).via fun σ H Q ⟨ρ, F, S, h⟩ => ⟨ρ, F, S, by
    have h : PostF w F σ Q ((evE Φ ca ρ).bind fun x ρ => .of (revD x) ρ) := h
    cases q : evE Φ ca ρ with
    | bad => rw [q] at h; exact h
    | exc z ρ' => rw [q] at h; exact h
    | ok d ρ' =>
      rw [q] at h
      have h : PostF w F σ Q (.of (revD d) ρ') := h
      intro F' H' v l S' r
      cases e : revD d with
      | none => rw [e] at h; exact h.elim
      | some z =>
        obtain ⟨ds, rfl⟩ := hl ρ d ρ' q ⟨z, e⟩
        cases r with
        | lst s1 r1 =>
          refine ⟨_, _, rfl, by rw [hK]; exact .inl (Rd.mo S'.fh s1), fun t ht => ?_⟩
          exact h F' _ t _ l (S'.laid ht _) (S'.fresh ht) r1.rev⟩
end
/-! ### pairs stored at once -/
def swNames (sc : Scope) (ts : List Expr) : List Str := ts.filterMap fun
    | .Name id pos => if sc.names.lookup id == some .local && pos.line == (ts.head?.map (·.pos.line)).getD 0 then some id else none
    | _ => none
def fnKind (sc : Scope) : Bool := match sc.kind with
  | .function => true
  | _ => false
def isStr' : Expr → Bool
  | .Starred .. => true
  | _ => false
/-- the names that are stored from the right -/
def swS (sc : Scope) (ts vs : List Expr) : Option (List Str) :=
  if (!(ts.length == 2 || ts.length == 3) || vs.length != ts.length || !fnKind sc) = true then none
  else if (vs.any isStr') = true then none
  else if ((swNames sc ts).length != ts.length || (swNames sc ts).eraseDups.length != (swNames sc ts).length) = true then none
  else if vs.all (foldedForSure 8) = true then none
  else some (swNames sc ts)
theorem swS_ok {ts vs : List Expr} {kt k2 : Nat} {pt p2 : Pos} {env : PySem.Env} (hk : fnKind env.scope = true) (h : vs.all (constantsAlone 8) = false ∨ vs.all (foldedForSure 8) = true) : swappedStores [.Tuple ts kt pt] (.Tuple vs k2 p2) env = pure (swS env.scope ts vs) := by
  have kind : env.scope.kind = .function := by
    unfold fnKind at hk
    split at hk
    · assumption
    · cases hk
  have bk : env.blockKind = .function := by unfold PySem.Env.blockKind; rw [kind]; rfl
  have key : ∀ (c0 c1 c2 c3 c4 c5 : Bool) (N : List Str), (c5 = false ∨ c4 = true) → c1 = c0 → ((if c1 = true then pure none else if c2 = true then pure none else if c3 = true then pure none else if c4 = true then pure none else if c5 = true then (do unsupported "assign.tuple-of-constant-expressions:order-of-the-stores"; pure (some N)) else pure (some N)) : Sem (Option (List Str)))
      = pure (if c0 = true then none else if c2 = true then none else if c3 = true then none else if c4 = true then none else some N) := fun c0 c1 c2 c3 c4 c5 N h e => by
    subst e
    cases c1 <;> cases c2 <;> cases c3 <;> cases c4 <;> cases c5 <;> first | rfl | (rcases h with h | h <;> cases h)
  unfold swappedStores swS
  rw [hk, bk]
  exact key _ _ _ _ _ _ _ h (by rfl)
end HM

namespace HM
open PySem PySem.Spec PyProof.Rows L2

/-! ### more expressions that make a list of one's own -/
section
variable {X : Cx} {Φ : Fns} {w : Wd} {pos p p2 : Pos} {a b : Expr} {ca cb cc : E}
theorem sF_listOf (hK : X.K = w.K) (hg : Gl X "list") (hm : X.mg "list" = none) (ha : PE X a (tE Φ w ca)) (hs : starEach [a] X.env = (false, eval a X.env) :: starEach [] X.env) :
    PE X (.Call (.Name "list" p) [a] [] pos) (tF Φ w (.bi .list (.cons ca .nil))) :=
  (pe_callTy call_list_of hg hm (by decide +kernel) (pa_cons ha pa_nil hs) (by decide) (by decide) hs (by rfl)).via fun σ H Q ⟨ρ, F, S, h⟩ => ⟨ρ, F, S, by
    have h : PostF w F σ Q (((evE Φ ca ρ).bind fun x ρ => (R.ok (.tuple []) ρ : R PyData).bind fun y ρ => .ok (.tuple (x :: tupOf y)) ρ).bind fun x ρ => .of (biD .list (tupOf x)) ρ) := h
    cases q : evE Φ ca ρ with
    | bad => rw [q] at h; exact h
    | exc z ρ' => rw [q] at h; exact h
    | ok d ρ' =>
      rw [q] at h
      have h : PostF w F σ Q (.of (biD .list [d]) ρ') := h
      intro F' H' v l S' r
      cases r with
      | lst s1 r1 => exact ⟨_, _, rfl, .inl (.inl (Rd.mo S'.fh s1)), fun t ht => h F' _ t _ l (S'.laid ht _) (S'.fresh ht) r1⟩
      | tup s1 r1 => exact ⟨_, _, rfl, .inr (by rw [hK]; exact SqT.mo S'.fh s1), fun t ht => h F' _ t _ l (S'.laid ht _) (S'.fresh ht) r1⟩
      | _ => exact False.elim h⟩
theorem sF_cat (hK : X.K = w.K) (ha : PE X a (tE Φ w ca)) (hb : PE X b (tE Φ w cb)) : PE X (.BinOp a .Add b pos) (tF Φ w (.bin .add ca cb)) :=
  (pe_op ow_cat ha hb).via fun σ H Q ⟨ρ, F, S, h⟩ => ⟨ρ, F, S, by
    have h : PostF w F σ Q ((evE Φ ca ρ).bind fun x ρ => (evE Φ cb ρ).bind fun y ρ => .of (bin .add x y) ρ) := h
    cases q : evE Φ ca ρ with
    | bad => rw [q] at h; exact h
    | exc z ρ' => rw [q] at h; exact h
    | ok d ρ' =>
      rw [q] at h
      intro F' H' v l S' r
      refine ⟨ρ', F', S', ?_⟩
      have h : PostF w F σ Q ((evE Φ cb ρ').bind fun y ρ => .of (bin .add d y) ρ) := h
      cases q2 : evE Φ cb ρ' with
      | bad => rw [q2] at h; exact h.elim
      | exc z ρ2 => rw [q2] at h; exact PostX.up h l
      | ok d2 ρ2 =>
        rw [q2] at h
        have h : PostF w F σ Q (.of (bin .add d d2) ρ2) := h
        intro F2 H2 v2 l2 S2 r2
        cases r with
        | @lst pa xs ds s1 r1 =>
          cases r2 with
          | @lst pb ys es s2 r2 =>
            by_cases c : ds.length + es.length ≤ SL
            · rw [show bin .add (.list ds) (.list es) = some (.list (ds ++ es)) from if_pos c] at h
              refine ⟨_, _, _, _, rfl, rfl, Rd.mo S2.fh (Rd.mo l2 s1), Rd.mo S2.fh s2, by rw [← r1.length, ← r2.length, ← SL_eq]; exact c, fun t ht => ?_⟩
              exact h F2 _ t _ (l.tr l2) (S2.laid ht _) (S2.fresh ht) ((r1.mo l2).app r2)
            · rw [show bin .add (.list ds) (.list es) = none from if_neg c] at h
              exact False.elim h
          | _ => exact False.elim h
        | @tup pa xs ds s1 r1 =>
          cases r2 with
          | @tup pb ys es s2 r2 =>
            by_cases c : ds.length + es.length ≤ SL
            · rw [show bin .add (.tuple ds) (.tuple es) = some (.tuple (ds ++ es)) from if_pos c] at h
              exact False.elim h
            · rw [show bin .add (.tuple ds) (.tuple es) = none from if_neg c] at h
              exact False.elim h
          | _ => exact False.elim h
        | _ => cases r2 <;> exact False.elim h⟩
theorem sF_rep (hK : X.K = w.K) (ha : PE X a (tE Φ w ca)) (hb : PE X b (tE Φ w cb)) : PE X (.BinOp a .Mult b pos) (tF Φ w (.bin .mul ca cb)) :=
  (pe_op ow_rep ha hb).via fun σ H Q ⟨ρ, F, S, h⟩ => ⟨ρ, F, S, by
    have h : PostF w F σ Q ((evE Φ ca ρ).bind fun x ρ => (evE Φ cb ρ).bind fun y ρ => .of (bin .mul x y) ρ) := h
    cases q : evE Φ ca ρ with
    | bad => rw [q] at h; exact h
    | exc z ρ' => rw [q] at h; exact h
    | ok d ρ' =>
      rw [q] at h
      intro F' H' v l S' r
      refine ⟨ρ', F', S', ?_⟩
      have h : PostF w F σ Q ((evE Φ cb ρ').bind fun y ρ => .of (bin .mul d y) ρ) := h
      cases q2 : evE Φ cb ρ' with
      | bad => rw [q2] at h; exact h.elim
      | exc z ρ2 => rw [q2] at h; exact PostX.up h l
      | ok d2 ρ2 =>
        rw [q2] at h
        have h : PostF w F σ Q (.of (bin .mul d d2) ρ2) := h
        intro F2 H2 v2 l2 S2 r2
        cases r with
        | @lst pa xs ds s1 r1 =>
          cases r2 with
          | int k =>
            by_cases c : repOk ds.length k
            · rw [show bin .mul (.list ds) (.int k) = some (.list (repL ds k)) from if_pos c] at h
              refine ⟨_, _, _, rfl, rfl, Rd.mo S2.fh (Rd.mo l2 s1), by rw [← r1.length]; exact c, fun t ht => ?_⟩
              exact h F2 _ t _ (l.tr l2) (S2.laid ht _) (S2.fresh ht) ((r1.mo l2).rep k.toNat)
            · rw [show bin .mul (.list ds) (.int k) = none from if_neg c] at h
              exact False.elim h
          | _ => exact False.elim h
        | @tup pa xs ds s1 r1 =>
          cases r2 with
          | int k =>
            by_cases c : repOk ds.length k
            · rw [show bin .mul (.tuple ds) (.int k) = some (.tuple (repL ds k)) from if_pos c] at h
              exact False.elim h
            · rw [show bin .mul (.tuple ds) (.int k) = none from if_neg c] at h
              exact False.elim h
          | _ => exact False.elim h
        | int i =>
          cases r2 with
          | int k =>
            by_cases c : mulOk i k
            · rw [show bin .mul (.int i) (.int k) = some (.int (i * k)) from if_pos c] at h
              exact False.elim h
            · rw [show bin .mul (.int i) (.int k) = none from if_neg c] at h
              exact False.elim h
          | _ => exact False.elim h
        | _ => cases r2 <;> exact False.elim h⟩
theorem PostF.up {F F1 : Hp} {σ : L2.St} {Q : VK} {r : R PyData} (h : PostF w F σ Q r) (l : FLe F F1) : PostF w F1 σ Q r := by
  cases r with
  | ok d ρ =>
    cases d with
    | list ds => exact fun F' H' p xs l' => h F' H' p xs (l.tr l')
    | _ => exact h
  | exc x ρ => exact PostX.up h l
  | bad => exact h
theorem PostF.bind {F : Hp} {σ : L2.St} {Q : VK} {r : R PyData} {f : PyData → Env → R PyData} (h : PostF w F σ Q (r.bind f)) : PostE w F σ (fun v H1 => Got w F σ v H1 fun d ρ F1 => PostF w F1 σ Q (f d ρ)) r := by
  cases r with
  | ok d ρ => exact fun F' H' v l S q => ⟨d, ρ, F', l, S, q, PostF.up h l⟩
  | exc x ρ => exact h
  | bad => exact h.elim
theorem sF_sl (hK : X.K = w.K) {lo hi : Option Expr} {p2 : Pos} (ha : PE X a (tE Φ w ca)) (hb : PO X lo (tO Φ w cb)) (hc : PO X hi (tO Φ w cc)) : PE X (.Subscript a (.Slice lo hi none p2) pos) (tF Φ w (.sl ca cb cc)) :=
  (pe_slice sl_list ha hb hc).via fun σ H Q ⟨ρ, F, S, p⟩ => ⟨ρ, F, S, by
    refine PostE.mono (PostF.bind p) fun v H1 ⟨d, ρ1, F1, l1, S1, r1, p1⟩ => ⟨ρ1, F1, S1, ?_⟩
    dsimp only at p1
    have p1 : PostF w F1 σ Q ((evE Φ cb ρ1).bind fun y ρ => if slOk cb.isNon y then (evE Φ cc ρ).bind fun z ρ => if slOk cc.isNon z then .of (slD d y z) ρ else .bad else .bad) := p1
    have part : ∀ {b : Bool} {y : PyData}, slOk b y = true → ∃ o, partD y = some o := fun {b y} h => by
      cases y with
      | none => exact ⟨_, rfl⟩
      | int i => exact ⟨_, rfl⟩
      | _ => cases b <;> cases h
    cases q1 : evE Φ cb ρ1 with
    | bad => rw [q1] at p1; exact p1.elim
    | exc x ρ' => rw [q1] at p1; exact p1
    | ok y ρ2 =>
      rw [q1] at p1
      intro F2 H2 v2 l2 S2 r2
      have p2 : PostF w F2 σ Q (if slOk cb.isNon y then (evE Φ cc ρ2).bind fun z ρ => if slOk cc.isNon z then .of (slD d y z) ρ else .bad else .bad) := PostF.up p1 l2
      by_cases k1 : slOk cb.isNon y = true
      · obtain ⟨o, e⟩ := part k1
        rw [if_pos k1] at p2
        refine ⟨y, o, ⟨F2, r2⟩, e, k1, ρ2, F2, S2, ?_⟩
        cases q2 : evE Φ cc ρ2 with
        | bad => rw [q2] at p2; exact p2.elim
        | exc x ρ' => rw [q2] at p2; exact p2
        | ok z ρ3 =>
          rw [q2] at p2
          intro F3 H3 v3 l3 S3 r3
          have p3 : PostF w F3 σ Q (if slOk cc.isNon z then .of (slD d y z) ρ3 else .bad) := PostF.up p2 l3
          by_cases k2 : slOk cc.isNon z = true
          · obtain ⟨o2, e2⟩ := part k2
            rw [if_pos k2] at p3
            refine ⟨z, o2, ⟨F3, r3⟩, e2, k2, ?_⟩
            have r1' := r1.mo (l2.tr l3)
            cases r1' with
            | @lst pa xs ds s1 rr =>
              cases q3 : slEnd ds.length 0 y with
              | none => rw [slD, q3] at p3; exact False.elim p3
              | some l =>
                cases q4 : slEnd ds.length ds.length z with
                | none => rw [slD, q3, q4] at p3; exact False.elim p3
                | some u =>
                  rw [slD, q3, q4] at p3
                  refine ⟨_, _, rfl, .inl (Rd.mo S3.fh s1), fun t ht => ?_⟩
                  have k3 : HT.sIx ds.length 0 o = l := by
                    cases y with
                    | none => cases e; cases q3; rfl
                    | int i => cases e; cases q3; exact sIx_eq _ _ _
                    | _ => cases e
                  have k4 : HT.sIx ds.length ds.length o2 = u := by
                    cases z with
                    | none => cases e2; cases q4; rfl
                    | int i => cases e2; cases q4; exact sIx_eq _ _ _
                    | _ => cases e2
                  have r4 := cut_rep (lo := o) (hi := o2) rr
                  rw [k3, k4] at r4
                  exact p3 F3 _ t _ FLe.rf (S3.laid ht _) (S3.fresh ht) r4
            | @tup pa xs ds s1 rr =>
              cases q3 : slEnd ds.length 0 y with
              | none => rw [slD, q3] at p3; exact False.elim p3
              | some l =>
                cases q4 : slEnd ds.length ds.length z with
                | none => rw [slD, q3, q4] at p3; exact False.elim p3
                | some u => rw [slD, q3, q4] at p3; exact False.elim p3
            | _ => exact False.elim p3
          · rw [if_neg k2] at p3
            exact p3.elim
      · rw [if_neg k1] at p2
        exact p2.elim⟩
end
/-! ### a comprehension over a list that may change -/
section
variable {K : PySem.W.Frag} {G : Hp} {pa : Addr} {F H : Hp} {ρ : Env} {σ : L2.St}
theorem Sim.hold (S : Sim K G pa F H ρ σ) {a : Addr} {u : HO} (ha : H a = some u) (fa : F a = none) (no : ∀ (j : Nat) (s : Slot), ρ[j]? = some s → isM s = true → σ[j]? ≠ some (some (.ref a))) : Sim K (upd G a u) pa F H ρ σ := by
  refine ⟨S.fh, fun b o e => ?_, fun b => ?_, S.pn, S.len, fun j s hj => ?_, S.sep⟩
  · by_cases z : b = a
    · subst z; rw [upd_same] at e; cases e; exact ha
    · rw [upd_ne z] at e; exact S.gh b o e
  · by_cases z : b = a
    · subst z; exact .inl fa
    · rw [upd_ne z]; exact S.fg b
  · have q := S.slot j s hj
    cases s with
    | un => trivial
    | val d => exact q
    | mu es =>
      obtain ⟨b, ys, e', f', g', n', hx', r'⟩ := q
      have nb : b ≠ a := fun z => by subst z; exact no j _ hj rfl e'
      exact ⟨b, ys, e', f', by rw [upd_ne nb]; exact g', n', hx', r'⟩
    | par es =>
      obtain ⟨ys, e', f', g', hx', r'⟩ := q
      have nb : pa ≠ a := fun z => by subst z; exact no j _ hj rfl e'
      exact ⟨ys, e', f', by rw [upd_ne nb]; exact g', hx', r'⟩
theorem Sim.remu (S : Sim K G pa F H ρ σ) {i : Nat} {s : Slot} {a : Addr} {xs : List V} {ds : List PyData} (ok : SlotOk K G pa F H s σ[i]?) (e : σ[i]? = some (some (.ref a)))
    (no : ∀ (j : Nat) (s : Slot), ρ[j]? = some s → isM s = true → σ[j]? ≠ some (some (.ref a))) : Sim K G pa F H (ρ.set i s) σ := by
  refine ⟨S.fh, S.gh, S.fg, S.pn, by rw [List.length_set, S.len], fun j t hj => ?_, fun j k t u b hj hk mt mu e1 e2 => ?_⟩
  · rcases get_set hj with ⟨rfl, rfl, _⟩ | ⟨ne, hj⟩
    · exact ok
    · exact S.slot j t hj
  · rcases get_set hj with ⟨rfl, rfl, _⟩ | ⟨nj, _⟩
    · rcases get_set hk with ⟨rfl, rfl, _⟩ | ⟨nk, hk⟩
      · rfl
      · rw [e] at e1
        cases e1
        exact absurd e2 (no k u hk mu)
    · rename_i hj'
      rcases get_set hk with ⟨rfl, rfl, _⟩ | ⟨nk, hk⟩
      · rw [e] at e2
        cases e2
        exact absurd e1 (no j t hj' mt)
      · exact S.sep j k t u b hj' hk mt mu e1 e2
end
theorem wipe_out {own : List Nat} {σ : L2.St} {j : Nat} (ho : j ∉ own) : (L2.wipe σ own)[j]? = σ[j]? := by
  induction own with
  | nil => rfl
  | cons i is ih =>
    have h1 : j ≠ i ∧ j ∉ is := by simpa using ho
    show ((L2.wipe σ is).set i none)[j]? = σ[j]?
    rw [List.getElem?_set_ne (Ne.symm h1.1)]
    exact ih h1.2
section
variable {X : Cx} {Φ : Fns} {w : Wd} {pos p : Pos} {tg elt' : Expr} {ifs : List Expr} {elt cond : E} {x : Str} {tgc : Tg} {own : List (Str × Nat)} {scope : Scope} {i : Nat}
theorem lcM_read (c : CompOk X Φ w tg elt' ifs scope own tgc elt cond) {σ : L2.St} {H : Hp} {Q : VK} (hK : X.K = w.K) (h : tF Φ w (.compM elt tgc i cond (own.map (·.2))) σ H Q) :
    tLc (fun σ H R => iList X.K (tVar i) σ H fun J H' => (∀ a xs, (SqL X.K H' a xs ∨ SqT X.K H' a xs) → xs.length ≤ sizeLine) → R J H') (gG w tgc) (gT Φ w cond) (gE Φ w elt) (own.map (·.2)) σ H Q := by
  obtain ⟨ρ, F, S, h⟩ := h
  have h : PostF w F σ Q (match mutS (getS ρ i), ownOk (i :: own.map (·.2)) (ρ.set i .un) && !(own.map (·.2)).contains i with
    | some ds, true => (compGo (turnC (own.map (·.2)) tgc (evE Φ cond) (evE Φ elt)) ds (ρ.set i .un)).bind fun ys ρ5 => .ok (.list ys) ((giveS (own.map (·.2)) (ρ.set i .un) ρ5).set i (getS ρ i))
    | _, _ => .bad) := h
  cases q0 : mutS (getS ρ i) with
  | none => rw [q0] at h; exact h.elim
  | some ds =>
    cases q1 : (ownOk (i :: own.map (·.2)) (ρ.set i .un) && !(own.map (·.2)).contains i) with
    | false => rw [q0, q1] at h; exact h.elim
    | true =>
      rw [q0, q1] at h
      have h : PostF w F σ Q ((compGo (turnC (own.map (·.2)) tgc (evE Φ cond) (evE Φ elt)) ds (ρ.set i .un)).bind fun ys ρ5 => .ok (.list ys) ((giveS (own.map (·.2)) (ρ.set i .un) ρ5).set i (getS ρ i))) := h
      rw [Bool.and_eq_true] at q1
      have q2 : ownOk (own.map (·.2)) (ρ.set i .un) = true := by
        have z := q1.1
        unfold ownOk at z ⊢
        rw [List.all_cons, Bool.and_eq_true] at z
        exact z.2
      have ni : i ∉ own.map (·.2) := by
        have z := q1.2
        simpa using z
      obtain ⟨s0, a, xs, hi, ms, im, hσ, fa, ga, ha, rr⟩ := S.mutL q0
      have gs : getS ρ i = s0 := getS_at hi
      rw [gs] at h
      have hset : σ.set i (some (.ref a)) = σ := by
        apply List.ext_getElem?
        intro j
        by_cases e : j = i
        · subst e
          rw [List.getElem?_set_self (List.getElem?_eq_some_iff.mp hσ).1, hσ]
        · rw [List.getElem?_set_ne (Ne.symm e)]
      have S1 : w.sim F H (ρ.set i .un) σ := by
        have := S.un (i := i) (o := some (.ref a))
        rw [hset] at this
        exact this
      have no1 : ∀ (j : Nat) (s : Slot), (ρ.set i .un)[j]? = some s → isM s = true → σ[j]? ≠ some (some (.ref a)) := fun j s hj mj e => by
        rcases get_set hj with ⟨rfl, rfl, _⟩ | ⟨ne, hj⟩
        · cases mj
        · exact ne (S.sep j i s s0 a hj hi mj im e hσ)
      let w' : Wd := { w with G := upd w.G a (.lst xs) }
      have S2 : w'.sim F H (ρ.set i .un) σ := S1.hold ha fa no1
      cases q3 : compGo (turnC (own.map (·.2)) tgc (evE Φ cond) (evE Φ elt)) ds (ρ.set i .un) with
      | bad => rw [q3] at h; exact h.elim
      | exc z ρ' =>
        exfalso
        have : ∀ (ds : List PyData) (ρ : Env) z ρ', compGo (turnC (own.map (·.2)) tgc (evE Φ cond) (evE Φ elt)) ds ρ ≠ .exc z ρ' := fun ds => by
          cases ds with
          | nil => intro ρ z ρ' e; cases e
          | cons d ds =>
            intro ρ z ρ' e
            rw [compGo] at e
            split at e
            · split at e <;> cases e
            · cases e
        exact this ds _ z ρ' q3
      | ok zs ρ5 =>
        rw [q3] at h
        have h : ∀ F' H' p ys, FLe F F' → w.sim F' H' ((giveS (own.map (·.2)) (ρ.set i .un) ρ5).set i s0) σ → Fresh w.K w.G w.pa F' H' ((giveS (own.map (·.2)) (ρ.set i .un) ρ5).set i s0) σ p ys → RepAll w.K F' zs ys → Q (.ref p) H' := h
        refine ⟨.ref a, hσ, a, rfl, ⟨xs, .inl (Rd.of ha)⟩, fun sz D hD => ?_⟩
        have na : a ≠ D := fun z => by subst z; rw [ha] at hD; cases hD
        have gD : w.G D = none := by
          cases e : w.G D with
          | none => rfl
          | some o => rw [S.gh _ _ e] at hD; cases hD
        rw [hK]
        refine lc_go (w := w') (Stay := fun H => H a = some (.lst xs)) (src_mut rr) (fun F H ρ u l S => S.gh a _ (by rw [upd_ne na]; exact upd_same)) S2 c.ixs (by rw [rr.length, SL_eq]; exact sz a xs (.inl (.inl (Rd.of ha)))) q3 hD fun F2 H2 acc l2 S3 ra => ?_
        obtain ⟨S4, fD, hD2, sepD⟩ := S3.unprot (G := upd w.G a (.lst xs)) (by rw [upd_ne (Ne.symm na)]; exact gD)
        have S5 := S2.give l2 q2 S4
        obtain ⟨S6, fa2, ha2, sepa⟩ := S5.unprot ga
        have ok : SlotOk w.K w.G w.pa F2 H2 s0 σ[i]? := by
          have q := S.slot i s0 hi
          cases s0 with
          | un => cases im
          | val d => cases im
          | mu es =>
            obtain ⟨b, ys, e', f, g, n, hx, r⟩ := q
            rw [hσ] at e'; cases e'
            cases ms
            exact ⟨a, xs, hσ, fa2, ga, n, ha2, rr.mo l2⟩
          | par es =>
            obtain ⟨ys, e', f, g, hx, r⟩ := q
            rw [hσ] at e'; cases e'
            cases ms
            exact ⟨xs, hσ, fa2, ga, ha2, rr.mo l2⟩
        have S7 := S6.remu (xs := xs) (ds := ds) ok hσ sepa
        refine h F2 H2 D acc l2 S7 ⟨hD2, fD, gD, S.neP hD, fun j s hj mj e => ?_⟩ ra
        rcases get_set hj with ⟨rfl, rfl, _⟩ | ⟨ne, hj⟩
        · rw [hσ] at e
          cases e
          exact na rfl
        · by_cases ho : j ∈ own.map (·.2)
          · have hj2 : j < List.length ρ5 := by
              have := (List.getElem?_eq_some_iff.mp hj).1
              rw [giveS_len] at this; exact this
            rw [giveS_own ho hj2] at hj
            cases hj
            have := List.all_eq_true.mp q2 j ho
            cases q4 : getS (ρ.set i .un) j with
            | un => rw [q4] at mj; cases mj
            | val d => rw [q4] at mj; cases mj
            | mu ds => rw [q4] at this; cases this
            | par ds => rw [q4] at this; cases this
          · rw [giveS_get ho] at hj
            exact sepD j s (by rw [wipeS_get ho]; exact hj) mj (by rw [wipe_out ho]; exact e)
theorem sF_compM (c : CompOk X Φ w tg elt' ifs scope own tgc elt cond) (hK : X.K = w.K) (hN : X.N[i]? = some x) (hv : Vis X.env.scope x) (hd : (x == ("__debug__" : Str)) = false) (hc : (x == ("__classdict__" : Str)) = false) :
    PE X (.ListComp elt' [⟨tg, .Name x p, ifs, 0⟩] scope pos) (tF Φ w (.compM elt tgc i cond (own.map (·.2)))) :=
  (pe_lc c.calm c.nd (PI.sz (pi_list (pe_var hN hv hd hc))) c.blk (fun s H C cl fp => PG.any fun G => c.g G s H C cl fp) (fun s H C cl fp => PTs.any fun G => c.t G s H C cl fp) (fun s H C cl fp => PE.any fun G => c.e G s H C cl fp) (fun _ => rfl)).via fun σ H Q h => lcM_read c hK h
theorem compM_list {own : List Nat} (ρ : Env) (d : PyData) (ρ' : Env) (h : evE Φ (.compM elt tgc i cond own) ρ = .ok d ρ') : ∃ ds, d = .list ds := by
  have h : (match mutS (getS ρ i), ownOk (i :: own) (ρ.set i .un) && !own.contains i with
    | some ds, true => (compGo (turnC own tgc (evE Φ cond) (evE Φ elt)) ds (ρ.set i .un)).bind fun ys ρ5 => .ok (.list ys) ((giveS own (ρ.set i .un) ρ5).set i (getS ρ i))
    | _, _ => .bad : R PyData) = .ok d ρ' := h
  split at h
  · obtain ⟨y, ρ2, _, h⟩ := bind_ok h
    cases h
    exact ⟨_, rfl⟩
  · cases h
end
end HM

namespace HM
open PySem PySem.Spec PyProof.Rows L2

/-! ### xs[i] op= e of a list that changes -/
section
variable {X : Cx} {Φ : Fns} {w : Wd} {pos p sp : Pos} {a e : Expr} {ca ce : E} {x : Str} {i : Nat}
theorem pget_list : PGet X (fun o i H Q => rIxL X.K o i H Q) := by
  intro pins s σ H o i ov iv Q I ro ri h
  obtain ⟨p, xs, k, z, rfl, rfl, hq, he, q⟩ := h
  cases ro
  obtain ⟨t, rfl⟩ := ri
  obtain ⟨its, r, pl, hz⟩ := I.list hq
  obtain ⟨j, h1, h2, h3, h4, h5⟩ := atI_get he
  obtain ⟨u, eu, ru⟩ := r.get h2
  have hl := r.length
  have hn := line63
  have fin : EP X pins σ Q u s := ⟨z, H, I, ru, q⟩
  by_cases h0 : 0 ≤ k
  · have hj : k.toNat = j := by
      rw [seqIndex_of h0 h5] at h1
      exact Option.some.inj h1
    exact wpAny_getItem_list pl.isList h0 (by omega) (by rw [hj]; simpa using eu) fin
  · have hj : (k + (its.toArray.size : Int)).toNat = j := by
      rw [seqIndex_neg (by omega) h4] at h1
      rw [List.size_toArray, ← hl]
      exact Option.some.inj h1
    exact wpAny_getItem_list_neg pl.isList (by omega) (by rw [List.size_toArray] <;> omega) (by omega) (by rw [hj]; simpa using eu) fin
theorem sS_augM {o : Op2} {op : Operator} (ho : augOp o = some op) (hN : X.N[i]? = some x) (hv : Vis X.env.scope x) (hd : (x == ("__debug__" : Str)) = false) (hc : (x == ("__classdict__" : Str)) = false) (ha : PE X a (tE Φ w ca)) (he : PE X e (tE Φ w ce))
    (hga : ∀ ov iv new, augStore a ov iv new = (do holding [new, ov, iv] (setItem ov iv new); release [new, ov, iv] []; pure .next)) :
    PS X (.AugAssign (.Subscript (.Name x p) a sp) op e pos) (tS Φ w (.augM i ca o ce)) := by
  have key : ∀ (f : Int → Int → Int), (∀ i j, bin o (.int i) (.int j) = some (.int (f i j))) → (∀ i d z, bin o (.int i) d = some z → ∃ j, d = .int j) → PIp X op (ipI f) → PS X (.AugAssign (.Subscript (.Name x p) a sp) op e pos) (tS Φ w (.augM i ca o ce)) := fun f g1 g2 hp =>
    (ps_augS (pe_var hN hv hd hc) ha pget_list he hp set_list hga).via fun D σ H ⟨ρ, F, S, h⟩ => by
      have h : PostS w F D (if (mutS (getS ρ i)).isSome then (evE Φ ca ρ).out fun k ρ => match mutS (getS ρ i), k with
        | some ds, .int k => (match ixAt ds k with
          | some (.int x) => (evE Φ ce ρ).out fun y ρ => (match bin o (.int x) y, mutS (getS ρ i) with
            | some z, some ds' => (match setAt ds' k z with
              | some ds'' => .nx (ρ.set i (remut (getS ρ i) ds''))
              | none => .bad)
            | _, _ => .bad)
          | _ => .bad)
        | _, _ => .bad
        else .bad) := h
      cases q0 : mutS (getS ρ i) with
      | none => rw [q0] at h; exact h.elim
      | some ds0 =>
        rw [q0, if_pos (show (some ds0).isSome = true from rfl)] at h
        obtain ⟨s0, l, xs0, hi0, ms0, im0, hσ, fa0, ga0, ha0, rr0⟩ := S.mutL q0
        refine ⟨.ref l, hσ, ρ, F, S, PostE.mono (PostE.out h) fun v H1 ⟨d, ρ1, F1, l1, S1, r1, p1⟩ => ?_⟩
        dsimp only at p1
        cases q1 : mutS (getS ρ1 i) with
        | none => rw [q1] at p1; exact p1.elim
        | some ds =>
          rw [q1] at p1
          cases r1 with
          | int kk =>
            obtain ⟨s1, l', xs, hi, ms, im, hσ1, fa, ga, ha1, rr⟩ := S1.mutL q1
            rw [hσ] at hσ1
            cases hσ1
            dsimp only at p1
            cases q2 : ixAt ds kk with
            | none => rw [q2] at p1; exact p1.elim
            | some d0 =>
              rw [q2] at p1
              cases d0 with
              | int x0 =>
                obtain ⟨u, e1, ru⟩ := ixAt_rep rr q2
                cases ru
                refine ⟨l, xs, kk, _, rfl, rfl, SqL.of ha1, e1, ρ1, F1, S1, PostE.mono (PostE.out p1) fun v2 H2 ⟨d2, ρ2, F2, l2, S2, r2, p2⟩ => ?_⟩
                dsimp only at p2
                cases q3 : bin o (.int x0) d2 with
                | none => rw [q3] at p2; exact p2.elim
                | some z =>
                  cases q4 : mutS (getS ρ2 i) with
                  | none => rw [q3, q4] at p2; exact p2.elim
                  | some ds2 =>
                    rw [q3, q4] at p2
                    obtain ⟨j, rfl⟩ := g2 _ _ _ q3
                    rw [g1] at q3
                    cases q3
                    cases r2
                    obtain ⟨s2, l3, ys, hi2, ms2, im2, hσ2, fa2, ga2, ha2, rr2⟩ := S2.mutL q4
                    rw [hσ] at hσ2
                    cases hσ2
                    rw [getS_at hi2] at p2
                    dsimp only at p2
                    cases q5 : setAt ds2 kk (.int (f x0 j)) with
                    | none => rw [q5] at p2; exact p2.elim
                    | some ds3 =>
                      rw [q5] at p2
                      obtain ⟨jj, e3, rr3⟩ := setAt_rep rr2 (.int _) q5
                      exact ⟨x0, j, rfl, rfl, l, ys, kk, jj, rfl, rfl, ha2, e3, p2 F2 _ σ FLe.rf (S2.write (xs := ys) hi2 im2 hσ rr3)⟩
              | _ => exact p1.elim
          | _ => exact p1.elim
  cases o with
  | add => cases ho; exact key (fun i j => i + j) (fun _ _ => rfl) (fun i d z h => by cases d with | int j => exact ⟨j, rfl⟩ | _ => cases h) ip_add
  | sub => cases ho; exact key (fun i j => i - j) (fun _ _ => rfl) (fun i d z h => by cases d with | int j => exact ⟨j, rfl⟩ | _ => cases h) ip_sub
  | _ => cases ho
/-! ### xs.extend(ys) -/
def wExtend : V → List V → Hp → VK → Prop := fun x vs H Q => ∃ l b xs zs, x = .ref l ∧ vs = [.ref b] ∧ H l = some (.lst xs) ∧ Rd H b (.lst zs) ∧ xs.length + zs.length ≤ sizeLine ∧ Q .non (upd H l (.lst (xs ++ zs)))
theorem mw_extend : MtM X "list.extend" wExtend := by
  intro pins s σ H x vs v us Q I rx rv h
  obtain ⟨l, b, xs, zs, rfl, rfl, hH, hB, hz, q⟩ := h
  cases rx
  obtain ⟨u, rfl, ru⟩ := rv.one
  cases ru
  obtain ⟨z, its, n, r, hl, e⟩ := I.lstM hH
  obtain ⟨z2, its2, n2, r2, hl2, e2⟩ := lstR I hB
  have hsz : its.toArray.size + its2.toArray.size ≤ sizeLine := by simp only [List.size_toArray]; omega
  have hlong : ¬ (!its.toArray.isEmpty && Builtin.List.listTooLong (its.toArray.size + its2.toArray.size)) = true := by
    rw [notLongL hsz, Bool.and_false]
    decide
  have c := AutoSeq1.list_extend_list_list_0 l its.toArray n b its2.toArray n2 hlong (by simp only [List.size_toArray]; omega) (by omega)
  refine call_meets F.slot_list_extend ⟨_, e, rfl⟩ F.entry_list_extend (F.args_list_extend_2 _ _) c ⟨e, e2, .non, _, I.lset (its' := its ++ its2) hH e (by simp) (r.append r2) ?_, rfl, q⟩
  rw [List.length_append]
  omega
variable {b : Expr} {cb : E}
theorem sS_ext {apos : Pos} {cp : Pos} (hN : X.N[i]? = some x) (hv : Vis X.env.scope x) (hd : (x == ("__debug__" : Str)) = false) (hc : (x == ("__classdict__" : Str)) = false) (hb : PE X b (tE Φ w cb))
    (hs : starEach [b] X.env = (false, eval b X.env) :: starEach [] X.env) (hline : (apos.endLine == cp.line) = true) :
    PS X (.Expr (.Call (.Attribute (.Name x p) "extend" apos) [b] [] cp) pos) (tS Φ w (.ext i cb)) :=
  (ps_expr (pe_bm PySem.F.plainAttrs_list PySem.F.slot_list_extend PySem.F.type_list_extend mw_extend (pe_var hN hv hd hc) (pa_cons hb pa_nil hs) (by rfl) (by rw [hs]; rfl) hline hs (by rfl)) (by rfl)).via fun D σ H ⟨ρ, F, S, h⟩ => by
    have h : PostS w F D (if (mutS (getS ρ i)).isSome then (evE Φ cb ρ).out fun d ρ => match mutS (getS ρ i), d with
      | some ds, .list es => if ds.length + es.length ≤ SL then .nx (ρ.set i (remut (getS ρ i) (ds ++ es))) else .bad
      | _, _ => .bad
      else .bad) := h
    cases q0 : mutS (getS ρ i) with
    | none => rw [q0] at h; exact h.elim
    | some ds0 =>
      rw [q0, if_pos (show (some ds0).isSome = true from rfl)] at h
      obtain ⟨s0, a, xs0, hi0, ms0, im0, hσ, fa0, ga0, ha0, rr0⟩ := S.mutL q0
      refine ⟨.ref a, hσ, .inl ⟨rfl, xs0, SqL.of ha0⟩, ρ, F, S, PostE.mono (PostE.out h) fun v H1 ⟨d, ρ1, F1, l1, S1, r1, p1⟩ => ?_⟩
      dsimp only at p1
      cases q1 : mutS (getS ρ1 i) with
      | none => rw [q1] at p1; exact p1.elim
      | some ds =>
        rw [q1] at p1
        cases r1 with
        | @lst pb ys es s2 r2 =>
          dsimp only at p1
          obtain ⟨s1, a1, xs, hi, ms, im, hσ1, fa, ga, ha1, rr⟩ := S1.mutL q1
          rw [hσ] at hσ1
          cases hσ1
          rw [getS_at hi] at p1
          by_cases c : ds.length + es.length ≤ SL
          · rw [if_pos c] at p1
            refine ⟨a, pb, xs, ys, rfl, rfl, ha1, Rd.mo S1.fh s2, by rw [← rr.length, ← r2.length, ← SL_eq]; exact c, ?_⟩
            exact p1 F1 _ σ FLe.rf (S1.write (xs := xs) hi im hσ (rr.app r2))
          · rw [if_neg c] at p1; exact p1.elim
        | _ => exact p1.elim
end
/-! ### {k: v} -/
section
variable {K : PySem.W.Frag} {G : Hp} {pa : Addr} {F H : Hp} {ρ : Env} {σ : L2.St}
theorem Sim.frzAt (S : Sim K G pa F H ρ σ) {p : Addr} {u : HO} (h : H p = some u) (f : F p = none) (g : G p = none) (n : p ≠ pa) (sep : ∀ (j : Nat) (s : Slot), ρ[j]? = some s → isM s = true → σ[j]? ≠ some (some (.ref p))) :
    FLe F (upd F p u) ∧ Sim K G pa (upd F p u) H ρ σ := by
  have le : FLe F (upd F p u) := fun b o eb => by
    rw [upd_ne]
    · exact eb
    · intro z; subst z; rw [f] at eb; cases eb
  refine ⟨le, fun b o eb => ?_, S.gh, fun b => ?_, S.pn, S.len, fun j s hj => ?_, S.sep⟩
  · by_cases z : b = p
    · subst z; rw [upd_same] at eb; cases eb; exact h
    · rw [upd_ne z] at eb; exact S.fh b o eb
  · by_cases z : b = p
    · subst z; exact .inr g
    · rw [upd_ne z]; exact S.fg b
  · have q := S.slot j s hj
    cases s with
    | un => trivial
    | val d => obtain ⟨v, e', r'⟩ := q; exact ⟨v, e', r'.mo le⟩
    | mu es =>
      obtain ⟨b, ys, e', f', g', n', hx', r'⟩ := q
      have nb : b ≠ p := fun z => by subst z; exact sep j _ hj rfl e'
      exact ⟨b, ys, e', by rw [upd_ne nb]; exact f', g', n', hx', r'.mo le⟩
    | par es =>
      obtain ⟨ys, e', f', g', hx', r'⟩ := q
      exact ⟨ys, e', by rw [upd_ne (Ne.symm n)]; exact f', g', hx', r'.mo le⟩
end
section
variable {X : Cx} {Φ : Fns} {w : Wd} {pos : Pos} {a b : Expr} {ca cb : E}
def dk (x y : PyData) (ρ : Env) : R PyData := match x with
  | .int i => .ok (.dict [(.int i, y)]) ρ
  | .str i => .ok (.dict [(.str i, y)]) ρ
  | _ => .bad
theorem sE_dic1 (ha : ∀ G, PE X a (tE Φ { w with G := G } ca)) (hb : ∀ G, PE X b (tE Φ { w with G := G } cb)) : PE X (.Dict [some a] [b] pos) (tE Φ w (.dic1 ca cb)) :=
  (pe_disp (pps_cons (PE.any ha) (PE.any hb) pps_nil) rfl rfl (by simp) (by simp)).via fun σ H Q ⟨ρ, F, S, h⟩ => fun p hp => by
    have gp : w.G p = none := by
      cases e : w.G p with
      | none => rfl
      | some o => rw [S.gh _ _ e] at hp; cases hp
    have h : PostE w F σ Q ((evE Φ ca ρ).bind fun x ρ => (evE Φ cb ρ).bind fun y ρ => dk x y ρ) := h
    let G' : Hp := upd w.G p (.dK [])
    have px : ∀ {F1 : Hp} {x : Xn} {ρ1 : Env}, PostX w F1 σ x ρ1 → PostX { w with G := G' } F1 σ x ρ1 := fun h F' H' c d l S' x => h F' H' c d l (Sim.unprot gp S').1 x
    refine ⟨G', ρ, F, S.prot hp _, ?_⟩
    cases q : evE Φ ca ρ with
    | bad => rw [q] at h; exact h.elim
    | exc z ρ1 => rw [q] at h; exact px h
    | ok k ρ1 =>
      rw [q] at h
      intro F1 H1 v1 l1 S1 r1
      refine ⟨G', ρ1, F1, S1, ?_⟩
      have h : PostE w F σ Q ((evE Φ cb ρ1).bind fun y ρ => dk k y ρ) := h
      cases q2 : evE Φ cb ρ1 with
      | bad => rw [q2] at h; exact h.elim
      | exc z ρ2 => rw [q2] at h; exact px (PostX.up h l1)
      | ok y ρ2 =>
        rw [q2] at h
        intro F2 H2 v2 l2 S2 r2
        have hp2 : H2 p = some (.dK []) := S2.gh p _ upd_same
        have fin : ∀ (kk : Key) (d : PyData), (∀ F', RepKV w.K F' [] [] → Rep w.K F' y v2 → RepKV w.K F' [(d, y)] [(kk, v2)]) → PostE w F σ Q (.ok (.dict [(d, y)]) ρ2) → Q (.ref p) (upd H2 p (.dK [(kk, v2)])) := fun kk d hr h => by
          have S3 := S2.reprot (u' := .dK [(kk, v2)])
          obtain ⟨S4, fp, hp4, sep⟩ := Sim.unprot gp S3
          obtain ⟨le, S5⟩ := S4.frzAt upd_same fp gp (S.neP hp) sep
          exact h _ _ _ (l1.tr (l2.tr le)) S5 (.dic upd_same (hr _ .nil (r2.mo le)))
        cases r1 with
        | int i =>
          refine ⟨hp2, [(.inl i, v2)], rfl, by simp, ?_⟩
          exact fin (.inl i) (.int i) (fun F' n r => .int r n) h
        | str z =>
          refine ⟨hp2, [(.inr z, v2)], rfl, by simp, ?_⟩
          exact fin (.inr z) (.str z) (fun F' n r => .str r n) h
        | _ => exact False.elim h
end
end HM

namespace HM
open PySem PySem.Spec PyProof.Rows L2

/-! ### t[::-1] of a tuple -/
section
variable {prog : Program} {w : World} {A : Around} {E : Value → Shared → Prop} {s : Shared}
theorem applied_rev {sl : Addr} {vl vu vs : Value} {n : Nat} {Q : Int × Int × Nat → Shared → Prop} (sc : s.heap.IsSliceOf sl vl vu vs) (pl : IsPart vl none) (pu : IsPart vu none) (ps : IsPart vs (some (-1)))
    (h : Q ((n : Int) - 1, -1, n) s) : wpAny (model prog w) A (Builtin.Slice.sliceApplied (.ref sl) (pure (n : Int))) Q E s := by
  obtain ⟨os, so, so1, so2⟩ := id sc
  unfold Builtin.Slice.sliceApplied Builtin.Slice.sliceFields
  refine wpAny_bind (wpAny_bind (wpAny_field so so2 (x := vl) rfl (wpAny_bind (wpAny_field so so2 (x := vu) rfl (wpAny_bind (wpAny_field so so2 (x := vs) rfl (wpAny_pure ?_)))))))
  refine wpAny_bind (HT.slicePart_ ps ?_)
  show wpAny _ _ (if ((-1 : Int) == 0) = true then _ else _) _ _ s
  rw [if_neg (by decide)]
  refine wpAny_bind (HT.slicePart_ pl (wpAny_bind (HT.slicePart_ pu (wpAny_bind (wpAny_pure ?_)))))
  have e1 : Builtin.Slice.sliceAdjust none none (-1) (n : Int) = ((n : Int) - 1, -1) := by
    unfold Builtin.Slice.sliceAdjust
    rfl
  have e2 : Builtin.Slice.slicePlaces ((n : Int) - 1) (-1) (-1) = n := by
    unfold Builtin.Slice.slicePlaces
    simp
    omega
  show wpAny _ _ (match Builtin.Slice.sliceAdjust none none (-1) (n : Int) with | (lo, hi) => pure (lo, (-1 : Int), Builtin.Slice.slicePlaces lo hi (-1))) _ _ s
  rw [e1]
  show wpAny _ _ (pure ((n : Int) - 1, (-1 : Int), Builtin.Slice.slicePlaces ((n : Int) - 1) (-1) (-1))) _ _ s
  rw [e2]
  exact wpAny_pure h
theorem fm_congr {α β : Type} {f g : α → Option β} : ∀ {l : List α}, (∀ x ∈ l, f x = g x) → l.filterMap f = l.filterMap g
  | [], _ => rfl
  | a :: r, h => by
    rw [List.filterMap_cons, List.filterMap_cons, h a List.mem_cons_self, fm_congr fun x hx => h x (List.mem_cons_of_mem _ hx)]
theorem pick_rev (xs : List Value) : ((List.range xs.length).filterMap fun (m : Nat) => xs.toArray[(((xs.length : Nat) : Int) - 1 + (m : Int) * -1).toNat]?) = xs.reverse := by
  have e : ((List.range xs.length).filterMap fun (m : Nat) => xs.toArray[(((xs.length : Nat) : Int) - 1 + (m : Int) * -1).toNat]?) = ((List.range xs.length).filterMap fun (m : Nat) => xs.reverse.toArray[(((0 : Nat) : Int) + (m : Int) * 1).toNat]?) := by
    refine fm_congr fun m hm => ?_
    have hl : m < xs.length := List.mem_range.mp hm
    have e1 : (((xs.length : Nat) : Int) - 1 + (m : Int) * -1).toNat = xs.length - 1 - m := by omega
    have e2 : (((0 : Nat) : Int) + (m : Int) * 1).toNat = m := by omega
    rw [e1, e2]
    rw [List.getElem?_toArray, List.getElem?_toArray, List.getElem?_reverse hl]
  have p := congrArg Array.toList (HT.pick_gen xs.reverse.toArray 0 xs.length)
  rw [e]
  rw [show (xs.reverse.toArray.toList.drop 0).take xs.length = xs.reverse by rw [List.drop_zero]; exact List.take_of_length_le (by simp)] at p
  exact p
theorem getItem_tuple_rev {t sl : Addr} {its : List Value} {vl vu vs : Value} {Q : Value → Shared → Prop} (tp : IsTup s.heap t its.toArray) (sc : s.heap.IsSliceOf sl vl vu vs) (pl : IsPart vl none) (pu : IsPart vu none) (ps : IsPart vs (some (-1)))
    (h : Q (.ref s.heap.objs.size) { s with heap := s.heap.push { cls := .type "tuple", data := .seq its.reverse.toArray } }) (hsz : its.length ≤ sizeLine) : wpAny (model prog w) A (getItem (.ref t) (.ref sl)) Q E s := by
  have fits : sizeOk (.seq its.reverse.toArray) := by
    show its.reverse.toArray.size ≤ sizeLine
    rw [List.size_toArray, List.length_reverse]
    exact hsz
  obtain ⟨os, so, so1, so2⟩ := id sc
  have sty : s.TypeIs (.ref sl) "slice" := ⟨os, so, so1⟩
  unfold getItem
  try with_reducible refine wpAny_holding ?_
  first | refine wpAny_bind (wpAny_pure ?_) | skip
  refine wpAny_bind (wpAny_sequenceKey tp.typeIs (by decide) ?_)
  refine wpAny_bind (wpAny_callSpecial?_slot (name := Str.ofString "__getitem__") tp.typeIs PyProof.Rows.slot_tuple_getitem
    (wpAny_call_entry PyProof.Rows.slot_tuple_getitem tp.typeIs entry_tuple_getitem ?_ (args_tuple_getitem _ _)))
  show wpAny _ _ (Builtin.Tuple.tupleItemsOf (.ref t) >>= _) _ _ s
  refine wpAny_bind (tupleItemsOf_ tp ?_)
  refine wpAny_bind (wpAny_typeOf sty ?_)
  rw [if_pos (by decide)]
  refine wpAny_bind (applied_rev (n := its.toArray.size) sc pl pu ps ?_)
  have hno : ¬ ((((its.toArray.size : Nat) : Int) - 1 == 0 && (-1 : Int) == 1 && its.toArray.size == its.toArray.size) = true) := by
    intro q
    rw [Bool.and_eq_true, Bool.and_eq_true] at q
    exact absurd q.1.2 (by decide)
  show wpAny _ _ (if (((its.toArray.size : Nat) : Int) - 1 == 0 && (-1 : Int) == 1 && its.toArray.size == its.toArray.size) = true then _ else _) _ _ s
  rw [if_neg hno, List.size_toArray, pick_rev]
  first
    | exact wpAny_bind (m := Builtin.Tuple.tupleExact _) (wpAny_newObj_type (wpAny_pure ⟨_, rfl, wpAny_pure h⟩) fits)
    | exact wpAny_bind (m := Builtin.Tuple.tupleExact _) (wpAny_newObj_type (wpAny_bind (wpAny_pure (wpAny_pure ⟨_, rfl, wpAny_pure h⟩))) fits)
    | exact wpAny_bind (wpAny_bind (m := Builtin.Tuple.tupleExact _) (wpAny_newObj_type (wpAny_pure (wpAny_pure ⟨_, rfl, wpAny_pure h⟩)) fits))
    | exact wpAny_bind (wpAny_bind (m := Builtin.Tuple.tupleExact _) (wpAny_newObj_type (wpAny_pure ⟨_, rfl, wpAny_pure h⟩) fits))
end
section
variable {X : Cx} {e : Expr} {te : TE}
def tRvT (K : PySem.W.Frag) (te : TE) : TE := fun σ H Q => te σ H fun x H1 => ∃ a xs, x = .ref a ∧ SqT K H1 a xs ∧ ∀ p, H1 p = none → Q (.ref p) (upd H1 p (.tup xs.reverse))
theorem pe_rvT {k : Nat} {p1 p2 p3 pos : Pos} (he : PE X e te) : PE X (.Subscript e (.Slice none none (some (.UnaryOp .USub (.Constant (.int 1) k p1) p2)) p3) pos) (tRvT X.K te) := by
  refine ⟨fun pins s σ H Q I h => Subscript_ (thn (he.run pins s σ H _ I h) fun v sa ⟨x, Ha, Ia, ra, qa⟩ => ?_)⟩
  obtain ⟨a, xs, rfl, hx, q⟩ := qa
  cases ra
  have neg1 : PO X (some (.UnaryOp .USub (.Constant (.int 1) k p1) p2)) (tPart (tUn (rU fun i => .int (-i)) (tC (.int 1)))) := po_some (pe_un un_neg pe_int)
  refine wpAny_Slice (thn (po_none.run pins sa σ Ha (fun o H2 => o = none ∧ H2 = Ha) Ia ⟨rfl, rfl⟩) fun vl sb ⟨l, Hb, Ib, pl, el, eb⟩ => ?_)
  subst el eb
  refine thn (po_none.run pins sb σ Hb (fun o H3 => o = none ∧ H3 = Hb) Ib ⟨rfl, rfl⟩) fun vu sc ⟨u, Hc, Ic, pu, eu, ec⟩ => ?_
  subst eu ec
  refine thn (neg1.run pins sc σ Hc (fun o H4 => o = some (-1) ∧ H4 = Hc) Ic ⟨1, rfl, -1, rfl, rfl, rfl⟩) fun vs sd ⟨o, Hd, Id, ps, eo, ed⟩ => ?_
  subst eo ed
  have Ie : Inv X pins σ Hd { sd with heap := sd.heap.push { cls := .type "slice", data := .fields #[vl, vu, vs] } } := Id.kept (t' := sd.toks) fun b ob q => Heap.get?_push_of_some _ q
  obtain ⟨its, r, tp, hz⟩ := Ie.tuple hx
  have hlen := r.length
  show wpAny (model X.prog X.w) X.A (subscriptTail e (.Slice none none (some (.UnaryOp .USub (.Constant (.int 1) k p1) p2)) p3) (.ref a) (.ref sd.heap.objs.size)) _ _ _
  refine tail_any (ops := [.ref a, .ref sd.heap.objs.size]) tp.typeIs (PyProof.Rows.slot_tuple_getitem.lookup) ?_ (by with_unfolding_all rfl)
  refine getItem_tuple_rev tp (Heap.IsSliceOf.new _ vl vu vs) pl pu ps ?_ (by rw [← hlen]; exact hz)
  refine ⟨.ref _, _, Ie.laid (t' := sd.toks) (o := .tup xs.reverse) (fun b ob q => Heap.get?_push_of_some _ q) (Nat.le_refl _) ?_, rfl, q _ (Ie.hok.fresh (Nat.le_refl _))⟩
  exact ⟨by rw [List.length_reverse]; exact hz, _, r.reverse, IsTup.new _ _⟩
end
section
variable {X : Cx} {Φ : Fns} {w : Wd} {a : Expr} {ca : E}
theorem sE_rev {k : Nat} {p1 p2 p3 pos : Pos} (hK : X.K = w.K) (ha : PE X a (tE Φ w ca)) : PE X (.Subscript a (.Slice none none (some (.UnaryOp .USub (.Constant (.int 1) k p1) p2)) p3) pos) (tE Φ w (.rev ca)) := by
  refine ⟨fun pins s σ H Q I ⟨ρ, F, S, h⟩ => ?_⟩
  have h : PostE w F σ Q ((evE Φ ca ρ).bind fun x ρ => .of (revD x) ρ) := h
  cases q : evE Φ ca ρ with
  | bad => rw [q] at h; exact h.elim
  | exc z ρ1 =>
    rw [q] at h
    exact (pe_revL ha).run pins s σ H Q I ⟨ρ, F, S, by rw [q]; exact h⟩
  | ok d ρ1 =>
    rw [q] at h
    have h : PostE w F σ Q (.of (revD d) ρ1) := h
    cases d with
    | list ds =>
      refine (pe_revL ha).run pins s σ H Q I ⟨ρ, F, S, ?_⟩
      rw [q]
      intro F' H' v l S' r
      cases r with
      | lst s1 r1 =>
        refine ⟨_, _, rfl, .inl (Rd.mo S'.fh s1), fun t ht => ?_⟩
        exact h _ _ _ (l.tr (Ext.new S'.fh ht _).ff) (S'.ext (Ext.new S'.fh ht _)) (.lst (.inl upd_same) (r1.rev.mo (Ext.new S'.fh ht _).ff))
    | tuple ds =>
      refine (pe_rvT ha).run pins s σ H Q I ⟨ρ, F, S, ?_⟩
      rw [q]
      intro F' H' v l S' r
      cases r with
      | tup s1 r1 =>
        refine ⟨_, _, rfl, by rw [hK]; exact SqT.mo S'.fh s1, fun t ht => ?_⟩
        exact h _ _ _ (l.tr (Ext.new S'.fh ht _).ff) (S'.ext (Ext.new S'.fh ht _)) (.tup (.inl (.inl upd_same)) (r1.rev.mo (Ext.new S'.fh ht _).ff))
    | _ => exact h.elim
end
end HM

namespace HM
open PySem PySem.Spec PyProof.Rows L2

/-! ### a text and its plain form: a check by computing -/
structure FnI where
  name : Str
  id : Nat
  pars : Nat
  io : Option Nat
  own : Bool
structure Ck where
  N : List Str
  sc : Scope
  fb : Str → Bool
  fns : List FnI
  gi : List (Str × Int)
  bl : List Str
def isStar : Expr → Bool
  | .Starred .. => true
  | _ => false
def isSlice : Expr → Bool
  | .Slice .. => true
  | _ => false
def isSet : Expr → Bool
  | .Set .. => true
  | _ => false
def isComp : Expr → Bool
  | .ListComp .. | .SetComp .. | .DictComp .. => true
  | _ => false
def isTupE : Expr → Bool
  | .Tuple .. => true
  | _ => false
def visB (sc : Scope) (x : Str) : Bool := match sc.names.lookup x with
  | some .local => true
  | some .cell => true
  | some .free => true
  | _ => false
def locB (ck : Ck) (x : Str) : Bool := match ck.sc.names.lookup x with
  | some .local => true
  | some .cell => ck.fb x
  | _ => false
def isLoc (ck : Ck) (x : Str) : Bool := match ck.sc.names.lookup x with
  | some .local => true
  | _ => false
def glB (ck : Ck) (x : Str) : Bool := (match ck.sc.names.lookup x with
  | some .globalImplicit => true
  | _ => false) && !(x == ("__debug__" : Str))
def ixB (ck : Ck) (i : Nat) (x : Str) : Bool := match ck.N[i]? with
  | some y => decide (y = x)
  | none => false
def nmB (ck : Ck) (i : Nat) (x : Str) : Bool := ixB ck i x && visB ck.sc x && !(x == ("__debug__" : Str)) && !(x == ("__classdict__" : Str))
def plainA (xs : List Expr) : Bool := xs.all fun x => !isStar x
/-- a test by its value's truth -/
def plainT : Expr → Bool
  | .UnaryOp .Not _ _ => false
  | .BoolOp .. | .IfExp .. | .Compare .. => false
  | _ => true
def blB (ck : Ck) (x : Str) : Bool := glB ck x && ck.bl.any fun y => decide (y = x)
theorem star_cons {a : Expr} {es : List Expr} {env : PySem.Env} (h : isStar a = false) : starEach (a :: es) env = (false, eval a env) :: starEach es env := by
  cases a <;> first | rfl | cases h
theorem plainA_cons {a : Expr} {es : List Expr} (h : plainA (a :: es) = true) : isStar a = false ∧ plainA es = true := by
  unfold plainA at h ⊢
  rw [List.all_cons, Bool.and_eq_true] at h
  exact ⟨by simpa using h.1, h.2⟩
theorem plain_back {env : PySem.Env} {pos : Pos} : ∀ {es : List Expr}, plainA es = true → (backTo pos (starEach es env)).any (·.1) = false
  | [], _ => rfl
  | a :: es, h => by
    obtain ⟨h1, h2⟩ := plainA_cons h
    rw [star_cons h1]
    have := plain_back (env := env) (pos := pos) h2
    unfold backTo at this ⊢
    rw [List.map_cons, List.any_cons, this]
    rfl
theorem plain_tail {es : List Expr} (h : plainA es = true) : plainA es.tail = true := by
  cases es with
  | nil => rfl
  | cons a es => exact (plainA_cons h).2
theorem plain_ix {b : Expr} (h : isSlice b = false) : PlainIx b := fun o i => by
  cases b <;> first | rfl | cases h
theorem plainT_ok {x : Expr} {env : PySem.Env} (h : plainT x = true) : ∀ whole, PySem.isTrue x env whole = (do let v ← whole; standAt x.pos; holding [v] (truthy v)) := fun whole => by
  cases x with
  | UnaryOp op e p => cases op <;> first | rfl | cases h
  | BoolOp op e p => cases h
  | IfExp op e p => cases h
  | Compare op e p => cases h
  | _ => rfl
theorem notSet_ok {x : Expr} {env : PySem.Env} (h : isSet x = false) : ∀ v, foldedSetIterable x env v = pure v := fun v => by
  cases x <;> first | rfl | cases h
theorem notSet_marks {x : Expr} {op : CmpOp} (h : isSet x = false) : behindInMarks op x = false := by
  cases x <;> first | rfl | cases h
theorem notComp_sw {x : Expr} {t : Option Expr} {l : Nat} {env : PySem.Env} (h : isComp x = false) : swapsWith x t l env = pure false := by
  cases x <;> first | rfl | cases h
/-! ### what the check stands on -/
structure CtxOk (X : Cx) (ck : Ck) (Φ : Fns) (w : Wd) (k : Nat) : Prop where
  sc : X.env.scope = ck.sc
  N : X.N = ck.N
  nd : X.N.Nodup
  calm : X.calm = true
  K : X.K = w.K
  tk : Takes X w.W
  hr : Room k X.A
  fns : ∀ f ∈ ck.fns, FnHas X w.XR k f.name (Φ f.id) f.pars f.io f.own ∧ ∀ args, Φ f.id args ≠ .bad → args.length = f.pars
  gi : ∀ g ∈ ck.gi, ∃ t, X.mg g.1 = some (.int g.2 t)
  bl : ∀ b ∈ ck.bl, X.mg b = none
  fn : ∀ x, ck.fb x = true → X.fn x = true
section
variable {X : Cx} {ck : Ck} {Φ : Fns} {w : Wd} {k : Nat}
theorem CtxOk.u (o : CtxOk X ck Φ w k) : X.A.units + 70 < cLine := by have := o.hr.un; omega
theorem CtxOk.ix (o : CtxOk X ck Φ w k) {i : Nat} {x : Str} (h : ixB ck i x = true) : X.N[i]? = some x := by
  rw [o.N]
  unfold ixB at h
  cases q : ck.N[i]? with
  | none => rw [q] at h; cases h
  | some y => rw [q] at h; rw [of_decide_eq_true h]
theorem CtxOk.vis (o : CtxOk X ck Φ w k) {x : Str} (h : visB ck.sc x = true) : Vis X.env.scope x := by
  unfold visB at h
  rw [o.sc]
  unfold Vis
  split at h <;> first | exact .inl ‹_› | exact .inr (.inl ‹_›) | exact .inr (.inr ‹_›) | cases h
theorem CtxOk.loc (o : CtxOk X ck Φ w k) {x : Str} (h : locB ck x = true) : Loc X.env.scope x ∧ (X.fn x = true ∨ X.env.scope.names.lookup x = some .local) := by
  unfold locB at h
  rw [o.sc]
  unfold L2.Loc
  split at h
  · exact ⟨.inl ‹_›, .inr ‹_›⟩
  · exact ⟨.inr ‹_›, .inl (o.fn x h)⟩
  · cases h
theorem CtxOk.isLoc (o : CtxOk X ck Φ w k) {x : Str} (h : isLoc ck x = true) : X.env.scope.names.lookup x = some .local := by
  unfold HM.isLoc at h
  rw [o.sc]
  split at h
  · assumption
  · cases h
theorem CtxOk.gl (o : CtxOk X ck Φ w k) {x : Str} (h : glB ck x = true) : Gl X x ∧ (x == ("__debug__" : Str)) = false := by
  unfold glB at h
  rw [Bool.and_eq_true] at h
  refine ⟨?_, by simpa using h.2⟩
  have h := h.1
  show X.env.scope.names.lookup x = some .globalImplicit
  rw [o.sc]
  split at h
  · assumption
  · cases h
theorem CtxOk.nm (o : CtxOk X ck Φ w k) {i : Nat} {x : Str} (h : nmB ck i x = true) : X.N[i]? = some x ∧ Vis X.env.scope x ∧ (x == ("__debug__" : Str)) = false ∧ (x == ("__classdict__" : Str)) = false := by
  unfold nmB at h
  rw [Bool.and_eq_true, Bool.and_eq_true, Bool.and_eq_true] at h
  exact ⟨o.ix h.1.1.1, o.vis h.1.1.2, by simpa using h.1.2, by simpa using h.2⟩
theorem CtxOk.blt (o : CtxOk X ck Φ w k) {x : Str} (h : blB ck x = true) : Gl X x ∧ X.mg x = none := by
  unfold blB at h
  rw [Bool.and_eq_true, List.any_eq_true] at h
  obtain ⟨y, hy, e⟩ := h.2
  rw [of_decide_eq_true e] at hy
  exact ⟨(o.gl h.1).1, o.bl x hy⟩
end
/-! ### the check -/
inductive Jd where
  | e (x : Expr) | t (x : Expr) | wv (x : Expr) | a (xs : List Expr) | f (x : Expr) | i (tg x : Expr) | io (q i : Nat) (xs : List Expr) | ts (xs : List Expr) | o (x : Option Expr)
def namesE : List Expr → Option (List Str)
  | [] => some []
  | .Name id _ :: r => (namesE r).map (id :: ·)
  | _ => none
def tgsB (ck : Ck) : List Expr → List Nat → Bool
  | [], [] => true
  | .Name id _ :: r, i :: is => ixB ck i id && locB ck id && tgsB ck r is
  | _, _ => false
def tgB (ck : Ck) : Expr → Tg → Bool
  | .Name id _, .one i => ixB ck i id && locB ck id
  | .Tuple es _ _, .many is => tgsB ck es is
  | _, _ => false
def blkK (ck : Ck) (scope : Scope) : Ck := { ck with sc := relS scope ck.sc, fb := fun x => scope.names.lookup x == some .cell }
def ownS (ck : Ck) (own : List Nat) : List (Str × Nat) := own.map fun i => (ck.N.getD i default, i)
/-! ### an expression's shape -/
def onName (x : Expr) (f : Str → Bool) : Bool := match x with | .Name id _ => f id | _ => false
theorem onName_ok {x : Expr} {f : Str → Bool} (h : onName x f = true) : ∃ id p, x = .Name id p ∧ f id = true := by
  unfold onName at h; split at h <;> first | exact ⟨_, _, rfl, h⟩ | cases h
def onConst (x : Expr) (f : Const → Bool) : Bool := match x with | .Constant z _ _ => f z | _ => false
theorem onConst_ok {x : Expr} {f : Const → Bool} (h : onConst x f = true) : ∃ z j p, x = .Constant z j p ∧ f z = true := by
  unfold onConst at h; split at h <;> first | exact ⟨_, _, _, rfl, h⟩ | cases h
def onBin (x : Expr) (f : Expr → Operator → Expr → Bool) : Bool := match x with | .BinOp l op r _ => f l op r | _ => false
theorem onBin_ok {x : Expr} {f : Expr → Operator → Expr → Bool} (h : onBin x f = true) : ∃ l op r p, x = .BinOp l op r p ∧ f l op r = true := by
  unfold onBin at h; split at h <;> first | exact ⟨_, _, _, _, rfl, h⟩ | cases h
def onUn (x : Expr) (f : UnaryOp → Expr → Bool) : Bool := match x with | .UnaryOp op y _ => f op y | _ => false
theorem onUn_ok {x : Expr} {f : UnaryOp → Expr → Bool} (h : onUn x f = true) : ∃ op y p, x = .UnaryOp op y p ∧ f op y = true := by
  unfold onUn at h; split at h <;> first | exact ⟨_, _, _, rfl, h⟩ | cases h
def onCmp (x : Expr) (f : Expr → CmpOp → Expr → Bool) : Bool := match x with | .Compare l [op] [r] _ => f l op r | _ => false
theorem onCmp_ok {x : Expr} {f : Expr → CmpOp → Expr → Bool} (h : onCmp x f = true) : ∃ l op r p, x = .Compare l [op] [r] p ∧ f l op r = true := by
  unfold onCmp at h; split at h <;> first | exact ⟨_, _, _, _, rfl, h⟩ | cases h
def onCmp2 (x : Expr) (f : Expr → CmpOp → Expr → CmpOp → Expr → Bool) : Bool := match x with | .Compare l [op, op'] [r, r'] _ => f l op r op' r' | _ => false
theorem onCmp2_ok {x : Expr} {f : Expr → CmpOp → Expr → CmpOp → Expr → Bool} (h : onCmp2 x f = true) : ∃ l op r op' r' p, x = .Compare l [op, op'] [r, r'] p ∧ f l op r op' r' = true := by
  unfold onCmp2 at h; split at h <;> first | exact ⟨_, _, _, _, _, _, rfl, h⟩ | cases h
def onBool1 (x : Expr) (f : Expr → Bool) : Bool := match x with | .BoolOp _ [y] _ => f y | _ => false
theorem onBool1_ok {x : Expr} {f : Expr → Bool} (h : onBool1 x f = true) : ∃ op y p, x = .BoolOp op [y] p ∧ f y = true := by
  unfold onBool1 at h; split at h <;> first | exact ⟨_, _, _, rfl, h⟩ | cases h
def onBool (x : Expr) (f : BoolOp → Expr → Expr → Bool) : Bool := match x with | .BoolOp op (y :: z :: r) p => f op y (.BoolOp op (z :: r) p) | _ => false
theorem onBool_ok {x : Expr} {f : BoolOp → Expr → Expr → Bool} (h : onBool x f = true) : ∃ op y z r p, x = .BoolOp op (y :: z :: r) p ∧ f op y (.BoolOp op (z :: r) p) = true := by
  unfold onBool at h; split at h <;> first | exact ⟨_, _, _, _, _, rfl, h⟩ | cases h
def onIf (x : Expr) (f : Expr → Expr → Expr → Bool) : Bool := match x with | .IfExp y z u _ => f y z u | _ => false
theorem onIf_ok {x : Expr} {f : Expr → Expr → Expr → Bool} (h : onIf x f = true) : ∃ y z u p, x = .IfExp y z u p ∧ f y z u = true := by
  unfold onIf at h; split at h <;> first | exact ⟨_, _, _, _, rfl, h⟩ | cases h
def onTup (x : Expr) (f : List Expr → Bool) : Bool := match x with | .Tuple xs _ _ => f xs | _ => false
theorem onTup_ok {x : Expr} {f : List Expr → Bool} (h : onTup x f = true) : ∃ xs j p, x = .Tuple xs j p ∧ f xs = true := by
  unfold onTup at h; split at h <;> first | exact ⟨_, _, _, rfl, h⟩ | cases h
def onLst (x : Expr) (f : List Expr → Bool) : Bool := match x with | .List xs _ => f xs | _ => false
theorem onLst_ok {x : Expr} {f : List Expr → Bool} (h : onLst x f = true) : ∃ xs p, x = .List xs p ∧ f xs = true := by
  unfold onLst at h; split at h <;> first | exact ⟨_, _, rfl, h⟩ | cases h
def onSub (x : Expr) (f : Expr → Expr → Bool) : Bool := match x with | .Subscript y z _ => f y z | _ => false
theorem onSub_ok {x : Expr} {f : Expr → Expr → Bool} (h : onSub x f = true) : ∃ y z p, x = .Subscript y z p ∧ f y z = true := by
  unfold onSub at h; split at h <;> first | exact ⟨_, _, _, rfl, h⟩ | cases h
def onSl (x : Expr) (f : Option Expr → Option Expr → Option Expr → Bool) : Bool := match x with | .Slice a b c _ => f a b c | _ => false
theorem onSl_ok {x : Expr} {f : Option Expr → Option Expr → Option Expr → Bool} (h : onSl x f = true) : ∃ a b c p, x = .Slice a b c p ∧ f a b c = true := by
  unfold onSl at h; split at h <;> first | exact ⟨_, _, _, _, rfl, h⟩ | cases h
def onCall (x : Expr) (f : Str → List Expr → Bool) : Bool := match x with | .Call (.Name id _) xs [] _ => f id xs | _ => false
theorem onCall_ok {x : Expr} {f : Str → List Expr → Bool} (h : onCall x f = true) : ∃ id p xs p2, x = .Call (.Name id p) xs [] p2 ∧ f id xs = true := by
  unfold onCall at h; split at h <;> first | exact ⟨_, _, _, _, rfl, h⟩ | cases h
def onMeth (x : Expr) (f : Str → Str → List Expr → Bool) : Bool := match x with | .Call (.Attribute (.Name y _) m ap) xs [] p => (ap.endLine == p.line) && f y m xs | _ => false
theorem onMeth_ok {x : Expr} {f : Str → Str → List Expr → Bool} (h : onMeth x f = true) : ∃ y p1 m ap xs p, x = .Call (.Attribute (.Name y p1) m ap) xs [] p ∧ (ap.endLine == p.line) = true ∧ f y m xs = true := by
  unfold onMeth at h
  split at h
  · rw [Bool.and_eq_true] at h
    exact ⟨_, _, _, _, _, _, rfl, h.1, h.2⟩
  · cases h
def on1 {α : Type} (xs : List α) (f : α → Bool) : Bool := match xs with | [y] => f y | _ => false
theorem on1_ok {α : Type} {xs : List α} {f : α → Bool} (h : on1 xs f = true) : ∃ y, xs = [y] ∧ f y = true := by
  unfold on1 at h; split at h <;> first | exact ⟨_, rfl, h⟩ | cases h
def on2 {α : Type} (xs : List α) (f : α → α → Bool) : Bool := match xs with | [y, z] => f y z | _ => false
theorem on2_ok {α : Type} {xs : List α} {f : α → α → Bool} (h : on2 xs f = true) : ∃ y z, xs = [y, z] ∧ f y z = true := by
  unfold on2 at h; split at h <;> first | exact ⟨_, _, rfl, h⟩ | cases h
def onC {α : Type} (xs : List α) (f : α → List α → Bool) : Bool := match xs with | y :: r => f y r | _ => false
theorem onC_ok {α : Type} {xs : List α} {f : α → List α → Bool} (h : onC xs f = true) : ∃ y r, xs = y :: r ∧ f y r = true := by
  unfold onC at h; split at h <;> first | exact ⟨_, _, rfl, h⟩ | cases h
def onN {α : Type} (xs : Option α) : Bool := match xs with | none => true | _ => false
theorem onN_ok {α : Type} {xs : Option α} (h : onN xs = true) : xs = none := by
  cases xs <;> first | rfl | cases h
def onLc (x : Expr) (f : Expr → Expr → Expr → List Expr → Scope → Bool) : Bool := match x with | .ListComp e [⟨t, i, ifs, 0⟩] sc _ => f e t i ifs sc | _ => false
theorem onLc_ok {x : Expr} {f : Expr → Expr → Expr → List Expr → Scope → Bool} (h : onLc x f = true) : ∃ e t i ifs sc p, x = .ListComp e [⟨t, i, ifs, 0⟩] sc p ∧ f e t i ifs sc = true := by
  unfold onLc at h; split at h <;> first | exact ⟨_, _, _, _, _, _, rfl, h⟩ | cases h
def onNil (x : Expr) (op : CmpOp) (f : Str → Bool) : Bool := onCmp x fun l o r => decide (o = op) && onName l fun id => onLst r fun xs => xs.isEmpty && f id
theorem onNil_ok {x : Expr} {op : CmpOp} {f : Str → Bool} (h : onNil x op f = true) : ∃ id p p2 p3, x = .Compare (.Name id p) [op] [.List [] p2] p3 ∧ f id = true := by
  replace h := onCmp_ok h
  obtain ⟨l, o, r, p, rfl, h⟩ := h
  rw [Bool.and_eq_true] at h
  obtain ⟨h1, h⟩ := h
  replace h := onName_ok h
  obtain ⟨id, p1, rfl, h⟩ := h
  replace h := onLst_ok h
  obtain ⟨xs, p2, rfl, h⟩ := h
  rw [Bool.and_eq_true] at h
  obtain ⟨h2, h⟩ := h
  rw [List.isEmpty_iff.mp h2, of_decide_eq_true h1]
  exact ⟨_, _, _, _, rfl, h⟩
def onOf (nm : Str) (x : Expr) (f : Str → Str → List Expr → Bool) : Bool := match x with | .Call (.Name id _) [.Call (.Name id2 _) xs [] _] [] _ => decide (id = nm) && f id id2 xs | _ => false
theorem onOf_ok {nm : Str} {x : Expr} {f : Str → Str → List Expr → Bool} (h : onOf nm x f = true) : ∃ p id2 p2 xs q q2, x = .Call (.Name nm p) [.Call (.Name id2 p2) xs [] q] [] q2 ∧ f nm id2 xs = true := by
  unfold onOf at h
  split at h
  · rw [Bool.and_eq_true] at h
    obtain ⟨h1, h2⟩ := h
    have e := of_decide_eq_true h1
    subst e
    exact ⟨_, _, _, _, _, _, rfl, h2⟩
  · cases h
def isM1 : Option Expr → Bool
  | some (.UnaryOp .USub (.Constant (.int 1) _ _) _) => true
  | _ => false
theorem isM1_ok {x : Option Expr} (h : isM1 x = true) : ∃ k p1 p2, x = some (.UnaryOp .USub (.Constant (.int 1) k p1) p2) := by
  unfold isM1 at h
  split at h
  · exact ⟨_, _, _, rfl⟩
  · cases h
def isDict0 : Expr → Bool
  | .Dict [] [] _ => true
  | _ => false
theorem isDict0_ok {x : Expr} (h : isDict0 x = true) : ∃ p, x = .Dict [] [] p := by
  unfold isDict0 at h
  split at h
  · exact ⟨_, rfl⟩
  · cases h
def onDic1 (x : Expr) (f : Expr → Expr → Bool) : Bool := match x with | .Dict [some k] [v] _ => f k v | _ => false
theorem onDic1_ok {x : Expr} {f : Expr → Expr → Bool} (h : onDic1 x f = true) : ∃ k v p, x = .Dict [some k] [v] p ∧ f k v = true := by
  unfold onDic1 at h; split at h <;> first | exact ⟨_, _, _, rfl, h⟩ | cases h
/-- the ends of a range -/
def isRng : E → Option (E ⊕ E × E)
  | .rng a => some (.inl a)
  | .rng2 a b => some (.inr (a, b))
  | _ => none
theorem isRng1 {c a : E} (h : isRng c = some (.inl a)) : c = .rng a := by cases c <;> cases h; rfl
theorem isRng2 {c a b : E} (h : isRng c = some (.inr (a, b))) : c = .rng2 a b := by cases c <;> cases h; rfl
def isNMi : E → Option Nat
  | .nilM i => some i
  | _ => none
def fnB (ck : Ck) (id : Str) (p : FnI → Bool) : Bool := glB ck id && ck.fns.any fun f => decide (f.name = id) && p f
/-! ### the check -/
def chk : Nat → Ck → E → Jd → Bool
  | 0, _, _, _ => false
  | n + 1, ck, c, .e x => (onBool1 x fun y => chk n ck c (.e y)) || match c with
      | .var i => onName x fun id => nmB ck i id
      | .non => onConst x fun z => decide (z = .none)
      | .bl b => onConst x fun z => decide (z = .bool b)
      | .int i => onConst x fun z => decide (z = .int i)
      | .str s => onConst x fun z => decide (z = .str s)
      | .gint y z => onName x fun id => decide (id = y) && (glB ck y && ck.gi.any fun g => decide (g.1 = y) && decide (g.2 = z))
      | .bin o a b => onBin x fun l op r => decide (op = op2 o) && (chk n ck a (.e l) && chk n ck b (.e r))
      | .neg a => onUn x fun op y => decide (op = .USub) && chk n ck a (.e y)
      | .cmp o a b => onCmp x fun l op r => decide (op = cm o) && (!isSet r && (chk n ck a (.e l) && chk n ck b (.e r)))
      | .chain o p a b d => onCmp2 x fun l op r op' r' => decide (op = cm o) && (decide (op' = cm p) && (!isSet r && (!isSet r' && (chk n ck a (.e l) && (chk n ck b (.e r) && chk n ck d (.e r'))))))
      | .not a => (onUn x fun op y => decide (op = .Not) && chk n ck a (.e y)) || (match isNMi a with
        | some i => onNil x .NotEq fun id => nmB ck i id
        | none => false)
      | .and a b => onBool x fun op y r => decide (op = .And) && (chk n ck a (.e y) && chk n ck b (.e r))
      | .or a b => onBool x fun op y r => decide (op = .Or) && (chk n ck a (.e y) && chk n ck b (.e r))
      | .ite d a b => onIf x fun y z u => chk n ck d (.t y) && (chk n ck a (.e z) && chk n ck b (.e u))
      | .tup es => onTup x fun xs => decide (xs.length ≤ 1000) && chk n ck es (.a xs)
      | .lst es => onLst x fun xs => decide (xs.length ≤ 1000) && chk n ck es (.a xs)
      | .ix a b => onSub x fun y z => !isSlice z && (chk n ck a (.e y) && chk n ck b (.e z))
      | .sl a lo hi => onSub x fun y z => onSl z fun l h s => onN s && (chk n ck a (.e y) && (chk n ck lo (.o l) && chk n ck hi (.o h)))
      | .call fn es => onCall x fun id xs => fnB ck id (fun f => decide (f.id = fn) && f.io.isNone) && chk n ck es (.a xs)
      | .callio fn p i es => onCall x fun id xs => fnB ck id (fun f => decide (f.id = fn) && (decide (f.io = some p) && (decide (p < f.pars) && !f.own))) && chk n ck es (.io p i xs)
      | .bi f es => onCall x fun id xs => decide (id = biN f) && (blB ck id && (!xs.isEmpty && chk n ck es (.a xs)))
      | .isi a t => onCall x fun id xs => decide (id = "isinstance") && (blB ck id && on2 xs fun y z => onName z fun ty => decide (ty = Str.ofString (tyN t)) && (blB ck ty && (!isStar y && chk n ck a (.e y))))
      | .lenM i => onCall x fun id xs => decide (id = "len") && (blB ck id && on1 xs fun y => onName y fun z => nmB ck i z)
      | .ixM i e => onSub x fun y z => onName y fun id => nmB ck i id && (!isSlice z && chk n ck e (.e z))
      | .nilM i => onNil x .Eq fun id => nmB ck i id
      | .popM i e => onMeth x fun y m xs => decide (m = "pop") && (nmB ck i y && on1 xs fun z => !isStar z && chk n ck e (.e z))
      | .edic => isDict0 x
      | .dic1 a b => onDic1 x fun k v => chk n ck a (.e k) && chk n ck b (.e v)
      | .trng c => onOf "tuple" x fun id id2 xs => blB ck id && (decide (id2 = "range") && (blB ck id2 && match isRng c with
        | some (.inl a) => on1 xs fun y => !isStar y && chk n ck a (.e y)
        | some (.inr (a, b)) => on2 xs fun y z => !isStar y && (!isStar z && (chk n ck a (.e y) && chk n ck b (.e z)))
        | none => false))
      | .lrng a => chk n ck (.lrng a) (.f x)
      | .rev a => onSub x fun y z => onSl z fun l h s => onN l && (onN h && (isM1 s && chk n ck a (.e y)))
      | .compM elt tg i cond own => chk n ck (.compM elt tg i cond own) (.f x)
      | .comp elt tg src cond own => onLc x fun elt' tgx iter ifs scope => blkC ck.N ck.sc scope (ownS ck own) && (tgB (blkK ck scope) tgx tg && ((tg.ixs.all fun i => own.contains i) && (!isSet iter
        && (chk n (blkK ck scope) elt (.e elt') && (chk n (blkK ck scope) cond (.ts ifs) && chk n ck src (.i tgx iter))))))
      | _ => false
  | n + 1, ck, c, .t x => (chk n ck c (.wv x)) || ((plainT x && chk n ck c (.e x)) || match c with
      | .not a => (onUn x fun op y => decide (op = .Not) && chk n ck a (.t y)) || (match isNMi a with
        | some i => onNil x .NotEq fun id => nmB ck i id
        | none => false)
      | .cmp o a b => onCmp x fun l op r => decide (op = cm o) && (!isSet r && (chk n ck a (.e l) && chk n ck b (.e r)))
      | .chain o p a b d => onCmp2 x fun l op r op' r' => decide (op = cm o) && (decide (op' = cm p) && (!isSet r && (!isSet r' && (chk n ck a (.e l) && (chk n ck b (.e r) && chk n ck d (.e r'))))))
      | .nilM i => onNil x .Eq fun id => nmB ck i id
      | _ => false)
  | n + 1, ck, c, .wv x => (onBool1 x fun y => chk n ck c (.t y)) || match c with
      | .and a b => onBool x fun op y r => decide (op = .And) && (chk n ck a (.t y) && chk n ck b (.wv r))
      | .or a b => onBool x fun op y r => decide (op = .Or) && (chk n ck a (.t y) && chk n ck b (.wv r))
      | _ => false
  | n + 1, ck, c, .a xs => (match c with
    | .nil => xs.isEmpty
    | .cons a b => onC xs fun y ys => !isStar y && (chk n ck a (.e y) && chk n ck b (.a ys))
    | _ => false)
  | n + 1, ck, c, .io q i xs => (match q with
    | 0 => onC xs fun y ys => onName y fun id => nmB ck i id && chk n ck c (.a ys)
    | q + 1 => (match c with | .cons a b => onC xs fun y ys => !isStar y && (chk n ck a (.e y) && chk n ck b (.io q i ys)) | _ => false))
  | n + 1, ck, c, .f x => (match c with
    | .lst es => onLst x fun xs => decide (xs.length ≤ 1000) && chk n ck es (.a xs)
    | .bi .list (.cons a .nil) => onCall x fun id xs => decide (id = "list") && (blB ck id && on1 xs fun y => !isStar y && chk n ck a (.e y))
    | .bin .add a b => onBin x fun l op r => decide (op = .Add) && (chk n ck a (.e l) && chk n ck b (.e r))
    | .bin .mul a b => onBin x fun l op r => decide (op = .Mult) && (chk n ck a (.e l) && chk n ck b (.e r))
    | .sl a lo hi => onSub x fun y z => onSl z fun l h s => onN s && (chk n ck a (.e y) && (chk n ck lo (.o l) && chk n ck hi (.o h)))
    | .compM elt tg i cond own => onLc x fun elt' tgx iter ifs scope => onName iter fun id => nmB ck i id && (blkC ck.N ck.sc scope (ownS ck own) && (tgB (blkK ck scope) tgx tg && ((tg.ixs.all fun i => own.contains i)
        && (chk n (blkK ck scope) elt (.e elt') && chk n (blkK ck scope) cond (.ts ifs)))))
    | .lrng c => onOf "list" x fun id id2 xs => blB ck id && (decide (id2 = "range") && (blB ck id2 && match isRng c with
        | some (.inl a) => on1 xs fun y => !isStar y && chk n ck a (.e y)
        | some (.inr (a, b)) => on2 xs fun y z => !isStar y && (!isStar z && (chk n ck a (.e y) && chk n ck b (.e z)))
        | none => false))
    | .call fn es => onCall x fun id xs => fnB ck id (fun f => decide (f.id = fn) && (f.io.isNone && f.own)) && chk n ck es (.a xs)
    | .comp elt tg src cond own => onLc x fun elt' tgx iter ifs scope => blkC ck.N ck.sc scope (ownS ck own) && (tgB (blkK ck scope) tgx tg && ((tg.ixs.all fun i => own.contains i) && (!isSet iter
        && (chk n (blkK ck scope) elt (.e elt') && (chk n (blkK ck scope) cond (.ts ifs) && chk n ck src (.i tgx iter))))))
    | _ => false)
  | n + 1, ck, c, .i tg x => (chk n ck c (.e x)) || (match c with
    | .rng a => onCall x fun id xs => decide (id = "range") && (blB ck id && on1 xs fun y => !isStar y && chk n ck a (.e y))
    | .rng2 a b => onCall x fun id xs => decide (id = "range") && (blB ck id && on2 xs fun y z => !isStar y && (!isStar z && (chk n ck a (.e y) && chk n ck b (.e z))))
    | .enum a => onTup tg fun _ => onCall x fun id xs => decide (id = "enumerate") && (blB ck id && on1 xs fun y => !isStar y && chk n ck a (.e y))
    | .zip a b => onTup tg fun _ => onCall x fun id xs => decide (id = "zip") && (blB ck id && on2 xs fun y z => !isStar y && (!isStar z && (chk n ck a (.e y) && chk n ck b (.e z))))
    | _ => false)
  | n + 1, ck, c, .ts xs => (match xs with
    | [] => (match c with | .bl true => true | _ => false)
    | [y] => chk n ck c (.t y)
    | _ => false)
  | n + 1, ck, c, .o x => (match x with
    | none => c.isNon
    | some y => !c.isNon && chk n ck c (.e y))
end HM

namespace HM
open PySem PySem.Spec PyProof.Rows L2

structure HoldsA (X : Cx) (Φ : Fns) (w : Wd) (c : E) (xs : List Expr) : Prop where
  pa : PA X xs (tA Φ w c)
  pl : plainA xs = true
  len : ∀ ρ d ρ', evE Φ c ρ = .ok d ρ' → (tupOf d).length = xs.length
  nil : xs = [] → ∀ ρ, evE Φ c ρ = .ok (.tuple []) ρ
def Holds (X : Cx) (Φ : Fns) (w : Wd) (c : E) : Jd → Prop
  | .e x => PE X x (tE Φ w c)
  | .t x => PT X x (tT Φ w c)
  | .wv x => PW X x (tT Φ w c)
  | .a xs => HoldsA X Φ w c xs
  | .f x => PE X x (tF Φ w c)
  | .i tg x => PI X tg x (tI Φ w c)
  | .io q i xs => PA X xs (tAio Φ w q i c) ∧ plainA xs = true ∧ xs ≠ []
  | .ts xs => PTs X xs (tT Φ w c)
  | .o x => PO X x (tO Φ w c)
theorem and3 {a b : Bool} (h : (a && b) = true) : a = true ∧ b = true := by rwa [Bool.and_eq_true] at h
theorem nt {a : Bool} (h : (!a) = true) : a = false := by simpa using h
theorem dc {p : Prop} [Decidable p] (h : decide p = true) : p := of_decide_eq_true h
section
variable {X : Cx} {ck : Ck} {Φ : Fns} {w : Wd} {k : Nat}
theorem tgs_ok (o : CtxOk X ck Φ w k) : ∀ {es : List Expr} {is : List Nat}, tgsB ck es is = true → PGs X es (tGs w is) ∧ is.length = es.length ∧ (assignEach es X.env).length = es.length ∧ (assignEach es X.env).findIdx? (·.1) = none
  | [], [], _ => ⟨sG_nil, rfl, rfl, rfl⟩
  | [], _ :: _, h => by cases h
  | e :: r, [], h => by cases e <;> cases h
  | e :: r, i :: is, h => by
    cases e with
    | Name id p =>
      replace h := and3 h
      obtain ⟨h1, h2⟩ := h
      replace h1 := and3 h1
      obtain ⟨h1, h3⟩ := h1
      obtain ⟨p1, p2, p3, p4⟩ := tgs_ok o h2
      obtain ⟨l1, l2⟩ := o.loc h3
      refine ⟨sG_cons o.nd (o.ix h1) l1 l2 p1, by rw [List.length_cons, List.length_cons, p2], by show (_ :: assignEach r X.env).length = _; rw [List.length_cons, List.length_cons, p3], ?_⟩
      show ((false, _) :: assignEach r X.env).findIdx? (·.1) = none
      rw [List.findIdx?_cons, p4]
      rfl
    | _ => cases h
theorem tg_ok (o : CtxOk X ck Φ w k) {e : Expr} {tg : Tg} (h : tgB ck e tg = true) : PG X e (tG w tg) := by
  cases e with
  | Name id p =>
    cases tg with
    | one i =>
      replace h := and3 h
      obtain ⟨h1, h3⟩ := h
      obtain ⟨l1, l2⟩ := o.loc h3
      exact sG_name o.nd (o.ix h1) l1 l2
    | many is => cases h
  | Tuple es n p =>
    cases tg with
    | one i => cases h
    | many is =>
      obtain ⟨p1, p2, p3, p4⟩ := tgs_ok o (show tgsB ck es is = true from h)
      exact sG_tup o.K o.calm p1 p2 p3 p4
  | _ => cases h
theorem blk_ok (o : CtxOk X ck Φ w k) {scope : Scope} (G : Hp) (s : Shared) (H : Hp) (C : Addr) (cl : List (Str × Addr)) (fp : List Addr) : CtxOk (X.blk s H scope (compEnvC scope cl C X.env) fp) (blkK ck scope) Φ (w.at G) k where
  sc := by
    show relS scope X.env.scope = relS scope ck.sc
    rw [o.sc]
  N := o.N
  nd := o.nd
  calm := o.calm
  K := o.K
  tk := takes0
  hr := o.hr
  fns := fun f hf => ⟨⟨(o.fns f hf).1.ex⟩, (o.fns f hf).2⟩
  gi := o.gi
  bl := o.bl
  fn := fun x h => h
theorem fn_of (o : CtxOk X ck Φ w k) {id : Str} {p : FnI → Bool} (h : fnB ck id p = true) : Gl X id ∧ (id == ("__debug__" : Str)) = false ∧ ∃ f, f.name = id ∧ p f = true ∧ FnHas X w.XR k f.name (Φ f.id) f.pars f.io f.own ∧ ∀ args, Φ f.id args ≠ .bad → args.length = f.pars := by
  replace h := and3 h
  obtain ⟨h1, h⟩ := h
  rw [List.any_eq_true] at h
  obtain ⟨f, hf, hp⟩ := h
  replace hp := and3 hp
  obtain ⟨e, hp⟩ := hp
  obtain ⟨g1, g2⟩ := o.gl h1
  exact ⟨g1, g2, f, dc e, hp, o.fns f hf⟩
theorem or3 {a b : Bool} (h : (a || b) = true) : a = true ∨ b = true := by rwa [Bool.or_eq_true] at h
theorem isNMi_ok {a : E} {i : Nat} (h : isNMi a = some i) : a = .nilM i := by
  cases a <;> cases h
  rfl
theorem ne_nil {xs : List Expr} (h : (!xs.isEmpty) = true) : ∃ y ys, xs = y :: ys := by
  cases xs with
  | nil => cases h
  | cons y ys => exact ⟨y, ys, rfl⟩
theorem CtxOk.atG (o : CtxOk X ck Φ w k) (G : Hp) : CtxOk X ck Φ { w with G := G } k := ⟨o.sc, o.N, o.nd, o.calm, o.K, o.tk, o.hr, o.fns, o.gi, o.bl, o.fn⟩
theorem ownS_map (own : List Nat) : (ownS ck own).map (·.2) = own := by
  unfold ownS
  rw [List.map_map]
  exact (List.map_congr_left fun _ _ => rfl).trans (List.map_id _)
theorem comp_ok (o : CtxOk X ck Φ w k) {elt cond : E} {tg : Tg} {own : List Nat} {elt' tgx : Expr} {ifs : List Expr} {scope : Scope}
    (h1 : blkC ck.N ck.sc scope (ownS ck own) = true) (h2 : tgB (blkK ck scope) tgx tg = true) (h3 : (tg.ixs.all fun i => own.contains i) = true)
    (he : ∀ (X : Cx) (w : Wd) (k : Nat), CtxOk X (blkK ck scope) Φ w k → PE X elt' (tE Φ w elt)) (hc : ∀ (X : Cx) (w : Wd) (k : Nat), CtxOk X (blkK ck scope) Φ w k → PTs X ifs (tT Φ w cond)) : CompOk X Φ w tgx elt' ifs scope (ownS ck own) tg elt cond where
  nd := o.nd
  calm := o.calm
  blk := by rw [o.N, o.sc]; exact blkOk_by h1
  ixs := fun i hi => by
    rw [ownS_map]
    have := List.all_eq_true.mp h3 i hi
    simpa using this
  g := fun G s H C cl fp => tg_ok (blk_ok o G s H C cl fp) h2
  t := fun G s H C cl fp => hc _ _ _ (blk_ok o G s H C cl fp)
  e := fun G s H C cl fp => he _ _ _ (blk_ok o G s H C cl fp)
theorem sT_yes : PTs X [] (tT Φ w (.bl true)) := ⟨fun pins s σ H Q I ⟨ρ, F, S, h⟩ => pts_nil.run pins s σ H Q I (h F H FLe.rf S)⟩
theorem star_all {xs : List Expr} (h : plainA xs = true) : ∀ e r, xs = e :: r → starEach (e :: r) X.env = (false, eval e X.env) :: starEach r X.env := fun e r q => by
  subst q
  exact star_cons (plainA_cons h).1
end
theorem smallSL {n : Nat} (h : n ≤ 1000) : n ≤ SL := Nat.le_trans h (by decide)
theorem chk_ok (Φ : Fns) : ∀ (n : Nat) (X : Cx) (ck : Ck) (w : Wd) (k : Nat) (c : E) (j : Jd), CtxOk X ck Φ w k → chk n ck c j = true → Holds X Φ w c j := fun n => by
  induction n with
  | zero => intro X ck w k c j o h; cases h
  | succ n ih =>
    intro X ck w k c j o h
    have comp : ∀ {elt : E} {tg : Tg} {src cond : E} {own : List Nat} {x : Expr}, (onLc x fun elt' tgx iter ifs scope => blkC ck.N ck.sc scope (ownS ck own) && (tgB (blkK ck scope) tgx tg && ((tg.ixs.all fun i => own.contains i) && (!isSet iter
        && (chk n (blkK ck scope) elt (.e elt') && (chk n (blkK ck scope) cond (.ts ifs) && chk n ck src (.i tgx iter))))))) = true → PE X x (tF Φ w (.comp elt tg src cond own)) := fun {elt tg src cond own x} h => by
      replace h := onLc_ok h
      obtain ⟨elt', tgx, iter, ifs, scope, p, rfl, h⟩ := h
      replace h := and3 h
      obtain ⟨h1, h⟩ := h
      replace h := and3 h
      obtain ⟨h2, h⟩ := h
      replace h := and3 h
      obtain ⟨h3, h⟩ := h
      replace h := and3 h
      obtain ⟨h4, h⟩ := h
      replace h := and3 h
      obtain ⟨h5, h⟩ := h
      replace h := and3 h
      obtain ⟨h6, h7⟩ := h
      have c := comp_ok o h1 h2 h3 (fun X w k o => ih X _ w k elt _ o h5) (fun X w k o => ih X _ w k cond _ o h6)
      have r := sF_comp (pos := p) c (ih X ck w k src _ o h7) (notSet_ok (nt h4))
      rw [ownS_map] at r
      exact r
    cases j with
    | o x =>
      cases x with
      | none =>
        cases c with
        | non => exact sO_none
        | _ => cases h
      | some y =>
        obtain ⟨h1, h2⟩ := and3 (show (!c.isNon && chk n ck c (.e y)) = true from h)
        exact sO_some (ih X ck w k c (.e y) o h2) (nt h1)
    | ts xs =>
      cases xs with
      | nil =>
        cases c with
        | bl b => cases b with
          | true => exact sT_yes
          | false => cases h
        | _ => cases h
      | cons y ys =>
        cases ys with
        | nil => exact pts_one (ih X ck w k c (.t y) o h)
        | cons _ _ => cases h
    | a xs =>
      cases c with
      | nil =>
        cases xs with
        | nil => exact ⟨sA_nil, rfl, fun ρ d ρ' e => by cases e; rfl, fun _ ρ => rfl⟩
        | cons _ _ => cases h
      | cons a b =>
        replace h := onC_ok h
        obtain ⟨y, ys, rfl, h⟩ := h
        replace h := and3 h
        obtain ⟨h1, h⟩ := h
        replace h := and3 h
        obtain ⟨h2, h3⟩ := h
        have pb : HoldsA X Φ w b ys := ih X ck w k b (.a ys) o h3
        refine ⟨sA_cons (ih X ck w k a (.e y) o h2) pb.pa (star_cons (nt h1)), ?_, fun ρ d ρ' e => ?_, fun z => by cases z⟩
        · unfold plainA
          rw [List.all_cons, h1]
          exact pb.pl
        · obtain ⟨x1, ρ1, e1, e2⟩ := bind_ok (show (evE Φ a ρ).bind (fun x ρ => (evE Φ b ρ).bind fun y ρ => .ok (.tuple (x :: tupOf y)) ρ) = .ok d ρ' from e)
          obtain ⟨x2, ρ2, e3, e4⟩ := bind_ok e2
          cases e4
          show (x1 :: tupOf x2).length = _
          rw [List.length_cons, List.length_cons, pb.len _ _ _ e3]
      | _ => cases h
    | io q i xs =>
      cases q with
      | zero =>
        replace h := onC_ok h
        obtain ⟨y, ys, rfl, h⟩ := h
        replace h := onName_ok h
        obtain ⟨id, p, rfl, h⟩ := h
        replace h := and3 h
        obtain ⟨h1, h2⟩ := h
        obtain ⟨n1, n2, n3, n4⟩ := o.nm h1
        have pb : HoldsA X Φ w c ys := ih X ck w k c (.a ys) o h2
        exact ⟨sA_io0 n1 n2 n3 n4 pb.pa, pb.pl, fun z => by cases z⟩
      | succ q =>
        cases c with
        | cons a b =>
          replace h := onC_ok h
          obtain ⟨y, ys, rfl, h⟩ := h
          replace h := and3 h
          obtain ⟨h1, h⟩ := h
          replace h := and3 h
          obtain ⟨h2, h3⟩ := h
          obtain ⟨p1, p2, p3⟩ := ih X ck w k b (.io q i ys) o h3
          refine ⟨sA_ioS (ih X ck w k a (.e y) o h2) p1 (star_cons (nt h1)), ?_, fun z => by cases z⟩
          unfold plainA
          rw [List.all_cons, h1]
          exact p2
        | _ => cases h
    | wv x =>
      replace h := or3 h
      rcases h with h | h
      · replace h := onBool1_ok h
        obtain ⟨op, y, p, rfl, h⟩ := h
        cases op with
        | And => exact pw_and1 (ih X ck w k c (.t y) o h)
        | Or => exact pw_or1 (ih X ck w k c (.t y) o h)
      · cases c with
        | and a b =>
          replace h := onBool_ok h
          obtain ⟨op, y, z, r, p, rfl, h⟩ := h
          replace h := and3 h
          obtain ⟨e, h⟩ := h
          replace h := and3 h
          obtain ⟨h1, h2⟩ := h
          obtain rfl := dc e
          exact sT_and (ih X ck w k a (.t y) o h1) (ih X ck w k b (.wv _) o h2)
        | or a b =>
          replace h := onBool_ok h
          obtain ⟨op, y, z, r, p, rfl, h⟩ := h
          replace h := and3 h
          obtain ⟨e, h⟩ := h
          replace h := and3 h
          obtain ⟨h1, h2⟩ := h
          obtain rfl := dc e
          exact sT_or (ih X ck w k a (.t y) o h1) (ih X ck w k b (.wv _) o h2)
        | _ => cases h
    | i tg x =>
      replace h := or3 h
      rcases h with h | h
      · exact sI_val o.K (ih X ck w k c (.e x) o h)
      · cases c with
        | rng a =>
          replace h := onCall_ok h
          obtain ⟨id, p, xs, p2, rfl, h⟩ := h
          replace h := and3 h
          obtain ⟨h1, h⟩ := h
          replace h := and3 h
          obtain ⟨h2, h⟩ := h
          replace h := on1_ok h
          obtain ⟨y, rfl, h⟩ := h
          replace h := and3 h
          obtain ⟨h3, h4⟩ := h
          obtain rfl := dc h1
          obtain ⟨g1, g2⟩ := o.blt h2
          exact sI_rng g1 g2 (ih X ck w k a _ o h4) (star_cons (nt h3))
        | rng2 a b =>
          replace h := onCall_ok h
          obtain ⟨id, p, xs, p2, rfl, h⟩ := h
          replace h := and3 h
          obtain ⟨h1, h⟩ := h
          replace h := and3 h
          obtain ⟨h2, h⟩ := h
          replace h := on2_ok h
          obtain ⟨y, z, rfl, h⟩ := h
          replace h := and3 h
          obtain ⟨h3, h⟩ := h
          replace h := and3 h
          obtain ⟨h4, h⟩ := h
          replace h := and3 h
          obtain ⟨h5, h6⟩ := h
          obtain rfl := dc h1
          obtain ⟨g1, g2⟩ := o.blt h2
          exact sI_rng2 g1 g2 (ih X ck w k a _ o h5) (ih X ck w k b _ o h6) (by rw [star_cons (nt h3), star_cons (nt h4)]; rfl) (star_cons (nt h4))
        | enum a =>
          replace h := onTup_ok h
          obtain ⟨es, j, tp, rfl, h⟩ := h
          replace h := onCall_ok h
          obtain ⟨id, p, xs, p2, rfl, h⟩ := h
          replace h := and3 h
          obtain ⟨h1, h⟩ := h
          replace h := and3 h
          obtain ⟨h2, h⟩ := h
          replace h := on1_ok h
          obtain ⟨y, rfl, h⟩ := h
          replace h := and3 h
          obtain ⟨h3, h4⟩ := h
          obtain rfl := dc h1
          obtain ⟨g1, g2⟩ := o.blt h2
          exact sI_enum o.K g1 g2 (ih X ck w k a _ o h4) (star_cons (nt h3))
        | zip a b =>
          replace h := onTup_ok h
          obtain ⟨es, j, tp, rfl, h⟩ := h
          replace h := onCall_ok h
          obtain ⟨id, p, xs, p2, rfl, h⟩ := h
          replace h := and3 h
          obtain ⟨h1, h⟩ := h
          replace h := and3 h
          obtain ⟨h2, h⟩ := h
          replace h := on2_ok h
          obtain ⟨y, z, rfl, h⟩ := h
          replace h := and3 h
          obtain ⟨h3, h⟩ := h
          replace h := and3 h
          obtain ⟨h4, h⟩ := h
          replace h := and3 h
          obtain ⟨h5, h6⟩ := h
          obtain rfl := dc h1
          obtain ⟨g1, g2⟩ := o.blt h2
          exact sI_zip o.K g1 g2 (ih X ck w k a _ o h5) (ih X ck w k b _ o h6) (star_cons (nt h3)) (star_cons (nt h4)) (plain_back (by unfold plainA; rw [List.all_cons, h4]; rfl))
        | _ => cases h
    | f x =>
      cases c with
      | lst es =>
        replace h := onLst_ok h
        obtain ⟨xs, p, rfl, h⟩ := h
        replace h := and3 h
        obtain ⟨h1, h2⟩ := h
        have pa : HoldsA X Φ w es _ := ih X ck w k es _ o h2
        exact sF_lst pa.pa (smallSL (dc h1)) pa.len
      | call fn es =>
        replace h := onCall_ok h
        obtain ⟨id, p, xs, p2, rfl, h⟩ := h
        replace h := and3 h
        obtain ⟨h1, h2⟩ := h
        obtain ⟨g1, g2, f, hn, hf, F, L⟩ := fn_of o h1
        replace hf := and3 hf
        obtain ⟨e1, hf⟩ := hf
        replace hf := and3 hf
        obtain ⟨e2, e3⟩ := hf
        obtain ⟨fn', fi, fp, fio, fo⟩ := f
        obtain rfl := dc e1
        obtain rfl := hn
        cases fio with
        | some _ => cases e2
        | none =>
          cases fo with
          | false => cases e3
          | true =>
            have pa : HoldsA X Φ w es _ := ih X ck w k es _ o h2
            exact sF_call o.K o.tk o.hr F g1 g2 pa.pa pa.nil (star_all pa.pl) (plain_back (plain_tail pa.pl))
      | comp elt tg src cond own => exact comp h
      | bi f es =>
        cases f with
        | list =>
          cases es with
          | cons a r =>
            cases r with
            | nil =>
              replace h := onCall_ok h
              obtain ⟨id, p, xs, p2, rfl, h⟩ := h
              replace h := and3 h
              obtain ⟨h1, h⟩ := h
              replace h := and3 h
              obtain ⟨h2, h⟩ := h
              replace h := on1_ok h
              obtain ⟨y, rfl, h⟩ := h
              replace h := and3 h
              obtain ⟨h3, h4⟩ := h
              obtain rfl := dc h1
              obtain ⟨g1, g2⟩ := o.blt h2
              exact sF_listOf o.K g1 g2 (ih X ck w k a _ o h4) (star_cons (nt h3))
            | _ => cases h
          | _ => cases h
        | _ => cases h
      | bin oo a b =>
        cases oo with
        | add =>
          replace h := onBin_ok h
          obtain ⟨l, op, r, p, rfl, h⟩ := h
          replace h := and3 h
          obtain ⟨h1, h⟩ := h
          replace h := and3 h
          obtain ⟨h3, h4⟩ := h
          obtain rfl := dc h1
          exact sF_cat o.K (ih X ck w k a _ o h3) (ih X ck w k b _ o h4)
        | mul =>
          replace h := onBin_ok h
          obtain ⟨l, op, r, p, rfl, h⟩ := h
          replace h := and3 h
          obtain ⟨h1, h⟩ := h
          replace h := and3 h
          obtain ⟨h3, h4⟩ := h
          obtain rfl := dc h1
          exact sF_rep o.K (ih X ck w k a _ o h3) (ih X ck w k b _ o h4)
        | _ => cases h
      | sl a lo hi =>
        replace h := onSub_ok h
        obtain ⟨y, z, p, rfl, h⟩ := h
        replace h := onSl_ok h
        obtain ⟨l, u, s, p2, rfl, h⟩ := h
        replace h := and3 h
        obtain ⟨h1, h⟩ := h
        replace h := and3 h
        obtain ⟨h2, h⟩ := h
        replace h := and3 h
        obtain ⟨h3, h4⟩ := h
        obtain rfl := onN_ok h1
        exact sF_sl o.K (ih X ck w k a _ o h2) (ih X ck w k lo (.o l) o h3) (ih X ck w k hi (.o u) o h4)
      | compM elt tg i cond own =>
        replace h := onLc_ok h
        obtain ⟨elt', tgx, iter, ifs, scope, p, rfl, h⟩ := h
        replace h := onName_ok h
        obtain ⟨id, p2, rfl, h⟩ := h
        replace h := and3 h
        obtain ⟨h0, h⟩ := h
        replace h := and3 h
        obtain ⟨h1, h⟩ := h
        replace h := and3 h
        obtain ⟨h2, h⟩ := h
        replace h := and3 h
        obtain ⟨h3, h⟩ := h
        replace h := and3 h
        obtain ⟨h5, h6⟩ := h
        obtain ⟨n1, n2, n3, n4⟩ := o.nm h0
        have c := comp_ok o h1 h2 h3 (fun X w k o => ih X _ w k elt _ o h5) (fun X w k o => ih X _ w k cond _ o h6)
        have r := sF_compM (pos := p) (p := p2) c o.K n1 n2 n3 n4
        rw [ownS_map] at r
        exact r
      | rev a => cases h
      | lrng c =>
        replace h := onOf_ok h
        obtain ⟨p, id2, p2, xs, q, q2, rfl, h⟩ := h
        replace h := and3 h
        obtain ⟨h1, h⟩ := h
        replace h := and3 h
        obtain ⟨h2, h⟩ := h
        replace h := and3 h
        obtain ⟨h3, h⟩ := h
        obtain rfl := dc h2
        obtain ⟨g1, g2⟩ := o.blt h1
        obtain ⟨g3, g4⟩ := o.blt h3
        cases e : isRng c with
        | none => rw [e] at h; cases h
        | some z =>
          rw [e] at h
          cases z with
          | inl a =>
            obtain rfl := isRng1 e
            replace h := on1_ok h
            obtain ⟨y, rfl, h⟩ := h
            replace h := and3 h
            obtain ⟨h5, h6⟩ := h
            exact sF_lrng1 o.calm g1 g2 g3 g4 (ih X ck w k a _ o h6) (star_cons (nt h5))
          | inr ab =>
            obtain ⟨a, b⟩ := ab
            obtain rfl := isRng2 e
            replace h := on2_ok h
            obtain ⟨y, z, rfl, h⟩ := h
            replace h := and3 h
            obtain ⟨h5, h⟩ := h
            replace h := and3 h
            obtain ⟨h6, h⟩ := h
            replace h := and3 h
            obtain ⟨h7, h8⟩ := h
            exact sF_lrng2 o.calm g1 g2 g3 g4 (ih X ck w k a _ o h7) (ih X ck w k b _ o h8) (star_cons (nt h5)) (star_cons (nt h6)) (plain_back (by unfold plainA; rw [List.all_cons, h6]; rfl))
      | _ => cases h
    | t x =>
      replace h := or3 h
      rcases h with h | h
      · exact (show PW X x (tT Φ w c) from ih X ck w k c (.wv x) o h).pt
      replace h := or3 h
      rcases h with h | h
      · replace h := and3 h
        obtain ⟨h1, h2⟩ := h
        exact sT_val (ih X ck w k c (.e x) o h2) (plainT_ok h1)
      cases c with
      | not a =>
        replace h := or3 h
        rcases h with h | h
        · replace h := onUn_ok h
          obtain ⟨op, y, p, rfl, h⟩ := h
          replace h := and3 h
          obtain ⟨h1, h2⟩ := h
          obtain rfl := dc h1
          exact sT_not (ih X ck w k a (.t y) o h2)
        · cases q : isNMi a with
          | none => rw [q] at h; cases h
          | some i =>
            rw [q] at h
            obtain rfl := isNMi_ok q
            replace h := onNil_ok h
            obtain ⟨id, p, p2, p3, rfl, h⟩ := h
            obtain ⟨n1, n2, n3, n4⟩ := o.nm h
            exact (sE_nnilM o.hr.units0 n1 n2 n3 n4).2
      | cmp oo a b =>
        replace h := onCmp_ok h
        obtain ⟨l, op, r, p, rfl, h⟩ := h
        replace h := and3 h
        obtain ⟨h1, h⟩ := h
        replace h := and3 h
        obtain ⟨h2, h⟩ := h
        replace h := and3 h
        obtain ⟨h3, h4⟩ := h
        obtain rfl := dc h1
        exact sT_cmp o.K o.u oo (ih X ck w k a _ o h3) (ih X ck w k b _ o h4) (notSet_marks (nt h2))
      | chain oo pp a b d =>
        replace h := onCmp2_ok h
        obtain ⟨l, op, r, op', r', p, rfl, h⟩ := h
        replace h := and3 h
        obtain ⟨h1, h⟩ := h
        replace h := and3 h
        obtain ⟨h2, h⟩ := h
        replace h := and3 h
        obtain ⟨h3, h⟩ := h
        replace h := and3 h
        obtain ⟨h4, h⟩ := h
        replace h := and3 h
        obtain ⟨h5, h⟩ := h
        replace h := and3 h
        obtain ⟨h6, h7⟩ := h
        obtain rfl := dc h1
        obtain rfl := dc h2
        exact sT_chain o.K o.u oo pp (ih X ck w k a _ o h5) (ih X ck w k b _ o h6) (ih X ck w k d _ o h7) (notSet_marks (nt h4))
      | nilM i =>
        replace h := onNil_ok h
        obtain ⟨id, p, p2, p3, rfl, h⟩ := h
        obtain ⟨n1, n2, n3, n4⟩ := o.nm h
        exact (sE_nilM o.hr.units0 n1 n2 n3 n4).2
      | _ => cases h
    | e x =>
      replace h := or3 h
      rcases h with h | h
      · replace h := onBool1_ok h
        obtain ⟨op, y, p, rfl, h⟩ := h
        exact pe_one (ih X ck w k c (.e y) o h)
      cases c with
      | var i =>
        replace h := onName_ok h
        obtain ⟨id, p, rfl, h⟩ := h
        obtain ⟨n1, n2, n3, n4⟩ := o.nm h
        exact sE_var n1 n2 n3 n4
      | non =>
        replace h := onConst_ok h
        obtain ⟨z, j, p, rfl, h⟩ := h
        obtain rfl := dc h
        exact sE_non
      | bl b =>
        replace h := onConst_ok h
        obtain ⟨z, j, p, rfl, h⟩ := h
        obtain rfl := dc h
        exact sE_bl
      | int i =>
        replace h := onConst_ok h
        obtain ⟨z, j, p, rfl, h⟩ := h
        obtain rfl := dc h
        exact sE_int
      | str s =>
        replace h := onConst_ok h
        obtain ⟨z, j, p, rfl, h⟩ := h
        obtain rfl := dc h
        exact sE_str
      | gint y z =>
        replace h := onName_ok h
        obtain ⟨id, p, rfl, h⟩ := h
        replace h := and3 h
        obtain ⟨h1, h⟩ := h
        replace h := and3 h
        obtain ⟨h2, h⟩ := h
        obtain rfl := dc h1
        rw [List.any_eq_true] at h
        obtain ⟨g, hg, e⟩ := h
        obtain ⟨e1, e2⟩ := and3 e
        have := o.gi g hg
        rw [dc e1, dc e2] at this
        exact sE_gint (o.gl h2).1 this (o.gl h2).2
      | bin oo a b =>
        replace h := onBin_ok h
        obtain ⟨l, op, r, p, rfl, h⟩ := h
        replace h := and3 h
        obtain ⟨h1, h⟩ := h
        replace h := and3 h
        obtain ⟨h3, h4⟩ := h
        obtain rfl := dc h1
        exact sE_bin o.K oo (ih X ck w k a _ o h3) (ih X ck w k b _ o h4)
      | neg a =>
        replace h := onUn_ok h
        obtain ⟨op, y, p, rfl, h⟩ := h
        replace h := and3 h
        obtain ⟨h1, h2⟩ := h
        obtain rfl := dc h1
        exact sE_neg (ih X ck w k a _ o h2)
      | cmp oo a b =>
        replace h := onCmp_ok h
        obtain ⟨l, op, r, p, rfl, h⟩ := h
        replace h := and3 h
        obtain ⟨h1, h⟩ := h
        replace h := and3 h
        obtain ⟨h2, h⟩ := h
        replace h := and3 h
        obtain ⟨h3, h4⟩ := h
        obtain rfl := dc h1
        exact sE_cmp o.K o.u oo (ih X ck w k a _ o h3) (ih X ck w k b _ o h4) (notSet_marks (nt h2))
      | chain oo pp a b d =>
        replace h := onCmp2_ok h
        obtain ⟨l, op, r, op', r', p, rfl, h⟩ := h
        replace h := and3 h
        obtain ⟨h1, h⟩ := h
        replace h := and3 h
        obtain ⟨h2, h⟩ := h
        replace h := and3 h
        obtain ⟨h3, h⟩ := h
        replace h := and3 h
        obtain ⟨h4, h⟩ := h
        replace h := and3 h
        obtain ⟨h5, h⟩ := h
        replace h := and3 h
        obtain ⟨h6, h7⟩ := h
        obtain rfl := dc h1
        obtain rfl := dc h2
        exact sE_chain o.K o.u oo pp (ih X ck w k a _ o h5) (ih X ck w k b _ o h6) (ih X ck w k d _ o h7) (notSet_marks (nt h4))
      | not a =>
        replace h := or3 h
        rcases h with h | h
        · replace h := onUn_ok h
          obtain ⟨op, y, p, rfl, h⟩ := h
          replace h := and3 h
          obtain ⟨h1, h2⟩ := h
          obtain rfl := dc h1
          exact sE_not (ih X ck w k a (.e y) o h2)
        · cases q : isNMi a with
          | none => rw [q] at h; cases h
          | some i =>
            rw [q] at h
            obtain rfl := isNMi_ok q
            replace h := onNil_ok h
            obtain ⟨id, p, p2, p3, rfl, h⟩ := h
            obtain ⟨n1, n2, n3, n4⟩ := o.nm h
            exact (sE_nnilM o.hr.units0 n1 n2 n3 n4).1
      | and a b =>
        replace h := onBool_ok h
        obtain ⟨op, y, z, r, p, rfl, h⟩ := h
        replace h := and3 h
        obtain ⟨e, h⟩ := h
        replace h := and3 h
        obtain ⟨h1, h2⟩ := h
        obtain rfl := dc e
        exact sE_and (ih X ck w k a _ o h1) (ih X ck w k b _ o h2)
      | or a b =>
        replace h := onBool_ok h
        obtain ⟨op, y, z, r, p, rfl, h⟩ := h
        replace h := and3 h
        obtain ⟨e, h⟩ := h
        replace h := and3 h
        obtain ⟨h1, h2⟩ := h
        obtain rfl := dc e
        exact sE_or (ih X ck w k a _ o h1) (ih X ck w k b _ o h2)
      | ite d a b =>
        replace h := onIf_ok h
        obtain ⟨y, z, u, p, rfl, h⟩ := h
        replace h := and3 h
        obtain ⟨h1, h⟩ := h
        replace h := and3 h
        obtain ⟨h2, h3⟩ := h
        exact sE_ite (ih X ck w k d (.t y) o h1) (ih X ck w k a _ o h2) (ih X ck w k b _ o h3)
      | tup es =>
        replace h := onTup_ok h
        obtain ⟨xs, j, p, rfl, h⟩ := h
        replace h := and3 h
        obtain ⟨h1, h2⟩ := h
        have pa : HoldsA X Φ w es _ := ih X ck w k es _ o h2
        exact sE_tup pa.pa (smallSL (dc h1)) pa.len
      | lst es =>
        replace h := onLst_ok h
        obtain ⟨xs, p, rfl, h⟩ := h
        replace h := and3 h
        obtain ⟨h1, h2⟩ := h
        have pa : HoldsA X Φ w es _ := ih X ck w k es _ o h2
        exact sE_of_fresh (sF_lst pa.pa (smallSL (dc h1)) pa.len) lst_list
      | ix a b =>
        replace h := onSub_ok h
        obtain ⟨y, z, p, rfl, h⟩ := h
        replace h := and3 h
        obtain ⟨h1, h⟩ := h
        replace h := and3 h
        obtain ⟨h2, h3⟩ := h
        exact sE_ix o.K (ih X ck w k a _ o h2) (ih X ck w k b _ o h3) (plain_ix (nt h1))
      | sl a lo hi =>
        replace h := onSub_ok h
        obtain ⟨y, z, p, rfl, h⟩ := h
        replace h := onSl_ok h
        obtain ⟨l, u, s, p2, rfl, h⟩ := h
        replace h := and3 h
        obtain ⟨h1, h⟩ := h
        replace h := and3 h
        obtain ⟨h2, h⟩ := h
        replace h := and3 h
        obtain ⟨h3, h4⟩ := h
        obtain rfl := onN_ok h1
        exact sE_sl o.K (ih X ck w k a _ o h2) (ih X ck w k lo (.o l) o h3) (ih X ck w k hi (.o u) o h4)
      | call fn es =>
        replace h := onCall_ok h
        obtain ⟨id, p, xs, p2, rfl, h⟩ := h
        replace h := and3 h
        obtain ⟨h1, h2⟩ := h
        obtain ⟨g1, g2, f, hn, hf, F, L⟩ := fn_of o h1
        replace hf := and3 hf
        obtain ⟨e1, e2⟩ := hf
        obtain ⟨fn', fi, fp, fio, fo⟩ := f
        obtain rfl := dc e1
        obtain rfl := hn
        cases fio with
        | some _ => cases e2
        | none =>
          have pa : HoldsA X Φ w es _ := ih X ck w k es _ o h2
          exact sE_call o.K o.tk o.hr F g1 g2 pa.pa pa.nil (star_all pa.pl) (plain_back (plain_tail pa.pl))
      | callio fn q i es =>
        replace h := onCall_ok h
        obtain ⟨id, p, xs, p2, rfl, h⟩ := h
        replace h := and3 h
        obtain ⟨h1, h2⟩ := h
        obtain ⟨g1, g2, f, hn, hf, F, L⟩ := fn_of o h1
        replace hf := and3 hf
        obtain ⟨e1, hf⟩ := hf
        replace hf := and3 hf
        obtain ⟨e2, hf⟩ := hf
        replace hf := and3 hf
        obtain ⟨e3, e4⟩ := hf
        obtain ⟨fn', fi, fp, fio, fo⟩ := f
        obtain rfl := dc e1
        obtain rfl := hn
        obtain rfl := dc e2
        cases fo with
        | true => cases e4
        | false =>
          obtain ⟨pa, pl, pn⟩ := ih X ck w k es (.io q i xs) o h2
          exact sE_callio o.K o.tk o.hr F L (dc e3) g1 g2 pa pn (star_all pl) (plain_back (plain_tail pl))
      | bi f es =>
        replace h := onCall_ok h
        obtain ⟨id, p, xs, p2, rfl, h⟩ := h
        replace h := and3 h
        obtain ⟨h1, h⟩ := h
        replace h := and3 h
        obtain ⟨h2, h⟩ := h
        replace h := and3 h
        obtain ⟨h3, h4⟩ := h
        obtain ⟨y, ys, rfl⟩ := ne_nil h3
        obtain rfl := dc h1
        obtain ⟨g1, g2⟩ := o.blt h2
        have pa : HoldsA X Φ w es _ := ih X ck w k es _ o h4
        exact sE_bi o.K o.calm f g1 g2 pa.pa (star_cons (plainA_cons pa.pl).1) (plain_back (plainA_cons pa.pl).2)
      | isi a t =>
        replace h := onCall_ok h
        obtain ⟨id, p, xs, p2, rfl, h⟩ := h
        replace h := and3 h
        obtain ⟨h1, h⟩ := h
        replace h := and3 h
        obtain ⟨h2, h⟩ := h
        replace h := on2_ok h
        obtain ⟨y, z, rfl, h⟩ := h
        replace h := onName_ok h
        obtain ⟨ty, p3, rfl, h⟩ := h
        replace h := and3 h
        obtain ⟨h3, h⟩ := h
        replace h := and3 h
        obtain ⟨h4, h⟩ := h
        replace h := and3 h
        obtain ⟨h5, h6⟩ := h
        obtain rfl := dc h1
        obtain rfl := dc h3
        obtain ⟨g1, g2⟩ := o.blt h2
        obtain ⟨g3, g4⟩ := o.blt h4
        exact sE_isi o.K t g1 g2 g3 g4 (ih X ck w k a _ o h6) (star_cons (nt h5))
      | lenM i =>
        replace h := onCall_ok h
        obtain ⟨id, p, xs, p2, rfl, h⟩ := h
        replace h := and3 h
        obtain ⟨h1, h⟩ := h
        replace h := and3 h
        obtain ⟨h2, h⟩ := h
        replace h := on1_ok h
        obtain ⟨y, rfl, h⟩ := h
        replace h := onName_ok h
        obtain ⟨z, p3, rfl, h⟩ := h
        obtain rfl := dc h1
        obtain ⟨g1, g2⟩ := o.blt h2
        obtain ⟨n1, n2, n3, n4⟩ := o.nm h
        exact sE_lenM n1 n2 n3 n4 g1 g2
      | ixM i e =>
        replace h := onSub_ok h
        obtain ⟨y, z, p, rfl, h⟩ := h
        replace h := onName_ok h
        obtain ⟨id, p2, rfl, h⟩ := h
        replace h := and3 h
        obtain ⟨h1, h⟩ := h
        replace h := and3 h
        obtain ⟨h2, h3⟩ := h
        obtain ⟨n1, n2, n3, n4⟩ := o.nm h1
        exact sE_ixM n1 n2 n3 n4 (ih X ck w k e _ o h3) (plain_ix (nt h2))
      | nilM i =>
        replace h := onNil_ok h
        obtain ⟨id, p, p2, p3, rfl, h⟩ := h
        obtain ⟨n1, n2, n3, n4⟩ := o.nm h
        exact (sE_nilM o.hr.units0 n1 n2 n3 n4).1
      | popM i e =>
        replace h := onMeth_ok h
        obtain ⟨y, p1, m, ap, xs, p, rfl, hl, h⟩ := h
        replace h := and3 h
        obtain ⟨h1, h⟩ := h
        replace h := and3 h
        obtain ⟨h2, h⟩ := h
        replace h := on1_ok h
        obtain ⟨z, rfl, h⟩ := h
        replace h := and3 h
        obtain ⟨h3, h4⟩ := h
        obtain rfl := dc h1
        obtain ⟨n1, n2, n3, n4⟩ := o.nm h2
        exact sE_popM n1 n2 n3 n4 (ih X ck w k e _ o h4) (star_cons (nt h3)) hl
      | comp elt tg src cond own => exact sE_of_fresh (comp h) comp_list
      | compM elt tg i cond own => exact sE_of_fresh (ih X ck w k (.compM elt tg i cond own) (.f x) o h) compM_list
      | lrng a => exact sE_of_fresh (ih X ck w k (.lrng a) (.f x) o h) lrng_list
      | rev a =>
        replace h := onSub_ok h
        obtain ⟨y, z, p, rfl, h⟩ := h
        replace h := onSl_ok h
        obtain ⟨l, u, s, p2, rfl, h⟩ := h
        replace h := and3 h
        obtain ⟨h1, h⟩ := h
        replace h := and3 h
        obtain ⟨h2, h⟩ := h
        replace h := and3 h
        obtain ⟨h3, h4⟩ := h
        obtain rfl := onN_ok h1
        obtain rfl := onN_ok h2
        obtain ⟨k1, q1, q2, rfl⟩ := isM1_ok h3
        exact sE_rev o.K (ih X ck w k a _ o h4)
      | edic =>
        obtain ⟨p, rfl⟩ := isDict0_ok h
        exact sE_edic
      | dic1 a b =>
        replace h := onDic1_ok h
        obtain ⟨y, z, p, rfl, h⟩ := h
        replace h := and3 h
        obtain ⟨h1, h2⟩ := h
        exact sE_dic1 (fun G => ih X ck _ k a _ (o.atG G) h1) (fun G => ih X ck _ k b _ (o.atG G) h2)
      | trng c =>
        replace h := onOf_ok h
        obtain ⟨p, id2, p2, xs, q, q2, rfl, h⟩ := h
        replace h := and3 h
        obtain ⟨h1, h⟩ := h
        replace h := and3 h
        obtain ⟨h2, h⟩ := h
        replace h := and3 h
        obtain ⟨h3, h⟩ := h
        obtain rfl := dc h2
        obtain ⟨g1, g2⟩ := o.blt h1
        obtain ⟨g3, g4⟩ := o.blt h3
        cases e : isRng c with
        | none => rw [e] at h; cases h
        | some z =>
          rw [e] at h
          cases z with
          | inl a =>
            obtain rfl := isRng1 e
            replace h := on1_ok h
            obtain ⟨y, rfl, h⟩ := h
            replace h := and3 h
            obtain ⟨h5, h6⟩ := h
            exact sE_trng1 o.calm g1 g2 g3 g4 (ih X ck w k a _ o h6) (star_cons (nt h5))
          | inr ab =>
            obtain ⟨a, b⟩ := ab
            obtain rfl := isRng2 e
            replace h := on2_ok h
            obtain ⟨y, z, rfl, h⟩ := h
            replace h := and3 h
            obtain ⟨h5, h⟩ := h
            replace h := and3 h
            obtain ⟨h6, h⟩ := h
            replace h := and3 h
            obtain ⟨h7, h8⟩ := h
            exact sE_trng2 o.calm g1 g2 g3 g4 (ih X ck w k a _ o h7) (ih X ck w k b _ o h8) (star_cons (nt h5)) (star_cons (nt h6)) (plain_back (by unfold plainA; rw [List.all_cons, h6]; rfl))
      | _ => cases h
end HM

namespace HM
open PySem PySem.Spec PyProof.Rows L2

/-! ### statements: their shape -/
def onAsg (s : Stmt) (f : Expr → Expr → Bool) : Bool := match s with | .Assign [t] v _ => f t v | _ => false
theorem onAsg_ok {s : Stmt} {f : Expr → Expr → Bool} (h : onAsg s f = true) : ∃ t v p, s = .Assign [t] v p ∧ f t v = true := by
  unfold onAsg at h; split at h <;> first | exact ⟨_, _, _, rfl, h⟩ | cases h
def onNameP (x : Expr) (f : Str → Pos → Bool) : Bool := match x with | .Name id p => f id p | _ => false
theorem onNameP_ok {x : Expr} {f : Str → Pos → Bool} (h : onNameP x f = true) : ∃ id p, x = .Name id p ∧ f id p = true := by
  unfold onNameP at h; split at h <;> first | exact ⟨_, _, rfl, h⟩ | cases h
def onAug (s : Stmt) (f : Expr → Operator → Expr → Bool) : Bool := match s with | .AugAssign t op v _ => f t op v | _ => false
theorem onAug_ok {s : Stmt} {f : Expr → Operator → Expr → Bool} (h : onAug s f = true) : ∃ t op v p, s = .AugAssign t op v p ∧ f t op v = true := by
  unfold onAug at h; split at h <;> first | exact ⟨_, _, _, _, rfl, h⟩ | cases h
def onRet (s : Stmt) (f : Option Expr → Bool) : Bool := match s with | .Return v _ => f v | _ => false
theorem onRet_ok {s : Stmt} {f : Option Expr → Bool} (h : onRet s f = true) : ∃ v p, s = .Return v p ∧ f v = true := by
  unfold onRet at h; split at h <;> first | exact ⟨_, _, rfl, h⟩ | cases h
def onIfS (s : Stmt) (f : Expr → List Stmt → List Stmt → Bool) : Bool := match s with | .If c a b _ => f c a b | _ => false
theorem onIfS_ok {s : Stmt} {f : Expr → List Stmt → List Stmt → Bool} (h : onIfS s f = true) : ∃ c a b p, s = .If c a b p ∧ f c a b = true := by
  unfold onIfS at h; split at h <;> first | exact ⟨_, _, _, _, rfl, h⟩ | cases h
def onFor (s : Stmt) (f : Expr → Expr → List Stmt → Bool) : Bool := match s with | .For t i b [] _ => f t i b | _ => false
theorem onFor_ok {s : Stmt} {f : Expr → Expr → List Stmt → Bool} (h : onFor s f = true) : ∃ t i b p, s = .For t i b [] p ∧ f t i b = true := by
  unfold onFor at h; split at h <;> first | exact ⟨_, _, _, _, rfl, h⟩ | cases h
def onWhile (s : Stmt) (f : Expr → List Stmt → Bool) : Bool := match s with | .While c b [] _ => f c b | _ => false
theorem onWhile_ok {s : Stmt} {f : Expr → List Stmt → Bool} (h : onWhile s f = true) : ∃ c b p, s = .While c b [] p ∧ f c b = true := by
  unfold onWhile at h; split at h <;> first | exact ⟨_, _, _, rfl, h⟩ | cases h
def onEx (s : Stmt) (f : Expr → Bool) : Bool := match s with | .Expr e _ => f e | _ => false
theorem onEx_ok {s : Stmt} {f : Expr → Bool} (h : onEx s f = true) : ∃ e p, s = .Expr e p ∧ f e = true := by
  unfold onEx at h; split at h <;> first | exact ⟨_, _, rfl, h⟩ | cases h
def isPass : Stmt → Bool
  | .Pass _ => true
  | .Expr (.Constant (.str _) _ _) _ => true
  | _ => false
def isBreak : Stmt → Bool
  | .Break _ => true
  | _ => false
def isCont : Stmt → Bool
  | .Continue _ => true
  | _ => false
def isSkip : S → Bool
  | .skip => true
  | _ => false
def lcB (n : Nat) (ck : Ck) (elt : E) (tg : Tg) (src cond : E) (own : List Nat) (x : Expr) : Bool := onLc x fun elt' tgx iter ifs scope => blkC ck.N ck.sc scope (ownS ck own) && (tgB (blkK ck scope) tgx tg && ((tg.ixs.all fun i => own.contains i) && (!isSet iter
        && (chk n (blkK ck scope) elt (.e elt') && (chk n (blkK ck scope) cond (.ts ifs) && chk n ck src (.i tgx iter))))))
/-- a comprehension stored on its own line to a local name -/
def swT (ck : Ck) (id : Str) (np : Pos) (x : Expr) : Bool := (match ck.sc.kind with | .function => true | _ => false) && (isLoc ck id && match x with
  | .ListComp _ _ scope p => (np.line == p.line) && !(scope.names.any fun (n, k) => n == id && (k == .local || k == .cell))
  | _ => false)
/-- .. on another line, or no comprehension -/
def swF (np : Pos) (x : Expr) : Bool := !isComp x || match x with
  | .ListComp _ _ _ p => !(np.line == p.line)
  | _ => false
/-- a name that inner blocks use -/
def swC (ck : Ck) (id : Str) : Bool := match ck.sc.names.lookup id with
  | some .cell => true
  | _ => false
theorem swF_ok {np : Pos} {x : Expr} {id : Str} {l : Nat} {env : PySem.Env} (h : swF np x = true) : swapsWith x (some (.Name id np)) l env = pure false := by
  unfold swF at h
  rw [Bool.or_eq_true] at h
  rcases h with h | h
  · exact notComp_sw (by simpa using h)
  · split at h
    · rename_i p
      have e : (np.line == p.line) = false := by simpa using h
      show (pure (env.blockKind == .function && env.kindOf id == some .local && np.line == p.line && _) : Sem Bool) = pure false
      rw [e]
      simp
    · cases h
inductive Sj where
  | s (s : Stmt) | ss (s : List Stmt)
def chkS : Nat → Ck → S → Sj → Bool
  | 0, _, _, _ => false
  | n + 1, ck, c, .ss xs => (match xs with
    | [] => isSkip c
    | x :: r => (match c with | .seq a b => chkS n ck a (.s x) && chkS n ck b (.ss r) | _ => false))
  | n + 1, ck, c, .s x => (match c with
    | .skip => isPass x
    | .brk => isBreak x
    | .cnt => isCont x
    | .asg i e => onAsg x fun t v => onNameP t fun id np => ixB ck i id && (locB ck id && (((swF np v || swC ck id) && chk n ck e (.e v)) || (swT ck id np v && match e with
      | .comp elt tg src cond own => lcB n ck elt tg src cond own v
      | _ => false)))
    | .asgM i e => onAsg x fun t v => onNameP t fun id np => ixB ck i id && (locB ck id && (((swF np v || swC ck id) && chk n ck e (.f v)) || (swT ck id np v && match e with
      | .comp elt tg src cond own => lcB n ck elt tg src cond own v
      | _ => false)))
    | .asgs is e => onAsg x fun t v => onTup t fun es => tgsB ck es is && ((!isTupE v || onTup v fun vs => fnKind ck.sc && ((!(vs.all (constantsAlone 8)) || vs.all (foldedForSure 8)) && (swS ck.sc es vs).isNone)) && (!isComp v && chk n ck e (.e v)))
    | .two i j a b => onAsg x fun t v => onTup t fun ts => onTup v fun vs => on2 ts fun t1 t2 => onName t1 fun x1 => onName t2 fun x2 => on2 vs fun v1 v2 =>
      ixB ck i x1 && (ixB ck j x2 && (decide (i ≠ j) && (isLoc ck x1 && (isLoc ck x2 && (fnKind ck.sc && (!(vs.all (constantsAlone 8)) && (decide (swS ck.sc ts vs = some [x1, x2]) && (!isStar v1 && (!isStar v2 && (chk n ck a (.e v1) && chk n ck b (.e v2)))))))))))
    | .app i e => onEx x fun y => onMeth y fun id m xs => decide (m = "append") && (nmB ck i id && on1 xs fun z => !isStar z && chk n ck e (.e z))
    | .setM i a e => onAsg x fun t v => onSub t fun y z => onName y fun id => nmB ck i id && (!isSlice z && (!isComp v && (chk n ck a (.e z) && chk n ck e (.e v))))
    | .aug i o e => onAug x fun t op v => onName t fun id => decide (augOp o = some op) && (ixB ck i id && (locB ck id && chk n ck e (.e v)))
    | .augM i a o e => onAug x fun t op v => onSub t fun y z => onName y fun id => decide (augOp o = some op) && (nmB ck i id && (!isSlice z && (chk n ck a (.e z) && chk n ck e (.e v))))
    | .ext i e => onEx x fun y => onMeth y fun id m xs => decide (m = "extend") && (nmB ck i id && on1 xs fun z => !isStar z && chk n ck e (.e z))
    | .ret e => onRet x fun v => (match v with
      | none => e.isNon
      | some y => chk n ck e (.e y))
    | .retM i => onRet x fun v => (match v with
      | some y => onName y fun id => nmB ck i id
      | none => false)
    | .ite e a b => onIfS x fun y p q => chk n ck e (.t y) && (chkS n ck a (.ss p) && chkS n ck b (.ss q))
    | .for_ tg src b => onFor x fun t i p => tgB ck t tg && (!isSet i && (chk n ck src (.i t i) && chkS n ck b (.ss p)))
    | .while_ e b => onWhile x fun y p => chk n ck e (.t y) && chkS n ck b (.ss p)
    | .drop e => onEx x fun y => !isComp y && chk n ck e (.e y)
    | _ => false)
def HoldsS (X : Cx) (Φ : Fns) (w : Wd) (c : S) : Sj → Prop
  | .s x => PS X x (tS Φ w c)
  | .ss xs => PSs X xs (tS Φ w c)
section
variable {X : Cx} {ck : Ck} {Φ : Fns} {w : Wd} {k : Nat}
theorem lc_ok {n : Nat} {elt : E} {tg : Tg} {src cond : E} {own : List Nat} {x : Expr} (o : CtxOk X ck Φ w k) (h : lcB n ck elt tg src cond own x = true) :
    ∃ elt' tgx iter ifs scope p, x = .ListComp elt' [⟨tgx, iter, ifs, 0⟩] scope p ∧ CompOk X Φ w tgx elt' ifs scope (ownS ck own) tg elt cond ∧ PI X tgx iter (tI Φ w src) ∧ (∀ v, foldedSetIterable iter X.env v = pure v) := by
  replace h := onLc_ok h
  obtain ⟨elt', tgx, iter, ifs, scope, p, rfl, h⟩ := h
  replace h := and3 h
  obtain ⟨h1, h⟩ := h
  replace h := and3 h
  obtain ⟨h2, h⟩ := h
  replace h := and3 h
  obtain ⟨h3, h⟩ := h
  replace h := and3 h
  obtain ⟨h4, h⟩ := h
  replace h := and3 h
  obtain ⟨h5, h⟩ := h
  replace h := and3 h
  obtain ⟨h6, h7⟩ := h
  exact ⟨_, _, _, _, _, _, rfl, comp_ok o h1 h2 h3 (fun X w k o => chk_ok Φ n X _ w k elt _ o h5) (fun X w k o => chk_ok Φ n X _ w k cond _ o h6), chk_ok Φ n X ck w k src _ o h7, notSet_ok (nt h4)⟩
theorem swFC_ok (o : CtxOk X ck Φ w k) {id : Str} {np : Pos} {x : Expr} {l : Nat} (h : (swF np x || swC ck id) = true) : swapsWith x (some (.Name id np)) l X.env = pure false := by
  rw [Bool.or_eq_true] at h
  rcases h with h | h
  · exact swF_ok h
  · have e : X.env.kindOf id = some .cell := by
      show X.env.scope.names.lookup id = _
      rw [o.sc]
      unfold swC at h
      split at h
      · assumption
      · cases h
    have none_ : (some NameKind.cell == some NameKind.local) = false := by decide
    cases x with
    | ListComp a b sc p => show (pure _ : Sem Bool) = _; rw [e, none_, Bool.and_false]; rfl
    | SetComp a b sc p => show (pure _ : Sem Bool) = _; rw [e, none_, Bool.and_false]; rfl
    | DictComp a b c sc p => show (pure _ : Sem Bool) = _; rw [e, none_, Bool.and_false]; rfl
    | _ => rfl
theorem swT_ok (o : CtxOk X ck Φ w k) {id : Str} {np p : Pos} {elt : Expr} {gs : List Comprehension} {scope : Scope} {l : Nat} (h : swT ck id np (.ListComp elt gs scope p) = true) :
    X.env.scope.names.lookup id = some .local ∧ swapsWith (.ListComp elt gs scope p) (some (.Name id np)) l X.env = pure true := by
  replace h := and3 h
  obtain ⟨h1, h⟩ := h
  replace h := and3 h
  obtain ⟨h2, h⟩ := h
  replace h := and3 h
  obtain ⟨h3, h4⟩ := h
  have hk : X.env.scope.kind = .function := by
    rw [o.sc]
    split at h1
    · assumption
    · cases h1
  exact ⟨o.isLoc h2, sw_true hk (o.isLoc h2) h3 (nt h4)⟩
end
theorem chkS_ok (Φ : Fns) : ∀ (n : Nat) (X : Cx) (ck : Ck) (w : Wd) (k : Nat) (c : S) (j : Sj), CtxOk X ck Φ w k → PassesOwn (model X.prog X.w) X.A X.env X.xe → chkS n ck c j = true → HoldsS X Φ w c j := fun n => by
  induction n with
  | zero => intro X ck w k c j o hp h; cases h
  | succ n ih =>
    intro X ck w k c j o hp h
    have ce : ∀ {c : E} {j : Jd}, chk n ck c j = true → Holds X Φ w c j := fun {c j} h => chk_ok Φ n X ck w k c j o h
    cases j with
    | ss xs =>
      cases xs with
      | nil =>
        cases c with
        | skip => exact sS_nil
        | _ => cases h
      | cons x r =>
        cases c with
        | seq a b =>
          obtain ⟨h1, h2⟩ := and3 (show (chkS n ck a (.s x) && chkS n ck b (.ss r)) = true from h)
          exact sS_cons (ih X ck w k a (.s x) o hp h1) (ih X ck w k b (.ss r) o hp h2)
        | _ => cases h
    | s x =>
      cases c with
      | skip =>
        have h : isPass x = true := h
        unfold isPass at h
        split at h
        · exact sS_pass
        · exact sS_doc
        · cases h
      | brk =>
        have h : isBreak x = true := h
        unfold isBreak at h
        split at h
        · exact sS_brk
        · cases h
      | cnt =>
        have h : isCont x = true := h
        unfold isCont at h
        split at h
        · exact sS_cnt
        · cases h
      | asg i e =>
        replace h := onAsg_ok h
        obtain ⟨t, v, p, rfl, h⟩ := h
        replace h := onNameP_ok h
        obtain ⟨id, np, rfl, h⟩ := h
        replace h := and3 h
        obtain ⟨h1, h⟩ := h
        replace h := and3 h
        obtain ⟨h2, h⟩ := h
        obtain ⟨l1, l2⟩ := o.loc h2
        replace h := or3 h
        rcases h with h | h
        · replace h := and3 h
          obtain ⟨h3, h4⟩ := h
          exact sS_asg o.nd (o.ix h1) l1 l2 (ce h4) (swFC_ok o h3)
        · replace h := and3 h
          obtain ⟨h3, h4⟩ := h
          cases e with
          | comp elt tg src cond own =>
            obtain ⟨elt', tgx, iter, ifs, scope, pp, rfl, c1, c2, c3⟩ := lc_ok o h4
            obtain ⟨s1, s2⟩ := swT_ok (l := p.line) o h3
            have r := sS_setLc c1 c2 c3 (o.ix h1) s1 s2
            rw [ownS_map] at r
            exact r
          | _ => cases h4
      | asgM i e =>
        replace h := onAsg_ok h
        obtain ⟨t, v, p, rfl, h⟩ := h
        replace h := onNameP_ok h
        obtain ⟨id, np, rfl, h⟩ := h
        replace h := and3 h
        obtain ⟨h1, h⟩ := h
        replace h := and3 h
        obtain ⟨h2, h⟩ := h
        obtain ⟨l1, l2⟩ := o.loc h2
        replace h := or3 h
        rcases h with h | h
        · replace h := and3 h
          obtain ⟨h3, h4⟩ := h
          exact sS_asgM o.nd (o.ix h1) l1 l2 (ce h4) (swFC_ok o h3)
        · replace h := and3 h
          obtain ⟨h3, h4⟩ := h
          cases e with
          | comp elt tg src cond own =>
            obtain ⟨elt', tgx, iter, ifs, scope, pp, rfl, c1, c2, c3⟩ := lc_ok o h4
            obtain ⟨s1, s2⟩ := swT_ok (l := p.line) o h3
            have r := sS_setLcM c1 c2 c3 (o.ix h1) s1 s2
            rw [ownS_map] at r
            exact r
          | _ => cases h4
      | asgs is e =>
        replace h := onAsg_ok h
        obtain ⟨t, v, p, rfl, h⟩ := h
        replace h := onTup_ok h
        obtain ⟨es, j, tp, rfl, h⟩ := h
        replace h := and3 h
        obtain ⟨h1, h⟩ := h
        replace h := and3 h
        obtain ⟨h2, h⟩ := h
        replace h := and3 h
        obtain ⟨h3, h4⟩ := h
        obtain ⟨p1, p2, p3, p4⟩ := tgs_ok o h1
        refine sS_asgs (sG_tup o.K o.calm p1 p2 p3 p4) (ce h4) (by unfold swapsWithSole; exact notComp_sw (nt h3)) ?_
        replace h2 := or3 h2
        rcases h2 with h2 | h2
        · cases v <;> first | rfl | cases h2
        · replace h2 := onTup_ok h2
          obtain ⟨vs, j2, p2, rfl, h2⟩ := h2
          replace h2 := and3 h2
          obtain ⟨k1, h2⟩ := h2
          replace h2 := and3 h2
          obtain ⟨k2, k3⟩ := h2
          rw [swS_ok (by rw [o.sc]; exact k1) ((or3 k2).imp nt id), o.sc]
          cases q : swS ck.sc es vs with
          | none => rfl
          | some z => rw [q] at k3; cases k3
      | two i j a b =>
        replace h := onAsg_ok h
        obtain ⟨t, v, p, rfl, h⟩ := h
        replace h := onTup_ok h
        obtain ⟨ts, kt, pt, rfl, h⟩ := h
        replace h := onTup_ok h
        obtain ⟨vs, k2, pt2, rfl, h⟩ := h
        replace h := on2_ok h
        obtain ⟨t1, t2, rfl, h⟩ := h
        replace h := onName_ok h
        obtain ⟨x1, px, rfl, h⟩ := h
        replace h := onName_ok h
        obtain ⟨x2, py, rfl, h⟩ := h
        replace h := on2_ok h
        obtain ⟨v1, v2, rfl, h⟩ := h
        replace h := and3 h
        obtain ⟨h1, h⟩ := h
        replace h := and3 h
        obtain ⟨h2, h⟩ := h
        replace h := and3 h
        obtain ⟨h3, h⟩ := h
        replace h := and3 h
        obtain ⟨h4, h⟩ := h
        replace h := and3 h
        obtain ⟨h5, h⟩ := h
        replace h := and3 h
        obtain ⟨h6, h⟩ := h
        replace h := and3 h
        obtain ⟨h7, h⟩ := h
        replace h := and3 h
        obtain ⟨h8, h⟩ := h
        replace h := and3 h
        obtain ⟨h9, h⟩ := h
        replace h := and3 h
        obtain ⟨h10, h⟩ := h
        replace h := and3 h
        obtain ⟨h11, h12⟩ := h
        refine sS_two o.calm o.nd (o.ix h1) (o.ix h2) (dc h3) (o.isLoc h4) (o.isLoc h5) (ce h11) (ce h12) (star_cons (nt h9)) (star_cons (nt h10)) ?_
        rw [swS_ok (by rw [o.sc]; exact h6) (.inl (nt h7)), o.sc, dc h8]
      | app i e =>
        replace h := onEx_ok h
        obtain ⟨y, p, rfl, h⟩ := h
        replace h := onMeth_ok h
        obtain ⟨id, p1, m, ap, xs, cp, rfl, hl, h⟩ := h
        replace h := and3 h
        obtain ⟨h1, h⟩ := h
        replace h := and3 h
        obtain ⟨h2, h⟩ := h
        replace h := on1_ok h
        obtain ⟨z, rfl, h⟩ := h
        replace h := and3 h
        obtain ⟨h3, h4⟩ := h
        obtain rfl := dc h1
        obtain ⟨n1, n2, n3, n4⟩ := o.nm h2
        exact sS_app n1 n2 n3 n4 (ce h4) (star_cons (nt h3)) hl
      | setM i a e =>
        replace h := onAsg_ok h
        obtain ⟨t, v, p, rfl, h⟩ := h
        replace h := onSub_ok h
        obtain ⟨y, z, sp, rfl, h⟩ := h
        replace h := onName_ok h
        obtain ⟨id, p1, rfl, h⟩ := h
        replace h := and3 h
        obtain ⟨h1, h⟩ := h
        replace h := and3 h
        obtain ⟨h0, h⟩ := h
        replace h := and3 h
        obtain ⟨h2, h⟩ := h
        replace h := and3 h
        obtain ⟨h3, h4⟩ := h
        obtain ⟨n1, n2, n3, n4⟩ := o.nm h1
        refine sS_setM n1 n2 n3 n4 (ce h3) (ce h4) (by unfold swapsWithSole; exact notComp_sw (nt h2)) ?_ (fun v' => by cases z <;> first | rfl | cases h0)
        cases v <;> rfl
      | aug i oo e =>
        replace h := onAug_ok h
        obtain ⟨t, op, v, p, rfl, h⟩ := h
        replace h := onName_ok h
        obtain ⟨id, p1, rfl, h⟩ := h
        replace h := and3 h
        obtain ⟨h1, h⟩ := h
        replace h := and3 h
        obtain ⟨h2, h⟩ := h
        replace h := and3 h
        obtain ⟨h3, h4⟩ := h
        obtain ⟨l1, l2⟩ := o.loc h3
        exact sS_aug (dc h1) o.nd (o.ix h2) l1 l2 (ce h4)
      | augM i a oo e =>
        replace h := onAug_ok h
        obtain ⟨t, op, v, p, rfl, h⟩ := h
        replace h := onSub_ok h
        obtain ⟨y, z, sp, rfl, h⟩ := h
        replace h := onName_ok h
        obtain ⟨id, p1, rfl, h⟩ := h
        replace h := and3 h
        obtain ⟨h1, h⟩ := h
        replace h := and3 h
        obtain ⟨h2, h⟩ := h
        replace h := and3 h
        obtain ⟨h3, h⟩ := h
        replace h := and3 h
        obtain ⟨h4, h5⟩ := h
        obtain ⟨n1, n2, n3, n4⟩ := o.nm h2
        exact sS_augM (dc h1) n1 n2 n3 n4 (ce h4) (ce h5) (fun _ _ _ => by cases z <;> first | rfl | cases h3)
      | ext i e =>
        replace h := onEx_ok h
        obtain ⟨y, p, rfl, h⟩ := h
        replace h := onMeth_ok h
        obtain ⟨id, p1, m, ap, xs, cp, rfl, hl, h⟩ := h
        replace h := and3 h
        obtain ⟨h1, h⟩ := h
        replace h := and3 h
        obtain ⟨h2, h⟩ := h
        replace h := on1_ok h
        obtain ⟨z, rfl, h⟩ := h
        replace h := and3 h
        obtain ⟨h3, h4⟩ := h
        obtain rfl := dc h1
        obtain ⟨n1, n2, n3, n4⟩ := o.nm h2
        exact sS_ext n1 n2 n3 n4 (ce h4) (star_cons (nt h3)) hl
      | ret e =>
        replace h := onRet_ok h
        obtain ⟨v, p, rfl, h⟩ := h
        cases v with
        | none =>
          cases e with
          | non => exact sS_retN
          | _ => cases h
        | some y => exact sS_ret (ce h)
      | retM i =>
        replace h := onRet_ok h
        obtain ⟨v, p, rfl, h⟩ := h
        cases v with
        | none => cases h
        | some y =>
          replace h := onName_ok h
          obtain ⟨id, p1, rfl, h⟩ := h
          obtain ⟨n1, n2, n3, n4⟩ := o.nm h
          exact sS_retM n1 n2 n3 n4
      | ite e a b =>
        replace h := onIfS_ok h
        obtain ⟨y, q, r, p, rfl, h⟩ := h
        replace h := and3 h
        obtain ⟨h1, h⟩ := h
        replace h := and3 h
        obtain ⟨h2, h3⟩ := h
        exact sS_ite (ce h1) (ih X ck w k a (.ss q) o hp h2) (ih X ck w k b (.ss r) o hp h3)
      | for_ tg src b =>
        replace h := onFor_ok h
        obtain ⟨t, i, q, p, rfl, h⟩ := h
        replace h := and3 h
        obtain ⟨h1, h⟩ := h
        replace h := and3 h
        obtain ⟨h2, h⟩ := h
        replace h := and3 h
        obtain ⟨h3, h4⟩ := h
        exact sS_for hp o.calm (chk_ok Φ n X ck w k src _ o h3) (tg_ok o h1) (ih X ck w k b (.ss q) o hp h4) (notSet_ok (nt h2))
      | while_ e b =>
        replace h := onWhile_ok h
        obtain ⟨y, q, p, rfl, h⟩ := h
        replace h := and3 h
        obtain ⟨h1, h2⟩ := h
        exact sS_while hp (ce h1) (ih X ck w k b (.ss q) o hp h2)
      | drop e =>
        replace h := onEx_ok h
        obtain ⟨y, p, rfl, h⟩ := h
        replace h := and3 h
        obtain ⟨h1, h2⟩ := h
        exact sS_drop (ce h2) (notComp_sw (nt h1))
      | _ => cases h
end HM

namespace HM
open PySem PySem.Spec PyProof.Rows L2

/-! ### a def's start and end -/
theorem startS_len : ∀ (k : Nat) (io : Option Nat) (args : List PyData), (startS k io args).length = args.length
  | _, _, [] => rfl
  | k, io, d :: r => by
    show (_ :: startS (k + 1) io r).length = _
    rw [List.length_cons, List.length_cons, startS_len]
theorem startS_get : ∀ (k : Nat) (io : Option Nat) (args : List PyData) (i : Nat) (s : Slot), (startS k io args)[i]? = some s → ∃ d, args[i]? = some d ∧ ((s = .val d ∧ (io = some (k + i) → ∀ ds, d ≠ .list ds)) ∨ (io = some (k + i) ∧ ∃ ds, d = .list ds ∧ s = .par ds))
  | _, _, [], i, s, h => by cases h
  | k, io, d :: r, 0, s, h => by
    refine ⟨d, rfl, ?_⟩
    cases io with
    | none =>
      have h : Slot.val d = s := Option.some.inj h
      exact .inl ⟨h.symm, fun z => by cases z⟩
    | some p =>
      cases d with
      | list ds =>
        have h : (if p = k then Slot.par ds else .val (.list ds)) = s := Option.some.inj h
        by_cases e : p = k
        · rw [if_pos e] at h; exact .inr ⟨by rw [e]; rfl, ds, rfl, h.symm⟩
        · rw [if_neg e] at h; exact .inl ⟨h.symm, fun z => absurd (Option.some.inj z) e⟩
      | none => exact .inl ⟨(Option.some.inj h).symm, fun _ ds z => by cases z⟩
      | bool b => exact .inl ⟨(Option.some.inj h).symm, fun _ ds z => by cases z⟩
      | int b => exact .inl ⟨(Option.some.inj h).symm, fun _ ds z => by cases z⟩
      | str b => exact .inl ⟨(Option.some.inj h).symm, fun _ ds z => by cases z⟩
      | tuple b => exact .inl ⟨(Option.some.inj h).symm, fun _ ds z => by cases z⟩
      | dict b => exact .inl ⟨(Option.some.inj h).symm, fun _ ds z => by cases z⟩
  | k, io, d :: r, i + 1, s, h => by
    obtain ⟨d', e, q⟩ := startS_get (k + 1) io r i s h
    rw [show k + 1 + i = k + (i + 1) by omega] at q
    exact ⟨d', e, q⟩
section
variable {K : PySem.W.Frag} {G : Hp} {pa : Addr} {F H : Hp}
theorem start_get {N : List Str} {vs : List V} {i : Nat} {v : V} (h : vs[i]? = some v) : (L2.start N vs)[i]? = some (some v) := by
  unfold L2.start
  rw [List.getElem?_append_left (by rw [List.length_map]; exact (List.getElem?_eq_some_iff.mp h).1), List.getElem?_map, h]
  rfl
theorem sim_start {io : Option Nat} {args : List PyData} {vs : List V} {N : List Str} {n : Nat} (fh : FLe F H) (gh : FLe G H) (fg : ∀ a, F a = none ∨ G a = none) (pn : H pa ≠ none) (gp : io ≠ none → G pa = none) (A : ArgsOk K F H pa io args vs) (hn : N.length = n) (hv : vs.length ≤ n) :
    Sim K G pa F H (startS 0 io args ++ List.replicate (n - args.length) .un) (L2.start N vs) := by
  have la := A.len
  have get : ∀ (i : Nat) (s : Slot), (startS 0 io args ++ List.replicate (n - args.length) .un)[i]? = some s → s = .un ∨ (startS 0 io args)[i]? = some s := fun i s h => by
    by_cases c : i < (startS 0 io args).length
    · rw [List.getElem?_append_left c] at h; exact .inr h
    · rw [List.getElem?_append_right (by omega), List.getElem?_replicate] at h
      split at h
      · exact .inl (Option.some.inj h).symm
      · cases h
  have par : ∀ (i : Nat) (s : Slot), (startS 0 io args ++ List.replicate (n - args.length) .un)[i]? = some s → isM s = true → io = some i := fun i s h m => by
    rcases get i s h with rfl | h
    · cases m
    · obtain ⟨d, e, q⟩ := startS_get 0 io args i s h
      rcases q with ⟨rfl, _⟩ | ⟨q, _⟩
      · cases m
      · rw [q, Nat.zero_add]
  refine ⟨fh, gh, fg, pn, ?_, fun i s h => ?_, fun i j s t a hi hj mi mj _ _ => ?_⟩
  · unfold L2.start
    rw [List.length_append, List.length_append, List.length_replicate, List.length_replicate, startS_len, List.length_map, hn]
    omega
  · rcases get i s h with rfl | h
    · trivial
    · obtain ⟨d, e, q⟩ := startS_get 0 io args i s h
      rw [Nat.zero_add] at q
      obtain ⟨v, ev⟩ : ∃ v, vs[i]? = some v := by
        have := (List.getElem?_eq_some_iff.mp e).1
        exact ⟨_, List.getElem?_eq_getElem (by omega)⟩
      rcases q with ⟨rfl, q⟩ | ⟨q, ds, rfl, rfl⟩
      · by_cases c : io = some i
        · obtain ⟨ds, xs, rfl, _⟩ := A.lst i d v c e ev
          exact absurd rfl (q c ds)
        · exact ⟨v, start_get ev, A.val i d v c e ev⟩
      · obtain ⟨ds', xs, e1, rfl, f1, f2, f3⟩ := A.lst i _ v q e ev
        cases e1
        exact ⟨xs, start_get ev, f1, gp (by rw [q]; intro z; cases z), f2, f3⟩
  · have e1 := par i s hi mi
    have e2 := par j t hj mj
    rw [e1] at e2
    exact Option.some.inj e2
theorem left_of {io : Option Nat} {F0 : Hp} {ρ : Env} {σ : L2.St} {ds : List PyData} (l : FLe F0 F) (S : Sim K G pa F H ρ σ) (h : parOf io ρ = some ds) : Left K G pa io F0 F H ds where
  ff := l
  fh := S.fh
  gh := S.gh
  fg := S.fg
  pn := S.pn
  lst := fun n => by
    cases io with
    | none => exact absurd rfl n
    | some p =>
      unfold parOf at h
      dsimp only at h
      cases q : getS ρ p with
      | par es =>
        rw [q] at h
        cases h
        have hr : ρ[p]? = some (.par ds) := by
          unfold getS at q
          rw [List.getD_eq_getElem?_getD] at q
          cases q3 : ρ[p]? with
          | none => rw [q3] at q; cases q
          | some s => rw [q3] at q; exact congrArg some q
        obtain ⟨xs, _, f, g, hx, r⟩ := S.slot p _ hr
        exact ⟨f, xs, hx, r⟩
      | un => rw [q] at h; cases h
      | val d => rw [q] at h; cases h
      | mu d => rw [q] at h; cases h
end
/-! ### all defs of a text -/
structure FnP where
  name : Str
  id : Nat
  st : Stmt
  N : List Str
  ps : List Str
  fd : Fd
def FnP.info (f : FnP) : FnI := ⟨f.name, f.id, f.fd.pars, f.fd.io, f.fd.own⟩
def ckOf (prog : List FnP) (gi : List (Str × Int)) (bl : List Str) (f : FnP) : Ck := ⟨f.N, defScope f.st, fun _ => true, prog.map FnP.info, gi, bl⟩
/-- what the machine checks of a def -/
structure FnP.Ok (prog : List FnP) (gi : List (Str × Int)) (bl : List Str) (f : FnP) : Prop where
  chk : chkS 200 (ckOf prog gi bl f) f.fd.body (.ss (defBody f.st)) = true
  sc : FnScope f.N f.ps (defScope f.st)
  size : f.N.length = f.fd.size
  pars : f.ps.length = f.fd.pars
  le : f.fd.pars ≤ f.fd.size
  bind : ∀ (kV doc pm : Value) (an : Option Addr) (cdv ct : Value) (us : List Value), us.length = f.ps.length → bindArgs (PySem.W.fnOf f.name f.name (defArgs f.st) (defBody f.st) (defScope f.st) .none kV doc pm an cdv ct) ⟨us, []⟩ = pure (f.ps.zip us)
theorem runFd_len {Φ : Fns} {fd : Fd} {args : List PyData} (h : runFd Φ fd args ≠ .bad) : args.length = fd.pars := by
  unfold runFd at h
  by_cases e : args.length = fd.pars
  · exact e
  · rw [if_neg e] at h; exact absurd rfl h
section
variable {P : Program} {w : World} {K : PySem.W.Frag} {mg : Str → Option Value} {base : Heap} {prog : List FnP} {gi : List (Str × Int)} {bl : List Str} {T : Nat → Option Fd} {ad : Str → Addr} {XR : XRT}
theorem body_ok {Φ : Fns} {f : FnP} (ok : f.Ok prog gi bl) {a : Addr} {fd : FuncData} {k : Nat}
    (F : FunD K f.name f.name (defArgs f.st) (defBody f.st) (defScope f.st) [] [] a fd)
    (fns : ∀ (cdv : Value) (A : Around) (outer : List PySem.Env) (s : Shared) (H : Hp) (E : XK) (g : FnP), g ∈ prog → FnHas (cxOf (L2.CX P w) P w K mg base f.N f.name (defScope f.st) a cdv A outer s H E) XR k g.name (Φ g.id) g.fd.pars g.fd.io g.fd.own ∧ ∀ args, Φ g.id args ≠ .bad → args.length = g.fd.pars)
    (hgi : ∀ g ∈ gi, ∃ t, mg g.1 = some (.int g.2 t)) (hbl : ∀ b ∈ bl, mg b = none) :
    FnOk P w K mg base (L2.CX P w) (k + 1) a fd f.ps (spOf K XR (runFd Φ f.fd) f.fd.io f.fd.own) := by
  refine F.ok ok.sc (fun vs H Q E h => ?_) (fun cdv A outer s H vs Q E hr h => ?_)
  · obtain ⟨F0, G, pa, args, _, _, _, _, _, AO, h⟩ := h
    rw [← AO.len, ok.pars]
    exact runFd_len fun z => by rw [z] at h; exact h
  · obtain ⟨F0, G, pa, args, fh, gh, fg, pn, gp, AO, h⟩ := h
    have la : args.length = f.fd.pars := runFd_len fun z => by rw [z] at h; exact h
    have le := ok.le
    let w' : Wd := ⟨K, G, pa, fun cls d _ H => E cls d H, XR⟩
    let X : Cx := cxOf (L2.CX P w) P w K mg base f.N f.name (defScope f.st) a cdv A outer s H E
    have tk : Takes X w'.W := takes_of (X := X) rfl rfl rfl (E₁ := fun e' s'' => L2.CX P w outer H s E e' s'') rfl
    have hp : PassesOwn (model X.prog X.w) X.A X.env X.xe := passes_of (X := X) (E₁ := fun e' s'' => L2.CX P w outer H s E e' s'') rfl
    have o : CtxOk X (ckOf prog gi bl f) Φ w' k := {
      sc := rfl
      N := rfl
      nd := ok.sc.nd
      calm := rfl
      K := rfl
      tk := tk
      hr := hr
      fns := fun i hi => by
        obtain ⟨g, hg, rfl⟩ := List.mem_map.mp (show i ∈ prog.map FnP.info from hi)
        exact fns cdv A outer s H E g hg
      gi := hgi
      bl := hbl
      fn := fun _ _ => rfl }
    refine ⟨tS Φ w' f.fd.body, chkS_ok Φ 200 X _ w' k f.fd.body (.ss (defBody f.st)) o hp ok.chk, startS 0 f.fd.io args ++ List.replicate (f.fd.size - f.fd.pars) .un, F0, ?_, ?_⟩
    · rw [← la]
      exact sim_start fh gh fg pn gp AO ok.size (by rw [← AO.len]; omega)
    · unfold runFd at h
      rw [if_pos la] at h
      cases q : evS Φ f.fd.body (startS 0 f.fd.io args ++ List.replicate (f.fd.size - f.fd.pars) .un) with
      | bad => rw [q] at h; exact h
      | brk ρ => rw [q] at h; exact h.elim
      | cnt ρ => rw [q] at h; exact h.elim
      | nx ρ =>
        rw [q] at h
        dsimp only at h
        intro F' H' σ l S
        cases q1 : f.fd.own with
        | true => rw [q1, if_pos rfl] at h; exact h.elim
        | false =>
          rw [q1, if_neg Bool.false_ne_true] at h
          cases q2 : parOf f.fd.io ρ with
          | none => rw [q2] at h; exact h.elim
          | some ds => rw [q2] at h; exact h F' H' _ (left_of l S q2) .non
      | ret own d ρ =>
        rw [q] at h
        dsimp only at h
        intro F' H' σ v l S r
        by_cases e : own = f.fd.own
        · rw [if_pos e] at h
          cases q2 : parOf f.fd.io ρ with
          | none => rw [q2] at h; exact h.elim
          | some ds => rw [q2] at h; exact h F' H' v (left_of l S q2) (by rw [← e]; exact r)
        · rw [if_neg e] at h; exact h.elim
      | exc x ρ =>
        rw [q] at h
        dsimp only at h
        intro σ F' H' cls dd l S xr
        cases q2 : parOf f.fd.io ρ with
        | none => rw [q2] at h; exact h.elim
        | some ds => rw [q2] at h; exact h F' H' cls dd (left_of l S q2) xr
/-- every def keeps its promise, whatever the depth of its calls -/
theorem all_ok (hok : ∀ f ∈ prog, f.Ok prog gi bl) (hT : ∀ f ∈ prog, T f.id = some f.fd) (fdo : FnP → FuncData)
    (hF : ∀ f ∈ prog, FunD K f.name f.name (defArgs f.st) (defBody f.st) (defScope f.st) [] [] (ad f.name) (fdo f)) (hm : ∀ f ∈ prog, mg f.name = some (.ref (ad f.name)))
    (hgi : ∀ g ∈ gi, ∃ t, mg g.1 = some (.int g.2 t)) (hbl : ∀ b ∈ bl, mg b = none) :
    ∀ n, ∀ f ∈ prog, FnOk P w K mg base (L2.CX P w) (n + 1) (ad f.name) (fdo f) f.ps (spOf K XR (Phi T n f.id) f.fd.io f.fd.own) := fun n => by
  induction n with
  | zero =>
    intro f hf
    have bad : ∀ vs H Q E, ¬ spOf K XR (Phi T 0 f.id) f.fd.io f.fd.own vs H Q E := fun vs H Q E ⟨F0, G, pa, args, _, _, _, _, _, _, h⟩ => h
    exact (hF f hf).ok (hok f hf).sc (fun vs H Q E h => absurd h (bad vs H Q E)) (fun cdv A outer s H vs Q E hr h => absurd h (bad vs H Q E))
  | succ n ih =>
    intro f hf
    have e : Phi T (n + 1) f.id = runFd (Phi T n) f.fd := by
      funext args
      show (match T f.id with | some fd => runFd (Phi T n) fd args | none => .bad) = _
      rw [hT f hf]
    rw [e]
    refine body_ok (hok f hf) (hF f hf) (fun cdv A outer s H E g hg => ⟨⟨ad g.name, fdo g, g.ps, hm g hg, (hF g hg).kp, (hF g hg).bindsN (hok g hg).bind, (hok g hg).pars, ih g hg⟩, fun args h => ?_⟩) hgi hbl
    cases n with
    | zero => exact absurd rfl h
    | succ m =>
      refine runFd_len (Φ := Phi T m) (fd := g.fd) fun z => h ?_
      show (match T g.id with | some fd => runFd (Phi T m) fd args | none => .bad) = _
      rw [hT g hg]
      exact z
end
end HM

namespace HM
open PySem PySem.Spec PyProof.Rows L2

/-! ### the head: what is seen of the heap behind the top; no list among it -/
def noL (K : PySem.W.Frag) : Bool := K.all fun p => match p.2.cls with
  | .type c => !(c == "list")
  | _ => true
def obsM (fa : List He.Fa) (fn : List He.DefD) (K : PySem.W.Frag) : He.AlD × Bool := (He.obsD fa fn K, noL K)
def obsMG (n : Nat) (fa : List He.Fa) (fn : List He.DefD) (g : Addr → Option Obj) : He.AlD × Bool := obsM fa fn (He.frG g (He.asD g n))
def hookM (n : Nat) (fa : List He.Fa) (fn : List He.DefD) : PySem.W.Hook where
  α := He.AlD × Bool
  obs := fun s => obsMG n fa fn s.heap.get?
  val := fun _ => (He.valD fn, true)
  says := fun _ h => ∃ K : PySem.W.Frag, K.In h ∧ He.SaysD fa fn K ∧ noL K = true
  of := fun _ _ e => ⟨_, He.frG_in, congrArg Prod.fst e, congrArg Prod.snd e⟩
  keeps := fun _ _ _ ⟨K, hK, c⟩ k => ⟨K, PySem.W.Frag.In.keeps hK k, c⟩
theorem obsMG_eq {n : Nat} {fa : List He.Fa} {fn : List He.DefD} {g : Addr → Option Obj} {s : Shared} (h : ∀ a, g a = s.heap.get? a) : obsMG n fa fn g = (hookM n fa fn).obs s := by
  have e : g = s.heap.get? := funext h
  rw [e] <;> rfl
theorem lookup_mem' {α β : Type} [BEq α] [LawfulBEq α] : ∀ {l : List (α × β)} {a : α} {b : β}, l.lookup a = some b → (a, b) ∈ l
  | (x, y) :: r, a, b, h => by
    rw [List.lookup_cons] at h
    cases q : a == x with
    | true =>
      rw [q] at h
      cases h
      rw [eq_of_beq q]
      exact List.mem_cons_self
    | false =>
      rw [q] at h
      exact List.mem_cons_of_mem _ (lookup_mem' h)
/-- nothing of K is a list -/
theorem noL_rd {K : PySem.W.Frag} {H : Hp} {a : Addr} {xs : List V} (n : noL K = true) (h : SqL K H a xs) : Rd H a (.lst xs) := by
  rcases h with h | ⟨o, its, m, e, hc, _⟩
  · exact h
  · exfalso
    have q := List.all_eq_true.mp n _ (lookup_mem' e)
    dsimp only at q
    rw [hc] at q
    revert q
    decide
def FnP.dd (f : FnP) : He.DefD := ⟨(f.name, none), f.name, f.name, defArgs f.st, defBody f.st, defScope f.st, [], []⟩
def faOf (prog : List FnP) (gi : List (Str × Int)) (bl : List Str) : List He.Fa := prog.map (fun f => .glo f.name) ++ gi.map (fun g => .int g.1 g.2) ++ bl.map .free
/-- a promise with no exception -/
theorem FnOk.calm {P : Program} {w : World} {K : PySem.W.Frag} {mg : Str → Option Value} {base : Heap} {k : Nat} {f : Addr} {fd : FuncData} {ps : List Str} {sp : Sp} (F : FnOk P w K mg base (L2.CX P w) k f fd ps sp) :
    FnOk P w K mg base CX0 k f fd ps (fun vs H Q _ => sp vs H Q fun _ _ _ => False) :=
  ⟨fun vs H Q E h => F.len _ _ _ _ h, fun A outer s H args us vs Q E hr he hb hv hs => codeAny_mono (F.run A outer s H args us vs Q _ hr he hb hv hs) fun r s' hq => by
    cases r with
    | ok fl =>
      cases fl with
      | ret u => exact hq
      | next => exact hq
      | brk => exact hq
      | cont => exact hq
    | error e =>
      obtain ⟨a, B, H', cls, d, _, _, _, _, _, _, _, z⟩ := hq
      exact z.elim⟩
def XR0 : XRT := fun _ _ _ _ _ => False
theorem law_fn {P : Program} {w : World} {K : PySem.W.Frag} {h : Heap} {mg : Str → Option Value} {a0 : Addr} {prog : List FnP} {gi : List (Str × Int)} {bl : List Str} {T : Nat → Option Fd} {f0 : FnP} {n most : Nat}
    (X : K.In h) (G : h.Ns mainGlobals mg) (c : He.SaysD (faOf prog gi bl) (prog.map FnP.dd) K) (nl : noL K = true) (hok : ∀ f ∈ prog, f.Ok prog gi bl) (hT : ∀ f ∈ prog, T f.id = some f.fd) (h0 : f0 ∈ prog) (hio : f0.fd.io = none) (hown : f0.fd.own = false) (hps : f0.ps = ([("script" : Str)] : List Str))
    (ha : mg f0.name = some (.ref a0)) (hlaw : ∀ ns : List Int, ns.length ≤ most → Phi T n f0.id [.list (ns.map .int)] = .ok (.bool true) []) :
    ∃ (K : PySem.W.Frag) (fd : FuncData) (sp : Sp), K.In h ∧ (∀ (s : Shared) (u : Value), BindsTo s fd ⟨[u], []⟩ [("script", u)]) ∧
        (∀ (H : Hp) (a : Addr) (ns : List Int), ns.length ≤ most → Only H → SqL K H a (ns.map V.int) → sp [.ref a] H (fun v _ => v = .bl true) fun _ _ _ => False) ∧
        ∀ base : Heap, K.In base → base.Ns mainGlobals mg → FnOk P w K mg base CX0 (n + 1) a0 fd ["script"] sp := by
  have ex : ∀ f ∈ prog, ∃ fd, FunD K f.name f.name (defArgs f.st) (defBody f.st) (defScope f.st) [] [] (He.fAd K (f.name, none)) fd := fun f hf => c.defs (d := f.dd) (List.mem_map.mpr ⟨f, hf, rfl⟩)
  have ⟨fdo, hF⟩ : ∃ fdo : FnP → FuncData, ∀ f ∈ prog, FunD K f.name f.name (defArgs f.st) (defBody f.st) (defScope f.st) [] [] (He.fAd K (f.name, none)) (fdo f) := by
    classical
    refine ⟨fun f => if q : f ∈ prog then (ex f q).choose else (ex f0 h0).choose, fun f hf => ?_⟩
    dsimp only
    rw [dif_pos hf]
    exact (ex f hf).choose_spec
  have hm : ∀ f ∈ prog, mg f.name = some (.ref (He.fAd K (f.name, none))) := fun f hf => He.glo_ok X G (c.facts (f := .glo f.name) (by unfold faOf; exact List.mem_append_left _ (List.mem_append_left _ (List.mem_map.mpr ⟨f, hf, rfl⟩))))
  have hgi : ∀ g ∈ gi, ∃ t, mg g.1 = some (.int g.2 t) := fun g hg => He.int_ok X G (c.facts (f := .int g.1 g.2) (by unfold faOf; exact List.mem_append_left _ (List.mem_append_right _ (List.mem_map.mpr ⟨g, hg, rfl⟩))))
  have hbl : ∀ b ∈ bl, mg b = none := fun b hb => He.free_ok X G (c.facts (f := .free b) (by unfold faOf; exact List.mem_append_right _ (List.mem_map.mpr ⟨b, hb, rfl⟩)))
  have e0 : a0 = He.fAd K (f0.name, none) := by
    have := hm f0 h0
    rw [ha] at this
    injection Option.some.inj this
  refine ⟨K, fdo f0, fun vs H Q _ => spOf K XR0 (Phi T n f0.id) f0.fd.io f0.fd.own vs H Q fun _ _ _ => False, X, fun s v => ?_, ?_, fun base _ _ => ?sp⟩
  case sp =>
    have r := FnOk.calm (all_ok (P := P) (w := w) (base := base) (ad := fun x => He.fAd K (x, none)) (XR := XR0) hok hT fdo hF hm hgi hbl n f0 h0)
    rw [hps] at r
    rw [e0]
    exact r
  · have := (hF f0 h0).bindsA (hok f0 h0).bind s [v] (by rw [hps]; rfl)
    rw [hps] at this
    exact this
  · intro H a ns hl hO hS
    have rd := noL_rd nl hS
    refine ⟨H, fun _ => none, a, [.list (ns.map .int)], FLe.rf, (fun _ _ z => by cases z), fun _ => .inr rfl, ?_, fun _ => rfl, ⟨rfl, fun i d v _ h1 h2 => ?_, fun i d v z => ?_⟩, ?_⟩
    · rcases rd with rd | ⟨o, rd⟩ <;> (rw [rd]; intro z; cases z)
    · cases i with
      | zero =>
        cases h1
        cases h2
        exact .lst rd (RepAll.ofInts ns)
      | succ i => cases h1
    · rw [hio] at z; cases z
    · rw [hlaw ns hl]
      intro F' H' v L r
      rw [hown] at r
      have r : Rep K F' (.bool true) v := r
      cases r
      rfl
end HM

namespace HM
open PySem

/-! ### to run the evaluator by rewriting -/
theorem bin_mul_l {i j : Int} (h : i.natAbs < 2 ^ 64) : bin .mul (.int i) (.int j) = some (.int (i * j)) := if_pos (.inl h)
theorem bin_mul_r {i j : Int} (h : j.natAbs < 2 ^ 64) : bin .mul (.int i) (.int j) = some (.int (i * j)) := if_pos (.inr (.inl h))
theorem bin_mul_g {i j : Int} (h : Sm GB i) (g : Sm GB j) : bin .mul (.int i) (.int j) = some (.int (i * j)) := if_pos (.inr (.inr ⟨h, g⟩))
theorem bin_add (i j : Int) : bin .add (.int i) (.int j) = some (.int (i + j)) := rfl
theorem bin_sub (i j : Int) : bin .sub (.int i) (.int j) = some (.int (i - j)) := rfl
theorem bin_mod {i j : Int} (h : 0 < j) : bin .mod (.int i) (.int j) = some (.int (i % j)) := by
  rw [← Int.fmod_eq_emod_of_nonneg i (Int.le_of_lt h)]
  exact if_pos (by omega)
theorem sm_mono {m n : Nat} {i : Int} (h : Sm m i) (l : m ≤ n) : Sm n i := Nat.lt_of_lt_of_le h (Nat.pow_le_pow_right (by decide) l)
theorem sm64 {i : Int} (h : i.natAbs < 2 ^ 64) : Sm 9000 i := sm_mono (m := 64) h (by decide)
theorem bin_div {i j : Int} (h : 0 < j) (g : j.natAbs < 2 ^ 64) : bin .fdiv (.int i) (.int j) = some (.int (i / j)) := by
  rw [← Int.fdiv_eq_ediv_of_nonneg i (Int.le_of_lt h)]
  exact if_pos ⟨by omega, .inl (sm64 g)⟩
theorem bin_pow {i j : Int} (h : powOk i j) : bin .pow (.int i) (.int j) = some (.int (i ^ j.toNat)) := if_pos h
theorem bin_cat {xs ys : List PyData} (h : xs.length + ys.length ≤ SL) : bin .add (.tuple xs) (.tuple ys) = some (.tuple (xs ++ ys)) := if_pos h
theorem bin_catL {xs ys : List PyData} (h : xs.length + ys.length ≤ SL) : bin .add (.list xs) (.list ys) = some (.list (xs ++ ys)) := if_pos h
theorem runFd_of {Φ : Fns} {fd : Fd} {args : List PyData} (h : args.length = fd.pars) : runFd Φ fd args = match evS Φ fd.body (startS 0 fd.io args ++ List.replicate (fd.size - fd.pars) .un) with
    | .nx ρ => if fd.own then .bad else .ofIo .none (parOf fd.io ρ)
    | .ret own d ρ => if own = fd.own then .ofIo d (parOf fd.io ρ) else .bad
    | .exc x ρ => .exIo x (parOf fd.io ρ)
    | _ => .bad := if_pos h
theorem rb_ok {α β : Type} (a : α) (ρ : Env) (f : α → Env → R β) : (R.ok a ρ).bind f = f a ρ := rfl
theorem ro_ok {α : Type} (a : α) (ρ : Env) (f : α → Env → O) : (R.ok a ρ).out f = f a ρ := rfl
theorem of_some {α : Type} (a : α) (ρ : Env) : R.of (some a) ρ = .ok a ρ := rfl
theorem oof_some (ρ : Env) : O.of (some ρ) = .nx ρ := rfl
theorem getS_0 (a : Slot) (r : Env) : getS (a :: r) 0 = a := rfl
theorem getS_s (a : Slot) (r : Env) (i : Nat) : getS (a :: r) (i + 1) = getS r i := rfl
theorem rd_val {ρ : Env} {i : Nat} {d : PyData} (h : getS ρ i = .val d) : rdVar ρ i = .ok d ρ := by unfold rdVar; rw [h]
/-! ### one step -/
def O.thn : O → (Env → O) → O
  | .nx ρ, f => f ρ
  | o, _ => o
theorem thn_nx (ρ : Env) (f : Env → O) : (O.nx ρ).thn f = f ρ := rfl
theorem thn_ret (b : Bool) (d : PyData) (ρ : Env) (f : Env → O) : (O.ret b d ρ).thn f = .ret b d ρ := rfl
noncomputable def forF (Φ : Fns) (tg : Tg) (b : S) (d : PyData) (ρ : Env) : O := match asgT tg d ρ with
  | some ρ' => evS Φ b ρ'
  | none => .bad
theorem forF_of {Φ : Fns} {tg : Tg} {b : S} {d : PyData} {ρ ρ' : Env} (h : asgT tg d ρ = some ρ') : forF Φ tg b d ρ = evS Φ b ρ' := by unfold forF; rw [h]
section
variable (Φ : Fns) (ρ : Env)
theorem eE_var (i : Nat) : evE Φ (.var i) ρ = rdVar ρ i := rfl
theorem eE_non : evE Φ .non ρ = .ok .none ρ := rfl
theorem eE_bl (b : Bool) : evE Φ (.bl b) ρ = .ok (.bool b) ρ := rfl
theorem eE_int (z : Int) : evE Φ (.int z) ρ = .ok (.int z) ρ := rfl
theorem eE_str (z : Str) : evE Φ (.str z) ρ = .ok (.str z) ρ := rfl
theorem eE_gint (x : Str) (z : Int) : evE Φ (.gint x z) ρ = .ok (.int z) ρ := rfl
theorem eE_nil : evE Φ .nil ρ = .ok (.tuple []) ρ := rfl
theorem eE_cons (a b : E) : evE Φ (.cons a b) ρ = (evE Φ a ρ).bind fun x ρ => (evE Φ b ρ).bind fun y ρ => .ok (.tuple (x :: tupOf y)) ρ := rfl
theorem eE_bin (o : Op2) (a b : E) : evE Φ (.bin o a b) ρ = (evE Φ a ρ).bind fun x ρ => (evE Φ b ρ).bind fun y ρ => .of (bin o x y) ρ := rfl
theorem eE_neg (a : E) : evE Φ (.neg a) ρ = (evE Φ a ρ).bind fun x ρ => match x with | .int i => .ok (.int (-i)) ρ | _ => .bad := rfl
theorem eE_cmp (o : Cm) (a b : E) : evE Φ (.cmp o a b) ρ = (evE Φ a ρ).bind fun x ρ => (evE Φ b ρ).bind fun y ρ => .of ((cmpD o x y).map .bool) ρ := rfl
theorem eE_chain (o p : Cm) (a b c : E) : evE Φ (.chain o p a b c) ρ = (evE Φ a ρ).bind fun x ρ => (evE Φ b ρ).bind fun y ρ => match cmpD o x y with
    | some true => (evE Φ c ρ).bind fun z ρ => .of ((cmpD p y z).map .bool) ρ
    | some false => .ok (.bool false) ρ
    | none => .bad := rfl
theorem eE_not (a : E) : evE Φ (.not a) ρ = (evE Φ a ρ).bind fun x ρ => match x with | .bool b => .ok (.bool (!b)) ρ | _ => .bad := rfl
theorem eE_and (a b : E) : evE Φ (.and a b) ρ = (evE Φ a ρ).bind fun x ρ => match x with | .bool true => evE Φ b ρ | .bool false => .ok (.bool false) ρ | _ => .bad := rfl
theorem eE_or (a b : E) : evE Φ (.or a b) ρ = (evE Φ a ρ).bind fun x ρ => match x with | .bool true => .ok (.bool true) ρ | .bool false => evE Φ b ρ | _ => .bad := rfl
theorem eE_ite (c a b : E) : evE Φ (.ite c a b) ρ = (evE Φ c ρ).bind fun x ρ => match x with | .bool true => evE Φ a ρ | .bool false => evE Φ b ρ | _ => .bad := rfl
theorem eE_tup (es : E) : evE Φ (.tup es) ρ = (evE Φ es ρ).bind fun x ρ => .ok (.tuple (tupOf x)) ρ := rfl
theorem eE_lst (es : E) : evE Φ (.lst es) ρ = (evE Φ es ρ).bind fun x ρ => .ok (.list (tupOf x)) ρ := rfl
theorem eE_ix (a b : E) : evE Φ (.ix a b) ρ = (evE Φ a ρ).bind fun x ρ => (evE Φ b ρ).bind fun y ρ => .of (ixD x y) ρ := rfl
theorem eE_sl (a lo hi : E) : evE Φ (.sl a lo hi) ρ = (evE Φ a ρ).bind fun x ρ => (evE Φ lo ρ).bind fun y ρ => if slOk lo.isNon y then (evE Φ hi ρ).bind fun z ρ => if slOk hi.isNon z then .of (slD x y z) ρ else .bad else .bad := rfl
theorem eE_rev (a : E) : evE Φ (.rev a) ρ = (evE Φ a ρ).bind fun x ρ => .of (revD x) ρ := rfl
theorem eE_call (f : Nat) (es : E) : evE Φ (.call f es) ρ = (evE Φ es ρ).bind fun x ρ => match Φ f (tupOf x) with
    | .ok d _ => .ok d ρ
    | .exc z _ => .exc z ρ
    | .bad => .bad := rfl
theorem eE_callio (f p i : Nat) (es : E) : evE Φ (.callio f p i es) ρ = if (mutS (getS ρ i)).isSome then (evE Φ es ρ).bind fun x ρ => match mutS (getS ρ i) with
    | none => .bad
    | some ds => match Φ f (insAt p (.list ds) (tupOf x)) with
      | .ok d ds' => .ok d (ρ.set i (remut (getS ρ i) ds'))
      | .exc z ds' => .exc z (ρ.set i (remut (getS ρ i) ds'))
      | .bad => .bad
    else .bad := rfl
theorem eE_bi (f : Bi) (es : E) : evE Φ (.bi f es) ρ = (evE Φ es ρ).bind fun x ρ => .of (biD f (tupOf x)) ρ := rfl
theorem eE_isi (a : E) (t : Ty) : evE Φ (.isi a t) ρ = (evE Φ a ρ).bind fun x ρ => .ok (.bool (isTy t x)) ρ := rfl
theorem eE_rng (a : E) : evE Φ (.rng a) ρ = (evE Φ a ρ).bind fun x ρ => .of (rngD (.int 0) x) ρ := rfl
theorem eE_rng2 (a b : E) : evE Φ (.rng2 a b) ρ = (evE Φ a ρ).bind fun x ρ => (evE Φ b ρ).bind fun y ρ => .of (rngD x y) ρ := rfl
theorem eE_enum (a : E) : evE Φ (.enum a) ρ = (evE Φ a ρ).bind fun x ρ => .of (enumD x) ρ := rfl
theorem eE_zip (a b : E) : evE Φ (.zip a b) ρ = (evE Φ a ρ).bind fun x ρ => (evE Φ b ρ).bind fun y ρ => .of (zipD x y) ρ := rfl
theorem eE_comp (elt src cond : E) (tg : Tg) (own : List Nat) : evE Φ (.comp elt tg src cond own) ρ = (evE Φ src ρ).bind fun x ρ => match itemsD x, ownOk own ρ with
    | some ds, true => (compGo (turnC own tg (evE Φ cond) (evE Φ elt)) ds ρ).bind fun ys ρ5 => .ok (.list ys) (giveS own ρ ρ5)
    | _, _ => .bad := rfl
theorem eE_lrng (a : E) : evE Φ (.lrng a) ρ = (evE Φ a ρ).bind fun x ρ => match x with | .list ds => .ok (.list ds) ρ | _ => .bad := rfl
theorem eE_trng (a : E) : evE Φ (.trng a) ρ = (evE Φ a ρ).bind fun x ρ => match x with | .list ds => .ok (.tuple ds) ρ | _ => .bad := rfl
theorem eE_edic : evE Φ .edic ρ = .ok (.dict []) ρ := rfl
theorem eE_dic1 (a b : E) : evE Φ (.dic1 a b) ρ = (evE Φ a ρ).bind fun x ρ => (evE Φ b ρ).bind fun y ρ => match x with
    | .int i => .ok (.dict [(.int i, y)]) ρ
    | .str i => .ok (.dict [(.str i, y)]) ρ
    | _ => .bad := rfl
theorem eE_lenM (i : Nat) : evE Φ (.lenM i) ρ = match mutS (getS ρ i) with | some ds => .ok (.int ds.length) ρ | none => .bad := rfl
theorem eE_ixM (i : Nat) (e : E) : evE Φ (.ixM i e) ρ = if (mutS (getS ρ i)).isSome then (evE Φ e ρ).bind fun x ρ => match mutS (getS ρ i), x with
    | some ds, .int k => .of (ixAt ds k) ρ
    | _, _ => .bad
    else .bad := rfl
theorem eE_nilM (i : Nat) : evE Φ (.nilM i) ρ = match mutS (getS ρ i) with | some ds => .ok (.bool ds.isEmpty) ρ | none => .bad := rfl
theorem eE_popM (i : Nat) (e : E) : evE Φ (.popM i e) ρ = if (mutS (getS ρ i)).isSome then (evE Φ e ρ).bind fun x ρ => match mutS (getS ρ i), x with
    | some ds, .int k => (match ds[k.toNat]? with
      | some d => if 0 ≤ k ∧ k < 2 ^ 63 then .ok d (ρ.set i (remut (getS ρ i) (ds.eraseIdx k.toNat))) else .bad
      | none => .bad)
    | _, _ => .bad
    else .bad := rfl
theorem eS_skip : evS Φ .skip ρ = .nx ρ := rfl
theorem eS_seq (a b : S) : evS Φ (.seq a b) ρ = (evS Φ a ρ).thn (evS Φ b) := by
  show (match evS Φ a ρ with | .nx ρ' => evS Φ b ρ' | o => o) = _
  cases evS Φ a ρ <;> rfl
theorem eS_asg (i : Nat) (e : E) : evS Φ (.asg i e) ρ = (evE Φ e ρ).out fun d ρ => O.of (putS ρ i (.val d)) := rfl
theorem eS_asgM (i : Nat) (e : E) : evS Φ (.asgM i e) ρ = (evE Φ e ρ).out fun d ρ => match d with | .list ds => O.of (putS ρ i (.mu ds)) | _ => .bad := rfl
theorem eS_asgs (is : List Nat) (e : E) : evS Φ (.asgs is e) ρ = (evE Φ e ρ).out fun d ρ => O.of (asgT (.many is) d ρ) := rfl
theorem eS_two (i j : Nat) (a b : E) : evS Φ (.two i j a b) ρ = (evE Φ a ρ).out fun x ρ => (evE Φ b ρ).out fun y ρ => O.of ((putS ρ i (.val x)).bind fun ρ => putS ρ j (.val y)) := rfl
theorem eS_app (i : Nat) (e : E) : evS Φ (.app i e) ρ = if (mutS (getS ρ i)).isSome then (evE Φ e ρ).out fun d ρ => match mutS (getS ρ i) with
    | some ds => if ds.length < SL then .nx (ρ.set i (remut (getS ρ i) (ds ++ [d]))) else .bad
    | none => .bad
    else .bad := rfl
theorem eS_setM (i : Nat) (a e : E) : evS Φ (.setM i a e) ρ = (evE Φ e ρ).out fun d ρ => if (mutS (getS ρ i)).isSome then (evE Φ a ρ).out fun k ρ => match mutS (getS ρ i), k with
    | some ds, .int k => (match setAt ds k d with
      | some ds' => .nx (ρ.set i (remut (getS ρ i) ds'))
      | none => .bad)
    | _, _ => .bad
    else .bad := rfl
theorem eS_aug (i : Nat) (o : Op2) (e : E) : evS Φ (.aug i o e) ρ = match getS ρ i with
    | .val (.int x) => (evE Φ e ρ).out fun y ρ => match bin o (.int x) y with
      | some z => O.of (putS ρ i (.val z))
      | none => .bad
    | _ => .bad := rfl
theorem eS_ret (e : E) : evS Φ (.ret e) ρ = (evE Φ e ρ).out fun d ρ => .ret false d ρ := rfl
theorem eS_retM (i : Nat) : evS Φ (.retM i) ρ = match getS ρ i with
    | .mu ds => .ret true (.list ds) ρ
    | _ => .bad := rfl
theorem eS_ite (c : E) (a b : S) : evS Φ (.ite c a b) ρ = (evE Φ c ρ).out fun x ρ => match x with | .bool true => evS Φ a ρ | .bool false => evS Φ b ρ | _ => .bad := rfl
theorem eS_drop (e : E) : evS Φ (.drop e) ρ = (evE Φ e ρ).out fun _ ρ => .nx ρ := rfl
theorem eS_brk : evS Φ .brk ρ = .brk ρ := rfl
theorem eS_cnt : evS Φ .cnt ρ = .cnt ρ := rfl
theorem eS_for (tg : Tg) (src : E) (b : S) : evS Φ (.for_ tg src b) ρ = (evE Φ src ρ).out fun x ρ => match itemsD x with
    | some ds => forGo (forF Φ tg b) ds ρ
    | none => .bad := rfl
theorem eS_while (c : E) (b : S) : evS Φ (.while_ c b) ρ = whileD (evE Φ c) (evS Φ b) ρ := rfl
end
/-! ### loops -/
theorem forGo_inv {f : PyData → Env → O} {ds : List PyData} (I : Nat → Env → Prop) : ∀ {ρ : Env}, I 0 ρ → (∀ i d ρ, ds[i]? = some d → I i ρ → ∃ ρ', (f d ρ = .nx ρ' ∨ f d ρ = .cnt ρ') ∧ I (i + 1) ρ') → ∃ ρ', forGo f ds ρ = .nx ρ' ∧ I ds.length ρ' := by
  induction ds generalizing I with
  | nil => intro ρ h _; exact ⟨ρ, rfl, h⟩
  | cons d ds ih =>
    intro ρ h0 hs
    obtain ⟨ρ1, e, h1⟩ := hs 0 d ρ rfl h0
    obtain ⟨ρ2, e2, h2⟩ := ih (fun i => I (i + 1)) h1 fun i d ρ hd hi => hs (i + 1) d ρ hd hi
    refine ⟨ρ2, ?_, h2⟩
    rw [forGo]
    rcases e with e | e <;> (rw [e]; exact e2)
/-- .. that may end early with o -/
theorem forGo_inv' {f : PyData → Env → O} {ds : List PyData} (P : O → Prop) (I : Nat → Env → Prop) : ∀ {ρ : Env}, I 0 ρ → (∀ i d ρ, ds[i]? = some d → I i ρ → (∃ ρ', (f d ρ = .nx ρ' ∨ f d ρ = .cnt ρ') ∧ I (i + 1) ρ') ∨ (∃ ρ', f d ρ = .brk ρ' ∧ P (.nx ρ')) ∨ (∃ o d' ρ', f d ρ = .ret o d' ρ' ∧ P (.ret o d' ρ')) ∨ (∃ x ρ', f d ρ = .exc x ρ' ∧ P (.exc x ρ'))) →
    (∀ ρ, I ds.length ρ → P (.nx ρ)) → P (forGo f ds ρ) := by
  induction ds generalizing I with
  | nil => intro ρ h _ hd; exact hd ρ h
  | cons d ds ih =>
    intro ρ h0 hs hd
    rw [forGo]
    rcases hs 0 d ρ rfl h0 with ⟨ρ1, e, h1⟩ | ⟨ρ1, e, h1⟩ | ⟨o, d', ρ1, e, h1⟩ | ⟨x, ρ1, e, h1⟩
    · have r := ih (fun i => I (i + 1)) h1 (fun i d ρ hd hi => hs (i + 1) d ρ hd hi) hd
      rcases e with e | e <;> (rw [e]; exact r)
    · rw [e]; exact h1
    · rw [e]; exact h1
    · rw [e]; exact h1
theorem whileN_det {c : Env → R PyData} {f : Env → O} : ∀ {m n : Nat} {ρ : Env} {o o' : O}, whileN c f m ρ = some o → whileN c f n ρ = some o' → o = o' := fun {m} => by
  induction m with
  | zero => intro n ρ o o' h; cases h
  | succ m ih =>
    intro n ρ o o' h g
    cases n with
    | zero => cases g
    | succ n =>
      rw [whileN] at h g
      cases q : c ρ with
      | bad => rw [q] at h g; cases h; cases g; rfl
      | exc x ρ1 => rw [q] at h g; cases h; cases g; rfl
      | ok d ρ1 =>
        rw [q] at h g
        cases d with
        | bool b =>
          cases b with
          | false => cases h; cases g; rfl
          | true =>
            dsimp only at h g
            cases q2 : f ρ1 with
            | nx ρ' => rw [q2] at h g; exact ih h g
            | cnt ρ' => rw [q2] at h g; exact ih h g
            | brk ρ' => rw [q2] at h g; cases h; cases g; rfl
            | ret a b ρ' => rw [q2] at h g; cases h; cases g; rfl
            | exc a ρ' => rw [q2] at h g; cases h; cases g; rfl
            | bad => rw [q2] at h g; cases h; cases g; rfl
        | _ => cases h; cases g; rfl
theorem whileD_of {c : Env → R PyData} {f : Env → O} {ρ : Env} {n : Nat} {o : O} (h : whileN c f n ρ = some o) : whileD c f ρ = o := by
  have hx : ∃ n o, whileN c f n ρ = some o := ⟨n, o, h⟩
  unfold whileD
  rw [dif_pos hx]
  exact whileN_det hx.choose_spec.choose_spec h
theorem whileD_stop {c : Env → R PyData} {f : Env → O} {ρ ρ1 : Env} (h : c ρ = .ok (.bool false) ρ1) : whileD c f ρ = .nx ρ1 := whileD_of (n := 1) (by rw [whileN, h])
/-- a while, by a measure and a word -/
theorem whileN_inv {c : Env → R PyData} {f : Env → O} (P : O → Prop) (I : Nat → Env → Prop) (hs : ∀ m ρ, I m ρ → (∃ ρ1, c ρ = .ok (.bool false) ρ1 ∧ P (.nx ρ1)) ∨ (∃ ρ1, c ρ = .ok (.bool true) ρ1 ∧
    ((∃ ρ' m', (f ρ1 = .nx ρ' ∨ f ρ1 = .cnt ρ') ∧ m' < m ∧ I m' ρ') ∨ (∃ ρ', f ρ1 = .brk ρ' ∧ P (.nx ρ')) ∨ (∃ o d ρ', f ρ1 = .ret o d ρ' ∧ P (.ret o d ρ'))))) :
    ∀ m ρ, I m ρ → ∃ n o, whileN c f n ρ = some o ∧ P o := fun m => by
  induction m using Nat.strongRecOn with
  | ind m ih =>
    intro ρ h
    rcases hs m ρ h with ⟨ρ1, e, p⟩ | ⟨ρ1, e, q⟩
    · exact ⟨1, _, by rw [whileN, e], p⟩
    · rcases q with ⟨ρ', m', e2, l, i⟩ | ⟨ρ', e2, p⟩ | ⟨o, d, ρ', e2, p⟩
      · obtain ⟨n, o, e3, p⟩ := ih m' l ρ' i
        refine ⟨n + 1, o, ?_, p⟩
        rw [whileN, e]
        dsimp only
        rcases e2 with e2 | e2 <;> (rw [e2]; exact e3)
      · exact ⟨1, _, by rw [whileN, e]; dsimp only; rw [e2], p⟩
      · exact ⟨1, _, by rw [whileN, e]; dsimp only; rw [e2], p⟩
theorem whileD_inv {c : Env → R PyData} {f : Env → O} (P : O → Prop) (I : Nat → Env → Prop) (hs : ∀ m ρ, I m ρ → (∃ ρ1, c ρ = .ok (.bool false) ρ1 ∧ P (.nx ρ1)) ∨ (∃ ρ1, c ρ = .ok (.bool true) ρ1 ∧
    ((∃ ρ' m', (f ρ1 = .nx ρ' ∨ f ρ1 = .cnt ρ') ∧ m' < m ∧ I m' ρ') ∨ (∃ ρ', f ρ1 = .brk ρ' ∧ P (.nx ρ')) ∨ (∃ o d ρ', f ρ1 = .ret o d ρ' ∧ P (.ret o d ρ'))))) (m : Nat) (ρ : Env) (h : I m ρ) : P (whileD c f ρ) := by
  obtain ⟨n, o, e, p⟩ := whileN_inv P I hs m ρ h
  rw [whileD_of e]
  exact p
/-! ### comprehensions -/
/-- each turn gives g d and leaves the names as they were but for its own -/
theorem compGo_map {f : PyData → Env → R (Option PyData)} {g : PyData → Option PyData} (I : Env → Prop) : ∀ {ds : List PyData} {ρ : Env}, I ρ → (∀ d ∈ ds, ∀ ρ, I ρ → ∃ ρ', f d ρ = .ok (g d) ρ' ∧ I ρ') → ∃ ρ', compGo f ds ρ = .ok (ds.filterMap g) ρ' ∧ I ρ'
  | [], ρ, h, _ => ⟨ρ, rfl, h⟩
  | d :: ds, ρ, h, hs => by
    obtain ⟨ρ1, e1, h1⟩ := hs d List.mem_cons_self ρ h
    obtain ⟨ρ2, e2, h2⟩ := compGo_map (g := g) I h1 fun d hd => hs d (List.mem_cons_of_mem _ hd)
    refine ⟨ρ2, ?_, h2⟩
    rw [compGo, e1]
    dsimp only
    rw [e2, List.filterMap_cons]
    cases g d <;> rfl
/-! ### draws -/
def nx : List Int → Int
  | [] => 0
  | d :: _ => d
def tl : List Int → List Int
  | [] => []
  | _ :: r => r
def Draws (ds : List Int) : Prop := ∀ d ∈ ds, 0 ≤ d ∧ d < 2147483629
theorem Draws.tl {ds : List Int} (h : Draws ds) : Draws (HM.tl ds) := by
  cases ds with
  | nil => exact h
  | cons d r => exact fun x hx => h x (List.mem_cons_of_mem _ hx)
theorem Draws.nx {ds : List Int} (h : Draws ds) : 0 ≤ HM.nx ds ∧ HM.nx ds < 2147483629 := by
  cases ds with
  | nil => exact ⟨Int.le_refl _, by decide⟩
  | cons d r => exact h d List.mem_cons_self
def mixedI (c k : Int) : Int := ((c % 2147483647 * 48271 + 7919 * k * k + 104729) % 2147483647) * ((c % 2147483647 * 48271 + 7919 * k * k + 104729) % 2147483647) % 2147483629
theorem mixedI_b (c k : Int) : 0 ≤ mixedI c k ∧ mixedI c k < 2147483629 := ⟨Int.emod_nonneg _ (by decide), Int.emod_lt_of_pos _ (by decide)⟩
end HM

namespace HM
open PySem
/-! AI1: linear forms over numbers that are not known, and their bounds -/
inductive Lin where
  | c (k : Int) | t (g : Nat) (k : Int) (r : Lin)
def Lin.ev (s : List Int) : Lin → Option Int
  | .c k => some k
  | .t g k r => match s[g]? with
    | some x => (match r.ev s with
      | some y => some (k * x + y)
      | none => none)
    | none => none
def Lin.beq : Lin → Lin → Bool
  | .c a, .c b => decide (a = b)
  | .t g k r, .t h l q => decide (g = h) && (decide (k = l) && r.beq q)
  | _, _ => false
def Lin.addC (m : Int) : Lin → Lin
  | .c k => .c (k + m)
  | .t g k r => .t g k (r.addC m)
def Lin.ins (g : Nat) (k : Int) : Lin → Lin
  | .c m => if k = 0 then .c m else .t g k (.c m)
  | .t h l r => if g = h then (if k + l = 0 then r else .t g (k + l) r) else if g < h then .t g k (.t h l r) else .t h l (r.ins g k)
def Lin.add : Lin → Lin → Lin
  | .c k, b => b.addC k
  | .t g k r, b => (r.add b).ins g k
def Lin.mulC (m : Int) : Lin → Lin
  | .c k => .c (m * k)
  | .t g k r => .t g (m * k) (r.mulC m)
def Lin.smul (m : Int) (l : Lin) : Lin := if m = 0 then .c 0 else l.mulC m
def Lin.sub (a b : Lin) : Lin := a.add (b.mulC (-1))
abbrev Gs := List (Int × Int)
def Sat : List Int → Gs → Prop
  | [], [] => True
  | x :: xs, p :: r => (p.1 ≤ x ∧ x ≤ p.2) ∧ Sat xs r
  | _, _ => False
def Lin.rg (gs : Gs) : Lin → Option (Int × Int)
  | .c k => some (k, k)
  | .t g k r => match gs[g]? with
    | some p => (match r.rg gs with
      | some q => some (if 0 ≤ k then (k * p.1 + q.1, k * p.2 + q.2) else (k * p.2 + q.1, k * p.1 + q.2))
      | none => none)
    | none => none
def Lin.asC : Lin → Option Int
  | .c k => some k
  | _ => none
/-- for sure a ≤ b -/
def leL (gs : Gs) (a b : Lin) : Bool := match (b.sub a).rg gs with
  | some p => decide (0 ≤ p.1)
  | none => false
/-- with the first n unknowns alone -/
def Lin.clip (n : Nat) (gs : Gs) (up : Bool) : Lin → Option Lin
  | .c k => some (.c k)
  | .t g k r => match r.clip n gs up with
    | some q => if g < n then some (.t g k q) else (match gs[g]? with
      | some p => some (q.addC (k * (if up = decide (0 ≤ k) then p.2 else p.1)))
      | none => none)
    | none => none
/-- L in the place of unknown n -/
def putL (n : Nat) (L : Lin) : Lin → Option Lin
  | .c k => some (.c k)
  | .t g k r => match putL n L r with
    | some q => if g < n then some (q.ins g k) else if g = n then some ((L.smul k).add q) else none
    | none => none

section
variable {s u : List Int} {gs : Gs}
theorem ev_t {g : Nat} {k : Int} {r : Lin} {z : Int} (h : (Lin.t g k r).ev s = some z) : ∃ x y, s[g]? = some x ∧ r.ev s = some y ∧ z = k * x + y := by
  unfold Lin.ev at h
  split at h
  · split at h
    · cases h; exact ⟨_, _, ‹_›, ‹_›, rfl⟩
    · cases h
  · cases h
theorem ev_t_of {g : Nat} {k x y : Int} {r : Lin} (h1 : s[g]? = some x) (h2 : r.ev s = some y) : (Lin.t g k r).ev s = some (k * x + y) := by
  unfold Lin.ev
  rw [h1, h2]
theorem Lin.beq_eq : ∀ {a b : Lin}, a.beq b = true → a = b
  | .c a, .c b, h => by rw [of_decide_eq_true h]
  | .t g k r, .t h l q, e => by
    unfold Lin.beq at e
    rw [Bool.and_eq_true, Bool.and_eq_true] at e
    rw [of_decide_eq_true e.1, of_decide_eq_true e.2.1, Lin.beq_eq e.2.2]
  | .c _, .t .., h => by cases h
  | .t .., .c _, h => by cases h
theorem ev_addC (m : Int) : ∀ {a : Lin} {x : Int}, a.ev s = some x → (a.addC m).ev s = some (x + m)
  | .c k, x, h => by cases h; rfl
  | .t g k r, x, h => by
    obtain ⟨y, z, h1, h2, rfl⟩ := ev_t h
    rw [Int.add_assoc]
    exact ev_t_of h1 (ev_addC m h2)
theorem ev_ins {g : Nat} {k x : Int} (hg : s[g]? = some x) : ∀ {a : Lin} {y : Int}, a.ev s = some y → (a.ins g k).ev s = some (k * x + y)
  | .c m, y, h => by
    cases h
    unfold Lin.ins
    split
    · rename_i e; rw [e, Int.zero_mul, Int.zero_add]; rfl
    · exact ev_t_of hg rfl
  | .t h l r, y, e => by
    obtain ⟨p, q, h1, h2, rfl⟩ := ev_t e
    unfold Lin.ins
    split
    · rename_i e; subst e
      rw [hg] at h1; cases h1
      split
      · rename_i e
        have : k * x + (l * x + q) = q := by rw [← Int.add_assoc, ← Int.add_mul, e, Int.zero_mul, Int.zero_add]
        rw [this]; exact h2
      · rw [← Int.add_assoc, ← Int.add_mul]; exact ev_t_of hg h2
    · split
      · exact ev_t_of hg e
      · have := ev_t_of (k := l) h1 (ev_ins (k := k) hg h2)
        rw [this]; congr 1; omega
theorem ev_add : ∀ {a b : Lin} {x y : Int}, a.ev s = some x → b.ev s = some y → (a.add b).ev s = some (x + y)
  | .c k, b, x, y, h, g => by
    cases h
    have := ev_addC k g
    rw [Int.add_comm] at this
    exact this
  | .t i k r, b, x, y, h, g => by
    obtain ⟨p, q, h1, h2, rfl⟩ := ev_t h
    rw [Int.add_assoc]
    exact ev_ins h1 (ev_add h2 g)
theorem ev_mulC (m : Int) : ∀ {a : Lin} {x : Int}, a.ev s = some x → (a.mulC m).ev s = some (m * x)
  | .c k, x, h => by cases h; rfl
  | .t g k r, x, h => by
    obtain ⟨y, z, h1, h2, rfl⟩ := ev_t h
    rw [Int.mul_add, ← Int.mul_assoc]
    exact ev_t_of h1 (ev_mulC m h2)
theorem ev_smul (m : Int) {a : Lin} {x : Int} (h : a.ev s = some x) : (a.smul m).ev s = some (m * x) := by
  unfold Lin.smul
  split
  · rename_i e; rw [e, Int.zero_mul]; rfl
  · exact ev_mulC m h
theorem ev_sub {a b : Lin} {x y : Int} (h : a.ev s = some x) (g : b.ev s = some y) : (a.sub b).ev s = some (x - y) := by
  have := ev_add h (ev_mulC (-1) g)
  have e : x + -1 * y = x - y := by omega
  rw [e] at this
  exact this
theorem Sat.len : ∀ {s : List Int} {gs : Gs}, Sat s gs → s.length = gs.length
  | [], [], _ => rfl
  | _ :: _, _ :: _, h => by rw [List.length_cons, List.length_cons, Sat.len h.2]
  | [], _ :: _, h => by cases h
  | _ :: _, [], h => by cases h
theorem Sat.get : ∀ {s : List Int} {gs : Gs} {g : Nat} {p : Int × Int}, Sat s gs → gs[g]? = some p → ∃ x, s[g]? = some x ∧ p.1 ≤ x ∧ x ≤ p.2
  | [], [], g, p, _, e => by simp at e
  | x :: _, _ :: _, 0, p, h, e => by simp at e; subst e; exact ⟨x, rfl, h.1⟩
  | _ :: _, _ :: _, g + 1, p, h, e => by
    obtain ⟨y, h1, h2⟩ := Sat.get (g := g) h.2 (by simpa using e)
    exact ⟨y, by simpa using h1, h2⟩
  | [], _ :: _, _, _, h, _ => by cases h
  | _ :: _, [], _, _, h, _ => by cases h
theorem Sat.app : ∀ {s t : List Int} {gs hs : Gs}, Sat s gs → Sat t hs → Sat (s ++ t) (gs ++ hs)
  | [], _, [], _, _, h => h
  | _ :: _, _, _ :: _, _, g, h => ⟨g.1, Sat.app g.2 h⟩
  | [], _, _ :: _, _, h, _ => by cases h
  | _ :: _, _, [], _, h, _ => by cases h
theorem Sat.one {x a b : Int} (h : a ≤ x) (g : x ≤ b) : Sat [x] [(a, b)] := ⟨⟨h, g⟩, trivial⟩
theorem Sat.pre : ∀ {s t : List Int} {gs hs : Gs}, Sat (s ++ t) hs → Sat s gs → Sat s (hs.take gs.length)
  | [], _, [], _, _, _ => by rw [List.length_nil, List.take_zero]; trivial
  | _ :: _, _, _ :: _, _ :: _, h, g => ⟨h.1, Sat.pre h.2 g.2⟩
  | _ :: _, _, _ :: _, [], h, _ => by cases h
  | [], _, _ :: _, _, _, h => by cases h
  | _ :: _, _, [], _, _, h => by cases h
theorem rg_ok (h : Sat s gs) : ∀ {a : Lin} {p : Int × Int}, a.rg gs = some p → ∃ x, a.ev s = some x ∧ p.1 ≤ x ∧ x ≤ p.2
  | .c k, p, e => by cases e; exact ⟨k, rfl, Int.le_refl _, Int.le_refl _⟩
  | .t g k r, p, e => by
    unfold Lin.rg at e
    split at e
    · rename_i p' hp
      split at e
      · rename_i q hq
        cases e
        obtain ⟨x, h1, h2, h3⟩ := h.get hp
        obtain ⟨y, g1, g2, g3⟩ := rg_ok h hq
        refine ⟨_, ev_t_of h1 g1, ?_⟩
        split
        · rename_i hk
          exact ⟨Int.add_le_add (Int.mul_le_mul_of_nonneg_left h2 hk) g2, Int.add_le_add (Int.mul_le_mul_of_nonneg_left h3 hk) g3⟩
        · rename_i hk
          have hk' : k ≤ 0 := by omega
          exact ⟨Int.add_le_add (Int.mul_le_mul_of_nonpos_left hk' h3) g2, Int.add_le_add (Int.mul_le_mul_of_nonpos_left hk' h2) g3⟩
      · cases e
    · cases e
theorem rg_ev (h : Sat s gs) {a : Lin} {p : Int × Int} {x : Int} (e : a.rg gs = some p) (q : a.ev s = some x) : p.1 ≤ x ∧ x ≤ p.2 := by
  obtain ⟨y, h1, h2⟩ := rg_ok h e
  rw [q] at h1; cases h1; exact h2
theorem leL_ok (h : Sat s gs) {a b : Lin} {x y : Int} (e : leL gs a b = true) (ha : a.ev s = some x) (hb : b.ev s = some y) : x ≤ y := by
  unfold leL at e
  split at e
  · rename_i p hp
    have := of_decide_eq_true e
    have := (rg_ev h hp (ev_sub hb ha)).1
    omega
  · cases e
theorem ev_mono {t : List Int} : ∀ {a : Lin} {x : Int}, a.ev s = some x → a.ev (s ++ t) = some x
  | .c k, x, h => h
  | .t g k r, x, h => by
    obtain ⟨y, z, h1, h2, rfl⟩ := ev_t h
    refine ev_t_of ?_ (ev_mono h2)
    obtain ⟨l, e⟩ := List.getElem?_eq_some_iff.mp h1
    rw [List.getElem?_append_left l]; exact h1
theorem clip_ok {t : List Int} {n : Nat} {up : Bool} (hn : s.length = n) (h : Sat (s ++ t) gs) : ∀ {a b : Lin} {x : Int}, a.ev (s ++ t) = some x → a.clip n gs up = some b → ∃ y, b.ev s = some y ∧ if up then x ≤ y else y ≤ x
  | .c k, b, x, e, c => by
    cases e; cases c
    exact ⟨k, rfl, by split <;> exact Int.le_refl _⟩
  | .t g k r, b, x, e, c => by
    obtain ⟨v, w, h1, h2, rfl⟩ := ev_t e
    unfold Lin.clip at c
    split at c
    · rename_i q hq
      obtain ⟨y, g1, g2⟩ := clip_ok hn h h2 hq
      split at c
      · rename_i hg
        cases c
        rw [List.getElem?_append_left (by omega)] at h1
        refine ⟨_, ev_t_of h1 g1, ?_⟩
        split at g2 <;> rename_i hu <;> simp only [hu, if_true, if_false, Bool.false_eq_true] <;> omega
      · split at c
        · rename_i p hp
          cases c
          obtain ⟨v', i1, i2, i3⟩ := h.get hp
          rw [h1] at i1; cases i1
          refine ⟨_, ev_addC _ g1, ?_⟩
          cases up
          · simp only [Bool.false_eq_true, if_false] at g2 ⊢
            by_cases hk : 0 ≤ k
            · rw [if_neg (by simp [hk])]
              have := Int.mul_le_mul_of_nonneg_left i2 hk
              omega
            · rw [if_pos (by simp [hk])]
              have := Int.mul_le_mul_of_nonpos_left (show k ≤ 0 by omega) i3
              omega
          · simp only [if_true] at g2 ⊢
            by_cases hk : 0 ≤ k
            · rw [if_pos (by simp [hk])]
              have := Int.mul_le_mul_of_nonneg_left i3 hk
              omega
            · rw [if_neg (by simp [hk])]
              have := Int.mul_le_mul_of_nonpos_left (show k ≤ 0 by omega) i2
              omega
        · cases c
    · cases c
theorem put_ok {n : Nat} {L : Lin} {y : Int} {v : List Int} (hL : L.ev (u ++ v) = some y) (hn : u.length = n) : ∀ {a b : Lin} {x : Int}, a.ev (u ++ [y]) = some x → putL n L a = some b → b.ev (u ++ v) = some x
  | .c k, b, x, e, c => by cases e; cases c; rfl
  | .t g k r, b, x, e, c => by
    obtain ⟨p, w, h1, h2, rfl⟩ := ev_t e
    unfold putL at c
    split at c
    · rename_i q hq
      have i := put_ok hL hn h2 hq
      split at c
      · rename_i hg
        cases c
        rw [List.getElem?_append_left (by omega)] at h1
        refine ev_ins ?_ i
        rw [List.getElem?_append_left (by omega)]; exact h1
      · split at c
        · rename_i hg
          cases c
          subst hg
          subst hn
          rw [List.getElem?_append_right (Nat.le_refl _), Nat.sub_self, List.getElem?_cons_zero] at h1
          cases h1
          exact ev_add (ev_smul k hL) i
        · cases c
    · cases c
end
end HM

namespace HM
open PySem
/-! AI2: shapes of data -/
def flatOk (b : Nat) : PyData → Bool
  | .none | .bool _ => true
  | .int i => decide (i.natAbs < 2 ^ b)
  | .str x => PyData.strOk x
  | _ => false
/-- anything within bounds: numbers of b bits, lists of l things, k deep; q: no dict -/
def datOk (q : Bool) (b l : Nat) : Nat → PyData → Bool
  | k + 1, .list xs => decide (xs.length ≤ l) && xs.all (datOk q b l k)
  | k + 1, .tuple xs => decide (xs.length ≤ l) && xs.all (datOk q b l k)
  | k + 1, .dict es => !q && (decide (es.length ≤ l) && es.all fun p => datOk q b l k p.1 && datOk q b l k p.2)
  | _, d => flatOk b d
inductive Sh where
  | any | bot | dat (q : Bool) (b l k : Nat)
  | non | bol | tt (b : Bool) | int (lo hi : Option Lin) | str (o : Option Str)
  | nil | cons (a b : Sh) | row (e : Sh) (lo hi : Lin) | lst (t : Sh) | opt (a : Sh)
def LoB (s : List Int) : Option Lin → Int → Prop
  | none, _ => True
  | some l, z => ∃ x, l.ev s = some x ∧ x ≤ z
def HiB (s : List Int) : Option Lin → Int → Prop
  | none, _ => True
  | some l, z => ∃ x, l.ev s = some x ∧ z ≤ x
def Has (s : List Int) : Sh → PyData → Prop
  | .any, _ => True
  | .bot, _ => False
  | .dat q b l k, d => datOk q b l k d = true
  | .non, d => d = .none
  | .bol, d => ∃ b, d = .bool b
  | .tt b, d => d = .bool b
  | .int lo hi, d => ∃ z, d = .int z ∧ LoB s lo z ∧ HiB s hi z
  | .str none, d => ∃ x, d = .str x ∧ PyData.strOk x = true
  | .str (some x), d => d = .str x
  | .nil, d => d = .tuple []
  | .cons a b, d => ∃ x r, d = .tuple (x :: r) ∧ Has s a x ∧ Has s b (.tuple r)
  | .row e lo hi, d => ∃ ds, d = .tuple ds ∧ (∀ x ∈ ds, Has s e x) ∧ LoB s (some lo) (ds.length : Int) ∧ HiB s (some hi) (ds.length : Int)
  | .lst t, d => ∃ ds, d = .list ds ∧ Has s t (.tuple ds)
  | .opt a, d => d = .none ∨ Has s a d
def oLinEq : Option Lin → Option Lin → Bool
  | none, none => true
  | some a, some b => a.beq b
  | _, _ => false
def Sh.beq : Sh → Sh → Bool
  | .any, .any => true
  | .bot, .bot => true
  | .dat q b l k, .dat q' b' l' k' => decide (q = q') && (decide (b = b') && (decide (l = l') && decide (k = k')))
  | .non, .non => true
  | .bol, .bol => true
  | .tt b, .tt c => decide (b = c)
  | .int l h, .int l' h' => oLinEq l l' && oLinEq h h'
  | .str none, .str none => true
  | .str (some x), .str (some y) => decide (x = y)
  | .nil, .nil => true
  | .cons a b, .cons c d => a.beq c && b.beq d
  | .row e l h, .row e' l' h' => l.beq l' && (h.beq h' && e.beq e')
  | .lst s, .lst t => s.beq t
  | .opt s, .opt t => s.beq t
  | _, _ => false
/-- bounds otherwise -/
def Sh.mapL (f : Bool → Lin → Option Lin) : Sh → Sh
  | .int lo hi => .int (lo.bind (f false)) (hi.bind (f true))
  | .cons a b => .cons (a.mapL f) (b.mapL f)
  | .row e lo hi => match f true hi with
    | some h => .row (e.mapL f) ((f false lo).getD (.c 0)) h
    | none => .any
  | .lst t => .lst (t.mapL f)
  | .opt a => .opt (a.mapL f)
  | x => x
def nlo (gs : Gs) (l : Lin) : Option Int := (l.rg gs).map (·.1)
def nhi (gs : Gs) (l : Lin) : Option Int := (l.rg gs).map (·.2)
def onlo (gs : Gs) (o : Option Lin) : Option Int := o.bind (nlo gs)
def onhi (gs : Gs) (o : Option Lin) : Option Int := o.bind (nhi gs)
def bitsOf (n : Nat) : Nat := n.log2 + 1
structure DatB where
  q : Bool
  b : Nat
  l : Nat
  k : Nat
def toDat (gs : Gs) : Sh → Option DatB
  | .dat q b l k => some ⟨q, b, l, k⟩
  | .bot | .non | .bol | .tt _ => some ⟨true, 0, 0, 0⟩
  | .int lo hi => match onlo gs lo, onhi gs hi with
    | some a, some b => some ⟨true, bitsOf (max a.natAbs b.natAbs), 0, 0⟩
    | _, _ => none
  | .str none => some ⟨true, 0, 0, 0⟩
  | .str (some x) => if PyData.strOk x then some ⟨true, 0, 0, 0⟩ else none
  | .nil => some ⟨true, 0, 0, 1⟩
  | .cons a r => match toDat gs a, toDat gs r with
    | some x, some y => some ⟨x.q && y.q, max x.b y.b, max x.l (y.l + 1), max (x.k + 1) (max 1 y.k)⟩
    | _, _ => none
  | .row e _ hi => match toDat gs e, nhi gs hi with
    | some x, some h => some ⟨x.q, x.b, max x.l h.toNat, x.k + 1⟩
    | _, _ => none
  | .lst t => (toDat gs t).map fun x => ⟨x.q, x.b, x.l, max 1 x.k⟩
  | .opt a => toDat gs a
  | .any => none
def DatB.le (x y : DatB) : Bool := (!y.q || x.q) && (decide (x.b ≤ y.b) && (decide (x.l ≤ y.l) && decide (x.k ≤ y.k)))
def DatB.join (x y : DatB) : DatB := ⟨x.q && y.q, max x.b y.b, max x.l y.l, max x.k y.k⟩
def loLe (gs : Gs) : Option Lin → Option Lin → Bool
  | none, _ => true
  | some a, some b => (a.rg gs).isSome && leL gs a b
  | some _, none => false
def hiLe (gs : Gs) : Option Lin → Option Lin → Bool
  | _, none => true
  | some a, some b => (b.rg gs).isSome && leL gs a b
  | none, some _ => false
/-- for sure a is within b -/
def leSh (gs : Gs) : Nat → Sh → Sh → Bool
  | 0, _, _ => false
  | n + 1, a, b => match a, b with
    | _, .any => true
    | .bot, _ => true
    | .tt x, .tt y => decide (x = y)
    | .tt _, .bol => true
    | .bol, .bol => true
    | .int l h, .int l' h' => loLe gs l' l && hiLe gs h h'
    | .str none, .str none => true
    | .str (some x), .str none => PyData.strOk x
    | .str (some x), .str (some y) => decide (x = y)
    | .nil, .nil => true
    | .cons x r, .cons y t => leSh gs n x y && leSh gs n r t
    | .nil, .row _ lo hi => loLe gs (some lo) (some (.c 0)) && hiLe gs (some (.c 0)) (some hi)
    | .cons x r, .row e lo hi => leSh gs n x e && leSh gs n r (.row e (lo.addC (-1)) (hi.addC (-1)))
    | .row e lo hi, .row e' lo' hi' => leSh gs n e e' && (loLe gs (some lo') (some lo) && hiLe gs (some hi) (some hi'))
    | .lst s, .lst t => leSh gs n s t
    | .non, .non => true
    | .non, .opt _ => true
    | .opt x, .opt y => leSh gs n x y
    | x, .opt y => leSh gs n x y
    | x, .dat q b l k => (match toDat gs x with
      | some d => d.le ⟨q, b, l, k⟩
      | none => false)
    | _, _ => false
def sizeSh : Sh → Option Nat
  | .nil => some 0
  | .cons _ r => (sizeSh r).map (· + 1)
  | _ => none
def isSeq : Sh → Bool
  | .nil => true
  | .cons _ r => isSeq r
  | .row .. => true
  | _ => false
/-- the lesser one -/
def minL (gs : Gs) (a b : Lin) : Option Lin := if !((a.rg gs).isSome && (b.rg gs).isSome) then none else if leL gs a b then some a else if leL gs b a then some b else match nlo gs a, nlo gs b with
  | some x, some y => some (.c (if x ≤ y then x else y))
  | _, _ => none
def maxL (gs : Gs) (a b : Lin) : Option Lin := if !((a.rg gs).isSome && (b.rg gs).isSome) then none else if leL gs a b then some b else if leL gs b a then some a else match nhi gs a, nhi gs b with
  | some x, some y => some (.c (if x ≤ y then y else x))
  | _, _ => none
def rowOf (j : Sh → Sh → Sh) : Sh → Option (Sh × Lin × Lin)
  | .nil => some (.bot, .c 0, .c 0)
  | .cons a r => (rowOf j r).map fun p => (j a p.1, p.2.1.addC 1, p.2.2.addC 1)
  | .row e lo hi => some (e, lo, hi)
  | _ => none
def joinD (gs : Gs) (a b : Sh) : Sh := match toDat gs a, toDat gs b with
  | some x, some y => .dat (x.join y).q (x.join y).b (x.join y).l (x.join y).k
  | _, _ => .any
def obnd (f : Lin → Lin → Option Lin) : Option Lin → Option Lin → Option Lin
  | some a, some b => f a b
  | _, _ => none
def joinR (gs : Gs) (j : Sh → Sh → Sh) (a b : Sh) : Sh := match rowOf j a, rowOf j b with
  | some (e, l, h), some (e', l', h') => (match maxL gs h h' with
    | some hh => .row (j e e') ((minL gs l l').getD (.c 0)) hh
    | none => .any)
  | _, _ => .any
def joinSh (gs : Gs) : Nat → Sh → Sh → Sh
  | 0, _, _ => .any
  | n + 1, a, b => if a.beq b then a else match a, b with
    | .bot, y => y
    | x, .bot => x
    | .tt _, .tt _ => .bol
    | .tt _, .bol => .bol
    | .bol, .tt _ => .bol
    | .int l h, .int l' h' => .int (obnd (minL gs) l l') (obnd (maxL gs) h h')
    | .lst s, .lst t => .lst (joinSh gs n s t)
    | .opt x, .opt y => .opt (joinSh gs n x y)
    | .non, .opt y => .opt y
    | .opt x, .non => .opt x
    | .opt x, y => .opt (joinSh gs n x y)
    | x, .opt y => .opt (joinSh gs n x y)
    | .non, .int l h => .opt (.int l h)
    | .int l h, .non => .opt (.int l h)
    | .non, .cons x r => .opt (.cons x r)
    | .cons x r, .non => .opt (.cons x r)
    | .non, .row e l h => .opt (.row e l h)
    | .row e l h, .non => .opt (.row e l h)
    | .cons x r, .cons y t => if decide (sizeSh r = sizeSh t) && (sizeSh r).isSome then .cons (joinSh gs n x y) (joinSh gs n r t) else joinR gs (joinSh gs n) (.cons x r) (.cons y t)
    | x, y => if isSeq x && isSeq y then joinR gs (joinSh gs n) x y else joinD gs x y

section
variable {s t : List Int} {gs : Gs}
theorem LoB.mono {o : Option Lin} {z : Int} (h : LoB s o z) : LoB (s ++ t) o z := by
  cases o with
  | none => trivial
  | some l => obtain ⟨x, h1, h2⟩ := h; exact ⟨x, ev_mono h1, h2⟩
theorem HiB.mono {o : Option Lin} {z : Int} (h : HiB s o z) : HiB (s ++ t) o z := by
  cases o with
  | none => trivial
  | some l => obtain ⟨x, h1, h2⟩ := h; exact ⟨x, ev_mono h1, h2⟩
theorem Has.mono : ∀ {a : Sh} {d : PyData}, Has s a d → Has (s ++ t) a d
  | .any, _, _ => trivial
  | .bot, _, h => h
  | .dat .., _, h => h
  | .non, _, h => h
  | .bol, _, h => h
  | .tt _, _, h => h
  | .int .., _, ⟨z, e, h1, h2⟩ => ⟨z, e, h1.mono, h2.mono⟩
  | .str none, _, h => h
  | .str (some _), _, h => h
  | .nil, _, h => h
  | .cons .., _, ⟨x, r, e, h1, h2⟩ => ⟨x, r, e, h1.mono, h2.mono⟩
  | .row .., _, ⟨ds, e, h1, h2, h3⟩ => ⟨ds, e, fun x hx => (h1 x hx).mono, h2.mono, h3.mono⟩
  | .lst _, _, ⟨ds, e, h1⟩ => ⟨ds, e, h1.mono⟩
  | .opt _, _, .inl h => .inl h
  | .opt _, _, .inr h => .inr h.mono
theorem oLinEq_eq : ∀ {a b : Option Lin}, oLinEq a b = true → a = b
  | none, none, _ => rfl
  | some a, some b, h => by rw [Lin.beq_eq h]
  | none, some _, h => by cases h
  | some _, none, h => by cases h
theorem Sh.beq_eq : ∀ {a b : Sh}, a.beq b = true → a = b := fun {a} => by
  induction a with
  | any => intro b h; cases b <;> first | rfl | cases h
  | bot => intro b h; cases b <;> first | rfl | cases h
  | non => intro b h; cases b <;> first | rfl | cases h
  | bol => intro b h; cases b <;> first | rfl | cases h
  | nil => intro b h; cases b <;> first | rfl | cases h
  | tt x => intro b h; cases b <;> first | (rw [of_decide_eq_true h]) | cases h
  | dat q x l k =>
    intro b h
    cases b <;> first | cases h | skip
    unfold Sh.beq at h
    rw [Bool.and_eq_true, Bool.and_eq_true, Bool.and_eq_true] at h
    rw [of_decide_eq_true h.1, of_decide_eq_true h.2.1, of_decide_eq_true h.2.2.1, of_decide_eq_true h.2.2.2]
  | int l x =>
    intro b h
    cases b <;> first | cases h | skip
    unfold Sh.beq at h
    rw [Bool.and_eq_true] at h
    rw [oLinEq_eq h.1, oLinEq_eq h.2]
  | str o =>
    intro b h
    cases b with
    | str p =>
      cases o with
      | none => cases p with
        | none => rfl
        | some y => cases h
      | some x => cases p with
        | none => cases h
        | some y =>
          have : decide (x = y) = true := h
          rw [of_decide_eq_true this]
    | _ => cases o <;> cases h
  | cons x r hx hr =>
    intro b h
    cases b <;> first | cases h | skip
    unfold Sh.beq at h
    rw [Bool.and_eq_true] at h
    rw [hx h.1, hr h.2]
  | row e l x he =>
    intro b h
    cases b <;> first | cases h | skip
    unfold Sh.beq at h
    rw [Bool.and_eq_true, Bool.and_eq_true] at h
    rw [Lin.beq_eq h.1, Lin.beq_eq h.2.1, he h.2.2]
  | lst x hx =>
    intro b h
    cases b <;> first | cases h | skip
    rw [hx h]
  | opt x hx =>
    intro b h
    cases b <;> first | cases h | skip
    rw [hx h]
/-- bounds otherwise -/
theorem mapL_ok {u : List Int} {f : Bool → Lin → Option Lin} (hf : ∀ (up : Bool) (a b : Lin) (x : Int), a.ev s = some x → f up a = some b → ∃ y, b.ev u = some y ∧ if up then x ≤ y else y ≤ x) : ∀ {a : Sh} {d : PyData}, Has s a d → Has u (a.mapL f) d := by
  have lo : ∀ {o : Option Lin} {z : Int}, LoB s o z → LoB u (o.bind (f false)) z := fun {o z} h => by
    cases o with
    | none => trivial
    | some l =>
      obtain ⟨x, h1, h2⟩ := h
      show LoB u (f false l) z
      cases q : f false l with
      | none => trivial
      | some b =>
        obtain ⟨y, g1, g2⟩ := hf false l b x h1 q
        exact ⟨y, g1, Int.le_trans g2 h2⟩
  have hi : ∀ {o : Option Lin} {z : Int}, HiB s o z → HiB u (o.bind (f true)) z := fun {o z} h => by
    cases o with
    | none => trivial
    | some l =>
      obtain ⟨x, h1, h2⟩ := h
      show HiB u (f true l) z
      cases q : f true l with
      | none => trivial
      | some b =>
        obtain ⟨y, g1, g2⟩ := hf true l b x h1 q
        exact ⟨y, g1, Int.le_trans h2 g2⟩
  intro a
  induction a with
  | any => intro d h; trivial
  | bot => intro d h; exact h
  | dat q b l k => intro d h; exact h
  | non => intro d h; exact h
  | bol => intro d h; exact h
  | tt b => intro d h; exact h
  | nil => intro d h; exact h
  | str o => intro d h; cases o <;> exact h
  | int l x => intro d ⟨z, e, h1, h2⟩; exact ⟨z, e, lo h1, hi h2⟩
  | cons a b ha hb => intro d ⟨x, r, e, h1, h2⟩; exact ⟨x, r, e, ha h1, hb h2⟩
  | lst t ht => intro d ⟨ds, e, h1⟩; exact ⟨ds, e, ht h1⟩
  | opt a ha => intro d h; exact h.imp id ha
  | row e l x he =>
    intro d ⟨ds, e0, h1, h2, h3⟩
    show Has u (match f true x with | some h => .row (e.mapL f) ((f false l).getD (.c 0)) h | none => .any) d
    cases q : f true x with
    | none => trivial
    | some b =>
      refine ⟨ds, e0, fun y hy => he (h1 y hy), ?_, ?_⟩
      · cases q2 : f false l with
        | none => exact ⟨0, rfl, Int.natCast_nonneg _⟩
        | some c =>
          have := lo h2
          rw [Option.bind_some, q2] at this
          exact this
      · have := hi h3
        rw [Option.bind_some, q] at this
        exact this
theorem nlo_ok (h : Sat s gs) {l : Lin} {a x : Int} (e : nlo gs l = some a) (q : l.ev s = some x) : a ≤ x := by
  obtain ⟨p, hp, rfl⟩ := Option.map_eq_some_iff.mp e
  exact (rg_ev h hp q).1
theorem nhi_ok (h : Sat s gs) {l : Lin} {a x : Int} (e : nhi gs l = some a) (q : l.ev s = some x) : x ≤ a := by
  obtain ⟨p, hp, rfl⟩ := Option.map_eq_some_iff.mp e
  exact (rg_ev h hp q).2
theorem onlo_ok (h : Sat s gs) {o : Option Lin} {a z : Int} (e : onlo gs o = some a) (q : LoB s o z) : a ≤ z := by
  cases o with
  | none => cases e
  | some l => obtain ⟨x, h1, h2⟩ := q; exact Int.le_trans (nlo_ok h e h1) h2
theorem onhi_ok (h : Sat s gs) {o : Option Lin} {a z : Int} (e : onhi gs o = some a) (q : HiB s o z) : z ≤ a := by
  cases o with
  | none => cases e
  | some l => obtain ⟨x, h1, h2⟩ := q; exact Int.le_trans h2 (nhi_ok h e h1)
theorem flatOk_mono {b b' : Nat} (h : b ≤ b') {d : PyData} (e : flatOk b d = true) : flatOk b' d = true := by
  cases d with
  | int i => exact decide_eq_true (Nat.lt_of_lt_of_le (of_decide_eq_true e) (Nat.pow_le_pow_right (by decide) h))
  | _ => exact e
theorem datOk_flat {q : Bool} {b l : Nat} {d : PyData} (e : flatOk b d = true) : ∀ k, datOk q b l k d = true
  | 0 => by cases d <;> first | exact e | cases e
  | k + 1 => by cases d <;> first | exact e | cases e
theorem datOk_mono {q q' : Bool} {b b' l l' : Nat} (hq : (!q' || q) = true) (hb : b ≤ b') (hl : l ≤ l') : ∀ {k k' : Nat} {d : PyData}, k ≤ k' → datOk q b l k d = true → datOk q' b' l' k' d = true
  | 0, k', d, _, e => by
    have : flatOk b d = true := by cases d <;> exact e
    exact datOk_flat (flatOk_mono hb this) k'
  | k + 1, 0, d, hk, _ => by omega
  | k + 1, k' + 1, d, hk, e => by
    have i : ∀ {d : PyData}, datOk q b l k d = true → datOk q' b' l' k' d = true := datOk_mono hq hb hl (by omega)
    have all : ∀ {xs : List PyData}, xs.all (datOk q b l k) = true → xs.all (datOk q' b' l' k') = true := fun h => List.all_eq_true.mpr fun x hx => i (List.all_eq_true.mp h x hx)
    cases d with
    | list xs =>
      unfold datOk at e ⊢
      rw [Bool.and_eq_true] at e ⊢
      exact ⟨decide_eq_true (Nat.le_trans (of_decide_eq_true e.1) hl), all e.2⟩
    | tuple xs =>
      unfold datOk at e ⊢
      rw [Bool.and_eq_true] at e ⊢
      exact ⟨decide_eq_true (Nat.le_trans (of_decide_eq_true e.1) hl), all e.2⟩
    | dict es =>
      unfold datOk at e ⊢
      rw [Bool.and_eq_true, Bool.and_eq_true] at e ⊢
      refine ⟨?_, decide_eq_true (Nat.le_trans (of_decide_eq_true e.2.1) hl), List.all_eq_true.mpr fun p hp => ?_⟩
      · cases q <;> cases q' <;> first | rfl | (exact absurd e.1 (by decide)) | (exact absurd hq (by decide))
      · have := List.all_eq_true.mp e.2.2 p hp
        rw [Bool.and_eq_true] at this ⊢
        exact ⟨i this.1, i this.2⟩
    | _ => exact datOk_flat (flatOk_mono hb e) (k' + 1)
theorem datLe {x y : DatB} (h : x.le y = true) {d : PyData} (e : datOk x.q x.b x.l x.k d = true) : datOk y.q y.b y.l y.k d = true := by
  unfold DatB.le at h
  rw [Bool.and_eq_true, Bool.and_eq_true, Bool.and_eq_true] at h
  exact datOk_mono h.1 (of_decide_eq_true h.2.1) (of_decide_eq_true h.2.2.1) (of_decide_eq_true h.2.2.2) e
theorem dat_cons {q : Bool} {b l k : Nat} {x : PyData} {r : List PyData} (h1 : datOk q b l k x = true) (h2 : datOk q b l (k + 1) (.tuple r) = true) (h3 : r.length + 1 ≤ l) : datOk q b l (k + 1) (.tuple (x :: r)) = true := by
  unfold datOk at h2 ⊢
  rw [Bool.and_eq_true] at h2 ⊢
  exact ⟨decide_eq_true h3, by rw [List.all_cons, h1, h2.2]; rfl⟩
theorem dat_len {q : Bool} {b l k : Nat} {r : List PyData} (h : datOk q b l k (.tuple r) = true) : r.length ≤ l := by
  cases k with
  | zero => cases h
  | succ k =>
    unfold datOk at h
    rw [Bool.and_eq_true] at h
    exact of_decide_eq_true h.1
theorem toDat_ok (hs : Sat s gs) : ∀ {a : Sh} {x : DatB} {d : PyData}, toDat gs a = some x → Has s a d → datOk x.q x.b x.l x.k d = true := fun {a} => by
  induction a with
  | any => intro x d h; cases h
  | bot => intro x d h e; cases e
  | dat q b l k => intro x d h e; cases h; exact e
  | non => intro x d h e; cases h; cases e; rfl
  | bol => intro x d h e; cases h; obtain ⟨b, rfl⟩ := e; rfl
  | tt b => intro x d h e; cases h; cases e; rfl
  | int lo hi =>
    intro x d h e
    obtain ⟨z, rfl, h1, h2⟩ := e
    unfold toDat at h
    split at h
    · rename_i a b ha hb
      cases h
      have i1 := onlo_ok hs ha h1
      have i2 := onhi_ok hs hb h2
      refine datOk_flat (d := .int z) (show decide (z.natAbs < 2 ^ _) = true from decide_eq_true ?_) _
      have : z.natAbs ≤ max a.natAbs b.natAbs := by omega
      exact Nat.lt_of_le_of_lt this Nat.lt_log2_self
    · cases h
  | str o =>
    intro x d h e
    cases o with
    | none => cases h; obtain ⟨y, rfl, h⟩ := e; exact h
    | some y =>
      unfold toDat at h
      split at h
      · cases h; cases e; assumption
      · cases h
  | nil => intro x d h e; cases h; cases e; rfl
  | cons a r ha hr =>
    intro x d h e
    obtain ⟨y, ys, rfl, h1, h2⟩ := e
    unfold toDat at h
    split at h
    · rename_i p q hp hq
      cases h
      have g1 := ha hp h1
      have g2 := hr hq h2
      have gl := dat_len g2
      dsimp only
      obtain ⟨m, hm⟩ : ∃ m, max (p.k + 1) (max 1 q.k) = m + 1 := ⟨max (p.k + 1) (max 1 q.k) - 1, by omega⟩
      rw [hm]
      refine dat_cons (datOk_mono ?_ (Nat.le_max_left ..) (Nat.le_max_left ..) ?_ g1) (datOk_mono ?_ (Nat.le_max_right ..) (by omega) (by omega) g2) (by omega)
      · cases p.q <;> cases q.q <;> rfl
      · omega
      · cases p.q <;> cases q.q <;> rfl
    · cases h
  | row e lo hi he =>
    intro x d h g
    obtain ⟨ds, rfl, h1, h2, h3⟩ := g
    unfold toDat at h
    split at h
    · rename_i p q hp hq
      cases h
      obtain ⟨z, z1, z2⟩ := h3
      have := nhi_ok hs hq z1
      show datOk p.q p.b (max p.l q.toNat) (p.k + 1) (.tuple ds) = true
      unfold datOk
      rw [Bool.and_eq_true]
      refine ⟨decide_eq_true (by omega), List.all_eq_true.mpr fun y hy => datOk_mono (by cases p.q <;> rfl) (Nat.le_refl _) (Nat.le_max_left ..) (Nat.le_refl _) (he hp (h1 y hy))⟩
    · cases h
  | lst t ht =>
    intro x d h e
    obtain ⟨ds, rfl, h1⟩ := e
    obtain ⟨y, hy, rfl⟩ := Option.map_eq_some_iff.mp h
    have g := ht hy h1
    dsimp only
    obtain ⟨m, hm⟩ : ∃ m, max 1 y.k = m + 1 := ⟨max 1 y.k - 1, by omega⟩
    rw [hm]
    have : datOk y.q y.b y.l (m + 1) (.tuple ds) = true := datOk_mono (by cases y.q <;> rfl) (Nat.le_refl _) (Nat.le_refl _) (by omega) g
    unfold datOk at this ⊢
    exact this
  | opt a ha =>
    intro x d h e
    rcases e with rfl | e
    · exact datOk_flat rfl _
    · exact ha h e
theorem rg_some (hs : Sat s gs) {a : Lin} (h : (a.rg gs).isSome = true) : ∃ x, a.ev s = some x := by
  cases q : a.rg gs with
  | none => rw [q] at h; cases h
  | some p => obtain ⟨x, hx, _⟩ := rg_ok hs q; exact ⟨x, hx⟩
theorem loLe_ok (hs : Sat s gs) {a b : Option Lin} {z : Int} (h : loLe gs a b = true) (e : LoB s b z) : LoB s a z := by
  cases a with
  | none => trivial
  | some a => cases b with
    | none => cases h
    | some b =>
      obtain ⟨x, h1, h2⟩ := e
      unfold loLe at h
      rw [Bool.and_eq_true] at h
      obtain ⟨w, hw⟩ := rg_some hs h.1
      exact ⟨w, hw, Int.le_trans (leL_ok hs h.2 hw h1) h2⟩
theorem hiLe_ok (hs : Sat s gs) {a b : Option Lin} {z : Int} (h : hiLe gs a b = true) (e : HiB s a z) : HiB s b z := by
  cases b with
  | none => trivial
  | some b => cases a with
    | none => cases h
    | some a =>
      obtain ⟨x, h1, h2⟩ := e
      unfold hiLe at h
      rw [Bool.and_eq_true] at h
      obtain ⟨w, hw⟩ := rg_some hs h.1
      exact ⟨w, hw, Int.le_trans h2 (leL_ok hs h.2 h1 hw)⟩
theorem minL_ok (hs : Sat s gs) {a b c : Lin} {z : Int} (h : minL gs a b = some c) (e : LoB s (some a) z ∨ LoB s (some b) z) : LoB s (some c) z := by
  unfold minL at h
  split at h
  · cases h
  · rename_i hh
    have hh : ((a.rg gs).isSome && (b.rg gs).isSome) = true := by
      cases q : ((a.rg gs).isSome && (b.rg gs).isSome)
      · rw [q] at hh; exact absurd rfl hh
      · rfl
    rw [Bool.and_eq_true] at hh
    obtain ⟨x, hx⟩ := rg_some hs hh.1
    obtain ⟨y, hy⟩ := rg_some hs hh.2
    split at h
    · rename_i l
      cases h
      have := leL_ok hs l hx hy
      rcases e with ⟨w, h1, h2⟩ | ⟨w, h1, h2⟩
      · exact ⟨w, h1, h2⟩
      · rw [hy] at h1; cases h1; exact ⟨x, hx, by omega⟩
    · split at h
      · rename_i l
        cases h
        have := leL_ok hs l hy hx
        rcases e with ⟨w, h1, h2⟩ | ⟨w, h1, h2⟩
        · rw [hx] at h1; cases h1; exact ⟨y, hy, by omega⟩
        · exact ⟨w, h1, h2⟩
      · split at h
        · rename_i p q hp hq
          cases h
          have i1 := nlo_ok hs hp hx
          have i2 := nlo_ok hs hq hy
          refine ⟨_, rfl, ?_⟩
          rcases e with ⟨w, h1, h2⟩ | ⟨w, h1, h2⟩
          · rw [hx] at h1; cases h1; split <;> omega
          · rw [hy] at h1; cases h1; split <;> omega
        · cases h
theorem maxL_ok (hs : Sat s gs) {a b c : Lin} {z : Int} (h : maxL gs a b = some c) (e : HiB s (some a) z ∨ HiB s (some b) z) : HiB s (some c) z := by
  unfold maxL at h
  split at h
  · cases h
  · rename_i hh
    have hh : ((a.rg gs).isSome && (b.rg gs).isSome) = true := by
      cases q : ((a.rg gs).isSome && (b.rg gs).isSome)
      · rw [q] at hh; exact absurd rfl hh
      · rfl
    rw [Bool.and_eq_true] at hh
    obtain ⟨x, hx⟩ := rg_some hs hh.1
    obtain ⟨y, hy⟩ := rg_some hs hh.2
    split at h
    · rename_i l
      cases h
      have := leL_ok hs l hx hy
      rcases e with ⟨w, h1, h2⟩ | ⟨w, h1, h2⟩
      · rw [hx] at h1; cases h1; exact ⟨y, hy, by omega⟩
      · exact ⟨w, h1, h2⟩
    · split at h
      · rename_i l
        cases h
        have := leL_ok hs l hy hx
        rcases e with ⟨w, h1, h2⟩ | ⟨w, h1, h2⟩
        · exact ⟨w, h1, h2⟩
        · rw [hy] at h1; cases h1; exact ⟨x, hx, by omega⟩
      · split at h
        · rename_i p q hp hq
          cases h
          have i1 := nhi_ok hs hp hx
          have i2 := nhi_ok hs hq hy
          refine ⟨_, rfl, ?_⟩
          rcases e with ⟨w, h1, h2⟩ | ⟨w, h1, h2⟩
          · rw [hx] at h1; cases h1; split <;> omega
          · rw [hy] at h1; cases h1; split <;> omega
        · cases h
theorem has_row_shift {e : Sh} {lo hi : Lin} {x : PyData} {r : List PyData} (hx : Has s e x) (hr : Has s (.row e (lo.addC (-1)) (hi.addC (-1))) (.tuple r)) (hl : ∃ v, lo.ev s = some v) (hh : ∃ v, hi.ev s = some v) : Has s (.row e lo hi) (.tuple (x :: r)) := by
  obtain ⟨ds, e0, h1, ⟨v, h2, h3⟩, ⟨w, h4, h5⟩⟩ := hr
  cases e0
  obtain ⟨v', hv⟩ := hl
  obtain ⟨w', hw⟩ := hh
  have a := ev_addC (-1) hv
  have b := ev_addC (-1) hw
  rw [h2] at a; rw [h4] at b
  cases a; cases b
  exact ⟨x :: r, rfl, fun y hy => by
    rcases List.mem_cons.mp hy with rfl | hy
    · exact hx
    · exact h1 y hy, ⟨v', hv, by rw [List.length_cons]; omega⟩, ⟨w', hw, by rw [List.length_cons]; omega⟩⟩
theorem ev_addC_inv (m : Int) : ∀ {a : Lin} {x : Int}, (a.addC m).ev s = some x → ∃ y, a.ev s = some y
  | .c k, x, h => ⟨k, rfl⟩
  | .t g k r, x, h => by
    obtain ⟨y, z, h1, h2, rfl⟩ := ev_t h
    obtain ⟨w, hw⟩ := ev_addC_inv m h2
    exact ⟨_, ev_t_of h1 hw⟩
theorem has_row_cons {e : Sh} {lo hi : Lin} {x : PyData} {r : List PyData} (hx : Has s e x) (hr : Has s (.row e (lo.addC (-1)) (hi.addC (-1))) (.tuple r)) : Has s (.row e lo hi) (.tuple (x :: r)) := by
  have hr' := hr
  obtain ⟨ds, e0, h1, ⟨v, h2, h3⟩, ⟨w, h4, h5⟩⟩ := hr'
  exact has_row_shift hx hr (ev_addC_inv _ h2) (ev_addC_inv _ h4)
theorem leSh_ok (hs : Sat s gs) : ∀ {n : Nat} {a b : Sh} {d : PyData}, leSh gs n a b = true → Has s a d → Has s b d
  | 0, a, b, d, h, _ => by cases h
  | n + 1, a, b, d, h, e => by
    unfold leSh at h
    split at h
    · trivial
    · cases e
    · rw [of_decide_eq_true h] at e; exact e
    · exact ⟨_, e⟩
    · exact e
    · rw [Bool.and_eq_true] at h
      obtain ⟨z, e0, h1, h2⟩ := e
      exact ⟨z, e0, loLe_ok hs h.1 h1, hiLe_ok hs h.2 h2⟩
    · exact e
    · exact ⟨_, e, h⟩
    · rw [of_decide_eq_true h] at e; exact e
    · exact e
    · rw [Bool.and_eq_true] at h
      obtain ⟨x, r, e0, h1, h2⟩ := e
      exact ⟨x, r, e0, leSh_ok hs h.1 h1, leSh_ok hs h.2 h2⟩
    · rw [Bool.and_eq_true] at h
      exact ⟨[], e, (fun x hx => by cases hx), loLe_ok hs h.1 ⟨0, rfl, Int.le_refl _⟩, hiLe_ok hs h.2 ⟨0, rfl, Int.le_refl _⟩⟩
    · rw [Bool.and_eq_true] at h
      obtain ⟨x, r, rfl, h1, h2⟩ := e
      exact has_row_cons (leSh_ok hs h.1 h1) (leSh_ok hs h.2 h2)
    · rw [Bool.and_eq_true, Bool.and_eq_true] at h
      obtain ⟨ds, e0, h1, h2, h3⟩ := e
      exact ⟨ds, e0, fun x hx => leSh_ok hs h.1 (h1 x hx), loLe_ok hs h.2.1 h2, hiLe_ok hs h.2.2 h3⟩
    · obtain ⟨ds, e0, h1⟩ := e
      exact ⟨ds, e0, leSh_ok hs h h1⟩
    · exact e
    · exact .inl e
    · exact e.imp id (leSh_ok hs h)
    · exact .inr (leSh_ok hs h e)
    · split at h
      · rename_i x hx
        exact datLe h (toDat_ok hs hx e)
      · cases h
    · cases h
theorem joinD_ok (hs : Sat s gs) {a b : Sh} {d : PyData} (e : Has s a d ∨ Has s b d) : Has s (joinD gs a b) d := by
  unfold joinD
  split
  · rename_i x y hx hy
    show datOk _ _ _ _ d = true
    rcases e with e | e
    · exact datLe (by unfold DatB.le DatB.join; dsimp only; simp [Nat.le_max_left]; cases x.q <;> cases y.q <;> simp) (toDat_ok hs hx e)
    · exact datLe (by unfold DatB.le DatB.join; dsimp only; simp [Nat.le_max_right]; cases x.q <;> cases y.q <;> simp) (toDat_ok hs hy e)
  · trivial
theorem rowOf_ok (hs : Sat s gs) {j : Sh → Sh → Sh} (hj : ∀ {a b : Sh} {d : PyData}, Has s a d ∨ Has s b d → Has s (j a b) d) : ∀ {a : Sh} {p : Sh × Lin × Lin} {d : PyData}, rowOf j a = some p → Has s a d → Has s (.row p.1 p.2.1 p.2.2) d := fun {a} => by
  induction a with
  | nil => intro p d h e; cases h; exact ⟨[], e, (fun x hx => by cases hx), ⟨0, rfl, Int.le_refl _⟩, ⟨0, rfl, Int.le_refl _⟩⟩
  | cons a r ha hr =>
    intro p d h e
    obtain ⟨x, ys, rfl, h1, h2⟩ := e
    obtain ⟨q, hq, rfl⟩ := Option.map_eq_some_iff.mp h
    obtain ⟨ds, e0, g1, ⟨v, g2, g3⟩, ⟨w, g4, g5⟩⟩ := hr hq h2
    cases e0
    exact ⟨_, rfl, fun y hy => by
      rcases List.mem_cons.mp hy with rfl | hy
      · exact hj (.inl h1)
      · exact hj (.inr (g1 y hy)), ⟨_, ev_addC 1 g2, by rw [List.length_cons]; omega⟩, ⟨_, ev_addC 1 g4, by rw [List.length_cons]; omega⟩⟩
  | row e lo hi _ => intro p d h g; cases h; exact g
  | _ => intro p d h; cases h
theorem joinR_ok (hs : Sat s gs) {j : Sh → Sh → Sh} (hj : ∀ {a b : Sh} {d : PyData}, Has s a d ∨ Has s b d → Has s (j a b) d) {a b : Sh} {d : PyData} (e : Has s a d ∨ Has s b d) : Has s (joinR gs j a b) d := by
  unfold joinR
  split
  · rename_i e1 l1 h1 e2 l2 h2 q1 q2
    split
    · rename_i hh qh
      have r : ∃ ds, d = .tuple ds ∧ (∀ x ∈ ds, Has s (j e1 e2) x) ∧ (LoB s (some l1) (ds.length : Int) ∨ LoB s (some l2) (ds.length : Int)) ∧ (HiB s (some h1) (ds.length : Int) ∨ HiB s (some h2) (ds.length : Int)) := by
        rcases e with e | e
        · obtain ⟨ds, e0, i1, i2, i3⟩ := rowOf_ok hs hj q1 e
          exact ⟨ds, e0, fun x hx => hj (.inl (i1 x hx)), .inl i2, .inl i3⟩
        · obtain ⟨ds, e0, i1, i2, i3⟩ := rowOf_ok hs hj q2 e
          exact ⟨ds, e0, fun x hx => hj (.inr (i1 x hx)), .inr i2, .inr i3⟩
      obtain ⟨ds, e0, i1, i2, i3⟩ := r
      refine ⟨ds, e0, i1, ?_, maxL_ok hs qh i3⟩
      cases q : minL gs l1 l2 with
      | none => exact ⟨0, rfl, Int.natCast_nonneg _⟩
      | some c => exact minL_ok hs q i2
    · trivial
  · trivial
theorem obndlo_ok (hs : Sat s gs) {a b : Option Lin} {z : Int} (e : LoB s a z ∨ LoB s b z) : LoB s (obnd (minL gs) a b) z := by
  cases a <;> cases b <;> try trivial
  rename_i a b
  show LoB s (minL gs a b) z
  cases q : minL gs a b with
  | none => trivial
  | some c => exact minL_ok hs q e
theorem obndhi_ok (hs : Sat s gs) {a b : Option Lin} {z : Int} (e : HiB s a z ∨ HiB s b z) : HiB s (obnd (maxL gs) a b) z := by
  cases a <;> cases b <;> try trivial
  rename_i a b
  show HiB s (maxL gs a b) z
  cases q : maxL gs a b with
  | none => trivial
  | some c => exact maxL_ok hs q e
theorem joinSh_ok (hs : Sat s gs) : ∀ {n : Nat} {a b : Sh} {d : PyData}, Has s a d ∨ Has s b d → Has s (joinSh gs n a b) d
  | 0, a, b, d, h => trivial
  | n + 1, a, b, d, h => by
    have ih : ∀ {a b : Sh} {d : PyData}, Has s a d ∨ Has s b d → Has s (joinSh gs n a b) d := joinSh_ok hs
    unfold joinSh
    split
    · rename_i e
      have := Sh.beq_eq e
      subst this
      exact h.elim id id
    · split
      · exact h.elim (fun h => by cases h) id
      · exact h.elim id (fun h => by cases h)
      · exact h.elim (fun h => ⟨_, h⟩) (fun h => ⟨_, h⟩)
      · exact h.elim (fun h => ⟨_, h⟩) id
      · exact h.elim id (fun h => ⟨_, h⟩)
      · rcases h with ⟨z, e, h1, h2⟩ | ⟨z, e, h1, h2⟩
        · exact ⟨z, e, obndlo_ok hs (.inl h1), obndhi_ok hs (.inl h2)⟩
        · exact ⟨z, e, obndlo_ok hs (.inr h1), obndhi_ok hs (.inr h2)⟩
      · rcases h with ⟨ds, e, h⟩ | ⟨ds, e, h⟩
        · exact ⟨ds, e, ih (.inl h)⟩
        · exact ⟨ds, e, ih (.inr h)⟩
      · rcases h with h | h
        · exact h.imp id fun h => ih (.inl h)
        · exact h.imp id fun h => ih (.inr h)
      · exact h.elim .inl id
      · exact h.elim id .inl
      · rcases h with h | h
        · exact h.imp id fun h => ih (.inl h)
        · exact .inr (ih (.inr h))
      · rcases h with h | h
        · exact .inr (ih (.inl h))
        · exact h.imp id fun h => ih (.inr h)
      · exact h.elim .inl .inr
      · exact h.elim .inr .inl
      · exact h.elim .inl .inr
      · exact h.elim .inr .inl
      · exact h.elim .inl .inr
      · exact h.elim .inr .inl
      · split
        · rcases h with ⟨x, r, e, h1, h2⟩ | ⟨x, r, e, h1, h2⟩
          · exact ⟨x, r, e, ih (.inl h1), ih (.inl h2)⟩
          · exact ⟨x, r, e, ih (.inr h1), ih (.inr h2)⟩
        · exact joinR_ok hs ih h
      · split
        · exact joinR_ok hs ih h
        · exact joinD_ok hs h
end
end HM

namespace HM
open PySem
/-! AI3: operators on shapes -/
def lenSh : Sh → Option (Lin × Lin)
  | .nil => some (.c 0, .c 0)
  | .cons _ r => (lenSh r).map fun p => (p.1.addC 1, p.2.addC 1)
  | .row _ lo hi => some (lo, hi)
  | _ => none
def unL : Sh → Option Sh
  | .lst t => some t
  | _ => none
def JN : Nat := 200
def jn (gs : Gs) (a b : Sh) : Sh := joinSh gs JN a b
def rowG (gs : Gs) (t : Sh) : Option (Sh × Lin × Lin) := rowOf (jn gs) t
/-- t ++ u -/
def appSh (gs : Gs) : Sh → Sh → Option Sh
  | .nil, u => if isSeq u then some u else none
  | .cons a r, u => (appSh gs r u).map (.cons a)
  | .row e lo hi, u => match rowG gs u with
    | some (e', lo', hi') => some (.row (jn gs e e') (lo.add lo') (hi.add hi'))
    | none => none
  | _, _ => none
def lenLe (gs : Gs) (t : Sh) (n : Int) : Bool := match lenSh t with
  | some p => (match nhi gs p.2 with
    | some h => decide (h ≤ n)
    | none => false)
  | none => false
def catSh (gs : Gs) (a b : Sh) : Option Sh := if lenLe gs a 1000000 && lenLe gs b 1000000 then appSh gs a b else none
def oadd : Option Lin → Option Lin → Option Lin
  | some a, some b => some (a.add b)
  | _, _ => none
def oneg : Option Lin → Option Lin := Option.map fun a => a.mulC (-1)
def osmul (k : Int) : Option Lin → Option Lin := Option.map fun a => a.smul k
def oC : Option Lin → Option Int
  | some (.c k) => some k
  | _ => none
def consts (l h : Option Lin) : Option Int := match oC l, oC h with
  | some a, some b => if a = b then some a else none
  | _, _ => none
def kI (z : Int) : Sh := .int (some (.c z)) (some (.c z))
def big : Nat := 2 ^ 20000
def range4 (gs : Gs) (l h : Option Lin) : Option (Int × Int) := match onlo gs l, onhi gs h with
  | some a, some b => some (a, b)
  | _, _ => none
def maxAbs (p : Int × Int) : Nat := max p.1.natAbs p.2.natAbs
def min4 (a b c d : Int) : Int := min (min a b) (min c d)
def max4 (a b c d : Int) : Int := max (max a b) (max c d)
def mulOkB (p q : Option (Int × Int)) : Bool := (match p with | some p => decide (maxAbs p < 2 ^ 64) | none => false) || ((match q with | some q => decide (maxAbs q < 2 ^ 64) | none => false) ||
  (match p, q with | some p, some q => decide (maxAbs p < big) && decide (maxAbs q < big) | _, _ => false))
def mulC2 (k : Int) (l h : Option Lin) : Sh := if 0 ≤ k then .int (osmul k l) (osmul k h) else .int (osmul k h) (osmul k l)
def mulSh (gs : Gs) (l h l' h' : Option Lin) : Option Sh := if mulOkB (range4 gs l h) (range4 gs l' h') then match consts l h, consts l' h' with
    | some k, _ => some (mulC2 k l' h')
    | none, some k => some (mulC2 k l h)
    | none, none => (match range4 gs l h, range4 gs l' h' with
      | some p, some q => some (.int (some (.c (min4 (p.1 * q.1) (p.1 * q.2) (p.2 * q.1) (p.2 * q.2)))) (some (.c (max4 (p.1 * q.1) (p.1 * q.2) (p.2 * q.1) (p.2 * q.2)))))
      | _, _ => some (.int none none))
  else none
def modSh (gs : Gs) (l h l' h' : Option Lin) : Option Sh := match onlo gs l' with
  | some c => if 1 ≤ c then (match consts l h, consts l' h' with
    | some i, some j => some (kI (i % j))
    | _, _ => some (.int (some (.c 0)) (h'.map (Lin.addC (-1))))) else none
  | none => none
def fdivSh (gs : Gs) (l h l' h' : Option Lin) : Option Sh := match range4 gs l' h' with
  | some q => if 1 ≤ q.1 ∧ q.2 < 2 ^ 9000 then (match consts l' h' with
    | some j => some (.int ((onlo gs l).map fun a => .c (a / j)) ((onhi gs h).map fun b => .c (b / j)))
    | none => some (.int ((onlo gs l).map fun a => .c (min a 0)) ((onhi gs h).map fun b => .c (max b 0)))) else none
  | none => none
def repX (gs : Gs) (t : Sh) : Nat → Option Sh
  | 0 => some .nil
  | n + 1 => (repX gs t n).bind fun r => appSh gs t r
def repSh (gs : Gs) (t : Sh) (l h : Option Lin) : Option Sh := match lenSh t, range4 gs l h with
  | some p, some q => (match nhi gs p.2 with
    | some n => if -(2 ^ 63) ≤ q.1 ∧ q.2 < 2 ^ 63 ∧ n * (max q.2 0) ≤ 16777216 then (match consts l h with
        | some k => if n * k ≤ 100 then repX gs t k.toNat else (match rowG gs t with
          | some (e, lo, hi) => if 0 ≤ k then some (.row e (lo.smul k) (hi.smul k)) else none
          | none => none)
        | none => (match rowG gs t, l, h with
          | some (e, .c m, .c m'), some l, some h => if m = m' ∧ 0 ≤ q.1 then some (.row e (l.smul m) (h.smul m)) else none
          | _, _, _ => none)) else none
    | none => none)
  | _, _ => none
def binSh (gs : Gs) : Op2 → Sh → Sh → Option Sh
  | .add, .int l h, .int l' h' => some (.int (oadd l l') (oadd h h'))
  | .sub, .int l h, .int l' h' => some (.int (oadd l (oneg h')) (oadd h (oneg l')))
  | .mul, .int l h, .int l' h' => mulSh gs l h l' h'
  | .mod, .int l h, .int l' h' => modSh gs l h l' h'
  | .fdiv, .int l h, .int l' h' => fdivSh gs l h l' h'
  | .pow, .int l h, .int l' h' => (match consts l h, consts l' h' with
    | some i, some j => if powOk i j then some (kI (i ^ j.toNat)) else none
    | _, _ => none)
  | .shl, .int l h, .int l' h' => (match consts l h, consts l' h' with
    | some i, some j => if shlOk i j then some (kI (i * 2 ^ j.toNat)) else none
    | _, _ => none)
  | .add, .lst t, .lst u => (catSh gs t u).map .lst
  | .mul, .lst t, .int l h => (repSh gs t l h).map .lst
  | .add, t, u => if isSeq t then catSh gs t u else none
  | .mul, t, .int l h => if isSeq t then repSh gs t l h else none
  | _, _, _ => none
section
variable {s : List Int} {gs : Gs}
theorem jn_ok (hs : Sat s gs) {a b : Sh} {d : PyData} (e : Has s a d ∨ Has s b d) : Has s (jn gs a b) d := joinSh_ok hs e
theorem rowG_ok (hs : Sat s gs) {a : Sh} {p : Sh × Lin × Lin} {d : PyData} (h : rowG gs a = some p) (e : Has s a d) : Has s (.row p.1 p.2.1 p.2.2) d := rowOf_ok hs (jn_ok hs) h e
theorem lenSh_ok : ∀ {t : Sh} {p : Lin × Lin} {ds : List PyData}, lenSh t = some p → Has s t (.tuple ds) → LoB s (some p.1) (ds.length : Int) ∧ HiB s (some p.2) (ds.length : Int) := fun {t} => by
  induction t with
  | nil => intro p ds h e; cases h; cases e; exact ⟨⟨0, rfl, Int.le_refl _⟩, ⟨0, rfl, Int.le_refl _⟩⟩
  | cons a r _ hr =>
    intro p ds h e
    obtain ⟨x, ys, e0, h1, h2⟩ := e
    cases e0
    obtain ⟨q, hq, rfl⟩ := Option.map_eq_some_iff.mp h
    obtain ⟨⟨v, g2, g3⟩, ⟨w, g4, g5⟩⟩ := hr hq h2
    exact ⟨⟨_, ev_addC 1 g2, by rw [List.length_cons]; omega⟩, ⟨_, ev_addC 1 g4, by rw [List.length_cons]; omega⟩⟩
  | row e lo hi _ =>
    intro p ds h g
    cases h
    obtain ⟨es, e0, _, h2, h3⟩ := g
    cases e0
    exact ⟨h2, h3⟩
  | _ => intro p ds h; cases h
theorem seq_tup : ∀ {t : Sh} {d : PyData}, isSeq t = true → Has s t d → ∃ ds, d = .tuple ds := fun {t} => by
  cases t with
  | nil => intro d _ e; exact ⟨_, e⟩
  | cons a r => intro d _ e; obtain ⟨x, ys, e0, _⟩ := e; exact ⟨_, e0⟩
  | row e lo hi => intro d _ e; obtain ⟨ds, e0, _⟩ := e; exact ⟨_, e0⟩
  | _ => intro d h; cases h
theorem appSh_ok (hs : Sat s gs) : ∀ {t u c : Sh} {xs ys : List PyData}, appSh gs t u = some c → Has s t (.tuple xs) → Has s u (.tuple ys) → Has s c (.tuple (xs ++ ys)) := fun {t} => by
  induction t with
  | nil =>
    intro u c xs ys h e g
    cases e
    unfold appSh at h
    split at h
    · cases h; exact g
    · cases h
  | cons a r _ hr =>
    intro u c xs ys h e g
    obtain ⟨x, zs, e0, h1, h2⟩ := e
    cases e0
    obtain ⟨q, hq, rfl⟩ := Option.map_eq_some_iff.mp h
    exact ⟨x, zs ++ ys, rfl, h1, hr hq h2 g⟩
  | row e lo hi _ =>
    intro u c xs ys h e0 g
    unfold appSh at h
    split at h
    · rename_i e' lo' hi' hq
      cases h
      obtain ⟨ds, q0, h1, ⟨v, h2, h3⟩, ⟨w, h4, h5⟩⟩ := e0
      cases q0
      obtain ⟨ds, q0, g1, ⟨v', g2, g3⟩, ⟨w', g4, g5⟩⟩ := rowG_ok hs hq g
      cases q0
      exact ⟨_, rfl, fun x hx => by
        rcases List.mem_append.mp hx with hx | hx
        · exact jn_ok hs (.inl (h1 x hx))
        · exact jn_ok hs (.inr (g1 x hx)), ⟨_, ev_add h2 g2, by rw [List.length_append]; omega⟩, ⟨_, ev_add h4 g4, by rw [List.length_append]; omega⟩⟩
    · cases h
  | _ => intro u c xs ys h; cases h
theorem lenLe_ok (hs : Sat s gs) {t : Sh} {n : Int} {ds : List PyData} (h : lenLe gs t n = true) (e : Has s t (.tuple ds)) : (ds.length : Int) ≤ n := by
  unfold lenLe at h
  split at h
  · rename_i p hp
    split at h
    · rename_i q hq
      obtain ⟨w, h1, h2⟩ := (lenSh_ok hp e).2
      have := nhi_ok hs hq h1
      have := of_decide_eq_true h
      omega
    · cases h
  · cases h
theorem catSh_ok (hs : Sat s gs) {t u c : Sh} {xs ys : List PyData} (h : catSh gs t u = some c) (e : Has s t (.tuple xs)) (g : Has s u (.tuple ys)) : Has s c (.tuple (xs ++ ys)) ∧ xs.length + ys.length ≤ SL := by
  unfold catSh at h
  split at h
  · rename_i q
    rw [Bool.and_eq_true] at q
    have := lenLe_ok hs q.1 e
    have := lenLe_ok hs q.2 g
    exact ⟨appSh_ok hs h e g, by unfold SL; omega⟩
  · cases h
theorem LoB.add {a b : Option Lin} {x y : Int} (h : LoB s a x) (g : LoB s b y) : LoB s (oadd a b) (x + y) := by
  cases a <;> cases b <;> try trivial
  obtain ⟨v, h1, h2⟩ := h
  obtain ⟨w, g1, g2⟩ := g
  exact ⟨_, ev_add h1 g1, by omega⟩
theorem HiB.add {a b : Option Lin} {x y : Int} (h : HiB s a x) (g : HiB s b y) : HiB s (oadd a b) (x + y) := by
  cases a <;> cases b <;> try trivial
  obtain ⟨v, h1, h2⟩ := h
  obtain ⟨w, g1, g2⟩ := g
  exact ⟨_, ev_add h1 g1, by omega⟩
theorem HiB.neg {a : Option Lin} {x : Int} (h : HiB s a x) : LoB s (oneg a) (-x) := by
  cases a with
  | none => trivial
  | some a => obtain ⟨v, h1, h2⟩ := h; exact ⟨_, ev_mulC (-1) h1, by omega⟩
theorem LoB.neg {a : Option Lin} {x : Int} (h : LoB s a x) : HiB s (oneg a) (-x) := by
  cases a with
  | none => trivial
  | some a => obtain ⟨v, h1, h2⟩ := h; exact ⟨_, ev_mulC (-1) h1, by omega⟩
theorem LoB.smul {k : Int} (hk : 0 ≤ k) {a : Option Lin} {x : Int} (h : LoB s a x) : LoB s (osmul k a) (k * x) := by
  cases a with
  | none => trivial
  | some a => obtain ⟨v, h1, h2⟩ := h; exact ⟨_, ev_smul k h1, Int.mul_le_mul_of_nonneg_left h2 hk⟩
theorem HiB.smul {k : Int} (hk : 0 ≤ k) {a : Option Lin} {x : Int} (h : HiB s a x) : HiB s (osmul k a) (k * x) := by
  cases a with
  | none => trivial
  | some a => obtain ⟨v, h1, h2⟩ := h; exact ⟨_, ev_smul k h1, Int.mul_le_mul_of_nonneg_left h2 hk⟩
theorem HiB.smulN {k : Int} (hk : k ≤ 0) {a : Option Lin} {x : Int} (h : HiB s a x) : LoB s (osmul k a) (k * x) := by
  cases a with
  | none => trivial
  | some a => obtain ⟨v, h1, h2⟩ := h; exact ⟨_, ev_smul k h1, Int.mul_le_mul_of_nonpos_left hk h2⟩
theorem LoB.smulN {k : Int} (hk : k ≤ 0) {a : Option Lin} {x : Int} (h : LoB s a x) : HiB s (osmul k a) (k * x) := by
  cases a with
  | none => trivial
  | some a => obtain ⟨v, h1, h2⟩ := h; exact ⟨_, ev_smul k h1, Int.mul_le_mul_of_nonpos_left hk h2⟩
theorem oC_ok {a : Option Lin} {k : Int} (h : oC a = some k) : a = some (.c k) := by
  unfold oC at h
  split at h
  · cases h; rfl
  · cases h
theorem consts_ok {l h : Option Lin} {k z : Int} (e : consts l h = some k) (h1 : LoB s l z) (h2 : HiB s h z) : z = k := by
  unfold consts at e
  split at e
  · rename_i a b ha hb
    split at e
    · cases e
      rename_i q; subst q
      rw [oC_ok ha] at h1
      rw [oC_ok hb] at h2
      obtain ⟨v, e1, i1⟩ := h1
      obtain ⟨w, e2, i2⟩ := h2
      cases e1; cases e2
      omega
    · cases e
  · cases e
theorem kI_ok (z : Int) : Has s (kI z) (.int z) := ⟨z, rfl, ⟨z, rfl, Int.le_refl _⟩, ⟨z, rfl, Int.le_refl _⟩⟩
theorem range4_ok (hs : Sat s gs) {l h : Option Lin} {p : Int × Int} {z : Int} (e : range4 gs l h = some p) (h1 : LoB s l z) (h2 : HiB s h z) : p.1 ≤ z ∧ z ≤ p.2 := by
  unfold range4 at e
  split at e
  · rename_i a b ha hb
    cases e
    exact ⟨onlo_ok hs ha h1, onhi_ok hs hb h2⟩
  · cases e
theorem maxAbs_ok {p : Int × Int} {z : Int} (h : p.1 ≤ z ∧ z ≤ p.2) : z.natAbs ≤ maxAbs p := by unfold maxAbs; omega
theorem mul_btw {a b z : Int} (w : Int) (h1 : a ≤ z) (h2 : z ≤ b) : min (a * w) (b * w) ≤ z * w ∧ z * w ≤ max (a * w) (b * w) := by
  rcases Int.le_total 0 w with h | h
  · have i1 := Int.mul_le_mul_of_nonneg_right h1 h
    have i2 := Int.mul_le_mul_of_nonneg_right h2 h
    omega
  · have i1 := Int.mul_le_mul_of_nonpos_right h1 h
    have i2 := Int.mul_le_mul_of_nonpos_right h2 h
    omega
theorem mul_btw4 {a b c d z w : Int} (h1 : a ≤ z) (h2 : z ≤ b) (h3 : c ≤ w) (h4 : w ≤ d) : min4 (a * c) (a * d) (b * c) (b * d) ≤ z * w ∧ z * w ≤ max4 (a * c) (a * d) (b * c) (b * d) := by
  have i := mul_btw w h1 h2
  have i1 := mul_btw a h3 h4
  have i2 := mul_btw b h3 h4
  rw [Int.mul_comm c a, Int.mul_comm d a, Int.mul_comm w a] at i1
  rw [Int.mul_comm c b, Int.mul_comm d b, Int.mul_comm w b] at i2
  unfold min4 max4
  omega
theorem GB_big {z : Int} {n : Nat} (h : z.natAbs ≤ n) (g : n < big) : Sm GB z := Nat.lt_of_le_of_lt h (Nat.lt_of_lt_of_le g (Nat.pow_le_pow_right (by decide) (by unfold GB; omega)))
theorem mulOkB_ok (hs : Sat s gs) {l h l' h' : Option Lin} {z w : Int} (e : mulOkB (range4 gs l h) (range4 gs l' h') = true) (h1 : LoB s l z) (h2 : HiB s h z) (h3 : LoB s l' w) (h4 : HiB s h' w) : mulOk z w := by
  unfold mulOkB at e
  rw [Bool.or_eq_true, Bool.or_eq_true] at e
  rcases e with e | e | e
  · split at e
    · rename_i p hp
      exact .inl (Nat.lt_of_le_of_lt (maxAbs_ok (range4_ok hs hp h1 h2)) (of_decide_eq_true e))
    · cases e
  · split at e
    · rename_i p hp
      exact .inr (.inl (Nat.lt_of_le_of_lt (maxAbs_ok (range4_ok hs hp h3 h4)) (of_decide_eq_true e)))
    · cases e
  · split at e
    · rename_i p q hp hq
      rw [Bool.and_eq_true] at e
      exact .inr (.inr ⟨GB_big (maxAbs_ok (range4_ok hs hp h1 h2)) (of_decide_eq_true e.1), GB_big (maxAbs_ok (range4_ok hs hq h3 h4)) (of_decide_eq_true e.2)⟩)
    · cases e
theorem mulC2_ok {k : Int} {l h : Option Lin} {w : Int} (h1 : LoB s l w) (h2 : HiB s h w) : Has s (mulC2 k l h) (.int (k * w)) := by
  unfold mulC2
  split
  · rename_i hk; exact ⟨_, rfl, h1.smul hk, h2.smul hk⟩
  · rename_i hk
    have hk : k ≤ 0 := by omega
    exact ⟨_, rfl, h2.smulN hk, h1.smulN hk⟩
theorem mulSh_ok (hs : Sat s gs) {l h l' h' : Option Lin} {c : Sh} {z w : Int} (e : mulSh gs l h l' h' = some c) (h1 : LoB s l z) (h2 : HiB s h z) (h3 : LoB s l' w) (h4 : HiB s h' w) : mulOk z w ∧ Has s c (.int (z * w)) := by
  unfold mulSh at e
  split at e
  · rename_i hm
    refine ⟨mulOkB_ok hs hm h1 h2 h3 h4, ?_⟩
    split at e
    · rename_i k _ _ hk
      cases e
      rw [consts_ok hk h1 h2]
      exact mulC2_ok h3 h4
    · rename_i k _ hk
      cases e
      rw [consts_ok hk h3 h4, Int.mul_comm]
      exact mulC2_ok h1 h2
    · split at e
      · rename_i p q hp hq
        cases e
        have i1 := range4_ok hs hp h1 h2
        have i2 := range4_ok hs hq h3 h4
        have i := mul_btw4 i1.1 i1.2 i2.1 i2.2
        exact ⟨_, rfl, ⟨_, rfl, i.1⟩, ⟨_, rfl, i.2⟩⟩
      · cases e; exact ⟨_, rfl, trivial, trivial⟩
  · cases e
theorem modSh_ok (hs : Sat s gs) {l h l' h' : Option Lin} {c : Sh} {z w : Int} (e : modSh gs l h l' h' = some c) (h1 : LoB s l z) (h2 : HiB s h z) (h3 : LoB s l' w) (h4 : HiB s h' w) : w ≠ 0 ∧ Has s c (.int (z.fmod w)) := by
  unfold modSh at e
  split at e
  · rename_i a ha
    have hw := onlo_ok hs ha h3
    split at e
    · rename_i g
      refine ⟨by omega, ?_⟩
      rw [Int.fmod_eq_emod_of_nonneg z (by omega)]
      split at e
      · rename_i i j hi hj
        cases e
        rw [consts_ok hi h1 h2, consts_ok hj h3 h4]
        exact kI_ok _
      · cases e
        have i1 := Int.emod_nonneg z (show w ≠ 0 by omega)
        have i2 := Int.emod_lt_of_pos z (show 0 < w by omega)
        refine ⟨_, rfl, ⟨0, rfl, i1⟩, ?_⟩
        cases h' with
        | none => trivial
        | some h' => obtain ⟨v, g1, g2⟩ := h4; exact ⟨_, ev_addC (-1) g1, by omega⟩
    · cases e
  · cases e
theorem fdivSh_ok (hs : Sat s gs) {l h l' h' : Option Lin} {c : Sh} {z w : Int} (e : fdivSh gs l h l' h' = some c) (h1 : LoB s l z) (h2 : HiB s h z) (h3 : LoB s l' w) (h4 : HiB s h' w) : divOk z w ∧ Has s c (.int (z.fdiv w)) := by
  unfold fdivSh at e
  split at e
  · rename_i q hq
    have i := range4_ok hs hq h3 h4
    split at e
    · rename_i g
      have hw : 0 < w := by omega
      refine ⟨⟨by omega, .inl ?_⟩, ?_⟩
      · show w.natAbs < 2 ^ 9000
        have : w < 2 ^ 9000 := Int.lt_of_le_of_lt i.2 g.2
        have e9 : ((2 ^ 9000 : Nat) : Int) = 2 ^ 9000 := by exact Int.natCast_pow 2 9000
        generalize (2 ^ 9000 : Nat) = N at *
        omega
      · rw [Int.fdiv_eq_ediv_of_nonneg z (by omega)]
        split at e
        · rename_i j hj
          cases e
          have := consts_ok hj h3 h4
          subst this
          refine ⟨_, rfl, ?_, ?_⟩
          · cases q1 : onlo gs l with
            | none => trivial
            | some a => exact ⟨_, rfl, Int.ediv_le_ediv hw (onlo_ok hs q1 h1)⟩
          · cases q1 : onhi gs h with
            | none => trivial
            | some a => exact ⟨_, rfl, Int.ediv_le_ediv hw (onhi_ok hs q1 h2)⟩
        · cases e
          have j1 : min z 0 ≤ z / w := by
            rcases Int.le_total 0 z with hz | hz
            · have := Int.ediv_nonneg hz (Int.le_of_lt hw); omega
            · have : z ≤ z / w := by
                rw [Int.le_ediv_iff_mul_le hw]
                have := Int.mul_le_mul_of_nonpos_left hz (show 1 ≤ w by omega)
                omega
              omega
          have j2 : z / w ≤ max z 0 := by
            rcases Int.le_total 0 z with hz | hz
            · have := Int.ediv_le_self w hz; omega
            · have : z / w ≤ 0 := by
                rw [← Int.lt_add_one_iff, Int.ediv_lt_iff_lt_mul hw]
                omega
              omega
          refine ⟨_, rfl, ?_, ?_⟩
          · cases q1 : onlo gs l with
            | none => trivial
            | some a => have := onlo_ok hs q1 h1; exact ⟨_, rfl, by omega⟩
          · cases q1 : onhi gs h with
            | none => trivial
            | some a => have := onhi_ok hs q1 h2; exact ⟨_, rfl, by omega⟩
    · cases e
  · cases e
theorem repX_ok (hs : Sat s gs) {t : Sh} {xs : List PyData} (h : Has s t (.tuple xs)) : ∀ {n : Nat} {c : Sh}, repX gs t n = some c → Has s c (.tuple (List.replicate n xs).flatten)
  | 0, c, e => by cases e; rfl
  | n + 1, c, e => by
    unfold repX at e
    obtain ⟨r, hr, e⟩ := Option.bind_eq_some_iff.mp e
    rw [List.replicate_succ, List.flatten_cons]
    exact appSh_ok hs e h (repX_ok hs h hr)
theorem rep_len {α : Type} (xs : List α) : ∀ n : Nat, (List.replicate n xs).flatten.length = n * xs.length
  | 0 => by simp
  | n + 1 => by rw [List.replicate_succ, List.flatten_cons, List.length_append, rep_len xs n, Nat.succ_mul, Nat.add_comm]
theorem rep_mem {α : Type} {xs : List α} {x : α} : ∀ {n : Nat}, x ∈ (List.replicate n xs).flatten → x ∈ xs
  | 0, h => by cases h
  | n + 1, h => by
    rw [List.replicate_succ, List.flatten_cons] at h
    exact (List.mem_append.mp h).elim id rep_mem
theorem repSh_ok (hs : Sat s gs) {t c : Sh} {l h : Option Lin} {xs : List PyData} {k : Int} (e : repSh gs t l h = some c) (g : Has s t (.tuple xs)) (h1 : LoB s l k) (h2 : HiB s h k) : repOk xs.length k ∧ Has s c (.tuple (repL xs k)) := by
  unfold repSh at e
  split at e
  · rename_i p q hp hq
    have i := range4_ok hs hq h1 h2
    obtain ⟨⟨v0, v1, v2⟩, ⟨w0, w1, w2⟩⟩ := lenSh_ok hp g
    split at e
    · rename_i n hn
      have hn' := nhi_ok hs hn w1
      split at e
      · rename_i b
        obtain ⟨b1, b2, b3⟩ := b
        have hnn : 0 ≤ n := by omega
        have prod : xs.length * k.toNat ≤ SL := by
          have a1 : (xs.length : Int) ≤ n := by omega
          have a2 : ((k.toNat : Nat) : Int) ≤ max q.2 0 := by omega
          have a3 : (xs.length : Int) * (k.toNat : Int) ≤ n * max q.2 0 := Int.mul_le_mul a1 a2 (Int.natCast_nonneg _) hnn
          have a4 : ((xs.length * k.toNat : Nat) : Int) ≤ 16777216 := by rw [Int.natCast_mul]; exact Int.le_trans a3 b3
          unfold SL; omega
        refine ⟨⟨by omega, by omega, prod⟩, ?_⟩
        unfold repL
        split at e
        · rename_i m hm
          have := consts_ok hm h1 h2
          subst this
          split at e
          · exact repX_ok hs g e
          · split at e
            · rename_i e0 lo hi hr
              split at e
              · rename_i hk
                cases e
                obtain ⟨ds, e1, r1, ⟨x1, r2, r3⟩, ⟨x2, r4, r5⟩⟩ := rowG_ok hs hr g
                cases e1
                refine ⟨_, rfl, fun x hx => r1 x (rep_mem hx), ⟨_, ev_smul k r2, ?_⟩, ⟨_, ev_smul k r4, ?_⟩⟩
                · rw [rep_len, Int.natCast_mul, Int.toNat_of_nonneg hk]
                  exact Int.mul_le_mul_of_nonneg_left r3 hk
                · rw [rep_len, Int.natCast_mul, Int.toNat_of_nonneg hk]
                  exact Int.mul_le_mul_of_nonneg_left r5 hk
              · cases e
            · cases e
        · split at e
          · have hr := ‹rowG gs t = some _›
            split at e
            · rename_i e0 m m' l h _ _ hk
              cases e
              obtain ⟨rfl, hk⟩ := hk
              obtain ⟨ds, e1, r1, ⟨x1, r2, r3⟩, ⟨x2, r4, r5⟩⟩ := rowG_ok hs hr g
              cases e1
              cases r2; cases r4
              have hl : (xs.length : Int) = m := by omega
              have hk0 : 0 ≤ k := by omega
              obtain ⟨u, u1, u2⟩ := h1
              obtain ⟨v, u3, u4⟩ := h2
              have lenE : (((List.replicate k.toNat xs).flatten.length : Nat) : Int) = m * k := by rw [rep_len, Int.natCast_mul, Int.toNat_of_nonneg hk0, hl, Int.mul_comm]
              refine ⟨_, rfl, fun x hx => r1 x (rep_mem hx), ⟨_, ev_smul m u1, ?_⟩, ⟨_, ev_smul m u3, ?_⟩⟩
              · rw [lenE]; exact Int.mul_le_mul_of_nonneg_left u2 (by omega)
              · rw [lenE]; exact Int.mul_le_mul_of_nonneg_left u4 (by omega)
            · cases e
          · cases e
      · cases e
    · cases e
  · cases e
theorem has_lst {t : Sh} {d : PyData} (h : Has s (.lst t) d) : ∃ ds, d = .list ds ∧ Has s t (.tuple ds) := h
theorem binSh_ok (hs : Sat s gs) {o : Op2} {a b c : Sh} {x y : PyData} (e : binSh gs o a b = some c) (ha : Has s a x) (hb : Has s b y) : ∃ z, bin o x y = some z ∧ Has s c z := by
  unfold binSh at e
  split at e
  · cases e
    obtain ⟨i, rfl, h1, h2⟩ := ha
    obtain ⟨j, rfl, h3, h4⟩ := hb
    exact ⟨_, rfl, _, rfl, h1.add h3, h2.add h4⟩
  · cases e
    obtain ⟨i, rfl, h1, h2⟩ := ha
    obtain ⟨j, rfl, h3, h4⟩ := hb
    exact ⟨_, rfl, _, rfl, by rw [Int.sub_eq_add_neg]; exact h1.add h4.neg, by rw [Int.sub_eq_add_neg]; exact h2.add h3.neg⟩
  · obtain ⟨i, rfl, h1, h2⟩ := ha
    obtain ⟨j, rfl, h3, h4⟩ := hb
    obtain ⟨g1, g2⟩ := mulSh_ok hs e h1 h2 h3 h4
    exact ⟨_, if_pos g1, g2⟩
  · obtain ⟨i, rfl, h1, h2⟩ := ha
    obtain ⟨j, rfl, h3, h4⟩ := hb
    obtain ⟨g1, g2⟩ := modSh_ok hs e h1 h2 h3 h4
    exact ⟨_, if_pos g1, g2⟩
  · obtain ⟨i, rfl, h1, h2⟩ := ha
    obtain ⟨j, rfl, h3, h4⟩ := hb
    obtain ⟨g1, g2⟩ := fdivSh_ok hs e h1 h2 h3 h4
    exact ⟨_, if_pos g1, g2⟩
  · obtain ⟨i, rfl, h1, h2⟩ := ha
    obtain ⟨j, rfl, h3, h4⟩ := hb
    split at e
    · rename_i p q hp hq
      split at e
      · rename_i g
        cases e
        have := consts_ok hp h1 h2; subst this
        have := consts_ok hq h3 h4; subst this
        exact ⟨_, if_pos g, kI_ok _⟩
      · cases e
    · cases e
  · obtain ⟨i, rfl, h1, h2⟩ := ha
    obtain ⟨j, rfl, h3, h4⟩ := hb
    split at e
    · rename_i p q hp hq
      split at e
      · rename_i g
        cases e
        have := consts_ok hp h1 h2; subst this
        have := consts_ok hq h3 h4; subst this
        exact ⟨_, if_pos g, kI_ok _⟩
      · cases e
    · cases e
  · obtain ⟨xs, rfl, h1⟩ := ha
    obtain ⟨ys, rfl, h2⟩ := hb
    obtain ⟨q, hq, rfl⟩ := Option.map_eq_some_iff.mp e
    obtain ⟨g1, g2⟩ := catSh_ok hs hq h1 h2
    exact ⟨_, if_pos g2, _, rfl, g1⟩
  · obtain ⟨xs, rfl, h1⟩ := ha
    obtain ⟨k, rfl, h3, h4⟩ := hb
    obtain ⟨q, hq, rfl⟩ := Option.map_eq_some_iff.mp e
    obtain ⟨g1, g2⟩ := repSh_ok hs hq h1 h3 h4
    exact ⟨_, if_pos g1, _, rfl, g2⟩
  · split at e
    · rename_i q
      obtain ⟨xs, rfl⟩ := seq_tup q ha
      have hu : ∃ ys, y = .tuple ys := by
        unfold catSh at e
        split at e
        · have : ∀ {t u c : Sh}, appSh gs t u = some c → isSeq u = true := fun {t} => by
            induction t with
            | nil => intro u c h; unfold appSh at h; split at h <;> first | assumption | cases h
            | cons a r _ ih => intro u c h; obtain ⟨q, hq, _⟩ := Option.map_eq_some_iff.mp h; exact ih hq
            | row e lo hi _ =>
              intro u c h; unfold appSh at h; split at h
              · rename_i hq
                have : ∀ {j : Sh → Sh → Sh} {a : Sh} {p}, rowOf j a = some p → isSeq a = true := fun {j a} => by
                  induction a with
                  | nil => intro p _; rfl
                  | cons a r _ ih => intro p h; obtain ⟨q, hq, _⟩ := Option.map_eq_some_iff.mp h; exact ih hq
                  | row e lo hi => intro p _; rfl
                  | _ => intro p h; cases h
                exact this hq
              · cases h
            | _ => intro u c h; cases h
          exact seq_tup (this e) hb
        · cases e
      obtain ⟨ys, rfl⟩ := hu
      obtain ⟨g1, g2⟩ := catSh_ok hs e ha hb
      exact ⟨_, if_pos g2, g1⟩
    · cases e
  · split at e
    · rename_i q
      obtain ⟨xs, rfl⟩ := seq_tup q ha
      obtain ⟨k, rfl, h3, h4⟩ := hb
      obtain ⟨g1, g2⟩ := repSh_ok hs e ha h3 h4
      exact ⟨_, if_pos g1, g2⟩
    · cases e
  · cases e
end
end HM

namespace HM
open PySem
/-! AI4: tests, places, cuts, built-ins on shapes -/
def leOO (gs : Gs) : Option Lin → Option Lin → Bool
  | some a, some b => leL gs a b
  | _, _ => false
def osucc : Option Lin → Option Lin := Option.map (Lin.addC 1)
def ltSh (gs : Gs) (l h l' h' : Option Lin) : Sh := if leOO gs (osucc h) l' then .tt true else if leOO gs h' l then .tt false else .bol
def leShI (gs : Gs) (l h l' h' : Option Lin) : Sh := if leOO gs h l' then .tt true else if leOO gs (osucc h') l then .tt false else .bol
def eqShI (gs : Gs) (l h l' h' : Option Lin) : Sh := if leOO gs h l' && leOO gs h' l then .tt true else if leOO gs (osucc h) l' || leOO gs (osucc h') l then .tt false else .bol
def notSh : Sh → Sh
  | .tt b => .tt (!b)
  | _ => .bol
def emptySh (gs : Gs) (t : Sh) : Sh := match lenSh t with
  | some p => if leL gs (.c 1) p.1 then .tt false else if leL gs p.2 (.c 0) then .tt true else .bol
  | none => .bol
/-- can be compared -/
def shB : Nat → Sh → Bool
  | n, .dat q _ _ k => q && decide (k ≤ n)
  | _, .bot | _, .non | _, .bol | _, .tt _ | _, .int _ _ | _, .str none => true
  | _, .str (some x) => PyData.strOk x
  | n, .nil => decide (1 ≤ n)
  | n, .cons a r => decide (1 ≤ n) && (shB (n - 1) a && shB n r)
  | n, .row e _ _ => decide (1 ≤ n) && shB (n - 1) e
  | n, .lst t => shB n t
  | n, .opt a => shB n a
  | _, .any => false
def isNoneSh : Sh → Sh
  | .non => .tt true
  | .any | .dat .. | .opt _ => .bol
  | _ => .tt false
def isBSh (b : Bool) : Sh → Sh
  | .tt c => .tt (b == c)
  | .any | .dat .. | .opt _ | .bol => .bol
  | _ => .tt false
def flatS : Sh → Bool
  | .non | .bol | .tt _ | .int _ _ | .str none | .str (some _) | .bot => true
  | .opt a => flatS a
  | _ => false
def allS (p : Sh → Bool) : Sh → Bool
  | .nil => true
  | .cons a r => p a && allS p r
  | .row e _ _ => p e
  | _ => false
def inSh (a : Sh) : Sh → Option Sh
  | .lst t => if flatS a && allS flatS t then some .bol else none
  | t => if isSeq t && (flatS a && allS flatS t) then some .bol else none
def eqSh (gs : Gs) (same : Bool) : Sh → Sh → Option Sh
  | .int l h, .int l' h' => some (if same then .tt true else eqShI gs l h l' h')
  | .lst t, .lst .nil => some (emptySh gs t)
  | a, .nil => if isSeq a then some (emptySh gs a) else if shB 60 a then some .bol else none
  | a, b => if shB 60 a && shB 60 b then some (if same then .tt true else .bol) else none
def cmpSh (gs : Gs) (same : Bool) : Cm → Sh → Sh → Option Sh
  | .lt, .int l h, .int l' h' => some (ltSh gs l h l' h')
  | .le, .int l h, .int l' h' => some (leShI gs l h l' h')
  | .gt, .int l h, .int l' h' => some (ltSh gs l' h' l h)
  | .ge, .int l h, .int l' h' => some (leShI gs l' h' l h)
  | .is, a, .non => some (isNoneSh a)
  | .isnot, a, .non => some (notSh (isNoneSh a))
  | .is, a, .tt b => some (isBSh b a)
  | .isnot, a, .tt b => some (notSh (isBSh b a))
  | .isin, a, b => inSh a b
  | .notin, a, b => inSh a b
  | .eq, a, b => eqSh gs same a b
  | .ne, a, b => (eqSh gs same a b).map notSh
  | _, _, _ => none
section
variable {s : List Int} {gs : Gs}
theorem leOO_ok (hs : Sat s gs) {a b : Option Lin} {x y : Int} (h : leOO gs a b = true) (ha : HiB s a x) (hb : LoB s b y) : x ≤ y := by
  unfold leOO at h
  split at h
  · obtain ⟨v, h1, h2⟩ := ha
    obtain ⟨w, h3, h4⟩ := hb
    have := leL_ok hs h h1 h3
    omega
  · cases h
theorem osucc_hi {a : Option Lin} {x : Int} (h : HiB s a x) : HiB s (osucc a) (x + 1) := by
  cases a with
  | none => trivial
  | some a => obtain ⟨v, h1, h2⟩ := h; exact ⟨_, ev_addC 1 h1, by omega⟩
theorem has_tt {b c : Bool} (h : b = c) : Has s (.tt c) (.bool b) := by rw [h]; rfl
theorem ltSh_ok (hs : Sat s gs) {l h l' h' : Option Lin} {i j : Int} (h1 : LoB s l i) (h2 : HiB s h i) (h3 : LoB s l' j) (h4 : HiB s h' j) : Has s (ltSh gs l h l' h') (.bool (decide (i < j))) := by
  unfold ltSh
  split
  · rename_i q; have := leOO_ok hs q (osucc_hi h2) h3; exact has_tt (decide_eq_true (by omega))
  · split
    · rename_i q; have := leOO_ok hs q h4 h1; exact has_tt (decide_eq_false (by omega))
    · exact ⟨_, rfl⟩
theorem leShI_ok (hs : Sat s gs) {l h l' h' : Option Lin} {i j : Int} (h1 : LoB s l i) (h2 : HiB s h i) (h3 : LoB s l' j) (h4 : HiB s h' j) : Has s (leShI gs l h l' h') (.bool (decide (i ≤ j))) := by
  unfold leShI
  split
  · rename_i q; have := leOO_ok hs q h2 h3; exact has_tt (decide_eq_true (by omega))
  · split
    · rename_i q; have := leOO_ok hs q (osucc_hi h4) h1; exact has_tt (decide_eq_false (by omega))
    · exact ⟨_, rfl⟩
theorem eqShI_ok (hs : Sat s gs) {l h l' h' : Option Lin} {i j : Int} (h1 : LoB s l i) (h2 : HiB s h i) (h3 : LoB s l' j) (h4 : HiB s h' j) : Has s (eqShI gs l h l' h') (.bool (i == j)) := by
  unfold eqShI
  split
  · rename_i q
    rw [Bool.and_eq_true] at q
    have := leOO_ok hs q.1 h2 h3
    have := leOO_ok hs q.2 h4 h1
    exact has_tt (by rw [beq_iff_eq]; omega)
  · split
    · rename_i q
      rw [Bool.or_eq_true] at q
      refine has_tt ?_
      rw [beq_eq_false_iff_ne]
      rcases q with q | q
      · have := leOO_ok hs q (osucc_hi h2) h3; omega
      · have := leOO_ok hs q (osucc_hi h4) h1; omega
    · exact ⟨_, rfl⟩
theorem notSh_ok {a : Sh} {b : Bool} (h : Has s a (.bool b)) : Has s (notSh a) (.bool (!b)) := by
  unfold notSh
  split
  · have : PyData.bool b = .bool _ := h
    cases this; rfl
  · exact ⟨_, rfl⟩
theorem emptySh_ok (hs : Sat s gs) {t : Sh} {ds : List PyData} (h : Has s t (.tuple ds)) : Has s (emptySh gs t) (.bool ds.isEmpty) := by
  unfold emptySh
  split
  · rename_i p hp
    obtain ⟨⟨v, h1, h2⟩, ⟨w, h3, h4⟩⟩ := lenSh_ok hp h
    split
    · rename_i q
      have := leL_ok hs q (show (Lin.c 1).ev s = some 1 from rfl) h1
      refine has_tt ?_
      cases ds with
      | nil => rw [List.length_nil] at h2; omega
      | cons => rfl
    · split
      · rename_i q
        have := leL_ok hs q h3 (show (Lin.c 0).ev s = some 0 from rfl)
        refine has_tt ?_
        cases ds with
        | nil => rfl
        | cons => rw [List.length_cons] at h4; omega
      · exact ⟨_, rfl⟩
  · exact ⟨_, rfl⟩
theorem canAll_of : ∀ {ds : List PyData}, (∀ x ∈ ds, x.canLay0 = true) → PyData.canLayAll0 ds = true
  | [], _ => rfl
  | x :: r, h => by
    unfold PyData.canLayAll0
    rw [h x List.mem_cons_self, canAll_of fun y hy => h y (List.mem_cons_of_mem _ hy)]; rfl
theorem depthAll_of {n : Nat} : ∀ {ds : List PyData}, (∀ x ∈ ds, x.depth ≤ n) → PyData.depthAll ds ≤ n
  | [], _ => Nat.zero_le _
  | x :: r, h => by
    unfold PyData.depthAll
    exact Nat.max_le.mpr ⟨h x List.mem_cons_self, depthAll_of fun y hy => h y (List.mem_cons_of_mem _ hy)⟩
theorem flat_lay {b : Nat} {d : PyData} (h : flatOk b d = true) : d.canLay0 = true ∧ d.depth = 0 := by
  cases d with
  | none => exact ⟨rfl, rfl⟩
  | bool => exact ⟨rfl, rfl⟩
  | int => exact ⟨rfl, rfl⟩
  | str => exact ⟨h, rfl⟩
  | _ => cases h
theorem dat_lay {b l : Nat} : ∀ {k : Nat} {d : PyData}, datOk true b l k d = true → d.canLay0 = true ∧ d.depth ≤ k
  | 0, d, h => by
    have h : flatOk b d = true := by cases d <;> exact h
    obtain ⟨h1, h2⟩ := flat_lay h
    exact ⟨h1, Nat.le_of_eq h2⟩
  | k + 1, d, h => by
    cases d with
    | list xs =>
      unfold datOk at h
      rw [Bool.and_eq_true] at h
      have a := List.all_eq_true.mp h.2
      exact ⟨canAll_of fun x hx => (dat_lay (a x hx)).1, Nat.succ_le_succ (depthAll_of fun x hx => (dat_lay (a x hx)).2)⟩
    | tuple xs =>
      unfold datOk at h
      rw [Bool.and_eq_true] at h
      have a := List.all_eq_true.mp h.2
      exact ⟨canAll_of fun x hx => (dat_lay (a x hx)).1, Nat.succ_le_succ (depthAll_of fun x hx => (dat_lay (a x hx)).2)⟩
    | dict es => unfold datOk at h; rw [Bool.and_eq_true] at h; cases h.1
    | _ =>
      obtain ⟨h1, h2⟩ := flat_lay (b := b) h
      exact ⟨h1, by rw [h2]; exact Nat.zero_le _⟩
theorem shB_lay : ∀ {a : Sh} {n : Nat} {d : PyData}, shB n a = true → Has s a d → d.canLay0 = true ∧ d.depth ≤ n := fun {a} => by
  induction a with
  | any => intro n d h; cases h
  | bot => intro n d _ e; cases e
  | dat q b l k =>
    intro n d h e
    unfold shB at h
    rw [Bool.and_eq_true] at h
    have hq : q = true := h.1
    subst hq
    obtain ⟨h1, h2⟩ := dat_lay e
    exact ⟨h1, Nat.le_trans h2 (of_decide_eq_true h.2)⟩
  | non => intro n d h e; cases e; exact ⟨rfl, Nat.zero_le _⟩
  | bol => intro n d h e; obtain ⟨_, rfl⟩ := e; exact ⟨rfl, Nat.zero_le _⟩
  | tt b => intro n d h e; cases e; exact ⟨rfl, Nat.zero_le _⟩
  | int l x => intro n d h e; obtain ⟨_, rfl, _⟩ := e; exact ⟨rfl, Nat.zero_le _⟩
  | str o =>
    intro n d h e
    cases o with
    | none => obtain ⟨x, rfl, e⟩ := e; exact ⟨e, Nat.zero_le _⟩
    | some x => cases e; exact ⟨h, Nat.zero_le _⟩
  | nil => intro n d h e; cases e; exact ⟨rfl, of_decide_eq_true h⟩
  | cons a r ha hr =>
    intro n d h e
    obtain ⟨x, ys, rfl, h1, h2⟩ := e
    unfold shB at h
    rw [Bool.and_eq_true, Bool.and_eq_true] at h
    have g0 := of_decide_eq_true h.1
    obtain ⟨i1, i2⟩ := ha h.2.1 h1
    obtain ⟨j1, j2⟩ := hr h.2.2 h2
    refine ⟨?_, ?_⟩
    · show PyData.canLayAll0 (x :: ys) = true
      unfold PyData.canLayAll0
      rw [i1]; exact j1
    · show PyData.depthAll (x :: ys) + 1 ≤ n
      have j2 : PyData.depthAll ys + 1 ≤ n := j2
      unfold PyData.depthAll
      omega
  | row e lo hi he =>
    intro n d h g
    obtain ⟨ds, rfl, h1, _⟩ := g
    unfold shB at h
    rw [Bool.and_eq_true] at h
    have g0 := of_decide_eq_true h.1
    refine ⟨canAll_of fun x hx => (he h.2 (h1 x hx)).1, ?_⟩
    have : PyData.depthAll ds ≤ n - 1 := depthAll_of fun x hx => (he h.2 (h1 x hx)).2
    show PyData.depthAll ds + 1 ≤ n
    omega
  | lst t ht =>
    intro n d h e
    obtain ⟨ds, rfl, h1⟩ := e
    exact ht (d := .tuple ds) h h1
  | opt a ha =>
    intro n d h e
    rcases e with rfl | e
    · exact ⟨rfl, Nat.zero_le _⟩
    · exact ha h e
theorem shB_ok {a : Sh} {d : PyData} (h : shB 60 a = true) (e : Has s a d) : SeqAt.shaped d = true := by
  obtain ⟨h1, h2⟩ := shB_lay h e
  unfold SeqAt.shaped
  rw [h1, decide_eq_true (show d.depth ≤ 64 by omega)]; rfl
theorem isNoneSh_ok {a : Sh} {d : PyData} (h : Has s a d) : Has s (isNoneSh a) (.bool (isNone d)) := by
  cases a with
  | non => cases h; rfl
  | any => exact ⟨_, rfl⟩
  | dat => exact ⟨_, rfl⟩
  | opt => exact ⟨_, rfl⟩
  | bot => cases h
  | bol => obtain ⟨_, rfl⟩ := h; rfl
  | tt => cases h; rfl
  | int => obtain ⟨_, rfl, _⟩ := h; rfl
  | str o => cases o <;> first | (obtain ⟨_, rfl, _⟩ := h; rfl) | (cases h; rfl)
  | nil => cases h; rfl
  | cons => obtain ⟨_, _, rfl, _⟩ := h; rfl
  | row => obtain ⟨_, rfl, _⟩ := h; rfl
  | lst => obtain ⟨_, rfl, _⟩ := h; rfl
theorem isBSh_ok (b : Bool) {a : Sh} {d : PyData} (h : Has s a d) : Has s (isBSh b a) (.bool (isB b d)) := by
  cases a with
  | tt => cases h; rfl
  | any => exact ⟨_, rfl⟩
  | dat => exact ⟨_, rfl⟩
  | opt => exact ⟨_, rfl⟩
  | bol => exact ⟨_, rfl⟩
  | non => cases h; rfl
  | bot => cases h
  | int => obtain ⟨_, rfl, _⟩ := h; rfl
  | str o => cases o <;> first | (obtain ⟨_, rfl, _⟩ := h; rfl) | (cases h; rfl)
  | nil => cases h; rfl
  | cons => obtain ⟨_, _, rfl, _⟩ := h; rfl
  | row => obtain ⟨_, rfl, _⟩ := h; rfl
  | lst => obtain ⟨_, rfl, _⟩ := h; rfl
theorem flatS_ok : ∀ {a : Sh} {d : PyData}, flatS a = true → Has s a d → flat d = true := fun {a} => by
  induction a with
  | non => intro d _ e; cases e; rfl
  | bol => intro d _ e; obtain ⟨_, rfl⟩ := e; rfl
  | tt => intro d _ e; cases e; rfl
  | int => intro d _ e; obtain ⟨_, rfl, _⟩ := e; rfl
  | str o => intro d _ e; cases o <;> first | (obtain ⟨_, rfl, _⟩ := e; rfl) | (cases e; rfl)
  | bot => intro d _ e; cases e
  | opt a ih => intro d h e; rcases e with rfl | e; · rfl
                exact ih h e
  | _ => intro d h; cases h
theorem allS_ok {p : Sh → Bool} {P : PyData → Prop} (hp : ∀ {a : Sh} {d : PyData}, p a = true → Has s a d → P d) : ∀ {t : Sh} {ds : List PyData}, allS p t = true → Has s t (.tuple ds) → ∀ x ∈ ds, P x := fun {t} => by
  induction t with
  | nil => intro ds _ e; cases e; intro x hx; cases hx
  | cons a r _ ih =>
    intro ds h e
    obtain ⟨x, ys, e0, h1, h2⟩ := e
    cases e0
    unfold allS at h
    rw [Bool.and_eq_true] at h
    intro y hy
    rcases List.mem_cons.mp hy with rfl | hy
    · exact hp h.1 h1
    · exact ih h.2 h2 y hy
  | row e lo hi _ =>
    intro ds h g
    obtain ⟨es, e0, h1, _⟩ := g
    cases e0
    exact fun x hx => hp h (h1 x hx)
  | _ => intro ds h; cases h
theorem inSh_ok {a b c : Sh} {x y : PyData} (h : inSh a b = some c) (ha : Has s a x) (hb : Has s b y) : (∃ r, cmpD .isin x y = some r ∧ Has s c (.bool r)) ∧ (∃ r, cmpD .notin x y = some r ∧ Has s c (.bool r)) := by
  have fin : ∀ {t : Sh} {ds : List PyData}, (flatS a && allS flatS t) = true → Has s t (.tuple ds) → (flat x && ds.all flat) = true := fun h e => by
    rw [Bool.and_eq_true] at h
    rw [flatS_ok h.1 ha, List.all_eq_true.mpr (allS_ok (P := fun d => flat d = true) flatS_ok h.2 e)]; rfl
  unfold inSh at h
  split at h
  · obtain ⟨ds, rfl, hb⟩ := hb
    split at h
    · rename_i q
      cases h
      exact ⟨⟨_, if_pos (fin q hb), _, rfl⟩, ⟨_, if_pos (fin q hb), _, rfl⟩⟩
    · cases h
  · split at h
    · rename_i q
      cases h
      rw [Bool.and_eq_true] at q
      obtain ⟨ds, rfl⟩ := seq_tup q.1 hb
      exact ⟨⟨_, if_pos (fin q.2 hb), _, rfl⟩, ⟨_, if_pos (fin q.2 hb), _, rfl⟩⟩
    · cases h
theorem cmpEq_shaped {x y : PyData} (hx : SeqAt.shaped x = true) (hy : SeqAt.shaped y = true) : cmpD .eq x y = some (PyData.eqv x y) := by
  have e1 : ∀ xs : List PyData, PyData.eqv (.tuple xs) (.tuple []) = xs.isEmpty := fun xs => by cases xs <;> rfl
  have e2 : ∀ xs : List PyData, PyData.eqv (.list xs) (.list []) = xs.isEmpty := fun xs => by cases xs <;> rfl
  have g : (if (SeqAt.shaped x && SeqAt.shaped y) = true then some (PyData.eqv x y) else none) = some (PyData.eqv x y) := by rw [hx, hy]; rfl
  cases x with
  | tuple xs => cases y with
    | tuple ys => cases ys with
      | nil => exact congrArg some (e1 _).symm
      | cons a r => exact g
    | _ => exact g
  | list xs => cases y with
    | list ys => cases ys with
      | nil => exact congrArg some (e2 _).symm
      | cons a r => exact g
    | _ => exact g
  | _ => cases y <;> exact g
theorem ite_map (x y : PyData) : (if (SeqAt.shaped x && SeqAt.shaped y) = true then some (!PyData.eqv x y) else none) = Option.map (fun r => !r) (if (SeqAt.shaped x && SeqAt.shaped y) = true then some (PyData.eqv x y) else none) := by split <;> rfl
theorem cmpNe_of {x y : PyData} {r : Bool} (h : cmpD .eq x y = some r) : cmpD .ne x y = some (!r) := by
  have g : ∀ x y : PyData, cmpD .ne x y = (cmpD .eq x y).map (fun r => !r) := fun x y => by
    cases x with
    | tuple xs => cases y with
      | tuple ys => cases ys with
        | nil => rfl
        | cons a r => exact ite_map _ _
      | _ => first | rfl | exact ite_map _ _
    | list xs => cases y with
      | list ys => cases ys with
        | nil => rfl
        | cons a r => exact ite_map _ _
      | _ => first | rfl | exact ite_map _ _
    | _ => cases y <;> first | rfl | exact ite_map _ _
  rw [g, h]; rfl
theorem eqSh_ok (hs : Sat s gs) {same : Bool} {a b c : Sh} {x y : PyData} (hsm : same = true → x = y) (h : eqSh gs same a b = some c) (ha : Has s a x) (hb : Has s b y) : ∃ r, cmpD .eq x y = some r ∧ Has s c (.bool r) := by
  have gen : ∀ {c : Sh}, (if shB 60 a && shB 60 b then some (if same then Sh.tt true else .bol) else none) = some c → ∃ r, cmpD .eq x y = some r ∧ Has s c (.bool r) := fun {c} h => by
    split at h
    · rename_i q
      rw [Bool.and_eq_true] at q
      cases h
      have h1 := shB_ok q.1 ha
      have h2 := shB_ok q.2 hb
      refine ⟨_, cmpEq_shaped h1 h2, ?_⟩
      split
      · rename_i e
        have := hsm e
        subst this
        exact has_tt (SeqAt.eqv_refl _ (SeqAt.canLay_of_shaped h1))
      · exact ⟨_, rfl⟩
    · cases h
  unfold eqSh at h
  split at h
  · obtain ⟨i, rfl, h1, h2⟩ := ha
    obtain ⟨j, rfl, h3, h4⟩ := hb
    cases h
    refine ⟨i == j, rfl, ?_⟩
    split
    · rename_i e; have := hsm e; cases this; exact has_tt (by simp)
    · exact eqShI_ok hs h1 h2 h3 h4
  · obtain ⟨xs, rfl, h1⟩ := ha
    obtain ⟨ys, rfl, h2⟩ := hb
    cases h2
    cases h
    exact ⟨_, rfl, emptySh_ok hs h1⟩
  · split at h
    · rename_i q
      obtain ⟨xs, rfl⟩ := seq_tup q ha
      cases hb
      cases h
      exact ⟨_, rfl, emptySh_ok hs ha⟩
    · split at h
      · rename_i q
        cases h
        cases hb
        exact ⟨_, cmpEq_shaped (shB_ok q ha) rfl, _, rfl⟩
      · cases h
  · exact gen h
theorem cmpSh_ok (hs : Sat s gs) {same : Bool} {o : Cm} {a b c : Sh} {x y : PyData} (hsm : same = true → x = y) (h : cmpSh gs same o a b = some c) (ha : Has s a x) (hb : Has s b y) : ∃ r, cmpD o x y = some r ∧ Has s c (.bool r) := by
  unfold cmpSh at h
  split at h
  · obtain ⟨i, rfl, h1, h2⟩ := ha
    obtain ⟨j, rfl, h3, h4⟩ := hb
    cases h
    exact ⟨_, rfl, ltSh_ok hs h1 h2 h3 h4⟩
  · obtain ⟨i, rfl, h1, h2⟩ := ha
    obtain ⟨j, rfl, h3, h4⟩ := hb
    cases h
    exact ⟨_, rfl, leShI_ok hs h1 h2 h3 h4⟩
  · obtain ⟨i, rfl, h1, h2⟩ := ha
    obtain ⟨j, rfl, h3, h4⟩ := hb
    cases h
    exact ⟨_, rfl, ltSh_ok hs h3 h4 h1 h2⟩
  · obtain ⟨i, rfl, h1, h2⟩ := ha
    obtain ⟨j, rfl, h3, h4⟩ := hb
    cases h
    exact ⟨_, rfl, leShI_ok hs h3 h4 h1 h2⟩
  · cases h; cases hb; exact ⟨_, by cases x <;> rfl, isNoneSh_ok ha⟩
  · cases h; cases hb; exact ⟨_, by cases x <;> rfl, notSh_ok (isNoneSh_ok ha)⟩
  · cases h; cases hb; exact ⟨_, by cases x <;> rfl, isBSh_ok _ ha⟩
  · cases h; cases hb; exact ⟨_, by cases x <;> rfl, notSh_ok (isBSh_ok _ ha)⟩
  · exact (inSh_ok h ha hb).1
  · exact (inSh_ok h ha hb).2
  · exact eqSh_ok hs hsm h ha hb
  · obtain ⟨q, hq, rfl⟩ := Option.map_eq_some_iff.mp h
    obtain ⟨r, h1, h2⟩ := eqSh_ok hs hsm hq ha hb
    exact ⟨_, cmpNe_of h1, notSh_ok h2⟩
  · cases h
end
end HM

namespace HM
open PySem
/-! AI5: places, cuts, built-ins, ranges on shapes -/
def atSh (gs : Gs) : Sh → Nat → Option Sh
  | .cons a _, 0 => some a
  | .cons _ r, n + 1 => atSh gs r n
  | .row e lo _, n => if leL gs (.c (n + 1)) lo then some e else none
  | _, _ => none
def ixJ (gs : Gs) (t : Sh) (l h : Option Lin) : Option Sh := match rowG gs t with
  | some (e, lo, _) => if leOO gs (osucc h) (some lo) && leOO gs (some (lo.mulC (-1))) l then some e else none
  | none => none
def ixT (gs : Gs) (t : Sh) (l h : Option Lin) : Option Sh := match consts l h with
  | some z => (match (if 0 ≤ z then atSh gs t z.toNat else match sizeSh t with
    | some n => if 0 ≤ (n : Int) + z then atSh gs t ((n : Int) + z).toNat else none
    | none => none) with
    | some a => some a
    | none => ixJ gs t l h)
  | none => ixJ gs t l h
def ixSh (gs : Gs) : Sh → Sh → Option Sh
  | .lst t, .int l h => ixT gs t l h
  | t, .int l h => if isSeq t then ixT gs t l h else none
  | _, _ => none
def dropSh : Sh → Nat → Sh
  | t, 0 => t
  | .cons _ r, n + 1 => dropSh r n
  | _, _ => .nil
def takeSh : Sh → Nat → Sh
  | _, 0 => .nil
  | .cons a r, n + 1 => .cons a (takeSh r n)
  | _, _ => .nil
/-- a slice's end -/
inductive End where
  | non | int (l h : Option Lin)
def endOf : Sh → Option End
  | .non => some .non
  | .int l h => some (.int l h)
  | _ => none
def endC (n dflt : Nat) : End → Option Nat
  | .non => some dflt
  | .int l h => (consts l h).map (sIx n)
def startZ : End → Bool
  | .non => true
  | .int l h => decide (consts l h = some 0)
def slG (gs : Gs) (e : Sh) (lo hi : Lin) (a b : End) : Sh :=
  match b with
  | .non => (match a with
    | .non => .row e lo hi
    | .int l h => (match consts l h with
      | some z => if 0 ≤ z && leL gs (.c z) lo then .row e (lo.addC (-z)) (hi.addC (-z)) else .row e (.c 0) hi
      | none => .row e (.c 0) hi))
  | .int l h => if startZ a then (match consts l h with
      | some z => if z ≤ 0 && leL gs (.c (-z)) lo && decide (z < 0) then .row e (lo.addC z) (hi.addC z) else if 0 ≤ z then (if leL gs (.c z) lo then .row e (.c z) (.c z) else .row e (.c 0) (if leL gs (.c z) hi then .c z else hi)) else .row e (.c 0) hi
      | none => (match onlo gs l with
        | some z => if 0 ≤ z then (match l, h with
          | some l, some h => .row e ((minL gs l lo).getD (.c 0)) (if leL gs h hi then h else hi)
          | _, _ => .row e (.c 0) hi) else .row e (.c 0) hi
        | none => .row e (.c 0) hi))
    else .row e (.c 0) hi
def slT (gs : Gs) (t : Sh) (a b : End) : Option Sh := match sizeSh t with
  | some n => (match endC n 0 a, endC n n b with
    | some x, some y => some (takeSh (dropSh t x) (y - x))
    | _, _ => (rowG gs t).map fun p => slG gs p.1 p.2.1 p.2.2 a b)
  | none => (rowG gs t).map fun p => slG gs p.1 p.2.1 p.2.2 a b
def slSh (gs : Gs) : Sh → Sh → Sh → Option Sh
  | .lst t, a, b => (match endOf a, endOf b with
    | some a, some b => (slT gs t a b).map .lst
    | _, _ => none)
  | t, a, b => if isSeq t then (match endOf a, endOf b with
    | some a, some b => slT gs t a b
    | _, _ => none) else none
section
variable {s : List Int} {gs : Gs}
theorem atSh_ok (hs : Sat s gs) : ∀ {t a : Sh} {n : Nat} {ds : List PyData}, atSh gs t n = some a → Has s t (.tuple ds) → ∃ x, ds[n]? = some x ∧ Has s a x := fun {t} => by
  induction t with
  | cons b r _ ih =>
    intro a n ds h e
    obtain ⟨x, ys, e0, h1, h2⟩ := e
    cases e0
    cases n with
    | zero => cases h; exact ⟨x, rfl, h1⟩
    | succ n => rw [List.getElem?_cons_succ]; exact ih h h2
  | row e lo hi _ =>
    intro a n ds h g
    obtain ⟨es, e0, h1, ⟨v, h2, h3⟩, _⟩ := g
    cases e0
    unfold atSh at h
    split at h
    · rename_i q
      cases h
      have := leL_ok hs q (show (Lin.c ((n : Int) + 1)).ev s = some ((n : Int) + 1) from rfl) h2
      have l : n < ds.length := by omega
      exact ⟨ds[n], List.getElem?_eq_getElem l, h1 _ (List.getElem_mem l)⟩
    · cases h
  | _ => intro a n ds h; cases n <;> cases h
theorem ixJ_ok (hs : Sat s gs) {t a : Sh} {l h : Option Lin} {i : Int} {ds : List PyData} (e : ixJ gs t l h = some a) (g : Has s t (.tuple ds)) (h1 : LoB s l i) (h2 : HiB s h i) : ∃ x, ixAt ds i = some x ∧ Has s a x := by
  unfold ixJ at e
  split at e
  · rename_i el lo hi hr
    obtain ⟨es, e0, r1, ⟨v, r2, r3⟩, _⟩ := rowG_ok hs hr g
    cases e0
    split at e
    · rename_i q
      cases e
      rw [Bool.and_eq_true] at q
      have q1 := leOO_ok hs q.1 (osucc_hi h2) (show LoB s (some lo) (ds.length : Int) from ⟨v, r2, r3⟩)
      have q2 := leOO_ok hs q.2 (show HiB s (some (lo.mulC (-1))) (-(v)) from ⟨_, ev_mulC (-1) r2, by omega⟩) h1
      unfold ixAt
      split
      · have hl : i.toNat < ds.length := by omega
        exact ⟨_, List.getElem?_eq_getElem hl, r1 _ (List.getElem_mem hl)⟩
      · rw [if_pos (by omega)]
        have hl : ((ds.length : Int) + i).toNat < ds.length := by omega
        exact ⟨_, List.getElem?_eq_getElem hl, r1 _ (List.getElem_mem hl)⟩
    · cases e
  · cases e
theorem sizeSh_ok : ∀ {t : Sh} {n : Nat} {ds : List PyData}, sizeSh t = some n → Has s t (.tuple ds) → ds.length = n := fun {t} => by
  induction t with
  | nil => intro n ds h e; cases h; cases e; rfl
  | cons a r _ ih =>
    intro n ds h e
    obtain ⟨x, ys, e0, h1, h2⟩ := e
    cases e0
    obtain ⟨q, hq, rfl⟩ := Option.map_eq_some_iff.mp h
    rw [List.length_cons, ih hq h2]
  | _ => intro n ds h; cases h
theorem ixT_ok (hs : Sat s gs) {t a : Sh} {l h : Option Lin} {i : Int} {ds : List PyData} (e : ixT gs t l h = some a) (g : Has s t (.tuple ds)) (h1 : LoB s l i) (h2 : HiB s h i) : ∃ x, ixAt ds i = some x ∧ Has s a x := by
  unfold ixT at e
  split at e
  · rename_i z hz
    have := consts_ok hz h1 h2
    subst this
    split at e
    · rename_i b hb
      cases e
      split at hb
      · rename_i hp
        obtain ⟨x, e1, e2⟩ := atSh_ok hs hb g
        exact ⟨x, by unfold ixAt; rw [if_pos hp]; exact e1, e2⟩
      · rename_i hp
        split at hb
        · rename_i n hn
          have hl := sizeSh_ok hn g
          split at hb
          · rename_i hq
            obtain ⟨x, e1, e2⟩ := atSh_ok hs hb g
            exact ⟨x, by unfold ixAt; rw [if_neg hp, hl, if_pos hq]; exact e1, e2⟩
          · cases hb
        · cases hb
    · exact ixJ_ok hs e g h1 h2
  · exact ixJ_ok hs e g h1 h2
theorem ixSh_ok (hs : Sat s gs) {a b c : Sh} {x y : PyData} (e : ixSh gs a b = some c) (ha : Has s a x) (hb : Has s b y) : ∃ z, ixD x y = some z ∧ Has s c z := by
  unfold ixSh at e
  split at e
  · obtain ⟨ds, rfl, h1⟩ := ha
    obtain ⟨i, rfl, h2, h3⟩ := hb
    exact ixT_ok hs e h1 h2 h3
  · split at e
    · rename_i q
      obtain ⟨ds, rfl⟩ := seq_tup q ha
      obtain ⟨i, rfl, h2, h3⟩ := hb
      exact ixT_ok hs e ha h2 h3
    · cases e
  · cases e
theorem dropSh_ok : ∀ {k : Nat} {t : Sh} {n : Nat} {ds : List PyData}, sizeSh t = some n → Has s t (.tuple ds) → Has s (dropSh t k) (.tuple (ds.drop k)) ∧ ∃ m, sizeSh (dropSh t k) = some m
  | 0, t, n, ds, h, e => by
    have : dropSh t 0 = t := by cases t <;> rfl
    rw [this]; exact ⟨e, n, h⟩
  | k + 1, t, n, ds, h, e => by
    cases t with
    | nil => cases e; exact ⟨rfl, 0, rfl⟩
    | cons a r =>
      obtain ⟨x, ys, e0, h1, h2⟩ := e
      cases e0
      obtain ⟨q, hq, rfl⟩ := Option.map_eq_some_iff.mp h
      exact dropSh_ok (k := k) hq h2
    | _ => cases h
theorem takeSh_ok : ∀ {k : Nat} {t : Sh} {n : Nat} {ds : List PyData}, sizeSh t = some n → Has s t (.tuple ds) → Has s (takeSh t k) (.tuple (ds.take k))
  | 0, t, n, ds, h, e => by
    have : takeSh t 0 = .nil := by cases t <;> rfl
    rw [this]; rfl
  | k + 1, t, n, ds, h, e => by
    cases t with
    | nil => cases e; rfl
    | cons a r =>
      obtain ⟨x, ys, e0, h1, h2⟩ := e
      cases e0
      obtain ⟨q, hq, rfl⟩ := Option.map_eq_some_iff.mp h
      exact ⟨x, ys.take k, rfl, h1, takeSh_ok (k := k) hq h2⟩
    | _ => cases h
def HasEnd (s : List Int) : End → PyData → Prop
  | .non, d => d = .none
  | .int l h, d => ∃ z, d = .int z ∧ LoB s l z ∧ HiB s h z
theorem endOf_ok {a : Sh} {e : End} {d : PyData} (h : endOf a = some e) (g : Has s a d) : HasEnd s e d := by
  unfold endOf at h
  split at h
  · cases h; exact g
  · cases h; exact g
  · cases h
theorem endC_ok {n m k : Nat} {e : End} {d : PyData} (h : endC n m e = some k) (g : HasEnd s e d) : slEnd n m d = some k := by
  cases e with
  | non => cases h; cases g; rfl
  | int l u =>
    obtain ⟨z, rfl, h1, h2⟩ := g
    obtain ⟨q, hq, rfl⟩ := Option.map_eq_some_iff.mp h
    rw [consts_ok hq h1 h2]; rfl
theorem slEnd_some {n m : Nat} {e : End} {d : PyData} (g : HasEnd s e d) : ∃ k, slEnd n m d = some k := by
  cases e with
  | non => cases g; exact ⟨_, rfl⟩
  | int l u => obtain ⟨z, rfl, _⟩ := g; exact ⟨_, rfl⟩
theorem cut_mem {α : Type} {xs : List α} {x y : Nat} {d : α} (h : d ∈ cut xs x y) : d ∈ xs := List.mem_of_mem_drop (List.mem_of_mem_take h)
theorem cut_len {α : Type} (xs : List α) (x y : Nat) : (cut xs x y).length = min (y - x) (xs.length - x) := by unfold cut; rw [List.length_take, List.length_drop]
theorem minLD_ok (hs : Sat s gs) {a b : Lin} {z : Int} (h : LoB s (some a) z ∨ LoB s (some b) z) (hz : 0 ≤ z) : LoB s (some ((minL gs a b).getD (.c 0))) z := by
  cases q : minL gs a b with
  | none => exact ⟨0, rfl, hz⟩
  | some c => exact minL_ok hs q h
theorem slG_ok (hs : Sat s gs) {e : Sh} {lo hi : Lin} {a b : End} {da db : PyData} {ds : List PyData} {x y : Nat} (g : Has s (.row e lo hi) (.tuple ds)) (ha : HasEnd s a da) (hb : HasEnd s b db) (hx : slEnd ds.length 0 da = some x) (hy : slEnd ds.length ds.length db = some y) : Has s (slG gs e lo hi a b) (.tuple (cut ds x y)) := by
  obtain ⟨es, e0, r1, ⟨v, r2, r3⟩, ⟨w, r4, r5⟩⟩ := g
  cases e0
  have mem : ∀ d ∈ cut ds x y, Has s e d := fun d hd => r1 d (cut_mem hd)
  have len := cut_len ds x y
  have any : Has s (.row e (.c 0) hi) (.tuple (cut ds x y)) := ⟨_, rfl, mem, ⟨0, rfl, Int.natCast_nonneg _⟩, ⟨w, r4, by omega⟩⟩
  have z0 : startZ a = true → x = 0 := fun h => by
    cases a with
    | non => cases ha; cases hx; rfl
    | int l u =>
      obtain ⟨z, rfl, h1, h2⟩ := ha
      have := consts_ok (of_decide_eq_true h) h1 h2
      subst this
      cases hx
      unfold sIx
      simp
  unfold slG
  split
  · -- b none
    cases hb
    cases hy
    split
    · cases ha; cases hx
      exact ⟨_, rfl, mem, ⟨v, r2, by omega⟩, ⟨w, r4, by omega⟩⟩
    · rename_i l u
      obtain ⟨z, rfl, h1, h2⟩ := ha
      split
      · rename_i z' hz
        have := consts_ok hz h1 h2
        subst this
        split
        · rename_i q
          rw [Bool.and_eq_true] at q
          have hz0 : 0 ≤ z := of_decide_eq_true q.1
          have := leL_ok hs q.2 (show (Lin.c z).ev s = some z from rfl) r2
          cases hx
          have hx' : sIx ds.length z = z.toNat := by unfold sIx; rw [if_pos hz0]; exact Nat.min_eq_left (by omega)
          rw [hx'] at len ⊢
          rw [hx'] at mem
          exact ⟨_, rfl, mem, ⟨_, ev_addC (-z) r2, by omega⟩, ⟨_, ev_addC (-z) r4, by omega⟩⟩
        · exact any
      · exact any
  · rename_i l u
    obtain ⟨z, rfl, h1, h2⟩ := hb
    split
    · rename_i hz0
      have x0 := z0 hz0
      subst x0
      cases hy
      split
      · rename_i z' hz
        have := consts_ok hz h1 h2
        subst this
        split
        · rename_i q
          rw [Bool.and_eq_true, Bool.and_eq_true] at q
          have hn : z < 0 := of_decide_eq_true q.2
          have := leL_ok hs q.1.2 (show (Lin.c (-z)).ev s = some (-z) from rfl) r2
          have hx' : sIx ds.length z = (ds.length + z).toNat := by unfold sIx; rw [if_neg (by omega)]
          rw [hx'] at len ⊢
          rw [hx'] at mem
          exact ⟨_, rfl, mem, ⟨_, ev_addC z r2, by omega⟩, ⟨_, ev_addC z r4, by omega⟩⟩
        · split
          · rename_i hp
            have hx' : sIx ds.length z = min z.toNat ds.length := by unfold sIx; rw [if_pos hp]
            rw [hx'] at len ⊢
            rw [hx'] at mem
            split
            · rename_i q
              have := leL_ok hs q (show (Lin.c z).ev s = some z from rfl) r2
              exact ⟨_, rfl, mem, ⟨z, rfl, by omega⟩, ⟨z, rfl, by omega⟩⟩
            · refine ⟨_, rfl, mem, ⟨0, rfl, Int.natCast_nonneg _⟩, ?_⟩
              split
              · exact ⟨z, rfl, by omega⟩
              · exact ⟨w, r4, by omega⟩
          · exact any
      · split
        · rename_i m hm
          split
          · rename_i hp
            have hz := onlo_ok hs hm h1
            have hx' : sIx ds.length z = min z.toNat ds.length := by unfold sIx; rw [if_pos (by omega)]
            split
            · rw [hx'] at len ⊢
              rw [hx'] at mem
              refine ⟨_, rfl, mem, minLD_ok hs ?_ (Int.natCast_nonneg _), ?_⟩
              · obtain ⟨p, p1, p2⟩ := h1
                rcases Nat.le_total z.toNat ds.length with k | k
                · exact .inl ⟨p, p1, by omega⟩
                · exact .inr ⟨v, r2, by omega⟩
              · split
                · obtain ⟨p, p1, p2⟩ := h2; exact ⟨p, p1, by omega⟩
                · exact ⟨w, r4, by omega⟩
            · exact any
          · exact any
        · exact any
    · exact any
theorem slT_ok (hs : Sat s gs) {t c : Sh} {a b : End} {da db : PyData} {ds : List PyData} (h : slT gs t a b = some c) (g : Has s t (.tuple ds)) (ha : HasEnd s a da) (hb : HasEnd s b db) : ∃ x y, slEnd ds.length 0 da = some x ∧ slEnd ds.length ds.length db = some y ∧ Has s c (.tuple (cut ds x y)) := by
  have gen : (rowG gs t).map (fun p => slG gs p.1 p.2.1 p.2.2 a b) = some c → ∃ x y, slEnd ds.length 0 da = some x ∧ slEnd ds.length ds.length db = some y ∧ Has s c (.tuple (cut ds x y)) := fun h => by
    obtain ⟨p, hp, rfl⟩ := Option.map_eq_some_iff.mp h
    obtain ⟨x, hx⟩ := slEnd_some (n := ds.length) (m := 0) ha
    obtain ⟨y, hy⟩ := slEnd_some (n := ds.length) (m := ds.length) hb
    exact ⟨x, y, hx, hy, slG_ok hs (rowG_ok hs hp g) ha hb hx hy⟩
  unfold slT at h
  split at h
  · rename_i n hn
    have hl := sizeSh_ok hn g
    split at h
    · rename_i x y hx hy
      cases h
      rw [← hl] at hx hy
      refine ⟨x, y, endC_ok hx ha, endC_ok hy hb, ?_⟩
      obtain ⟨h1, m, h2⟩ := dropSh_ok (k := x) hn g
      exact takeSh_ok h2 h1
    · exact gen h
  · exact gen h
theorem slSh_ok (hs : Sat s gs) {t a b c : Sh} {x y z : PyData} (h : slSh gs t a b = some c) (ht : Has s t x) (ha : Has s a y) (hb : Has s b z) : ∃ r, slD x y z = some r ∧ Has s c r := by
  unfold slSh at h
  split at h
  · obtain ⟨ds, rfl, h1⟩ := ht
    split at h
    · rename_i ea eb qa qb
      obtain ⟨q, hq, rfl⟩ := Option.map_eq_some_iff.mp h
      obtain ⟨i, j, hi, hj, r⟩ := slT_ok hs hq h1 (endOf_ok qa ha) (endOf_ok qb hb)
      exact ⟨.list (cut ds i j), by show (slEnd ds.length 0 y).bind _ = _; rw [hi, hj]; rfl, _, rfl, r⟩
    · cases h
  · split at h
    · rename_i q
      obtain ⟨ds, rfl⟩ := seq_tup q ht
      split at h
      · rename_i ea eb qa qb
        obtain ⟨i, j, hi, hj, r⟩ := slT_ok hs h ht (endOf_ok qa ha) (endOf_ok qb hb)
        exact ⟨.tuple (cut ds i j), by show (slEnd ds.length 0 y).bind _ = _; rw [hi, hj]; rfl, r⟩
      · cases h
    · cases h
end
end HM

namespace HM
open PySem
/-! AI6: built-ins, ranges on shapes -/
def numLen (gs : Gs) (lo hi : Lin) : Option (Int × Int) := match nlo gs lo, nhi gs hi with
  | some a, some b => some (max a 0, b)
  | _, _ => none
def sumSh (gs : Gs) (t : Sh) : Option Sh := match rowG gs t with
  | some (.int l h, lo, hi) => (match range4 gs l h, numLen gs lo hi with
    | some p, some q => some (.int (some (.c (if 0 ≤ p.1 then q.1 * p.1 else q.2 * p.1))) (some (.c (if 0 ≤ p.2 then q.2 * p.2 else q.1 * p.2))))
    | _, _ => some (.int none none))
  | some (.bot, _, _) => some (kI 0)
  | _ => none
def absSh (gs : Gs) (l h : Option Lin) : Sh := match range4 gs l h with
  | some p => if 0 ≤ p.1 then .int l h else .int (some (.c 0)) (some (.c (max p.1.natAbs p.2.natAbs)))
  | none => .int (some (.c 0)) none
def allSh (gs : Gs) (t : Sh) : Option Sh := match rowG gs t with
  | some (.tt true, _, _) => some (.tt true)
  | some (.tt false, _, _) => some .bol
  | some (.bol, _, _) => some .bol
  | some (.bot, _, _) => some (.tt true)
  | _ => none
def anySh (gs : Gs) (t : Sh) : Option Sh := match rowG gs t with
  | some (.tt true, _, _) => some .bol
  | some (.tt false, _, _) => some (.tt false)
  | some (.bol, _, _) => some .bol
  | some (.bot, _, _) => some (.tt false)
  | _ => none
def mostSh (gs : Gs) (t : Sh) : Option Sh := match rowG gs t with
  | some (.int l h, lo, _) => if leL gs (.c 1) lo then some (.int l h) else none
  | _ => none
def isPairS : Sh → Bool
  | .cons (.int _ _) (.cons (.int _ _) .nil) => true
  | _ => false
def sortSh (gs : Gs) (t : Sh) : Option Sh := match rowG gs t with
  | some (.int l h, lo, hi) => some (.lst (.row (.int l h) lo hi))
  | some (.bot, lo, hi) => some (.lst .nil)
  | some (e, lo, hi) => if isPairS e then some (.lst (.row e lo hi)) else none
  | none => none
def pickHi (gs : Gs) : Option Lin → Option Lin → Option Lin
  | some a, some b => some (if leL gs a b then a else b)
  | some a, none => some a
  | none, o => o
def pickLo (gs : Gs) : Option Lin → Option Lin → Option Lin
  | some a, some b => some (if leL gs a b then b else a)
  | some a, none => some a
  | none, o => o
def biSh (gs : Gs) : Bi → List Sh → Option Sh
  | .len, [.lst t] => (lenSh t).map fun p => .int (some p.1) (some p.2)
  | .len, [t] => if isSeq t then (lenSh t).map fun p => .int (some p.1) (some p.2) else none
  | .abs, [.int l h] => some (absSh gs l h)
  | .tuple, [.lst t] => some t
  | .tuple, [t] => if isSeq t then some t else none
  | .list, [.lst t] => some (.lst t)
  | .list, [t] => if isSeq t then some (.lst t) else none
  | .sum, [.lst t] => sumSh gs t
  | .all, [.lst t] => allSh gs t
  | .any, [.lst t] => anySh gs t
  | .min, [.lst t] => mostSh gs t
  | .max, [.lst t] => mostSh gs t
  | .min2, [.int l h, .int l' h'] => some (.int (obnd (minL gs) l l') (pickHi gs h h'))
  | .max2, [.int l h, .int l' h'] => some (.int (pickLo gs l l') (obnd (maxL gs) h h'))
  | .int, [.int l h] => some (.int l h)
  | .int, [.tt b] => some (kI (if b then 1 else 0))
  | .int, [.bol] => some (.int (some (.c 0)) (some (.c 1)))
  | .sorted, [.lst t] => sortSh gs t
  | _, _ => none
def rangeX : Int → Nat → Sh
  | _, 0 => .nil
  | z, n + 1 => .cons (kI z) (rangeX (z + 1) n)
def rngSh (gs : Gs) (l h l' h' : Option Lin) : Option Sh := match range4 gs l h, range4 gs l' h', l, h, l', h' with
  | some p, some q, some l, some h, some l', some h' => if -(2 ^ 62) ≤ p.1 ∧ p.2 < 2 ^ 62 ∧ -(2 ^ 62) ≤ q.1 ∧ q.2 < 2 ^ 62 ∧ q.2 - p.1 ≤ 16777216 then
      (if p.1 = p.2 ∧ q.1 = q.2 ∧ q.1 - p.1 ≤ 12 then some (.lst (rangeX p.1 (q.1 - p.1).toNat))
      else some (.lst (.row (.int (some l) (some (h'.addC (-1)))) (if leL gs h l' then l'.sub h else .c 0) (if leL gs l h' then h'.sub l else .c (max 0 (q.2 - p.1))))))
    else none
  | _, _, _, _, _, _ => none
def enumX : Int → Sh → Sh
  | k, .cons a r => .cons (.cons (kI k) (.cons a .nil)) (enumX (k + 1) r)
  | _, _ => .nil
def enumSh (gs : Gs) : Sh → Option Sh
  | .lst t => (match sizeSh t with
    | some _ => some (.lst (enumX 0 t))
    | none => (rowG gs t).map fun p => .lst (.row (.cons (.int (some (.c 0)) (some (p.2.2.addC (-1)))) (.cons p.1 .nil)) p.2.1 p.2.2))
  | _ => none
def zipX : Sh → Sh → Sh
  | .cons a r, .cons b t => .cons (.cons a (.cons b .nil)) (zipX r t)
  | _, _ => .nil
def zipT (gs : Gs) (t u : Sh) : Option Sh := match sizeSh t, sizeSh u with
  | some _, some _ => some (.lst (zipX t u))
  | _, _ => (match rowG gs t, rowG gs u with
    | some (e, lo, hi), some (e', lo', hi') => some (.lst (.row (.cons e (.cons e' .nil)) ((minL gs lo lo').getD (.c 0)) (if leL gs hi hi' then hi else hi')))
    | _, _ => none)
def zipSh (gs : Gs) : Sh → Sh → Option Sh
  | .lst t, .lst u => zipT gs t u
  | t, u => if isSeq t && isSeq u then zipT gs t u else none
def revX : Sh → Sh → Sh
  | .cons a r, u => revX r (.cons a u)
  | _, u => u
def revT (gs : Gs) (t : Sh) : Option Sh := match sizeSh t with
  | some _ => some (revX t .nil)
  | none => (rowG gs t).map fun p => .row p.1 p.2.1 p.2.2
def revSh (gs : Gs) : Sh → Option Sh
  | .lst t => (revT gs t).map .lst
  | t => if isSeq t then revT gs t else none
def tySh : Ty → Sh → Option Bool
  | _, .any | _, .dat .. | _, .opt _ => none
  | .int, .int .. | .int, .bol | .int, .tt _ | .bool, .bol | .bool, .tt _ | .str, .str _ | .list, .lst _ | .tuple, .nil | .tuple, .cons .. | .tuple, .row .. => some true
  | _, _ => some false
section
variable {s : List Int} {gs : Gs}
theorem intsD_of : ∀ {ds : List PyData}, (∀ x ∈ ds, ∃ z, x = .int z) → ∃ ns, intsD ds = some ns ∧ ds = ns.map .int
  | [], _ => ⟨[], rfl, rfl⟩
  | d :: r, h => by
    obtain ⟨z, rfl⟩ := h d List.mem_cons_self
    obtain ⟨ns, h1, h2⟩ := intsD_of fun x hx => h x (List.mem_cons_of_mem _ hx)
    exact ⟨z :: ns, by show (intsD r).map _ = _; rw [h1]; rfl, by rw [h2]; rfl⟩
theorem boolsD_of : ∀ {ds : List PyData}, (∀ x ∈ ds, ∃ z, x = .bool z) → ∃ ns, boolsD ds = some ns ∧ ds = ns.map .bool
  | [], _ => ⟨[], rfl, rfl⟩
  | d :: r, h => by
    obtain ⟨z, rfl⟩ := h d List.mem_cons_self
    obtain ⟨ns, h1, h2⟩ := boolsD_of fun x hx => h x (List.mem_cons_of_mem _ hx)
    exact ⟨z :: ns, by show (boolsD r).map _ = _; rw [h1]; rfl, by rw [h2]; rfl⟩
theorem pairsD_of : ∀ {ds : List PyData}, (∀ x ∈ ds, ∃ i j, x = .tuple [.int i, .int j]) → ∃ ps, pairsD ds = some ps ∧ ds = ps.map fun p => .tuple [.int p.1, .int p.2]
  | [], _ => ⟨[], rfl, rfl⟩
  | d :: r, h => by
    obtain ⟨i, j, rfl⟩ := h d List.mem_cons_self
    obtain ⟨ns, h1, h2⟩ := pairsD_of fun x hx => h x (List.mem_cons_of_mem _ hx)
    exact ⟨(i, j) :: ns, by show (pairsD r).map _ = _; rw [h1]; rfl, by rw [h2]; rfl⟩
theorem sum_ge {l : Int} : ∀ {ns : List Int}, (∀ n ∈ ns, l ≤ n) → (ns.length : Int) * l ≤ ns.sum
  | [], _ => by simp
  | n :: r, h => by
    have := sum_ge fun x hx => h x (List.mem_cons_of_mem n hx)
    have := h n List.mem_cons_self
    rw [List.length_cons, List.sum_cons, Int.natCast_succ, Int.add_mul]
    omega
theorem sum_le {l : Int} : ∀ {ns : List Int}, (∀ n ∈ ns, n ≤ l) → ns.sum ≤ (ns.length : Int) * l
  | [], _ => by simp
  | n :: r, h => by
    have := sum_le fun x hx => h x (List.mem_cons_of_mem n hx)
    have := h n List.mem_cons_self
    rw [List.length_cons, List.sum_cons, Int.natCast_succ, Int.add_mul]
    omega
theorem numLen_ok (hs : Sat s gs) {lo hi : Lin} {p : Int × Int} {n : Nat} (h : numLen gs lo hi = some p) (h1 : LoB s (some lo) (n : Int)) (h2 : HiB s (some hi) (n : Int)) : 0 ≤ p.1 ∧ p.1 ≤ (n : Int) ∧ (n : Int) ≤ p.2 := by
  unfold numLen at h
  split at h
  · rename_i a b ha hb
    cases h
    obtain ⟨v, v1, v2⟩ := h1
    obtain ⟨w, w1, w2⟩ := h2
    have := nlo_ok hs ha v1
    have := nhi_ok hs hb w1
    dsimp only
    omega
  · cases h
theorem row_ints {l h : Option Lin} {lo hi : Lin} {ds : List PyData} (g : Has s (.row (.int l h) lo hi) (.tuple ds)) : ∃ ns : List Int, intsD ds = some ns ∧ ds = ns.map .int ∧ (∀ n ∈ ns, LoB s l n ∧ HiB s h n) ∧ LoB s (some lo) (ns.length : Int) ∧ HiB s (some hi) (ns.length : Int) := by
  obtain ⟨es, e0, r1, r2, r3⟩ := g
  cases e0
  obtain ⟨ns, h1, h2⟩ := intsD_of fun x hx => by obtain ⟨z, e, _⟩ := r1 x hx; exact ⟨z, e⟩
  subst h2
  rw [List.length_map] at r2 r3
  refine ⟨ns, h1, rfl, fun n hn => ?_, r2, r3⟩
  obtain ⟨z, e, i1, i2⟩ := r1 (.int n) (List.mem_map_of_mem hn)
  cases e
  exact ⟨i1, i2⟩
theorem row_bot {lo hi : Lin} {ds : List PyData} (g : Has s (.row .bot lo hi) (.tuple ds)) : ds = [] := by
  obtain ⟨es, e0, r1, _⟩ := g
  cases e0
  cases ds with
  | nil => rfl
  | cons a r => exact absurd (r1 a List.mem_cons_self) (fun h => h)
theorem sumSh_ok (hs : Sat s gs) {t c : Sh} {ds : List PyData} (h : sumSh gs t = some c) (g : Has s t (.tuple ds)) : ∃ ns, intsD ds = some ns ∧ Has s c (.int ns.sum) := by
  unfold sumSh at h
  split at h
  · rename_i l u lo hi hr
    obtain ⟨ns, h1, _, h3, h4, h5⟩ := row_ints (rowG_ok hs hr g)
    refine ⟨ns, h1, ?_⟩
    split at h
    · rename_i p q hp hq
      cases h
      have b := fun n hn => range4_ok hs hp (h3 n hn).1 (h3 n hn).2
      have i1 := sum_ge fun n hn => (b n hn).1
      have i2 := sum_le fun n hn => (b n hn).2
      obtain ⟨q0, q1, q2⟩ := numLen_ok hs hq h4 h5
      refine ⟨_, rfl, ⟨_, rfl, ?_⟩, ⟨_, rfl, ?_⟩⟩
      · split
        · rename_i k; have := Int.mul_le_mul_of_nonneg_right q1 k; omega
        · rename_i k; have := Int.mul_le_mul_of_nonpos_right q2 (show p.1 ≤ 0 by omega); omega
      · split
        · rename_i k; have := Int.mul_le_mul_of_nonneg_right q2 k; omega
        · rename_i k; have := Int.mul_le_mul_of_nonpos_right q1 (show p.2 ≤ 0 by omega); omega
    · cases h; exact ⟨_, rfl, trivial, trivial⟩
  · rename_i lo hi hr
    cases h
    have := row_bot (rowG_ok hs hr g)
    subst this
    exact ⟨[], rfl, kI_ok 0⟩
  · cases h
theorem absSh_ok (hs : Sat s gs) {l h : Option Lin} {z : Int} (h1 : LoB s l z) (h2 : HiB s h z) : Has s (absSh gs l h) (.int (if z < 0 then -z else z)) := by
  unfold absSh
  split
  · rename_i p hp
    have i := range4_ok hs hp h1 h2
    split
    · rename_i k
      rw [if_neg (by omega)]
      exact ⟨z, rfl, h1, h2⟩
    · refine ⟨_, rfl, ⟨0, rfl, by split <;> omega⟩, ⟨_, rfl, by split <;> omega⟩⟩
  · exact ⟨_, rfl, ⟨0, rfl, by split <;> omega⟩, trivial⟩
theorem row_bools {P : Bool → Prop} {e : Sh} (he : ∀ d, Has s e d → ∃ b, d = .bool b ∧ P b) {lo hi : Lin} {ds : List PyData} (g : Has s (.row e lo hi) (.tuple ds)) : ∃ ns : List Bool, boolsD ds = some ns ∧ ∀ b ∈ ns, P b := by
  obtain ⟨es, e0, r1, r2, r3⟩ := g
  cases e0
  obtain ⟨ns, h1, h2⟩ := boolsD_of fun x hx => by obtain ⟨z, e, _⟩ := he x (r1 x hx); exact ⟨z, e⟩
  subst h2
  refine ⟨ns, h1, fun n hn => ?_⟩
  obtain ⟨z, e, i1⟩ := he _ (r1 (.bool n) (List.mem_map_of_mem hn))
  cases e
  exact i1
theorem allSh_ok (hs : Sat s gs) {t c : Sh} {ds : List PyData} (h : allSh gs t = some c) (g : Has s t (.tuple ds)) : ∃ ns, boolsD ds = some ns ∧ Has s c (.bool (ns.all id)) := by
  unfold allSh at h
  split at h
  · rename_i hr
    cases h
    obtain ⟨ns, h1, h2⟩ := row_bools (e := .tt true) (P := fun b => b = true) (fun d h => ⟨true, h, rfl⟩) (rowG_ok hs hr g)
    exact ⟨ns, h1, has_tt (List.all_eq_true.mpr fun b hb => h2 b hb)⟩
  · rename_i hr
    cases h
    obtain ⟨ns, h1, _⟩ := row_bools (e := .tt false) (P := fun _ => True) (fun d h => ⟨false, h, trivial⟩) (rowG_ok hs hr g)
    exact ⟨ns, h1, _, rfl⟩
  · rename_i hr
    cases h
    obtain ⟨ns, h1, _⟩ := row_bools (P := fun _ => True) (fun d h => by obtain ⟨b, h⟩ := h; exact ⟨b, h, trivial⟩) (rowG_ok hs hr g)
    exact ⟨ns, h1, _, rfl⟩
  · rename_i hr
    cases h
    have := row_bot (rowG_ok hs hr g)
    subst this
    exact ⟨[], rfl, rfl⟩
  · cases h
theorem anySh_ok (hs : Sat s gs) {t c : Sh} {ds : List PyData} (h : anySh gs t = some c) (g : Has s t (.tuple ds)) : ∃ ns, boolsD ds = some ns ∧ Has s c (.bool (ns.any id)) := by
  unfold anySh at h
  split at h
  · rename_i hr
    cases h
    obtain ⟨ns, h1, _⟩ := row_bools (e := .tt true) (P := fun _ => True) (fun d h => ⟨true, h, trivial⟩) (rowG_ok hs hr g)
    exact ⟨ns, h1, _, rfl⟩
  · rename_i hr
    cases h
    obtain ⟨ns, h1, h2⟩ := row_bools (e := .tt false) (P := fun b => b = false) (fun d h => ⟨false, h, rfl⟩) (rowG_ok hs hr g)
    exact ⟨ns, h1, has_tt (List.any_eq_false.mpr fun b hb => by rw [h2 b hb]; decide)⟩
  · rename_i hr
    cases h
    obtain ⟨ns, h1, _⟩ := row_bools (P := fun _ => True) (fun d h => by obtain ⟨b, h⟩ := h; exact ⟨b, h, trivial⟩) (rowG_ok hs hr g)
    exact ⟨ns, h1, _, rfl⟩
  · rename_i hr
    cases h
    have := row_bot (rowG_ok hs hr g)
    subst this
    exact ⟨[], rfl, rfl⟩
  · cases h
theorem leastI_mem : ∀ (ns : List Int) (m : Int), leastI m ns ∈ m :: ns
  | [], m => List.mem_cons_self
  | x :: r, m => by
    have := leastI_mem r (if x < m then x else m)
    unfold leastI
    rcases List.mem_cons.mp this with e | h
    · rw [e]; split
      · exact List.mem_cons_of_mem _ List.mem_cons_self
      · exact List.mem_cons_self
    · exact List.mem_cons_of_mem _ (List.mem_cons_of_mem _ h)
theorem mostI_mem : ∀ (ns : List Int) (m : Int), mostI m ns ∈ m :: ns
  | [], m => List.mem_cons_self
  | x :: r, m => by
    have := mostI_mem r (if m < x then x else m)
    unfold mostI
    rcases List.mem_cons.mp this with e | h
    · rw [e]; split
      · exact List.mem_cons_of_mem _ List.mem_cons_self
      · exact List.mem_cons_self
    · exact List.mem_cons_of_mem _ (List.mem_cons_of_mem _ h)
theorem mostSh_ok (hs : Sat s gs) {t c : Sh} {ds : List PyData} (h : mostSh gs t = some c) (g : Has s t (.tuple ds)) : ∃ n r, intsD ds = some (n :: r) ∧ Has s c (.int (leastI n r)) ∧ Has s c (.int (mostI n r)) := by
  unfold mostSh at h
  split at h
  · rename_i l u lo hi hr
    obtain ⟨ns, h1, _, h3, ⟨v, h4, h5⟩, _⟩ := row_ints (rowG_ok hs hr g)
    split at h
    · rename_i q
      cases h
      have := leL_ok hs q (show (Lin.c 1).ev s = some 1 from rfl) h4
      cases ns with
      | nil => rw [List.length_nil] at h5; omega
      | cons n r =>
        have i1 := h3 _ (leastI_mem r n)
        have i2 := h3 _ (mostI_mem r n)
        exact ⟨n, r, h1, ⟨_, rfl, i1.1, i1.2⟩, ⟨_, rfl, i2.1, i2.2⟩⟩
    · cases h
  · cases h
theorem insI_mem (x : Int) : ∀ (r : List Int) {y : Int}, y ∈ insI x r → y ∈ x :: r
  | [], y, h => h
  | z :: r, y, h => by
    unfold insI at h
    split at h
    · exact h
    · rcases List.mem_cons.mp h with e | h
      · rw [e]; exact List.mem_cons_of_mem _ List.mem_cons_self
      · rcases List.mem_cons.mp (insI_mem x r h) with e | h
        · rw [e]; exact List.mem_cons_self
        · exact List.mem_cons_of_mem _ (List.mem_cons_of_mem _ h)
theorem sortI_mem : ∀ {r : List Int} {y : Int}, y ∈ sortI r → y ∈ r
  | x :: r, y, h => by
    rcases List.mem_cons.mp (insI_mem x _ h) with e | h
    · rw [e]; exact List.mem_cons_self
    · exact List.mem_cons_of_mem _ (sortI_mem h)
theorem insI_len (x : Int) : ∀ r : List Int, (insI x r).length = r.length + 1
  | [] => rfl
  | z :: r => by unfold insI; split; · rfl
                 rw [List.length_cons, insI_len x r]; rfl
theorem sortI_len : ∀ r : List Int, (sortI r).length = r.length
  | [] => rfl
  | x :: r => by rw [sortI, insI_len, sortI_len r]; rfl
theorem insP_mem (x : Int × Int) : ∀ (r : List (Int × Int)) {y : Int × Int}, y ∈ insP x r → y ∈ x :: r
  | [], y, h => h
  | z :: r, y, h => by
    unfold insP at h
    split at h
    · rcases List.mem_cons.mp h with e | h
      · rw [e]; exact List.mem_cons_of_mem _ List.mem_cons_self
      · rcases List.mem_cons.mp (insP_mem x r h) with e | h
        · rw [e]; exact List.mem_cons_self
        · exact List.mem_cons_of_mem _ (List.mem_cons_of_mem _ h)
    · exact h
theorem sortP_mem : ∀ {r : List (Int × Int)} {y : Int × Int}, y ∈ sortP r → y ∈ r
  | x :: r, y, h => by
    rcases List.mem_cons.mp (insP_mem x _ h) with e | h
    · rw [e]; exact List.mem_cons_self
    · exact List.mem_cons_of_mem _ (sortP_mem h)
theorem insP_len (x : Int × Int) : ∀ r : List (Int × Int), (insP x r).length = r.length + 1
  | [] => rfl
  | z :: r => by unfold insP; split
                 · rw [List.length_cons, insP_len x r]; rfl
                 · rfl
theorem sortP_len : ∀ r : List (Int × Int), (sortP r).length = r.length
  | [] => rfl
  | x :: r => by rw [sortP, insP_len, sortP_len r]; rfl
theorem sortSh_ok (hs : Sat s gs) {t c : Sh} {ds : List PyData} (h : sortSh gs t = some c) (g : Has s t (.tuple ds)) : ∃ es, sortD ds = some es ∧ Has s c (.list es) := by
  unfold sortSh at h
  split at h
  · rename_i l u lo hi hr
    cases h
    obtain ⟨ns, h1, _, h3, h4, h5⟩ := row_ints (rowG_ok hs hr g)
    refine ⟨_, by unfold sortD; rw [h1], _, rfl, _, rfl, fun x hx => ?_, ?_, ?_⟩
    · obtain ⟨n, hn, rfl⟩ := List.mem_map.mp hx
      have := h3 n (sortI_mem hn)
      exact ⟨n, rfl, this.1, this.2⟩
    · rw [List.length_map, sortI_len]; exact h4
    · rw [List.length_map, sortI_len]; exact h5
  · rename_i lo hi hr
    cases h
    have := row_bot (rowG_ok hs hr g)
    subst this
    exact ⟨[], rfl, [], rfl, rfl⟩
  · rename_i e lo hi _ _ hr
    split at h
    · rename_i q
      cases h
      obtain ⟨es, e0, r1, r2, r3⟩ := rowG_ok hs hr g
      cases e0
      unfold isPairS at q
      split at q
      · rename_i l1 h1 l2 h2
        obtain ⟨ps, p1, p2⟩ := pairsD_of (ds := ds) fun x hx => by
          obtain ⟨a, r, rfl, ⟨i, rfl, _⟩, b, r', e2, ⟨j, rfl, _⟩, e3⟩ := r1 x hx
          cases e2
          cases e3
          exact ⟨i, j, rfl⟩
        cases ds with
        | nil => cases p1; exact ⟨[], rfl, [], rfl, [], rfl, (fun x hx => by cases hx), r2, r3⟩
        | cons d r =>
          obtain ⟨a, r0, rfl, ⟨i, rfl, _⟩, _⟩ := r1 _ List.mem_cons_self
          have e0 : intsD (.tuple (.int i :: r0) :: r) = none := rfl
          refine ⟨(sortP ps).map fun p => .tuple [.int p.1, .int p.2], by unfold sortD; rw [e0]; show (pairsD _).map _ = _; rw [p1]; rfl, _, rfl, _, rfl, fun x hx => ?_, ?_, ?_⟩
          · obtain ⟨p, hp, rfl⟩ := List.mem_map.mp hx
            have : PyData.tuple [.int p.1, .int p.2] ∈ ps.map fun p => PyData.tuple [.int p.1, .int p.2] := List.mem_map.mpr ⟨p, sortP_mem hp, rfl⟩
            rw [← p2] at this
            exact r1 _ this
          · rw [List.length_map, sortP_len]; rw [p2, List.length_map] at r2; exact r2
          · rw [List.length_map, sortP_len]; rw [p2, List.length_map] at r3; exact r3
      · cases q
    · cases h
  · cases h
/-- the data have the shapes -/
def HasL (s : List Int) : List Sh → List PyData → Prop
  | [], [] => True
  | a :: as, d :: ds => Has s a d ∧ HasL s as ds
  | _, _ => False
theorem HasL.one {a : Sh} {ds : List PyData} (h : HasL s [a] ds) : ∃ d, ds = [d] ∧ Has s a d := by
  cases ds with
  | nil => cases h
  | cons d r => cases r with
    | nil => exact ⟨d, rfl, h.1⟩
    | cons => exact absurd h.2 (fun h => h)
theorem HasL.two {a b : Sh} {ds : List PyData} (h : HasL s [a, b] ds) : ∃ d e, ds = [d, e] ∧ Has s a d ∧ Has s b e := by
  cases ds with
  | nil => cases h
  | cons d r =>
    obtain ⟨e, rfl, he⟩ := HasL.one (s := s) (a := b) (ds := r) h.2
    exact ⟨d, e, rfl, h.1, he⟩
theorem pickHi_ok {a b : Option Lin} {i j k : Int} (h : HiB s a i) (g : HiB s b j) (hi : k ≤ i) (hj : k ≤ j) : HiB s (pickHi gs a b) k := by
  have i1 : HiB s a k := by
    cases a with
    | none => trivial
    | some a => obtain ⟨v, v1, v2⟩ := h; exact ⟨v, v1, by omega⟩
  have i2 : HiB s b k := by
    cases b with
    | none => trivial
    | some a => obtain ⟨v, v1, v2⟩ := g; exact ⟨v, v1, by omega⟩
  cases a <;> cases b
  · trivial
  · exact i2
  · exact i1
  · unfold pickHi; dsimp only; split; · exact i1
    exact i2
theorem pickLo_ok {a b : Option Lin} {i j k : Int} (h : LoB s a i) (g : LoB s b j) (hi : i ≤ k) (hj : j ≤ k) : LoB s (pickLo gs a b) k := by
  have i1 : LoB s a k := by
    cases a with
    | none => trivial
    | some a => obtain ⟨v, v1, v2⟩ := h; exact ⟨v, v1, by omega⟩
  have i2 : LoB s b k := by
    cases b with
    | none => trivial
    | some a => obtain ⟨v, v1, v2⟩ := g; exact ⟨v, v1, by omega⟩
  cases a <;> cases b
  · trivial
  · exact i2
  · exact i1
  · unfold pickLo; dsimp only; split; · exact i2
    exact i1
theorem biSh_ok (hs : Sat s gs) {f : Bi} {as : List Sh} {c : Sh} {ds : List PyData} (h : biSh gs f as = some c) (g : HasL s as ds) : ∃ z, biD f ds = some z ∧ Has s c z := by
  have len : ∀ {t : Sh} {c : Sh} {xs : List PyData}, ((lenSh t).map fun p => Sh.int (some p.1) (some p.2)) = some c → Has s t (.tuple xs) → Has s c (.int xs.length) := fun h e => by
    obtain ⟨p, hp, rfl⟩ := Option.map_eq_some_iff.mp h
    obtain ⟨i1, i2⟩ := lenSh_ok hp e
    exact ⟨_, rfl, i1, i2⟩
  unfold biSh at h
  split at h
  · obtain ⟨d, rfl, xs, rfl, e⟩ := g.one
    exact ⟨_, rfl, len h e⟩
  · obtain ⟨d, rfl, e⟩ := g.one
    split at h
    · rename_i q
      obtain ⟨xs, rfl⟩ := seq_tup q e
      exact ⟨_, rfl, len h e⟩
    · cases h
  · obtain ⟨d, rfl, z, rfl, h1, h2⟩ := g.one
    cases h
    exact ⟨_, rfl, absSh_ok hs h1 h2⟩
  · obtain ⟨d, rfl, xs, rfl, e⟩ := g.one
    cases h
    exact ⟨_, rfl, e⟩
  · obtain ⟨d, rfl, e⟩ := g.one
    split at h
    · rename_i q
      obtain ⟨xs, rfl⟩ := seq_tup q e
      cases h
      exact ⟨_, rfl, e⟩
    · cases h
  · obtain ⟨d, rfl, xs, rfl, e⟩ := g.one
    cases h
    exact ⟨_, rfl, xs, rfl, e⟩
  · obtain ⟨d, rfl, e⟩ := g.one
    split at h
    · rename_i q
      obtain ⟨xs, rfl⟩ := seq_tup q e
      cases h
      exact ⟨_, rfl, xs, rfl, e⟩
    · cases h
  · obtain ⟨d, rfl, xs, rfl, e⟩ := g.one
    obtain ⟨ns, h1, h2⟩ := sumSh_ok hs h e
    exact ⟨_, by show (intsD xs).map _ = _; rw [h1]; rfl, h2⟩
  · obtain ⟨d, rfl, xs, rfl, e⟩ := g.one
    obtain ⟨ns, h1, h2⟩ := allSh_ok hs h e
    exact ⟨_, by show (boolsD xs).map _ = _; rw [h1]; rfl, h2⟩
  · obtain ⟨d, rfl, xs, rfl, e⟩ := g.one
    obtain ⟨ns, h1, h2⟩ := anySh_ok hs h e
    exact ⟨_, by show (boolsD xs).map _ = _; rw [h1]; rfl, h2⟩
  · obtain ⟨d, rfl, xs, rfl, e⟩ := g.one
    obtain ⟨n, r, h1, h2, h3⟩ := mostSh_ok hs h e
    exact ⟨_, by show (intsD xs).bind _ = _; rw [h1]; rfl, h2⟩
  · obtain ⟨d, rfl, xs, rfl, e⟩ := g.one
    obtain ⟨n, r, h1, h2, h3⟩ := mostSh_ok hs h e
    exact ⟨_, by show (intsD xs).bind _ = _; rw [h1]; rfl, h3⟩
  · obtain ⟨d, d', rfl, ⟨i, rfl, h1, h2⟩, ⟨j, rfl, h3, h4⟩⟩ := g.two
    cases h
    refine ⟨_, rfl, _, rfl, obndlo_ok hs ?_, pickHi_ok h2 h4 (by split <;> omega) (by split <;> omega)⟩
    split
    · exact .inr h3
    · exact .inl h1
  · obtain ⟨d, d', rfl, ⟨i, rfl, h1, h2⟩, ⟨j, rfl, h3, h4⟩⟩ := g.two
    cases h
    refine ⟨_, rfl, _, rfl, pickLo_ok h1 h3 (by split <;> omega) (by split <;> omega), obndhi_ok hs ?_⟩
    split
    · exact .inr h4
    · exact .inl h2
  · obtain ⟨d, rfl, z, rfl, h1, h2⟩ := g.one
    cases h
    exact ⟨_, rfl, z, rfl, h1, h2⟩
  · obtain ⟨d, rfl, e⟩ := g.one
    cases e
    cases h
    exact ⟨_, rfl, kI_ok _⟩
  · obtain ⟨d, rfl, b, rfl⟩ := g.one
    cases h
    exact ⟨_, rfl, _, rfl, ⟨0, rfl, by cases b <;> decide⟩, ⟨1, rfl, by cases b <;> decide⟩⟩
  · obtain ⟨d, rfl, xs, rfl, e⟩ := g.one
    obtain ⟨es, h1, h2⟩ := sortSh_ok hs h e
    exact ⟨_, by show (sortD xs).map _ = _; rw [h1]; rfl, h2⟩
  · cases h
theorem rangeX_ok : ∀ (n : Nat) (z : Int), Has s (rangeX z n) (.tuple (rangeD z n))
  | 0, z => rfl
  | n + 1, z => by
    have e : rangeD z (n + 1) = .int z :: rangeD (z + 1) n := by
      unfold rangeD
      rw [List.range_succ_eq_map, List.map_cons, List.map_map]
      congr 1
      · simp
      · exact List.map_congr_left fun k _ => by show PyData.int _ = PyData.int _; congr 1; simp; omega
    exact ⟨.int z, rangeD (z + 1) n, by rw [e], kI_ok z, rangeX_ok n (z + 1)⟩
theorem rngSh_ok (hs : Sat s gs) {l h l' h' : Option Lin} {c : Sh} {i j : Int} (e : rngSh gs l h l' h' = some c) (h1 : LoB s l i) (h2 : HiB s h i) (h3 : LoB s l' j) (h4 : HiB s h' j) : ∃ z, rngD (.int i) (.int j) = some z ∧ Has s c z := by
  unfold rngSh at e
  split at e
  · rename_i p q l h l' h' hp hq
    have b1 := range4_ok hs hp h1 h2
    have b2 := range4_ok hs hq h3 h4
    split at e
    · rename_i k
      obtain ⟨k1, k2, k3, k4, k5⟩ := k
      have ok : rngOk i j := by unfold rngOk SL; omega
      refine ⟨_, if_pos ok, ?_⟩
      split at e
      · rename_i k6
        cases e
        have e1 : i = p.1 := by omega
        have e2 : j = q.1 := by omega
        subst e1; subst e2
        exact ⟨_, rfl, rangeX_ok _ _⟩
      · cases e
        obtain ⟨v1, a1, a2⟩ := h1
        obtain ⟨v2, a3, a4⟩ := h2
        obtain ⟨v3, a5, a6⟩ := h3
        obtain ⟨v4, a7, a8⟩ := h4
        have len : ((rangeD i (j - i).toNat).length : Int) = ((j - i).toNat : Nat) := by simp [rangeD]
        refine ⟨_, rfl, _, rfl, fun x hx => ?_, ?_, ?_⟩
        · obtain ⟨m, hm, rfl⟩ := List.mem_map.mp hx
          have := List.mem_range.mp hm
          exact ⟨_, rfl, ⟨v1, a1, by omega⟩, ⟨_, ev_addC (-1) a7, by omega⟩⟩
        · rw [len]
          split
          · rename_i q; have := leL_ok hs q a3 a5; exact ⟨_, ev_sub a5 a3, by omega⟩
          · exact ⟨0, rfl, by omega⟩
        · rw [len]
          split
          · rename_i q; have := leL_ok hs q a1 a7; exact ⟨_, ev_sub a7 a1, by omega⟩
          · exact ⟨_, rfl, by omega⟩
    · cases e
  · cases e
theorem enumX_ok : ∀ {t : Sh} {n : Nat} {ds : List PyData} (k : Nat), sizeSh t = some n → Has s t (.tuple ds) → Has s (enumX k t) (.tuple (enumFrom k ds)) := fun {t} => by
  induction t with
  | nil => intro n ds k h e; cases e; rfl
  | cons a r _ ih =>
    intro n ds k h e
    obtain ⟨x, ys, e0, h1, h2⟩ := e
    cases e0
    obtain ⟨q, hq, rfl⟩ := Option.map_eq_some_iff.mp h
    exact ⟨_, _, rfl, ⟨_, _, rfl, kI_ok _, _, _, rfl, h1, rfl⟩, ih (k + 1) hq h2⟩
  | _ => intro n ds k h; cases h
theorem aenum_len : ∀ (ds : List PyData) (k : Nat), (enumFrom k ds).length = ds.length
  | [], _ => rfl
  | d :: r, k => by rw [enumFrom, List.length_cons, aenum_len r, List.length_cons]
theorem enumFrom_mem : ∀ {ds : List PyData} {k : Nat} {x : PyData}, x ∈ enumFrom k ds → ∃ (i : Nat) (d : PyData), x = .tuple [.int i, d] ∧ d ∈ ds ∧ k ≤ i ∧ i < k + ds.length
  | [], k, x, h => by cases h
  | d :: r, k, x, h => by
    unfold enumFrom at h
    rcases List.mem_cons.mp h with e | h
    · exact ⟨k, d, e, List.mem_cons_self, Nat.le_refl _, by rw [List.length_cons]; omega⟩
    · obtain ⟨i, d', e, h1, h2, h3⟩ := enumFrom_mem h
      exact ⟨i, d', e, List.mem_cons_of_mem _ h1, by omega, by rw [List.length_cons]; omega⟩
theorem enumSh_ok (hs : Sat s gs) {a c : Sh} {x : PyData} (h : enumSh gs a = some c) (e : Has s a x) : ∃ z, enumD x = some z ∧ Has s c z := by
  unfold enumSh at h
  split at h
  · obtain ⟨ds, rfl, e⟩ := e
    refine ⟨_, rfl, ?_⟩
    split at h
    · rename_i n hn
      cases h
      exact ⟨_, rfl, enumX_ok 0 hn e⟩
    · obtain ⟨p, hp, rfl⟩ := Option.map_eq_some_iff.mp h
      obtain ⟨es, e0, r1, r2, ⟨w, r3, r4⟩⟩ := rowG_ok hs hp e
      cases e0
      refine ⟨_, rfl, _, rfl, fun x hx => ?_, by rw [aenum_len]; exact r2, by rw [aenum_len]; exact ⟨w, r3, r4⟩⟩
      obtain ⟨i, d, rfl, h1, h2, h3⟩ := enumFrom_mem hx
      exact ⟨_, _, rfl, ⟨_, rfl, ⟨0, rfl, by omega⟩, ⟨_, ev_addC (-1) r3, by omega⟩⟩, _, _, rfl, r1 d h1, rfl⟩
  · cases h
theorem zipX_ok : ∀ {t u : Sh} {m n : Nat} {ds es : List PyData}, sizeSh t = some m → sizeSh u = some n → Has s t (.tuple ds) → Has s u (.tuple es) → Has s (zipX t u) (.tuple (zipL ds es)) := fun {t} => by
  induction t with
  | nil => intro u m n ds es h g e f; cases e; rfl
  | cons a r _ ih =>
    intro u m n ds es h g e f
    obtain ⟨x, ys, e0, h1, h2⟩ := e
    cases e0
    obtain ⟨q, hq, rfl⟩ := Option.map_eq_some_iff.mp h
    cases u with
    | nil => cases f; rfl
    | cons b u' =>
      obtain ⟨x', ys', e0, g1, g2⟩ := f
      cases e0
      obtain ⟨q', hq', rfl⟩ := Option.map_eq_some_iff.mp g
      exact ⟨_, _, rfl, ⟨_, _, rfl, h1, _, _, rfl, g1, rfl⟩, ih hq hq' h2 g2⟩
    | _ => cases g
  | _ => intro u m n ds es h; cases h
theorem azip_len : ∀ (ds es : List PyData), (zipL ds es).length = min ds.length es.length
  | [], es => by cases es <;> simp [zipL]
  | d :: r, [] => by simp [zipL]
  | d :: r, e :: t => by rw [zipL, List.length_cons, azip_len r t, List.length_cons, List.length_cons]; omega
theorem zipL_mem : ∀ {ds es : List PyData} {x : PyData}, x ∈ zipL ds es → ∃ a b, x = .tuple [a, b] ∧ a ∈ ds ∧ b ∈ es
  | [], es, x, h => by cases es <;> cases h
  | d :: r, [], x, h => by cases h
  | d :: r, e :: t, x, h => by
    rcases List.mem_cons.mp h with q | h
    · exact ⟨d, e, q, List.mem_cons_self, List.mem_cons_self⟩
    · obtain ⟨a, b, q, h1, h2⟩ := zipL_mem h
      exact ⟨a, b, q, List.mem_cons_of_mem _ h1, List.mem_cons_of_mem _ h2⟩
theorem zipT_ok (hs : Sat s gs) {t u c : Sh} {ds es : List PyData} (h : zipT gs t u = some c) (e : Has s t (.tuple ds)) (f : Has s u (.tuple es)) : Has s c (.list (zipL ds es)) := by
  unfold zipT at h
  split at h
  · rename_i m n hm hn
    cases h
    exact ⟨_, rfl, zipX_ok hm hn e f⟩
  · split at h
    · rename_i e1 lo hi e2 lo' hi' q1 q2
      cases h
      obtain ⟨_, z0, r1, ⟨v, r2, r3⟩, ⟨w, r4, r5⟩⟩ := rowG_ok hs q1 e
      cases z0
      obtain ⟨_, z0, s1, ⟨v', s2, s3⟩, ⟨w', s4, s5⟩⟩ := rowG_ok hs q2 f
      cases z0
      refine ⟨_, rfl, _, rfl, fun x hx => ?_, minLD_ok hs ?_ (Int.natCast_nonneg _), ?_⟩
      · obtain ⟨a, b, rfl, h1, h2⟩ := zipL_mem hx
        exact ⟨_, _, rfl, r1 a h1, _, _, rfl, s1 b h2, rfl⟩
      · rw [azip_len]
        rcases Nat.le_total ds.length es.length with k | k
        · exact .inl ⟨v, r2, by omega⟩
        · exact .inr ⟨v', s2, by omega⟩
      · rw [azip_len]
        split
        · exact ⟨w, r4, by omega⟩
        · exact ⟨w', s4, by omega⟩
    · cases h
theorem zipSh_ok (hs : Sat s gs) {a b c : Sh} {x y : PyData} (h : zipSh gs a b = some c) (e : Has s a x) (f : Has s b y) : ∃ z, zipD x y = some z ∧ Has s c z := by
  unfold zipSh at h
  split at h
  · obtain ⟨ds, rfl, e⟩ := e
    obtain ⟨es, rfl, f⟩ := f
    exact ⟨_, rfl, zipT_ok hs h e f⟩
  · split at h
    · rename_i q
      rw [Bool.and_eq_true] at q
      obtain ⟨ds, rfl⟩ := seq_tup q.1 e
      obtain ⟨es, rfl⟩ := seq_tup q.2 f
      exact ⟨_, rfl, zipT_ok hs h e f⟩
    · cases h
theorem revX_ok : ∀ {t u : Sh} {n : Nat} {ds es : List PyData}, sizeSh t = some n → Has s t (.tuple ds) → Has s u (.tuple es) → Has s (revX t u) (.tuple (ds.reverse ++ es)) := fun {t} => by
  induction t with
  | nil => intro u n ds es h e f; cases e; exact f
  | cons a r _ ih =>
    intro u n ds es h e f
    obtain ⟨x, ys, e0, h1, h2⟩ := e
    cases e0
    obtain ⟨q, hq, rfl⟩ := Option.map_eq_some_iff.mp h
    rw [List.reverse_cons, List.append_assoc]
    exact ih hq h2 ⟨x, es, rfl, h1, f⟩
  | _ => intro u n ds es h; cases h
theorem revT_ok (hs : Sat s gs) {t c : Sh} {ds : List PyData} (h : revT gs t = some c) (e : Has s t (.tuple ds)) : Has s c (.tuple ds.reverse) := by
  unfold revT at h
  split at h
  · rename_i n hn
    cases h
    have := revX_ok (u := .nil) (es := []) hn e rfl
    rw [List.append_nil] at this
    exact this
  · obtain ⟨p, hp, rfl⟩ := Option.map_eq_some_iff.mp h
    obtain ⟨es, e0, r1, r2, r3⟩ := rowG_ok hs hp e
    cases e0
    exact ⟨_, rfl, fun x hx => r1 x (List.mem_reverse.mp hx), by rw [List.length_reverse]; exact r2, by rw [List.length_reverse]; exact r3⟩
theorem revSh_ok (hs : Sat s gs) {a c : Sh} {x : PyData} (h : revSh gs a = some c) (e : Has s a x) : ∃ z, revD x = some z ∧ Has s c z := by
  unfold revSh at h
  split at h
  · obtain ⟨ds, rfl, e⟩ := e
    obtain ⟨p, hp, rfl⟩ := Option.map_eq_some_iff.mp h
    exact ⟨_, rfl, _, rfl, revT_ok hs hp e⟩
  · split at h
    · rename_i q
      obtain ⟨ds, rfl⟩ := seq_tup q e
      exact ⟨_, rfl, revT_ok hs h e⟩
    · cases h
theorem tySh_ok {t : Ty} {a : Sh} {b : Bool} {d : PyData} (h : tySh t a = some b) (e : Has s a d) : isTy t d = b := by
  cases a with
  | any => cases t <;> cases h
  | dat => cases t <;> cases h
  | opt => cases t <;> cases h
  | bot => cases e
  | non => cases e; cases t <;> cases h <;> rfl
  | bol => obtain ⟨_, rfl⟩ := e; cases t <;> cases h <;> rfl
  | tt => cases e; cases t <;> cases h <;> rfl
  | int => obtain ⟨_, rfl, _⟩ := e; cases t <;> cases h <;> rfl
  | str o => cases o <;> first | (obtain ⟨_, rfl, _⟩ := e; cases t <;> cases h <;> rfl) | (cases e; cases t <;> cases h <;> rfl)
  | nil => cases e; cases t <;> cases h <;> rfl
  | cons => obtain ⟨_, _, rfl, _⟩ := e; cases t <;> cases h <;> rfl
  | row => obtain ⟨_, rfl, _⟩ := e; cases t <;> cases h <;> rfl
  | lst => obtain ⟨_, rfl, _⟩ := e; cases t <;> cases h <;> rfl
end
end HM

namespace HM
open PySem
/-! AI7: values with names, states, ways -/
inductive Tm where
  | hole | v (n : Nat) | ki (z : Int) | kb (b : Bool) | kn | nil | cons (a b : Tm) | li (a : Tm) | ap (f : Nat) (a : Tm)
def Tm.beq : Tm → Tm → Bool
  | .hole, .hole => true
  | .v m, .v n => decide (m = n)
  | .ki m, .ki n => decide (m = n)
  | .kb m, .kb n => decide (m = n)
  | .kn, .kn => true
  | .nil, .nil => true
  | .cons a b, .cons c d => a.beq c && b.beq d
  | .li a, .li b => a.beq b
  | .ap f a, .ap g b => decide (f = g) && a.beq b
  | _, _ => false
def Tm.full : Tm → Bool
  | .hole => false
  | .cons a b => a.full && b.full
  | .li a => a.full
  | .ap _ a => a.full
  | _ => true
def Tm.under (n : Nat) : Tm → Bool
  | .v m => decide (m < n)
  | .cons a b => a.under n && b.under n
  | .li a => a.under n
  | .ap _ a => a.under n
  | _ => true
abbrev Itp := Nat → List PyData → PyData
structure Sg where
  g : List Int
  w : List PyData
def Sg.le (s t : Sg) : Prop := ∃ a b, t.g = s.g ++ a ∧ t.w = s.w ++ b
section
variable (I : Itp)
def TmHas (w : List PyData) : Tm → PyData → Prop
  | .hole, _ => True
  | .v n, d => w[n]? = some d
  | .ki z, d => d = .int z
  | .kb b, d => d = .bool b
  | .kn, d => d = .none
  | .nil, d => d = .tuple []
  | .cons a b, d => ∃ x r, d = .tuple (x :: r) ∧ TmHas w a x ∧ TmHas w b (.tuple r)
  | .li a, d => ∃ ds, d = .list ds ∧ TmHas w a (.tuple ds)
  | .ap f a, d => ∃ ds, TmHas w a (.tuple ds) ∧ d = I f ds
structure Va where
  sh : Sh
  tm : Tm
def HasV (s : Sg) (v : Va) (d : PyData) : Prop := Has s.g v.sh d ∧ TmHas I s.w v.tm d
inductive As where
  | un | val (v : Va) | mu (t : Sh) | par (t : Sh) | jk | jm
def HasS (s : Sg) : As → Slot → Prop
  | .un, x => x = .un
  | .val v, x => ∃ d, x = .val d ∧ HasV I s v d
  | .mu t, x => ∃ ds, x = .mu ds ∧ Has s.g t (.tuple ds)
  | .par t, x => ∃ ds, x = .par ds ∧ Has s.g t (.tuple ds)
  | .jk, x => x = .un ∨ ∃ d, x = .val d
  | .jm, x => x = .un ∨ (∃ d, x = .val d) ∨ ∃ ds, x = .mu ds
def EnvOk (s : Sg) : List As → Env → Prop
  | [], [] => True
  | a :: as, x :: r => HasS I s a x ∧ EnvOk s as r
  | _, _ => False
structure St where
  gs : Gs
  nv : Nat
  env : List As
  fs : List (Tm × Bool)
def BOk (s : Sg) (st : St) : Prop := Sat s.g st.gs ∧ s.w.length = st.nv ∧ ∀ p ∈ st.fs, TmHas I s.w p.1 (.bool p.2)
def StOk (s : Sg) (st : St) (r : Env) : Prop := BOk I s st ∧ EnvOk I s st.env r
end
inductive Al (α : Type) where
  | ok (a : α) (s : St)
  | ex (c : Nat) (a : Option Va) (s : St)
inductive M (α : Type) where
  | er (p : List Nat)
  | ok (l : List (Al α))
def bindL {α β : Type} : List (Al α) → (α → St → M β) → M β
  | [], _ => .ok []
  | .ok a s :: r, f => match f a s with
    | .er p => .er p
    | .ok l => (match bindL r f with
      | .er p => .er p
      | .ok l' => .ok (l ++ l'))
  | .ex c v s :: r, f => match bindL r f with
    | .er p => .er p
    | .ok l' => .ok (.ex c v s :: l')
def M.bind {α β : Type} : M α → (α → St → M β) → M β
  | .er p, _ => .er p
  | .ok l, f => bindL l f
def M.one {α : Type} (a : α) (s : St) : M α := .ok [.ok a s]
section
variable (I : Itp)
def XArg (s : Sg) : Option Va → Option PyData → Prop
  | none, none => True
  | some v, some d => HasV I s v d
  | _, _ => False
def AlOk {α β : Type} (P : Sg → α → β → Prop) (s : Sg) (r : R β) : Al α → Prop
  | .ok a st => ∃ t, s.le t ∧ ∃ b ρ, r = .ok b ρ ∧ StOk I t st ρ ∧ P t a b
  | .ex c v st => ∃ t, s.le t ∧ ∃ x ρ, r = .exc x ρ ∧ x.cls = c ∧ StOk I t st ρ ∧ XArg I t v x.arg
def MOk {α β : Type} (P : Sg → α → β → Prop) (s : Sg) (l : List (Al α)) (r : R β) : Prop := ∃ al ∈ l, AlOk I P s r al
end
section
variable {I : Itp} {s t u : Sg}
theorem Sg.le.rf : s.le s := ⟨[], [], (List.append_nil _).symm, (List.append_nil _).symm⟩
theorem Sg.le.tr (h : s.le t) (g : t.le u) : s.le u := by
  obtain ⟨a, b, h1, h2⟩ := h
  obtain ⟨c, d, h3, h4⟩ := g
  exact ⟨a ++ c, b ++ d, by rw [h3, h1, List.append_assoc], by rw [h4, h2, List.append_assoc]⟩
theorem Tm.beq_eq : ∀ {a b : Tm}, a.beq b = true → a = b := fun {a} => by
  induction a with
  | hole => intro b h; cases b <;> first | rfl | cases h
  | kn => intro b h; cases b <;> first | rfl | cases h
  | nil => intro b h; cases b <;> first | rfl | cases h
  | v n => intro b h; cases b <;> first | (rw [of_decide_eq_true h]) | cases h
  | ki n => intro b h; cases b <;> first | (rw [of_decide_eq_true h]) | cases h
  | kb n => intro b h; cases b <;> first | (rw [of_decide_eq_true h]) | cases h
  | cons x r hx hr =>
    intro b h
    cases b <;> first | cases h | skip
    unfold Tm.beq at h
    rw [Bool.and_eq_true] at h
    rw [hx h.1, hr h.2]
  | li x hx =>
    intro b h
    cases b <;> first | cases h | skip
    rw [hx h]
  | ap f x hx =>
    intro b h
    cases b <;> first | cases h | skip
    unfold Tm.beq at h
    rw [Bool.and_eq_true] at h
    rw [of_decide_eq_true h.1, hx h.2]
theorem TmHas.mono {w w' : List PyData} : ∀ {a : Tm} {d : PyData}, TmHas I w a d → TmHas I (w ++ w') a d
  | .hole, _, h => h
  | .v n, _, h => by
    obtain ⟨l, e⟩ := List.getElem?_eq_some_iff.mp h
    show (w ++ w')[n]? = _
    rw [List.getElem?_append_left l]; exact h
  | .ki _, _, h => h
  | .kb _, _, h => h
  | .kn, _, h => h
  | .nil, _, h => h
  | .cons .., _, ⟨x, r, e, h1, h2⟩ => ⟨x, r, e, h1.mono, h2.mono⟩
  | .li .., _, ⟨ds, e, h1⟩ => ⟨ds, e, h1.mono⟩
  | .ap .., _, ⟨ds, h1, h2⟩ => ⟨ds, h1.mono, h2⟩
theorem TmHas.cut {w w' : List PyData} : ∀ {a : Tm} {d : PyData}, a.under w.length = true → TmHas I (w ++ w') a d → TmHas I w a d
  | .hole, _, _, h => h
  | .v n, _, q, h => by
    have : n < w.length := of_decide_eq_true q
    show w[n]? = _
    have h : (w ++ w')[n]? = _ := h
    rw [List.getElem?_append_left this] at h; exact h
  | .ki _, _, _, h => h
  | .kb _, _, _, h => h
  | .kn, _, _, h => h
  | .nil, _, _, h => h
  | .cons .., _, q, ⟨x, r, e, h1, h2⟩ => by
    unfold Tm.under at q
    rw [Bool.and_eq_true] at q
    exact ⟨x, r, e, h1.cut q.1, h2.cut q.2⟩
  | .li .., _, q, ⟨ds, e, h1⟩ => ⟨ds, e, h1.cut q⟩
  | .ap .., _, q, ⟨ds, h1, h2⟩ => ⟨ds, h1.cut q, h2⟩
theorem TmHas.uniq {w : List PyData} : ∀ {a : Tm} {d e : PyData}, a.full = true → TmHas I w a d → TmHas I w a e → d = e := fun {a} => by
  induction a with
  | hole => intro d e q; cases q
  | v n => intro d e _ h g; have h : w[n]? = some d := h; have g : w[n]? = some e := g; rw [h] at g; cases g; rfl
  | ki n => intro d e _ h g; cases h; cases g; rfl
  | kb n => intro d e _ h g; cases h; cases g; rfl
  | kn => intro d e _ h g; cases h; cases g; rfl
  | nil => intro d e _ h g; cases h; cases g; rfl
  | cons x r hx hr =>
    intro d e q h g
    unfold Tm.full at q
    rw [Bool.and_eq_true] at q
    obtain ⟨a1, r1, rfl, h1, h2⟩ := h
    obtain ⟨a2, r2, rfl, g1, g2⟩ := g
    have e1 := hx q.1 h1 g1
    have e2 := hr q.2 h2 g2
    cases e2
    rw [e1]
  | li x hx =>
    intro d e q h g
    obtain ⟨r1, rfl, h1⟩ := h
    obtain ⟨r2, rfl, g1⟩ := g
    have := hx q h1 g1
    cases this
    rfl
  | ap f x hx =>
    intro d e q h g
    obtain ⟨r1, h1, rfl⟩ := h
    obtain ⟨r2, g1, rfl⟩ := g
    have := hx q h1 g1
    cases this
    rfl
theorem HasV.mono {v : Va} {d : PyData} (h : HasV I s v d) (l : s.le t) : HasV I t v d := by
  obtain ⟨a, b, h1, h2⟩ := l
  exact ⟨by rw [h1]; exact h.1.mono, by rw [h2]; exact h.2.mono⟩
theorem Has.le {a : Sh} {d : PyData} (h : Has s.g a d) (l : s.le t) : Has t.g a d := by
  obtain ⟨_, _, h1, _⟩ := l
  rw [h1]; exact h.mono
theorem HasS.mono {a : As} {x : Slot} (h : HasS I s a x) (l : s.le t) : HasS I t a x := by
  cases a with
  | un => exact h
  | val v => obtain ⟨d, e, h⟩ := h; exact ⟨d, e, h.mono l⟩
  | mu v => obtain ⟨d, e, h⟩ := h; exact ⟨d, e, h.le l⟩
  | par v => obtain ⟨d, e, h⟩ := h; exact ⟨d, e, h.le l⟩
  | jk => exact h
  | jm => exact h
theorem EnvOk.mono : ∀ {as : List As} {ρ : Env}, EnvOk I s as ρ → s.le t → EnvOk I t as ρ
  | [], [], _, _ => trivial
  | _ :: _, _ :: _, h, l => ⟨h.1.mono l, h.2.mono l⟩
  | [], _ :: _, h, _ => by cases h
  | _ :: _, [], h, _ => by cases h
theorem EnvOk.len : ∀ {as : List As} {ρ : Env}, EnvOk I s as ρ → as.length = ρ.length
  | [], [], _ => rfl
  | _ :: _, _ :: _, h => by rw [List.length_cons, List.length_cons, h.2.len]
  | [], _ :: _, h => by cases h
  | _ :: _, [], h => by cases h
theorem EnvOk.get : ∀ {as : List As} {ρ : Env} {i : Nat} {a : As}, EnvOk I s as ρ → as[i]? = some a → ∃ x, ρ[i]? = some x ∧ HasS I s a x ∧ getS ρ i = x
  | [], [], i, a, _, e => by simp at e
  | b :: _, x :: _, 0, a, h, e => by
    cases e
    exact ⟨x, rfl, h.1, rfl⟩
  | _ :: as, x :: r, i + 1, a, h, e => by
    obtain ⟨y, h1, h2, h3⟩ := EnvOk.get (i := i) h.2 (by simpa using e)
    exact ⟨y, by simpa using h1, h2, h3⟩
  | [], _ :: _, _, _, h, _ => by cases h
  | _ :: _, [], _, _, h, _ => by cases h
theorem EnvOk.set : ∀ {as : List As} {ρ : Env} {i : Nat} {a : As} {x : Slot}, EnvOk I s as ρ → HasS I s a x → EnvOk I s (as.set i a) (ρ.set i x)
  | [], [], _, _, _, _, _ => trivial
  | _ :: _, _ :: _, 0, _, _, h, g => ⟨g, h.2⟩
  | _ :: _, _ :: _, i + 1, _, _, h, g => ⟨h.1, EnvOk.set h.2 g⟩
  | [], _ :: _, _, _, _, h, _ => by cases h
  | _ :: _, [], _, _, _, h, _ => by cases h
theorem EnvOk.set' : ∀ {as : List As} {ρ : Env} {i : Nat} {a : As} {x : Slot}, EnvOk I s as ρ → ρ[i]? = some x → HasS I s a x → EnvOk I s (as.set i a) ρ
  | [], [], _, _, _, _, _, _ => trivial
  | _ :: _, _ :: _, 0, _, _, h, e, g => by cases e; exact ⟨g, h.2⟩
  | _ :: _, _ :: _, i + 1, _, _, h, e, g => ⟨h.1, EnvOk.set' h.2 (by simpa using e) g⟩
  | [], _ :: _, _, _, _, h, _, _ => by cases h
  | _ :: _, [], _, _, _, h, _, _ => by cases h
theorem BOk.gs {st : St} (h : BOk I s st) : Sat s.g st.gs := h.1
theorem bindL_ok {α β α' β' : Type} {P : Sg → α → β → Prop} {Q : Sg → α' → β' → Prop} {f : α → St → M α'} {g : β → Env → R β'} {r : R β} : ∀ {l : List (Al α)} {l' : List (Al α')}, MOk I P s l r → bindL l f = .ok l' →
    (∀ a st t b ρ l', s.le t → StOk I t st ρ → P t a b → f a st = .ok l' → MOk I Q t l' (g b ρ)) → MOk I Q s l' (r.bind g)
  | [], l', h, _, _ => by obtain ⟨_, h, _⟩ := h; cases h
  | al :: l, l', h, e, k => by
    obtain ⟨a, ha, q⟩ := h
    cases al with
    | ok v st =>
      unfold bindL at e
      split at e
      · cases e
      · rename_i l1 h1
        split at e
        · cases e
        · rename_i l2 h2
          cases e
          rcases List.mem_cons.mp ha with rfl | ha
          · obtain ⟨t, lt, b, ρ, rfl, st1, p⟩ := q
            obtain ⟨al, hal, q⟩ := k v st t b ρ l1 lt st1 p h1
            refine ⟨al, List.mem_append_left _ hal, ?_⟩
            cases al with
            | ok v' st' => obtain ⟨t', lt', q⟩ := q; exact ⟨t', lt.tr lt', q⟩
            | ex c v' st' => obtain ⟨t', lt', q⟩ := q; exact ⟨t', lt.tr lt', q⟩
          · obtain ⟨al, hal, q⟩ := bindL_ok (l := l) ⟨a, ha, q⟩ h2 k
            exact ⟨al, List.mem_append_right _ hal, q⟩
    | ex c v st =>
      unfold bindL at e
      split at e
      · cases e
      · rename_i l2 h2
        cases e
        rcases List.mem_cons.mp ha with rfl | ha
        · obtain ⟨t, lt, x, ρ, rfl, q⟩ := q
          exact ⟨_, List.mem_cons_self, t, lt, x, ρ, rfl, q⟩
        · obtain ⟨al, hal, q⟩ := bindL_ok (l := l) ⟨a, ha, q⟩ h2 k
          exact ⟨al, List.mem_cons_of_mem _ hal, q⟩
theorem mbind_ok {α β α' β' : Type} {P : Sg → α → β → Prop} {Q : Sg → α' → β' → Prop} {f : α → St → M α'} {g : β → Env → R β'} {r : R β} {m : M α} {l' : List (Al α')} (h : ∀ l, m = .ok l → MOk I P s l r) (e : m.bind f = .ok l')
    (k : ∀ a st t b ρ l', s.le t → StOk I t st ρ → P t a b → f a st = .ok l' → MOk I Q t l' (g b ρ)) : MOk I Q s l' (r.bind g) := by
  cases m with
  | er p => cases e
  | ok l => exact bindL_ok (h l rfl) e k
theorem one_ok {α β : Type} {P : Sg → α → β → Prop} {a : α} {st : St} {l : List (Al α)} {b : β} {ρ : Env} (e : M.one a st = .ok l) (h : StOk I s st ρ) (p : P s a b) : MOk I P s l (.ok b ρ) := by
  cases e
  exact ⟨_, List.mem_cons_self, s, Sg.le.rf, b, ρ, rfl, h, p⟩
theorem MOk.mono {α β : Type} {P : Sg → α → β → Prop} {l : List (Al α)} {r : R β} (h : MOk I P t l r) (lt : s.le t) : MOk I P s l r := by
  obtain ⟨al, hal, q⟩ := h
  refine ⟨al, hal, ?_⟩
  cases al with
  | ok v st => obtain ⟨t', l', q⟩ := q; exact ⟨t', lt.tr l', q⟩
  | ex c v st => obtain ⟨t', l', q⟩ := q; exact ⟨t', lt.tr l', q⟩
end
/-! ### a value read: its length is named, and it itself -/
def openSh (gs : Gs) : Sh → Option (Sh × (Int × Int))
  | .row e lo hi => if lo.beq hi then none else match nlo gs lo, nhi gs hi with
    | some a, some b => some (.row e (.t gs.length 1 (.c 0)) (.t gs.length 1 (.c 0)), (max a 0, b))
    | _, _ => none
  | .lst (.row e lo hi) => if lo.beq hi then none else match nlo gs lo, nhi gs hi with
    | some a, some b => some (.lst (.row e (.t gs.length 1 (.c 0)) (.t gs.length 1 (.c 0))), (max a 0, b))
    | _, _ => none
  | .int (some (.c a)) (some (.c b)) => if a = b then none else if b - a ≤ 1000 then some (.int (some (.t gs.length 1 (.c 0))) (some (.t gs.length 1 (.c 0))), (a, b)) else none
  | _ => none
def openSt (sh : Sh) (st : St) : Sh × St := match openSh st.gs sh with
  | some (sh', p) => (sh', { st with gs := st.gs ++ [p] })
  | none => (sh, st)
def normV (v : Va) (st : St) : Va × St :=
  let p := openSt v.sh st
  if v.tm.full then (⟨p.1, v.tm⟩, p.2) else (⟨p.1, .v st.nv⟩, { p.2 with nv := st.nv + 1 })
section
variable {I : Itp} {s t : Sg}
theorem ev_top {s : List Int} {x : Int} {n : Nat} (h : s.length = n) : (Lin.t n 1 (.c 0)).ev (s ++ [x]) = some x := by
  have : (s ++ [x])[n]? = some x := by rw [← h, List.getElem?_append_right (Nat.le_refl _), Nat.sub_self]; rfl
  have := ev_t_of (k := 1) (r := .c 0) this rfl
  rw [this]; congr 1; omega
theorem has_row_any {s : List Int} {e : Sh} {lo hi : Lin} {ds : List PyData} (h : Has s (.row e lo hi) (.tuple ds)) : (∀ x ∈ ds, Has s e x) ∧ (∃ v, lo.ev s = some v ∧ v ≤ ds.length) ∧ ∃ w, hi.ev s = some w ∧ (ds.length : Int) ≤ w := by
  obtain ⟨_, e0, h1, h2, h3⟩ := h
  cases e0
  exact ⟨h1, h2, h3⟩
theorem openRow {g : List Int} {gs : Gs} (hs : Sat g gs) {e : Sh} {lo hi : Lin} {a b : Int} {ds : List PyData} (ha : nlo gs lo = some a) (hb : nhi gs hi = some b) (h : Has g (.row e lo hi) (.tuple ds)) : Sat (g ++ [(ds.length : Int)]) (gs ++ [(max a 0, b)]) ∧ Has (g ++ [(ds.length : Int)]) (.row e (.t gs.length 1 (.c 0)) (.t gs.length 1 (.c 0))) (.tuple ds) := by
  obtain ⟨h1, ⟨v, v1, v2⟩, ⟨w, w1, w2⟩⟩ := has_row_any h
  have := nlo_ok hs ha v1
  have := nhi_ok hs hb w1
  have e := ev_top (x := (ds.length : Int)) hs.len
  exact ⟨hs.app (Sat.one (by omega) (by omega)), ds, rfl, fun x hx => (h1 x hx).mono, ⟨_, e, Int.le_refl _⟩, ⟨_, e, Int.le_refl _⟩⟩
theorem openSh_ok {g : List Int} {gs : Gs} (hs : Sat g gs) {sh sh' : Sh} {p : Int × Int} {d : PyData} (e : openSh gs sh = some (sh', p)) (h : Has g sh d) : ∃ x, Sat (g ++ [x]) (gs ++ [p]) ∧ Has (g ++ [x]) sh' d := by
  unfold openSh at e
  split at e
  · split at e
    · cases e
    · split at e
      · rename_i a b ha hb
        cases e
        obtain ⟨ds, rfl, _⟩ := id h
        exact ⟨_, openRow hs ha hb h⟩
      · cases e
  · split at e
    · cases e
    · split at e
      · rename_i a b ha hb
        cases e
        obtain ⟨ds, rfl, h⟩ := h
        obtain ⟨i1, i2⟩ := openRow hs ha hb h
        exact ⟨_, i1, ds, rfl, i2⟩
      · cases e
  · split at e
    · cases e
    · split at e
      · cases e
        obtain ⟨z, rfl, ⟨v, v1, v2⟩, ⟨w, w1, w2⟩⟩ := h
        cases v1
        cases w1
        have e := ev_top (x := z) hs.len
        exact ⟨z, hs.app (Sat.one v2 w2), z, rfl, ⟨_, e, Int.le_refl _⟩, ⟨_, e, Int.le_refl _⟩⟩
      · cases e
  · cases e
theorem BOk.push {st : St} {x : Int} {p : Int × Int} (h : BOk I s st) (g : Sat (s.g ++ [x]) (st.gs ++ [p])) : BOk I ⟨s.g ++ [x], s.w⟩ { st with gs := st.gs ++ [p] } := ⟨g, h.2⟩
theorem openSt_ok {sh : Sh} {st : St} {d : PyData} (hb : BOk I s st) (h : Has s.g sh d) : ∃ t, s.le t ∧ t.w = s.w ∧ BOk I t (openSt sh st).2 ∧ Has t.g (openSt sh st).1 d ∧ (openSt sh st).2.env = st.env ∧ (openSt sh st).2.nv = st.nv ∧ (openSt sh st).2.fs = st.fs := by
  unfold openSt
  split
  · rename_i sh' p e
    obtain ⟨x, h1, h2⟩ := openSh_ok hb.1 e h
    exact ⟨⟨s.g ++ [x], s.w⟩, ⟨[x], [], rfl, (List.append_nil _).symm⟩, rfl, hb.push h1, h2, rfl, rfl, rfl⟩
  · exact ⟨s, Sg.le.rf, rfl, hb, h, rfl, rfl, rfl⟩
theorem normV_ok {v : Va} {st : St} {d : PyData} (hb : BOk I s st) (h : HasV I s v d) : ∃ t, s.le t ∧ BOk I t (normV v st).2 ∧ HasV I t (normV v st).1 d ∧ (normV v st).2.env = st.env := by
  obtain ⟨t, l, ew, b, hh, e1, e2, e3⟩ := openSt_ok hb h.1
  unfold normV
  dsimp only
  split
  · exact ⟨t, l, b, ⟨hh, by rw [ew]; exact h.2⟩, e1⟩
  · refine ⟨⟨t.g, t.w ++ [d]⟩, l.tr ⟨[], [d], (List.append_nil _).symm, rfl⟩, ⟨b.1, ?_, fun p hp => (b.2.2 p hp).mono⟩, ⟨hh, ?_⟩, e1⟩
    · show (t.w ++ [d]).length = st.nv + 1
      rw [List.length_append, b.2.1, e2]; rfl
    · show (t.w ++ [d])[st.nv]? = some d
      have : st.nv = t.w.length := by rw [b.2.1, e2]
      rw [this, List.getElem?_append_right (Nat.le_refl _), Nat.sub_self]; rfl
end
/-! ### states brought together -/
def clipSh (n : Nat) (gs : Gs) (a : Sh) : Sh := a.mapL fun up l => l.clip n gs up
def clipVa (st0 : St) (gs : Gs) (v : Va) : Va := ⟨clipSh st0.gs.length gs v.sh, if v.tm.under st0.nv then v.tm else .hole⟩
def clipAs (st0 : St) (gs : Gs) : As → As
  | .val v => .val (clipVa st0 gs v)
  | .mu t => .mu (clipSh st0.gs.length gs t)
  | .par t => .par (clipSh st0.gs.length gs t)
  | a => a
def toBase (st0 : St) (st : St) : St := { st0 with env := st.env.map (clipAs st0 st.gs) }
def joinVa (gs : Gs) (a b : Va) : Va := ⟨jn gs a.sh b.sh, if a.tm.beq b.tm then a.tm else .hole⟩
def joinAs (gs : Gs) : As → As → Option As
  | .un, .un => some .un
  | .val a, .val b => some (.val (joinVa gs a b))
  | .mu a, .mu b => some (.mu (jn gs a b))
  | .par a, .par b => some (.par (jn gs a b))
  | .par _, _ => none
  | _, .par _ => none
  | .mu _, _ => some .jm
  | _, .mu _ => some .jm
  | .jm, _ => some .jm
  | _, .jm => some .jm
  | _, _ => some .jk
def joinEnv (gs : Gs) : List As → List As → Option (List As)
  | [], [] => some []
  | a :: as, b :: bs => match joinAs gs a b, joinEnv gs as bs with
    | some x, some y => some (x :: y)
    | _, _ => none
  | _, _ => none
def joinSt (a b : St) : Option St := (joinEnv a.gs a.env b.env).map fun e => { a with env := e }
def leVa (gs : Gs) (a b : Va) : Bool := leSh gs 1000 a.sh b.sh && (b.tm.beq .hole || a.tm.beq b.tm)
def leAs (gs : Gs) : As → As → Bool
  | .un, .un => true
  | .val a, .val b => leVa gs a b
  | .mu a, .mu b => leSh gs 1000 a b
  | .par a, .par b => leSh gs 1000 a b
  | .un, .jk | .val _, .jk | .jk, .jk | .un, .jm | .val _, .jm | .mu _, .jm | .jk, .jm | .jm, .jm => true
  | _, _ => false
def leEnv (gs : Gs) : List As → List As → Bool
  | [], [] => true
  | a :: as, b :: bs => leAs gs a b && leEnv gs as bs
  | _, _ => false
section
variable {I : Itp} {s t : Sg}
theorem clipSh_ok {st0 : St} {gs : Gs} (h0 : BOk I s st0) (l : s.le t) (hs : Sat t.g gs) {a : Sh} {d : PyData} (h : Has t.g a d) : Has s.g (clipSh st0.gs.length gs a) d := by
  obtain ⟨x, y, h1, h2⟩ := l
  rw [h1] at hs h
  exact mapL_ok (fun up a b z e c => clip_ok h0.1.len hs e c) h
theorem clipVa_ok {st0 : St} {gs : Gs} (h0 : BOk I s st0) (l : s.le t) (hs : Sat t.g gs) {a : Va} {d : PyData} (h : HasV I t a d) : HasV I s (clipVa st0 gs a) d := by
  refine ⟨clipSh_ok h0 l hs h.1, ?_⟩
  obtain ⟨x, y, h1, h2⟩ := l
  show TmHas I s.w (if a.tm.under st0.nv then a.tm else .hole) d
  split
  · rename_i q
    rw [← h0.2.1] at q
    have := h.2
    rw [h2] at this
    exact this.cut q
  · trivial
theorem clipAs_ok {st0 : St} {gs : Gs} (h0 : BOk I s st0) (l : s.le t) (hs : Sat t.g gs) {a : As} {x : Slot} (h : HasS I t a x) : HasS I s (clipAs st0 gs a) x := by
  cases a with
  | un => exact h
  | val v => obtain ⟨d, e, h⟩ := h; exact ⟨d, e, clipVa_ok h0 l hs h⟩
  | mu v => obtain ⟨d, e, h⟩ := h; exact ⟨d, e, clipSh_ok h0 l hs h⟩
  | par v => obtain ⟨d, e, h⟩ := h; exact ⟨d, e, clipSh_ok h0 l hs h⟩
  | jk => exact h
  | jm => exact h
theorem clipEnv_ok {st0 : St} {gs : Gs} (h0 : BOk I s st0) (l : s.le t) (hs : Sat t.g gs) : ∀ {as : List As} {ρ : Env}, EnvOk I t as ρ → EnvOk I s (as.map (clipAs st0 gs)) ρ
  | [], [], _ => trivial
  | _ :: _, _ :: _, h => ⟨clipAs_ok h0 l hs h.1, clipEnv_ok h0 l hs h.2⟩
  | [], _ :: _, h => by cases h
  | _ :: _, [], h => by cases h
theorem toBase_ok {st0 st : St} {ρ : Env} (h0 : BOk I s st0) (l : s.le t) (h : StOk I t st ρ) : StOk I s (toBase st0 st) ρ := ⟨h0, clipEnv_ok h0 l h.1.1 h.2⟩
theorem joinVa_ok {gs : Gs} (hs : Sat s.g gs) {a b : Va} {d : PyData} (h : HasV I s a d ∨ HasV I s b d) : HasV I s (joinVa gs a b) d := by
  refine ⟨jn_ok hs (h.imp (·.1) (·.1)), ?_⟩
  show TmHas I s.w (if a.tm.beq b.tm then a.tm else .hole) d
  split
  · rename_i q
    rcases h with h | h
    · exact h.2
    · rw [Tm.beq_eq q]; exact h.2
  · trivial
theorem HasS.jk {v : Va} {x : Slot} (h : HasS I s (.val v) x) : HasS I s .jk x := by obtain ⟨d, e, _⟩ := h; exact .inr ⟨d, e⟩
theorem HasS.jm {a : As} (ha : ∀ t, a ≠ .par t) {x : Slot} (h : HasS I s a x) : HasS I s .jm x := by
  cases a with
  | un => exact .inl h
  | val v => obtain ⟨d, e, _⟩ := h; exact .inr (.inl ⟨d, e⟩)
  | mu v => obtain ⟨d, e, _⟩ := h; exact .inr (.inr ⟨d, e⟩)
  | par t => exact absurd rfl (ha t)
  | jk => rcases h with h | h; · exact .inl h
          exact .inr (.inl h)
  | jm => exact h
theorem joinAs_ok {gs : Gs} (hs : Sat s.g gs) {a b c : As} {x : Slot} (e : joinAs gs a b = some c) (h : HasS I s a x ∨ HasS I s b x) : HasS I s c x := by
  have jmOf : (∀ t, a ≠ .par t) → (∀ t, b ≠ .par t) → HasS I s .jm x := fun h1 h2 => h.elim (HasS.jm h1) (HasS.jm h2)
  cases a <;> cases b <;> cases e <;> first
    | exact jmOf (fun t h => by cases h) (fun t h => by cases h)
    | exact h.elim id id
    | (rcases h with ⟨d, e, h⟩ | ⟨d, e, h⟩
       · exact ⟨d, e, joinVa_ok hs (.inl h)⟩
       · exact ⟨d, e, joinVa_ok hs (.inr h)⟩)
    | (rcases h with ⟨d, e, h⟩ | ⟨d, e, h⟩
       · exact ⟨d, e, jn_ok hs (.inl h)⟩
       · exact ⟨d, e, jn_ok hs (.inr h)⟩)
    | (rcases h with h | ⟨d, e, h⟩
       · exact .inl h
       · exact .inr ⟨d, e⟩)
    | (rcases h with ⟨d, e, h⟩ | h
       · exact .inr ⟨d, e⟩
       · exact .inl h)
    | (rcases h with ⟨d, e, h⟩ | h
       · exact .inr ⟨d, e⟩
       · exact h)
    | (rcases h with h | ⟨d, e, h⟩
       · exact h
       · exact .inr ⟨d, e⟩)
    | (rcases h with h | h
       · exact .inl h
       · exact h)
    | (rcases h with h | h
       · exact h
       · exact .inl h)
theorem joinEnv_ok {gs : Gs} (hs : Sat s.g gs) : ∀ {as bs cs : List As} {ρ : Env}, joinEnv gs as bs = some cs → EnvOk I s as ρ ∨ EnvOk I s bs ρ → EnvOk I s cs ρ
  | [], [], cs, ρ, e, h => by cases e; exact h.elim id id
  | a :: as, b :: bs, cs, ρ, e, h => by
    unfold joinEnv at e
    split at e
    · rename_i x y hx hy
      cases e
      cases ρ with
      | nil => exact h.elim (fun h => by cases h) (fun h => by cases h)
      | cons z r => exact ⟨joinAs_ok hs hx (h.imp (·.1) (·.1)), joinEnv_ok hs hy (h.imp (·.2) (·.2))⟩
    · cases e
  | [], _ :: _, cs, ρ, e, _ => by cases e
  | _ :: _, [], cs, ρ, e, _ => by cases e
theorem leVa_ok {gs : Gs} (hs : Sat s.g gs) {a b : Va} {d : PyData} (e : leVa gs a b = true) (h : HasV I s a d) : HasV I s b d := by
  unfold leVa at e
  rw [Bool.and_eq_true, Bool.or_eq_true] at e
  refine ⟨leSh_ok hs e.1 h.1, ?_⟩
  rcases e.2 with q | q
  · rw [Tm.beq_eq q]; trivial
  · rw [← Tm.beq_eq q]; exact h.2
theorem leAs_ok {gs : Gs} (hs : Sat s.g gs) {a b : As} {x : Slot} (e : leAs gs a b = true) (h : HasS I s a x) : HasS I s b x := by
  cases a <;> cases b <;> first
    | (cases e; done)
    | exact h
    | exact .inl h
    | (obtain ⟨d, e', h⟩ := h; exact ⟨d, e', leVa_ok hs e h⟩)
    | (obtain ⟨d, e', h⟩ := h; exact ⟨d, e', leSh_ok hs e h⟩)
    | (obtain ⟨d, e', h⟩ := h; exact .inr ⟨d, e'⟩)
    | (obtain ⟨d, e', h⟩ := h; exact .inr (.inl ⟨d, e'⟩))
    | (obtain ⟨d, e', h⟩ := h; exact .inr (.inr ⟨d, e'⟩))
    | (rcases h with h | h
       · exact .inl h
       · exact .inr (.inl h))
theorem leEnv_ok {gs : Gs} (hs : Sat s.g gs) : ∀ {as bs : List As} {ρ : Env}, leEnv gs as bs = true → EnvOk I s as ρ → EnvOk I s bs ρ
  | [], [], ρ, _, h => h
  | a :: as, b :: bs, ρ, e, h => by
    unfold leEnv at e
    rw [Bool.and_eq_true] at e
    cases ρ with
    | nil => cases h
    | cons z r => exact ⟨leAs_ok hs e.1 h.1, leEnv_ok hs e.2 h.2⟩
  | [], _ :: _, ρ, e, _ => by cases e
  | _ :: _, [], ρ, e, _ => by cases e
theorem joinSt_ok {a b c : St} {ρ : Env} (e : joinSt a b = some c) (hb : BOk I s a) (h : EnvOk I s a.env ρ ∨ EnvOk I s b.env ρ) : StOk I s c ρ := by
  obtain ⟨x, hx, rfl⟩ := Option.map_eq_some_iff.mp e
  exact ⟨hb, joinEnv_ok hb.1 hx h⟩
end
/-! ### ways brought together -/
def okCount {α : Type} : List (Al α) → Nat
  | [] => 0
  | .ok .. :: r => okCount r + 1
  | .ex .. :: r => okCount r
def squashL (st0 : St) : List (Al Va) → Option (Option (Va × St) × List (Al Va))
  | [] => some (none, [])
  | .ex c a s :: r => (squashL st0 r).map fun p => (p.1, .ex c a s :: p.2)
  | .ok v s :: r => match squashL st0 r with
    | none => none
    | some (none, x) => some (some (clipVa st0 s.gs v, toBase st0 s), x)
    | some (some q, x) => (joinSt (toBase st0 s) q.2).map fun z => (some (joinVa st0.gs (clipVa st0 s.gs v) q.1, z), x)
def squash (st0 : St) (m : M Va) : M Va := match m with
  | .er p => .er p
  | .ok l => if okCount l ≤ 1 then .ok l else match squashL st0 l with
    | some (some q, x) => .ok (.ok q.1 q.2 :: x)
    | _ => .er [90]
def PV (I : Itp) (s : Sg) (v : Va) (d : PyData) : Prop := HasV I s v d
section
variable {I : Itp} {s : Sg}
theorem squashL_ok {st0 : St} (h0 : BOk I s st0) {r : R PyData} : ∀ {l : List (Al Va)} {p : Option (Va × St) × List (Al Va)}, squashL st0 l = some p → MOk I (PV I) s l r → (∃ q, p.1 = some q ∧ ∃ d ρ, r = .ok d ρ ∧ StOk I s q.2 ρ ∧ HasV I s q.1 d) ∨ MOk I (PV I) s p.2 r := fun {l} => by
  have base : ∀ {l : List (Al Va)} {p : Option (Va × St) × List (Al Va)}, squashL st0 l = some p → ∀ q, p.1 = some q → q.2.gs = st0.gs ∧ q.2.nv = st0.nv ∧ q.2.fs = st0.fs := fun {l} => by
    induction l with
    | nil => intro p e q hq; cases e; cases hq
    | cons al l ih =>
      intro p e q hq
      cases al with
      | ex c a st =>
        obtain ⟨p', hp, rfl⟩ := Option.map_eq_some_iff.mp e
        exact ih hp q hq
      | ok v st =>
        unfold squashL at e
        split at e
        · cases e
        · cases e; cases hq; exact ⟨rfl, rfl, rfl⟩
        · rename_i q' x hx
          obtain ⟨z, hz, rfl⟩ := Option.map_eq_some_iff.mp e
          cases hq
          obtain ⟨y, hy, rfl⟩ := Option.map_eq_some_iff.mp hz
          exact ⟨rfl, rfl, rfl⟩
  induction l with
  | nil => intro p e h; obtain ⟨_, h, _⟩ := h; cases h
  | cons al l ih =>
    intro p e h
    obtain ⟨a, ha, k⟩ := h
    cases al with
    | ex c v st =>
      obtain ⟨p', hp, rfl⟩ := Option.map_eq_some_iff.mp e
      rcases List.mem_cons.mp ha with rfl | ha
      · exact .inr ⟨_, List.mem_cons_self, k⟩
      · rcases ih hp ⟨a, ha, k⟩ with h | ⟨b, hb, k⟩
        · exact .inl h
        · exact .inr ⟨b, List.mem_cons_of_mem _ hb, k⟩
    | ok v st =>
      unfold squashL at e
      split at e
      · cases e
      · rename_i x hx
        cases e
        rcases List.mem_cons.mp ha with rfl | ha
        · obtain ⟨t, lt, d, ρ, rfl, h1, h2⟩ := k
          exact .inl ⟨_, rfl, d, ρ, rfl, toBase_ok h0 lt h1, clipVa_ok h0 lt h1.1.1 h2⟩
        · rcases ih hx ⟨a, ha, k⟩ with ⟨q, hq, _⟩ | h
          · cases hq
          · exact .inr h
      · rename_i q x hx
        obtain ⟨z, hz, rfl⟩ := Option.map_eq_some_iff.mp e
        have hb0 : BOk I s (toBase st0 st) := h0
        rcases List.mem_cons.mp ha with rfl | ha
        · obtain ⟨t, lt, d, ρ, rfl, h1, h2⟩ := k
          exact .inl ⟨_, rfl, d, ρ, rfl, joinSt_ok hz hb0 (.inl (toBase_ok h0 lt h1).2), joinVa_ok h0.1 (.inl (clipVa_ok h0 lt h1.1.1 h2))⟩
        · rcases ih hx ⟨a, ha, k⟩ with ⟨q', hq', d, ρ, rfl, h1, h2⟩ | h
          · cases hq'
            exact .inl ⟨_, rfl, d, ρ, rfl, joinSt_ok hz hb0 (.inr h1.2), joinVa_ok h0.1 (.inr h2)⟩
          · exact .inr h
theorem squash_ok {st0 : St} (h0 : BOk I s st0) {m : M Va} {r : R PyData} {l : List (Al Va)} (e : squash st0 m = .ok l) (h : ∀ l, m = .ok l → MOk I (PV I) s l r) : MOk I (PV I) s l r := by
  unfold squash at e
  split at e
  · cases e
  · rename_i l0
    split at e
    · cases e; exact h _ rfl
    · split at e
      · rename_i q x hx
        cases e
        rcases squashL_ok h0 hx (h _ rfl) with ⟨q', hq, d, ρ, rfl, h1, h2⟩ | ⟨b, hb, k⟩
        · cases hq
          exact ⟨_, List.mem_cons_self, s, Sg.le.rf, d, ρ, rfl, h1, h2⟩
        · exact ⟨b, List.mem_cons_of_mem _ hb, k⟩
      · cases e
end
end HM

namespace HM
open PySem
/-! AI8: expressions on shapes -/
inductive Rs where
  | v (x : Va) (io : Option Sh)
  | x (c : Nat) (a : Option Va) (io : Option Sh)
abbrev Cf := Nat → List Va → St → M Rs
def argsOf : Sh → Tm → Option (List Va)
  | .nil, _ => some []
  | .cons a r, .cons ta tr => (argsOf r tr).map (⟨a, ta⟩ :: ·)
  | .cons a r, _ => (argsOf r .hole).map (⟨a, .hole⟩ :: ·)
  | _, _ => none
def refTerm (gs0 : Gs) (lo : Int) : Lin → Gs → Gs
  | .c _, gs => gs
  | .t g k r, gs => refTerm gs0 lo r (match gs0[g]?, gs[g]? with
    | some p, some q => if k = 1 then gs.set g (q.1, min q.2 (p.1 - lo)) else if k = -1 then gs.set g (max q.1 (lo + p.2), q.2) else gs
    | _, _ => gs)
/-- from l ≤ 0 -/
def refGs (gs : Gs) (l : Lin) : Gs := match l.rg gs with
  | some p => refTerm gs p.1 l gs
  | none => gs
def refAll : Gs → List Lin → Gs
  | gs, [] => gs
  | gs, l :: r => refAll (refGs gs l) r
def osub1 (k : Int) : Option Lin → Option Lin → List Lin
  | some a, some b => [(a.sub b).addC k]
  | _, _ => []
def ltFs (l h l' h' : Option Lin) : List Lin := osub1 1 l h'
def leFs (l h l' h' : Option Lin) : List Lin := osub1 0 l h'
/-- which forms are not above 0 when the test says b -/
def factsOf (gs : Gs) : Cm → Bool → Sh → Sh → List Lin
  | .lt, true, .int l h, .int l' h' => osub1 1 l h'
  | .ge, false, .int l h, .int l' h' => osub1 1 l h'
  | .le, true, .int l h, .int l' h' => osub1 0 l h'
  | .gt, false, .int l h, .int l' h' => osub1 0 l h'
  | .gt, true, .int l h, .int l' h' => osub1 1 l' h
  | .le, false, .int l h, .int l' h' => osub1 1 l' h
  | .ge, true, .int l h, .int l' h' => osub1 0 l' h
  | .lt, false, .int l h, .int l' h' => osub1 0 l' h
  | .eq, true, .int l h, .int l' h' => osub1 0 l h' ++ osub1 0 l' h
  | .ne, false, .int l h, .int l' h' => osub1 0 l h' ++ osub1 0 l' h
  | .eq, false, .int l h, .int l' h' => if leOO gs h' l then osub1 1 l' h else if leOO gs h l' then osub1 1 l h' else []
  | .ne, true, .int l h, .int l' h' => if leOO gs h' l then osub1 1 l' h else if leOO gs h l' then osub1 1 l h' else []
  | .eq, true, .lst t, .lst .nil => (match lenSh t with | some p => [p.1] | none => [])
  | .ne, false, .lst t, .lst .nil => (match lenSh t with | some p => [p.1] | none => [])
  | .eq, false, .lst t, .lst .nil => (match lenSh t with | some p => [(p.2.mulC (-1)).addC 1] | none => [])
  | .ne, true, .lst t, .lst .nil => (match lenSh t with | some p => [(p.2.mulC (-1)).addC 1] | none => [])
  | .eq, true, t, .nil => (match lenSh t with | some p => [p.1] | none => [])
  | .ne, false, t, .nil => (match lenSh t with | some p => [p.1] | none => [])
  | .eq, false, t, .nil => (match lenSh t with | some p => [(p.2.mulC (-1)).addC 1] | none => [])
  | .ne, true, t, .nil => (match lenSh t with | some p => [(p.2.mulC (-1)).addC 1] | none => [])
  | _, _, _, _ => []
def opred : Option Lin → Option Lin := Option.map (Lin.addC (-1))
/-- the shapes of both sides when the test says b -/
def capSh (gs : Gs) : Cm → Bool → Sh → Sh → Sh × Sh
  | .lt, true, .int l h, .int l' h' => (.int l (pickHi gs h (opred h')), .int (pickLo gs l' (osucc l)) h')
  | .ge, false, .int l h, .int l' h' => (.int l (pickHi gs h (opred h')), .int (pickLo gs l' (osucc l)) h')
  | .le, true, .int l h, .int l' h' => (.int l (pickHi gs h h'), .int (pickLo gs l' l) h')
  | .gt, false, .int l h, .int l' h' => (.int l (pickHi gs h h'), .int (pickLo gs l' l) h')
  | .gt, true, .int l h, .int l' h' => (.int (pickLo gs l (osucc l')) h, .int l' (pickHi gs h' (opred h)))
  | .le, false, .int l h, .int l' h' => (.int (pickLo gs l (osucc l')) h, .int l' (pickHi gs h' (opred h)))
  | .ge, true, .int l h, .int l' h' => (.int (pickLo gs l l') h, .int l' (pickHi gs h' h))
  | .lt, false, .int l h, .int l' h' => (.int (pickLo gs l l') h, .int l' (pickHi gs h' h))
  | .eq, true, .int l h, .int l' h' => (.int (pickLo gs l l') (pickHi gs h h'), .int (pickLo gs l l') (pickHi gs h h'))
  | .ne, false, .int l h, .int l' h' => (.int (pickLo gs l l') (pickHi gs h h'), .int (pickLo gs l l') (pickHi gs h h'))
  | .eq, false, .int l h, .int l' h' => (.int (if leOO gs h' l then pickLo gs l (osucc l') else l) h, .int l' h')
  | .ne, true, .int l h, .int l' h' => (.int (if leOO gs h' l then pickLo gs l (osucc l') else l) h, .int l' h')
  | .is, true, .opt _, .non => (.non, .non)
  | .is, false, .opt a, .non => (a, .non)
  | .isnot, false, .opt _, .non => (.non, .non)
  | .isnot, true, .opt a, .non => (a, .non)
  | _, _, a, b => (a, b)
def updTm (t : Tm) (sh : Sh) : As → As
  | .val v => if v.tm.beq t then .val ⟨sh, t⟩ else .val v
  | a => a
def updEnv (t : Tm) (sh : Sh) (env : List As) : List As := if t.full then env.map (updTm t sh) else env
def refSt (st : St) (o : Cm) (b : Bool) (x y : Va) : St :=
  let p := capSh st.gs o b x.sh y.sh
  { st with gs := refAll st.gs (factsOf st.gs o b x.sh y.sh), env := updEnv y.tm p.2 (updEnv x.tm p.1 st.env) }
def lookF : List (Tm × Bool) → Tm → Option Bool
  | [], _ => none
  | p :: r, t => if p.1.beq t then some p.2 else lookF r t
def splitL : List (Al Va) → List (Al Va)
  | [] => []
  | .ex c a s :: r => .ex c a s :: splitL r
  | .ok v s :: r => (match v.sh with
    | .bol => if v.tm.full then (match lookF s.fs v.tm with
        | some b => [.ok ⟨.tt b, v.tm⟩ s]
        | none => [.ok ⟨.tt true, v.tm⟩ { s with fs := (v.tm, true) :: s.fs }, .ok ⟨.tt false, v.tm⟩ { s with fs := (v.tm, false) :: s.fs }])
      else [.ok ⟨.tt true, .hole⟩ s, .ok ⟨.tt false, .hole⟩ s]
    | _ => [.ok v s]) ++ splitL r
def splitM : M Va → M Va
  | .er p => .er p
  | .ok l => .ok (splitL l)
def fin (c : Bool) (st0 : St) (m : M Va) : M Va := if c then splitM m else squash st0 m
def mutOf (env : List As) (i : Nat) : Option Sh := match env[i]? with
  | some (.mu t) => some t
  | some (.par t) => some t
  | _ => none
def setMut (env : List As) (i : Nat) (t : Sh) : Option (List As) := match env[i]? with
  | some (.mu _) => some (env.set i (.mu t))
  | some (.par _) => some (env.set i (.par t))
  | _ => none
def readV (st : St) (i : Nat) : M Va := match st.env[i]? with
  | some (.val v) => M.one (normV v st).1 { (normV v st).2 with env := st.env.set i (.val (normV v st).1) }
  | some (.mu t) => M.one (normV ⟨.lst t, .hole⟩ st).1 { (normV ⟨.lst t, .hole⟩ st).2 with env := st.env.set i (.val (normV ⟨.lst t, .hole⟩ st).1) }
  | _ => .er [1]
def putA (env : List As) (i : Nat) (a : As) : Option (List As) := match env[i]? with
  | none => none
  | some (.par _) => none
  | some _ => some (env.set i a)
def putAllA : List Nat → Sh → List As → Option (List As)
  | [], .nil, env => some env
  | i :: is, .cons a r, env => (putA env i (.val ⟨a, .hole⟩)).bind fun env => putAllA is r env
  | _, _, _ => none
def asgA : Tg → Va → List As → Option (List As)
  | .one i, v, env => putA env i (.val v)
  | .many is, v, env => putAllA is v.sh env
def ownB (own : List Nat) (env : List As) : Bool := own.all fun i => match env[i]? with
  | some .un => true
  | some (.val _) => true
  | some .jk => true
  | _ => false
def setAll (a : As) : List Nat → List As → List As
  | [], env => env
  | i :: r, env => (setAll a r env).set i a
def giveA : List Nat → List As → List As → List As
  | [], _, env => env
  | i :: r, e0, env => (giveA r e0 env).set i (e0.getD i .un)
def compBody (tg : Tg) (own : List Nat) (el : Sh) (cnd elt : St → M Va) (J : List As) (st : St) : M (Option Va) := match asgA tg ⟨el, .hole⟩ (setAll .un own J) with
  | none => .er [40]
  | some env => (cnd { st with env := env }).bind fun v s => match v.sh with
    | .tt true => (elt s).bind fun w s => M.one (some w) s
    | .tt false => M.one none s
    | _ => .er [41]
def clipEnv (st0 s : St) : List As := s.env.map (clipAs st0 s.gs)
def compGather (st : St) (J : List As) : List (Al (Option Va)) → Option (Sh × Bool)
  | [] => some (.bot, true)
  | .ex .. :: _ => none
  | .ok o s :: r => if leEnv st.gs (clipEnv st s) J then (match compGather st J r with
      | some p => (match o with
        | some w => some (jn st.gs (clipSh st.gs.length s.gs w.sh) p.1, p.2)
        | none => some (p.1, false))
      | none => none) else none
def compWiden (st : St) (own : List Nat) : List (Al (Option Va)) → List As → Option (List As)
  | [], J => some J
  | .ex .. :: _, _ => none
  | .ok _ s :: r, J => match joinEnv st.gs J (setAll .jk own (clipEnv st s)) with
    | some J' => compWiden st own r J'
    | none => none
def compLoop (tg : Tg) (own : List Nat) (el : Sh) (cnd elt : St → M Va) (st : St) : Nat → List As → List Nat ⊕ (List As × Sh × Bool)
  | 0, _ => .inl [42]
  | n + 1, J => match compBody tg own el cnd elt J st with
    | .er p => .inl p
    | .ok l => (match compGather st J l with
      | some p => .inr (J, p.1, p.2)
      | none => (match compWiden st own l J with
        | some J' => compLoop tg own el cnd elt st n J'
        | none => .inl [43]))
def isBot : Sh → Bool
  | .bot => true
  | _ => false
def compAI (tg : Tg) (own : List Nat) (cnd elt : St → M Va) (t : Sh) (st : St) : M Va := if ownB own st.env then match rowG st.gs t with
    | none => .er [44]
    | some (el, lo, hi) => if isBot el then M.one ⟨.lst .nil, .hole⟩ { st with env := giveA own st.env (setAll .jk own st.env) } else
      (match compLoop tg own el cnd elt st 4 (setAll .jk own st.env) with
      | .inl p => .er p
      | .inr (J, e, all) => if leEnv st.gs (setAll .jk own st.env) J then M.one ⟨.lst (.row e (if all then lo else .c 0) hi), .hole⟩ { st with env := giveA own st.env J } else .er [45])
  else .er [46]
def itemsT : Sh → Option Sh
  | .lst t => some t
  | t => if isSeq t then some t else none
def tyRef : Ty → Sh → Sh
  | .tuple, .dat q b l (k + 1) => .row (.dat q b l k) (.c 0) (.c l)
  | .list, .dat q b l (k + 1) => .lst (.row (.dat q b l k) (.c 0) (.c l))
  | .bool, .dat .. => .bol
  | .str, .dat .. => .str none
  | _, .opt a => a
  | _, a => a
def openM (i : Nat) (st : St) : Option (Sh × St) := match mutOf st.env i with
  | some t => (setMut st.env i (openSt t st).1).map fun env => ((openSt t st).1, { (openSt t st).2 with env := env })
  | none => none
def okEnd : Bool → Sh → Bool
  | true, .non => true
  | false, .int _ _ => true
  | _, _ => false
def cmpM (c : Bool) (o : Cm) (va vb : Va) (st : St) : M Va := match cmpSh st.gs (va.tm.full && va.tm.beq vb.tm) o va.sh vb.sh with
  | some (.tt r) => M.one ⟨.tt r, .kb r⟩ st
  | some _ => if c then .ok [.ok ⟨.tt true, .hole⟩ (refSt st o true va vb), .ok ⟨.tt false, .hole⟩ (refSt st o false va vb)] else M.one ⟨.bol, .hole⟩ st
  | none => .er [5]
def app2 : M Va → M Va → M Va
  | .ok l, .ok l' => .ok (l ++ l')
  | .er p, _ => .er p
  | _, .er p => .er p
def ofO (n : Nat) (o : Option Sh) (st : St) : M Va := match o with
  | some sh => M.one ⟨sh, .hole⟩ st
  | none => .er [n]
def keepTm : Bi → Sh → Bool
  | .list, .lst _ => true
  | .tuple, t => isSeq t
  | _, _ => false
/-- a length's name -/
def biTm : Bi → Tm → Tm
  | .len, t => if t.full then .ap 900 (.cons t .nil) else .hole
  | _, _ => .hole
def fullB (d : DatB) : Sh := .dat false d.b (max d.l 1) (d.k + 1)
def ai (cf : Cf) : E → Bool → St → M Va
  | .var i, c, st => fin c st (readV st i)
  | .non, _, st => M.one ⟨.non, .kn⟩ st
  | .bl b, _, st => M.one ⟨.tt b, .kb b⟩ st
  | .int z, _, st => M.one ⟨kI z, .ki z⟩ st
  | .str s, _, st => M.one ⟨.str (some s), .hole⟩ st
  | .gint _ z, _, st => M.one ⟨kI z, .ki z⟩ st
  | .nil, _, st => M.one ⟨.nil, .nil⟩ st
  | .cons a b, _, st => (ai cf a false st).bind fun va st => (ai cf b false st).bind fun vb st => if isSeq vb.sh then M.one ⟨.cons va.sh vb.sh, .cons va.tm vb.tm⟩ st else .er [2]
  | .bin o a b, _, st => (ai cf a false st).bind fun va st => (ai cf b false st).bind fun vb st => ofO 3 (binSh st.gs o va.sh vb.sh) st
  | .neg a, _, st => (ai cf a false st).bind fun va st => (match va.sh with
    | .int l h => M.one ⟨.int (oneg h) (oneg l), .hole⟩ st
    | _ => .er [4])
  | .cmp o a b, c, st => (ai cf a false st).bind fun va st => (ai cf b false st).bind fun vb st => cmpM c o va vb st
  | .chain o p a b d, c, st => fin c st ((ai cf a false st).bind fun va st => (ai cf b false st).bind fun vb st => match cmpSh st.gs false o va.sh vb.sh with
    | some (.tt true) => (ai cf d false st).bind fun vd st => cmpM c p vb vd st
    | some (.tt false) => M.one ⟨.tt false, .kb false⟩ st
    | some _ => app2 (M.one ⟨.tt false, .kb false⟩ (refSt st o false va vb)) ((ai cf d false (refSt st o true va vb)).bind fun vd st => cmpM c p vb vd st)
    | none => .er [6])
  | .not a, c, st => fin c st ((ai cf a true st).bind fun v st => (match v.sh with
    | .tt b => M.one ⟨.tt (!b), .kb (!b)⟩ st
    | _ => .er [7]))
  | .and a b, c, st => fin c st ((ai cf a true st).bind fun v st => (match v.sh with
    | .tt true => ai cf b c st
    | .tt false => M.one ⟨.tt false, .kb false⟩ st
    | _ => .er [8]))
  | .or a b, c, st => fin c st ((ai cf a true st).bind fun v st => (match v.sh with
    | .tt false => ai cf b c st
    | .tt true => M.one ⟨.tt true, .kb true⟩ st
    | _ => .er [9]))
  | .ite d a b, c, st => fin c st ((ai cf d true st).bind fun v st => (match v.sh with
    | .tt true => ai cf a c st
    | .tt false => ai cf b c st
    | _ => .er [10]))
  | .tup es, _, st => (ai cf es false st).bind fun v st => if isSeq v.sh then M.one v st else .er [11]
  | .lst es, _, st => (ai cf es false st).bind fun v st => if isSeq v.sh then M.one ⟨.lst v.sh, .li v.tm⟩ st else .er [12]
  | .ix a b, c, st => fin c st ((ai cf a false st).bind fun va st => (ai cf b false st).bind fun vb st => ofO 13 (ixSh st.gs va.sh vb.sh) st)
  | .sl a lo hi, _, st => (ai cf a false st).bind fun va st => (ai cf lo false st).bind fun vl st => if okEnd lo.isNon vl.sh then (ai cf hi false st).bind fun vh st => if okEnd hi.isNon vh.sh then ofO 14 (slSh st.gs va.sh vl.sh vh.sh) st else .er [15]
    else .er [15]
  | .rev a, _, st => (ai cf a false st).bind fun va st => ofO 16 (revSh st.gs va.sh) st
  | .call f es, c, st => fin c st ((ai cf es false st).bind fun v st => match argsOf v.sh v.tm with
    | some as => (cf f as st).bind fun rs st => (match rs with
      | .v x _ => M.one x st
      | .x k a _ => .ok [.ex k a st])
    | none => .er [17])
  | .callk f es, c, st => fin c st ((ai cf es false st).bind fun v st => match argsOf v.sh v.tm with
    | some as => (cf f as st).bind fun rs st => (match rs with
      | .v x _ => M.one x st
      | .x k a _ => .ok [.ex k a st])
    | none => .er [17])
  | .callio f p i es, c, st => if (mutOf st.env i).isSome then fin c st ((ai cf es false st).bind fun v st => match argsOf v.sh v.tm, mutOf st.env i with
    | some as, some t => (cf f (insAt p ⟨.lst t, .hole⟩ as) st).bind fun rs st => (match rs with
      | .v x (some t') => (match setMut st.env i t' with
        | some env => M.one x { st with env := env }
        | none => .er [18])
      | .x k a (some t') => (match setMut st.env i t' with
        | some env => .ok [.ex k a { st with env := env }]
        | none => .er [18])
      | _ => .er [18])
    | _, _ => .er [18]) else .er [18]
  | .bi f es, c, st => fin c st ((ai cf es false st).bind fun v st => match argsOf v.sh v.tm with
    | some as => (match biSh st.gs f (as.map (·.sh)) with
      | some sh => (match as with
        | [x] => M.one ⟨sh, if keepTm f x.sh then x.tm else biTm f x.tm⟩ st
        | _ => M.one ⟨sh, .hole⟩ st)
      | none => .er [19])
    | none => .er [19])
  | .isi a t, c, st => (ai cf a false st).bind fun va st => (match tySh t va.sh with
    | some b => M.one ⟨.tt b, .kb b⟩ st
    | none => if c then .ok [.ok ⟨.tt true, .hole⟩ { st with env := updEnv va.tm (tyRef t va.sh) st.env }, .ok ⟨.tt false, .hole⟩ st] else M.one ⟨.bol, .hole⟩ st)
  | .rng a, _, st => (ai cf a false st).bind fun va st => (match va.sh with
    | .int l h => ofO 20 (rngSh st.gs (some (.c 0)) (some (.c 0)) l h) st
    | _ => .er [20])
  | .rng2 a b, _, st => (ai cf a false st).bind fun va st => (ai cf b false st).bind fun vb st => (match va.sh, vb.sh with
    | .int l h, .int l' h' => ofO 21 (rngSh st.gs l h l' h') st
    | _, _ => .er [21])
  | .enum a, _, st => (ai cf a false st).bind fun va st => ofO 22 (enumSh st.gs va.sh) st
  | .zip a b, _, st => (ai cf a false st).bind fun va st => (ai cf b false st).bind fun vb st => ofO 23 (zipSh st.gs va.sh vb.sh) st
  | .comp elt tg src cond own, _, st => (ai cf src false st).bind fun v st => match itemsT v.sh with
    | some t => compAI tg own (ai cf cond true) (ai cf elt false) t st
    | none => .er [24]
  | .compM elt tg i cond own, _, st => match st.env[i]?, mutOf st.env i with
    | some a, some t => if ownB (i :: own) (st.env.set i .un) && !own.contains i then (compAI tg own (ai cf cond true) (ai cf elt false) t { st with env := st.env.set i .un }).bind fun v s => M.one v { s with env := s.env.set i a } else .er [25]
    | _, _ => .er [25]
  | .lrng a, _, st => (ai cf a false st).bind fun va st => (match va.sh with
    | .lst t => M.one ⟨.lst t, va.tm⟩ st
    | _ => .er [26])
  | .trng a, _, st => (ai cf a false st).bind fun va st => (match va.sh with
    | .lst t => M.one ⟨t, .hole⟩ st
    | _ => .er [27])
  | .edic, _, st => M.one ⟨.dat false 0 0 1, .hole⟩ st
  | .dic1 a b, _, st => (ai cf a false st).bind fun va st => (ai cf b false st).bind fun vb st => (match va.sh, toDat st.gs va.sh, toDat st.gs vb.sh with
    | .int _ _, some x, some y => M.one ⟨fullB (x.join y), .hole⟩ st
    | .str _, some x, some y => M.one ⟨fullB (x.join y), .hole⟩ st
    | _, _, _ => .er [28])
  | .lenM i, _, st => match openM i st with
    | some p => (match lenSh p.1 with
      | some q => M.one ⟨.int (some q.1) (some q.2), .hole⟩ p.2
      | none => .er [29])
    | none => .er [29]
  | .ixM i e, c, st => if (mutOf st.env i).isSome then fin c st ((ai cf e false st).bind fun v st => match mutOf st.env i, v.sh with
    | some t, .int l h => ofO 30 (ixT st.gs t l h) st
    | _, _ => .er [30]) else .er [30]
  | .nilM i, c, st => match openM i st with
    | some p => (match emptySh p.2.gs p.1, lenSh p.1 with
      | .tt b, _ => M.one ⟨.tt b, .kb b⟩ p.2
      | _, some q => if c then .ok [.ok ⟨.tt true, .hole⟩ { p.2 with gs := refGs p.2.gs q.1 }, .ok ⟨.tt false, .hole⟩ { p.2 with gs := refGs p.2.gs ((q.2.mulC (-1)).addC 1) }] else M.one ⟨.bol, .hole⟩ p.2
      | _, none => .er [31])
    | none => .er [31]
  | .popM i e, c, st => if (mutOf st.env i).isSome then fin c st ((ai cf e false st).bind fun v st => match mutOf st.env i, v.sh with
    | some t, .int (some l) (some h) => (match rowG st.gs t with
      | some (el, lo, hi) => if leL st.gs (.c 0) l && (leL st.gs (h.addC 1) lo && leL st.gs h (.c 1000000)) then (match setMut st.env i (.row el (lo.addC (-1)) (hi.addC (-1))) with
        | some env => M.one ⟨el, .hole⟩ { st with env := env }
        | none => .er [32]) else .er [32]
      | none => .er [32])
    | _, _ => .er [32]) else .er [32]
end HM

namespace HM
open PySem
/-! AI9: expressions on shapes: soundness -/
section
variable {g : List Int} {gs : Gs}
theorem Sat.set : ∀ {g : List Int} {gs : Gs} {i : Nat} {p : Int × Int} {x : Int}, Sat g gs → g[i]? = some x → p.1 ≤ x → x ≤ p.2 → Sat g (gs.set i p)
  | [], [], _, _, _, h, _, _, _ => h
  | _ :: _, _ :: _, 0, _, _, h, e, h1, h2 => by cases e; exact ⟨⟨h1, h2⟩, h.2⟩
  | _ :: _, _ :: _, i + 1, _, _, h, e, h1, h2 => ⟨h.1, Sat.set h.2 (by simpa using e) h1 h2⟩
  | [], _ :: _, _, _, _, h, _, _, _ => by cases h
  | _ :: _, [], _, _, _, h, _, _, _ => by cases h
def TermsOk (gs : Gs) (g : List Int) (L Z : Int) : Lin → Prop
  | .c _ => True
  | .t i k r => (∀ p x, gs[i]? = some p → g[i]? = some x → L - (if 0 ≤ k then k * p.1 else k * p.2) ≤ Z - k * x) ∧ TermsOk gs g L Z r
theorem terms_ok (hs : Sat g gs) {L Z : Int} : ∀ {l : Lin} {q : Int × Int} {z : Int}, l.rg gs = some q → l.ev g = some z → L - q.1 ≤ Z - z → TermsOk gs g L Z l
  | .c _, _, _, _, _, _ => trivial
  | .t i k r, q, z, e, v, h => by
    obtain ⟨x, y, h1, h2, rfl⟩ := ev_t v
    unfold Lin.rg at e
    split at e
    · rename_i p hp
      split at e
      · rename_i q' hq
        cases e
        have ir := rg_ev hs hq h2
        obtain ⟨x', hx', i1, i2⟩ := hs.get hp
        rw [h1] at hx'; cases hx'
        have cm : (if 0 ≤ k then k * p.1 else k * p.2) ≤ k * x := by
          split
          · rename_i hk; exact Int.mul_le_mul_of_nonneg_left i1 hk
          · rename_i hk; exact Int.mul_le_mul_of_nonpos_left (by omega) i2
        have eq : (if 0 ≤ k then (k * p.1 + q'.1, k * p.2 + q'.2) else (k * p.2 + q'.1, k * p.1 + q'.2)).1 = (if 0 ≤ k then k * p.1 else k * p.2) + q'.1 := by split <;> rfl
        rw [eq] at h
        refine ⟨fun p' x' hp' hx' => ?_, terms_ok hs hq h2 (by omega)⟩
        rw [hp] at hp'; cases hp'
        rw [h1] at hx'; cases hx'
        omega
      · cases e
    · cases e
theorem refTerm_ok (h0 : Sat g gs) {L Z : Int} (hz : Z ≤ 0) : ∀ {l : Lin} {hs : Gs}, TermsOk gs g L Z l → Sat g hs → Sat g (refTerm gs L l hs)
  | .c _, hs, _, h => h
  | .t i k r, hs, t, h => by
    unfold refTerm
    refine refTerm_ok h0 hz t.2 ?_
    split
    · rename_i p q hp hq
      obtain ⟨x, h1, h2, h3⟩ := h0.get hp
      obtain ⟨x', h1', h2', h3'⟩ := h.get hq
      rw [h1] at h1'; cases h1'
      have b := t.1 p x hp h1
      split
      · rename_i e; subst e
        rw [if_pos (by decide)] at b
        exact h.set h1 h2' (by dsimp only; omega)
      · split
        · rename_i e; subst e
          rw [if_neg (by decide)] at b
          exact h.set h1 (by dsimp only; omega) h3'
        · exact h
    · exact h
theorem refGs_ok (hs : Sat g gs) {l : Lin} {z : Int} (e : l.ev g = some z) (hz : z ≤ 0) : Sat g (refGs gs l) := by
  unfold refGs
  split
  · rename_i q hq
    exact refTerm_ok hs hz (terms_ok hs hq e (by omega)) hs
  · exact hs
def Low (g : List Int) (l : Lin) : Prop := ∃ z, l.ev g = some z ∧ z ≤ 0
theorem refAll_ok : ∀ {ls : List Lin} {gs : Gs}, Sat g gs → (∀ l ∈ ls, Low g l) → Sat g (refAll gs ls)
  | [], _, h, _ => h
  | l :: r, gs, h, k => by
    obtain ⟨z, e, hz⟩ := k l List.mem_cons_self
    show Sat g (refAll (refGs gs l) r)
    exact refAll_ok (refGs_ok h e hz) fun x hx => k x (List.mem_cons_of_mem _ hx)
theorem osub1_ok {a b : Option Lin} {k x y : Int} (ha : LoB g a x) (hb : HiB g b y) (h : x + k ≤ y) : ∀ l ∈ osub1 k a b, Low g l := fun l hl => by
  cases a <;> cases b <;> try (cases hl; done)
  obtain ⟨v, v1, v2⟩ := ha
  obtain ⟨w, w1, w2⟩ := hb
  rw [List.mem_singleton.mp hl]
  exact ⟨_, ev_addC k (ev_sub v1 w1), by omega⟩
theorem lenSh_seq : ∀ {t : Sh} {p : Lin × Lin}, lenSh t = some p → isSeq t = true := fun {t} => by
  induction t with
  | nil => intro p _; rfl
  | cons a r _ ih => intro p h; obtain ⟨q, hq, _⟩ := Option.map_eq_some_iff.mp h; exact ih hq
  | row => intro p _; rfl
  | _ => intro p h; cases h
theorem empty_low {t : Sh} {ds : List PyData} (h : Has g t (.tuple ds)) (e : ds.isEmpty = true) : ∀ l ∈ (match lenSh t with | some p => [p.1] | none => []), Low g l := fun l hl => by
  split at hl
  · rename_i p hp
    rw [List.mem_singleton.mp hl]
    obtain ⟨v, v1, v2⟩ := (lenSh_ok hp h).1
    rw [List.isEmpty_iff.mp e] at v2
    exact ⟨v, v1, v2⟩
  · cases hl
theorem full_low {t : Sh} {ds : List PyData} (h : Has g t (.tuple ds)) (e : ds.isEmpty = false) : ∀ l ∈ (match lenSh t with | some p => [(p.2.mulC (-1)).addC 1] | none => []), Low g l := fun l hl => by
  split at hl
  · rename_i p hp
    rw [List.mem_singleton.mp hl]
    obtain ⟨v, v1, v2⟩ := (lenSh_ok hp h).2
    have : 1 ≤ ds.length := by cases ds with | nil => cases e | cons => rw [List.length_cons]; omega
    exact ⟨_, ev_addC 1 (ev_mulC (-1) v1), by omega⟩
  · cases hl
theorem nil_tup {t : Sh} {x : PyData} {f : Lin × Lin → Lin} {l : Lin} (h : Has g t x) (hl : l ∈ (match lenSh t with | some p => [f p] | none => [])) : ∃ ds, x = .tuple ds := by
  split at hl
  · rename_i p hp; exact seq_tup (lenSh_seq hp) h
  · cases hl
theorem some_dec {p : Prop} [Decidable p] {b : Bool} (h : some (decide p) = some b) : decide p = b := Option.some.inj h
theorem factsOf_ok (hs : Sat g gs) {o : Cm} {b : Bool} {A B : Sh} {x y : PyData} (hA : Has g A x) (hB : Has g B y) (h : cmpD o x y = some b) : ∀ l ∈ factsOf gs o b A B, Low g l := by
  unfold factsOf
  split
  case h_1 | h_2 | h_3 | h_4 | h_5 | h_6 | h_7 | h_8 =>
    obtain ⟨i, rfl, h1, h2⟩ := hA
    obtain ⟨j, rfl, h3, h4⟩ := hB
    have h := some_dec h
    simp only [decide_eq_true_eq, decide_eq_false_iff_not] at h
    first
      | exact osub1_ok h1 h4 (by omega)
      | exact osub1_ok h3 h2 (by omega)
  case h_9 | h_10 =>
    obtain ⟨i, rfl, h1, h2⟩ := hA
    obtain ⟨j, rfl, h3, h4⟩ := hB
    have e : i = j := by
      have h := Option.some.inj h
      first
        | (have h : (i == j) = true := h; exact by simpa using h)
        | (have h : (!(i == j)) = false := h; exact by simpa using h)
    subst e
    intro l hl
    rcases List.mem_append.mp hl with hl | hl
    · exact osub1_ok h1 h4 (by omega) l hl
    · exact osub1_ok h3 h2 (by omega) l hl
  case h_11 | h_12 =>
    obtain ⟨i, rfl, h1, h2⟩ := hA
    obtain ⟨j, rfl, h3, h4⟩ := hB
    have e : i ≠ j := by
      have h := Option.some.inj h
      first
        | (have h : (i == j) = false := h; exact by simpa using h)
        | (have h : (!(i == j)) = true := h; exact by simpa using h)
    split
    · rename_i q
      have := leOO_ok hs q h4 h1
      exact osub1_ok h3 h2 (by omega)
    · split
      · rename_i q
        have := leOO_ok hs q h2 h3
        exact osub1_ok h1 h4 (by omega)
      · intro l hl; cases hl
  case h_13 | h_14 =>
    obtain ⟨xs, rfl, h1⟩ := hA
    obtain ⟨ys, rfl, h2⟩ := hB
    cases h2
    have h := Option.some.inj h
    exact empty_low h1 (by first | exact h | (have h : (!xs.isEmpty) = false := h; exact by simpa using h))
  case h_15 | h_16 =>
    obtain ⟨xs, rfl, h1⟩ := hA
    obtain ⟨ys, rfl, h2⟩ := hB
    cases h2
    have h := Option.some.inj h
    exact full_low h1 (by first | exact h | (have h : (!xs.isEmpty) = true := h; exact by simpa using h))
  case h_17 | h_18 =>
    intro l hl
    obtain ⟨xs, rfl⟩ := nil_tup (f := fun p => p.1) hA hl
    cases hB
    have h := Option.some.inj h
    exact empty_low hA (by first | exact h | (have h : (!xs.isEmpty) = false := h; exact by simpa using h)) l hl
  case h_19 | h_20 =>
    intro l hl
    obtain ⟨xs, rfl⟩ := nil_tup (f := fun p => (p.2.mulC (-1)).addC 1) hA hl
    cases hB
    have h := Option.some.inj h
    exact full_low hA (by first | exact h | (have h : (!xs.isEmpty) = true := h; exact by simpa using h)) l hl
  case h_21 => intro l hl; cases hl
theorem opred_hi {a : Option Lin} {x : Int} (h : HiB g a x) : HiB g (opred a) (x - 1) := by
  cases a with
  | none => trivial
  | some a => obtain ⟨v, h1, h2⟩ := h; exact ⟨_, ev_addC (-1) h1, by omega⟩
theorem osucc_lo {a : Option Lin} {x : Int} (h : LoB g a x) : LoB g (osucc a) (x + 1) := by
  cases a with
  | none => trivial
  | some a => obtain ⟨v, h1, h2⟩ := h; exact ⟨_, ev_addC 1 h1, by omega⟩
theorem capSh_ok (hs : Sat g gs) {o : Cm} {b : Bool} {A B : Sh} {x y : PyData} (hA : Has g A x) (hB : Has g B y) (h : cmpD o x y = some b) : Has g (capSh gs o b A B).1 x ∧ Has g (capSh gs o b A B).2 y := by
  unfold capSh
  split
  case h_1 | h_2 | h_3 | h_4 | h_5 | h_6 | h_7 | h_8 =>
    obtain ⟨i, rfl, h1, h2⟩ := hA
    obtain ⟨j, rfl, h3, h4⟩ := hB
    have h := some_dec h
    simp only [decide_eq_true_eq, decide_eq_false_iff_not] at h
    first
      | exact ⟨⟨i, rfl, h1, pickHi_ok h2 (opred_hi h4) (by omega) (by omega)⟩, ⟨j, rfl, pickLo_ok h3 (osucc_lo h1) (by omega) (by omega), h4⟩⟩
      | exact ⟨⟨i, rfl, h1, pickHi_ok h2 h4 (by omega) (by omega)⟩, ⟨j, rfl, pickLo_ok h3 h1 (by omega) (by omega), h4⟩⟩
      | exact ⟨⟨i, rfl, pickLo_ok h1 (osucc_lo h3) (by omega) (by omega), h2⟩, ⟨j, rfl, h3, pickHi_ok h4 (opred_hi h2) (by omega) (by omega)⟩⟩
      | exact ⟨⟨i, rfl, pickLo_ok h1 h3 (by omega) (by omega), h2⟩, ⟨j, rfl, h3, pickHi_ok h4 h2 (by omega) (by omega)⟩⟩
  case h_9 | h_10 =>
    obtain ⟨i, rfl, h1, h2⟩ := hA
    obtain ⟨j, rfl, h3, h4⟩ := hB
    have e : i = j := by
      have h := Option.some.inj h
      first
        | (have h : (i == j) = true := h; exact by simpa using h)
        | (have h : (!(i == j)) = false := h; exact by simpa using h)
    subst e
    exact ⟨⟨i, rfl, pickLo_ok h1 h3 (by omega) (by omega), pickHi_ok h2 h4 (by omega) (by omega)⟩, ⟨i, rfl, pickLo_ok h1 h3 (by omega) (by omega), pickHi_ok h2 h4 (by omega) (by omega)⟩⟩
  case h_11 | h_12 =>
    obtain ⟨i, rfl, h1, h2⟩ := hA
    obtain ⟨j, rfl, h3, h4⟩ := hB
    have e : i ≠ j := by
      have h := Option.some.inj h
      first
        | (have h : (i == j) = false := h; exact by simpa using h)
        | (have h : (!(i == j)) = true := h; exact by simpa using h)
    refine ⟨⟨i, rfl, ?_, h2⟩, ⟨j, rfl, h3, h4⟩⟩
    split
    · rename_i q
      have := leOO_ok hs q h4 h1
      exact pickLo_ok h1 (osucc_lo h3) (by omega) (by omega)
    · exact h1
  case h_13 | h_15 =>
    cases hB
    have e : isNone x = true := by
      have h : cmpD _ x .none = some _ := h
      cases x <;> first | rfl | (cases h; done)
    cases x <;> first | exact ⟨rfl, rfl⟩ | (cases e; done)
  case h_14 | h_16 =>
    cases hB
    rcases hA with rfl | hA
    · cases h
    · exact ⟨hA, rfl⟩
  case h_17 => exact ⟨hA, hB⟩
end
end HM

namespace HM
open PySem
/-! AI10: expressions on shapes: soundness, second part -/
section
variable {I : Itp} {s t : Sg}
theorem updEnv_ok {tm : Tm} {sh : Sh} {d : PyData} (hd : TmHas I s.w tm d) (h : Has s.g sh d) {env : List As} {ρ : Env} (e : EnvOk I s env ρ) : EnvOk I s (updEnv tm sh env) ρ := by
  unfold updEnv
  split
  · rename_i hf
    have one : ∀ {a : As} {x : Slot}, HasS I s a x → HasS I s (updTm tm sh a) x := fun {a x} ha => by
      cases a with
      | val v =>
        show HasS I s (if v.tm.beq tm = true then As.val { sh := sh, tm := tm } else As.val v) x
        split
        · rename_i q
          obtain ⟨d', rfl, h1, h2⟩ := ha
          rw [Tm.beq_eq q] at h2
          have := TmHas.uniq hf h2 hd
          subst this
          exact ⟨d', rfl, h, hd⟩
        · exact ha
      | _ => exact ha
    have go : ∀ {env : List As} {ρ : Env}, EnvOk I s env ρ → EnvOk I s (env.map (updTm tm sh)) ρ := fun {env} => by
      induction env with
      | nil => intro ρ h; exact h
      | cons a r ih =>
        intro ρ h
        cases ρ with
        | nil => cases h
        | cons x ρ => exact ⟨one h.1, ih h.2⟩
    exact go e
  · exact e
theorem refSt_ok {st : St} {ρ : Env} {o : Cm} {b : Bool} {va vb : Va} {x y : PyData} (hst : StOk I s st ρ) (ha : HasV I s va x) (hb : HasV I s vb y) (h : cmpD o x y = some b) : StOk I s (refSt st o b va vb) ρ := by
  have hs := hst.1.1
  obtain ⟨c1, c2⟩ := capSh_ok hs ha.1 hb.1 h
  exact ⟨⟨refAll_ok hs (factsOf_ok hs ha.1 hb.1 h), hst.1.2⟩, updEnv_ok hb.2 c2 (updEnv_ok ha.2 c1 hst.2)⟩
theorem lookF_ok : ∀ {fs : List (Tm × Bool)} {t : Tm} {b : Bool}, lookF fs t = some b → (∀ p ∈ fs, TmHas I s.w p.1 (.bool p.2)) → TmHas I s.w t (.bool b)
  | [], _, _, e, _ => by cases e
  | p :: r, t, b, e, h => by
    unfold lookF at e
    split at e
    · rename_i q
      cases e
      rw [← Tm.beq_eq q]
      exact h p List.mem_cons_self
    · exact lookF_ok e fun p hp => h p (List.mem_cons_of_mem _ hp)
theorem splitL_ok {r : R PyData} : ∀ {l : List (Al Va)}, MOk I (PV I) s l r → MOk I (PV I) s (splitL l) r
  | [], h => h
  | .ex c a st :: l, ⟨al, hal, q⟩ => by
    unfold splitL
    rcases List.mem_cons.mp hal with rfl | hal
    · exact ⟨_, List.mem_cons_self, q⟩
    · obtain ⟨b, hb, q⟩ := splitL_ok (l := l) ⟨al, hal, q⟩
      exact ⟨b, List.mem_cons_of_mem _ hb, q⟩
  | .ok v st :: l, ⟨al, hal, q⟩ => by
    unfold splitL
    rcases List.mem_cons.mp hal with rfl | hal
    · have : MOk I (PV I) s (match v.sh with
        | .bol => if v.tm.full then (match lookF st.fs v.tm with
            | some b => [.ok ⟨.tt b, v.tm⟩ st]
            | none => [.ok ⟨.tt true, v.tm⟩ { st with fs := (v.tm, true) :: st.fs }, .ok ⟨.tt false, v.tm⟩ { st with fs := (v.tm, false) :: st.fs }])
          else [.ok ⟨.tt true, .hole⟩ st, .ok ⟨.tt false, .hole⟩ st]
        | _ => [.ok v st]) r := by
        obtain ⟨t, lt, d, ρ, rfl, h1, h2⟩ := q
        split
        · rename_i e
          obtain ⟨b, rfl⟩ : ∃ b, d = .bool b := by have := h2.1; rw [e] at this; exact this
          split
          · rename_i hf
            split
            · rename_i b' hb
              have := lookF_ok (s := t) hb h1.1.2.2
              have e2 := TmHas.uniq hf this h2.2
              cases e2
              exact ⟨_, List.mem_cons_self, t, lt, _, ρ, rfl, h1, rfl, h2.2⟩
            · cases b
              · exact ⟨_, List.mem_cons_of_mem _ List.mem_cons_self, t, lt, _, ρ, rfl, ⟨⟨h1.1.1, h1.1.2.1, fun p hp => by
                  rcases List.mem_cons.mp hp with rfl | hp
                  · exact h2.2
                  · exact h1.1.2.2 p hp⟩, h1.2⟩, rfl, h2.2⟩
              · exact ⟨_, List.mem_cons_self, t, lt, _, ρ, rfl, ⟨⟨h1.1.1, h1.1.2.1, fun p hp => by
                  rcases List.mem_cons.mp hp with rfl | hp
                  · exact h2.2
                  · exact h1.1.2.2 p hp⟩, h1.2⟩, rfl, h2.2⟩
          · cases b
            · exact ⟨_, List.mem_cons_of_mem _ List.mem_cons_self, t, lt, _, ρ, rfl, h1, rfl, trivial⟩
            · exact ⟨_, List.mem_cons_self, t, lt, _, ρ, rfl, h1, rfl, trivial⟩
        · exact ⟨_, List.mem_cons_self, t, lt, d, ρ, rfl, h1, h2⟩
      obtain ⟨b, hb, q⟩ := this
      exact ⟨b, List.mem_append_left _ hb, q⟩
    · obtain ⟨b, hb, q⟩ := splitL_ok (l := l) ⟨al, hal, q⟩
      exact ⟨b, List.mem_append_right _ hb, q⟩
theorem fin_ok {c : Bool} {st0 : St} (h0 : BOk I s st0) {m : M Va} {r : R PyData} {l : List (Al Va)} (e : fin c st0 m = .ok l) (h : ∀ l, m = .ok l → MOk I (PV I) s l r) : MOk I (PV I) s l r := by
  unfold fin at e
  split at e
  · cases m with
    | er p => cases e
    | ok l0 => cases e; exact splitL_ok (h _ rfl)
  · exact squash_ok h0 e h
theorem one_ok' {l : List (Al Va)} {v : Va} {st : St} {d : PyData} {ρ : Env} (e : M.one v st = .ok l) (h : StOk I s st ρ) (p : HasV I s v d) : MOk I (PV I) s l (.ok d ρ) := one_ok e h p
theorem ofO_ok {n : Nat} {o : Option Sh} {z : Option PyData} {l : List (Al Va)} {st : St} {ρ : Env} (e : ofO n o st = .ok l) (h : StOk I s st ρ) (p : ∀ sh, o = some sh → ∃ d, z = some d ∧ Has s.g sh d) : MOk I (PV I) s l (R.of z ρ) := by
  unfold ofO at e
  split at e
  · rename_i sh
    obtain ⟨d, rfl, hd⟩ := p sh rfl
    exact one_ok' e h ⟨hd, trivial⟩
  · cases e
theorem readV_ok {st : St} {i : Nat} {ρ : Env} {l : List (Al Va)} (h : StOk I s st ρ) (e : readV st i = .ok l) : MOk I (PV I) s l (rdVar ρ i) := by
  unfold readV at e
  split at e
  · rename_i v hv
    obtain ⟨x, h1, ⟨d, rfl, h2⟩, h3⟩ := h.2.get hv
    obtain ⟨t, lt, b, hh, e1⟩ := normV_ok h.1 h2
    have r : rdVar ρ i = .ok d ρ := by unfold rdVar; rw [h3]
    rw [r]
    cases e
    exact ⟨_, List.mem_cons_self, t, lt, d, ρ, rfl, ⟨b, (h.2.mono lt).set' h1 ⟨d, rfl, hh⟩⟩, hh⟩
  · rename_i v hv
    obtain ⟨x, h1, ⟨ds, rfl, h2⟩, h3⟩ := h.2.get hv
    obtain ⟨t, lt, b, hh, e1⟩ := normV_ok (v := ⟨.lst v, .hole⟩) (d := .list ds) h.1 ⟨⟨ds, rfl, h2⟩, trivial⟩
    have r : rdVar ρ i = .ok (.list ds) (ρ.set i (.val (.list ds))) := by unfold rdVar; rw [h3]
    rw [r]
    cases e
    exact ⟨_, List.mem_cons_self, t, lt, _, _, rfl, ⟨b, (h.2.mono lt).set ⟨_, rfl, hh⟩⟩, hh⟩
  · cases e
def HasVs (I : Itp) (s : Sg) : List Va → List PyData → Prop
  | [], [] => True
  | v :: vs, d :: ds => HasV I s v d ∧ HasVs I s vs ds
  | _, _ => False
theorem HasVs.mono : ∀ {vs : List Va} {ds : List PyData}, HasVs I s vs ds → s.le t → HasVs I t vs ds
  | [], [], _, _ => trivial
  | _ :: _, _ :: _, h, l => ⟨h.1.mono l, h.2.mono l⟩
  | [], _ :: _, h, _ => by cases h
  | _ :: _, [], h, _ => by cases h
theorem HasVs.shs : ∀ {vs : List Va} {ds : List PyData}, HasVs I s vs ds → HasL s.g (vs.map (·.sh)) ds
  | [], [], _ => trivial
  | _ :: _, _ :: _, h => ⟨h.1.1, h.2.shs⟩
  | [], _ :: _, h => by cases h
  | _ :: _, [], h => by cases h
theorem HasVs.len : ∀ {vs : List Va} {ds : List PyData}, HasVs I s vs ds → vs.length = ds.length
  | [], [], _ => rfl
  | _ :: _, _ :: _, h => by rw [List.length_cons, List.length_cons, h.2.len]
  | [], _ :: _, h => by cases h
  | _ :: _, [], h => by cases h
theorem argsOf_ok : ∀ {sh : Sh} {tm : Tm} {as : List Va} {ds : List PyData}, argsOf sh tm = some as → Has s.g sh (.tuple ds) → TmHas I s.w tm (.tuple ds) → HasVs I s as ds := fun {sh} => by
  induction sh with
  | nil =>
    intro tm as ds e h _
    cases h
    cases tm <;> (cases e; trivial)
  | cons a r _ ih =>
    intro tm as ds e h g
    obtain ⟨x, ys, e0, h1, h2⟩ := h
    cases e0
    have gen : (argsOf r .hole).map (⟨a, .hole⟩ :: ·) = some as → HasVs I s as (x :: ys) := fun e => by
      obtain ⟨q, hq, rfl⟩ := Option.map_eq_some_iff.mp e
      exact ⟨⟨h1, trivial⟩, ih hq h2 trivial⟩
    cases tm with
    | cons ta tr =>
      obtain ⟨x', ys', e0, g1, g2⟩ := g
      cases e0
      obtain ⟨q, hq, rfl⟩ := Option.map_eq_some_iff.mp e
      exact ⟨⟨h1, g1⟩, ih hq h2 g2⟩
    | _ => exact gen e
  | _ => intro tm as ds e; cases tm <;> cases e
theorem HasVs.ins {v : Va} {d : PyData} (hv : HasV I s v d) : ∀ {p : Nat} {vs : List Va} {ds : List PyData}, HasVs I s vs ds → HasVs I s (insAt p v vs) (insAt p d ds)
  | 0, vs, ds, h => by
    unfold insAt
    rw [List.take_zero, List.take_zero, List.drop_zero, List.drop_zero]
    exact ⟨hv, h⟩
  | p + 1, [], [], h => by
    unfold insAt
    simp only [List.take_nil, List.drop_nil, List.nil_append]
    exact ⟨hv, trivial⟩
  | p + 1, a :: as, d :: ds, h => ⟨h.1, HasVs.ins (p := p) hv h.2⟩
  | _ + 1, [], _ :: _, h => by cases h
  | _ + 1, _ :: _, [], h => by cases h
def HasIo (s : Sg) : Option Sh → List PyData → Prop
  | none, _ => True
  | some t, ds => Has s.g t (.tuple ds)
def PR (I : Itp) (s : Sg) : Rs → FR → Prop
  | .v x io, .ok d ds => HasV I s x d ∧ HasIo s io ds
  | .x c a io, .exc z ds => z.cls = c ∧ XArg I s a z.arg ∧ HasIo s io ds
  | _, _ => False
def frR : FR → Env → R FR
  | .bad, _ => .bad
  | r, ρ => .ok r ρ
/-- what calls are said to do holds -/
def CallOk (I : Itp) (Φ : Fns) (cf : Cf) : Prop := ∀ f as st l, cf f as st = .ok l → ∀ s ρ ds, StOk I s st ρ → HasVs I s as ds → MOk I (PR I) s l (frR (Φ f ds) ρ)
theorem mutOf_ok {env : List As} {i : Nat} {t : Sh} {ρ : Env} (h : EnvOk I s env ρ) (e : mutOf env i = some t) : ∃ ds, mutS (getS ρ i) = some ds ∧ Has s.g t (.tuple ds) := by
  unfold mutOf at e
  split at e
  · rename_i u hu; cases e
    obtain ⟨x, h1, ⟨ds, rfl, h2⟩, h3⟩ := h.get hu
    exact ⟨ds, by rw [h3]; rfl, h2⟩
  · rename_i u hu; cases e
    obtain ⟨x, h1, ⟨ds, rfl, h2⟩, h3⟩ := h.get hu
    exact ⟨ds, by rw [h3]; rfl, h2⟩
  · cases e
theorem setMut_ok {env e2 : List As} {i : Nat} {t : Sh} {ρ : Env} {ds : List PyData} (e : setMut env i t = some e2) (h : EnvOk I s env ρ) (g : Has s.g t (.tuple ds)) : EnvOk I s e2 (ρ.set i (remut (getS ρ i) ds)) := by
  unfold setMut at e
  split at e
  · rename_i u hu
    cases e
    obtain ⟨x, h1, ⟨ds', rfl, h2⟩, h3⟩ := h.get hu
    rw [h3]
    exact h.set ⟨ds, rfl, g⟩
  · rename_i u hu
    cases e
    obtain ⟨x, h1, ⟨ds', rfl, h2⟩, h3⟩ := h.get hu
    rw [h3]
    exact h.set ⟨ds, rfl, g⟩
  · cases e
theorem openM_ok {i : Nat} {st : St} {p : Sh × St} {ρ : Env} (e : openM i st = some p) (h : StOk I s st ρ) : ∃ t ds, s.le t ∧ mutS (getS ρ i) = some ds ∧ Has t.g p.1 (.tuple ds) ∧ StOk I t p.2 ρ := by
  unfold openM at e
  split at e
  · rename_i u hu
    obtain ⟨env, he, rfl⟩ := Option.map_eq_some_iff.mp e
    obtain ⟨ds, h1, h2⟩ := mutOf_ok h.2 hu
    have hs := h.1.1
    obtain ⟨t, lt, ew, b, hh, e1, e2, e3⟩ := openSt_ok (d := .tuple ds) h.1 h2
    refine ⟨t, ds, lt, h1, hh, b, ?_⟩
    have := setMut_ok he (h.2.mono lt) hh
    have hr : ρ.set i (remut (getS ρ i) ds) = ρ := by
      by_cases l : i < ρ.length
      · have e4 : ρ[i]? = some ρ[i] := List.getElem?_eq_getElem l
        have e5 : getS ρ i = ρ[i] := by unfold getS; rw [List.getD_eq_getElem?_getD, e4]; rfl
        have : remut (getS ρ i) ds = ρ[i] := by
          rw [← e5]
          cases q : getS ρ i with
          | un => rfl
          | val d => rfl
          | mu d => rw [q] at h1; cases h1; rfl
          | par d => rw [q] at h1; cases h1; rfl
        rw [this, List.set_getElem_self]
      · exact List.set_eq_of_length_le (by omega)
    rw [hr] at this
    exact this
  · cases e
theorem putA_ok {env e2 : List As} {i : Nat} {a : As} {x : Slot} {ρ : Env} (e : putA env i a = some e2) (h : EnvOk I s env ρ) (g : HasS I s a x) : ∃ ρ2, putS ρ i x = some ρ2 ∧ EnvOk I s e2 ρ2 := by
  unfold putA at e
  split at e
  · cases e
  · cases e
  · rename_i b nb hb
    cases e
    obtain ⟨y, h1, h2, h3⟩ := h.get hb
    refine ⟨ρ.set i x, ?_, h.set g⟩
    unfold putS
    rw [h1]
    cases y with
    | par ds =>
      cases b with
      | par u => exact (nb u rfl).elim
      | un => cases h2
      | val v => obtain ⟨d, h2, _⟩ := h2; cases h2
      | mu t => obtain ⟨d, h2, _⟩ := h2; cases h2
      | jk => rcases h2 with h2 | ⟨d, h2⟩ <;> cases h2
      | jm => rcases h2 with h2 | ⟨d, h2⟩ | ⟨d, h2⟩ <;> cases h2
    | _ => rfl
theorem putAllA_ok : ∀ {is : List Nat} {sh : Sh} {env e2 : List As} {ds : List PyData} {ρ : Env}, putAllA is sh env = some e2 → EnvOk I s env ρ → Has s.g sh (.tuple ds) → ∃ ρ2, putAll is ds ρ = some ρ2 ∧ EnvOk I s e2 ρ2
  | [], .nil, env, e2, ds, ρ, e, h, g => by cases e; cases g; exact ⟨ρ, rfl, h⟩
  | i :: is, .cons a r, env, e2, ds, ρ, e, h, g => by
    obtain ⟨x, ys, e0, h1, h2⟩ := g
    cases e0
    obtain ⟨env1, he, e⟩ := Option.bind_eq_some_iff.mp e
    obtain ⟨ρ1, p1, h3⟩ := putA_ok (x := .val x) he h ⟨x, rfl, h1, trivial⟩
    obtain ⟨ρ2, p2, h4⟩ := putAllA_ok e h3 h2
    exact ⟨ρ2, by show (putS ρ i (.val x)).bind _ = _; rw [p1]; exact p2, h4⟩
  | [], .any, _, _, _, _, e, _, _ | [], .bot, _, _, _, _, e, _, _ | [], .dat .., _, _, _, _, e, _, _ | [], .non, _, _, _, _, e, _, _ | [], .bol, _, _, _, _, e, _, _ | [], .tt _, _, _, _, _, e, _, _ | [], .int .., _, _, _, _, e, _, _ | [], .str _, _, _, _, _, e, _, _ | [], .cons .., _, _, _, _, e, _, _ | [], .row .., _, _, _, _, e, _, _ | [], .lst _, _, _, _, _, e, _, _ | [], .opt _, _, _, _, _, e, _, _ => by cases e
  | _ :: _, .any, _, _, _, _, e, _, _ | _ :: _, .bot, _, _, _, _, e, _, _ | _ :: _, .dat .., _, _, _, _, e, _, _ | _ :: _, .non, _, _, _, _, e, _, _ | _ :: _, .bol, _, _, _, _, e, _, _ | _ :: _, .tt _, _, _, _, _, e, _, _ | _ :: _, .int .., _, _, _, _, e, _, _ | _ :: _, .str _, _, _, _, _, e, _, _ | _ :: _, .nil, _, _, _, _, e, _, _ | _ :: _, .row .., _, _, _, _, e, _, _ | _ :: _, .lst _, _, _, _, _, e, _, _ | _ :: _, .opt _, _, _, _, _, e, _, _ => by cases e
theorem putAllA_tup {is : List Nat} {sh : Sh} {env e2 : List As} {d : PyData} (e : putAllA is sh env = some e2) (g : Has s.g sh d) : ∃ ds, d = .tuple ds := by
  cases is with
  | nil => cases sh <;> first | (exact ⟨_, g⟩) | (cases e; done)
  | cons i is => cases sh <;> first | (obtain ⟨_, _, e0, _⟩ := g; exact ⟨_, e0⟩) | (cases e; done)
theorem asgA_ok {tg : Tg} {v : Va} {env e2 : List As} {d : PyData} {ρ : Env} (e : asgA tg v env = some e2) (h : EnvOk I s env ρ) (g : HasV I s v d) : ∃ ρ2, asgT tg d ρ = some ρ2 ∧ EnvOk I s e2 ρ2 := by
  cases tg with
  | one i => exact putA_ok (x := .val d) e h ⟨d, rfl, g⟩
  | many is =>
    have e : putAllA is v.sh env = some e2 := e
    obtain ⟨ds, rfl⟩ := putAllA_tup e g.1
    exact putAllA_ok e h g.1
theorem setAll_un : ∀ {own : List Nat} {env : List As} {ρ : Env}, EnvOk I s env ρ → EnvOk I s (setAll .un own env) (wipeS own ρ)
  | [], _, _, h => h
  | i :: r, env, ρ, h => EnvOk.set (setAll_un (own := r) h) rfl
theorem ownB_get {own : List Nat} {env : List As} {ρ : Env} (h : EnvOk I s env ρ) (e : ownB own env = true) : ∀ i ∈ own, ∃ x, ρ[i]? = some x ∧ getS ρ i = x ∧ HasS I s .jk x := fun i hi => by
  have := List.all_eq_true.mp e i hi
  split at this
  · rename_i q; obtain ⟨x, h1, h2, h3⟩ := h.get q; exact ⟨x, h1, h3, .inl h2⟩
  · rename_i q; obtain ⟨x, h1, ⟨d, h2, _⟩, h3⟩ := h.get q; exact ⟨x, h1, h3, .inr ⟨d, h2⟩⟩
  · rename_i q; obtain ⟨x, h1, h2, h3⟩ := h.get q; exact ⟨x, h1, h3, h2⟩
  · cases this
theorem ownB_ok {own : List Nat} {env : List As} {ρ : Env} (h : EnvOk I s env ρ) (e : ownB own env = true) : ownOk own ρ = true := List.all_eq_true.mpr fun i hi => by
  obtain ⟨x, h1, h2, h3⟩ := ownB_get h e i hi
  rw [h2]
  rcases h3 with rfl | ⟨d, rfl⟩ <;> rfl
theorem setAll_jk : ∀ {own : List Nat} {env : List As} {ρ : Env}, EnvOk I s env ρ → (∀ i ∈ own, ∃ x, ρ[i]? = some x ∧ HasS I s .jk x) → EnvOk I s (setAll .jk own env) ρ
  | [], _, _, h, _ => h
  | i :: r, env, ρ, h, k => by
    obtain ⟨x, h1, h2⟩ := k i List.mem_cons_self
    exact EnvOk.set' (setAll_jk (own := r) h fun j hj => k j (List.mem_cons_of_mem _ hj)) h1 h2
theorem giveA_ok {e0 : List As} {ρ0 : Env} (h0 : EnvOk I s e0 ρ0) : ∀ {own : List Nat} {env : List As} {ρ : Env}, (∀ i ∈ own, ∃ x, ρ0[i]? = some x) → EnvOk I s env ρ → EnvOk I s (giveA own e0 env) (giveS own ρ0 ρ)
  | [], _, _, _, h => h
  | i :: r, env, ρ, k, h => by
    refine EnvOk.set (giveA_ok h0 (own := r) (fun j hj => k j (List.mem_cons_of_mem _ hj)) h) ?_
    obtain ⟨x, hx⟩ := k i List.mem_cons_self
    have hl : i < e0.length := by rw [h0.len]; exact (List.getElem?_eq_some_iff.mp hx).1
    have e1 : e0[i]? = some e0[i] := List.getElem?_eq_getElem hl
    obtain ⟨y, h1, h2, h3⟩ := h0.get e1
    rw [h3, List.getD_eq_getElem?_getD, e1]
    exact h2
end
end HM

namespace HM
open PySem
/-! AI11: comprehensions, and all expressions -/
section
variable {I : Itp} {s t : Sg}
/-- a function on states tells what another does -/
def Tells (I : Itp) (f : St → M Va) (e : Env → R PyData) : Prop := ∀ st l, f st = .ok l → ∀ s ρ, StOk I s st ρ → MOk I (PV I) s l (e ρ)
def PO (I : Itp) (s : Sg) : Option Va → Option PyData → Prop
  | some v, some d => HasV I s v d
  | none, none => True
  | _, _ => False
theorem compBody_ok {tg : Tg} {own : List Nat} {el : Sh} {cnd elt : St → M Va} {fc fe : Env → R PyData} (hc : Tells I cnd fc) (he : Tells I elt fe) {J : List As} {st : St} {l : List (Al (Option Va))} {d : PyData} {ρ : Env} (e : compBody tg own el cnd elt J st = .ok l) (hb : BOk I s st) (hJ : EnvOk I s J ρ) (hd : Has s.g el d) : MOk I (PO I) s l (turnC own tg fc fe d ρ) := by
  unfold compBody at e
  split at e
  · cases e
  · rename_i env henv
    obtain ⟨ρ2, h1, h2⟩ := asgA_ok henv (setAll_un (own := own) hJ) (d := d) ⟨hd, trivial⟩
    unfold turnC
    rw [h1]
    dsimp only
    have hst : StOk I s { st with env := env } ρ2 := ⟨hb, h2⟩
    refine mbind_ok (P := PV I) (fun l hl => hc _ _ hl s ρ2 hst) e fun v st1 t b ρ3 l' lt h3 p hl => ?_
    split at hl
    · rename_i hv
      have p := p.1
      rw [hv] at p
      cases p
      dsimp only
      refine mbind_ok (P := PV I) (fun l hl => he _ _ hl t ρ3 h3) hl fun w st2 u y ρ4 l2 lu h4 p hl2 => ?_
      exact one_ok hl2 h4 p
    · rename_i hv
      have p := p.1
      rw [hv] at p
      cases p
      exact one_ok hl h3 trivial
    · cases hl
theorem compGather_ok {st : St} {J : List As} : ∀ {l : List (Al (Option Va))} {e : Sh} {all : Bool}, compGather st J l = some (e, all) → ∀ s, BOk I s st → ∀ {r : R (Option PyData)}, MOk I (PO I) s l r → ∃ o ρ, r = .ok o ρ ∧ EnvOk I s J ρ ∧ (∀ y, o = some y → Has s.g e y) ∧ (all = true → o.isSome = true)
  | [], e, all, _, s, _, r, h => by obtain ⟨_, h, _⟩ := h; cases h
  | .ex .. :: _, e, all, h, s, _, r, _ => by cases h
  | .ok o st1 :: l, e, all, h, s, hb, r, ⟨al, hal, q⟩ => by
    unfold compGather at h
    split at h
    · rename_i hle
      split at h
      · rename_i p hp
        rcases List.mem_cons.mp hal with rfl | hal
        · obtain ⟨t, lt, b, ρ, rfl, h1, h2⟩ := q
          have hJ := leEnv_ok hb.1 hle (clipEnv_ok hb lt h1.1.1 h1.2)
          split at h
          · rename_i w
            cases h
            cases b with
            | none => cases h2
            | some y =>
              refine ⟨some y, ρ, rfl, hJ, fun y' hy => ?_, fun _ => rfl⟩
              cases hy
              exact jn_ok hb.1 (.inl (clipSh_ok hb lt h1.1.1 h2.1))
          · cases h
            cases b with
            | some _ => cases h2
            | none => exact ⟨none, ρ, rfl, hJ, (fun y hy => by cases hy), fun h => by cases h⟩
        · have ih := compGather_ok (l := l) (e := p.1) (all := p.2) hp s hb ⟨al, hal, q⟩
          obtain ⟨o', ρ, e1, e2, e3, e4⟩ := ih
          split at h
          · cases h
            exact ⟨o', ρ, e1, e2, fun y hy => jn_ok hb.1 (.inr (e3 y hy)), e4⟩
          · cases h
            exact ⟨o', ρ, e1, e2, e3, fun h => by cases h⟩
      · cases h
    · cases h
theorem compLoop_ok {tg : Tg} {own : List Nat} {el : Sh} {cnd elt : St → M Va} {st : St} : ∀ {n : Nat} {J0 J : List As} {e : Sh} {all : Bool}, compLoop tg own el cnd elt st n J0 = .inr (J, e, all) → ∃ l, compBody tg own el cnd elt J st = .ok l ∧ compGather st J l = some (e, all)
  | 0, J0, J, e, all, h => by cases h
  | n + 1, J0, J, e, all, h => by
    unfold compLoop at h
    split at h
    · cases h
    · rename_i l hl
      split at h
      · rename_i p hp
        cases h
        exact ⟨l, hl, hp⟩
      · split at h
        · exact compLoop_ok h
        · cases h
theorem compGo_ok {f : PyData → Env → R (Option PyData)} {J : List As} {e : Sh} {all : Bool} : ∀ {ds : List PyData} {ρ : Env}, (∀ d ∈ ds, ∀ ρ, EnvOk I s J ρ → ∃ o ρ', f d ρ = .ok o ρ' ∧ EnvOk I s J ρ' ∧ (∀ y, o = some y → Has s.g e y) ∧ (all = true → o.isSome = true)) → EnvOk I s J ρ →
    ∃ ys ρ', compGo f ds ρ = .ok ys ρ' ∧ EnvOk I s J ρ' ∧ (∀ y ∈ ys, Has s.g e y) ∧ ys.length ≤ ds.length ∧ (all = true → ys.length = ds.length)
  | [], ρ, _, h => ⟨[], ρ, rfl, h, (fun y hy => by cases hy), Nat.le_refl _, fun _ => rfl⟩
  | d :: ds, ρ, k, h => by
    obtain ⟨o, ρ1, e1, h1, h2, h3⟩ := k d List.mem_cons_self ρ h
    obtain ⟨ys, ρ2, e2, g1, g2, g3, g4⟩ := compGo_ok (ds := ds) (fun d hd => k d (List.mem_cons_of_mem _ hd)) h1
    cases o with
    | none => exact ⟨ys, ρ2, by rw [compGo, e1]; dsimp only; rw [e2], g1, g2, Nat.le_succ_of_le g3, fun ha => by cases h3 ha⟩
    | some z =>
      refine ⟨z :: ys, ρ2, by rw [compGo, e1]; dsimp only; rw [e2], g1, fun y hy => ?_, Nat.succ_le_succ g3, fun ha => by rw [List.length_cons, List.length_cons, g4 ha]⟩
      rcases List.mem_cons.mp hy with rfl | hy
      · exact h2 _ rfl
      · exact g2 y hy
theorem isBot_eq {a : Sh} (h : isBot a = true) : a = .bot := by cases a <;> first | rfl | cases h
theorem compAI_ok {tg : Tg} {own : List Nat} {cnd elt : St → M Va} {fc fe : Env → R PyData} (hc : Tells I cnd fc) (he : Tells I elt fe) {t : Sh} {st : St} {l : List (Al Va)} {ds : List PyData} {ρ : Env} (e : compAI tg own cnd elt t st = .ok l) (hst : StOk I s st ρ) (hd : Has s.g t (.tuple ds)) :
    ownOk own ρ = true ∧ MOk I (PV I) s l ((compGo (turnC own tg fc fe) ds ρ).bind fun ys ρ5 => .ok (.list ys) (giveS own ρ ρ5)) := by
  unfold compAI at e
  split at e
  · rename_i ho
    refine ⟨ownB_ok hst.2 ho, ?_⟩
    have og := ownB_get hst.2 ho
    have hJ0 := setAll_jk hst.2 (own := own) fun i hi => by obtain ⟨x, h1, _, h2⟩ := og i hi; exact ⟨x, h1, h2⟩
    split at e
    · cases e
    · rename_i el lo hi hr
      obtain ⟨_, e0, r1, ⟨v, r2, r3⟩, ⟨w, r4, r5⟩⟩ := rowG_ok hst.1.1 hr hd
      cases e0
      split at e
      · rename_i hbot
        have hbot := isBot_eq hbot
        subst hbot
        cases ds with
        | cons d r => exact (r1 d List.mem_cons_self).elim
        | nil => exact one_ok e ⟨hst.1, giveA_ok hst.2 (fun i hi => by obtain ⟨x, h1, _⟩ := og i hi; exact ⟨x, h1⟩) hJ0⟩ ⟨⟨[], rfl, rfl⟩, trivial⟩
      · split at e
        · cases e
        · rename_i J el2 all hl
          split at e
          · rename_i hle
            obtain ⟨l1, b1, b2⟩ := compLoop_ok hl
            have hJ := leEnv_ok hst.1.1 hle hJ0
            obtain ⟨ys, ρ5, e5, g1, g2, g3, g4⟩ := compGo_ok (f := turnC own tg fc fe) (J := J) (e := el2) (all := all) (ds := ds) (fun d hdm ρ hρ => compGather_ok b2 s hst.1 (compBody_ok hc he b1 hst.1 hρ (r1 d hdm))) hJ
            rw [e5]
            refine one_ok e ⟨hst.1, giveA_ok hst.2 (fun i hi => by obtain ⟨x, h1, _⟩ := og i hi; exact ⟨x, h1⟩) g1⟩ ⟨⟨ys, rfl, ys, rfl, g2, ?_, ⟨w, r4, by omega⟩⟩, trivial⟩
            cases all
            · exact ⟨0, rfl, Int.natCast_nonneg _⟩
            · exact ⟨v, r2, by rw [g4 rfl]; exact r3⟩
          · cases e
  · cases e
theorem itemsT_ok {a t : Sh} {d : PyData} (e : itemsT a = some t) (h : Has s.g a d) : ∃ ds, itemsD d = some ds ∧ Has s.g t (.tuple ds) := by
  unfold itemsT at e
  split at e
  · cases e
    obtain ⟨ds, rfl, h⟩ := h
    exact ⟨ds, rfl, h⟩
  · split at e
    · rename_i q
      cases e
      obtain ⟨ds, rfl⟩ := seq_tup q h
      exact ⟨ds, rfl, h⟩
    · cases e
theorem tyRef_ok {t : Ty} {a : Sh} {d : PyData} (h : Has s.g a d) (e : isTy t d = true) : Has s.g (tyRef t a) d := by
  unfold tyRef
  split
  · cases d with
    | tuple xs =>
      have h : datOk _ _ _ _ _ = true := h
      unfold datOk at h
      rw [Bool.and_eq_true] at h
      exact ⟨xs, rfl, fun x hx => List.all_eq_true.mp h.2 x hx, ⟨0, rfl, Int.natCast_nonneg _⟩, ⟨_, rfl, Int.ofNat_le.mpr (of_decide_eq_true h.1)⟩⟩
    | _ => cases e
  · cases d with
    | list xs =>
      have h : datOk _ _ _ _ _ = true := h
      unfold datOk at h
      rw [Bool.and_eq_true] at h
      exact ⟨xs, rfl, xs, rfl, fun x hx => List.all_eq_true.mp h.2 x hx, ⟨0, rfl, Int.natCast_nonneg _⟩, ⟨_, rfl, Int.ofNat_le.mpr (of_decide_eq_true h.1)⟩⟩
    | _ => cases e
  · cases d with
    | bool b => exact ⟨b, rfl⟩
    | _ => cases e
  · rename_i q b l k
    cases d with
    | str x =>
      refine ⟨x, rfl, ?_⟩
      have h : datOk q b l k (.str x) = true := h
      cases k <;> exact h
    | _ => cases e
  · rcases h with rfl | h
    · cases t <;> cases e
    · exact h
  · exact h
theorem Has.okEnd {b : Bool} {a : Sh} {d : PyData} (e : okEnd b a = true) (h : Has s.g a d) : slOk b d = true := by
  unfold HM.okEnd at e
  split at e
  · cases h; rfl
  · obtain ⟨z, rfl, _⟩ := h; rfl
  · cases e
theorem cmpM_ok {c : Bool} {o : Cm} {va vb : Va} {st : St} {l : List (Al Va)} {x y : PyData} {ρ : Env} (e : cmpM c o va vb st = .ok l) (h : StOk I s st ρ) (ha : HasV I s va x) (hb : HasV I s vb y) : MOk I (PV I) s l (R.of ((cmpD o x y).map .bool) ρ) := by
  have sm : (va.tm.full && va.tm.beq vb.tm) = true → x = y := fun q => by
    rw [Bool.and_eq_true] at q
    have := hb.2
    rw [← Tm.beq_eq q.2] at this
    exact TmHas.uniq q.1 ha.2 this
  unfold cmpM at e
  split at e
  · rename_i r hr
    obtain ⟨b, e1, e2⟩ := cmpSh_ok h.1.1 sm hr ha.1 hb.1
    cases e2
    rw [e1]
    exact one_ok e h ⟨rfl, rfl⟩
  · rename_i sh _ hr
    obtain ⟨b, e1, e2⟩ := cmpSh_ok h.1.1 sm hr ha.1 hb.1
    rw [e1]
    split at e
    · cases e
      cases b
      · exact ⟨_, List.mem_cons_of_mem _ List.mem_cons_self, s, Sg.le.rf, _, ρ, rfl, refSt_ok h ha hb e1, rfl, trivial⟩
      · exact ⟨_, List.mem_cons_self, s, Sg.le.rf, _, ρ, rfl, refSt_ok h ha hb e1, rfl, trivial⟩
    · exact one_ok e h ⟨⟨b, rfl⟩, trivial⟩
  · cases e
theorem app2_l {m m' : M Va} {l : List (Al Va)} {r : R PyData} (e : app2 m m' = .ok l) : ∃ a b, m = .ok a ∧ m' = .ok b ∧ l = a ++ b := by
  unfold app2 at e
  split at e
  · cases e; exact ⟨_, _, rfl, rfl, rfl⟩
  · cases e
  · cases e
theorem MOk.left {a b : List (Al Va)} {r : R PyData} (h : MOk I (PV I) s a r) : MOk I (PV I) s (a ++ b) r := by
  obtain ⟨x, hx, q⟩ := h; exact ⟨x, List.mem_append_left _ hx, q⟩
theorem MOk.right {a b : List (Al Va)} {r : R PyData} (h : MOk I (PV I) s b r) : MOk I (PV I) s (a ++ b) r := by
  obtain ⟨x, hx, q⟩ := h; exact ⟨x, List.mem_append_right _ hx, q⟩
theorem hasV_tt {v : Va} {b : Bool} {d : PyData} (e : v.sh = .tt b) (h : HasV I s v d) : d = .bool b := by
  have := h.1; rw [e] at this; exact this
end
end HM

namespace HM
open PySem
/-! AI12: expressions on shapes: they tell what the evaluator does -/
section
variable {I : Itp} {Φ : Fns} {cf : Cf}
theorem seq_tup' {s : List Int} {t : Sh} {d : PyData} (q : isSeq t = true) (h : Has s t d) : d = .tuple (tupOf d) := by
  obtain ⟨ds, rfl⟩ := seq_tup q h; rfl
theorem fullB_ok {d : DatB} {k v : PyData} (h1 : datOk d.q d.b d.l d.k k = true) (h2 : datOk d.q d.b d.l d.k v = true) : Has [] (fullB d) (.dict [(k, v)]) := by
  show datOk false d.b (max d.l 1) (d.k + 1) (.dict [(k, v)]) = true
  unfold datOk
  have m : ∀ {x : PyData}, datOk d.q d.b d.l d.k x = true → datOk false d.b (max d.l 1) d.k x = true := fun h => datOk_mono (by cases d.q <;> rfl) (Nat.le_refl _) (Nat.le_max_left ..) (Nat.le_refl _) h
  rw [List.all_cons, m h1, m h2, List.all_nil]
  simp
  exact Nat.le_max_right ..
theorem fullB_has {s : List Int} {d : DatB} {x : PyData} (h : Has [] (fullB d) x) : Has s (fullB d) x := h
theorem keepTm_ok {f : Bi} {a : Sh} {g : List Int} {d z : PyData} (h : keepTm f a = true) (e : Has g a d) (q : biD f [d] = some z) : z = d := by
  cases f <;> try (cases h; done)
  · obtain ⟨xs, rfl⟩ := seq_tup (show isSeq a = true from h) e
    cases q; rfl
  · cases a <;> try (cases h; done)
    obtain ⟨xs, rfl, _⟩ := e
    cases q; rfl
/-- 900 stands for the length -/
def LenOk (I : Itp) : Prop := ∀ d z, biD .len [d] = some z → I 900 [d] = z
theorem biTm_ok {w : List PyData} (hI : LenOk I) {f : Bi} {t : Tm} {d z : PyData} (h : TmHas I w t d) (e : biD f [d] = some z) : TmHas I w (biTm f t) z := by
  cases f <;> try trivial
  show TmHas I w (if t.full then .ap 900 (.cons t .nil) else .hole) z
  split
  · exact ⟨[d], ⟨d, [], rfl, h, rfl⟩, (hI d z e).symm⟩
  · trivial
theorem ai_ok (hI : LenOk I) (hcf : CallOk I Φ cf) (e : E) : ∀ c, Tells I (ai cf e c) (evE Φ e) := by
  have callCase : ∀ (f : Nat) (es : E), (∀ c, Tells I (ai cf es c) (evE Φ es)) → ∀ (c : Bool) (st : St) (l : List (Al Va)), fin c st ((ai cf es false st).bind fun v st => match argsOf v.sh v.tm with
    | some as => (cf f as st).bind fun rs st => (match rs with
      | .v x _ => M.one x st
      | .x k a _ => .ok [.ex k a st])
    | none => .er [17]) = .ok l → ∀ s ρ, StOk I s st ρ → MOk I (PV I) s l ((evE Φ es ρ).bind fun x ρ => match Φ f (tupOf x) with
    | .ok d _ => .ok d ρ
    | .exc z _ => .exc z ρ
    | .bad => .bad) := by
    intro f es ih c st l h s ρ hst
    refine fin_ok hst.1 h fun l h => mbind_ok (P := PV I) (fun l hl => ih _ _ _ hl s ρ hst) h fun v st1 t x ρ1 l1 lt h1 p hl => ?_
    split at hl
    · rename_i as has
      have hx : ∃ ds, x = .tuple ds := by
        have : ∀ {sh : Sh} {tm : Tm} {as : List Va}, argsOf sh tm = some as → isSeq sh = true := fun {sh} => by
          induction sh with
          | nil => intro tm as _; rfl
          | cons a r _ ih =>
            intro tm as h
            show isSeq r = true
            cases tm <;> (obtain ⟨q, hq, _⟩ := Option.map_eq_some_iff.mp h; exact ih hq)
          | _ => intro tm as h; cases tm <;> cases h
        exact seq_tup (this has) p.1
      obtain ⟨ds, rfl⟩ := hx
      have ha := argsOf_ok has p.1 p.2
      have key := fun l h => hcf f as st1 l h t ρ1 ds h1 ha
      have := mbind_ok (I := I) (P := PR I) (Q := PV I) (r := frR (Φ f ds) ρ1) (g := fun (fr : FR) ρ => match fr with | .ok d _ => R.ok d ρ | .exc z _ => .exc z ρ | .bad => .bad) key hl fun rs st2 u fr ρ2 l2 lu h2 p2 hl2 => by
        cases rs with
        | v y io => cases fr with
          | ok d ds' => exact one_ok hl2 h2 p2.1
          | exc z ds' => exact p2.elim
          | bad => exact p2.elim
        | x k a io => cases fr with
          | ok d ds' => exact p2.elim
          | exc z ds' => cases hl2; exact ⟨_, List.mem_cons_self, u, Sg.le.rf, z, ρ2, rfl, p2.1, h2, p2.2.1⟩
          | bad => exact p2.elim
      show MOk I (PV I) t l1 (match Φ f ds with | .ok d _ => .ok d ρ1 | .exc z _ => .exc z ρ1 | .bad => .bad)
      cases q : Φ f ds <;> rw [q] at this <;> exact this
    · cases hl
  induction e with
  | var i => intro c st l h s ρ hst; exact fin_ok hst.1 h fun l h => readV_ok hst h
  | non => intro c st l h s ρ hst; exact one_ok h hst ⟨rfl, rfl⟩
  | bl b => intro c st l h s ρ hst; exact one_ok h hst ⟨rfl, rfl⟩
  | int z => intro c st l h s ρ hst; exact one_ok h hst ⟨kI_ok z, rfl⟩
  | str x => intro c st l h s ρ hst; exact one_ok h hst ⟨rfl, trivial⟩
  | gint x z => intro c st l h s ρ hst; exact one_ok h hst ⟨kI_ok z, rfl⟩
  | nil => intro c st l h s ρ hst; exact one_ok h hst ⟨rfl, rfl⟩
  | cons a b iha ihb =>
    intro c st l h s ρ hst
    refine mbind_ok (P := PV I) (fun l hl => iha _ _ _ hl s ρ hst) h fun va st1 t x ρ1 l1 lt h1 p1 hl1 => ?_
    refine mbind_ok (P := PV I) (fun l hl => ihb _ _ _ hl t ρ1 h1) hl1 fun vb st2 u y ρ2 l2 lu h2 p2 hl2 => ?_
    split at hl2
    · rename_i q
      have hy := seq_tup' q p2.1
      have p1 := p1.mono lu
      rw [hy] at p2
      exact one_ok hl2 h2 ⟨⟨x, tupOf y, rfl, p1.1, p2.1⟩, ⟨x, tupOf y, rfl, p1.2, p2.2⟩⟩
    · cases hl2
  | bin o a b iha ihb =>
    intro c st l h s ρ hst
    refine mbind_ok (P := PV I) (fun l hl => iha _ _ _ hl s ρ hst) h fun va st1 t x ρ1 l1 lt h1 p1 hl1 => ?_
    refine mbind_ok (P := PV I) (fun l hl => ihb _ _ _ hl t ρ1 h1) hl1 fun vb st2 u y ρ2 l2 lu h2 p2 hl2 => ?_
    exact ofO_ok hl2 h2 fun sh hsh => binSh_ok h2.1.1 hsh (p1.mono lu).1 p2.1
  | neg a iha =>
    intro c st l h s ρ hst
    refine mbind_ok (P := PV I) (fun l hl => iha _ _ _ hl s ρ hst) h fun va st1 t x ρ1 l1 lt h1 p1 hl1 => ?_
    split at hl1
    · rename_i lo hi hsh
      have p := p1.1
      rw [hsh] at p
      obtain ⟨z, rfl, z1, z2⟩ := p
      exact one_ok hl1 h1 ⟨⟨-z, rfl, z2.neg, z1.neg⟩, trivial⟩
    · cases hl1
  | cmp o a b iha ihb =>
    intro c st l h s ρ hst
    refine mbind_ok (P := PV I) (fun l hl => iha _ _ _ hl s ρ hst) h fun va st1 t x ρ1 l1 lt h1 p1 hl1 => ?_
    refine mbind_ok (P := PV I) (fun l hl => ihb _ _ _ hl t ρ1 h1) hl1 fun vb st2 u y ρ2 l2 lu h2 p2 hl2 => ?_
    exact cmpM_ok hl2 h2 (p1.mono lu) p2
  | chain o p a b d iha ihb ihd =>
    intro c st l h s ρ hst
    refine fin_ok hst.1 h fun l h => ?_
    refine mbind_ok (P := PV I) (fun l hl => iha _ _ _ hl s ρ hst) h fun va st1 t x ρ1 l1 lt h1 p1 hl1 => ?_
    refine mbind_ok (P := PV I) (fun l hl => ihb _ _ _ hl t ρ1 h1) hl1 fun vb st2 u y ρ2 l2 lu h2 p2 hl2 => ?_
    have go : ∀ {st3 : St} {l3 : List (Al Va)}, StOk I u st3 ρ2 → ((ai cf d false st3).bind fun vd st => cmpM c p vb vd st) = .ok l3 → MOk I (PV I) u l3 ((evE Φ d ρ2).bind fun z ρ => .of ((cmpD p y z).map .bool) ρ) := fun h3 e3 =>
      mbind_ok (P := PV I) (fun l hl => ihd _ _ _ hl u ρ2 h3) e3 fun vd st4 w z ρ4 l4 lw h4 p4 hl4 => cmpM_ok hl4 h4 (p2.mono lw) p4
    have p1' := p1.mono lu
    have nosm : false = true → x = y := fun h => by cases h
    split at hl2
    · rename_i hr
      obtain ⟨b, e1, e2⟩ := cmpSh_ok h2.1.1 nosm hr p1'.1 p2.1
      cases e2
      rw [e1]
      exact go h2 hl2
    · rename_i hr
      obtain ⟨b, e1, e2⟩ := cmpSh_ok h2.1.1 nosm hr p1'.1 p2.1
      cases e2
      rw [e1]
      exact one_ok hl2 h2 ⟨rfl, rfl⟩
    · rename_i sh _ _ hr
      obtain ⟨b, e1, e2⟩ := cmpSh_ok h2.1.1 nosm hr p1'.1 p2.1
      rw [e1]
      obtain ⟨la, lb, ea, eb, rfl⟩ := app2_l (r := .bad) hl2
      cases b
      · exact MOk.left (one_ok ea (refSt_ok h2 p1' p2 e1) ⟨rfl, rfl⟩)
      · exact MOk.right (go (refSt_ok h2 p1' p2 e1) eb)
    · cases hl2
  | not a iha =>
    intro c st l h s ρ hst
    refine fin_ok hst.1 h fun l h => ?_
    refine mbind_ok (P := PV I) (fun l hl => iha _ _ _ hl s ρ hst) h fun va st1 t x ρ1 l1 lt h1 p1 hl1 => ?_
    split at hl1
    · rename_i b hsh
      rw [hasV_tt hsh p1]
      exact one_ok hl1 h1 ⟨rfl, rfl⟩
    · cases hl1
  | and a b iha ihb =>
    intro c st l h s ρ hst
    refine fin_ok hst.1 h fun l h => ?_
    refine mbind_ok (P := PV I) (fun l hl => iha _ _ _ hl s ρ hst) h fun va st1 t x ρ1 l1 lt h1 p1 hl1 => ?_
    split at hl1
    · rename_i hsh
      rw [hasV_tt hsh p1]
      exact ihb _ _ _ hl1 t ρ1 h1
    · rename_i hsh
      rw [hasV_tt hsh p1]
      exact one_ok hl1 h1 ⟨rfl, rfl⟩
    · cases hl1
  | or a b iha ihb =>
    intro c st l h s ρ hst
    refine fin_ok hst.1 h fun l h => ?_
    refine mbind_ok (P := PV I) (fun l hl => iha _ _ _ hl s ρ hst) h fun va st1 t x ρ1 l1 lt h1 p1 hl1 => ?_
    split at hl1
    · rename_i hsh
      rw [hasV_tt hsh p1]
      exact ihb _ _ _ hl1 t ρ1 h1
    · rename_i hsh
      rw [hasV_tt hsh p1]
      exact one_ok hl1 h1 ⟨rfl, rfl⟩
    · cases hl1
  | ite d a b ihd iha ihb =>
    intro c st l h s ρ hst
    refine fin_ok hst.1 h fun l h => ?_
    refine mbind_ok (P := PV I) (fun l hl => ihd _ _ _ hl s ρ hst) h fun va st1 t x ρ1 l1 lt h1 p1 hl1 => ?_
    split at hl1
    · rename_i hsh
      rw [hasV_tt hsh p1]
      exact iha _ _ _ hl1 t ρ1 h1
    · rename_i hsh
      rw [hasV_tt hsh p1]
      exact ihb _ _ _ hl1 t ρ1 h1
    · cases hl1
  | tup es ih =>
    intro c st l h s ρ hst
    refine mbind_ok (P := PV I) (fun l hl => ih _ _ _ hl s ρ hst) h fun va st1 t x ρ1 l1 lt h1 p1 hl1 => ?_
    split at hl1
    · rename_i q
      rw [seq_tup' q p1.1] at p1
      exact one_ok hl1 h1 p1
    · cases hl1
  | lst es ih =>
    intro c st l h s ρ hst
    refine mbind_ok (P := PV I) (fun l hl => ih _ _ _ hl s ρ hst) h fun va st1 t x ρ1 l1 lt h1 p1 hl1 => ?_
    split at hl1
    · rename_i q
      rw [seq_tup' q p1.1] at p1
      exact one_ok hl1 h1 ⟨⟨_, rfl, p1.1⟩, ⟨_, rfl, p1.2⟩⟩
    · cases hl1
  | ix a b iha ihb =>
    intro c st l h s ρ hst
    refine fin_ok hst.1 h fun l h => ?_
    refine mbind_ok (P := PV I) (fun l hl => iha _ _ _ hl s ρ hst) h fun va st1 t x ρ1 l1 lt h1 p1 hl1 => ?_
    refine mbind_ok (P := PV I) (fun l hl => ihb _ _ _ hl t ρ1 h1) hl1 fun vb st2 u y ρ2 l2 lu h2 p2 hl2 => ?_
    exact ofO_ok hl2 h2 fun sh hsh => ixSh_ok h2.1.1 hsh (p1.mono lu).1 p2.1
  | sl a lo hi iha ihl ihh =>
    intro c st l h s ρ hst
    refine mbind_ok (P := PV I) (fun l hl => iha _ _ _ hl s ρ hst) h fun va st1 t x ρ1 l1 lt h1 p1 hl1 => ?_
    refine mbind_ok (P := PV I) (fun l hl => ihl _ _ _ hl t ρ1 h1) hl1 fun vl st2 u y ρ2 l2 lu h2 p2 hl2 => ?_
    split at hl2
    · rename_i q
      rw [if_pos (p2.1.okEnd q)]
      refine mbind_ok (P := PV I) (fun l hl => ihh _ _ _ hl u ρ2 h2) hl2 fun vh st3 w z ρ3 l3 lw h3 p3 hl3 => ?_
      split at hl3
      · rename_i q2
        rw [if_pos (p3.1.okEnd q2)]
        exact ofO_ok hl3 h3 fun sh hsh => slSh_ok h3.1.1 hsh ((p1.mono lu).mono lw).1 (p2.mono lw).1 p3.1
      · cases hl3
    · cases hl2
  | rev a iha =>
    intro c st l h s ρ hst
    refine mbind_ok (P := PV I) (fun l hl => iha _ _ _ hl s ρ hst) h fun va st1 t x ρ1 l1 lt h1 p1 hl1 => ?_
    exact ofO_ok hl1 h1 fun sh hsh => revSh_ok h1.1.1 hsh p1.1
  | call f es ih => intro c st l h s ρ hst; exact callCase f es ih c st l h s ρ hst
  | callk f es ih => intro c st l h s ρ hst; exact callCase f es ih c st l h s ρ hst
  | callio f p i es ih =>
    intro c st l h s ρ hst
    unfold ai at h
    split at h
    · rename_i hm
      obtain ⟨t0, ht0⟩ := Option.isSome_iff_exists.mp hm
      obtain ⟨ds0, hd0, _⟩ := mutOf_ok hst.2 ht0
      show MOk I (PV I) s l (if (mutS (getS ρ i)).isSome then _ else _)
      rw [show (mutS (getS ρ i)).isSome = true from by rw [hd0]; rfl, if_pos rfl]
      refine fin_ok hst.1 h fun l h => mbind_ok (P := PV I) (fun l hl => ih _ _ _ hl s ρ hst) h fun v st1 t x ρ1 l1 lt h1 pv hl => ?_
      split at hl
      · rename_i as tt has htt
        have hx : ∃ ds, x = .tuple ds := by
          have : ∀ {sh : Sh} {tm : Tm} {as : List Va}, argsOf sh tm = some as → isSeq sh = true := fun {sh} => by
            induction sh with
            | nil => intro tm as _; rfl
            | cons a r _ ih =>
              intro tm as h
              show isSeq r = true
              cases tm <;> (obtain ⟨q, hq, _⟩ := Option.map_eq_some_iff.mp h; exact ih hq)
            | _ => intro tm as h; cases tm <;> cases h
          exact seq_tup (this has) pv.1
        obtain ⟨xs, rfl⟩ := hx
        have ha := argsOf_ok has pv.1 pv.2
        obtain ⟨ds, hd1, hd2⟩ := mutOf_ok h1.2 htt
        rw [hd1]
        dsimp only
        have hb : HasVs I t (insAt p ⟨.lst tt, .hole⟩ as) (insAt p (.list ds) xs) := HasVs.ins (show HasV I t ⟨.lst tt, .hole⟩ (.list ds) from ⟨⟨ds, rfl, hd2⟩, trivial⟩) ha
        have key := fun l h => hcf f (insAt p ⟨.lst tt, .hole⟩ as) st1 l h t ρ1 (insAt p (.list ds) xs) h1 hb
        have := mbind_ok (I := I) (P := PR I) (Q := PV I) (r := frR (Φ f (insAt p (.list ds) xs)) ρ1) (g := fun (fr : FR) ρ => match fr with | .ok d ds' => R.ok d (ρ.set i (remut (getS ρ i) ds')) | .exc z ds' => .exc z (ρ.set i (remut (getS ρ i) ds')) | .bad => .bad) key hl fun rs st2 u fr ρ2 l2 lu h2 p2 hl2 => by
          split at hl2
          · split at hl2
            · rename_i y t' env henv
              cases fr with
              | ok d ds' => exact one_ok hl2 ⟨h2.1, setMut_ok henv h2.2 p2.2⟩ p2.1
              | exc z ds' => exact p2.elim
              | bad => exact p2.elim
            · cases hl2
          · split at hl2
            · rename_i k a t' env henv
              cases fr with
              | ok d ds' => exact p2.elim
              | exc z ds' => cases hl2; exact ⟨_, List.mem_cons_self, u, Sg.le.rf, z, _, rfl, p2.1, ⟨h2.1, setMut_ok henv h2.2 p2.2.2⟩, p2.2.1⟩
              | bad => exact p2.elim
            · cases hl2
          · cases hl2
        show MOk I (PV I) t l1 (match Φ f (insAt p (.list ds) xs) with | .ok d ds' => .ok d (ρ1.set i (remut (getS ρ1 i) ds')) | .exc z ds' => .exc z (ρ1.set i (remut (getS ρ1 i) ds')) | .bad => .bad)
        cases q : Φ f (insAt p (.list ds) xs) <;> rw [q] at this <;> exact this
      · cases hl
    · cases h
  | bi f es ih =>
    intro c st l h s ρ hst
    refine fin_ok hst.1 h fun l h => ?_
    refine mbind_ok (P := PV I) (fun l hl => ih _ _ _ hl s ρ hst) h fun v st1 t x ρ1 l1 lt h1 p hl => ?_
    split at hl
    · rename_i as has
      have hx : ∃ ds, x = .tuple ds := by
        have : ∀ {sh : Sh} {tm : Tm} {as : List Va}, argsOf sh tm = some as → isSeq sh = true := fun {sh} => by
          induction sh with
          | nil => intro tm as _; rfl
          | cons a r _ ih =>
            intro tm as h
            show isSeq r = true
            cases tm <;> (obtain ⟨q, hq, _⟩ := Option.map_eq_some_iff.mp h; exact ih hq)
          | _ => intro tm as h; cases tm <;> cases h
        exact seq_tup (this has) p.1
      obtain ⟨ds, rfl⟩ := hx
      have ha := argsOf_ok has p.1 p.2
      split at hl
      · rename_i sh hsh
        obtain ⟨z, e1, e2⟩ := biSh_ok h1.1.1 hsh ha.shs
        have fin2 : ∀ {tm : Tm}, TmHas I t.w tm z → M.one ⟨sh, tm⟩ st1 = .ok l1 → MOk I (PV I) t l1 (R.of (biD f ds) ρ1) := fun ht hl => by
          rw [e1]; exact one_ok hl h1 ⟨e2, ht⟩
        split at hl
        · rename_i y
          refine fin2 ?_ hl
          split
          · rename_i hk
            cases ds with
            | nil => cases ha
            | cons d r => cases r with
              | cons => exact ha.2.elim
              | nil =>
                have hz : z = d := by
                  exact keepTm_ok hk ha.1.1 e1
                rw [hz]; exact ha.1.2
          · cases ds with
            | nil => cases ha
            | cons d r => cases r with
              | cons => exact ha.2.elim
              | nil => exact biTm_ok hI ha.1.2 e1
        · exact fin2 (tm := .hole) trivial hl
      · cases hl
    · cases hl
  | isi a ty iha =>
    intro c st l h s ρ hst
    refine mbind_ok (P := PV I) (fun l hl => iha _ _ _ hl s ρ hst) h fun va st1 t x ρ1 l1 lt h1 p1 hl1 => ?_
    split at hl1
    · rename_i b hb
      rw [tySh_ok hb p1.1]
      exact one_ok hl1 h1 ⟨rfl, rfl⟩
    · split at hl1
      · cases hl1
        cases q : isTy ty x
        · exact ⟨_, List.mem_cons_of_mem _ List.mem_cons_self, t, Sg.le.rf, _, ρ1, rfl, h1, rfl, trivial⟩
        · exact ⟨_, List.mem_cons_self, t, Sg.le.rf, _, ρ1, rfl, ⟨h1.1, updEnv_ok p1.2 (tyRef_ok p1.1 q) h1.2⟩, rfl, trivial⟩
      · exact one_ok hl1 h1 ⟨⟨_, rfl⟩, trivial⟩
  | rng a iha =>
    intro c st l h s ρ hst
    refine mbind_ok (P := PV I) (fun l hl => iha _ _ _ hl s ρ hst) h fun va st1 t x ρ1 l1 lt h1 p1 hl1 => ?_
    split at hl1
    · rename_i lo hi hsh
      have p := p1.1
      rw [hsh] at p
      obtain ⟨z, rfl, z1, z2⟩ := p
      exact ofO_ok hl1 h1 fun sh hsh => rngSh_ok h1.1.1 hsh ⟨0, rfl, Int.le_refl _⟩ ⟨0, rfl, Int.le_refl _⟩ z1 z2
    · cases hl1
  | rng2 a b iha ihb =>
    intro c st l h s ρ hst
    refine mbind_ok (P := PV I) (fun l hl => iha _ _ _ hl s ρ hst) h fun va st1 t x ρ1 l1 lt h1 p1 hl1 => ?_
    refine mbind_ok (P := PV I) (fun l hl => ihb _ _ _ hl t ρ1 h1) hl1 fun vb st2 u y ρ2 l2 lu h2 p2 hl2 => ?_
    have p1 := (p1.mono lu).1
    have p2 := p2.1
    split at hl2
    · rename_i lo hi lo' hi' e1 e2
      rw [e1] at p1
      rw [e2] at p2
      obtain ⟨z, rfl, z1, z2⟩ := p1
      obtain ⟨z', rfl, z3, z4⟩ := p2
      exact ofO_ok hl2 h2 fun sh hsh => rngSh_ok h2.1.1 hsh z1 z2 z3 z4
    · cases hl2
  | enum a iha =>
    intro c st l h s ρ hst
    refine mbind_ok (P := PV I) (fun l hl => iha _ _ _ hl s ρ hst) h fun va st1 t x ρ1 l1 lt h1 p1 hl1 => ?_
    exact ofO_ok hl1 h1 fun sh hsh => enumSh_ok h1.1.1 hsh p1.1
  | zip a b iha ihb =>
    intro c st l h s ρ hst
    refine mbind_ok (P := PV I) (fun l hl => iha _ _ _ hl s ρ hst) h fun va st1 t x ρ1 l1 lt h1 p1 hl1 => ?_
    refine mbind_ok (P := PV I) (fun l hl => ihb _ _ _ hl t ρ1 h1) hl1 fun vb st2 u y ρ2 l2 lu h2 p2 hl2 => ?_
    exact ofO_ok hl2 h2 fun sh hsh => zipSh_ok h2.1.1 hsh (p1.mono lu).1 p2.1
  | comp elt tg src cond own ihe ihs ihc =>
    intro c st l h s ρ hst
    refine mbind_ok (P := PV I) (fun l hl => ihs _ _ _ hl s ρ hst) h fun va st1 t x ρ1 l1 lt h1 p1 hl1 => ?_
    split at hl1
    · rename_i tt htt
      obtain ⟨ds, e1, e2⟩ := itemsT_ok htt p1.1
      obtain ⟨o1, o2⟩ := compAI_ok (ihc true) (ihe false) hl1 h1 e2
      rw [e1, o1]
      exact o2
    · cases hl1
  | compM elt tg i cond own ihe ihc =>
    intro c st l h s ρ hst
    unfold ai at h
    split at h
    · rename_i a tt ha htt
      split at h
      · rename_i q
        rw [Bool.and_eq_true] at q
        obtain ⟨ds, e1, e2⟩ := mutOf_ok hst.2 htt
        obtain ⟨x, x1, x2, x3⟩ := hst.2.get ha
        have hst1 : StOk I s { st with env := st.env.set i .un } (ρ.set i .un) := ⟨hst.1, hst.2.set rfl⟩
        have oo := ownB_ok hst1.2 q.1
        show MOk I (PV I) s l (match mutS (getS ρ i), ownOk (i :: own) (ρ.set i .un) && !own.contains i with | some ds, true => _ | _, _ => _)
        rw [e1, oo, q.2]
        show MOk I (PV I) s l ((compGo (turnC own tg (evE Φ cond) (evE Φ elt)) ds (ρ.set i .un)).bind fun ys ρ5 => .ok (.list ys) ((giveS own (ρ.set i .un) ρ5).set i (getS ρ i)))
        have : ∀ l, compAI tg own (ai cf cond true) (ai cf elt false) tt { st with env := st.env.set i .un } = .ok l → MOk I (PV I) s l ((compGo (turnC own tg (evE Φ cond) (evE Φ elt)) ds (ρ.set i .un)).bind fun ys ρ5 => .ok (.list ys) (giveS own (ρ.set i .un) ρ5)) := fun l hl => (compAI_ok (ihc true) (ihe false) hl hst1 e2).2
        have r := mbind_ok (I := I) (P := PV I) (Q := PV I) (g := fun d ρ' => R.ok d (ρ'.set i (getS ρ i))) this h fun v st2 u d ρ2 l2 lu h2 p2 hl2 => one_ok hl2 ⟨h2.1, h2.2.set (by rw [x3]; exact x2.mono lu)⟩ p2
        cases q : compGo (turnC own tg (evE Φ cond) (evE Φ elt)) ds (ρ.set i .un) <;> rw [q] at r <;> exact r
      · cases h
    · cases h
  | lrng a iha =>
    intro c st l h s ρ hst
    refine mbind_ok (P := PV I) (fun l hl => iha _ _ _ hl s ρ hst) h fun va st1 t x ρ1 l1 lt h1 p1 hl1 => ?_
    split at hl1
    · rename_i tt hsh
      have p := p1.1
      rw [hsh] at p
      obtain ⟨ds, rfl, p⟩ := p
      exact one_ok hl1 h1 ⟨⟨ds, rfl, p⟩, p1.2⟩
    · cases hl1
  | trng a iha =>
    intro c st l h s ρ hst
    refine mbind_ok (P := PV I) (fun l hl => iha _ _ _ hl s ρ hst) h fun va st1 t x ρ1 l1 lt h1 p1 hl1 => ?_
    split at hl1
    · rename_i tt hsh
      have p := p1.1
      rw [hsh] at p
      obtain ⟨ds, rfl, p⟩ := p
      exact one_ok hl1 h1 ⟨p, trivial⟩
    · cases hl1
  | edic => intro c st l h s ρ hst; exact one_ok h hst ⟨rfl, trivial⟩
  | dic1 a b iha ihb =>
    intro c st l h s ρ hst
    refine mbind_ok (P := PV I) (fun l hl => iha _ _ _ hl s ρ hst) h fun va st1 t x ρ1 l1 lt h1 p1 hl1 => ?_
    refine mbind_ok (P := PV I) (fun l hl => ihb _ _ _ hl t ρ1 h1) hl1 fun vb st2 u y ρ2 l2 lu h2 p2 hl2 => ?_
    have p1 := (p1.mono lu).1
    have p2 := p2.1
    split at hl2
    · rename_i lo hi dx dy e1 e2 e3
      have g1 := toDat_ok h2.1.1 e2 p1
      have g2 := toDat_ok h2.1.1 e3 p2
      rw [e1] at p1
      obtain ⟨z, rfl, _⟩ := p1
      refine one_ok hl2 h2 ⟨fullB_has (fullB_ok (datLe ?_ g1) (datLe ?_ g2)), trivial⟩ <;> unfold DatB.le DatB.join <;> dsimp only <;> simp [Nat.le_max_left, Nat.le_max_right] <;> cases dx.q <;> cases dy.q <;> simp
    · rename_i o dx dy e1 e2 e3
      have g1 := toDat_ok h2.1.1 e2 p1
      have g2 := toDat_ok h2.1.1 e3 p2
      rw [e1] at p1
      have : ∃ z, x = .str z := by
        cases o with
        | none => obtain ⟨z, rfl, _⟩ := p1; exact ⟨z, rfl⟩
        | some z => exact ⟨z, p1⟩
      obtain ⟨z, rfl⟩ := this
      refine one_ok hl2 h2 ⟨fullB_has (fullB_ok (datLe ?_ g1) (datLe ?_ g2)), trivial⟩ <;> unfold DatB.le DatB.join <;> dsimp only <;> simp [Nat.le_max_left, Nat.le_max_right] <;> cases dx.q <;> cases dy.q <;> simp
    · cases hl2
  | lenM i =>
    intro c st l h s ρ hst
    unfold ai at h
    split at h
    · rename_i p hp
      obtain ⟨t, ds, lt, h1, h2, h3⟩ := openM_ok hp hst
      show MOk I (PV I) s l (match mutS (getS ρ i) with | some ds => .ok (.int ds.length) ρ | none => .bad)
      rw [h1]
      split at h
      · rename_i q hq
        obtain ⟨i1, i2⟩ := lenSh_ok hq h2
        exact (one_ok h h3 ⟨⟨_, rfl, i1, i2⟩, trivial⟩).mono lt
      · cases h
    · cases h
  | ixM i e ihe =>
    intro c st l h s ρ hst
    unfold ai at h
    split at h
    · rename_i hm
      obtain ⟨t0, ht0⟩ := Option.isSome_iff_exists.mp hm
      obtain ⟨ds0, hd0, _⟩ := mutOf_ok hst.2 ht0
      show MOk I (PV I) s l (if (mutS (getS ρ i)).isSome then _ else _)
      rw [show (mutS (getS ρ i)).isSome = true from by rw [hd0]; rfl, if_pos rfl]
      refine fin_ok hst.1 h fun l h => mbind_ok (P := PV I) (fun l hl => ihe _ _ _ hl s ρ hst) h fun v st1 t x ρ1 l1 lt h1 p hl => ?_
      split at hl
      · rename_i tt lo hi htt hsh
        have p := p.1
        rw [hsh] at p
        obtain ⟨z, rfl, z1, z2⟩ := p
        obtain ⟨ds, e1, e2⟩ := mutOf_ok h1.2 htt
        rw [e1]
        exact ofO_ok hl h1 fun sh hsh => ixT_ok h1.1.1 hsh e2 z1 z2
      · cases hl
    · cases h
  | nilM i =>
    intro c st l h s ρ hst
    unfold ai at h
    split at h
    · rename_i p hp
      obtain ⟨t, ds, lt, h1, h2, h3⟩ := openM_ok hp hst
      show MOk I (PV I) s l (match mutS (getS ρ i) with | some ds => .ok (.bool ds.isEmpty) ρ | none => .bad)
      rw [h1]
      have he := emptySh_ok h3.1.1 h2
      refine MOk.mono (show MOk I (PV I) t l (.ok (.bool ds.isEmpty) ρ) from ?_) lt
      split at h
      · rename_i b hb
        rw [hb] at he
        have : ds.isEmpty = b := by cases he; rfl
        rw [this]
        exact one_ok h h3 ⟨rfl, rfl⟩
      · have hq := ‹lenSh p.1 = some _›
        split at h
        · cases h
          cases qe : ds.isEmpty
          · refine ⟨_, List.mem_cons_of_mem _ List.mem_cons_self, t, Sg.le.rf, _, ρ, rfl, ⟨⟨?_, h3.1.2⟩, h3.2⟩, rfl, trivial⟩
            obtain ⟨z, z1, z2⟩ := full_low h2 qe _ (by rw [hq]; exact List.mem_cons_self)
            exact refGs_ok h3.1.1 z1 z2
          · refine ⟨_, List.mem_cons_self, t, Sg.le.rf, _, ρ, rfl, ⟨⟨?_, h3.1.2⟩, h3.2⟩, rfl, trivial⟩
            obtain ⟨z, z1, z2⟩ := empty_low h2 qe _ (by rw [hq]; exact List.mem_cons_self)
            exact refGs_ok h3.1.1 z1 z2
        · exact one_ok h h3 ⟨⟨_, rfl⟩, trivial⟩
      · cases h
    · cases h
  | popM i e ihe =>
    intro c st l h s ρ hst
    unfold ai at h
    split at h
    · rename_i hm
      obtain ⟨t0, ht0⟩ := Option.isSome_iff_exists.mp hm
      obtain ⟨ds0, hd0, _⟩ := mutOf_ok hst.2 ht0
      show MOk I (PV I) s l (if (mutS (getS ρ i)).isSome then _ else _)
      rw [show (mutS (getS ρ i)).isSome = true from by rw [hd0]; rfl, if_pos rfl]
      refine fin_ok hst.1 h fun l h => mbind_ok (P := PV I) (fun l hl => ihe _ _ _ hl s ρ hst) h fun v st1 t x ρ1 l1 lt h1 p hl => ?_
      split at hl
      · rename_i tt lo hi htt hsh
        have p := p.1
        rw [hsh] at p
        obtain ⟨z, rfl, ⟨a, a1, a2⟩, ⟨b, b1, b2⟩⟩ := p
        obtain ⟨ds, e1, e2⟩ := mutOf_ok h1.2 htt
        rw [e1]
        split at hl
        · rename_i el lo' hi' hr
          obtain ⟨_, e0, r1, ⟨v', r2, r3⟩, ⟨w, r4, r5⟩⟩ := rowG_ok h1.1.1 hr e2
          cases e0
          split at hl
          · rename_i q
            rw [Bool.and_eq_true, Bool.and_eq_true] at q
            have q1 := leL_ok h1.1.1 q.1 (show (Lin.c 0).ev t.g = some 0 from rfl) a1
            have q2 := leL_ok h1.1.1 q.2.1 (ev_addC 1 b1) r2
            have q3 := leL_ok h1.1.1 q.2.2 b1 (show (Lin.c 1000000).ev t.g = some 1000000 from rfl)
            have hl' : z.toNat < ds.length := by omega
            split at hl
            · rename_i env henv
              have h4 : ds[z.toNat]? = some ds[z.toNat] := List.getElem?_eq_getElem hl'
              dsimp only
              rw [h4]
              dsimp only
              rw [if_pos (by omega)]
              refine one_ok hl ⟨h1.1, setMut_ok henv h1.2 ⟨_, rfl, fun y hy => r1 y (List.mem_of_mem_eraseIdx hy), ⟨_, ev_addC (-1) r2, ?_⟩, ⟨_, ev_addC (-1) r4, ?_⟩⟩⟩ ⟨r1 _ (List.getElem_mem hl'), trivial⟩
              · rw [List.length_eraseIdx_of_lt hl']; omega
              · rw [List.length_eraseIdx_of_lt hl']; omega
            · cases hl
          · cases hl
        · cases hl
      · cases hl
    · cases h
end
end HM

namespace HM
open PySem
/-! AI13: statements on shapes -/
inductive So where
  | nx (s : St) | ret (own : Bool) (v : Va) (s : St) | brk (s : St) | cnt (s : St) | ex (c : Nat) (a : Option Va) (s : St)
inductive MS where
  | er (p : List Nat)
  | ok (l : List So)
def bindS : List (Al Va) → (Va → St → MS) → MS
  | [], _ => .ok []
  | .ok a s :: r, f => (match f a s with
    | .er p => .er p
    | .ok l => (match bindS r f with
      | .er p => .er p
      | .ok l' => .ok (l ++ l')))
  | .ex c v s :: r, f => match bindS r f with
    | .er p => .er p
    | .ok l' => .ok (.ex c v s :: l')
def M.outS (m : M Va) (f : Va → St → MS) : MS := match m with
  | .er p => .er p
  | .ok l => bindS l f
def seqL : List So → (St → MS) → MS
  | [], _ => .ok []
  | .nx s :: r, f => (match f s with
    | .er p => .er p
    | .ok l => (match seqL r f with
      | .er p => .er p
      | .ok l' => .ok (l ++ l')))
  | o :: r, f => match seqL r f with
    | .er p => .er p
    | .ok l' => .ok (o :: l')
def MS.seq (m : MS) (f : St → MS) : MS := match m with
  | .er p => .er (100 :: p)
  | .ok l => (match seqL l f with
    | .er p => .er (101 :: p)
    | o => o)
def MS.one (s : St) : MS := .ok [.nx s]
def ofE (n : Nat) (e : Option (List As)) (st : St) : MS := match e with
  | some env => .ok [.nx { st with env := env }]
  | none => .er [n]
def nxCount : List So → Nat
  | [] => 0
  | .nx .. :: r => nxCount r + 1
  | _ :: r => nxCount r
def squashSL (st0 : St) : List So → Option (Option St × List So)
  | [] => some (none, [])
  | .nx s :: r => (match squashSL st0 r with
    | none => none
    | some (none, x) => some (some (toBase st0 s), x)
    | some (some q, x) => (joinSt (toBase st0 s) q).map fun z => (some z, x))
  | o :: r => (squashSL st0 r).map fun p => (p.1, o :: p.2)
def squashS (st0 : St) (m : MS) : MS := match m with
  | .er p => .er p
  | .ok l => if nxCount l ≤ 1 then .ok l else match squashSL st0 l with
    | some (some q, x) => .ok (.nx q :: x)
    | _ => .er [91]
section
variable (I : Itp)
def SoOk (s : Sg) (o : O) : So → Prop
  | .nx st => ∃ t, s.le t ∧ ∃ ρ, o = .nx ρ ∧ StOk I t st ρ
  | .ret b v st => ∃ t, s.le t ∧ ∃ d ρ, o = .ret b d ρ ∧ StOk I t st ρ ∧ HasV I t v d
  | .brk st => ∃ t, s.le t ∧ ∃ ρ, o = .brk ρ ∧ StOk I t st ρ
  | .cnt st => ∃ t, s.le t ∧ ∃ ρ, o = .cnt ρ ∧ StOk I t st ρ
  | .ex c v st => ∃ t, s.le t ∧ ∃ x ρ, o = .exc x ρ ∧ x.cls = c ∧ StOk I t st ρ ∧ XArg I t v x.arg
def MSOk (s : Sg) (l : List So) (o : O) : Prop := ∃ x ∈ l, SoOk I s o x
end
section
variable {I : Itp} {s t : Sg}
theorem SoOk.mono {o : O} {x : So} (h : SoOk I t o x) (l : s.le t) : SoOk I s o x := by
  cases x <;> (obtain ⟨u, lu, h⟩ := h; exact ⟨u, l.tr lu, h⟩)
theorem MSOk.mono {l : List So} {o : O} (h : MSOk I t l o) (lt : s.le t) : MSOk I s l o := by
  obtain ⟨x, hx, q⟩ := h; exact ⟨x, hx, q.mono lt⟩
theorem bindS_ok {f : Va → St → MS} {g : PyData → Env → O} {r : R PyData} : ∀ {l : List (Al Va)} {l' : List So}, MOk I (PV I) s l r → bindS l f = .ok l' →
    (∀ a st t b ρ l', s.le t → StOk I t st ρ → HasV I t a b → f a st = .ok l' → MSOk I t l' (g b ρ)) → MSOk I s l' (r.out g)
  | [], l', h, _, _ => by obtain ⟨_, h, _⟩ := h; cases h
  | al :: l, l', h, e, k => by
    obtain ⟨a, ha, q⟩ := h
    cases al with
    | ok v st =>
      unfold bindS at e
      split at e
      · cases e
      · rename_i l1 h1
        split at e
        · cases e
        · rename_i l2 h2
          cases e
          rcases List.mem_cons.mp ha with rfl | ha
          · obtain ⟨t, lt, b, ρ, rfl, st1, p⟩ := q
            obtain ⟨al, hal, q⟩ := (k v st t b ρ l1 lt st1 p h1).mono lt
            exact ⟨al, List.mem_append_left _ hal, q⟩
          · obtain ⟨al, hal, q⟩ := bindS_ok (l := l) ⟨a, ha, q⟩ h2 k
            exact ⟨al, List.mem_append_right _ hal, q⟩
    | ex c v st =>
      unfold bindS at e
      split at e
      · cases e
      · rename_i l2 h2
        cases e
        rcases List.mem_cons.mp ha with rfl | ha
        · obtain ⟨t, lt, x, ρ, rfl, q⟩ := q
          exact ⟨_, List.mem_cons_self, t, lt, x, ρ, rfl, q⟩
        · obtain ⟨al, hal, q⟩ := bindS_ok (l := l) ⟨a, ha, q⟩ h2 k
          exact ⟨al, List.mem_cons_of_mem _ hal, q⟩
theorem outS_ok {f : Va → St → MS} {g : PyData → Env → O} {r : R PyData} {m : M Va} {l' : List So} (h : ∀ l, m = .ok l → MOk I (PV I) s l r) (e : m.outS f = .ok l')
    (k : ∀ a st t b ρ l', s.le t → StOk I t st ρ → HasV I t a b → f a st = .ok l' → MSOk I t l' (g b ρ)) : MSOk I s l' (r.out g) := by
  cases m with
  | er p => cases e
  | ok l => exact bindS_ok (h l rfl) e k
theorem seqL_ok {f : St → MS} {g : Env → O} {o : O} : ∀ {l l' : List So}, MSOk I s l o → seqL l f = .ok l' → (∀ st t ρ l', s.le t → StOk I t st ρ → f st = .ok l' → MSOk I t l' (g ρ)) → MSOk I s l' (match o with | .nx ρ' => g ρ' | o => o)
  | [], l', h, _, _ => by obtain ⟨_, h, _⟩ := h; cases h
  | x :: l, l', ⟨y, hy, q⟩, e, k => by
    cases x with
    | nx st =>
      unfold seqL at e
      split at e
      · cases e
      · rename_i l1 h1
        split at e
        · cases e
        · rename_i l2 h2
          cases e
          rcases List.mem_cons.mp hy with rfl | hy
          · obtain ⟨t, lt, ρ, rfl, h⟩ := q
            obtain ⟨z, hz, q⟩ := (k st t ρ l1 lt h h1).mono lt
            exact ⟨z, List.mem_append_left _ hz, q⟩
          · obtain ⟨z, hz, q⟩ := seqL_ok (l := l) ⟨y, hy, q⟩ h2 k
            exact ⟨z, List.mem_append_right _ hz, q⟩
    | _ =>
      unfold seqL at e
      split at e
      · cases e
      · rename_i l2 h2
        cases e
        rcases List.mem_cons.mp hy with rfl | hy
        · refine ⟨_, List.mem_cons_self, ?_⟩
          first
            | (obtain ⟨t, lt, d, ρ, rfl, h⟩ := q; exact ⟨t, lt, d, ρ, rfl, h⟩)
            | (obtain ⟨t, lt, ρ, rfl, h⟩ := q; exact ⟨t, lt, ρ, rfl, h⟩)
        · obtain ⟨z, hz, q⟩ := seqL_ok (l := l) ⟨y, hy, q⟩ h2 k
          exact ⟨z, List.mem_cons_of_mem _ hz, q⟩
theorem squashSL_ok {st0 : St} (h0 : BOk I s st0) {o : O} : ∀ {l : List So} {p : Option St × List So}, squashSL st0 l = some p → MSOk I s l o → (∃ q, p.1 = some q ∧ ∃ ρ, o = .nx ρ ∧ StOk I s q ρ) ∨ MSOk I s p.2 o := fun {l} => by
  induction l with
  | nil => intro p e h; obtain ⟨_, h, _⟩ := h; cases h
  | cons x l ih =>
    intro p e h
    obtain ⟨y, hy, k⟩ := h
    cases x with
    | nx st =>
      unfold squashSL at e
      split at e
      · cases e
      · rename_i x hx
        cases e
        rcases List.mem_cons.mp hy with rfl | hy
        · obtain ⟨t, lt, ρ, rfl, h1⟩ := k
          exact .inl ⟨_, rfl, ρ, rfl, toBase_ok h0 lt h1⟩
        · rcases ih hx ⟨y, hy, k⟩ with ⟨q, hq, _⟩ | h
          · cases hq
          · exact .inr h
      · rename_i q x hx
        obtain ⟨z, hz, rfl⟩ := Option.map_eq_some_iff.mp e
        have hb0 : BOk I s (toBase st0 st) := h0
        rcases List.mem_cons.mp hy with rfl | hy
        · obtain ⟨t, lt, ρ, rfl, h1⟩ := k
          exact .inl ⟨_, rfl, ρ, rfl, joinSt_ok hz hb0 (.inl (toBase_ok h0 lt h1).2)⟩
        · rcases ih hx ⟨y, hy, k⟩ with ⟨q', hq', ρ, rfl, h1⟩ | h
          · cases hq'
            exact .inl ⟨_, rfl, ρ, rfl, joinSt_ok hz hb0 (.inr h1.2)⟩
          · exact .inr h
    | _ =>
      obtain ⟨p', hp, rfl⟩ := Option.map_eq_some_iff.mp e
      rcases List.mem_cons.mp hy with rfl | hy
      · exact .inr ⟨_, List.mem_cons_self, k⟩
      · rcases ih hp ⟨y, hy, k⟩ with h | ⟨b, hb, k⟩
        · exact .inl h
        · exact .inr ⟨b, List.mem_cons_of_mem _ hb, k⟩
theorem squashS_ok {st0 : St} (h0 : BOk I s st0) {m : MS} {o : O} {l : List So} (e : squashS st0 m = .ok l) (h : ∀ l, m = .ok l → MSOk I s l o) : MSOk I s l o := by
  unfold squashS at e
  split at e
  · cases e
  · rename_i l0
    split at e
    · cases e; exact h _ rfl
    · split at e
      · rename_i q x hx
        cases e
        rcases squashSL_ok h0 hx (h _ rfl) with ⟨q', hq, ρ, rfl, h1⟩ | ⟨b, hb, k⟩
        · cases hq
          exact ⟨_, List.mem_cons_self, s, Sg.le.rf, ρ, rfl, h1⟩
        · exact ⟨b, List.mem_cons_of_mem _ hb, k⟩
      · cases e
theorem nx_ok {st : St} {ρ : Env} {l : List So} (e : MS.ok [.nx st] = .ok l) (h : StOk I s st ρ) : MSOk I s l (.nx ρ) := by
  cases e
  exact ⟨_, List.mem_cons_self, s, Sg.le.rf, ρ, rfl, h⟩
theorem ofE_ok {n : Nat} {e : Option (List As)} {z : Option Env} {st : St} {l : List So} (q : ofE n e st = .ok l) (hb : BOk I s st) (h : ∀ env, e = some env → ∃ ρ, z = some ρ ∧ EnvOk I s env ρ) : MSOk I s l (O.of z) := by
  unfold ofE at q
  split at q
  · rename_i env
    obtain ⟨ρ, rfl, h2⟩ := h env rfl
    exact nx_ok q ⟨hb, h2⟩
  · cases q
end
/-! ### loops -/
def So.cont : So → Option St
  | .nx s => some s
  | .cnt s => some s
  | _ => none
/-- behind a loop -/
def So.leave : So → So
  | .brk s => .nx s
  | o => o
/-- all that goes on becomes .nx -/
def contL : List So → List So
  | [] => []
  | .cnt s :: r => .nx s :: contL r
  | o :: r => o :: contL r
/-- an item's turn, then the rest -/
def turnL (k : St → MS) : List So → MS
  | [] => .ok []
  | .nx s :: r => (match k s with
    | .er p => .er p
    | .ok l => (match turnL k r with
      | .er p => .er p
      | .ok l' => .ok (l ++ l')))
  | .cnt s :: r => (match k s with
    | .er p => .er p
    | .ok l => (match turnL k r with
      | .er p => .er p
      | .ok l' => .ok (l ++ l')))
  | o :: r => match turnL k r with
    | .er p => .er p
    | .ok l' => .ok (o.leave :: l')
def turnMS (st : St) (run : MS) (k : St → MS) : MS := match run with
  | .er p => .er p
  | .ok l => (match squashS st (.ok (contL l)) with
    | .er p => .er p
    | .ok l => turnL k l)
def unrollS (tg : Tg) (run : St → MS) : Sh → St → MS
  | .nil, st => .ok [.nx st]
  | .cons a r, st => (match asgA tg ⟨a, .hole⟩ st.env with
    | some env => turnMS st (run { st with env := env }) (unrollS tg run r)
    | none => .er [60])
  | _, _ => .er [61]
def mapAs (f : Bool → Lin → Option Lin) : As → As
  | .val v => .val ⟨v.sh.mapL f, v.tm⟩
  | .mu t => .mu (t.mapL f)
  | .par t => .par (t.mapL f)
  | a => a
def loopSt (st : St) (N : Int) (J : List As) : St := { st with gs := st.gs ++ [(0, N - 1)], env := J }
/-- the names behind a turn, told by the number of the next one -/
def nextEnv (st : St) (N : Int) (s : St) : List As := (s.env.map (clipAs (loopSt st N []) s.gs)).map (mapAs fun _ l => putL st.gs.length (.t st.gs.length 1 (.c (-1))) l)
def forCheck (st : St) (N : Int) (J : List As) : List So → Option (List So)
  | [] => some []
  | .nx s :: r => if leEnv (st.gs ++ [(1, N)]) (nextEnv st N s) J then forCheck st N J r else none
  | .cnt s :: r => if leEnv (st.gs ++ [(1, N)]) (nextEnv st N s) J then forCheck st N J r else none
  | o :: r => (forCheck st N J r).map (o.leave :: ·)
def wNum (gs : Gs) (up : Bool) (n : Nat) (old new : Lin) : Lin := match (new.sub old).asC with
  | some k => if k = 0 then old else (Lin.c 0).ins n k |>.add old
  | none => (match (new.sub old).rg gs with
    | some p => if up then (if p.2 ≤ 0 then old else ((Lin.c 0).ins n p.2).add old) else (if 0 ≤ p.1 then old else ((Lin.c 0).ins n p.1).add old)
    | none => if up then .c 1000000 else .c 0)
def wRow (gs : Gs) (n : Nat) (old new : Sh) : Sh := match rowG gs old, rowG gs new with
  | some (e, lo, hi), some (e', lo', hi') => .row (clipSh n gs (jn gs e e')) (wNum gs false n lo lo') (wNum gs true n hi hi')
  | _, _ => jn gs old new
def wSh (gs : Gs) (n r : Nat) (old new : Sh) : Sh := if leSh gs 1000 new old then old else match old, new with
  | .int l h, .int l' h' => if r = 0 then clipSh n gs (jn gs old new) else if r = 1 then .int (match l, l' with | some a, some b => some (wNum gs false n a b) | _, _ => none) (match h, h' with | some a, some b => some (wNum gs true n a b) | _, _ => none) else .int none none
  | .lst t, .lst u => if r ≤ 1 then (if decide (sizeSh t = sizeSh u) && (sizeSh t).isSome then .lst (clipSh n gs (jn gs t u)) else .lst (wRow gs n t u)) else .lst (jn gs t u)
  | t, u => if isSeq t && isSeq u then (if r ≤ 1 then (if decide (sizeSh t = sizeSh u) && (sizeSh t).isSome then clipSh n gs (jn gs t u) else wRow gs n t u) else jn gs t u) else clipSh n gs (jn gs t u)
def wAs (gs : Gs) (n r : Nat) (old new : As) : Option As := if leAs gs new old then some old else match old, new with
  | .val v, .val w => some (.val ⟨wSh gs n r v.sh w.sh, if v.tm.beq w.tm then v.tm else .hole⟩)
  | .mu t, .mu u => some (.mu (match wSh gs n r (.lst t) (.lst u) with | .lst x => x | x => x))
  | .par t, .par u => some (.par (match wSh gs n r (.lst t) (.lst u) with | .lst x => x | x => x))
  | a, b => joinAs gs a b
def wEnv (gs : Gs) (n r : Nat) : List As → List As → Option (List As)
  | [], [] => some []
  | a :: as, b :: bs => (match wAs gs n r a b, wEnv gs n r as bs with
    | some x, some y => some (x :: y)
    | _, _ => none)
  | _, _ => none
def wAll (st : St) (N : Int) (r : Nat) : List So → List As → Option (List As)
  | [], J => some J
  | o :: l, J => (match o.cont with
    | some s => (wEnv (st.gs ++ [(1, N)]) st.gs.length r J (nextEnv st N s)).bind fun J => wAll st N r l J
    | none => wAll st N r l J)
def forLoop (tg : Tg) (run : St → MS) (el : Sh) (st : St) (N : Int) : Nat → Nat → List As → List Nat ⊕ (List As × List So)
  | 0, _, _ => .inl [62]
  | n + 1, r, J => match asgA tg ⟨el, .hole⟩ J with
    | none => .inl [63]
    | some env => (match run (loopSt st N env) with
      | .er p => .inl (64 :: p)
      | .ok l => (match forCheck st N J l with
        | some outs => .inr (J, outs)
        | none => (match wAll st N r l J with
          | some J' => forLoop tg run el st N n (r + 1) J'
          | none => .inl [65])))
def exitSt (st : St) (lo hi : Lin) (N : Int) (J : List As) : St := if lo.beq hi then { st with env := J.map (mapAs fun _ l => putL st.gs.length lo l) } else { st with gs := st.gs ++ [(0, N)], env := J }
def forAI (tg : Tg) (run : St → MS) (unr : Nat) (t : Sh) (st : St) : MS := match (match sizeSh t with
    | some n => decide (n ≤ unr)
    | none => false) with
  | true => unrollS tg run t st
  | false => (match rowG st.gs t with
    | none => .er [66]
    | some (el, lo, hi) => if isBot el then .ok [.nx st] else (match nhi st.gs hi with
      | none => .er [67]
      | some N => (match forLoop tg run el st N 5 0 st.env with
        | .inl p => .er p
        | .inr (J, outs) => if leEnv (st.gs ++ [(0, 0)]) st.env J then .ok (.nx (exitSt st lo hi N J) :: outs) else .er [68])))
end HM

namespace HM
open PySem
/-! AI14: loops on shapes: soundness -/
section
variable {I : Itp} {s t : Sg}
def TellsS (I : Itp) (f : St → MS) (e : Env → O) : Prop := ∀ st l, f st = .ok l → ∀ s ρ, StOk I s st ρ → MSOk I s l (e ρ)
/-- .cnt as .nx -/
def ctN : O → O
  | .cnt ρ => .nx ρ
  | o => o
theorem contL_ok {o : O} : ∀ {l : List So}, MSOk I s l o → MSOk I s (contL l) (ctN o)
  | [], ⟨_, h, _⟩ => by cases h
  | x :: l, ⟨y, hy, q⟩ => by
    rcases List.mem_cons.mp hy with rfl | hy
    · cases y with
      | cnt st => obtain ⟨t, lt, ρ, rfl, h⟩ := q; exact ⟨_, List.mem_cons_self, t, lt, ρ, rfl, h⟩
      | nx st => obtain ⟨t, lt, ρ, rfl, h⟩ := q; exact ⟨_, List.mem_cons_self, t, lt, ρ, rfl, h⟩
      | brk st => obtain ⟨t, lt, ρ, rfl, h⟩ := q; exact ⟨_, List.mem_cons_self, t, lt, ρ, rfl, h⟩
      | ret b v st => obtain ⟨t, lt, d, ρ, rfl, h⟩ := q; exact ⟨_, List.mem_cons_self, t, lt, d, ρ, rfl, h⟩
      | ex c v st => obtain ⟨t, lt, d, ρ, rfl, h⟩ := q; exact ⟨_, List.mem_cons_self, t, lt, d, ρ, rfl, h⟩
    · obtain ⟨z, hz, q⟩ := contL_ok (l := l) ⟨y, hy, q⟩
      cases x <;> exact ⟨z, List.mem_cons_of_mem _ hz, q⟩
/-- behind an item's turn -/
def contO (o : O) (g : Env → O) : O := match o with
  | .nx ρ => g ρ
  | .cnt ρ => g ρ
  | .brk ρ => .nx ρ
  | o => o
theorem turnL_ok {k : St → MS} {g : Env → O} (hk : TellsS I k g) {o : O} : ∀ {l l' : List So}, MSOk I s l (ctN o) → turnL k l = .ok l' → MSOk I s l' (contO o g)
  | [], l', ⟨_, h, _⟩, _ => by cases h
  | x :: l, l', ⟨y, hy, q⟩, e => by
    have rest : ∀ {l2 : List So}, turnL k l = .ok l2 → y ∈ l → MSOk I s l2 (contO o g) := fun h hy => turnL_ok hk (l := l) ⟨y, hy, q⟩ h
    cases x with
    | nx st =>
      unfold turnL at e
      split at e
      · cases e
      · rename_i l1 h1
        split at e
        · cases e
        · rename_i l2 h2
          cases e
          rcases List.mem_cons.mp hy with rfl | hy
          · obtain ⟨t, lt, ρ, eo, h⟩ := q
            obtain ⟨z, hz, q⟩ := (hk _ _ h1 t ρ h).mono lt
            have : contO o g = g ρ := by cases o <;> cases eo <;> rfl
            rw [this]
            exact ⟨z, List.mem_append_left _ hz, q⟩
          · obtain ⟨z, hz, q⟩ := rest h2 hy
            exact ⟨z, List.mem_append_right _ hz, q⟩
    | cnt st =>
      unfold turnL at e
      split at e
      · cases e
      · rename_i l1 h1
        split at e
        · cases e
        · rename_i l2 h2
          cases e
          rcases List.mem_cons.mp hy with rfl | hy
          · obtain ⟨t, lt, ρ, eo, h⟩ := q
            cases o <;> cases eo
          · obtain ⟨z, hz, q⟩ := rest h2 hy
            exact ⟨z, List.mem_append_right _ hz, q⟩
    | brk st =>
      unfold turnL at e
      split at e
      · cases e
      · rename_i l2 h2
        cases e
        rcases List.mem_cons.mp hy with rfl | hy
        · obtain ⟨t, lt, ρ, eo, h⟩ := q
          have : contO o g = .nx ρ := by cases o <;> cases eo; rfl
          rw [this]
          exact ⟨_, List.mem_cons_self, t, lt, ρ, rfl, h⟩
        · obtain ⟨z, hz, q⟩ := rest h2 hy
          exact ⟨z, List.mem_cons_of_mem _ hz, q⟩
    | ret b v st =>
      unfold turnL at e
      split at e
      · cases e
      · rename_i l2 h2
        cases e
        rcases List.mem_cons.mp hy with rfl | hy
        · obtain ⟨t, lt, d, ρ, eo, h⟩ := q
          have : contO o g = .ret b d ρ := by cases o <;> cases eo; rfl
          rw [this]
          exact ⟨_, List.mem_cons_self, t, lt, d, ρ, rfl, h⟩
        · obtain ⟨z, hz, q⟩ := rest h2 hy
          exact ⟨z, List.mem_cons_of_mem _ hz, q⟩
    | ex c v st =>
      unfold turnL at e
      split at e
      · cases e
      · rename_i l2 h2
        cases e
        rcases List.mem_cons.mp hy with rfl | hy
        · obtain ⟨t, lt, d, ρ, eo, h⟩ := q
          have : contO o g = .exc d ρ := by cases o <;> cases eo; rfl
          rw [this]
          exact ⟨_, List.mem_cons_self, t, lt, d, ρ, rfl, h⟩
        · obtain ⟨z, hz, q⟩ := rest h2 hy
          exact ⟨z, List.mem_cons_of_mem _ hz, q⟩
theorem turnMS_ok {st : St} {m : MS} {k : St → MS} {g : Env → O} (hk : TellsS I k g) {o : O} {l : List So} (h0 : BOk I s st) (e : turnMS st m k = .ok l) (h : ∀ l, m = .ok l → MSOk I s l o) : MSOk I s l (contO o g) := by
  unfold turnMS at e
  split at e
  · cases e
  · rename_i l0
    split at e
    · cases e
    · rename_i l1 h1
      exact turnL_ok hk (squashS_ok h0 h1 fun l hl => by cases hl; exact contL_ok (h _ rfl)) e
theorem forGo_cons (f : PyData → Env → O) (d : PyData) (ds : List PyData) (ρ : Env) : forGo f (d :: ds) ρ = contO (f d ρ) (forGo f ds) := by
  rw [forGo]
  cases f d ρ <;> rfl
/-- an item's turn -/
def turnF (tg : Tg) (b : Env → O) (d : PyData) (ρ : Env) : O := match asgT tg d ρ with
  | some ρ' => b ρ'
  | none => .bad
theorem unrollS_ok {tg : Tg} {run : St → MS} {b : Env → O} (hr : TellsS I run b) : ∀ {t : Sh} {ds : List PyData} {st : St} {l : List So} {ρ : Env} {s : Sg}, unrollS tg run t st = .ok l → StOk I s st ρ → Has s.g t (.tuple ds) → MSOk I s l (forGo (turnF tg b) ds ρ) := fun {t} => by
  induction t with
  | nil => intro ds st l ρ s e h g; cases g; exact nx_ok e h
  | cons a r _ ih =>
    intro ds st l ρ s e h g
    obtain ⟨x, ys, e0, h1, h2⟩ := g
    cases e0
    unfold unrollS at e
    split at e
    · rename_i env henv
      obtain ⟨ρ2, a1, a2⟩ := asgA_ok henv h.2 (d := x) ⟨h1, trivial⟩
      have ft : turnF tg b x ρ = b ρ2 := by unfold turnF; rw [a1]
      rw [forGo_cons, ft]
      have key : ∀ l, run { st with env := env } = .ok l → MSOk I s l (b ρ2) := fun l hl => hr _ _ hl s ρ2 ⟨h.1, a2⟩
      -- the rest is told for greater valuations, too
      unfold turnMS at e
      split at e
      · cases e
      · rename_i l0 hl0
        split at e
        · cases e
        · rename_i l1 hl1
          have q := squashS_ok h.1 hl1 fun l hl => by cases hl; exact contL_ok (key _ hl0)
          clear hl1
          -- go through the ways
          have go : ∀ {l1 l' : List So} {o : O}, MSOk I s l1 (ctN o) → turnL (unrollS tg run r) l1 = .ok l' → MSOk I s l' (contO o (forGo (turnF tg b) ys)) := fun {l1} => by
            induction l1 with
            | nil => intro l' o h; obtain ⟨_, h, _⟩ := h; cases h
            | cons z l1 ihl =>
              intro l' o ⟨y, hy, q⟩ e
              have rest : ∀ {l2 : List So}, turnL (unrollS tg run r) l1 = .ok l2 → y ∈ l1 → MSOk I s l2 (contO o (forGo (turnF tg b) ys)) := fun h hy => ihl ⟨y, hy, q⟩ h
              cases z with
              | nx st2 =>
                unfold turnL at e
                split at e
                · cases e
                · rename_i l3 h3
                  split at e
                  · cases e
                  · rename_i l4 h4
                    cases e
                    rcases List.mem_cons.mp hy with rfl | hy
                    · obtain ⟨t, lt, ρ3, eo, hh⟩ := q
                      obtain ⟨z, hz, q⟩ := (ih h3 hh (h2.le lt)).mono lt
                      have : contO o (forGo (turnF tg b) ys) = forGo (turnF tg b) ys ρ3 := by cases o <;> cases eo <;> rfl
                      rw [this]
                      exact ⟨z, List.mem_append_left _ hz, q⟩
                    · obtain ⟨z, hz, q⟩ := rest h4 hy
                      exact ⟨z, List.mem_append_right _ hz, q⟩
              | cnt st2 =>
                unfold turnL at e
                split at e
                · cases e
                · split at e
                  · cases e
                  · rename_i l4 h4
                    cases e
                    rcases List.mem_cons.mp hy with rfl | hy
                    · obtain ⟨t, lt, ρ3, eo, hh⟩ := q
                      cases o <;> cases eo
                    · obtain ⟨z, hz, q⟩ := rest h4 hy
                      exact ⟨z, List.mem_append_right _ hz, q⟩
              | brk st2 =>
                unfold turnL at e
                split at e
                · cases e
                · rename_i l4 h4
                  cases e
                  rcases List.mem_cons.mp hy with rfl | hy
                  · obtain ⟨t, lt, ρ3, eo, hh⟩ := q
                    have : contO o (forGo (turnF tg b) ys) = .nx ρ3 := by cases o <;> cases eo; rfl
                    rw [this]
                    exact ⟨_, List.mem_cons_self, t, lt, ρ3, rfl, hh⟩
                  · obtain ⟨z, hz, q⟩ := rest h4 hy
                    exact ⟨z, List.mem_cons_of_mem _ hz, q⟩
              | ret b' v st2 =>
                unfold turnL at e
                split at e
                · cases e
                · rename_i l4 h4
                  cases e
                  rcases List.mem_cons.mp hy with rfl | hy
                  · obtain ⟨t, lt, d, ρ3, eo, hh⟩ := q
                    have : contO o (forGo (turnF tg b) ys) = .ret b' d ρ3 := by cases o <;> cases eo; rfl
                    rw [this]
                    exact ⟨_, List.mem_cons_self, t, lt, d, ρ3, rfl, hh⟩
                  · obtain ⟨z, hz, q⟩ := rest h4 hy
                    exact ⟨z, List.mem_cons_of_mem _ hz, q⟩
              | ex c v st2 =>
                unfold turnL at e
                split at e
                · cases e
                · rename_i l4 h4
                  cases e
                  rcases List.mem_cons.mp hy with rfl | hy
                  · obtain ⟨t, lt, d, ρ3, eo, hh⟩ := q
                    have : contO o (forGo (turnF tg b) ys) = .exc d ρ3 := by cases o <;> cases eo; rfl
                    rw [this]
                    exact ⟨_, List.mem_cons_self, t, lt, d, ρ3, rfl, hh⟩
                  · obtain ⟨z, hz, q⟩ := rest h4 hy
                    exact ⟨z, List.mem_cons_of_mem _ hz, q⟩
          exact go q e
    · cases e
  | _ => intro ds st l ρ s e; cases e
theorem mapAs_ok {u : Sg} (hw : u.w = s.w) {f : Bool → Lin → Option Lin} (hf : ∀ (up : Bool) (a b : Lin) (x : Int), a.ev s.g = some x → f up a = some b → b.ev u.g = some x) {a : As} {x : Slot} (h : HasS I s a x) : HasS I u (mapAs f a) x := by
  have m : ∀ {a : Sh} {d : PyData}, Has s.g a d → Has u.g (a.mapL f) d := fun h => mapL_ok (fun up a b x e c => ⟨x, hf up a b x e c, by split <;> exact Int.le_refl _⟩) h
  cases a with
  | un => exact h
  | val v => obtain ⟨d, rfl, h1, h2⟩ := h; exact ⟨d, rfl, m h1, by rw [hw]; exact h2⟩
  | mu v => obtain ⟨d, rfl, h1⟩ := h; exact ⟨d, rfl, m h1⟩
  | par v => obtain ⟨d, rfl, h1⟩ := h; exact ⟨d, rfl, m h1⟩
  | jk => exact h
  | jm => exact h
theorem mapEnv_ok {u : Sg} (hw : u.w = s.w) {f : Bool → Lin → Option Lin} (hf : ∀ (up : Bool) (a b : Lin) (x : Int), a.ev s.g = some x → f up a = some b → b.ev u.g = some x) : ∀ {as : List As} {ρ : Env}, EnvOk I s as ρ → EnvOk I u (as.map (mapAs f)) ρ
  | [], [], _ => trivial
  | _ :: _, _ :: _, h => ⟨mapAs_ok hw hf h.1, mapEnv_ok hw hf h.2⟩
  | [], _ :: _, h => by cases h
  | _ :: _, [], h => by cases h
/-- a valuation with one number more -/
def Sg.push (s : Sg) (x : Int) : Sg := ⟨s.g ++ [x], s.w⟩
theorem Sg.le_push (x : Int) : s.le (s.push x) := ⟨[x], [], rfl, (List.append_nil _).symm⟩
theorem loopSt_ok {st : St} {N : Int} {J env : List As} {j : Nat} {ρ : Env} (hb : BOk I s st) (hj : (j : Int) < N) (he : EnvOk I (s.push j) env ρ) : StOk I (s.push j) (loopSt st N env) ρ := ⟨⟨hb.1.app (Sat.one (by omega) (by omega)), hb.2⟩, he⟩
theorem put_next {n : Nat} {x : Int} {g : List Int} (hn : g.length = n) (up : Bool) (a b : Lin) (z : Int) (h : a.ev (g ++ [x]) = some z) (e : putL n (.t n 1 (.c (-1))) a = some b) : b.ev (g ++ [x + 1]) = some z := by
  refine put_ok (u := g) (v := [x + 1]) (y := x) ?_ hn h e
  have : (g ++ [x + 1])[n]? = some (x + 1) := by rw [← hn, List.getElem?_append_right (Nat.le_refl _), Nat.sub_self]; rfl
  have := ev_t_of (k := 1) (r := .c (-1)) this rfl
  rw [this]; congr 1; omega
theorem nextEnv_ok {st s2 : St} {N : Int} {j : Nat} {ρ : Env} {u : Sg} (hb : BOk I s st) (hj : (j : Int) < N) (lu : (s.push j).le u) (h : StOk I u s2 ρ) : EnvOk I (s.push (j + 1 : Nat)) (nextEnv st N s2) ρ := by
  have hb1 : BOk I (s.push j) (loopSt st N []) := ⟨hb.1.app (Sat.one (by omega) (by omega)), hb.2⟩
  have := clipEnv_ok hb1 lu h.1.1 h.2
  refine mapEnv_ok (s := s.push j) (u := s.push (j + 1 : Nat)) rfl (fun up a b z e c => ?_) this
  have := put_next (x := (j : Int)) hb.1.len up a b z e c
  exact this
theorem forCheck_ok {st : St} {N : Int} {J : List As} {o : O} {j : Nat} (hb : BOk I s st) (hj : (j : Int) < N) : ∀ {l outs : List So}, forCheck st N J l = some outs → MSOk I (s.push j) l o → (∃ ρ, (o = .nx ρ ∨ o = .cnt ρ) ∧ EnvOk I (s.push (j + 1 : Nat)) J ρ) ∨ (∃ x ∈ outs, SoOk I s (contO o fun _ => .bad) x ∧ ∀ ρ, o ≠ .nx ρ ∧ o ≠ .cnt ρ)
  | [], _, _, ⟨_, h, _⟩ => by cases h
  | x :: l, outs, e, ⟨y, hy, q⟩ => by
    have hs2 : Sat (s.push (j + 1 : Nat)).g (st.gs ++ [(1, N)]) := hb.1.app (Sat.one (by omega) (by omega))
    have rest : ∀ {o2 : List So}, forCheck st N J l = some o2 → y ∈ l → (∃ ρ, (o = .nx ρ ∨ o = .cnt ρ) ∧ EnvOk I (s.push (j + 1 : Nat)) J ρ) ∨ (∃ x ∈ o2, SoOk I s (contO o fun _ => .bad) x ∧ ∀ ρ, o ≠ .nx ρ ∧ o ≠ .cnt ρ) := fun h hy => forCheck_ok hb hj (l := l) h ⟨y, hy, q⟩
    cases x with
    | nx st2 =>
      unfold forCheck at e
      split at e
      · rename_i hle
        rcases List.mem_cons.mp hy with rfl | hy
        · obtain ⟨t, lt, ρ, rfl, h⟩ := q
          exact .inl ⟨ρ, .inl rfl, leEnv_ok hs2 hle (nextEnv_ok hb hj lt h)⟩
        · exact rest e hy
      · cases e
    | cnt st2 =>
      unfold forCheck at e
      split at e
      · rename_i hle
        rcases List.mem_cons.mp hy with rfl | hy
        · obtain ⟨t, lt, ρ, rfl, h⟩ := q
          exact .inl ⟨ρ, .inr rfl, leEnv_ok hs2 hle (nextEnv_ok hb hj lt h)⟩
        · exact rest e hy
      · cases e
    | brk st2 =>
      obtain ⟨o2, ho, rfl⟩ := Option.map_eq_some_iff.mp e
      rcases List.mem_cons.mp hy with rfl | hy
      · obtain ⟨t, lt, ρ, rfl, h⟩ := q
        exact .inr ⟨_, List.mem_cons_self, ⟨t, (Sg.le_push _).tr lt, ρ, rfl, h⟩, fun _ => ⟨nofun, nofun⟩⟩
      · rcases rest ho hy with h | ⟨z, hz, q⟩
        · exact .inl h
        · exact .inr ⟨z, List.mem_cons_of_mem _ hz, q⟩
    | ret b v st2 =>
      obtain ⟨o2, ho, rfl⟩ := Option.map_eq_some_iff.mp e
      rcases List.mem_cons.mp hy with rfl | hy
      · obtain ⟨t, lt, d, ρ, rfl, h⟩ := q
        exact .inr ⟨_, List.mem_cons_self, ⟨t, (Sg.le_push _).tr lt, d, ρ, rfl, h⟩, fun _ => ⟨nofun, nofun⟩⟩
      · rcases rest ho hy with h | ⟨z, hz, q⟩
        · exact .inl h
        · exact .inr ⟨z, List.mem_cons_of_mem _ hz, q⟩
    | ex c v st2 =>
      obtain ⟨o2, ho, rfl⟩ := Option.map_eq_some_iff.mp e
      rcases List.mem_cons.mp hy with rfl | hy
      · obtain ⟨t, lt, d, ρ, rfl, h⟩ := q
        exact .inr ⟨_, List.mem_cons_self, ⟨t, (Sg.le_push _).tr lt, d, ρ, rfl, h⟩, fun _ => ⟨nofun, nofun⟩⟩
      · rcases rest ho hy with h | ⟨z, hz, q⟩
        · exact .inl h
        · exact .inr ⟨z, List.mem_cons_of_mem _ hz, q⟩
theorem forLoop_ok {tg : Tg} {run : St → MS} {el : Sh} {st : St} {N : Int} : ∀ {n r : Nat} {J0 J : List As} {outs : List So}, forLoop tg run el st N n r J0 = .inr (J, outs) → ∃ env l, asgA tg ⟨el, .hole⟩ J = some env ∧ run (loopSt st N env) = .ok l ∧ forCheck st N J l = some outs
  | 0, r, J0, J, outs, h => by cases h
  | n + 1, r, J0, J, outs, h => by
    unfold forLoop at h
    split at h
    · cases h
    · rename_i env henv
      split at h
      · cases h
      · rename_i l hl
        split at h
        · rename_i o ho
          cases h
          exact ⟨env, l, henv, hl, ho⟩
        · split at h
          · exact forLoop_ok h
          · cases h
theorem forGo_inv2 {f : PyData → Env → O} {J : List As} {outs : List So} {N : Int} : ∀ {ds : List PyData} {j : Nat} {ρ : Env}, (∀ d ∈ ds, ∀ (j : Nat) ρ, (j : Int) < N → EnvOk I (s.push j) J ρ → (∃ ρ', (f d ρ = .nx ρ' ∨ f d ρ = .cnt ρ') ∧ EnvOk I (s.push (j + 1 : Nat)) J ρ') ∨ (∃ x ∈ outs, SoOk I s (contO (f d ρ) fun _ => .bad) x ∧ ∀ ρ', f d ρ ≠ .nx ρ' ∧ f d ρ ≠ .cnt ρ')) →
    (j : Int) + ds.length ≤ N → EnvOk I (s.push j) J ρ → (∃ ρ', forGo f ds ρ = .nx ρ' ∧ EnvOk I (s.push (j + ds.length : Nat)) J ρ') ∨ MSOk I s outs (forGo f ds ρ)
  | [], j, ρ, _, _, h => .inl ⟨ρ, rfl, h⟩
  | d :: ds, j, ρ, k, hN, h => by
    rw [List.length_cons] at hN
    rcases k d List.mem_cons_self j ρ (by omega) h with ⟨ρ', e, h'⟩ | ⟨x, hx, q, nn⟩
    · have ih := forGo_inv2 (ds := ds) (j := j + 1) (fun d hd => k d (List.mem_cons_of_mem _ hd)) (by omega) h'
      have ee : forGo f (d :: ds) ρ = forGo f ds ρ' := by rw [forGo_cons]; rcases e with e | e <;> rw [e] <;> rfl
      rw [ee]
      rcases ih with ⟨ρ2, e2, h2⟩ | h
      · refine .inl ⟨ρ2, e2, ?_⟩
        have : j + (d :: ds).length = j + 1 + ds.length := by rw [List.length_cons]; omega
        rw [this]; exact h2
      · exact .inr h
    · refine .inr ⟨x, hx, ?_⟩
      have : contO (f d ρ) (fun _ => .bad) = contO (f d ρ) (forGo f ds) := by
        cases hf : f d ρ with
        | nx ρ' => exact absurd hf (nn ρ').1
        | cnt ρ' => exact absurd hf (nn ρ').2
        | _ => rfl
      rw [forGo_cons, ← this]
      exact q
theorem forAI_ok {tg : Tg} {run : St → MS} {b : Env → O} (hr : TellsS I run b) {unr : Nat} {t : Sh} {ds : List PyData} {st : St} {l : List So} {ρ : Env} (e : forAI tg run unr t st = .ok l) (h : StOk I s st ρ) (g : Has s.g t (.tuple ds)) : MSOk I s l (forGo (turnF tg b) ds ρ) := by
  unfold forAI at e
  split at e
  · exact unrollS_ok hr e h g
  · split at e
    · cases e
    · rename_i el lo hi hrow
      obtain ⟨r1, ⟨v, v1, v2⟩, ⟨w, w1, w2⟩⟩ := has_row_any (rowG_ok h.1.1 hrow g)
      split at e
      · rename_i hbot
        have hbot := isBot_eq hbot
        subst hbot
        cases ds with
        | cons d r => exact (r1 d List.mem_cons_self).elim
        | nil => exact nx_ok e h
      · split at e
        · cases e
        · rename_i N hN
          have hN' := nhi_ok h.1.1 hN w1
          split at e
          · cases e
          · rename_i J outs hl
            split at e
            · rename_i hle
              cases e
              obtain ⟨env, l1, a1, a2, a3⟩ := forLoop_ok hl
              have start : EnvOk I (s.push (0 : Nat)) J ρ := leEnv_ok (s := s.push (0 : Nat)) (h.1.1.app (Sat.one (Int.le_refl _) (Int.le_refl _))) hle (h.2.mono (Sg.le_push _))
              rcases forGo_inv2 (I := I) (s := s) (f := turnF tg b) (J := J) (outs := outs) (N := N) (ds := ds) (j := 0) (ρ := ρ) (fun d hd j ρ hj hρ => by
                have hel : HasV I (s.push j) ⟨el, .hole⟩ d := ⟨(r1 d hd).le (Sg.le_push _), trivial⟩
                obtain ⟨ρ2, p1, p2⟩ := asgA_ok a1 hρ hel
                have ft : turnF tg b d ρ = b ρ2 := by unfold turnF; rw [p1]
                rw [ft]
                exact forCheck_ok h.1 hj a3 (hr _ _ a2 (s.push j) ρ2 (loopSt_ok (J := J) h.1 hj p2))) (by omega) start with ⟨ρ', e1, e2⟩ | ⟨x, hx, q⟩
              · rw [e1]
                rw [Nat.zero_add] at e2
                refine ⟨_, List.mem_cons_self, ?_⟩
                unfold exitSt
                split
                · rename_i hq
                  have := Lin.beq_eq hq
                  subst this
                  have hv : v = ds.length := by rw [v1] at w1; cases w1; omega
                  refine ⟨s, Sg.le.rf, ρ', rfl, h.1, mapEnv_ok (s := s.push (ds.length : Nat)) (u := s) rfl (fun up a b z e c => ?_) e2⟩
                  have := put_ok (u := s.g) (v := []) (y := (ds.length : Int)) (by rw [List.append_nil, v1, hv]) h.1.1.len e c
                  rw [List.append_nil] at this
                  exact this
                · exact ⟨s.push (ds.length : Nat), Sg.le_push _, ρ', rfl, ⟨h.1.1.app (Sat.one (Int.natCast_nonneg _) (by omega)), h.1.2⟩, e2⟩
              · exact ⟨x, List.mem_cons_of_mem _ hx, q⟩
            · cases e
end
end HM

namespace HM
open PySem
/-! AI15: statements on shapes -/
def setSh : Sh → Nat → Sh → Option Sh
  | .cons _ r, 0, b => some (.cons b r)
  | .cons a r, n + 1, b => (setSh r n b).map (.cons a)
  | _, _, _ => none
/-- t[i] = b -/
def setT (gs : Gs) (t : Sh) (l h : Option Lin) (b : Sh) : Option Sh := match (match sizeSh t, consts l h with
    | some n, some z => if 0 ≤ z then setSh t z.toNat b else if 0 ≤ (n : Int) + z then setSh t ((n : Int) + z).toNat b else none
    | _, _ => none) with
  | some u => some u
  | none => (match rowG gs t with
    | some (e, lo, hi) => if leOO gs (osucc h) (some lo) && leOO gs (some (lo.mulC (-1))) l then some (.row (jn gs e b) lo hi) else none
    | none => none)
def splitInt (st : St) (i : Nat) : Int → Nat → Option (List So)
  | _, 0 => some []
  | z, n + 1 => match putA st.env i (.val ⟨kI z, .ki z⟩), splitInt st i (z + 1) n with
    | some env, some l => some (.nx { st with env := env } :: l)
    | _, _ => none
def smallR (gs : Gs) : Sh → Option (Int × Nat)
  | .int l h => (match range4 gs l h with
    | some p => if p.1 ≤ p.2 ∧ p.2 - p.1 ≤ 8 then some (p.1, (p.2 - p.1 + 1).toNat) else none
    | none => none)
  | _ => none
def repS (e : Sh) : Nat → Sh
  | 0 => .nil
  | n + 1 => .cons e (repS e n)
/-- a row of just so many -/
def fitT (gs : Gs) (n : Nat) : Sh → Sh
  | .row e lo hi => if leL gs (.c n) lo && leL gs hi (.c n) then repS e n else .row e lo hi
  | a => a
def aiS (cf : Cf) (spl : List Nat) (unr : Nat) : S → St → MS
  | .skip, st => .ok [.nx st]
  | .seq a b, st => (aiS cf spl unr a st).seq (aiS cf spl unr b)
  | .asg i e, st => (ai cf e false st).outS fun v st => (match (if spl.contains i then smallR st.gs v.sh else none) with
    | some p => (match splitInt st i p.1 p.2 with
      | some l => .ok l
      | none => .er [70])
    | none => ofE 70 (putA (normV v st).2.env i (.val (normV v st).1)) (normV v st).2)
  | .asgM i e, st => (ai cf e false st).outS fun v st => (match v.sh with
    | .lst t => ofE 71 (putA st.env i (.mu t)) st
    | _ => .er [71])
  | .asgs is e, st => (ai cf e false st).outS fun v st => ofE 72 (putAllA is (fitT st.gs is.length v.sh) st.env) st
  | .two i j a b, st => (ai cf a false st).outS fun v st => (ai cf b false st).outS fun w st => ofE 73 ((putA st.env i (.val v)).bind fun env => putA env j (.val w)) st
  | .app i e, st => if (mutOf st.env i).isSome then (ai cf e false st).outS fun v st => (match mutOf st.env i with
      | some t => (match appSh st.gs t (.cons v.sh .nil) with
        | some u => if lenLe st.gs t 1000000 then ofE 74 (setMut st.env i u) st else .er [74]
        | none => .er [74])
      | none => .er [74]) else .er [74]
  | .ext i e, st => if (mutOf st.env i).isSome then (ai cf e false st).outS fun v st => (match mutOf st.env i, v.sh with
      | some t, .lst u => (match catSh st.gs t u with
        | some u => ofE 75 (setMut st.env i u) st
        | none => .er [75])
      | _, _ => .er [75]) else .er [75]
  | .setM i a e, st => (ai cf e false st).outS fun v st => if (mutOf st.env i).isSome then (ai cf a false st).outS fun w st => (match mutOf st.env i, w.sh with
      | some t, .int l h => (match setT st.gs t l h v.sh with
        | some u => ofE 76 (setMut st.env i u) st
        | none => .er [76])
      | _, _ => .er [76]) else .er [76]
  | .aug i o e, st => (match st.env[i]? with
    | some (.val v) => (match v.sh with
      | .int l h => (ai cf e false st).outS fun w st => (match binSh st.gs o (.int l h) w.sh with
        | some u => ofE 77 (putA st.env i (.val ⟨u, .hole⟩)) st
        | none => .er [77])
      | _ => .er [77])
    | _ => .er [77])
  | .augM i a o e, st => if (mutOf st.env i).isSome then (ai cf a false st).outS fun v st => (match mutOf st.env i, v.sh with
      | some t, .int l h => (match ixT st.gs t l h with
        | some (.int p q) => (ai cf e false st).outS fun w st => (match binSh st.gs o (.int p q) w.sh, mutOf st.env i with
          | some u, some t' => (match setT st.gs t' l h u with
            | some t2 => ofE 78 (setMut st.env i t2) st
            | none => .er [78])
          | _, _ => .er [78])
        | _ => .er [78])
      | _, _ => .er [78]) else .er [78]
  | .ret e, st => (ai cf e false st).outS fun v st => .ok [.ret false v st]
  | .retM i, st => (match st.env[i]? with
    | some (.mu t) => .ok [.ret true ⟨.lst t, .hole⟩ st]
    | _ => .er [79])
  | .ite c a b, st => squashS st ((ai cf c true st).outS fun v st => (match v.sh with
    | .tt true => aiS cf spl unr a st
    | .tt false => aiS cf spl unr b st
    | _ => .er [80]))
  | .for_ tg src b, st => (ai cf src false st).outS fun v st => (match itemsT v.sh with
    | some t => forAI tg (aiS cf spl unr b) unr t st
    | none => .er [81])
  | .while_ _ _, _ => .er [82]
  | .drop e, st => (ai cf e false st).outS fun _ st => .ok [.nx st]
  | .brk, st => .ok [.brk st]
  | .cnt, st => .ok [.cnt st]
section
variable {I : Itp} {s t : Sg} {Φ : Fns} {cf : Cf}
theorem setSh_ok {g : List Int} : ∀ {t u b : Sh} {n : Nat} {ds : List PyData} {y : PyData}, setSh t n b = some u → Has g t (.tuple ds) → Has g b y → n < ds.length ∧ Has g u (.tuple (ds.set n y)) := fun {t} => by
  induction t with
  | cons a r _ ih =>
    intro u b n ds y h e hy
    obtain ⟨x, ys, e0, h1, h2⟩ := e
    cases e0
    cases n with
    | zero => cases h; exact ⟨by rw [List.length_cons]; omega, y, ys, rfl, hy, h2⟩
    | succ n =>
      obtain ⟨q, hq, rfl⟩ := Option.map_eq_some_iff.mp h
      obtain ⟨i1, i2⟩ := ih hq h2 hy
      exact ⟨by rw [List.length_cons]; omega, x, _, rfl, h1, i2⟩
  | _ => intro u b n ds y h; cases n <;> cases h
theorem setT_ok {g : List Int} {gs : Gs} (hs : Sat g gs) {t u b : Sh} {l h : Option Lin} {ds : List PyData} {y : PyData} {i : Int} (e : setT gs t l h b = some u) (ht : Has g t (.tuple ds)) (h1 : LoB g l i) (h2 : HiB g h i) (hy : Has g b y) : ∃ es, setAt ds i y = some es ∧ Has g u (.tuple es) := by
  unfold setT at e
  split at e
  · rename_i u' hu
    cases e
    split at hu
    · rename_i n z hn hz
      have := consts_ok hz h1 h2
      subst this
      have hl := sizeSh_ok hn ht
      split at hu
      · rename_i hp
        obtain ⟨i1, i2⟩ := setSh_ok hu ht hy
        exact ⟨_, by unfold setAt; rw [if_pos hp, if_pos i1], i2⟩
      · rename_i hp
        split at hu
        · rename_i hq
          obtain ⟨i1, i2⟩ := setSh_ok hu ht hy
          exact ⟨_, by unfold setAt; rw [if_neg hp, hl, if_pos hq], i2⟩
        · cases hu
    · cases hu
  · split at e
    · rename_i el lo hi hr
      obtain ⟨r1, ⟨v, v1, v2⟩, ⟨w, w1, w2⟩⟩ := has_row_any (rowG_ok hs hr ht)
      split at e
      · rename_i q
        cases e
        rw [Bool.and_eq_true] at q
        have q1 := leOO_ok hs q.1 (osucc_hi h2) (show LoB g (some lo) v from ⟨v, v1, Int.le_refl _⟩)
        have q2 := leOO_ok hs q.2 (show HiB g (some (lo.mulC (-1))) (-v) from ⟨_, ev_mulC (-1) v1, by omega⟩) h1
        have mem : ∀ (n : Nat) x, x ∈ ds.set n y → Has g (jn gs el b) x := fun n x hx => by
          rcases List.mem_or_eq_of_mem_set hx with hx | rfl
          · exact jn_ok hs (.inl (r1 x hx))
          · exact jn_ok hs (.inr hy)
        unfold setAt
        split
        · rw [if_pos (by omega)]
          exact ⟨_, rfl, _, rfl, mem _, ⟨v, v1, by rw [List.length_set]; exact v2⟩, ⟨w, w1, by rw [List.length_set]; exact w2⟩⟩
        · rw [if_pos (by omega)]
          exact ⟨_, rfl, _, rfl, mem _, ⟨v, v1, by rw [List.length_set]; exact v2⟩, ⟨w, w1, by rw [List.length_set]; exact w2⟩⟩
      · cases e
    · cases e
theorem splitInt_ok {st : St} {i : Nat} {ρ : Env} {z : Int} (h : StOk I s st ρ) : ∀ {n : Nat} {a : Int} {l : List So}, splitInt st i a n = some l → a ≤ z → z < a + n → MSOk I s l (O.of (putS ρ i (.val (.int z))))
  | 0, a, l, _, h1, h2 => by omega
  | n + 1, a, l, e, h1, h2 => by
    unfold splitInt at e
    split at e
    · rename_i env l' he hl
      cases e
      by_cases q : a = z
      · subst q
        obtain ⟨ρ2, p1, p2⟩ := putA_ok (x := .val (.int a)) he h.2 ⟨_, rfl, kI_ok a, rfl⟩
        rw [p1]
        exact ⟨_, List.mem_cons_self, s, Sg.le.rf, ρ2, rfl, h.1, p2⟩
      · obtain ⟨x, hx, k⟩ := splitInt_ok (z := z) h (n := n) hl (by omega) (by omega)
        exact ⟨x, List.mem_cons_of_mem _ hx, k⟩
    · cases e
theorem repS_ok {g : List Int} {e : Sh} : ∀ {n : Nat} {ds : List PyData}, (∀ x ∈ ds, Has g e x) → ds.length = n → Has g (repS e n) (.tuple ds)
  | 0, [], _, _ => rfl
  | n + 1, d :: r, h, l => ⟨d, r, rfl, h d List.mem_cons_self, repS_ok (fun x hx => h x (List.mem_cons_of_mem _ hx)) (by simpa using l)⟩
  | 0, _ :: _, _, l => by cases l
  | _ + 1, [], _, l => by cases l
theorem fitT_ok {g : List Int} {gs : Gs} (hs : Sat g gs) {n : Nat} {a : Sh} {d : PyData} (h : Has g a d) : Has g (fitT gs n a) d := by
  unfold fitT
  split
  · split
    · rename_i q
      rw [Bool.and_eq_true] at q
      obtain ⟨ds, rfl, _⟩ := id h
      obtain ⟨r1, ⟨v, v1, v2⟩, ⟨w, w1, w2⟩⟩ := has_row_any h
      have i1 := leL_ok hs q.1 (show (Lin.c n).ev g = some (n : Int) from rfl) v1
      have i2 := leL_ok hs q.2 w1 (show (Lin.c n).ev g = some (n : Int) from rfl)
      exact repS_ok r1 (by omega)
    · exact h
  · exact h
theorem aiS_ok (hI : LenOk I) (hcf : CallOk I Φ cf) {spl : List Nat} {unr : Nat} (b : S) : TellsS I (aiS cf spl unr b) (evS Φ b) := by
  induction b with
  | skip => intro st l e s ρ h; exact nx_ok e h
  | seq a b iha ihb =>
    intro st l e s ρ h
    unfold aiS MS.seq at e
    split at e
    · cases e
    · rename_i l1 h1
      split at e
      · cases e
      · rename_i o ho
        exact seqL_ok (g := evS Φ b) (iha _ _ h1 s ρ h) e fun st t ρ l' lt h2 e2 => ihb _ _ e2 t ρ h2
  | asg i e =>
    intro st l e s ρ h
    refine outS_ok (fun l hl => ai_ok hI hcf _ _ _ _ hl s ρ h) e fun v st t d ρ2 l2 lt h2 p e2 => ?_
    split at e2
    · rename_i q hq
      split at e2
      · rename_i l3 hl3
        cases e2
        have hq : smallR st.gs v.sh = some q := by
          split at hq
          · exact hq
          · cases hq
        unfold smallR at hq
        split at hq
        · rename_i lo hi hsh
          have p := p.1
          rw [hsh] at p
          obtain ⟨z, rfl, z1, z2⟩ := p
          split at hq
          · rename_i r hr
            have := range4_ok h2.1.1 hr z1 z2
            split at hq
            · cases hq
              exact splitInt_ok h2 hl3 this.1 (by dsimp only at *; omega)
            · cases hq
          · cases hq
        · cases hq
      · cases e2
    · obtain ⟨u, lu, b, hh, e1⟩ := normV_ok h2.1 p
      exact (ofE_ok e2 b fun env he => putA_ok he (by rw [e1]; exact h2.2.mono lu) ⟨d, rfl, hh⟩).mono lu
  | asgM i e =>
    intro st l e s ρ h
    refine outS_ok (fun l hl => ai_ok hI hcf _ _ _ _ hl s ρ h) e fun v st t d ρ2 l2 lt h2 p e2 => ?_
    split at e2
    · rename_i u hsh
      have p1 := p.1
      rw [hsh] at p1
      obtain ⟨ds, rfl, p2⟩ := p1
      exact ofE_ok e2 h2.1 fun env he => putA_ok he h2.2 ⟨ds, rfl, p2⟩
    · cases e2
  | asgs is e =>
    intro st l e s ρ h
    refine outS_ok (fun l hl => ai_ok hI hcf _ _ _ _ hl s ρ h) e fun v st t d ρ2 l2 lt h2 p e2 => ?_
    exact ofE_ok e2 h2.1 fun env he => by
      have p := fitT_ok h2.1.1 (n := is.length) p.1
      obtain ⟨ds, rfl⟩ := putAllA_tup he p
      exact putAllA_ok he h2.2 p
  | two i j a b =>
    intro st l e s ρ h
    refine outS_ok (fun l hl => ai_ok hI hcf _ _ _ _ hl s ρ h) e fun v st t d ρ2 l2 lt h2 p e2 => ?_
    refine outS_ok (fun l hl => ai_ok hI hcf _ _ _ _ hl t ρ2 h2) e2 fun w st u d2 ρ3 l3 lu h3 p3 e3 => ?_
    exact ofE_ok e3 h3.1 fun env he => by
      obtain ⟨env1, he1, he⟩ := Option.bind_eq_some_iff.mp he
      obtain ⟨ρ4, q1, q2⟩ := putA_ok (x := .val d) he1 h3.2 ⟨d, rfl, p.mono lu⟩
      rw [q1]
      exact putA_ok he q2 ⟨d2, rfl, p3⟩
  | app i e =>
    intro st l e s ρ h
    unfold aiS at e
    split at e
    · rename_i hm
      obtain ⟨t0, ht0⟩ := Option.isSome_iff_exists.mp hm
      obtain ⟨ds0, hd0, _⟩ := mutOf_ok h.2 ht0
      show MSOk I s l (if (mutS (getS ρ i)).isSome then _ else _)
      rw [show (mutS (getS ρ i)).isSome = true from by rw [hd0]; rfl, if_pos rfl]
      refine outS_ok (fun l hl => ai_ok hI hcf _ _ _ _ hl s ρ h) e fun v st t d ρ2 l2 lt h2 p e2 => ?_
      split at e2
      · rename_i tt htt
        obtain ⟨ds, e1, g1⟩ := mutOf_ok h2.2 htt
        rw [e1]
        split at e2
        · rename_i u hu
          split at e2
          · rename_i hl
            have := lenLe_ok h2.1.1 hl g1
            dsimp only
            rw [if_pos (by unfold SL; omega)]
            have g2 := appSh_ok h2.1.1 hu g1 (ys := [d]) ⟨d, [], rfl, p.1, rfl⟩
            exact ofE_ok (z := some _) e2 h2.1 fun env he => ⟨_, rfl, setMut_ok he h2.2 g2⟩
          · cases e2
        · cases e2
      · cases e2
    · cases e
  | ext i e =>
    intro st l e s ρ h
    unfold aiS at e
    split at e
    · rename_i hm
      obtain ⟨t0, ht0⟩ := Option.isSome_iff_exists.mp hm
      obtain ⟨ds0, hd0, _⟩ := mutOf_ok h.2 ht0
      show MSOk I s l (if (mutS (getS ρ i)).isSome then _ else _)
      rw [show (mutS (getS ρ i)).isSome = true from by rw [hd0]; rfl, if_pos rfl]
      refine outS_ok (fun l hl => ai_ok hI hcf _ _ _ _ hl s ρ h) e fun v st t d ρ2 l2 lt h2 p e2 => ?_
      split at e2
      · rename_i tt u htt hsh
        obtain ⟨ds, e1, g1⟩ := mutOf_ok h2.2 htt
        have p1 := p.1
        rw [hsh] at p1
        obtain ⟨es, rfl, p2⟩ := p1
        rw [e1]
        split at e2
        · rename_i u hu
          obtain ⟨g2, g3⟩ := catSh_ok h2.1.1 hu g1 p2
          dsimp only
          rw [if_pos g3]
          exact ofE_ok (z := some _) e2 h2.1 fun env he => ⟨_, rfl, setMut_ok he h2.2 g2⟩
        · cases e2
      · cases e2
    · cases e
  | setM i a e =>
    intro st l e s ρ h
    refine outS_ok (fun l hl => ai_ok hI hcf _ _ _ _ hl s ρ h) e fun v st t d ρ2 l2 lt h2 p e2 => ?_
    split at e2
    · rename_i hm
      obtain ⟨t0, ht0⟩ := Option.isSome_iff_exists.mp hm
      obtain ⟨ds0, hd0, _⟩ := mutOf_ok h2.2 ht0
      rw [show (mutS (getS ρ2 i)).isSome = true from by rw [hd0]; rfl, if_pos rfl]
      refine outS_ok (fun l hl => ai_ok hI hcf _ _ _ _ hl t ρ2 h2) e2 fun w st u k ρ3 l3 lu h3 p3 e3 => ?_
      split at e3
      · rename_i tt lo hi htt hsh
        obtain ⟨ds, e1, g1⟩ := mutOf_ok h3.2 htt
        have p3 := p3.1
        rw [hsh] at p3
        obtain ⟨z, rfl, z1, z2⟩ := p3
        rw [e1]
        split at e3
        · rename_i u hu
          obtain ⟨es, s1, s2⟩ := setT_ok h3.1.1 hu g1 z1 z2 (p.mono lu).1
          dsimp only
          rw [s1]
          exact ofE_ok (z := some _) e3 h3.1 fun env he => ⟨_, rfl, setMut_ok he h3.2 s2⟩
        · cases e3
      · cases e3
    · cases e2
  | aug i o e =>
    intro st l e s ρ h
    unfold aiS at e
    split at e
    · rename_i v hv
      obtain ⟨x, x1, ⟨d, rfl, x2⟩, x3⟩ := h.2.get hv
      split at e
      · rename_i lo hi hsh
        have x2' := x2.1
        rw [hsh] at x2'
        obtain ⟨z, rfl, z1, z2⟩ := x2'
        show MSOk I s l (match getS ρ i with | .val (.int x) => _ | _ => _)
        rw [x3]
        refine outS_ok (fun l hl => ai_ok hI hcf _ _ _ _ hl s ρ h) e fun w st t y ρ2 l2 lt h2 p e2 => ?_
        split at e2
        · rename_i u hu
          have hz : Has s.g (.int lo hi) (.int z) := ⟨z, rfl, z1, z2⟩
          obtain ⟨r, r1, r2⟩ := binSh_ok h2.1.1 hu (hz.le lt) p.1
          rw [r1]
          exact ofE_ok e2 h2.1 fun env he => putA_ok he h2.2 ⟨r, rfl, r2, trivial⟩
        · cases e2
      · cases e
    · cases e
  | augM i a o e =>
    intro st l e s ρ h
    unfold aiS at e
    split at e
    · rename_i hm
      obtain ⟨t0, ht0⟩ := Option.isSome_iff_exists.mp hm
      obtain ⟨ds0, hd0, _⟩ := mutOf_ok h.2 ht0
      show MSOk I s l (if (mutS (getS ρ i)).isSome then _ else _)
      rw [show (mutS (getS ρ i)).isSome = true from by rw [hd0]; rfl, if_pos rfl]
      refine outS_ok (fun l hl => ai_ok hI hcf _ _ _ _ hl s ρ h) e fun v st t d ρ2 l2 lt h2 p e2 => ?_
      split at e2
      · rename_i tt lo hi htt hsh
        obtain ⟨ds, e1, g1⟩ := mutOf_ok h2.2 htt
        have p := p.1
        rw [hsh] at p
        obtain ⟨z, rfl, z1, z2⟩ := p
        rw [e1]
        split at e2
        · rename_i pl ph hix
          obtain ⟨x, q1, q2⟩ := ixT_ok h2.1.1 hix g1 z1 z2
          obtain ⟨k, rfl, k1, k2⟩ := id q2
          dsimp only
          rw [q1]
          refine outS_ok (fun l hl => ai_ok hI hcf _ _ _ _ hl t ρ2 h2) e2 fun w st u y ρ3 l3 lu h3 p3 e3 => ?_
          split at e3
          · rename_i b t' hb ht'
            obtain ⟨r, r1, r2⟩ := binSh_ok h3.1.1 hb (q2.le lu) p3.1
            obtain ⟨ds', e1', g1'⟩ := mutOf_ok h3.2 ht'
            rw [r1, e1']
            split at e3
            · rename_i t2 ht2
              have z1' : LoB u.g lo z := by obtain ⟨_, _, l1, _⟩ := lu; rw [l1]; exact z1.mono
              have z2' : HiB u.g hi z := by obtain ⟨_, _, l1, _⟩ := lu; rw [l1]; exact z2.mono
              obtain ⟨es, s1, s2⟩ := setT_ok h3.1.1 ht2 g1' z1' z2' r2
              dsimp only
              rw [s1]
              exact ofE_ok (z := some _) e3 h3.1 fun env he => ⟨_, rfl, setMut_ok he h3.2 s2⟩
            · cases e3
          · cases e3
        · cases e2
      · cases e2
    · cases e
  | ret e =>
    intro st l e s ρ h
    refine outS_ok (fun l hl => ai_ok hI hcf _ _ _ _ hl s ρ h) e fun v st t d ρ2 l2 lt h2 p e2 => ?_
    cases e2
    exact ⟨_, List.mem_cons_self, t, Sg.le.rf, d, ρ2, rfl, h2, p⟩
  | retM i =>
    intro st l e s ρ h
    unfold aiS at e
    split at e
    · rename_i u hu
      obtain ⟨x, x1, ⟨ds, rfl, x2⟩, x3⟩ := h.2.get hu
      show MSOk I s l (match getS ρ i with | .mu ds => .ret true (.list ds) ρ | _ => .bad)
      rw [x3]
      cases e
      exact ⟨_, List.mem_cons_self, s, Sg.le.rf, _, ρ, rfl, h, ⟨ds, rfl, x2⟩, trivial⟩
    · cases e
  | ite c a b iha ihb =>
    intro st l e s ρ h
    refine squashS_ok h.1 e fun l e => outS_ok (fun l hl => ai_ok hI hcf _ _ _ _ hl s ρ h) e fun v st t d ρ2 l2 lt h2 p e2 => ?_
    split at e2
    · rename_i hsh
      rw [hasV_tt hsh p]
      exact iha _ _ e2 t ρ2 h2
    · rename_i hsh
      rw [hasV_tt hsh p]
      exact ihb _ _ e2 t ρ2 h2
    · cases e2
  | for_ tg src b ihb =>
    intro st l e s ρ h
    refine outS_ok (fun l hl => ai_ok hI hcf _ _ _ _ hl s ρ h) e fun v st t d ρ2 l2 lt h2 p e2 => ?_
    split at e2
    · rename_i tt htt
      obtain ⟨ds, e1, g⟩ := itemsT_ok htt p.1
      rw [e1]
      exact forAI_ok ihb e2 h2 g
    · cases e2
  | while_ c b ihb => intro st l e s ρ h; cases e
  | drop e =>
    intro st l e s ρ h
    refine outS_ok (fun l hl => ai_ok hI hcf _ _ _ _ hl s ρ h) e fun v st t d ρ2 l2 lt h2 p e2 => ?_
    exact nx_ok e2 h2
  | brk => intro st l e s ρ h; cases e; exact ⟨_, List.mem_cons_self, s, Sg.le.rf, ρ, rfl, h⟩
  | cnt => intro st l e s ρ h; cases e; exact ⟨_, List.mem_cons_self, s, Sg.le.rf, ρ, rfl, h⟩
end
end HM

namespace HM
open PySem
/-! AI16: defs on shapes -/
structure Hint where
  spl : List Nat
  unr : Nat
  keep : Bool
abbrev Ct := Gs → List (Tm × Bool) → List Va → Option (List Rs)
def nameVs : List Va → St → List Va × St
  | [], st => ([], st)
  | v :: r, st => ((normV v st).1 :: (nameVs r (normV v st).2).1, (nameVs r (normV v st).2).2)
def applyCt (ct : Ct) (as : List Va) (st : St) : M Rs := match ct (nameVs as st).2.gs (nameVs as st).2.fs (nameVs as st).1 with
  | some rs => .ok (rs.map fun r => .ok r (nameVs as st).2)
  | none => .er [92]
def startA : Nat → Option Nat → List Va → Option (List As)
  | _, _, [] => some []
  | k, io, v :: r => (if io = some k then (match v.sh with
    | .lst t => some (As.par t)
    | _ => none) else some (.val v)).bind fun a => (startA (k + 1) io r).map (a :: ·)
def parA (io : Option Nat) (env : List As) : Option (Option Sh) := match io with
  | none => some none
  | some p => (match env[p]? with
    | some (.par t) => some (some t)
    | _ => none)
def outsOf (fd : Fd) (env : List As) : List So → M Rs
  | [] => .ok []
  | .nx s :: r => (match (if fd.own then none else parA fd.io s.env), outsOf fd env r with
    | some io, .ok l => .ok (.ok (.v ⟨.non, .kn⟩ io) { s with env := env } :: l)
    | none, _ => .er [93]
    | _, .er p => .er p)
  | .ret own v s :: r => (match (if own = fd.own then parA fd.io s.env else none), outsOf fd env r with
    | some io, .ok l => .ok (.ok (.v v io) { s with env := env } :: l)
    | none, _ => .er [94]
    | _, .er p => .er p)
  | .ex c a s :: r => (match parA fd.io s.env, outsOf fd env r with
    | some io, .ok l => .ok (.ok (.x c a io) { s with env := env } :: l)
    | none, _ => .er [95]
    | _, .er p => .er p)
  | _ :: _ => .er [96]
def encR : Rs → Option Va
  | .v x none => some ⟨.cons x.sh .nil, .cons x.tm .nil⟩
  | .v x (some t) => some ⟨.cons x.sh (.cons (.lst t) .nil), .cons x.tm (.cons .hole .nil)⟩
  | .x .. => none
def tmHd : Tm → Tm
  | .cons a _ => a
  | _ => .hole
def decR (v : Va) : Option Rs := match v.sh with
  | .cons a .nil => some (.v ⟨a, tmHd v.tm⟩ none)
  | .cons a (.cons (.lst t) .nil) => some (.v ⟨a, tmHd v.tm⟩ (some t))
  | _ => none
def encL : List (Al Rs) → List (Al Va)
  | [] => []
  | .ok r s :: l => (match encR r with
    | some v => .ok v s :: encL l
    | none => encL l)
  | .ex .. :: l => encL l
def restL : List (Al Rs) → List (Al Rs)
  | [] => []
  | .ok (.v ..) _ :: l => restL l
  | a :: l => a :: restL l
def squashR (st0 : St) (m : M Rs) : M Rs := match m with
  | .er p => .er p
  | .ok l => if okCount (encL l) ≤ 1 then .ok l else match squashL st0 (encL l) with
    | some (some q, _) => (match decR q.1 with
      | some r => .ok (.ok r q.2 :: restL l)
      | none => .er [97])
    | _ => .er [98]
def aiFn (cf : Cf) (h : Hint) (fd : Fd) (as : List Va) (st : St) : M Rs := if as.length = fd.pars then match startA 0 fd.io (nameVs as st).1 with
    | none => .er [50]
    | some env => (match aiS cf h.spl h.unr fd.body { (nameVs as st).2 with env := env ++ List.replicate (fd.size - fd.pars) .un } with
      | .er p => .er p
      | .ok l => if h.keep then outsOf fd st.env l else squashR st (outsOf fd st.env l))
  else .er [51]
/-- calls, k deep -/
def aiCall (T : Nat → Option Fd) (H : Nat → Hint) (cts : Nat → Option Ct) : Nat → Cf
  | 0, f, as, st => match cts f with
    | some ct => applyCt ct as st
    | none => .er [f, 52]
  | k + 1, f, as, st => match cts f with
    | some ct => (match applyCt ct as st with
      | .er p => .er ((200 + f) :: p)
      | m => m)
    | none => (match T f with
      | some fd => (match aiFn (aiCall T H cts k) (H f) fd as st with
        | .er p => .er ((200 + f) :: p)
        | m => m)
      | none => .er [f, 53])
section
variable {I : Itp} {s t : Sg}
/-- what a call is said to do holds -/
def CtOk (I : Itp) (Φ : Fns) (f : Nat) (ct : Ct) : Prop := ∀ gs fs as rs, ct gs fs as = some rs → ∀ s ds, Sat s.g gs → (∀ p ∈ fs, TmHas I s.w p.1 (.bool p.2)) → HasVs I s as ds → ∃ r ∈ rs, PR I s r (Φ f ds)
theorem nameVs_ok : ∀ {as : List Va} {st : St} {ds : List PyData} {s : Sg}, BOk I s st → HasVs I s as ds → ∃ t, s.le t ∧ BOk I t (nameVs as st).2 ∧ HasVs I t (nameVs as st).1 ds ∧ (nameVs as st).2.env = st.env
  | [], st, [], s, hb, h => ⟨s, Sg.le.rf, hb, trivial, rfl⟩
  | v :: r, st, d :: ds, s, hb, h => by
    obtain ⟨t, lt, b1, h1, e1⟩ := normV_ok hb h.1
    obtain ⟨u, lu, b2, h2, e2⟩ := nameVs_ok (as := r) b1 (h.2.mono lt)
    exact ⟨u, lt.tr lu, b2, ⟨h1.mono lu, h2⟩, e2.trans e1⟩
  | [], _, _ :: _, _, _, h => by cases h
  | _ :: _, _, [], _, _, h => by cases h
theorem PR.frR {r : Rs} {fr : FR} (h : PR I s r fr) (ρ : Env) : HM.frR fr ρ = .ok fr ρ := by
  cases fr with
  | bad => cases r <;> exact h.elim
  | _ => rfl
theorem applyCt_ok {Φ : Fns} {f : Nat} {ct : Ct} (hc : CtOk I Φ f ct) {as : List Va} {st : St} {l : List (Al Rs)} {ρ : Env} {ds : List PyData} (e : applyCt ct as st = .ok l) (h : StOk I s st ρ) (ha : HasVs I s as ds) : MOk I (PR I) s l (frR (Φ f ds) ρ) := by
  unfold applyCt at e
  split at e
  · rename_i rs hrs
    cases e
    obtain ⟨t, lt, b, h1, e1⟩ := nameVs_ok h.1 ha
    obtain ⟨r, hr, p⟩ := hc _ _ _ _ hrs t ds b.1 b.2.2 h1
    rw [PR.frR p]
    exact ⟨_, List.mem_map_of_mem hr, t, lt, _, ρ, rfl, ⟨b, by rw [e1]; exact h.2.mono lt⟩, p⟩
  · cases e
theorem startS_val {k : Nat} {io : Option Nat} {d : PyData} {r : List PyData} (q : ¬ io = some k) : startS k io (d :: r) = .val d :: startS (k + 1) io r := by
  show (match io, d with | some p, .list ds => if p = k then Slot.par ds else .val d | _, _ => .val d) :: _ = _
  cases io with
  | none => rfl
  | some p => cases d with
    | list xs => dsimp only; rw [if_neg (fun e => q (by rw [e]))]
    | _ => rfl
theorem startA_ok : ∀ {as : List Va} {k : Nat} {io : Option Nat} {env : List As} {ds : List PyData}, startA k io as = some env → HasVs I s as ds → EnvOk I s env (startS k io ds)
  | [], k, io, env, [], e, _ => by cases e; trivial
  | v :: r, k, io, env, d :: ds, e, h => by
    obtain ⟨a, ha, e⟩ := Option.bind_eq_some_iff.mp e
    obtain ⟨env', he, rfl⟩ := Option.map_eq_some_iff.mp e
    have tail := startA_ok he h.2
    split at ha
    · rename_i q
      split at ha
      · rename_i u hu
        cases ha
        have h1 := h.1.1
        rw [hu] at h1
        obtain ⟨xs, rfl, h1⟩ := h1
        subst q
        have : startS k (some k) (.list xs :: ds) = .par xs :: startS (k + 1) (some k) ds := by
          show (if k = k then Slot.par xs else .val (.list xs)) :: _ = _
          rw [if_pos rfl]
        rw [this]
        exact ⟨⟨xs, rfl, h1⟩, tail⟩
      · cases ha
    · rename_i q
      cases ha
      rw [startS_val q]
      exact ⟨⟨d, rfl, h.1⟩, tail⟩
  | [], _, _, _, _ :: _, _, h => by cases h
  | _ :: _, _, _, _, [], _, h => by cases h
theorem unRep : ∀ n : Nat, EnvOk I s (List.replicate n .un) (List.replicate n .un)
  | 0 => trivial
  | n + 1 => ⟨rfl, unRep n⟩
theorem EnvOk.app : ∀ {as bs : List As} {ρ σ : Env}, EnvOk I s as ρ → EnvOk I s bs σ → EnvOk I s (as ++ bs) (ρ ++ σ)
  | [], _, [], _, _, h => h
  | _ :: _, _, _ :: _, _, h, g => ⟨h.1, h.2.app g⟩
  | [], _, _ :: _, _, h, _ => by cases h
  | _ :: _, _, [], _, h, _ => by cases h
theorem parA_ok {io : Option Nat} {env : List As} {o : Option Sh} {ρ : Env} (e : parA io env = some o) (h : EnvOk I s env ρ) : ∃ ds, parOf io ρ = some ds ∧ HasIo s o ds := by
  unfold parA at e
  split at e
  · cases e; exact ⟨[], rfl, trivial⟩
  · rename_i p
    split at e
    · rename_i u hu
      cases e
      obtain ⟨x, x1, ⟨ds, rfl, x2⟩, x3⟩ := h.get hu
      exact ⟨ds, by show (match getS ρ p with | .par ds => some ds | _ => none) = _; rw [x3], x2⟩
    · cases e
/-- what a def's body comes to -/
noncomputable def frOf (fd : Fd) : O → FR
  | .nx ρ => if fd.own then .bad else .ofIo .none (parOf fd.io ρ)
  | .ret own d ρ => if own = fd.own then .ofIo d (parOf fd.io ρ) else .bad
  | .exc x ρ => .exIo x (parOf fd.io ρ)
  | _ => .bad
theorem outsOf_ok {fd : Fd} {env : List As} {ρ0 : Env} {o : O} : ∀ {l : List So} {l' : List (Al Rs)}, outsOf fd env l = .ok l' → EnvOk I s env ρ0 → MSOk I s l o → MOk I (PR I) s l' (frR (frOf fd o) ρ0)
  | [], _, _, _, ⟨_, h, _⟩ => by cases h
  | x :: l, l', e, he, ⟨y, hy, q⟩ => by
    have rest : ∀ {l2 : List (Al Rs)}, outsOf fd env l = .ok l2 → y ∈ l → MOk I (PR I) s l2 (frR (frOf fd o) ρ0) := fun h hy => outsOf_ok (l := l) h he ⟨y, hy, q⟩
    have more : ∀ {a : Al Rs} {l2 : List (Al Rs)}, MOk I (PR I) s l2 (frR (frOf fd o) ρ0) → MOk I (PR I) s (a :: l2) (frR (frOf fd o) ρ0) := fun ⟨z, hz, q⟩ => ⟨z, List.mem_cons_of_mem _ hz, q⟩
    cases x with
    | nx st =>
      unfold outsOf at e
      split at e
      · rename_i io l2 hio h2
        cases e
        rcases List.mem_cons.mp hy with rfl | hy
        · obtain ⟨t, lt, ρ, rfl, h⟩ := q
          split at hio
          · cases hio
          · rename_i ho
            obtain ⟨ds, d1, d2⟩ := parA_ok hio h.2
            have : frOf fd (.nx ρ) = .ok .none ds := by
              show (if fd.own then FR.bad else .ofIo .none (parOf fd.io ρ)) = _
              rw [if_neg ho, d1]; rfl
            rw [this]
            exact ⟨_, List.mem_cons_self, t, lt, _, ρ0, rfl, ⟨h.1, he.mono lt⟩, ⟨rfl, rfl⟩, d2⟩
        · exact more (rest h2 hy)
      · cases e
      · cases e
    | ret own v st =>
      unfold outsOf at e
      split at e
      · rename_i io l2 hio h2
        cases e
        rcases List.mem_cons.mp hy with rfl | hy
        · obtain ⟨t, lt, d, ρ, rfl, h, hv⟩ := q
          split at hio
          · rename_i ho
            obtain ⟨ds, d1, d2⟩ := parA_ok hio h.2
            have : frOf fd (.ret own d ρ) = .ok d ds := by
              show (if own = fd.own then FR.ofIo d (parOf fd.io ρ) else .bad) = _
              rw [if_pos ho, d1]; rfl
            rw [this]
            exact ⟨_, List.mem_cons_self, t, lt, _, ρ0, rfl, ⟨h.1, he.mono lt⟩, hv, d2⟩
          · cases hio
        · exact more (rest h2 hy)
      · cases e
      · cases e
    | ex c a st =>
      unfold outsOf at e
      split at e
      · rename_i io l2 hio h2
        cases e
        rcases List.mem_cons.mp hy with rfl | hy
        · obtain ⟨t, lt, d, ρ, rfl, hc, h, hv⟩ := q
          obtain ⟨ds, d1, d2⟩ := parA_ok hio h.2
          have : frOf fd (.exc d ρ) = .exc d ds := by
            show FR.exIo d (parOf fd.io ρ) = _
            rw [d1]; rfl
          rw [this]
          exact ⟨_, List.mem_cons_self, t, lt, _, ρ0, rfl, ⟨h.1, he.mono lt⟩, hc, hv, d2⟩
        · exact more (rest h2 hy)
      · cases e
      · cases e
    | brk st => cases e
    | cnt st => cases e
theorem encL_mem {r : Rs} {st : St} {v : Va} (hv : encR r = some v) : ∀ {l : List (Al Rs)}, Al.ok r st ∈ l → Al.ok v st ∈ encL l
  | [], h => by cases h
  | x :: l, h => by
    rcases List.mem_cons.mp h with rfl | h
    · unfold encL; rw [hv]; exact List.mem_cons_self
    · have ih := encL_mem hv (l := l) h
      cases x with
      | ok r' s' => unfold encL; split; · exact List.mem_cons_of_mem _ ih
                    exact ih
      | ex => exact ih
theorem restL_mem {a : Al Rs} (ha : ∀ x io st, a ≠ .ok (.v x io) st) : ∀ {l : List (Al Rs)}, a ∈ l → a ∈ restL l
  | [], h => by cases h
  | x :: l, h => by
    rcases List.mem_cons.mp h with rfl | h
    · cases a with
      | ok r st => cases r with
        | v x io => exact absurd rfl (ha x io st)
        | x c a io => exact List.mem_cons_self
      | ex c a st => exact List.mem_cons_self
    · have ih := restL_mem ha (l := l) h
      cases x with
      | ok r st => cases r with
        | v x io => exact ih
        | x c a io => exact List.mem_cons_of_mem _ ih
      | ex c a st => exact List.mem_cons_of_mem _ ih
theorem encL_ok : ∀ {l : List (Al Rs)} {a : Al Va}, a ∈ encL l → ∃ v st, a = .ok v st
  | [], a, h => by cases h
  | .ok r s :: l, a, h => by
    unfold encL at h
    split at h
    · rcases List.mem_cons.mp h with rfl | h
      · exact ⟨_, _, rfl⟩
      · exact encL_ok h
    · exact encL_ok h
  | .ex .. :: l, a, h => encL_ok (l := l) h
def encD (io : Option Sh) (d : PyData) (ds : List PyData) : PyData := match io with
  | none => .tuple [d]
  | some _ => .tuple [d, .list ds]
theorem encR_ok {x : Va} {io : Option Sh} {d : PyData} {ds : List PyData} (h : HasV I s x d) (g : HasIo s io ds) : ∃ v, encR (.v x io) = some v ∧ HasV I s v (encD io d ds) := by
  cases io with
  | none => exact ⟨_, rfl, ⟨d, [], rfl, h.1, rfl⟩, ⟨d, [], rfl, h.2, rfl⟩⟩
  | some t => exact ⟨_, rfl, ⟨d, [.list ds], rfl, h.1, .list ds, [], rfl, ⟨ds, rfl, g⟩, rfl⟩, ⟨d, [.list ds], rfl, h.2, .list ds, [], rfl, trivial, rfl⟩⟩
theorem tmHd_ok {w : List PyData} {tm : Tm} {d : PyData} {r : List PyData} (h : TmHas I w tm (.tuple (d :: r))) : TmHas I w (tmHd tm) d := by
  cases tm with
  | cons a b => obtain ⟨x, y, e, h, _⟩ := h; cases e; exact h
  | _ => trivial
theorem decR_ok {v : Va} {io : Option Sh} {d : PyData} {ds : List PyData} {r : Rs} (e : decR v = some r) (h : HasV I s v (encD io d ds)) : PR I s r (.ok d ds) := by
  unfold decR at e
  split at e
  · rename_i a hsh
    cases e
    have h1 := h.1
    rw [hsh] at h1
    obtain ⟨x, y, e0, h1, h2⟩ := h1
    cases io with
    | none => cases e0; exact ⟨⟨h1, tmHd_ok h.2⟩, trivial⟩
    | some t => cases e0; cases h2
  · rename_i a u hsh
    cases e
    have h1 := h.1
    rw [hsh] at h1
    obtain ⟨x, y, e0, h1, x2, y2, e2, ⟨es, e3, h2⟩, h3⟩ := h1
    cases io with
    | none => cases e0; cases e2
    | some t => cases e0; cases e2; cases e3; exact ⟨⟨h1, tmHd_ok h.2⟩, h2⟩
  · cases e
theorem squashR_ok {st0 : St} (h0 : BOk I s st0) {m : M Rs} {fr : FR} {ρ : Env} {l : List (Al Rs)} (e : squashR st0 m = .ok l) (h : ∀ l, m = .ok l → MOk I (PR I) s l (frR fr ρ)) : MOk I (PR I) s l (frR fr ρ) := by
  unfold squashR at e
  split at e
  · cases e
  · rename_i l0
    split at e
    · cases e; exact h _ rfl
    · split at e
      · rename_i q y hx
        split at e
        · rename_i r hr
          cases e
          obtain ⟨al, hal, k⟩ := h _ rfl
          have notV : (∀ x io st, al ≠ .ok (.v x io) st) → MOk I (PR I) s (.ok r q.2 :: restL l0) (frR fr ρ) := fun hn => ⟨al, List.mem_cons_of_mem _ (restL_mem hn hal), k⟩
          cases al with
          | ex c a st => exact notV nofun
          | ok rr st => cases rr with
            | x c a io => exact notV nofun
            | v x io =>
              obtain ⟨t, lt, fr', ρ', e1, h1, p⟩ := k
              cases fr' with
              | bad => exact p.elim
              | exc => exact p.elim
              | ok d ds =>
                have efr : fr = .ok d ds ∧ ρ' = ρ := by
                  cases fr with
                  | bad => cases e1
                  | exc => cases e1
                  | ok => cases e1; exact ⟨rfl, rfl⟩
                obtain ⟨rfl, rfl⟩ := efr
                obtain ⟨v, v1, v2⟩ := encR_ok p.1 p.2
                have mem := encL_mem v1 hal
                have mk : MOk I (PV I) s (encL l0) (.ok (encD io d ds) ρ') := ⟨_, mem, t, lt, _, ρ', rfl, h1, v2⟩
                rcases squashL_ok h0 hx mk with ⟨q', hq, d', ρ2, e2, g1, g2⟩ | ⟨b, hb, k⟩
                · cases hq
                  cases e2
                  exact ⟨_, List.mem_cons_self, s, Sg.le.rf, _, ρ', rfl, g1, decR_ok hr g2⟩
                · exfalso
                  have : ∀ {l : List (Al Va)} {p : Option (Va × St) × List (Al Va)}, (∀ a ∈ l, ∃ v st, a = Al.ok v st) → squashL st0 l = some p → p.2 = [] := fun {l} => by
                    induction l with
                    | nil => intro p _ e; cases e; rfl
                    | cons a l ih =>
                      intro p ha e
                      obtain ⟨v, st, rfl⟩ := ha a List.mem_cons_self
                      unfold squashL at e
                      split at e
                      · cases e
                      · rename_i hx
                        cases e
                        have := ih (fun a h => ha a (List.mem_cons_of_mem _ h)) hx
                        exact this
                      · rename_i hx
                        obtain ⟨z, hz, rfl⟩ := Option.map_eq_some_iff.mp e
                        have := ih (fun a h => ha a (List.mem_cons_of_mem _ h)) hx
                        exact this
                  have := this (fun a h => encL_ok h) hx
                  rw [this] at hb
                  cases hb
        · cases e
      · cases e
theorem aiFn_ok {Φ : Fns} {cf : Cf} (hI : LenOk I) (hcf : CallOk I Φ cf) {h : Hint} {fd : Fd} {as : List Va} {st : St} {l : List (Al Rs)} {ρ : Env} {ds : List PyData} (e : aiFn cf h fd as st = .ok l) (hst : StOk I s st ρ) (ha : HasVs I s as ds) : MOk I (PR I) s l (frR (runFd Φ fd ds) ρ) := by
  unfold aiFn at e
  split at e
  · rename_i hl
    split at e
    · cases e
    · rename_i env henv
      have hlen : ds.length = fd.pars := by rw [← ha.len]; exact hl
      obtain ⟨u, lu, hb0, ha', ee⟩ := nameVs_ok hst.1 ha
      have he := startA_ok henv ha'
      have hrun : runFd Φ fd ds = frOf fd (evS Φ fd.body (startS 0 fd.io ds ++ List.replicate (fd.size - fd.pars) .un)) := by
        unfold runFd
        rw [if_pos hlen]
        cases evS Φ fd.body (startS 0 fd.io ds ++ List.replicate (fd.size - fd.pars) .un) <;> rfl
      rw [hrun]
      split at e
      · cases e
      · rename_i l1 h1
        have hb := (aiS_ok hI hcf _ _ _ h1 u _ ⟨hb0, he.app (unRep _)⟩).mono lu
        split at e
        · exact outsOf_ok e hst.2 hb
        · exact squashR_ok hst.1 e fun l hl => outsOf_ok hl hst.2 hb
  · cases e
/-- calls k deep, over what is said of calls n0 deep and more -/
theorem aiCall_ok {T : Nat → Option Fd} {H : Nat → Hint} {cts : Nat → Option Ct} {n0 : Nat} (hI : LenOk I) (hc : ∀ n, n0 ≤ n → ∀ f ct, cts f = some ct → CtOk I (Phi T n) f ct) : ∀ k, CallOk I (Phi T (n0 + k)) (aiCall T H cts k)
  | 0 => fun f as st l e s ρ ds h ha => by
    unfold aiCall at e
    split at e
    · rename_i ct hct
      exact applyCt_ok (hc n0 (Nat.le_refl _) f ct hct) e h ha
    · cases e
  | k + 1 => fun f as st l e s ρ ds h ha => by
    unfold aiCall at e
    split at e
    · rename_i ct hct
      split at e
      · cases e
      · exact applyCt_ok (hc (n0 + (k + 1)) (by omega) f ct hct) e h ha
    · split at e
      · rename_i fd hfd
        split at e
        · cases e
        · have := aiFn_ok hI (aiCall_ok hI hc k) e h ha
          have eq : Phi T (n0 + (k + 1)) f ds = runFd (Phi T (n0 + k)) fd ds := by
            show (match T f with | some fd => runFd (Phi T (n0 + k)) fd ds | none => .bad) = _
            rw [hfd]
          rw [eq]
          exact this
      · cases e
end
end HM

namespace HM
open PySem
/-! CT: what is said of defs (without proofs) -/
def iSh (a b : Int) : Sh := .int (some (.c a)) (some (.c b))
def drawSh : Sh := .row (iSh 0 2147483628) (.c 0) (.c 2000)
def ct4 : Ct := fun gs _ as => match as with
  | [⟨.int _ _, _⟩, ⟨.int l h, _⟩] => (match range4 gs l h with
    | some p => if maxAbs p < 2 ^ 64 then some [.v ⟨iSh 0 2147483628, .hole⟩ none] else none
    | none => none)
  | _ => none
def ct5 : Ct := fun gs _ as => match as with
  | [⟨.lst t, _⟩] => if leSh gs 100 t (.row (.int none none) (.c 0) (.c 63)) then some [.v ⟨.lst drawSh, .hole⟩ none] else none
  | _ => none
def ct6 : Ct := fun gs _ as => match as with
  | [⟨.lst t, _⟩] => if leSh gs 100 t drawSh then some [.v ⟨iSh 0 2147483628, .hole⟩ (some drawSh)] else none
  | _ => none
def absB (p : Int × Int) : Int := max p.1.natAbs p.2.natAbs
def lowSh (gs : Gs) (t : Sh) (q : Int × Int) : Option Sh := match rowG gs t with
  | some (.int l h, lo, hi) => (match range4 gs l h with
    | some p => (match lo, hi with
      | .c a, .c b => if a = b then appSh gs (repS (iSh (-(absB p)) (absB p)) a.toNat) (.cons (iSh 1 (absB q)) .nil) else appSh gs (.row (iSh (-(absB p)) (absB p)) lo hi) (.cons (iSh 1 (absB q)) .nil)
      | _, _ => appSh gs (.row (iSh (-(absB p)) (absB p)) lo hi) (.cons (iSh 1 (absB q)) .nil))
    | none => none)
  | some (.bot, _, _) => some (.cons (iSh 1 (absB q)) .nil)
  | _ => none
def ct8 : Ct := fun gs _ as => match as with
  | [⟨t, _⟩, ⟨.int l h, _⟩] => (match range4 gs l h with
    | some q => if (1 ≤ q.1 ∨ q.2 ≤ -1) ∧ absB q < 2 ^ 8000 then (match t with
        | .lst t => if lenLe gs t 900 then (lowSh gs t q).map fun s => [.v ⟨s, .hole⟩ none] else none
        | t => if isSeq t && lenLe gs t 900 then (lowSh gs t q).map fun s => [.v ⟨s, .hole⟩ none] else none) else none
    | none => none)
  | _ => none
/-- a truth told by a symbol of its own -/
def symB1 (f : Nat) : Ct := fun _ _ as => match as with
  | [x] => some [.v ⟨.bol, .ap f (.cons x.tm .nil)⟩ none]
  | _ => none
def symB2 (f : Nat) : Ct := fun _ _ as => match as with
  | [x, y] => some [.v ⟨.bol, .ap f (.cons x.tm (.cons y.tm .nil))⟩ none]
  | _ => none
def errOf : M Rs → List Nat
  | .er p => p
  | .ok _ => []
def isTT : Al Rs → Bool
  | .ok (.v ⟨.tt true, _⟩ _) _ => true
  | _ => false
def allTT : M Rs → Bool
  | .ok l => l.all isTT
  | .er _ => false
def st0 : St := ⟨[], 0, [], []⟩
def scriptV : Va := ⟨.lst (.row (.int none none) (.c 0) (.c 63)), .hole⟩
end HM

namespace HM
open PySem
/-- common_of -/
def fd1 : Fd := ⟨2, 2, none, false, (.seq (.asg 0 (.bi .abs (.cons (.var 0) .nil))) (.seq (.asg 1 (.bi .abs (.cons (.var 1) .nil))) (.seq (.while_ (.cmp .gt (.var 1) (.int 0)) (.seq (.two 0 1 (.var 1) (.bin .mod (.var 0) (.var 1))) .skip)) (.seq (.ret (.var 0)) .skip))))⟩
/-- common_in -/
def fd2 : Fd := ⟨1, 3, none, false, (.seq (.asg 1 (.int 0)) (.seq (.for_ (.one 2) (.var 0) (.seq (.asg 1 (.call 1 (.cons (.var 1) (.cons (.var 2) .nil)))) .skip)) (.seq (.ret (.var 1)) .skip)))⟩
/-- _law_mixed -/
def fd4 : Fd := ⟨2, 3, none, false, (.seq (.asg 2 (.bin .mod (.bin .add (.bin .add (.bin .mul (.bin .mod (.var 0) (.int 2147483647)) (.int 48271)) (.bin .mul (.bin .mul (.int 7919) (.var 1)) (.var 1))) (.int 104729)) (.int 2147483647))) (.seq (.ret (.bin .mod (.bin .mul (.var 2) (.var 2)) (.int 2147483629))) .skip))⟩
/-- _law_draws -/
def fd5 : Fd := ⟨1, 5, none, true, (.seq (.asgM 1 (.lst .nil)) (.seq (.for_ (.one 2) (.rng (.bi .min2 (.cons (.bi .len (.cons (.var 0) .nil)) (.cons (.int 63) .nil)))) (.seq (.asg 3 (.bi .abs (.cons (.ix (.var 0) (.var 2)) .nil))) (.seq (.ite (.cmp .lt (.var 3) (.bin .pow (.int 10) (.int 18))) (.seq (.for_ (.one 4) (.rng (.int 12)) (.seq (.app 1 (.call 4 (.cons (.call 4 (.cons (.var 3) (.cons (.bin .add (.bin .mul (.int 3) (.var 4)) (.int 1)) .nil))) (.cons (.bin .add (.bin .add (.var 4) (.var 2)) (.int 2)) .nil)))) .skip)) .skip) .skip) (.seq (.while_ (.and (.cmp .ge (.var 3) (.bin .pow (.int 10) (.int 18))) (.cmp .lt (.lenM 1) (.int 900))) (.seq (.app 1 (.bin .mod (.var 3) (.int 2147483629))) (.seq (.asg 3 (.bin .fdiv (.var 3) (.int 2147483629))) .skip))) (.seq (.ite (.cmp .ge (.var 3) (.int 2147483629)) (.seq (.app 1 (.bin .mod (.var 3) (.int 2147483629))) .skip) .skip) .skip))))) (.seq (.retM 1) .skip)))⟩
/-- _law_next -/
def fd6 : Fd := ⟨1, 1, some 0, false, (.seq (.ite (.nilM 0) (.seq (.ret (.int 0)) .skip) .skip) (.seq (.ret (.popM 0 (.int 0))) .skip))⟩
/-- _law_gcd -/
def fd7 : Fd := ⟨2, 2, none, false, (.seq (.while_ (.cmp .ne (.var 1) (.int 0)) (.seq (.two 0 1 (.var 1) (.bin .mod (.var 0) (.var 1))) .skip)) (.seq (.ret (.bi .abs (.cons (.var 0) .nil))) .skip))⟩
/-- _law_lowest -/
def fd8 : Fd := ⟨2, 4, none, false, (.seq (.asg 2 (.var 1)) (.seq (.for_ (.one 3) (.var 0) (.seq (.asg 2 (.call 7 (.cons (.var 2) (.cons (.var 3) .nil)))) .skip)) (.seq (.ite (.cmp .lt (.var 1) (.int 0)) (.seq (.asg 2 (.bin .sub (.int 0) (.bi .abs (.cons (.var 2) .nil)))) .skip) .skip) (.seq (.ret (.bin .add (.bi .tuple (.cons (.comp (.bin .fdiv (.var 3) (.var 2)) (.one 3) (.var 0) (.bl true) [3]) .nil)) (.tup (.cons (.bin .fdiv (.var 1) (.var 2)) .nil)))) .skip))))⟩
/-- _law_far -/
def fd14 : Fd := ⟨1, 3, none, false, (.seq (.asg 1 (.ix (.lst (.cons (.int 0) (.cons (.int 1) (.cons (.int 9) (.cons (.int 1000) (.cons (.bin .pow (.int 10) (.int 6)) (.cons (.bin .pow (.int 10) (.int 20)) (.cons (.bin .mul (.bin .pow (.int 10) (.int 60)) (.bin .pow (.int 10) (.int 37))) .nil)))))))) (.bin .mod (.var 0) (.int 7)))) (.seq (.asg 2 (.bin .add (.bin .fdiv (.bin .mul (.bin .add (.bin .mul (.bin .fdiv (.var 0) (.int 7)) (.int 7919)) (.int 1)) (.var 1)) (.int 1000)) (.bin .mod (.bin .fdiv (.var 0) (.int 7)) (.int 10)))) (.seq (.ret (.bin .mul (.var 2) (.ix (.lst (.cons (.int 1) (.cons (.neg (.int 1)) .nil))) (.bin .mod (.bin .fdiv (.var 0) (.int 70)) (.int 2))))) .skip)))⟩
/-- _law_neighbours -/
def fd16 : Fd := ⟨0, 2, none, false, (.seq (.asgs [0, 1] (.tup (.cons (.int 1) (.cons (.int 1) .nil)))) (.seq (.while_ (.cmp .lt (.var 1) (.bin .pow (.bin .pow (.int 10) (.int 58)) (.int 5))) (.seq (.two 0 1 (.var 1) (.bin .add (.var 0) (.var 1))) .skip)) (.seq (.ret (.tup (.cons (.var 0) (.cons (.var 1) .nil)))) .skip)))⟩
/-- spot_at -/
def fd30 : Fd := ⟨2, 4, none, false, (.seq (.asg 2 (.call 1 (.cons (.call 2 (.cons (.var 0) .nil)) (.cons (.var 1) .nil)))) (.seq (.ite (.cmp .lt (.var 1) (.int 0)) (.seq (.asg 2 (.bin .sub (.int 0) (.var 2))) .skip) .skip) (.seq (.ret (.bin .add (.bi .tuple (.cons (.comp (.bin .fdiv (.var 3) (.var 2)) (.one 3) (.var 0) (.bl true) [3]) .nil)) (.tup (.cons (.bin .fdiv (.var 1) (.var 2)) .nil)))) .skip)))⟩
/-- _law_same -/
def fd31 : Fd := ⟨2, 4, none, false, (.seq (.ite (.or (.cmp .ne (.isi (.var 0) .tuple) (.isi (.var 1) .tuple)) (.cmp .ne (.isi (.var 0) .list) (.isi (.var 1) .list))) (.seq (.ret (.bl false)) .skip) .skip) (.seq (.ite (.or (.isi (.var 0) .tuple) (.isi (.var 0) .list)) (.seq (.ite (.cmp .ne (.bi .len (.cons (.var 0) .nil)) (.bi .len (.cons (.var 1) .nil))) (.seq (.ret (.bl false)) .skip) .skip) (.seq (.ret (.bi .all (.cons (.comp (.call 31 (.cons (.var 2) (.cons (.var 3) .nil))) (.many [2, 3]) (.zip (.var 0) (.var 1)) (.bl true) [2, 3]) .nil))) .skip)) .skip) (.seq (.ret (.and (.cmp .eq (.isi (.var 0) .bool) (.isi (.var 1) .bool)) (.cmp .eq (.var 0) (.var 1)))) .skip)))⟩
theorem cmp_ne_int (i j : Int) : cmpD .ne (.int i) (.int j) = some (!decide (i = j)) := rfl
theorem cmp_eq_int (i j : Int) : cmpD .eq (.int i) (.int j) = some (decide (i = j)) := rfl
theorem cmp_eq_bool (i j : Bool) : cmpD .eq (.bool i) (.bool j) = some (i == j) := rfl
theorem cmp_ne_bool (i j : Bool) : cmpD .ne (.bool i) (.bool j) = some (!(i == j)) := rfl
theorem cmp_lt_int (i j : Int) : cmpD .lt (.int i) (.int j) = some (decide (i < j)) := rfl
theorem cmp_gt_int (i j : Int) : cmpD .gt (.int i) (.int j) = some (decide (j < i)) := rfl
theorem cmp_le_int (i j : Int) : cmpD .le (.int i) (.int j) = some (decide (i ≤ j)) := rfl
theorem cmp_ge_int (i j : Int) : cmpD .ge (.int i) (.int j) = some (decide (j ≤ i)) := rfl
theorem bin_mod0 {i j : Int} (h : j ≠ 0) : bin .mod (.int i) (.int j) = some (.int (i.fmod j)) := if_pos h
theorem fmod_lt {a b : Int} (h : b ≠ 0) : (a.fmod b).natAbs < b.natAbs := by
  rcases Int.lt_or_gt_of_ne h with h | h
  · have e := Int.neg_fmod_neg a b
    have h1 := Int.fmod_lt_of_pos (-a) (show 0 < -b by omega)
    have h2 := Int.fmod_nonneg_of_pos (-a) (show 0 < -b by omega)
    omega
  · have h1 := Int.fmod_lt_of_pos a h
    have h2 := Int.fmod_nonneg_of_pos a h
    omega
theorem gcd_fmod (a b : Int) : Int.gcd b (a.fmod b) = Int.gcd a b := by
  rw [Int.fmod_def, Int.mul_comm, Int.gcd_sub_mul_right_right, Int.gcd_comm]
theorem run7 (Φ : Fns) (a b : Int) : runFd Φ fd7 [.int a, .int b] = .ok (.int (Int.gcd a b)) [] := by
  have w : ∃ g : Int, evS Φ (.while_ (.cmp .ne (.var 1) (.int 0)) (.seq (.two 0 1 (.var 1) (.bin .mod (.var 0) (.var 1))) .skip)) [.val (.int a), .val (.int b)] = .nx [.val (.int g), .val (.int 0)] ∧ g.natAbs = Int.gcd a b := by
    rw [eS_while]
    refine whileD_inv (P := fun o => ∃ g : Int, o = .nx [.val (.int g), .val (.int 0)] ∧ g.natAbs = Int.gcd a b) (I := fun m ρ => ∃ x y : Int, ρ = [.val (.int x), .val (.int y)] ∧ y.natAbs = m ∧ Int.gcd x y = Int.gcd a b) ?_ b.natAbs _ ⟨a, b, rfl, rfl, rfl⟩
    rintro m ρ ⟨x, y, rfl, rfl, e⟩
    by_cases h : y = 0
    · subst h
      exact .inl ⟨_, by simp [runFd, eS_skip, eS_seq, eS_asg, eS_asgM, eS_asgs, eS_two, eS_app, eS_setM, eS_aug, eS_ret, eS_retM, eS_ite, eS_drop, eS_brk, eS_cnt, thn_nx, thn_ret, eE_var, eE_non, eE_bl, eE_int, eE_str, eE_gint, eE_nil, eE_cons, eE_bin, eE_neg, eE_cmp, eE_chain, eE_not, eE_and, eE_or, eE_ite, eE_tup, eE_lst, eE_ix, eE_sl, eE_rev, eE_call, eE_callio, eE_bi, eE_isi, eE_rng, eE_rng2, eE_enum, eE_zip, eE_lrng, eE_trng, eE_edic, eE_lenM, eE_ixM, eE_nilM, eE_popM, startS, rdVar, getS_0, getS_s, rb_ok, ro_ok, of_some, oof_some, putS, List.getElem?_cons_zero, List.getElem?_cons_succ, bin_add, bin_sub, parOf, FR.ofIo, mutS, remut, cmp_ne_int], x, rfl, by rw [← e]; simp⟩
    · refine .inr ⟨[.val (.int x), .val (.int y)], by simp [runFd, eS_skip, eS_seq, eS_asg, eS_asgM, eS_asgs, eS_two, eS_app, eS_setM, eS_aug, eS_ret, eS_retM, eS_ite, eS_drop, eS_brk, eS_cnt, thn_nx, thn_ret, eE_var, eE_non, eE_bl, eE_int, eE_str, eE_gint, eE_nil, eE_cons, eE_bin, eE_neg, eE_cmp, eE_chain, eE_not, eE_and, eE_or, eE_ite, eE_tup, eE_lst, eE_ix, eE_sl, eE_rev, eE_call, eE_callio, eE_bi, eE_isi, eE_rng, eE_rng2, eE_enum, eE_zip, eE_lrng, eE_trng, eE_edic, eE_lenM, eE_ixM, eE_nilM, eE_popM, startS, rdVar, getS_0, getS_s, rb_ok, ro_ok, of_some, oof_some, putS, List.getElem?_cons_zero, List.getElem?_cons_succ, bin_add, bin_sub, parOf, FR.ofIo, mutS, remut, cmp_ne_int, h], .inl ⟨[.val (.int y), .val (.int (x.fmod y))], _, .inl ?_, fmod_lt h, y, _, rfl, rfl, by rw [gcd_fmod, e]⟩⟩
      simp (disch := assumption) [runFd, eS_skip, eS_seq, eS_asg, eS_asgM, eS_asgs, eS_two, eS_app, eS_setM, eS_aug, eS_ret, eS_retM, eS_ite, eS_drop, eS_brk, eS_cnt, thn_nx, thn_ret, eE_var, eE_non, eE_bl, eE_int, eE_str, eE_gint, eE_nil, eE_cons, eE_bin, eE_neg, eE_cmp, eE_chain, eE_not, eE_and, eE_or, eE_ite, eE_tup, eE_lst, eE_ix, eE_sl, eE_rev, eE_call, eE_callio, eE_bi, eE_isi, eE_rng, eE_rng2, eE_enum, eE_zip, eE_lrng, eE_trng, eE_edic, eE_lenM, eE_ixM, eE_nilM, eE_popM, startS, rdVar, getS_0, getS_s, rb_ok, ro_ok, of_some, oof_some, putS, List.getElem?_cons_zero, List.getElem?_cons_succ, bin_add, bin_sub, parOf, FR.ofIo, mutS, remut, bin_mod0]
  obtain ⟨g, e, hg⟩ := w
  have k : (if g < 0 then -g else g) = (Int.gcd a b : Int) := by split <;> omega
  simp [runFd, eS_skip, eS_seq, eS_asg, eS_asgM, eS_asgs, eS_two, eS_app, eS_setM, eS_aug, eS_ret, eS_retM, eS_ite, eS_drop, eS_brk, eS_cnt, thn_nx, thn_ret, eE_var, eE_non, eE_bl, eE_int, eE_str, eE_gint, eE_nil, eE_cons, eE_bin, eE_neg, eE_cmp, eE_chain, eE_not, eE_and, eE_or, eE_ite, eE_tup, eE_lst, eE_ix, eE_sl, eE_rev, eE_call, eE_callio, eE_bi, eE_isi, eE_rng, eE_rng2, eE_enum, eE_zip, eE_lrng, eE_trng, eE_edic, eE_lenM, eE_ixM, eE_nilM, eE_popM, startS, rdVar, getS_0, getS_s, rb_ok, ro_ok, of_some, oof_some, putS, List.getElem?_cons_zero, List.getElem?_cons_succ, bin_add, bin_sub, parOf, FR.ofIo, mutS, remut, fd7, e, biD, tupOf, k]

theorem run1 (Φ : Fns) (a b : Int) : runFd Φ fd1 [.int a, .int b] = .ok (.int (Int.gcd a b)) [] := by
  have w : ∀ x y : Int, 0 ≤ x → 0 ≤ y → evS Φ (.while_ (.cmp .gt (.var 1) (.int 0)) (.seq (.two 0 1 (.var 1) (.bin .mod (.var 0) (.var 1))) .skip)) [.val (.int x), .val (.int y)] = .nx [.val (.int (Int.gcd x y)), .val (.int 0)] := fun a b ha hb => by
    rw [eS_while]
    refine whileD_inv (P := fun o => o = .nx [.val (.int (Int.gcd a b)), .val (.int 0)]) (I := fun m ρ => ∃ x y : Int, ρ = [.val (.int x), .val (.int y)] ∧ 0 ≤ x ∧ 0 ≤ y ∧ y.natAbs = m ∧ Int.gcd x y = Int.gcd a b) ?_ b.natAbs _ ⟨a, b, rfl, ha, hb, rfl, rfl⟩
    rintro m ρ ⟨x, y, rfl, hx, hy, rfl, e⟩
    by_cases h : y = 0
    · subst h
      refine .inl ⟨[.val (.int x), .val (.int 0)], by simp [runFd, eS_skip, eS_seq, eS_asg, eS_asgM, eS_asgs, eS_two, eS_app, eS_setM, eS_aug, eS_ret, eS_retM, eS_ite, eS_drop, eS_brk, eS_cnt, thn_nx, thn_ret, eE_var, eE_non, eE_bl, eE_int, eE_str, eE_gint, eE_nil, eE_cons, eE_bin, eE_neg, eE_cmp, eE_chain, eE_not, eE_and, eE_or, eE_ite, eE_tup, eE_lst, eE_ix, eE_sl, eE_rev, eE_call, eE_callio, eE_bi, eE_isi, eE_rng, eE_rng2, eE_enum, eE_zip, eE_lrng, eE_trng, eE_edic, eE_lenM, eE_ixM, eE_nilM, eE_popM, startS, rdVar, getS_0, getS_s, rb_ok, ro_ok, of_some, oof_some, putS, List.getElem?_cons_zero, List.getElem?_cons_succ, bin_add, bin_sub, parOf, FR.ofIo, mutS, remut, cmp_gt_int], ?_⟩
      have : (Int.gcd a b : Int) = x := by rw [← e]; simp; omega
      rw [this]
    · have h2 : 0 < y := by omega
      refine .inr ⟨[.val (.int x), .val (.int y)], by simp [runFd, eS_skip, eS_seq, eS_asg, eS_asgM, eS_asgs, eS_two, eS_app, eS_setM, eS_aug, eS_ret, eS_retM, eS_ite, eS_drop, eS_brk, eS_cnt, thn_nx, thn_ret, eE_var, eE_non, eE_bl, eE_int, eE_str, eE_gint, eE_nil, eE_cons, eE_bin, eE_neg, eE_cmp, eE_chain, eE_not, eE_and, eE_or, eE_ite, eE_tup, eE_lst, eE_ix, eE_sl, eE_rev, eE_call, eE_callio, eE_bi, eE_isi, eE_rng, eE_rng2, eE_enum, eE_zip, eE_lrng, eE_trng, eE_edic, eE_lenM, eE_ixM, eE_nilM, eE_popM, startS, rdVar, getS_0, getS_s, rb_ok, ro_ok, of_some, oof_some, putS, List.getElem?_cons_zero, List.getElem?_cons_succ, bin_add, bin_sub, parOf, FR.ofIo, mutS, remut, cmp_gt_int, h2], .inl ⟨[.val (.int y), .val (.int (x.fmod y))], _, .inl ?_, fmod_lt h, y, _, rfl, hy, Int.fmod_nonneg_of_pos x h2, rfl, by rw [gcd_fmod, e]⟩⟩
      simp (disch := assumption) [runFd, eS_skip, eS_seq, eS_asg, eS_asgM, eS_asgs, eS_two, eS_app, eS_setM, eS_aug, eS_ret, eS_retM, eS_ite, eS_drop, eS_brk, eS_cnt, thn_nx, thn_ret, eE_var, eE_non, eE_bl, eE_int, eE_str, eE_gint, eE_nil, eE_cons, eE_bin, eE_neg, eE_cmp, eE_chain, eE_not, eE_and, eE_or, eE_ite, eE_tup, eE_lst, eE_ix, eE_sl, eE_rev, eE_call, eE_callio, eE_bi, eE_isi, eE_rng, eE_rng2, eE_enum, eE_zip, eE_lrng, eE_trng, eE_edic, eE_lenM, eE_ixM, eE_nilM, eE_popM, startS, rdVar, getS_0, getS_s, rb_ok, ro_ok, of_some, oof_some, putS, List.getElem?_cons_zero, List.getElem?_cons_succ, bin_add, bin_sub, parOf, FR.ofIo, mutS, remut, bin_mod0]
  have e := w (if a < 0 then -a else a) (if b < 0 then -b else b) (by split <;> omega) (by split <;> omega)
  have g : Int.gcd (if a < 0 then -a else a) (if b < 0 then -b else b) = Int.gcd a b := by
    split <;> split <;> simp [Int.gcd]
  rw [g] at e
  simp [runFd, eS_skip, eS_seq, eS_asg, eS_asgM, eS_asgs, eS_two, eS_app, eS_setM, eS_aug, eS_ret, eS_retM, eS_ite, eS_drop, eS_brk, eS_cnt, thn_nx, thn_ret, eE_var, eE_non, eE_bl, eE_int, eE_str, eE_gint, eE_nil, eE_cons, eE_bin, eE_neg, eE_cmp, eE_chain, eE_not, eE_and, eE_or, eE_ite, eE_tup, eE_lst, eE_ix, eE_sl, eE_rev, eE_call, eE_callio, eE_bi, eE_isi, eE_rng, eE_rng2, eE_enum, eE_zip, eE_lrng, eE_trng, eE_edic, eE_lenM, eE_ixM, eE_nilM, eE_popM, startS, rdVar, getS_0, getS_s, rb_ok, ro_ok, of_some, oof_some, putS, List.getElem?_cons_zero, List.getElem?_cons_succ, bin_add, bin_sub, parOf, FR.ofIo, mutS, remut, fd1, biD, tupOf, e]
def gI (a b : Int) : Int := Int.gcd a b
/-- no list that changes -/
def Lo (s : Slot) : Prop := s = .un ∨ ∃ d, s = .val d
theorem Lo.val (d : PyData) : Lo (.val d) := .inr ⟨d, rfl⟩
theorem Lo.un : Lo .un := .inl rfl
theorem loop2 (Φ : Fns) (h : ∀ a b : Int, Φ 1 [.int a, .int b] = .ok (.int (Int.gcd a b)) []) (d : PyData) : ∀ (ns : List Int) (g : Int) (s : Slot), Lo s → ∃ s', Lo s' ∧ forGo (forF Φ (.one 2) (.seq (.asg 1 (.call 1 (.cons (.var 1) (.cons (.var 2) .nil)))) .skip)) (ns.map .int) [.val d, .val (.int g), s] = .nx [.val d, .val (.int (ns.foldl gI g)), s']
  | [], g, s, hs => ⟨s, hs, rfl⟩
  | n :: r, g, s, hs => by
    obtain ⟨s', h1, e⟩ := loop2 Φ h d r (gI g n) (.val (.int n)) (.val _)
    refine ⟨s', h1, ?_⟩
    have st : forF Φ (.one 2) (.seq (.asg 1 (.call 1 (.cons (.var 1) (.cons (.var 2) .nil)))) .skip) (.int n) [.val d, .val (.int g), s] = .nx [.val d, .val (.int (gI g n)), .val (.int n)] := by
      rcases hs with rfl | ⟨x, rfl⟩ <;> simp [forF, asgT, runFd, eS_skip, eS_seq, eS_asg, eS_asgM, eS_asgs, eS_two, eS_app, eS_setM, eS_aug, eS_ret, eS_retM, eS_ite, eS_drop, eS_brk, eS_cnt, thn_nx, thn_ret, eE_var, eE_non, eE_bl, eE_int, eE_str, eE_gint, eE_nil, eE_cons, eE_bin, eE_neg, eE_cmp, eE_chain, eE_not, eE_and, eE_or, eE_ite, eE_tup, eE_lst, eE_ix, eE_sl, eE_rev, eE_call, eE_callio, eE_bi, eE_isi, eE_rng, eE_rng2, eE_enum, eE_zip, eE_lrng, eE_trng, eE_edic, eE_lenM, eE_ixM, eE_nilM, eE_popM, startS, rdVar, getS_0, getS_s, rb_ok, ro_ok, of_some, oof_some, putS, List.getElem?_cons_zero, List.getElem?_cons_succ, bin_add, bin_sub, parOf, FR.ofIo, mutS, remut, tupOf, h, gI]
    rw [List.map_cons, forGo, st]
    exact e
theorem run2 (Φ : Fns) (h : ∀ a b : Int, Φ 1 [.int a, .int b] = .ok (.int (Int.gcd a b)) []) (ns : List Int) {d : PyData} (hd : itemsD d = some (ns.map .int)) (hl : ∀ ds, d ≠ .list ds ∨ True) : runFd Φ fd2 [d] = .ok (.int (ns.foldl gI 0)) [] := by
  obtain ⟨s', _, e⟩ := loop2 Φ h d ns 0 .un .un
  have c : startS 0 fd2.io [d] = [.val d] := by cases d <;> rfl
  rw [runFd_of rfl, c]
  simp [runFd, eS_skip, eS_seq, eS_asg, eS_asgM, eS_asgs, eS_two, eS_app, eS_setM, eS_aug, eS_ret, eS_retM, eS_ite, eS_drop, eS_brk, eS_cnt, thn_nx, thn_ret, eE_var, eE_non, eE_bl, eE_int, eE_str, eE_gint, eE_nil, eE_cons, eE_bin, eE_neg, eE_cmp, eE_chain, eE_not, eE_and, eE_or, eE_ite, eE_tup, eE_lst, eE_ix, eE_sl, eE_rev, eE_call, eE_callio, eE_bi, eE_isi, eE_rng, eE_rng2, eE_enum, eE_zip, eE_lrng, eE_trng, eE_edic, eE_lenM, eE_ixM, eE_nilM, eE_popM, startS, rdVar, getS_0, getS_s, rb_ok, ro_ok, of_some, oof_some, putS, List.getElem?_cons_zero, List.getElem?_cons_succ, bin_add, bin_sub, parOf, FR.ofIo, mutS, remut, fd2, eS_for, hd, e]
theorem gI_fold : ∀ (ns : List Int) (a : Int), (ns.foldl gI a).natAbs = Int.gcd (ns.foldl gI 0) a
  | [], a => by simp
  | n :: r, a => by
    have h1 := gI_fold r (gI a n)
    have h2 := gI_fold r (gI 0 n)
    show (r.foldl gI (gI a n)).natAbs = Int.gcd (r.foldl gI (gI 0 n)) a
    rw [h1]
    have : Int.gcd (r.foldl gI (gI 0 n)) a = Nat.gcd (r.foldl gI (gI 0 n)).natAbs a.natAbs := rfl
    rw [this, h2]
    simp only [gI, Int.gcd, Int.natAbs_natCast, Int.natAbs_zero, Nat.gcd_zero_left]
    rw [Nat.gcd_assoc, Nat.gcd_comm n.natAbs]
/-- the common divisor, below 0 as the bottom is -/
def sgn (ns : List Int) (b : Int) : Int := if b < 0 then 0 - (Int.gcd (ns.foldl gI 0) b : Int) else Int.gcd (ns.foldl gI 0) b
def lowT (ns : List Int) (b : Int) : List Int := ns.map (fun n => n.fdiv (sgn ns b)) ++ [b.fdiv (sgn ns b)]
theorem sgn_ok {ns : List Int} {b : Int} (hb : b ≠ 0) : sgn ns b ≠ 0 ∧ (sgn ns b).natAbs ≤ b.natAbs := by
  have h0 : Int.gcd (ns.foldl gI 0) b ≠ 0 := fun z => hb (Int.eq_zero_of_gcd_eq_zero_right z)
  have h1 : Int.gcd (ns.foldl gI 0) b ≤ b.natAbs := Nat.le_of_dvd (by omega) (Nat.gcd_dvd_right _ _)
  unfold sgn
  split <;> constructor <;> omega
theorem divOk_of {i j : Int} (h : j ≠ 0) (g : Sm 9000 j) : bin .fdiv (.int i) (.int j) = some (.int (i.fdiv j)) := if_pos ⟨h, .inl g⟩
/-- [number // g for number in numbers] -/
theorem comp_div (Φ : Fns) (a : Nat) (g : Int) (hg : g ≠ 0) (hs : Sm 9000 g) (pre : List Slot) (hp : getS pre a = .val (.int g)) (hl : pre.length = 3) (ha : a < 3) : ∀ (ns : List Int) (s : Slot), ∃ s', compGo (turnC [3] (.one 3) (evE Φ (.bl true)) (evE Φ (.bin .fdiv (.var 3) (.var a)))) (ns.map .int) (pre ++ [s]) = .ok ((ns.map fun n => n.fdiv g).map .int) (pre ++ [s'])
  | [], s => ⟨s, rfl⟩
  | n :: r, s => by
    obtain ⟨s', e⟩ := comp_div Φ a g hg hs pre hp hl ha r (.val (.int n))
    refine ⟨s', ?_⟩
    match pre, hl with
    | [p0, p1, p2], _ =>
      have st : turnC [3] (.one 3) (evE Φ (.bl true)) (evE Φ (.bin .fdiv (.var 3) (.var a))) (.int n) ([p0, p1, p2] ++ [s]) = .ok (some (.int (n.fdiv g))) ([p0, p1, p2] ++ [.val (.int n)]) := by
        have ha' : a = 0 ∨ a = 1 ∨ a = 2 := by omega
        rcases ha' with rfl | rfl | rfl <;> simp [getS_0, getS_s] at hp <;> subst hp <;> simp (disch := assumption) [turnC, wipeS, asgT, runFd, eS_skip, eS_seq, eS_asg, eS_asgM, eS_asgs, eS_two, eS_app, eS_setM, eS_aug, eS_ret, eS_retM, eS_ite, eS_drop, eS_brk, eS_cnt, thn_nx, thn_ret, eE_var, eE_non, eE_bl, eE_int, eE_str, eE_gint, eE_nil, eE_cons, eE_bin, eE_neg, eE_cmp, eE_chain, eE_not, eE_and, eE_or, eE_ite, eE_tup, eE_lst, eE_ix, eE_sl, eE_rev, eE_call, eE_callio, eE_bi, eE_isi, eE_rng, eE_rng2, eE_enum, eE_zip, eE_lrng, eE_trng, eE_edic, eE_lenM, eE_ixM, eE_nilM, eE_popM, startS, rdVar, getS_0, getS_s, rb_ok, ro_ok, of_some, oof_some, putS, List.getElem?_cons_zero, List.getElem?_cons_succ, bin_add, bin_sub, parOf, FR.ofIo, mutS, remut, divOk_of]
      rw [List.map_cons, compGo, st]
      dsimp only
      rw [e]
      rfl
theorem run30 (Φ : Fns) (h1 : ∀ a b : Int, Φ 1 [.int a, .int b] = .ok (.int (Int.gcd a b)) []) (ns : List Int) (h2 : Φ 2 [.tuple (ns.map .int)] = .ok (.int (ns.foldl gI 0)) []) (b : Int) (hb : b ≠ 0) (hs : Sm 9000 b) (hl : ns.length < 1000) :
    runFd Φ fd30 [.tuple (ns.map .int), .int b] = .ok (.tuple ((lowT ns b).map .int)) [] := by
  obtain ⟨g0, g1⟩ := sgn_ok (ns := ns) hb
  have gs : Sm 9000 (sgn ns b) := Nat.lt_of_le_of_lt g1 hs
  obtain ⟨s', e⟩ := comp_div Φ 2 (sgn ns b) g0 gs [.val (.tuple (ns.map .int)), .val (.int b), .val (.int (sgn ns b))] rfl rfl (by decide) ns .un
  have hc : evE Φ (.comp (.bin .fdiv (.var 3) (.var 2)) (.one 3) (.var 0) (.bl true) [3]) [.val (.tuple (ns.map .int)), .val (.int b), .val (.int (sgn ns b)), .un] = .ok (.list ((ns.map fun n => n.fdiv (sgn ns b)).map .int)) [.val (.tuple (ns.map .int)), .val (.int b), .val (.int (sgn ns b)), .un] := by
    rw [eE_comp]
    simp only [eE_var, rdVar, getS_0, rb_ok, itemsD]
    have : ownOk [3] [.val (.tuple (ns.map .int)), .val (.int b), .val (.int (sgn ns b)), .un] = true := rfl
    rw [this]
    dsimp only
    rw [show [Slot.val (.tuple (ns.map .int)), .val (.int b), .val (.int (sgn ns b)), .un] = [Slot.val (.tuple (ns.map .int)), .val (.int b), .val (.int (sgn ns b))] ++ [.un] from rfl, e]
    rfl
  have hcat : bin .add (.tuple ((ns.map fun n => n.fdiv (sgn ns b)).map .int)) (.tuple [.int (b.fdiv (sgn ns b))]) = some (.tuple ((ns.map fun n => n.fdiv (sgn ns b)).map .int ++ [.int (b.fdiv (sgn ns b))])) := bin_cat (by simp [SL]; omega)
  by_cases hb0 : b < 0
  · have hsg : 0 - (Int.gcd (ns.foldl gI 0) b : Int) = sgn ns b := by unfold sgn; rw [if_pos hb0]
    simp (disch := assumption) [runFd, eS_skip, eS_seq, eS_asg, eS_asgM, eS_asgs, eS_two, eS_app, eS_setM, eS_aug, eS_ret, eS_retM, eS_ite, eS_drop, eS_brk, eS_cnt, thn_nx, thn_ret, eE_var, eE_non, eE_bl, eE_int, eE_str, eE_gint, eE_nil, eE_cons, eE_bin, eE_neg, eE_cmp, eE_chain, eE_not, eE_and, eE_or, eE_ite, eE_tup, eE_lst, eE_ix, eE_sl, eE_rev, eE_call, eE_callio, eE_bi, eE_isi, eE_rng, eE_rng2, eE_enum, eE_zip, eE_lrng, eE_trng, eE_edic, eE_lenM, eE_ixM, eE_nilM, eE_popM, startS, rdVar, getS_0, getS_s, rb_ok, ro_ok, of_some, oof_some, putS, List.getElem?_cons_zero, List.getElem?_cons_succ, bin_add, bin_sub, parOf, FR.ofIo, mutS, remut, -List.map_map, fd30, h1, h2, tupOf, cmp_lt_int, hb0, hsg, hc, biD, divOk_of, hcat, lowT]
  · have hsg : (Int.gcd (ns.foldl gI 0) b : Int) = sgn ns b := by unfold sgn; rw [if_neg hb0]
    simp (disch := assumption) [runFd, eS_skip, eS_seq, eS_asg, eS_asgM, eS_asgs, eS_two, eS_app, eS_setM, eS_aug, eS_ret, eS_retM, eS_ite, eS_drop, eS_brk, eS_cnt, thn_nx, thn_ret, eE_var, eE_non, eE_bl, eE_int, eE_str, eE_gint, eE_nil, eE_cons, eE_bin, eE_neg, eE_cmp, eE_chain, eE_not, eE_and, eE_or, eE_ite, eE_tup, eE_lst, eE_ix, eE_sl, eE_rev, eE_call, eE_callio, eE_bi, eE_isi, eE_rng, eE_rng2, eE_enum, eE_zip, eE_lrng, eE_trng, eE_edic, eE_lenM, eE_ixM, eE_nilM, eE_popM, startS, rdVar, getS_0, getS_s, rb_ok, ro_ok, of_some, oof_some, putS, List.getElem?_cons_zero, List.getElem?_cons_succ, bin_add, bin_sub, parOf, FR.ofIo, mutS, remut, -List.map_map, fd30, h1, h2, tupOf, cmp_lt_int, hb0, hsg, hc, biD, divOk_of, hcat, lowT]
theorem run4 (Φ : Fns) (c k : Int) (h : k.natAbs < 2 ^ 64) : runFd Φ fd4 [.int c, .int k] = .ok (.int (mixedI c k)) [] := by
  have hb : ((c % 2147483647 * 48271 + 7919 * k * k + 104729) % 2147483647).natAbs < 2 ^ 64 := by omega
  simp (disch := omega) [runFd, eS_skip, eS_seq, eS_asg, eS_asgM, eS_asgs, eS_two, eS_app, eS_setM, eS_aug, eS_ret, eS_retM, eS_ite, eS_drop, eS_brk, eS_cnt, thn_nx, thn_ret, eE_var, eE_non, eE_bl, eE_int, eE_str, eE_gint, eE_nil, eE_cons, eE_bin, eE_neg, eE_cmp, eE_chain, eE_not, eE_and, eE_or, eE_ite, eE_tup, eE_lst, eE_ix, eE_sl, eE_rev, eE_call, eE_callio, eE_bi, eE_isi, eE_rng, eE_rng2, eE_enum, eE_zip, eE_lrng, eE_trng, eE_edic, eE_lenM, eE_ixM, eE_nilM, eE_popM, startS, rdVar, getS_0, getS_s, rb_ok, ro_ok, of_some, oof_some, putS, List.getElem?_cons_zero, List.getElem?_cons_succ, bin_add, bin_sub, parOf, FR.ofIo, mutS, remut, fd4, bin_mod, bin_mul_l, bin_mul_r, mixedI]
theorem run6 (Φ : Fns) (ds : List Int) : runFd Φ fd6 [.list (ds.map .int)] = .ok (.int (nx ds)) ((tl ds).map .int) := by
  cases ds <;> simp [runFd, eS_skip, eS_seq, eS_asg, eS_asgM, eS_asgs, eS_two, eS_app, eS_setM, eS_aug, eS_ret, eS_retM, eS_ite, eS_drop, eS_brk, eS_cnt, thn_nx, thn_ret, eE_var, eE_non, eE_bl, eE_int, eE_str, eE_gint, eE_nil, eE_cons, eE_bin, eE_neg, eE_cmp, eE_chain, eE_not, eE_and, eE_or, eE_ite, eE_tup, eE_lst, eE_ix, eE_sl, eE_rev, eE_call, eE_callio, eE_bi, eE_isi, eE_rng, eE_rng2, eE_enum, eE_zip, eE_lrng, eE_trng, eE_edic, eE_lenM, eE_ixM, eE_nilM, eE_popM, startS, rdVar, getS_0, getS_s, rb_ok, ro_ok, of_some, oof_some, putS, List.getElem?_cons_zero, List.getElem?_cons_succ, bin_add, bin_sub, parOf, FR.ofIo, mutS, remut, fd6, nx, tl]
theorem rangeD_get {lo : Int} {n i : Nat} {d : PyData} (h : (rangeD lo n)[i]? = some d) : d = .int (lo + i) ∧ i < n := by
  unfold rangeD at h
  rw [List.getElem?_map] at h
  by_cases c : i < n
  · rw [List.getElem?_range c] at h
    cases h
    exact ⟨rfl, c⟩
  · rw [List.getElem?_eq_none (by rw [List.length_range]; omega)] at h
    cases h
theorem rangeD_len (lo : Int) (n : Nat) : (rangeD lo n).length = n := by simp [rangeD]
theorem rngD_ok {lo hi : Int} (h : rngOk lo hi) : rngD (.int lo) (.int hi) = some (.list (rangeD lo (hi - lo).toNat)) := if_pos h
theorem ixAt_nat {α : Type} (xs : List α) (i : Nat) : ixAt xs (i : Int) = xs[i]? := by
  unfold ixAt
  rw [if_pos (by omega), Int.toNat_natCast]
theorem putS_lo {ρ : Env} {i : Nat} {s t : Slot} (h : ρ[i]? = some s) (l : Lo s) : putS ρ i t = some (ρ.set i t) := by
  unfold putS
  rw [h]
  rcases l with rfl | ⟨d, rfl⟩ <;> rfl
theorem draws_for (Φ : Fns) (h4 : ∀ c k : Int, k.natAbs < 2 ^ 64 → Φ 4 [.int c, .int k] = .ok (.int (mixedI c k)) []) (L : PyData) (i : Nat) (hi : i < 63) (c : Int) (ds : List Int) (hD : Draws ds) (hl : ds.length ≤ 900 + 13 * i) (s4 : Slot) (l4 : Lo s4) :
    ∃ ds' s4', evS Φ (.for_ (.one 4) (.rng (.int 12)) (.seq (.app 1 (.call 4 (.cons (.call 4 (.cons (.var 3) (.cons (.bin .add (.bin .mul (.int 3) (.var 4)) (.int 1)) .nil))) (.cons (.bin .add (.bin .add (.var 4) (.var 2)) (.int 2)) .nil)))) .skip)) [.val L, .mu (ds.map .int), .val (.int i), .val (.int c), s4]
      = .nx [.val L, .mu (ds'.map .int), .val (.int i), .val (.int c), s4'] ∧ Draws ds' ∧ ds'.length ≤ 912 + 13 * i ∧ Lo s4' := by
  rw [eS_for, eE_rng, eE_int, rb_ok, rngD_ok (by decide), of_some, ro_ok]
  show ∃ ds' s4', forGo (forF Φ _ _) (rangeD 0 12) _ = _ ∧ _
  obtain ⟨ρ', e, ds', s', rfl, h1, h2, h3⟩ := forGo_inv (f := forF Φ (.one 4) (.seq (.app 1 (.call 4 (.cons (.call 4 (.cons (.var 3) (.cons (.bin .add (.bin .mul (.int 3) (.var 4)) (.int 1)) .nil))) (.cons (.bin .add (.bin .add (.var 4) (.var 2)) (.int 2)) .nil)))) .skip)) (ds := rangeD 0 12)
    (fun j ρ => ∃ (es : List Int) (s : Slot), ρ = [.val L, .mu (es.map .int), .val (.int i), .val (.int c), s] ∧ Draws es ∧ es.length = ds.length + j ∧ Lo s) (ρ := [.val L, .mu (ds.map .int), .val (.int i), .val (.int c), s4]) ⟨ds, s4, rfl, hD, rfl, l4⟩ fun j d ρ hd ⟨es, s, e, hE, le, ls⟩ => by
      obtain ⟨rfl, hj⟩ := rangeD_get hd
      subst e
      have hlt : es.length < SL := by
        show es.length < 16777216
        omega
      refine ⟨[.val L, .mu ((es ++ [mixedI (mixedI c (3 * j + 1)) (j + i + 2)]).map .int), .val (.int i), .val (.int c), .val (.int j)], .inl ?_, _, _, rfl, ?_, by rw [List.length_append, le, List.length_singleton]; omega, Lo.val _⟩
      · rw [forF_of (ρ' := [.val L, .mu (es.map .int), .val (.int i), .val (.int c), .val (.int j)]) (by rw [Int.zero_add]; exact putS_lo rfl ls)]
        simp (disch := omega) [runFd, eS_skip, eS_seq, eS_asg, eS_asgM, eS_asgs, eS_two, eS_app, eS_setM, eS_aug, eS_ret, eS_retM, eS_ite, eS_drop, eS_brk, eS_cnt, thn_nx, thn_ret, eE_var, eE_non, eE_bl, eE_int, eE_str, eE_gint, eE_nil, eE_cons, eE_bin, eE_neg, eE_cmp, eE_chain, eE_not, eE_and, eE_or, eE_ite, eE_tup, eE_lst, eE_ix, eE_sl, eE_rev, eE_call, eE_callio, eE_bi, eE_isi, eE_rng, eE_rng2, eE_enum, eE_zip, eE_lrng, eE_trng, eE_edic, eE_lenM, eE_ixM, eE_nilM, eE_popM, startS, rdVar, getS_0, getS_s, rb_ok, ro_ok, of_some, oof_some, putS, List.getElem?_cons_zero, List.getElem?_cons_succ, bin_add, bin_sub, parOf, FR.ofIo, mutS, remut, tupOf, h4, bin_mul_l, hlt]
      · intro x hx
        rcases List.mem_append.mp hx with hx | hx
        · exact hE x hx
        · rw [List.mem_singleton.mp hx]; exact mixedI_b _ _
  refine ⟨ds', s', e, h1, ?_, h3⟩
  rw [rangeD_len] at h2
  omega
theorem draws_while (Φ : Fns) (L : PyData) (i : Nat) (hi : i < 63) (c : Int) (hc : 0 ≤ c) (ds : List Int) (hD : Draws ds) (B : Nat) (hB : 900 ≤ B) (hl : ds.length ≤ B) (s4 : Slot) :
    ∃ (ds' : List Int) (c' : Int), evS Φ (.while_ (.and (.cmp .ge (.var 3) (.bin .pow (.int 10) (.int 18))) (.cmp .lt (.lenM 1) (.int 900))) (.seq (.app 1 (.bin .mod (.var 3) (.int 2147483629))) (.seq (.asg 3 (.bin .fdiv (.var 3) (.int 2147483629))) .skip))) [.val L, .mu (ds.map .int), .val (.int i), .val (.int c), s4]
      = .nx [.val L, .mu (ds'.map .int), .val (.int i), .val (.int c'), s4] ∧ Draws ds' ∧ ds'.length ≤ B ∧ 0 ≤ c' := by
  rw [eS_while]
  have p18 : powOk 10 18 := by decide
  refine whileD_inv (P := fun o => ∃ (ds' : List Int) (c' : Int), o = .nx [.val L, .mu (ds'.map .int), .val (.int i), .val (.int c'), s4] ∧ Draws ds' ∧ ds'.length ≤ B ∧ 0 ≤ c') (I := fun m ρ => ∃ (es : List Int) (x : Int), ρ = [.val L, .mu (es.map .int), .val (.int i), .val (.int x), s4] ∧ Draws es ∧ es.length ≤ B ∧ 0 ≤ x ∧ m = 1000 - es.length) ?_ (1000 - ds.length) _ ⟨ds, c, rfl, hD, hl, hc, rfl⟩
  rintro m ρ ⟨es, x, rfl, hE, le, hx, rfl⟩
  by_cases c1 : x < 1000000000000000000
  · refine .inl ⟨[.val L, .mu (es.map .int), .val (.int i), .val (.int x), s4], ?_, es, x, rfl, hE, le, hx⟩
    have : ¬ (1000000000000000000 ≤ x) := by omega
    simp [runFd, eS_skip, eS_seq, eS_asg, eS_asgM, eS_asgs, eS_two, eS_app, eS_setM, eS_aug, eS_ret, eS_retM, eS_ite, eS_drop, eS_brk, eS_cnt, thn_nx, thn_ret, eE_var, eE_non, eE_bl, eE_int, eE_str, eE_gint, eE_nil, eE_cons, eE_bin, eE_neg, eE_cmp, eE_chain, eE_not, eE_and, eE_or, eE_ite, eE_tup, eE_lst, eE_ix, eE_sl, eE_rev, eE_call, eE_callio, eE_bi, eE_isi, eE_rng, eE_rng2, eE_enum, eE_zip, eE_lrng, eE_trng, eE_edic, eE_lenM, eE_ixM, eE_nilM, eE_popM, startS, rdVar, getS_0, getS_s, rb_ok, ro_ok, of_some, oof_some, putS, List.getElem?_cons_zero, List.getElem?_cons_succ, bin_add, bin_sub, parOf, FR.ofIo, mutS, remut, bin_pow p18, cmp_ge_int, this]
  · have c1' : 1000000000000000000 ≤ x := by omega
    by_cases c2 : es.length < 900
    · have c2' : (es.length : Int) < 900 := by omega
      have hlt : es.length < SL := by show es.length < 16777216; omega
      refine .inr ⟨[.val L, .mu (es.map .int), .val (.int i), .val (.int x), s4], by simp [runFd, eS_skip, eS_seq, eS_asg, eS_asgM, eS_asgs, eS_two, eS_app, eS_setM, eS_aug, eS_ret, eS_retM, eS_ite, eS_drop, eS_brk, eS_cnt, thn_nx, thn_ret, eE_var, eE_non, eE_bl, eE_int, eE_str, eE_gint, eE_nil, eE_cons, eE_bin, eE_neg, eE_cmp, eE_chain, eE_not, eE_and, eE_or, eE_ite, eE_tup, eE_lst, eE_ix, eE_sl, eE_rev, eE_call, eE_callio, eE_bi, eE_isi, eE_rng, eE_rng2, eE_enum, eE_zip, eE_lrng, eE_trng, eE_edic, eE_lenM, eE_ixM, eE_nilM, eE_popM, startS, rdVar, getS_0, getS_s, rb_ok, ro_ok, of_some, oof_some, putS, List.getElem?_cons_zero, List.getElem?_cons_succ, bin_add, bin_sub, parOf, FR.ofIo, mutS, remut, bin_pow p18, cmp_ge_int, cmp_lt_int, c1', c2'], .inl ⟨[.val L, .mu ((es ++ [x % 2147483629]).map .int), .val (.int i), .val (.int (x / 2147483629)), s4], 1000 - (es.length + 1), .inl ?_, by omega, _, _, rfl, ?_, by rw [List.length_append]; show es.length + 1 ≤ B; omega, by omega, by rw [List.length_append, List.length_singleton]⟩⟩
      · simp (disch := omega) [runFd, eS_skip, eS_seq, eS_asg, eS_asgM, eS_asgs, eS_two, eS_app, eS_setM, eS_aug, eS_ret, eS_retM, eS_ite, eS_drop, eS_brk, eS_cnt, thn_nx, thn_ret, eE_var, eE_non, eE_bl, eE_int, eE_str, eE_gint, eE_nil, eE_cons, eE_bin, eE_neg, eE_cmp, eE_chain, eE_not, eE_and, eE_or, eE_ite, eE_tup, eE_lst, eE_ix, eE_sl, eE_rev, eE_call, eE_callio, eE_bi, eE_isi, eE_rng, eE_rng2, eE_enum, eE_zip, eE_lrng, eE_trng, eE_edic, eE_lenM, eE_ixM, eE_nilM, eE_popM, startS, rdVar, getS_0, getS_s, rb_ok, ro_ok, of_some, oof_some, putS, List.getElem?_cons_zero, List.getElem?_cons_succ, bin_add, bin_sub, parOf, FR.ofIo, mutS, remut, bin_mod, bin_div, hlt]
      · intro y hy
        rcases List.mem_append.mp hy with hy | hy
        · exact hE y hy
        · rw [List.mem_singleton.mp hy]; omega
    · have c2' : ¬ ((es.length : Int) < 900) := by omega
      exact .inl ⟨[.val L, .mu (es.map .int), .val (.int i), .val (.int x), s4], by simp [runFd, eS_skip, eS_seq, eS_asg, eS_asgM, eS_asgs, eS_two, eS_app, eS_setM, eS_aug, eS_ret, eS_retM, eS_ite, eS_drop, eS_brk, eS_cnt, thn_nx, thn_ret, eE_var, eE_non, eE_bl, eE_int, eE_str, eE_gint, eE_nil, eE_cons, eE_bin, eE_neg, eE_cmp, eE_chain, eE_not, eE_and, eE_or, eE_ite, eE_tup, eE_lst, eE_ix, eE_sl, eE_rev, eE_call, eE_callio, eE_bi, eE_isi, eE_rng, eE_rng2, eE_enum, eE_zip, eE_lrng, eE_trng, eE_edic, eE_lenM, eE_ixM, eE_nilM, eE_popM, startS, rdVar, getS_0, getS_s, rb_ok, ro_ok, of_some, oof_some, putS, List.getElem?_cons_zero, List.getElem?_cons_succ, bin_add, bin_sub, parOf, FR.ofIo, mutS, remut, bin_pow p18, cmp_ge_int, cmp_lt_int, c1', c2'], es, x, rfl, hE, le, hx⟩
theorem rngOk_nat {n : Nat} (h : n ≤ 1000000) : rngOk 0 (n : Int) := by
  unfold rngOk SL
  omega
theorem rngD_nat {n : Nat} (h : n ≤ 1000000) : rngD (.int 0) (.int (n : Int)) = some (.list (rangeD 0 n)) := by
  have := rngOk_nat h
  show (if rngOk 0 (n : Int) then some (PyData.list (rangeD 0 ((n : Int) - 0).toNat)) else none) = _
  rw [if_pos this, Int.sub_zero, Int.toNat_natCast]
theorem min63 (n : Nat) (hn : n ≤ 63) : (if (63 : Int) < (n : Int) then (63 : Int) else (n : Int)) = (n : Int) := if_neg (by omega)
theorem draws_src (Φ : Fns) (ns : List Int) (hn : ns.length ≤ 63) (r : Env) : evE Φ (.rng (.bi .min2 (.cons (.bi .len (.cons (.var 0) .nil)) (.cons (.int 63) .nil)))) (.val (.list (ns.map .int)) :: r) = .ok (.list (rangeD 0 ns.length)) (.val (.list (ns.map .int)) :: r) := by
  have e1 : evE Φ (.bi .len (.cons (.var 0) .nil)) (.val (.list (ns.map .int)) :: r) = .ok (.int ns.length) (.val (.list (ns.map .int)) :: r) := by
    rw [eE_bi, eE_cons, eE_var, rdVar, getS_0]
    show R.of (some (PyData.int ((ns.map PyData.int).length : Nat))) _ = _
    rw [List.length_map]
    rfl
  have e2 : biD .min2 [.int (ns.length : Int), .int 63] = some (.int (ns.length : Int)) := by
    show some (PyData.int (if (63 : Int) < (ns.length : Int) then 63 else (ns.length : Int))) = _
    rw [min63 _ hn]
  rw [eE_rng, eE_bi, eE_cons, e1, rb_ok, eE_cons, eE_int, rb_ok, eE_nil, rb_ok]
  show (R.of (biD .min2 [.int (ns.length : Int), .int 63]) _).bind _ = _
  rw [e2, of_some, rb_ok, rngD_nat (by omega)]
  rfl
theorem draws_ite (Φ : Fns) (h4 : ∀ c k : Int, k.natAbs < 2 ^ 64 → Φ 4 [.int c, .int k] = .ok (.int (mixedI c k)) []) (L : PyData) (i : Nat) (hi : i < 63) (c : Int) (ds : List Int) (hD : Draws ds) (hl : ds.length ≤ 900 + 13 * i) (s4 : Slot) (l4 : Lo s4) :
    ∃ (ds1 : List Int) (s4' : Slot), evS Φ (.ite (.cmp .lt (.var 3) (.bin .pow (.int 10) (.int 18))) (.seq (.for_ (.one 4) (.rng (.int 12)) (.seq (.app 1 (.call 4 (.cons (.call 4 (.cons (.var 3) (.cons (.bin .add (.bin .mul (.int 3) (.var 4)) (.int 1)) .nil))) (.cons (.bin .add (.bin .add (.var 4) (.var 2)) (.int 2)) .nil)))) .skip)) .skip) .skip) [.val L, .mu (ds.map .int), .val (.int i), .val (.int c), s4] = .nx [.val L, .mu (ds1.map .int), .val (.int i), .val (.int c), s4'] ∧ Draws ds1 ∧ ds1.length ≤ 912 + 13 * i ∧ Lo s4' := by
  have p18 : powOk 10 18 := by decide
  by_cases c1 : c < 1000000000000000000
  · obtain ⟨ds1, s4', e, h1, h2, h3⟩ := draws_for Φ h4 L i hi c ds hD hl s4 l4
    exact ⟨ds1, s4', by simp [runFd, eS_skip, eS_seq, eS_asg, eS_asgM, eS_asgs, eS_two, eS_app, eS_setM, eS_aug, eS_ret, eS_retM, eS_ite, eS_drop, eS_brk, eS_cnt, thn_nx, thn_ret, eE_var, eE_non, eE_bl, eE_int, eE_str, eE_gint, eE_nil, eE_cons, eE_bin, eE_neg, eE_cmp, eE_chain, eE_not, eE_and, eE_or, eE_ite, eE_tup, eE_lst, eE_ix, eE_sl, eE_rev, eE_call, eE_callio, eE_bi, eE_isi, eE_rng, eE_rng2, eE_enum, eE_zip, eE_lrng, eE_trng, eE_edic, eE_lenM, eE_ixM, eE_nilM, eE_popM, startS, rdVar, getS_0, getS_s, rb_ok, ro_ok, of_some, oof_some, putS, List.getElem?_cons_zero, List.getElem?_cons_succ, bin_add, bin_sub, parOf, FR.ofIo, mutS, remut, bin_pow p18, cmp_lt_int, c1, e], h1, h2, h3⟩
  · exact ⟨ds, s4, by simp [runFd, eS_skip, eS_seq, eS_asg, eS_asgM, eS_asgs, eS_two, eS_app, eS_setM, eS_aug, eS_ret, eS_retM, eS_ite, eS_drop, eS_brk, eS_cnt, thn_nx, thn_ret, eE_var, eE_non, eE_bl, eE_int, eE_str, eE_gint, eE_nil, eE_cons, eE_bin, eE_neg, eE_cmp, eE_chain, eE_not, eE_and, eE_or, eE_ite, eE_tup, eE_lst, eE_ix, eE_sl, eE_rev, eE_call, eE_callio, eE_bi, eE_isi, eE_rng, eE_rng2, eE_enum, eE_zip, eE_lrng, eE_trng, eE_edic, eE_lenM, eE_ixM, eE_nilM, eE_popM, startS, rdVar, getS_0, getS_s, rb_ok, ro_ok, of_some, oof_some, putS, List.getElem?_cons_zero, List.getElem?_cons_succ, bin_add, bin_sub, parOf, FR.ofIo, mutS, remut, bin_pow p18, cmp_lt_int, c1], hD, by omega, l4⟩
theorem draws_last (Φ : Fns) (L : PyData) (i : Nat) (c : Int) (ds : List Int) (hD : Draws ds) (hl : ds.length < 100000) (s4 : Slot) :
    ∃ (ds1 : List Int), evS Φ (.seq (.ite (.cmp .ge (.var 3) (.int 2147483629)) (.seq (.app 1 (.bin .mod (.var 3) (.int 2147483629))) .skip) .skip) .skip) [.val L, .mu (ds.map .int), .val (.int i), .val (.int c), s4] = .nx [.val L, .mu (ds1.map .int), .val (.int i), .val (.int c), s4] ∧ Draws ds1 ∧ ds1.length ≤ ds.length + 1 := by
  have hlt : ds.length < SL := by unfold SL; omega
  by_cases c3 : 2147483629 ≤ c
  · refine ⟨ds ++ [c % 2147483629], ?_, ?_, by rw [List.length_append, List.length_singleton]; exact Nat.le_refl _⟩
    · simp (disch := omega) [runFd, eS_skip, eS_seq, eS_asg, eS_asgM, eS_asgs, eS_two, eS_app, eS_setM, eS_aug, eS_ret, eS_retM, eS_ite, eS_drop, eS_brk, eS_cnt, thn_nx, thn_ret, eE_var, eE_non, eE_bl, eE_int, eE_str, eE_gint, eE_nil, eE_cons, eE_bin, eE_neg, eE_cmp, eE_chain, eE_not, eE_and, eE_or, eE_ite, eE_tup, eE_lst, eE_ix, eE_sl, eE_rev, eE_call, eE_callio, eE_bi, eE_isi, eE_rng, eE_rng2, eE_enum, eE_zip, eE_lrng, eE_trng, eE_edic, eE_lenM, eE_ixM, eE_nilM, eE_popM, startS, rdVar, getS_0, getS_s, rb_ok, ro_ok, of_some, oof_some, putS, List.getElem?_cons_zero, List.getElem?_cons_succ, bin_add, bin_sub, parOf, FR.ofIo, mutS, remut, cmp_ge_int, c3, bin_mod, hlt]
    · intro y hy
      rcases List.mem_append.mp hy with hy | hy
      · exact hD y hy
      · rw [List.mem_singleton.mp hy]; omega
  · exact ⟨ds, by simp [runFd, eS_skip, eS_seq, eS_asg, eS_asgM, eS_asgs, eS_two, eS_app, eS_setM, eS_aug, eS_ret, eS_retM, eS_ite, eS_drop, eS_brk, eS_cnt, thn_nx, thn_ret, eE_var, eE_non, eE_bl, eE_int, eE_str, eE_gint, eE_nil, eE_cons, eE_bin, eE_neg, eE_cmp, eE_chain, eE_not, eE_and, eE_or, eE_ite, eE_tup, eE_lst, eE_ix, eE_sl, eE_rev, eE_call, eE_callio, eE_bi, eE_isi, eE_rng, eE_rng2, eE_enum, eE_zip, eE_lrng, eE_trng, eE_edic, eE_lenM, eE_ixM, eE_nilM, eE_popM, startS, rdVar, getS_0, getS_s, rb_ok, ro_ok, of_some, oof_some, putS, List.getElem?_cons_zero, List.getElem?_cons_succ, bin_add, bin_sub, parOf, FR.ofIo, mutS, remut, cmp_ge_int, c3], hD, by omega⟩
theorem draws_turn (Φ : Fns) (h4 : ∀ c k : Int, k.natAbs < 2 ^ 64 → Φ 4 [.int c, .int k] = .ok (.int (mixedI c k)) []) (ns : List Int) (i : Nat) (hi : i < 63) (n : Int) (en : ns[i]? = some n) (ds : List Int) (hD : Draws ds) (hl : ds.length ≤ 900 + 13 * i) (s2 s3 s4 : Slot) (l2 : Lo s2) (l3 : Lo s3) (l4 : Lo s4) :
    ∃ (ds1 : List Int) (c : Int) (s4' : Slot), forF Φ (.one 2) (.seq (.asg 3 (.bi .abs (.cons (.ix (.var 0) (.var 2)) .nil))) (.seq (.ite (.cmp .lt (.var 3) (.bin .pow (.int 10) (.int 18))) (.seq (.for_ (.one 4) (.rng (.int 12)) (.seq (.app 1 (.call 4 (.cons (.call 4 (.cons (.var 3) (.cons (.bin .add (.bin .mul (.int 3) (.var 4)) (.int 1)) .nil))) (.cons (.bin .add (.bin .add (.var 4) (.var 2)) (.int 2)) .nil)))) .skip)) .skip) .skip) (.seq (.while_ (.and (.cmp .ge (.var 3) (.bin .pow (.int 10) (.int 18))) (.cmp .lt (.lenM 1) (.int 900))) (.seq (.app 1 (.bin .mod (.var 3) (.int 2147483629))) (.seq (.asg 3 (.bin .fdiv (.var 3) (.int 2147483629))) .skip))) (.seq (.ite (.cmp .ge (.var 3) (.int 2147483629)) (.seq (.app 1 (.bin .mod (.var 3) (.int 2147483629))) .skip) .skip) .skip)))) (.int (0 + (i : Int))) [.val (.list (ns.map .int)), .mu (ds.map .int), s2, s3, s4] = .nx [.val (.list (ns.map .int)), .mu (ds1.map .int), .val (.int i), .val (.int c), s4'] ∧ Draws ds1 ∧ ds1.length ≤ 900 + 13 * (i + 1) ∧ Lo s4' := by
  rw [forF_of (ρ' := [.val (.list (ns.map .int)), .mu (ds.map .int), .val (.int i), s3, s4]) (by rw [Int.zero_add]; exact putS_lo rfl l2)]
  have a1 : evS Φ (.asg 3 (.bi .abs (.cons (.ix (.var 0) (.var 2)) .nil))) [.val (.list (ns.map .int)), .mu (ds.map .int), .val (.int i), s3, s4] = .nx [.val (.list (ns.map .int)), .mu (ds.map .int), .val (.int i), .val (.int (if n < 0 then -n else n)), s4] := by
    have : ixD (.list (ns.map .int)) (.int i) = some (.int n) := by
      show ixAt (ns.map PyData.int) (i : Int) = _
      rw [ixAt_nat, List.getElem?_map, en]
      rfl
    rcases l3 with rfl | ⟨x, rfl⟩ <;> simp [runFd, eS_skip, eS_seq, eS_asg, eS_asgM, eS_asgs, eS_two, eS_app, eS_setM, eS_aug, eS_ret, eS_retM, eS_ite, eS_drop, eS_brk, eS_cnt, thn_nx, thn_ret, eE_var, eE_non, eE_bl, eE_int, eE_str, eE_gint, eE_nil, eE_cons, eE_bin, eE_neg, eE_cmp, eE_chain, eE_not, eE_and, eE_or, eE_ite, eE_tup, eE_lst, eE_ix, eE_sl, eE_rev, eE_call, eE_callio, eE_bi, eE_isi, eE_rng, eE_rng2, eE_enum, eE_zip, eE_lrng, eE_trng, eE_edic, eE_lenM, eE_ixM, eE_nilM, eE_popM, startS, rdVar, getS_0, getS_s, rb_ok, ro_ok, of_some, oof_some, putS, List.getElem?_cons_zero, List.getElem?_cons_succ, bin_add, bin_sub, parOf, FR.ofIo, mutS, remut, tupOf, biD, this]
  obtain ⟨c, c0, ec⟩ : ∃ c : Int, 0 ≤ c ∧ (if n < 0 then -n else n) = c := ⟨_, by split <;> omega, rfl⟩
  rw [ec] at a1
  obtain ⟨ds1, s4', e2, hD1, hl1, l4'⟩ := draws_ite Φ h4 (.list (ns.map .int)) i hi c ds hD hl s4 l4
  obtain ⟨ds2, c', e3, hD2, hl2, c0'⟩ := draws_while Φ (.list (ns.map .int)) i hi c c0 ds1 hD1 (912 + 13 * i) (by omega) hl1 s4'
  obtain ⟨ds3, e4, hD3, hl3⟩ := draws_last Φ (.list (ns.map .int)) i c' ds2 hD2 (by omega) s4'
  refine ⟨ds3, c', s4', ?_, hD3, by omega, l4'⟩
  rw [eS_seq, a1, thn_nx, eS_seq, e2, thn_nx, eS_seq, e3, thn_nx, e4]
theorem run5 (Φ : Fns) (h4 : ∀ c k : Int, k.natAbs < 2 ^ 64 → Φ 4 [.int c, .int k] = .ok (.int (mixedI c k)) []) (ns : List Int) (hn : ns.length ≤ 63) : ∃ ds, runFd Φ fd5 [.list (ns.map .int)] = .ok (.list (ds.map .int)) [] ∧ Draws ds ∧ ds.length ≤ 2000 := by
  obtain ⟨ρ', e, ds, s2, s3, s4, rfl, hD, hlen, _, _⟩ := forGo_inv (f := forF Φ (.one 2) (.seq (.asg 3 (.bi .abs (.cons (.ix (.var 0) (.var 2)) .nil))) (.seq (.ite (.cmp .lt (.var 3) (.bin .pow (.int 10) (.int 18))) (.seq (.for_ (.one 4) (.rng (.int 12)) (.seq (.app 1 (.call 4 (.cons (.call 4 (.cons (.var 3) (.cons (.bin .add (.bin .mul (.int 3) (.var 4)) (.int 1)) .nil))) (.cons (.bin .add (.bin .add (.var 4) (.var 2)) (.int 2)) .nil)))) .skip)) .skip) .skip) (.seq (.while_ (.and (.cmp .ge (.var 3) (.bin .pow (.int 10) (.int 18))) (.cmp .lt (.lenM 1) (.int 900))) (.seq (.app 1 (.bin .mod (.var 3) (.int 2147483629))) (.seq (.asg 3 (.bin .fdiv (.var 3) (.int 2147483629))) .skip))) (.seq (.ite (.cmp .ge (.var 3) (.int 2147483629)) (.seq (.app 1 (.bin .mod (.var 3) (.int 2147483629))) .skip) .skip) .skip))))) (ds := rangeD 0 ns.length)
      (fun i ρ => ∃ (ds : List Int) (s2 s3 s4 : Slot), ρ = [.val (.list (ns.map .int)), .mu (ds.map .int), s2, s3, s4] ∧ Draws ds ∧ ds.length ≤ 900 + 13 * i ∧ (Lo s2 ∧ Lo s3) ∧ Lo s4) (ρ := [.val (.list (ns.map .int)), .mu [], .un, .un, .un]) ⟨[], .un, .un, .un, rfl, (fun _ h => by cases h), Nat.zero_le _, ⟨.un, .un⟩, .un⟩ fun i d ρ hd ⟨ds, s2, s3, s4, e, hD, hl, ⟨l2, l3⟩, l4⟩ => by
        obtain ⟨rfl, hi⟩ := rangeD_get hd
        subst e
        obtain ⟨ds1, c, s4', e, h1, h2, h3⟩ := draws_turn Φ h4 ns i (by omega) _ (List.getElem?_eq_getElem hi) ds hD hl s2 s3 s4 l2 l3 l4
        exact ⟨_, .inl e, ds1, _, _, _, rfl, h1, h2, ⟨.val _, .val _⟩, h3⟩
  refine ⟨ds, ?_, hD, by rw [rangeD_len] at hlen; omega⟩
  have e0 : evS Φ (.for_ (.one 2) (.rng (.bi .min2 (.cons (.bi .len (.cons (.var 0) .nil)) (.cons (.int 63) .nil)))) (.seq (.asg 3 (.bi .abs (.cons (.ix (.var 0) (.var 2)) .nil))) (.seq (.ite (.cmp .lt (.var 3) (.bin .pow (.int 10) (.int 18))) (.seq (.for_ (.one 4) (.rng (.int 12)) (.seq (.app 1 (.call 4 (.cons (.call 4 (.cons (.var 3) (.cons (.bin .add (.bin .mul (.int 3) (.var 4)) (.int 1)) .nil))) (.cons (.bin .add (.bin .add (.var 4) (.var 2)) (.int 2)) .nil)))) .skip)) .skip) .skip) (.seq (.while_ (.and (.cmp .ge (.var 3) (.bin .pow (.int 10) (.int 18))) (.cmp .lt (.lenM 1) (.int 900))) (.seq (.app 1 (.bin .mod (.var 3) (.int 2147483629))) (.seq (.asg 3 (.bin .fdiv (.var 3) (.int 2147483629))) .skip))) (.seq (.ite (.cmp .ge (.var 3) (.int 2147483629)) (.seq (.app 1 (.bin .mod (.var 3) (.int 2147483629))) .skip) .skip) .skip))))) [.val (.list (ns.map .int)), .mu [], .un, .un, .un] = .nx [.val (.list (ns.map .int)), .mu (ds.map .int), s2, s3, s4] := by
    rw [eS_for, draws_src Φ ns hn, ro_ok]
    exact e
  have e1 : evS Φ (.asgM 1 (.lst .nil)) [.val (.list (ns.map .int)), .un, .un, .un, .un] = .nx [.val (.list (ns.map .int)), .mu [], .un, .un, .un] := by simp [runFd, eS_skip, eS_seq, eS_asg, eS_asgM, eS_asgs, eS_two, eS_app, eS_setM, eS_aug, eS_ret, eS_retM, eS_ite, eS_drop, eS_brk, eS_cnt, thn_nx, thn_ret, eE_var, eE_non, eE_bl, eE_int, eE_str, eE_gint, eE_nil, eE_cons, eE_bin, eE_neg, eE_cmp, eE_chain, eE_not, eE_and, eE_or, eE_ite, eE_tup, eE_lst, eE_ix, eE_sl, eE_rev, eE_call, eE_callio, eE_bi, eE_isi, eE_rng, eE_rng2, eE_enum, eE_zip, eE_lrng, eE_trng, eE_edic, eE_lenM, eE_ixM, eE_nilM, eE_popM, startS, rdVar, getS_0, getS_s, rb_ok, ro_ok, of_some, oof_some, putS, List.getElem?_cons_zero, List.getElem?_cons_succ, bin_add, bin_sub, parOf, FR.ofIo, mutS, remut, tupOf]
  have e2 : evS Φ (.seq (.retM 1) .skip) [.val (.list (ns.map .int)), .mu (ds.map .int), s2, s3, s4] = .ret true (.list (ds.map .int)) [.val (.list (ns.map .int)), .mu (ds.map .int), s2, s3, s4] := by simp [runFd, eS_skip, eS_seq, eS_asg, eS_asgM, eS_asgs, eS_two, eS_app, eS_setM, eS_aug, eS_ret, eS_retM, eS_ite, eS_drop, eS_brk, eS_cnt, thn_nx, thn_ret, eE_var, eE_non, eE_bl, eE_int, eE_str, eE_gint, eE_nil, eE_cons, eE_bin, eE_neg, eE_cmp, eE_chain, eE_not, eE_and, eE_or, eE_ite, eE_tup, eE_lst, eE_ix, eE_sl, eE_rev, eE_call, eE_callio, eE_bi, eE_isi, eE_rng, eE_rng2, eE_enum, eE_zip, eE_lrng, eE_trng, eE_edic, eE_lenM, eE_ixM, eE_nilM, eE_popM, startS, rdVar, getS_0, getS_s, rb_ok, ro_ok, of_some, oof_some, putS, List.getElem?_cons_zero, List.getElem?_cons_succ, bin_add, bin_sub, parOf, FR.ofIo, mutS, remut]
  have e3 : evS Φ fd5.body [.val (.list (ns.map .int)), .un, .un, .un, .un] = .ret true (.list (ds.map .int)) [.val (.list (ns.map .int)), .mu (ds.map .int), s2, s3, s4] := by
    show evS Φ (.seq (.asgM 1 (.lst .nil)) (.seq (.for_ (.one 2) (.rng (.bi .min2 (.cons (.bi .len (.cons (.var 0) .nil)) (.cons (.int 63) .nil)))) (.seq (.asg 3 (.bi .abs (.cons (.ix (.var 0) (.var 2)) .nil))) (.seq (.ite (.cmp .lt (.var 3) (.bin .pow (.int 10) (.int 18))) (.seq (.for_ (.one 4) (.rng (.int 12)) (.seq (.app 1 (.call 4 (.cons (.call 4 (.cons (.var 3) (.cons (.bin .add (.bin .mul (.int 3) (.var 4)) (.int 1)) .nil))) (.cons (.bin .add (.bin .add (.var 4) (.var 2)) (.int 2)) .nil)))) .skip)) .skip) .skip) (.seq (.while_ (.and (.cmp .ge (.var 3) (.bin .pow (.int 10) (.int 18))) (.cmp .lt (.lenM 1) (.int 900))) (.seq (.app 1 (.bin .mod (.var 3) (.int 2147483629))) (.seq (.asg 3 (.bin .fdiv (.var 3) (.int 2147483629))) .skip))) (.seq (.ite (.cmp .ge (.var 3) (.int 2147483629)) (.seq (.app 1 (.bin .mod (.var 3) (.int 2147483629))) .skip) .skip) .skip))))) (.seq (.retM 1) .skip))) _ = _
    rw [eS_seq, e1, thn_nx, eS_seq, e0, thn_nx, e2]
  rw [runFd_of rfl]
  show (match evS Φ fd5.body [.val (.list (ns.map .int)), .un, .un, .un, .un] with
    | .nx ρ => if fd5.own then FR.bad else FR.ofIo .none (parOf fd5.io ρ)
    | .ret own d ρ => if own = fd5.own then FR.ofIo d (parOf fd5.io ρ) else FR.bad
    | .exc x ρ => FR.exIo x (parOf fd5.io ρ)
    | _ => FR.bad) = _
  rw [e3]
  rfl
theorem loop8 (Φ : Fns) (h : ∀ a b : Int, Φ 7 [.int a, .int b] = .ok (.int (Int.gcd a b)) []) (d b : PyData) : ∀ (ns : List Int) (g : Int) (s : Slot), Lo s → ∃ s', Lo s' ∧ forGo (forF Φ (.one 3) (.seq (.asg 2 (.call 7 (.cons (.var 2) (.cons (.var 3) .nil)))) .skip)) (ns.map .int) [.val d, .val b, .val (.int g), s] = .nx [.val d, .val b, .val (.int (ns.foldl gI g)), s']
  | [], g, s, hs => ⟨s, hs, rfl⟩
  | n :: r, g, s, hs => by
    obtain ⟨s', h1, e⟩ := loop8 Φ h d b r (gI g n) (.val (.int n)) (.val _)
    refine ⟨s', h1, ?_⟩
    have st : forF Φ (.one 3) (.seq (.asg 2 (.call 7 (.cons (.var 2) (.cons (.var 3) .nil)))) .skip) (.int n) [.val d, .val b, .val (.int g), s] = .nx [.val d, .val b, .val (.int (gI g n)), .val (.int n)] := by
      rcases hs with rfl | ⟨x, rfl⟩ <;> simp [forF, asgT, runFd, eS_skip, eS_seq, eS_asg, eS_asgM, eS_asgs, eS_two, eS_app, eS_setM, eS_aug, eS_ret, eS_retM, eS_ite, eS_drop, eS_brk, eS_cnt, thn_nx, thn_ret, eE_var, eE_non, eE_bl, eE_int, eE_str, eE_gint, eE_nil, eE_cons, eE_bin, eE_neg, eE_cmp, eE_chain, eE_not, eE_and, eE_or, eE_ite, eE_tup, eE_lst, eE_ix, eE_sl, eE_rev, eE_call, eE_callio, eE_bi, eE_isi, eE_rng, eE_rng2, eE_enum, eE_zip, eE_lrng, eE_trng, eE_edic, eE_lenM, eE_ixM, eE_nilM, eE_popM, startS, rdVar, getS_0, getS_s, rb_ok, ro_ok, of_some, oof_some, putS, List.getElem?_cons_zero, List.getElem?_cons_succ, bin_add, bin_sub, parOf, FR.ofIo, mutS, remut, tupOf, h, gI]
    rw [List.map_cons, forGo, st]
    exact e
theorem run8 (Φ : Fns) (h : ∀ a b : Int, Φ 7 [.int a, .int b] = .ok (.int (Int.gcd a b)) []) (ns : List Int) (b : Int) (hb : b ≠ 0) (hs : Sm 9000 b) (hl : ns.length < 1000) : runFd Φ fd8 [.list (ns.map .int), .int b] = .ok (.tuple ((lowT ns b).map .int)) [] := by
  obtain ⟨g0, g1⟩ := sgn_ok (ns := ns) hb
  have gs : Sm 9000 (sgn ns b) := Nat.lt_of_le_of_lt g1 hs
  obtain ⟨s1, l1, e1⟩ := loop8 Φ h (.list (ns.map .int)) (.int b) ns b .un .un
  obtain ⟨s2, e⟩ := comp_div Φ 2 (sgn ns b) g0 gs [.val (.list (ns.map .int)), .val (.int b), .val (.int (sgn ns b))] rfl rfl (by decide) ns s1
  have hc : evE Φ (.comp (.bin .fdiv (.var 3) (.var 2)) (.one 3) (.var 0) (.bl true) [3]) [.val (.list (ns.map .int)), .val (.int b), .val (.int (sgn ns b)), s1] = .ok (.list ((ns.map fun n => n.fdiv (sgn ns b)).map .int)) [.val (.list (ns.map .int)), .val (.int b), .val (.int (sgn ns b)), s1] := by
    rw [eE_comp]
    simp only [eE_var, rdVar, getS_0, rb_ok, itemsD]
    have : ownOk [3] [.val (.list (ns.map .int)), .val (.int b), .val (.int (sgn ns b)), s1] = true := by rcases l1 with rfl | ⟨x, rfl⟩ <;> rfl
    rw [this]
    dsimp only
    rw [show [Slot.val (.list (ns.map .int)), .val (.int b), .val (.int (sgn ns b)), s1] = [Slot.val (.list (ns.map .int)), .val (.int b), .val (.int (sgn ns b))] ++ [s1] from rfl, e]
    rfl
  have hcat : bin .add (.tuple ((ns.map fun n => n.fdiv (sgn ns b)).map .int)) (.tuple [.int (b.fdiv (sgn ns b))]) = some (.tuple ((ns.map fun n => n.fdiv (sgn ns b)).map .int ++ [.int (b.fdiv (sgn ns b))])) := bin_cat (by simp [SL]; omega)
  have hg := gI_fold ns b
  have i3 : itemsD (.list (ns.map .int)) = some (ns.map PyData.int) := rfl
  by_cases hb0 : b < 0
  · have hsg : (if ns.foldl gI b < 0 then 0 + ns.foldl gI b else 0 - ns.foldl gI b) = sgn ns b := by
      unfold sgn
      rw [if_pos hb0]
      split <;> omega
    have hsg2 : 0 - (if ns.foldl gI b < 0 then -ns.foldl gI b else ns.foldl gI b) = sgn ns b := by
      rw [← hsg]
      split <;> omega
    simp (disch := assumption) [runFd, eS_skip, eS_seq, eS_asg, eS_asgM, eS_asgs, eS_two, eS_app, eS_setM, eS_aug, eS_ret, eS_retM, eS_ite, eS_drop, eS_brk, eS_cnt, thn_nx, thn_ret, eE_var, eE_non, eE_bl, eE_int, eE_str, eE_gint, eE_nil, eE_cons, eE_bin, eE_neg, eE_cmp, eE_chain, eE_not, eE_and, eE_or, eE_ite, eE_tup, eE_lst, eE_ix, eE_sl, eE_rev, eE_call, eE_callio, eE_bi, eE_isi, eE_rng, eE_rng2, eE_enum, eE_zip, eE_lrng, eE_trng, eE_edic, eE_lenM, eE_ixM, eE_nilM, eE_popM, startS, rdVar, getS_0, getS_s, rb_ok, ro_ok, of_some, oof_some, putS, List.getElem?_cons_zero, List.getElem?_cons_succ, bin_add, bin_sub, parOf, FR.ofIo, mutS, remut, -List.map_map, fd8, tupOf, cmp_lt_int, hb0, eS_for, i3, e1, biD, hsg2, hc, divOk_of, hcat, lowT]
  · have hge : 0 ≤ ns.foldl gI b := by
      have : ∀ (l : List Int) (a : Int), 0 ≤ a → 0 ≤ l.foldl gI a := fun l => by
        induction l with
        | nil => intro a h; exact h
        | cons x r ih => intro a h; exact ih _ (Int.natCast_nonneg _)
      exact this ns b (by omega)
    have hsg : ns.foldl gI b = sgn ns b := by
      unfold sgn
      rw [if_neg hb0]
      omega
    rw [hsg] at e1
    simp (disch := assumption) [runFd, eS_skip, eS_seq, eS_asg, eS_asgM, eS_asgs, eS_two, eS_app, eS_setM, eS_aug, eS_ret, eS_retM, eS_ite, eS_drop, eS_brk, eS_cnt, thn_nx, thn_ret, eE_var, eE_non, eE_bl, eE_int, eE_str, eE_gint, eE_nil, eE_cons, eE_bin, eE_neg, eE_cmp, eE_chain, eE_not, eE_and, eE_or, eE_ite, eE_tup, eE_lst, eE_ix, eE_sl, eE_rev, eE_call, eE_callio, eE_bi, eE_isi, eE_rng, eE_rng2, eE_enum, eE_zip, eE_lrng, eE_trng, eE_edic, eE_lenM, eE_ixM, eE_nilM, eE_popM, startS, rdVar, getS_0, getS_s, rb_ok, ro_ok, of_some, oof_some, putS, List.getElem?_cons_zero, List.getElem?_cons_succ, bin_add, bin_sub, parOf, FR.ofIo, mutS, remut, -List.map_map, fd8, tupOf, cmp_lt_int, hb0, eS_for, i3, e1, biD, hc, divOk_of, hcat, lowT]
/-- two rows of the same ints -/
theorem same_comp (Φ : Fns) (h : ∀ a : Int, Φ 31 [.int a, .int a] = .ok (.bool true) []) (x y : PyData) : ∀ (ns : List Int) (s2 s3 : Slot), ∃ s2' s3' : Slot, compGo (turnC [2, 3] (.many [2, 3]) (evE Φ (.bl true)) (evE Φ (.call 31 (.cons (.var 2) (.cons (.var 3) .nil))))) (zipL (ns.map .int) (ns.map .int)) [.val x, .val y, s2, s3] = .ok (ns.map fun _ => .bool true) [.val x, .val y, s2', s3']
  | [], s2, s3 => ⟨s2, s3, rfl⟩
  | n :: r, s2, s3 => by
    obtain ⟨s2', s3', e⟩ := same_comp Φ h x y r (.val (.int n)) (.val (.int n))
    refine ⟨s2', s3', ?_⟩
    have st : turnC [2, 3] (.many [2, 3]) (evE Φ (.bl true)) (evE Φ (.call 31 (.cons (.var 2) (.cons (.var 3) .nil)))) (.tuple [.int n, .int n]) [.val x, .val y, s2, s3] = .ok (some (.bool true)) [.val x, .val y, .val (.int n), .val (.int n)] := by
      simp [turnC, wipeS, asgT, putAll, runFd, eS_skip, eS_seq, eS_asg, eS_asgM, eS_asgs, eS_two, eS_app, eS_setM, eS_aug, eS_ret, eS_retM, eS_ite, eS_drop, eS_brk, eS_cnt, thn_nx, thn_ret, eE_var, eE_non, eE_bl, eE_int, eE_str, eE_gint, eE_nil, eE_cons, eE_bin, eE_neg, eE_cmp, eE_chain, eE_not, eE_and, eE_or, eE_ite, eE_tup, eE_lst, eE_ix, eE_sl, eE_rev, eE_call, eE_callio, eE_bi, eE_isi, eE_rng, eE_rng2, eE_enum, eE_zip, eE_lrng, eE_trng, eE_edic, eE_lenM, eE_ixM, eE_nilM, eE_popM, startS, rdVar, getS_0, getS_s, rb_ok, ro_ok, of_some, oof_some, putS, List.getElem?_cons_zero, List.getElem?_cons_succ, bin_add, bin_sub, parOf, FR.ofIo, mutS, remut, tupOf, h]
    rw [List.map_cons, zipL, compGo, st]
    dsimp only
    rw [e]
    rfl
theorem run31i (Φ : Fns) (a : Int) : runFd Φ fd31 [.int a, .int a] = .ok (.bool true) [] := by
  simp [runFd, eS_skip, eS_seq, eS_asg, eS_asgM, eS_asgs, eS_two, eS_app, eS_setM, eS_aug, eS_ret, eS_retM, eS_ite, eS_drop, eS_brk, eS_cnt, thn_nx, thn_ret, eE_var, eE_non, eE_bl, eE_int, eE_str, eE_gint, eE_nil, eE_cons, eE_bin, eE_neg, eE_cmp, eE_chain, eE_not, eE_and, eE_or, eE_ite, eE_tup, eE_lst, eE_ix, eE_sl, eE_rev, eE_call, eE_callio, eE_bi, eE_isi, eE_rng, eE_rng2, eE_enum, eE_zip, eE_lrng, eE_trng, eE_edic, eE_lenM, eE_ixM, eE_nilM, eE_popM, startS, rdVar, getS_0, getS_s, rb_ok, ro_ok, of_some, oof_some, putS, List.getElem?_cons_zero, List.getElem?_cons_succ, bin_add, bin_sub, parOf, FR.ofIo, mutS, remut, fd31, isTy, cmp_ne_bool, cmp_eq_bool, cmp_eq_int]
theorem bools_true (ns : List Int) : boolsD (ns.map fun _ => PyData.bool true) = some (ns.map fun _ => true) := by
  induction ns with
  | nil => rfl
  | cons n r ih => rw [List.map_cons, boolsD, ih]; rfl
theorem run31t (Φ : Fns) (h : ∀ a : Int, Φ 31 [.int a, .int a] = .ok (.bool true) []) (ns : List Int) : runFd Φ fd31 [.tuple (ns.map .int), .tuple (ns.map .int)] = .ok (.bool true) [] := by
  obtain ⟨s2, s3, e⟩ := same_comp Φ h (.tuple (ns.map .int)) (.tuple (ns.map .int)) ns .un .un
  have hc : evE Φ (.comp (.call 31 (.cons (.var 2) (.cons (.var 3) .nil))) (.many [2, 3]) (.zip (.var 0) (.var 1)) (.bl true) [2, 3]) [.val (.tuple (ns.map .int)), .val (.tuple (ns.map .int)), .un, .un] = .ok (.list (ns.map fun _ => .bool true)) [.val (.tuple (ns.map .int)), .val (.tuple (ns.map .int)), .un, .un] := by
    rw [eE_comp]
    simp only [eE_zip, eE_var, rdVar, getS_0, getS_s, rb_ok, zipD, of_some, itemsD]
    have : ownOk [2, 3] [.val (.tuple (ns.map .int)), .val (.tuple (ns.map .int)), .un, .un] = true := rfl
    rw [this]
    dsimp only
    rw [e]
    rfl
  have ha : biD .all [.list (ns.map fun _ => .bool true)] = some (.bool true) := by
    show (boolsD _).map (fun bs => PyData.bool (bs.all id)) = _
    rw [bools_true]
    simp
  have hn : cmpD .ne (.int ns.length) (.int ns.length) = some false := by rw [cmp_ne_int]; simp
  have hlen : biD .len [.tuple (ns.map .int)] = some (.int ns.length) := by
    show some (PyData.int ((ns.map PyData.int).length : Nat)) = _
    rw [List.length_map]
  simp [runFd, eS_skip, eS_seq, eS_asg, eS_asgM, eS_asgs, eS_two, eS_app, eS_setM, eS_aug, eS_ret, eS_retM, eS_ite, eS_drop, eS_brk, eS_cnt, thn_nx, thn_ret, eE_var, eE_non, eE_bl, eE_int, eE_str, eE_gint, eE_nil, eE_cons, eE_bin, eE_neg, eE_cmp, eE_chain, eE_not, eE_and, eE_or, eE_ite, eE_tup, eE_lst, eE_ix, eE_sl, eE_rev, eE_call, eE_callio, eE_bi, eE_isi, eE_rng, eE_rng2, eE_enum, eE_zip, eE_lrng, eE_trng, eE_edic, eE_lenM, eE_ixM, eE_nilM, eE_popM, startS, rdVar, getS_0, getS_s, rb_ok, ro_ok, of_some, oof_some, putS, List.getElem?_cons_zero, List.getElem?_cons_succ, bin_add, bin_sub, parOf, FR.ofIo, mutS, remut, fd31, tupOf, isTy, cmp_ne_bool, hlen, hn, hc, ha]
theorem bin_mul_m {i j : Int} (h : i.natAbs < 2 ^ 250) (g : j.natAbs < 2 ^ 250) : bin .mul (.int i) (.int j) = some (.int (i * j)) := bin_mul_g (sm_mono (m := 250) h (by unfold GB; omega)) (sm_mono (m := 250) g (by unfold GB; omega))
theorem run_ret {Φ : Fns} {fd : Fd} {args : List PyData} {ρ0 ρ1 : Env} {own : Bool} {d : PyData} {io : List PyData} (hl : args.length = fd.pars) (h0 : startS 0 fd.io args ++ List.replicate (fd.size - fd.pars) .un = ρ0) (h : evS Φ fd.body ρ0 = .ret own d ρ1) (ho : own = fd.own) (hp : parOf fd.io ρ1 = some io) : runFd Φ fd args = .ok d io := by
  rw [runFd_of hl, h0, h]
  dsimp only
  rw [if_pos ho, hp]
  rfl
theorem far_list (Φ : Fns) (ρ : Env) : ∃ p q z : Int, evE Φ (.lst (.cons (.int 0) (.cons (.int 1) (.cons (.int 9) (.cons (.int 1000) (.cons (.bin .pow (.int 10) (.int 6)) (.cons (.bin .pow (.int 10) (.int 20)) (.cons (.bin .mul (.bin .pow (.int 10) (.int 60)) (.bin .pow (.int 10) (.int 37))) .nil)))))))) ρ = .ok (.list [.int 0, .int 1, .int 9, .int 1000, .int p, .int q, .int z]) ρ ∧ (0 ≤ p ∧ p ≤ 10 ^ 97) ∧ (0 ≤ q ∧ q ≤ 10 ^ 97) ∧ (0 ≤ z ∧ z ≤ 10 ^ 97) := by
  obtain ⟨p, hp, q6⟩ : ∃ p : Int, (0 ≤ p ∧ p ≤ 10 ^ 97) ∧ bin .pow (.int 10) (.int 6) = some (.int p) := ⟨1000000, by decide, bin_pow (by decide)⟩
  obtain ⟨q, hq, q20⟩ : ∃ p : Int, (0 ≤ p ∧ p ≤ 10 ^ 97) ∧ bin .pow (.int 10) (.int 20) = some (.int p) := ⟨100000000000000000000, by decide, bin_pow (by decide)⟩
  obtain ⟨x, hx, q60⟩ : ∃ p : Int, (0 ≤ p ∧ p ≤ 10 ^ 60) ∧ bin .pow (.int 10) (.int 60) = some (.int p) := ⟨10 ^ 60, by decide, bin_pow (by decide)⟩
  obtain ⟨y, hy, q37⟩ : ∃ p : Int, (0 ≤ p ∧ p ≤ 10 ^ 37) ∧ bin .pow (.int 10) (.int 37) = some (.int p) := ⟨10 ^ 37, by decide, bin_pow (by decide)⟩
  have qm : bin .mul (.int x) (.int y) = some (.int (x * y)) := bin_mul_m (by omega) (by omega)
  refine ⟨p, q, x * y, ?_, hp, hq, Int.mul_nonneg hx.1 hy.1, ?_⟩
  · simp only [eE_lst, eE_cons, eE_int, eE_nil, rb_ok, eE_bin, q6, q20, q60, q37, qm, of_some, tupOf]
  · have := Int.mul_le_mul hx.2 hy.2 hy.1 (by decide)
    exact Int.le_trans this (by decide)
theorem far_pick (Φ : Fns) (n : Int) : ∃ size : Int, 0 ≤ size ∧ size ≤ 10 ^ 97 ∧ evE Φ (.ix (.lst (.cons (.int 0) (.cons (.int 1) (.cons (.int 9) (.cons (.int 1000) (.cons (.bin .pow (.int 10) (.int 6)) (.cons (.bin .pow (.int 10) (.int 20)) (.cons (.bin .mul (.bin .pow (.int 10) (.int 60)) (.bin .pow (.int 10) (.int 37))) .nil)))))))) (.bin .mod (.var 0) (.int 7))) [.val (.int n), .un, .un] = .ok (.int size) [.val (.int n), .un, .un] := by
  obtain ⟨p, q, z, l, hp, hq, hz⟩ := far_list Φ [.val (.int n), .un, .un]
  have m : bin .mod (.int n) (.int 7) = some (.int (n % 7)) := bin_mod (by decide)
  have : n % 7 = 0 ∨ n % 7 = 1 ∨ n % 7 = 2 ∨ n % 7 = 3 ∨ n % 7 = 4 ∨ n % 7 = 5 ∨ n % 7 = 6 := by omega
  rcases this with e | e | e | e | e | e | e <;> rw [e] at m <;> rw [eE_ix, l, rb_ok, eE_bin, eE_var, rd_val rfl, rb_ok, eE_int, rb_ok, m, of_some, rb_ok]
  · exact ⟨0, by decide, by decide, rfl⟩
  · exact ⟨1, by decide, by decide, rfl⟩
  · exact ⟨9, by decide, by decide, rfl⟩
  · exact ⟨1000, by decide, by decide, rfl⟩
  · exact ⟨p, hp.1, hp.2, rfl⟩
  · exact ⟨q, hq.1, hq.2, rfl⟩
  · exact ⟨z, hz.1, hz.2, rfl⟩
theorem run14 (Φ : Fns) (n : Int) (h0 : 0 ≤ n) (h1 : n < 2147483629) : ∃ v : Int, runFd Φ fd14 [.int n] = .ok (.int v) [] ∧ v.natAbs < 10 ^ 110 := by
  obtain ⟨size, z0, z1, e⟩ := far_pick Φ n
  have hA : (n / 7 * 7919 + 1).natAbs < 2 ^ 64 := by omega
  have hA1 : 0 ≤ n / 7 * 7919 + 1 ∧ n / 7 * 7919 + 1 ≤ 10 ^ 13 := by omega
  have hprod : 0 ≤ (n / 7 * 7919 + 1) * size ∧ (n / 7 * 7919 + 1) * size ≤ 10 ^ 13 * 10 ^ 97 := ⟨Int.mul_nonneg hA1.1 z0, Int.mul_le_mul hA1.2 z1 z0 (by decide)⟩
  obtain ⟨f, hf⟩ : ∃ f, f = (n / 7 * 7919 + 1) * size / 1000 + n / 7 % 10 := ⟨_, rfl⟩
  have hfb : 0 ≤ f ∧ f < 10 ^ 109 := by
    rw [hf]
    generalize (n / 7 * 7919 + 1) * size = p at hprod
    omega
  have sg : ∃ s : Int, (s = 1 ∨ s = -1) ∧ ∀ f' : Int, evE Φ (.ix (.lst (.cons (.int 1) (.cons (.neg (.int 1)) .nil))) (.bin .mod (.bin .fdiv (.var 0) (.int 70)) (.int 2))) [.val (.int n), .val (.int size), .val (.int f')] = .ok (.int s) [.val (.int n), .val (.int size), .val (.int f')] := by
    have d : bin .fdiv (.int n) (.int 70) = some (.int (n / 70)) := bin_div (by decide) (by decide)
    have m : bin .mod (.int (n / 70)) (.int 2) = some (.int (n / 70 % 2)) := bin_mod (by decide)
    have : n / 70 % 2 = 0 ∨ n / 70 % 2 = 1 := by omega
    rcases this with e | e <;> rw [e] at m
    · exact ⟨1, .inl rfl, fun f' => by simp only [eE_ix, eE_lst, eE_cons, eE_int, eE_neg, eE_nil, rb_ok, tupOf, eE_bin, eE_var, rd_val (show getS [Slot.val (PyData.int n), .val (.int size), .val (.int f')] 0 = .val (.int n) from rfl), d, m, of_some]; rfl⟩
    · exact ⟨-1, .inr rfl, fun f' => by simp only [eE_ix, eE_lst, eE_cons, eE_int, eE_neg, eE_nil, rb_ok, tupOf, eE_bin, eE_var, rd_val (show getS [Slot.val (PyData.int n), .val (.int size), .val (.int f')] 0 = .val (.int n) from rfl), d, m, of_some]; rfl⟩
  obtain ⟨s, hs, es⟩ := sg
  have ms : bin .mul (.int f) (.int s) = some (.int (f * s)) := bin_mul_r (by rcases hs with rfl | rfl <;> decide)
  refine ⟨f * s, ?_, by rcases hs with rfl | rfl <;> omega⟩
  have a1 : evS Φ (.asg 2 (.bin .add (.bin .fdiv (.bin .mul (.bin .add (.bin .mul (.bin .fdiv (.var 0) (.int 7)) (.int 7919)) (.int 1)) (.var 1)) (.int 1000)) (.bin .mod (.bin .fdiv (.var 0) (.int 7)) (.int 10)))) [.val (.int n), .val (.int size), .un] = .nx [.val (.int n), .val (.int size), .val (.int f)] := by
    simp (disch := omega) [runFd, eS_skip, eS_seq, eS_asg, eS_asgM, eS_asgs, eS_two, eS_app, eS_setM, eS_aug, eS_ret, eS_retM, eS_ite, eS_drop, eS_brk, eS_cnt, thn_nx, thn_ret, eE_var, eE_non, eE_bl, eE_int, eE_str, eE_gint, eE_nil, eE_cons, eE_bin, eE_neg, eE_cmp, eE_chain, eE_not, eE_and, eE_or, eE_ite, eE_tup, eE_lst, eE_ix, eE_sl, eE_rev, eE_call, eE_callio, eE_bi, eE_isi, eE_rng, eE_rng2, eE_enum, eE_zip, eE_lrng, eE_trng, eE_edic, eE_lenM, eE_ixM, eE_nilM, eE_popM, startS, rdVar, getS_0, getS_s, rb_ok, ro_ok, of_some, oof_some, putS, List.getElem?_cons_zero, List.getElem?_cons_succ, bin_add, bin_sub, parOf, FR.ofIo, mutS, remut, bin_div, bin_mul_l, bin_mul_r, bin_mod, hf]
  have a0 : evS Φ (.asg 1 (.ix (.lst (.cons (.int 0) (.cons (.int 1) (.cons (.int 9) (.cons (.int 1000) (.cons (.bin .pow (.int 10) (.int 6)) (.cons (.bin .pow (.int 10) (.int 20)) (.cons (.bin .mul (.bin .pow (.int 10) (.int 60)) (.bin .pow (.int 10) (.int 37))) .nil)))))))) (.bin .mod (.var 0) (.int 7)))) [.val (.int n), .un, .un] = .nx [.val (.int n), .val (.int size), .un] := by
    rw [eS_asg, e]
    rfl
  have a2 : evS Φ (.seq (.ret (.bin .mul (.var 2) (.ix (.lst (.cons (.int 1) (.cons (.neg (.int 1)) .nil))) (.bin .mod (.bin .fdiv (.var 0) (.int 70)) (.int 2))))) .skip) [.val (.int n), .val (.int size), .val (.int f)] = .ret false (.int (f * s)) [.val (.int n), .val (.int size), .val (.int f)] := by
    rw [eS_seq, eS_ret, eE_bin, eE_var, rd_val rfl, rb_ok, es f, rb_ok, ms, of_some]
    rfl
  have a3 : evS Φ fd14.body [.val (.int n), .un, .un] = .ret false (.int (f * s)) [.val (.int n), .val (.int size), .val (.int f)] := by
    unfold fd14
    rw [eS_seq, a0, thn_nx, eS_seq, a1, thn_nx, a2]
  exact run_ret rfl rfl a3 rfl rfl
theorem run16 (Φ : Fns) : ∃ a b : Int, runFd Φ fd16 [] = .ok (.tuple [.int a, .int b]) [] ∧ 0 < a ∧ 0 < b ∧ Int.gcd a b = 1 ∧ a.natAbs < 10 ^ 300 ∧ b.natAbs < 10 ^ 300 := by
  have p1 : bin .pow (.int 10) (.int 58) = some (.int (10 ^ 58)) := bin_pow (by decide)
  have p2 : bin .pow (.int (10 ^ 58)) (.int 5) = some (.int ((10 ^ 58) ^ 5)) := bin_pow (by decide)
  obtain ⟨N, hN, hN1, p3⟩ : ∃ N : Int, 0 < N ∧ N < 10 ^ 299 ∧ bin .pow (.int (10 ^ 58)) (.int 5) = some (.int N) := ⟨_, by decide, by decide, p2⟩
  have hN2 : N < 10 ^ 299 := hN1
  have cond : ∀ ρ, evE Φ (.cmp .lt (.var 1) (.bin .pow (.bin .pow (.int 10) (.int 58)) (.int 5))) ρ = (rdVar ρ 1).bind fun x ρ => .of ((cmpD .lt x (.int N)).map .bool) ρ := fun ρ => by
    simp only [eE_cmp, eE_var, eE_bin, eE_int, rb_ok, p1, of_some, p3]
  have w : ∃ a b : Int, evS Φ (.while_ (.cmp .lt (.var 1) (.bin .pow (.bin .pow (.int 10) (.int 58)) (.int 5))) (.seq (.two 0 1 (.var 1) (.bin .add (.var 0) (.var 1))) .skip)) [.val (.int 1), .val (.int 1)] = .nx [.val (.int a), .val (.int b)] ∧ 0 < a ∧ a ≤ b ∧ Int.gcd a b = 1 ∧ b < 2 * N + 2 := by
    rw [eS_while]
    refine whileD_inv (P := fun o => ∃ a b : Int, o = .nx [.val (.int a), .val (.int b)] ∧ 0 < a ∧ a ≤ b ∧ Int.gcd a b = 1 ∧ b < 2 * N + 2) (I := fun m ρ => ∃ x y : Int, ρ = [.val (.int x), .val (.int y)] ∧ 0 < x ∧ x ≤ y ∧ Int.gcd x y = 1 ∧ y < 2 * N + 2 ∧ m = (2 * N + 2 - y).toNat) ?_ _ _ ⟨1, 1, rfl, by decide, by decide, by decide, by omega, rfl⟩
    rintro m ρ ⟨x, y, rfl, hx, hxy, hg, hy, rfl⟩
    by_cases h : y < N
    · refine .inr ⟨[.val (.int x), .val (.int y)], by rw [cond, rd_val rfl, rb_ok, cmp_lt_int, decide_eq_true h]; rfl, .inl ⟨[.val (.int y), .val (.int (x + y))], _, .inl (by simp [runFd, eS_skip, eS_seq, eS_asg, eS_asgM, eS_asgs, eS_two, eS_app, eS_setM, eS_aug, eS_ret, eS_retM, eS_ite, eS_drop, eS_brk, eS_cnt, thn_nx, thn_ret, eE_var, eE_non, eE_bl, eE_int, eE_str, eE_gint, eE_nil, eE_cons, eE_bin, eE_neg, eE_cmp, eE_chain, eE_not, eE_and, eE_or, eE_ite, eE_tup, eE_lst, eE_ix, eE_sl, eE_rev, eE_call, eE_callio, eE_bi, eE_isi, eE_rng, eE_rng2, eE_enum, eE_zip, eE_lrng, eE_trng, eE_edic, eE_lenM, eE_ixM, eE_nilM, eE_popM, startS, rdVar, getS_0, getS_s, rb_ok, ro_ok, of_some, oof_some, putS, List.getElem?_cons_zero, List.getElem?_cons_succ, bin_add, bin_sub, parOf, FR.ofIo, mutS, remut]), ?_, y, x + y, rfl, by omega, by omega, ?_, by omega, rfl⟩⟩
      · omega
      · have := Int.gcd_add_mul_right_right y x 1
        rw [Int.one_mul] at this
        rw [this, Int.gcd_comm, hg]
    · exact .inl ⟨[.val (.int x), .val (.int y)], by rw [cond, rd_val rfl, rb_ok, cmp_lt_int, decide_eq_false h]; rfl, x, y, rfl, hx, hxy, hg, hy⟩
  obtain ⟨a, b, e, h1, h2, h3, h4⟩ := w
  refine ⟨a, b, ?_, h1, by omega, h3, ?_, ?_⟩
  · have a0 : evS Φ (.asgs [0, 1] (.tup (.cons (.int 1) (.cons (.int 1) .nil)))) [.un, .un] = .nx [.val (.int 1), .val (.int 1)] := by simp [runFd, eS_skip, eS_seq, eS_asg, eS_asgM, eS_asgs, eS_two, eS_app, eS_setM, eS_aug, eS_ret, eS_retM, eS_ite, eS_drop, eS_brk, eS_cnt, thn_nx, thn_ret, eE_var, eE_non, eE_bl, eE_int, eE_str, eE_gint, eE_nil, eE_cons, eE_bin, eE_neg, eE_cmp, eE_chain, eE_not, eE_and, eE_or, eE_ite, eE_tup, eE_lst, eE_ix, eE_sl, eE_rev, eE_call, eE_callio, eE_bi, eE_isi, eE_rng, eE_rng2, eE_enum, eE_zip, eE_lrng, eE_trng, eE_edic, eE_lenM, eE_ixM, eE_nilM, eE_popM, startS, rdVar, getS_0, getS_s, rb_ok, ro_ok, of_some, oof_some, putS, List.getElem?_cons_zero, List.getElem?_cons_succ, bin_add, bin_sub, parOf, FR.ofIo, mutS, remut, tupOf, asgT, putAll]
    have a2 : evS Φ (.seq (.ret (.tup (.cons (.var 0) (.cons (.var 1) .nil)))) .skip) [.val (.int a), .val (.int b)] = .ret false (.tuple [.int a, .int b]) [.val (.int a), .val (.int b)] := by simp [runFd, eS_skip, eS_seq, eS_asg, eS_asgM, eS_asgs, eS_two, eS_app, eS_setM, eS_aug, eS_ret, eS_retM, eS_ite, eS_drop, eS_brk, eS_cnt, thn_nx, thn_ret, eE_var, eE_non, eE_bl, eE_int, eE_str, eE_gint, eE_nil, eE_cons, eE_bin, eE_neg, eE_cmp, eE_chain, eE_not, eE_and, eE_or, eE_ite, eE_tup, eE_lst, eE_ix, eE_sl, eE_rev, eE_call, eE_callio, eE_bi, eE_isi, eE_rng, eE_rng2, eE_enum, eE_zip, eE_lrng, eE_trng, eE_edic, eE_lenM, eE_ixM, eE_nilM, eE_popM, startS, rdVar, getS_0, getS_s, rb_ok, ro_ok, of_some, oof_some, putS, List.getElem?_cons_zero, List.getElem?_cons_succ, bin_add, bin_sub, parOf, FR.ofIo, mutS, remut, tupOf]
    have a3 : evS Φ fd16.body [.un, .un] = .ret false (.tuple [.int a, .int b]) [.val (.int a), .val (.int b)] := by
      unfold fd16
      rw [eS_seq, a0, thn_nx, eS_seq, e, thn_nx, a2]
    rw [runFd_of rfl]
    show (match evS Φ fd16.body [.un, .un] with
      | .nx ρ => if fd16.own then FR.bad else FR.ofIo .none (parOf fd16.io ρ)
      | .ret own d ρ => if own = fd16.own then FR.ofIo d (parOf fd16.io ρ) else FR.bad
      | .exc x ρ => FR.exIo x (parOf fd16.io ρ)
      | _ => FR.bad) = _
    rw [a3]
    rfl
  · omega
  · omega
end HM

namespace HM
open PySem
/-- is_number -/
def fd0 : Fd := ⟨1, 1, none, false, (.seq (.ret (.and (.isi (.var 0) .int) (.not (.isi (.var 0) .bool)))) .skip)⟩
/-- is_spot -/
def fd3 : Fd := ⟨1, 2, none, false, (.seq (.ite (.or (.not (.isi (.var 0) .tuple)) (.not (.chain .le .le (.int 2) (.bi .len (.cons (.var 0) .nil)) (.int 4)))) (.seq (.ret (.bl false)) .skip) .skip) (.seq (.ite (.not (.bi .all (.cons (.comp (.call 0 (.cons (.var 1) .nil)) (.one 1) (.var 0) (.bl true) [1]) .nil))) (.seq (.ret (.bl false)) .skip) .skip) (.seq (.ret (.and (.cmp .ge (.ix (.var 0) (.neg (.int 1))) (.int 1)) (.cmp .eq (.call 2 (.cons (.var 0) .nil)) (.int 1)))) .skip)))⟩
/-- _law_whole -/
def fd9 : Fd := ⟨1, 1, none, false, (.seq (.ret (.and (.isi (.var 0) .int) (.not (.isi (.var 0) .bool)))) .skip)⟩
/-! ### comprehensions without outer doings -/
theorem compGo_pure {f : PyData → Env → R (Option PyData)} {ρ1 : Env} {ten : PyData → Env} {g : PyData → Option PyData} : ∀ {ds : List PyData} {ρ : Env}, (ρ = ρ1 ∨ ∃ e, ρ = ten e) → (∀ d ∈ ds, ∀ ρ, (ρ = ρ1 ∨ ∃ e, ρ = ten e) → f d ρ = .ok (g d) (ten d)) →
    ∃ ρ', compGo f ds ρ = .ok (ds.filterMap g) ρ' ∧ (ρ' = ρ ∨ ∃ e, ρ' = ten e)
  | [], ρ, _, _ => ⟨ρ, rfl, .inl rfl⟩
  | d :: ds, ρ, h, k => by
    have e1 := k d List.mem_cons_self ρ h
    obtain ⟨ρ2, e2, h2⟩ := compGo_pure (ds := ds) (ρ := ten d) (.inr ⟨d, rfl⟩) fun d hd => k d (List.mem_cons_of_mem _ hd)
    refine ⟨ρ2, ?_, ?_⟩
    · rw [compGo, e1]
      dsimp only
      rw [e2, List.filterMap_cons]
      cases g d <;> rfl
    · rcases h2 with rfl | h2
      · exact .inr ⟨d, rfl⟩
      · exact .inr h2
theorem comp_gen {Φ : Fns} {elt src cond : E} {tg : Tg} {own : List Nat} {ρ ρ1 : Env} {x : PyData} {ds : List PyData} (ten : PyData → Env) {p : PyData → Bool} {g : PyData → PyData}
    (hs : evE Φ src ρ = .ok x ρ1) (hx : itemsD x = some ds) (ho : ownOk own ρ1 = true)
    (ha : ∀ d ∈ ds, asgT tg d (wipeS own ρ1) = some (ten d) ∧ ∀ e, asgT tg d (wipeS own (ten e)) = some (ten d))
    (hg : giveS own ρ1 ρ1 = ρ1 ∧ ∀ e, giveS own ρ1 (ten e) = ρ1)
    (hc : ∀ d ∈ ds, evE Φ cond (ten d) = .ok (.bool (p d)) (ten d))
    (he : ∀ d ∈ ds, p d = true → evE Φ elt (ten d) = .ok (g d) (ten d)) :
    evE Φ (.comp elt tg src cond own) ρ = .ok (.list ((ds.filter p).map g)) ρ1 := by
  rw [eE_comp, hs, rb_ok, hx, ho]
  dsimp only
  obtain ⟨ρ2, e2, h2⟩ := compGo_pure (f := turnC own tg (evE Φ cond) (evE Φ elt)) (ρ1 := ρ1) (ten := ten) (g := fun d => if p d then some (g d) else none) (ds := ds) (ρ := ρ1) (.inl rfl) fun d hd ρ hρ => by
    have h1 : asgT tg d (wipeS own ρ) = some (ten d) := by
      rcases hρ with rfl | ⟨e, rfl⟩
      · exact (ha d hd).1
      · exact (ha d hd).2 e
    unfold turnC
    rw [h1]
    dsimp only
    rw [hc d hd, rb_ok]
    cases hp : p d
    · simp [hp]
    · dsimp only
      rw [he d hd hp, rb_ok]
      simp
  rw [e2, rb_ok]
  have e3 : giveS own ρ1 ρ2 = ρ1 := by
    rcases h2 with rfl | ⟨e, rfl⟩
    · exact hg.1
    · exact hg.2 e
  rw [e3]
  have e4 : ∀ ds : List PyData, ds.filterMap (fun d => if p d then some (g d) else none) = (ds.filter p).map g := fun ds => by
    induction ds with
    | nil => rfl
    | cons d r ih =>
      rw [List.filterMap_cons, List.filter_cons]
      cases p d
      · simpa using ih
      · simpa using ih
  rw [e4]
theorem comp_all {Φ : Fns} {elt src : E} {tg : Tg} {own : List Nat} {ρ ρ1 : Env} {x : PyData} {ds : List PyData} (ten : PyData → Env) {g : PyData → PyData}
    (hs : evE Φ src ρ = .ok x ρ1) (hx : itemsD x = some ds) (ho : ownOk own ρ1 = true)
    (ha : ∀ d ∈ ds, asgT tg d (wipeS own ρ1) = some (ten d) ∧ ∀ e, asgT tg d (wipeS own (ten e)) = some (ten d))
    (hg : giveS own ρ1 ρ1 = ρ1 ∧ ∀ e, giveS own ρ1 (ten e) = ρ1)
    (he : ∀ d ∈ ds, evE Φ elt (ten d) = .ok (g d) (ten d)) :
    evE Φ (.comp elt tg src (.bl true) own) ρ = .ok (.list (ds.map g)) ρ1 := by
  have := comp_gen ten (p := fun _ => true) hs hx ho ha hg (cond := .bl true) (fun d _ => rfl) (fun d hd _ => he d hd)
  rw [this, List.filter_eq_self.mpr fun _ _ => rfl]
/-! ### whether a thing is a number; a spot -/
def isNumD : PyData → Bool
  | .int _ => true
  | _ => false
theorem num_eq (d : PyData) : (isTy .int d && !isTy .bool d) = isNumD d := by cases d <;> rfl
theorem run0 (Φ : Fns) (d : PyData) : runFd Φ fd0 [d] = .ok (.bool (isNumD d)) [] := by
  have := num_eq d
  cases h1 : isTy .int d <;> cases h2 : isTy .bool d <;> rw [h1, h2] at this <;> simp [runFd, eS_skip, eS_seq, eS_asg, eS_asgM, eS_asgs, eS_two, eS_app, eS_setM, eS_aug, eS_ret, eS_retM, eS_ite, eS_drop, eS_brk, eS_cnt, thn_nx, thn_ret, eE_var, eE_non, eE_bl, eE_int, eE_str, eE_gint, eE_nil, eE_cons, eE_bin, eE_neg, eE_cmp, eE_chain, eE_not, eE_and, eE_or, eE_ite, eE_tup, eE_lst, eE_ix, eE_sl, eE_rev, eE_call, eE_callio, eE_bi, eE_isi, eE_rng, eE_rng2, eE_enum, eE_zip, eE_lrng, eE_trng, eE_edic, eE_lenM, eE_ixM, eE_nilM, eE_popM, startS, rdVar, getS_0, getS_s, rb_ok, ro_ok, of_some, oof_some, putS, List.getElem?_cons_zero, List.getElem?_cons_succ, bin_add, bin_sub, parOf, FR.ofIo, mutS, remut, fd0, h1, h2] <;> exact this.symm
theorem run9 (Φ : Fns) (d : PyData) : runFd Φ fd9 [d] = .ok (.bool (isNumD d)) [] := by
  have := num_eq d
  cases h1 : isTy .int d <;> cases h2 : isTy .bool d <;> rw [h1, h2] at this <;> simp [runFd, eS_skip, eS_seq, eS_asg, eS_asgM, eS_asgs, eS_two, eS_app, eS_setM, eS_aug, eS_ret, eS_retM, eS_ite, eS_drop, eS_brk, eS_cnt, thn_nx, thn_ret, eE_var, eE_non, eE_bl, eE_int, eE_str, eE_gint, eE_nil, eE_cons, eE_bin, eE_neg, eE_cmp, eE_chain, eE_not, eE_and, eE_or, eE_ite, eE_tup, eE_lst, eE_ix, eE_sl, eE_rev, eE_call, eE_callio, eE_bi, eE_isi, eE_rng, eE_rng2, eE_enum, eE_zip, eE_lrng, eE_trng, eE_edic, eE_lenM, eE_ixM, eE_nilM, eE_popM, startS, rdVar, getS_0, getS_s, rb_ok, ro_ok, of_some, oof_some, putS, List.getElem?_cons_zero, List.getElem?_cons_succ, bin_add, bin_sub, parOf, FR.ofIo, mutS, remut, fd9, h1, h2] <;> exact this.symm
theorem boolsD_map {α : Type} (f : α → Bool) : ∀ ds : List α, boolsD (ds.map fun d => PyData.bool (f d)) = some (ds.map f)
  | [] => rfl
  | d :: r => by rw [List.map_cons]; show (boolsD _).map _ = _; rw [boolsD_map f r]; rfl
theorem intsD_map : ∀ ns : List Int, intsD (ns.map .int) = some ns
  | [] => rfl
  | n :: r => by show (intsD (r.map .int)).map _ = _; rw [intsD_map r]; rfl
theorem nums_iff : ∀ ds : List PyData, (ds.map isNumD).all id = true ↔ ∃ ns : List Int, ds = ns.map .int
  | [] => ⟨fun _ => ⟨[], rfl⟩, fun _ => rfl⟩
  | d :: r => by
    rw [List.map_cons, List.all_cons, Bool.and_eq_true, nums_iff r]
    constructor
    · rintro ⟨h, ns, rfl⟩
      cases d <;> first | (cases h; done) | skip
      rename_i i
      exact ⟨i :: ns, rfl⟩
    · rintro ⟨ns, e⟩
      cases ns with
      | nil => cases e
      | cons n ns => cases e; exact ⟨rfl, ns, rfl⟩
theorem nums_ints {ds : List PyData} : (ds.map isNumD).all id = (intsD ds).isSome := by
  cases h : (ds.map isNumD).all id
  · cases q : intsD ds with
    | none => rfl
    | some ns =>
      have : ∀ {ds : List PyData} {ns : List Int}, intsD ds = some ns → ds = ns.map .int := fun {ds} => by
        induction ds with
        | nil => intro ns h; cases h; rfl
        | cons d r ih =>
          intro ns h
          cases d <;> first | (cases h; done) | skip
          obtain ⟨m, hm, rfl⟩ := Option.map_eq_some_iff.mp h
          rw [ih hm]; rfl
      have := (nums_iff ds).mpr ⟨ns, this q⟩
      rw [h] at this; cases this
  · obtain ⟨ns, rfl⟩ := (nums_iff ds).mp h
    rw [intsD_map]; rfl
theorem intsD_eq {ds : List PyData} {ns : List Int} (h : intsD ds = some ns) : ds = ns.map .int := by
  have := nums_ints (ds := ds)
  rw [h] at this
  obtain ⟨m, rfl⟩ := (nums_iff ds).mp this
  rw [intsD_map] at h
  cases h; rfl
def lastI (ns : List Int) : Int := ns.getD (ns.length - 1) 0
def isSpotD : PyData → Bool
  | .tuple xs => decide (2 ≤ xs.length) && (decide (xs.length ≤ 4) && (match intsD xs with
    | some ns => decide (1 ≤ lastI ns) && decide (ns.foldl gI 0 = 1)
    | none => false))
  | _ => false
theorem ixAt_last {ns : List Int} (h : 1 ≤ ns.length) : ixAt (ns.map PyData.int) (-1) = some (.int (lastI ns)) := by
  unfold ixAt lastI
  rw [if_neg (by decide), List.length_map, if_pos (by omega)]
  have : ((ns.length : Int) + -1).toNat = ns.length - 1 := by omega
  rw [this, List.getElem?_map, List.getD_eq_getElem?_getD, List.getElem?_eq_getElem (by omega)]
  rfl
theorem all_biD (f : PyData → Bool) (ds : List PyData) : biD .all [.list (ds.map fun d => PyData.bool (f d))] = some (.bool ((ds.map f).all id)) := by
  show (boolsD _).map _ = _
  rw [boolsD_map]; rfl
theorem len_tup (xs : List PyData) : biD .len [.tuple xs] = some (.int xs.length) := rfl
theorem len_lst (xs : List PyData) : biD .len [.list xs] = some (.int xs.length) := rfl
theorem isTy_tt (xs : List PyData) : isTy .tuple (.tuple xs) = true := rfl
theorem isTy_ll (xs : List PyData) : isTy .list (.list xs) = true := rfl
theorem run3 (Φ : Fns) (h0 : ∀ d, Φ 0 [d] = .ok (.bool (isNumD d)) []) (h2 : ∀ ns : List Int, Φ 2 [.tuple (ns.map .int)] = .ok (.int (ns.foldl gI 0)) []) (d : PyData) : runFd Φ fd3 [d] = .ok (.bool (isSpotD d)) [] := by
  by_cases ht : ∃ xs, d = .tuple xs
  · obtain ⟨xs, rfl⟩ := ht
    have hc : evE Φ (.comp (.call 0 (.cons (.var 1) .nil)) (.one 1) (.var 0) (.bl true) [1]) [.val (.tuple xs), .un] = .ok (.list (xs.map fun d => .bool (isNumD d))) [.val (.tuple xs), .un] :=
      comp_all (fun d => [.val (.tuple xs), .val d]) rfl rfl rfl (fun d _ => ⟨rfl, fun _ => rfl⟩) ⟨rfl, fun _ => rfl⟩ (fun d _ => by simp [runFd, eS_skip, eS_seq, eS_asg, eS_asgM, eS_asgs, eS_two, eS_app, eS_setM, eS_aug, eS_ret, eS_retM, eS_ite, eS_drop, eS_brk, eS_cnt, thn_nx, thn_ret, eE_var, eE_non, eE_bl, eE_int, eE_str, eE_gint, eE_nil, eE_cons, eE_bin, eE_neg, eE_cmp, eE_chain, eE_not, eE_and, eE_or, eE_ite, eE_tup, eE_lst, eE_ix, eE_sl, eE_rev, eE_call, eE_callio, eE_bi, eE_isi, eE_rng, eE_rng2, eE_enum, eE_zip, eE_lrng, eE_trng, eE_edic, eE_lenM, eE_ixM, eE_nilM, eE_popM, startS, rdVar, getS_0, getS_s, rb_ok, ro_ok, of_some, oof_some, putS, List.getElem?_cons_zero, List.getElem?_cons_succ, bin_add, bin_sub, parOf, FR.ofIo, mutS, remut, tupOf, h0])
    by_cases l1 : 2 ≤ xs.length
    · by_cases l2 : xs.length ≤ 4
      · have c1 : (2 : Int) ≤ xs.length := by omega
        have c2 : (xs.length : Int) ≤ 4 := by omega
        cases hn : intsD xs with
        | none =>
          have ha : (xs.map isNumD).all id = false := by rw [nums_ints, hn]; rfl
          simp [runFd, eS_skip, eS_seq, eS_asg, eS_asgM, eS_asgs, eS_two, eS_app, eS_setM, eS_aug, eS_ret, eS_retM, eS_ite, eS_drop, eS_brk, eS_cnt, thn_nx, thn_ret, eE_var, eE_non, eE_bl, eE_int, eE_str, eE_gint, eE_nil, eE_cons, eE_bin, eE_neg, eE_cmp, eE_chain, eE_not, eE_and, eE_or, eE_ite, eE_tup, eE_lst, eE_ix, eE_sl, eE_rev, eE_call, eE_callio, eE_bi, eE_isi, eE_rng, eE_rng2, eE_enum, eE_zip, eE_lrng, eE_trng, eE_edic, eE_lenM, eE_ixM, eE_nilM, eE_popM, startS, rdVar, getS_0, getS_s, rb_ok, ro_ok, of_some, oof_some, putS, List.getElem?_cons_zero, List.getElem?_cons_succ, bin_add, bin_sub, parOf, FR.ofIo, mutS, remut, fd3, isTy_tt, tupOf, len_tup, cmp_le_int, c1, c2, hc, all_biD, ha, isSpotD, hn]
        | some ns =>
          have ha : (xs.map isNumD).all id = true := by rw [nums_ints, hn]; rfl
          have e := intsD_eq hn
          subst e
          have hl := ixAt_last (ns := ns) (by rw [List.length_map] at l1; omega)
          have hix : ixD (.tuple (ns.map .int)) (.int (-1)) = some (.int (lastI ns)) := hl
          have b1 : (1 : Int) ≤ lastI ns ∨ ¬ (1 : Int) ≤ lastI ns := by omega
          rcases b1 with b1 | b1 <;> simp [runFd, eS_skip, eS_seq, eS_asg, eS_asgM, eS_asgs, eS_two, eS_app, eS_setM, eS_aug, eS_ret, eS_retM, eS_ite, eS_drop, eS_brk, eS_cnt, thn_nx, thn_ret, eE_var, eE_non, eE_bl, eE_int, eE_str, eE_gint, eE_nil, eE_cons, eE_bin, eE_neg, eE_cmp, eE_chain, eE_not, eE_and, eE_or, eE_ite, eE_tup, eE_lst, eE_ix, eE_sl, eE_rev, eE_call, eE_callio, eE_bi, eE_isi, eE_rng, eE_rng2, eE_enum, eE_zip, eE_lrng, eE_trng, eE_edic, eE_lenM, eE_ixM, eE_nilM, eE_popM, startS, rdVar, getS_0, getS_s, rb_ok, ro_ok, of_some, oof_some, putS, List.getElem?_cons_zero, List.getElem?_cons_succ, bin_add, bin_sub, parOf, FR.ofIo, mutS, remut, fd3, isTy_tt, tupOf, len_tup, cmp_le_int, cmp_ge_int, cmp_eq_int, c1, c2, hc, all_biD, ha, isSpotD, hn, hix, h2, b1, l1, l2, -List.all_map, -List.length_map, -List.map_map]
      · have c1 : (2 : Int) ≤ xs.length := by omega
        have c2 : ¬ (xs.length : Int) ≤ 4 := by omega
        simp [runFd, eS_skip, eS_seq, eS_asg, eS_asgM, eS_asgs, eS_two, eS_app, eS_setM, eS_aug, eS_ret, eS_retM, eS_ite, eS_drop, eS_brk, eS_cnt, thn_nx, thn_ret, eE_var, eE_non, eE_bl, eE_int, eE_str, eE_gint, eE_nil, eE_cons, eE_bin, eE_neg, eE_cmp, eE_chain, eE_not, eE_and, eE_or, eE_ite, eE_tup, eE_lst, eE_ix, eE_sl, eE_rev, eE_call, eE_callio, eE_bi, eE_isi, eE_rng, eE_rng2, eE_enum, eE_zip, eE_lrng, eE_trng, eE_edic, eE_lenM, eE_ixM, eE_nilM, eE_popM, startS, rdVar, getS_0, getS_s, rb_ok, ro_ok, of_some, oof_some, putS, List.getElem?_cons_zero, List.getElem?_cons_succ, bin_add, bin_sub, parOf, FR.ofIo, mutS, remut, fd3, isTy_tt, tupOf, len_tup, cmp_le_int, c1, c2, isSpotD, l2]
    · have c1 : ¬ (2 : Int) ≤ xs.length := by omega
      simp [runFd, eS_skip, eS_seq, eS_asg, eS_asgM, eS_asgs, eS_two, eS_app, eS_setM, eS_aug, eS_ret, eS_retM, eS_ite, eS_drop, eS_brk, eS_cnt, thn_nx, thn_ret, eE_var, eE_non, eE_bl, eE_int, eE_str, eE_gint, eE_nil, eE_cons, eE_bin, eE_neg, eE_cmp, eE_chain, eE_not, eE_and, eE_or, eE_ite, eE_tup, eE_lst, eE_ix, eE_sl, eE_rev, eE_call, eE_callio, eE_bi, eE_isi, eE_rng, eE_rng2, eE_enum, eE_zip, eE_lrng, eE_trng, eE_edic, eE_lenM, eE_ixM, eE_nilM, eE_popM, startS, rdVar, getS_0, getS_s, rb_ok, ro_ok, of_some, oof_some, putS, List.getElem?_cons_zero, List.getElem?_cons_succ, bin_add, bin_sub, parOf, FR.ofIo, mutS, remut, fd3, isTy_tt, tupOf, len_tup, cmp_le_int, c1, isSpotD, l1]
  · have hty : isTy .tuple d = false := by cases d <;> first | rfl | exact absurd ⟨_, rfl⟩ ht
    have hs : isSpotD d = false := by cases d <;> first | rfl | exact absurd ⟨_, rfl⟩ ht
    simp [runFd, eS_skip, eS_seq, eS_asg, eS_asgM, eS_asgs, eS_two, eS_app, eS_setM, eS_aug, eS_ret, eS_retM, eS_ite, eS_drop, eS_brk, eS_cnt, thn_nx, thn_ret, eE_var, eE_non, eE_bl, eE_int, eE_str, eE_gint, eE_nil, eE_cons, eE_bin, eE_neg, eE_cmp, eE_chain, eE_not, eE_and, eE_or, eE_ite, eE_tup, eE_lst, eE_ix, eE_sl, eE_rev, eE_call, eE_callio, eE_bi, eE_isi, eE_rng, eE_rng2, eE_enum, eE_zip, eE_lrng, eE_trng, eE_edic, eE_lenM, eE_ixM, eE_nilM, eE_popM, startS, rdVar, getS_0, getS_s, rb_ok, ro_ok, of_some, oof_some, putS, List.getElem?_cons_zero, List.getElem?_cons_succ, bin_add, bin_sub, parOf, FR.ofIo, mutS, remut, fd3, hty, hs]
end HM

namespace HM
open PySem
/-- _law_is_spot -/
def fd11 : Fd := ⟨1, 3, none, false, (.seq (.ite (.or (.not (.isi (.var 0) .tuple)) (.or (.cmp .lt (.bi .len (.cons (.var 0) .nil)) (.int 2)) (.cmp .gt (.bi .len (.cons (.var 0) .nil)) (.int 4)))) (.seq (.ret (.bl false)) .skip) .skip) (.seq (.ite (.or (.cmp .ne (.comp (.var 2) (.one 2) (.var 0) (.not (.call 9 (.cons (.var 2) .nil))) [2]) (.lst .nil)) (.cmp .lt (.ix (.var 0) (.neg (.int 1))) (.int 1))) (.seq (.ret (.bl false)) .skip) .skip) (.seq (.asg 1 (.int 0)) (.seq (.for_ (.one 2) (.var 0) (.seq (.asg 1 (.call 7 (.cons (.var 1) (.cons (.var 2) .nil)))) .skip)) (.seq (.ret (.cmp .eq (.var 1) (.int 1))) .skip)))))⟩
/-- is_point -/
def fd18 : Fd := ⟨1, 2, none, false, (.seq (.ite (.or (.not (.call 3 (.cons (.var 0) .nil))) (.cmp .gt (.ix (.var 0) (.neg (.int 1))) (.gint "MOST_BOTTOM" 60))) (.seq (.ret (.bl false)) .skip) .skip) (.seq (.ret (.bi .all (.cons (.comp (.cmp .le (.bi .abs (.cons (.var 1) .nil)) (.gint "MOST_PLACE" 10000)) (.one 1) (.sl (.var 0) .non (.neg (.int 1))) (.bl true) [1]) .nil))) .skip))⟩
/-- is_points -/
def fd19 : Fd := ⟨1, 2, none, false, (.seq (.ite (.or (.not (.isi (.var 0) .list)) (.cmp .gt (.bi .len (.cons (.var 0) .nil)) (.gint "MOST_POINTS" 40))) (.seq (.ret (.bl false)) .skip) .skip) (.seq (.ite (.not (.bi .all (.cons (.comp (.call 18 (.cons (.var 1) .nil)) (.one 1) (.var 0) (.bl true) [1]) .nil))) (.seq (.ret (.bl false)) .skip) .skip) (.seq (.ret (.bi .all (.cons (.comp (.cmp .eq (.bi .len (.cons (.var 1) .nil)) (.bi .len (.cons (.ix (.var 0) (.int 0)) .nil))) (.one 1) (.var 0) (.bl true) [1]) .nil))) .skip)))⟩
/-- _law_is_point -/
def fd25 : Fd := ⟨1, 2, none, false, (.seq (.ite (.or (.not (.call 11 (.cons (.var 0) .nil))) (.cmp .gt (.ix (.var 0) (.neg (.int 1))) (.int 60))) (.seq (.ret (.bl false)) .skip) .skip) (.seq (.ret (.cmp .eq (.comp (.var 1) (.one 1) (.sl (.var 0) .non (.neg (.int 1))) (.or (.cmp .lt (.var 1) (.neg (.int 10000))) (.cmp .gt (.var 1) (.int 10000))) [1]) (.lst .nil))) .skip))⟩
/-- _law_are_points -/
def fd26 : Fd := ⟨1, 2, none, false, (.seq (.ite (.or (.not (.isi (.var 0) .list)) (.or (.cmp .gt (.bi .len (.cons (.var 0) .nil)) (.int 40)) (.cmp .ne (.comp (.var 1) (.one 1) (.var 0) (.not (.call 25 (.cons (.var 1) .nil))) [1]) (.lst .nil)))) (.seq (.ret (.bl false)) .skip) .skip) (.seq (.ret (.cmp .eq (.comp (.var 1) (.one 1) (.var 0) (.cmp .ne (.bi .len (.cons (.var 1) .nil)) (.bi .len (.cons (.ix (.var 0) (.int 0)) .nil))) [1]) (.lst .nil))) .skip))⟩
theorem loopG (Φ : Fns) (f : Nat) (h : ∀ a b : Int, Φ f [.int a, .int b] = .ok (.int (Int.gcd a b)) []) (d : PyData) : ∀ (ns : List Int) (g : Int) (s : Slot), Lo s → ∃ s', Lo s' ∧ forGo (forF Φ (.one 2) (.seq (.asg 1 (.call f (.cons (.var 1) (.cons (.var 2) .nil)))) .skip)) (ns.map .int) [.val d, .val (.int g), s] = .nx [.val d, .val (.int (ns.foldl gI g)), s']
  | [], g, s, hs => ⟨s, hs, rfl⟩
  | n :: r, g, s, hs => by
    obtain ⟨s', h1, e⟩ := loopG Φ f h d r (gI g n) (.val (.int n)) (.val _)
    refine ⟨s', h1, ?_⟩
    have st : forF Φ (.one 2) (.seq (.asg 1 (.call f (.cons (.var 1) (.cons (.var 2) .nil)))) .skip) (.int n) [.val d, .val (.int g), s] = .nx [.val d, .val (.int (gI g n)), .val (.int n)] := by
      rcases hs with rfl | ⟨x, rfl⟩ <;> simp [forF, asgT, runFd, eS_skip, eS_seq, eS_asg, eS_asgM, eS_asgs, eS_two, eS_app, eS_setM, eS_aug, eS_ret, eS_retM, eS_ite, eS_drop, eS_brk, eS_cnt, thn_nx, thn_ret, eE_var, eE_non, eE_bl, eE_int, eE_str, eE_gint, eE_nil, eE_cons, eE_bin, eE_neg, eE_cmp, eE_chain, eE_not, eE_and, eE_or, eE_ite, eE_tup, eE_lst, eE_ix, eE_sl, eE_rev, eE_call, eE_callio, eE_bi, eE_isi, eE_rng, eE_rng2, eE_enum, eE_zip, eE_lrng, eE_trng, eE_edic, eE_lenM, eE_ixM, eE_nilM, eE_popM, startS, rdVar, getS_0, getS_s, rb_ok, ro_ok, of_some, oof_some, putS, List.getElem?_cons_zero, List.getElem?_cons_succ, bin_add, bin_sub, parOf, FR.ofIo, mutS, remut, tupOf, h, gI]
    rw [List.map_cons, forGo, st]
    exact e
theorem isEmpty_filter (p : PyData → Bool) (xs : List PyData) : (xs.filter fun d => !p d).isEmpty = (xs.map p).all id := by
  induction xs with
  | nil => rfl
  | cons d r ih =>
    rw [List.filter_cons, List.map_cons, List.all_cons]
    cases p d
    · rfl
    · simpa using ih
theorem cmp_ne_nil (xs : List PyData) : cmpD .ne (.list xs) (.list []) = some (!xs.isEmpty) := rfl
theorem cmp_eq_nil (xs : List PyData) : cmpD .eq (.list xs) (.list []) = some xs.isEmpty := rfl
theorem run11 (Φ : Fns) (h9 : ∀ d, Φ 9 [d] = .ok (.bool (isNumD d)) []) (h7 : ∀ a b : Int, Φ 7 [.int a, .int b] = .ok (.int (Int.gcd a b)) []) (d : PyData) : runFd Φ fd11 [d] = .ok (.bool (isSpotD d)) [] := by
  by_cases ht : ∃ xs, d = .tuple xs
  · obtain ⟨xs, rfl⟩ := ht
    have hc : evE Φ (.comp (.var 2) (.one 2) (.var 0) (.not (.call 9 (.cons (.var 2) .nil))) [2]) [.val (.tuple xs), .un, .un] = .ok (.list ((xs.filter fun d => !isNumD d).map fun d => d)) [.val (.tuple xs), .un, .un] :=
      comp_gen (fun d => [.val (.tuple xs), .un, .val d]) rfl rfl rfl (fun d _ => ⟨rfl, fun _ => rfl⟩) ⟨rfl, fun _ => rfl⟩ (fun d _ => by simp [runFd, eS_skip, eS_seq, eS_asg, eS_asgM, eS_asgs, eS_two, eS_app, eS_setM, eS_aug, eS_ret, eS_retM, eS_ite, eS_drop, eS_brk, eS_cnt, thn_nx, thn_ret, eE_var, eE_non, eE_bl, eE_int, eE_str, eE_gint, eE_nil, eE_cons, eE_bin, eE_neg, eE_cmp, eE_chain, eE_not, eE_and, eE_or, eE_ite, eE_tup, eE_lst, eE_ix, eE_sl, eE_rev, eE_call, eE_callio, eE_bi, eE_isi, eE_rng, eE_rng2, eE_enum, eE_zip, eE_lrng, eE_trng, eE_edic, eE_lenM, eE_ixM, eE_nilM, eE_popM, startS, rdVar, getS_0, getS_s, rb_ok, ro_ok, of_some, oof_some, putS, List.getElem?_cons_zero, List.getElem?_cons_succ, bin_add, bin_sub, parOf, FR.ofIo, mutS, remut, tupOf, h9]) (fun d _ _ => rfl)
    have he := isEmpty_filter isNumD xs
    by_cases l1 : 2 ≤ xs.length
    · by_cases l2 : xs.length ≤ 4
      · have c1 : ¬ (xs.length : Int) < 2 := by omega
        have c2 : ¬ (4 : Int) < xs.length := by omega
        cases hn : intsD xs with
        | none =>
          have ha : (xs.map isNumD).all id = false := by rw [nums_ints, hn]; rfl
          rw [ha] at he
          simp [runFd, eS_skip, eS_seq, eS_asg, eS_asgM, eS_asgs, eS_two, eS_app, eS_setM, eS_aug, eS_ret, eS_retM, eS_ite, eS_drop, eS_brk, eS_cnt, thn_nx, thn_ret, eE_var, eE_non, eE_bl, eE_int, eE_str, eE_gint, eE_nil, eE_cons, eE_bin, eE_neg, eE_cmp, eE_chain, eE_not, eE_and, eE_or, eE_ite, eE_tup, eE_lst, eE_ix, eE_sl, eE_rev, eE_call, eE_callio, eE_bi, eE_isi, eE_rng, eE_rng2, eE_enum, eE_zip, eE_lrng, eE_trng, eE_edic, eE_lenM, eE_ixM, eE_nilM, eE_popM, startS, rdVar, getS_0, getS_s, rb_ok, ro_ok, of_some, oof_some, putS, List.getElem?_cons_zero, List.getElem?_cons_succ, bin_add, bin_sub, parOf, FR.ofIo, mutS, remut, fd11, isTy_tt, tupOf, len_tup, cmp_lt_int, cmp_gt_int, c1, c2, hc, cmp_ne_nil, he, isSpotD, hn, -List.isEmpty_iff, -List.isEmpty_eq_false_iff, -List.map_map]
        | some ns =>
          have ha : (xs.map isNumD).all id = true := by rw [nums_ints, hn]; rfl
          have e := intsD_eq hn
          subst e
          rw [ha] at he
          have hl := ixAt_last (ns := ns) (by rw [List.length_map] at l1; omega)
          have hix : ixD (.tuple (ns.map .int)) (.int (-1)) = some (.int (lastI ns)) := hl
          have he2 : ((ns.map PyData.int).filter fun d => !isNumD d) = [] := List.isEmpty_iff.mp he
          rw [he2] at hc
          by_cases b1 : 1 ≤ lastI ns
          · have b2 : ¬ lastI ns < 1 := by omega
            obtain ⟨s', _, lp⟩ := loopG Φ 7 h7 (.tuple (ns.map .int)) ns 0 .un .un
            simp [runFd, eS_skip, eS_seq, eS_asg, eS_asgM, eS_asgs, eS_two, eS_app, eS_setM, eS_aug, eS_ret, eS_retM, eS_ite, eS_drop, eS_brk, eS_cnt, thn_nx, thn_ret, eE_var, eE_non, eE_bl, eE_int, eE_str, eE_gint, eE_nil, eE_cons, eE_bin, eE_neg, eE_cmp, eE_chain, eE_not, eE_and, eE_or, eE_ite, eE_tup, eE_lst, eE_ix, eE_sl, eE_rev, eE_call, eE_callio, eE_bi, eE_isi, eE_rng, eE_rng2, eE_enum, eE_zip, eE_lrng, eE_trng, eE_edic, eE_lenM, eE_ixM, eE_nilM, eE_popM, startS, rdVar, getS_0, getS_s, rb_ok, ro_ok, of_some, oof_some, putS, List.getElem?_cons_zero, List.getElem?_cons_succ, bin_add, bin_sub, parOf, FR.ofIo, mutS, remut, fd11, eS_for, itemsD, isTy_tt, tupOf, len_tup, cmp_lt_int, cmp_gt_int, cmp_eq_int, c1, c2, hc, cmp_ne_nil, isSpotD, hn, hix, b1, b2, l1, l2, lp, -List.length_map]
          · have b2 : lastI ns < 1 := by omega
            simp [runFd, eS_skip, eS_seq, eS_asg, eS_asgM, eS_asgs, eS_two, eS_app, eS_setM, eS_aug, eS_ret, eS_retM, eS_ite, eS_drop, eS_brk, eS_cnt, thn_nx, thn_ret, eE_var, eE_non, eE_bl, eE_int, eE_str, eE_gint, eE_nil, eE_cons, eE_bin, eE_neg, eE_cmp, eE_chain, eE_not, eE_and, eE_or, eE_ite, eE_tup, eE_lst, eE_ix, eE_sl, eE_rev, eE_call, eE_callio, eE_bi, eE_isi, eE_rng, eE_rng2, eE_enum, eE_zip, eE_lrng, eE_trng, eE_edic, eE_lenM, eE_ixM, eE_nilM, eE_popM, startS, rdVar, getS_0, getS_s, rb_ok, ro_ok, of_some, oof_some, putS, List.getElem?_cons_zero, List.getElem?_cons_succ, bin_add, bin_sub, parOf, FR.ofIo, mutS, remut, fd11, eS_for, isTy_tt, tupOf, len_tup, cmp_lt_int, cmp_gt_int, cmp_eq_int, c1, c2, hc, cmp_ne_nil, isSpotD, hn, hix, b1, b2, l1, l2, -List.length_map]
      · have c1 : ¬ (xs.length : Int) < 2 := by omega
        have c2 : (4 : Int) < xs.length := by omega
        simp [runFd, eS_skip, eS_seq, eS_asg, eS_asgM, eS_asgs, eS_two, eS_app, eS_setM, eS_aug, eS_ret, eS_retM, eS_ite, eS_drop, eS_brk, eS_cnt, thn_nx, thn_ret, eE_var, eE_non, eE_bl, eE_int, eE_str, eE_gint, eE_nil, eE_cons, eE_bin, eE_neg, eE_cmp, eE_chain, eE_not, eE_and, eE_or, eE_ite, eE_tup, eE_lst, eE_ix, eE_sl, eE_rev, eE_call, eE_callio, eE_bi, eE_isi, eE_rng, eE_rng2, eE_enum, eE_zip, eE_lrng, eE_trng, eE_edic, eE_lenM, eE_ixM, eE_nilM, eE_popM, startS, rdVar, getS_0, getS_s, rb_ok, ro_ok, of_some, oof_some, putS, List.getElem?_cons_zero, List.getElem?_cons_succ, bin_add, bin_sub, parOf, FR.ofIo, mutS, remut, fd11, isTy_tt, tupOf, len_tup, cmp_lt_int, cmp_gt_int, c1, c2, isSpotD, l2]
    · have c1 : (xs.length : Int) < 2 := by omega
      simp [runFd, eS_skip, eS_seq, eS_asg, eS_asgM, eS_asgs, eS_two, eS_app, eS_setM, eS_aug, eS_ret, eS_retM, eS_ite, eS_drop, eS_brk, eS_cnt, thn_nx, thn_ret, eE_var, eE_non, eE_bl, eE_int, eE_str, eE_gint, eE_nil, eE_cons, eE_bin, eE_neg, eE_cmp, eE_chain, eE_not, eE_and, eE_or, eE_ite, eE_tup, eE_lst, eE_ix, eE_sl, eE_rev, eE_call, eE_callio, eE_bi, eE_isi, eE_rng, eE_rng2, eE_enum, eE_zip, eE_lrng, eE_trng, eE_edic, eE_lenM, eE_ixM, eE_nilM, eE_popM, startS, rdVar, getS_0, getS_s, rb_ok, ro_ok, of_some, oof_some, putS, List.getElem?_cons_zero, List.getElem?_cons_succ, bin_add, bin_sub, parOf, FR.ofIo, mutS, remut, fd11, isTy_tt, tupOf, len_tup, cmp_lt_int, c1, isSpotD, l1]
  · have hty : isTy .tuple d = false := by cases d <;> first | rfl | exact absurd ⟨_, rfl⟩ ht
    have hs : isSpotD d = false := by cases d <;> first | rfl | exact absurd ⟨_, rfl⟩ ht
    simp [runFd, eS_skip, eS_seq, eS_asg, eS_asgM, eS_asgs, eS_two, eS_app, eS_setM, eS_aug, eS_ret, eS_retM, eS_ite, eS_drop, eS_brk, eS_cnt, thn_nx, thn_ret, eE_var, eE_non, eE_bl, eE_int, eE_str, eE_gint, eE_nil, eE_cons, eE_bin, eE_neg, eE_cmp, eE_chain, eE_not, eE_and, eE_or, eE_ite, eE_tup, eE_lst, eE_ix, eE_sl, eE_rev, eE_call, eE_callio, eE_bi, eE_isi, eE_rng, eE_rng2, eE_enum, eE_zip, eE_lrng, eE_trng, eE_edic, eE_lenM, eE_ixM, eE_nilM, eE_popM, startS, rdVar, getS_0, getS_s, rb_ok, ro_ok, of_some, oof_some, putS, List.getElem?_cons_zero, List.getElem?_cons_succ, bin_add, bin_sub, parOf, FR.ofIo, mutS, remut, fd11, hty, hs]
def pointB : PyData → Bool
  | .tuple xs => (match intsD xs with
    | some ns => decide (lastI ns ≤ 60) && ((ns.take (ns.length - 1)).map fun n => decide (-10000 ≤ n ∧ n ≤ 10000)).all id
    | none => false)
  | _ => false
def isPointD (d : PyData) : Bool := isSpotD d && pointB d
theorem spot_ints {d : PyData} (h : isSpotD d = true) : ∃ ns : List Int, d = .tuple (ns.map .int) ∧ 2 ≤ ns.length ∧ ns.length ≤ 4 ∧ 1 ≤ lastI ns ∧ ns.foldl gI 0 = 1 := by
  cases d with
  | tuple xs =>
    unfold isSpotD at h
    rw [Bool.and_eq_true, Bool.and_eq_true] at h
    obtain ⟨h1, h2, h3⟩ := h
    split at h3
    · rename_i ns hn
      have e := intsD_eq hn
      subst e
      rw [Bool.and_eq_true] at h3
      have h1 := of_decide_eq_true h1
      have h2 := of_decide_eq_true h2
      rw [List.length_map] at h1 h2
      exact ⟨ns, rfl, h1, h2, of_decide_eq_true h3.1, of_decide_eq_true h3.2⟩
    · cases h3
  | _ => cases h
theorem sl_init (xs : List PyData) : slD (.tuple xs) .none (.int (-1)) = some (.tuple (xs.take (xs.length - 1))) := by
  show some (PyData.tuple (cut xs 0 (sIx xs.length (-1)))) = _
  have : sIx xs.length (-1) = xs.length - 1 := by
    unfold sIx
    rw [if_neg (by decide)]
    omega
  rw [this]; rfl
theorem abs_le_iff (n : Int) : decide ((if n < 0 then -n else n) ≤ 10000) = decide (-10000 ≤ n ∧ n ≤ 10000) := by
  apply decide_eq_decide.mpr
  split <;> omega
theorem run18 (Φ : Fns) (h3 : ∀ d, Φ 3 [d] = .ok (.bool (isSpotD d)) []) (d : PyData) : runFd Φ fd18 [d] = .ok (.bool (isPointD d)) [] := by
  cases hs : isSpotD d
  · have : isPointD d = false := by unfold isPointD; rw [hs]; rfl
    simp [runFd, eS_skip, eS_seq, eS_asg, eS_asgM, eS_asgs, eS_two, eS_app, eS_setM, eS_aug, eS_ret, eS_retM, eS_ite, eS_drop, eS_brk, eS_cnt, thn_nx, thn_ret, eE_var, eE_non, eE_bl, eE_int, eE_str, eE_gint, eE_nil, eE_cons, eE_bin, eE_neg, eE_cmp, eE_chain, eE_not, eE_and, eE_or, eE_ite, eE_tup, eE_lst, eE_ix, eE_sl, eE_rev, eE_call, eE_callio, eE_bi, eE_isi, eE_rng, eE_rng2, eE_enum, eE_zip, eE_lrng, eE_trng, eE_edic, eE_lenM, eE_ixM, eE_nilM, eE_popM, startS, rdVar, getS_0, getS_s, rb_ok, ro_ok, of_some, oof_some, putS, List.getElem?_cons_zero, List.getElem?_cons_succ, bin_add, bin_sub, parOf, FR.ofIo, mutS, remut, fd18, tupOf, h3, hs, this]
  · obtain ⟨ns, rfl, l1, l2, l3, l4⟩ := spot_ints hs
    have hl := ixAt_last (ns := ns) (by omega)
    have hix : ixD (.tuple (ns.map .int)) (.int (-1)) = some (.int (lastI ns)) := hl
    have sl := sl_init (ns.map PyData.int)
    rw [← List.map_take, List.length_map] at sl
    have hc : evE Φ (.comp (.cmp .le (.bi .abs (.cons (.var 1) .nil)) (.gint "MOST_PLACE" 10000)) (.one 1) (.sl (.var 0) .non (.neg (.int 1))) (.bl true) [1]) [.val (.tuple (ns.map .int)), .un] = .ok (.list (((ns.take (ns.length - 1)).map PyData.int).map fun d => .bool (match d with | .int n => decide (-10000 ≤ n ∧ n ≤ 10000) | _ => false))) [.val (.tuple (ns.map .int)), .un] :=
      comp_all (x := .tuple ((ns.take (ns.length - 1)).map PyData.int)) (fun d => [.val (.tuple (ns.map .int)), .val d]) (by simp [runFd, eS_skip, eS_seq, eS_asg, eS_asgM, eS_asgs, eS_two, eS_app, eS_setM, eS_aug, eS_ret, eS_retM, eS_ite, eS_drop, eS_brk, eS_cnt, thn_nx, thn_ret, eE_var, eE_non, eE_bl, eE_int, eE_str, eE_gint, eE_nil, eE_cons, eE_bin, eE_neg, eE_cmp, eE_chain, eE_not, eE_and, eE_or, eE_ite, eE_tup, eE_lst, eE_ix, eE_sl, eE_rev, eE_call, eE_callio, eE_bi, eE_isi, eE_rng, eE_rng2, eE_enum, eE_zip, eE_lrng, eE_trng, eE_edic, eE_lenM, eE_ixM, eE_nilM, eE_popM, startS, rdVar, getS_0, getS_s, rb_ok, ro_ok, of_some, oof_some, putS, List.getElem?_cons_zero, List.getElem?_cons_succ, bin_add, bin_sub, parOf, FR.ofIo, mutS, remut, slOk, E.isNon, sl]) rfl rfl (fun d _ => ⟨rfl, fun _ => rfl⟩) ⟨rfl, fun _ => rfl⟩ (fun d hd => by
        obtain ⟨n, _, rfl⟩ := List.mem_map.mp hd
        have := abs_le_iff n
        simp [runFd, eS_skip, eS_seq, eS_asg, eS_asgM, eS_asgs, eS_two, eS_app, eS_setM, eS_aug, eS_ret, eS_retM, eS_ite, eS_drop, eS_brk, eS_cnt, thn_nx, thn_ret, eE_var, eE_non, eE_bl, eE_int, eE_str, eE_gint, eE_nil, eE_cons, eE_bin, eE_neg, eE_cmp, eE_chain, eE_not, eE_and, eE_or, eE_ite, eE_tup, eE_lst, eE_ix, eE_sl, eE_rev, eE_call, eE_callio, eE_bi, eE_isi, eE_rng, eE_rng2, eE_enum, eE_zip, eE_lrng, eE_trng, eE_edic, eE_lenM, eE_ixM, eE_nilM, eE_popM, startS, rdVar, getS_0, getS_s, rb_ok, ro_ok, of_some, oof_some, putS, List.getElem?_cons_zero, List.getElem?_cons_succ, bin_add, bin_sub, parOf, FR.ofIo, mutS, remut, tupOf, biD, cmp_le_int, -Int.not_lt, this])
    have ha := all_biD (fun d => (match d with | .int n => decide (-10000 ≤ n ∧ n ≤ 10000) | _ => false)) ((ns.take (ns.length - 1)).map PyData.int)
    have hp : isPointD (.tuple (ns.map .int)) = (decide (lastI ns ≤ 60) && (((ns.take (ns.length - 1)).map PyData.int).map fun d => (match d with | .int n => decide (-10000 ≤ n ∧ n ≤ 10000) | _ => false)).all id) := by
      unfold isPointD pointB
      rw [hs]
      dsimp only
      rw [intsD_map, List.map_map]
      rfl
    generalize (((ns.take (ns.length - 1)).map PyData.int).map fun d => PyData.bool (match d with | .int n => decide (-10000 ≤ n ∧ n ≤ 10000) | _ => false)) = L at hc ha
    generalize (((ns.take (ns.length - 1)).map PyData.int).map fun d => (match d with | .int n => decide (-10000 ≤ n ∧ n ≤ 10000) | _ => false)).all id = B at ha hp
    by_cases c : lastI ns ≤ 60
    · have c2 : ¬ (60 : Int) < lastI ns := by omega
      rw [hp]
      simp [runFd, eS_skip, eS_seq, eS_asg, eS_asgM, eS_asgs, eS_two, eS_app, eS_setM, eS_aug, eS_ret, eS_retM, eS_ite, eS_drop, eS_brk, eS_cnt, thn_nx, thn_ret, eE_var, eE_non, eE_bl, eE_int, eE_str, eE_gint, eE_nil, eE_cons, eE_bin, eE_neg, eE_cmp, eE_chain, eE_not, eE_and, eE_or, eE_ite, eE_tup, eE_lst, eE_ix, eE_sl, eE_rev, eE_call, eE_callio, eE_bi, eE_isi, eE_rng, eE_rng2, eE_enum, eE_zip, eE_lrng, eE_trng, eE_edic, eE_lenM, eE_ixM, eE_nilM, eE_popM, startS, rdVar, getS_0, getS_s, rb_ok, ro_ok, of_some, oof_some, putS, List.getElem?_cons_zero, List.getElem?_cons_succ, bin_add, bin_sub, parOf, FR.ofIo, mutS, remut, fd18, tupOf, h3, hs, hix, cmp_gt_int, c2, hc, ha, c]
    · have c2 : (60 : Int) < lastI ns := by omega
      rw [hp]
      simp [runFd, eS_skip, eS_seq, eS_asg, eS_asgM, eS_asgs, eS_two, eS_app, eS_setM, eS_aug, eS_ret, eS_retM, eS_ite, eS_drop, eS_brk, eS_cnt, thn_nx, thn_ret, eE_var, eE_non, eE_bl, eE_int, eE_str, eE_gint, eE_nil, eE_cons, eE_bin, eE_neg, eE_cmp, eE_chain, eE_not, eE_and, eE_or, eE_ite, eE_tup, eE_lst, eE_ix, eE_sl, eE_rev, eE_call, eE_callio, eE_bi, eE_isi, eE_rng, eE_rng2, eE_enum, eE_zip, eE_lrng, eE_trng, eE_edic, eE_lenM, eE_ixM, eE_nilM, eE_popM, startS, rdVar, getS_0, getS_s, rb_ok, ro_ok, of_some, oof_some, putS, List.getElem?_cons_zero, List.getElem?_cons_succ, bin_add, bin_sub, parOf, FR.ofIo, mutS, remut, fd18, tupOf, h3, hs, hix, cmp_gt_int, c2, c]

theorem all_iff_map {α : Type} (p : α → Bool) (xs : List α) : (xs.map p).all id = xs.all p := by rw [List.all_map]; rfl
def lenD : PyData → Int
  | .tuple xs => xs.length
  | _ => 0
def hdD : List PyData → PyData
  | [] => .none
  | x :: _ => x
def sameLen (xs : List PyData) (d : PyData) : Bool := decide (lenD d = lenD (hdD xs))
def isPointsD : PyData → Bool
  | .list xs => decide (xs.length ≤ 40) && ((xs.map isPointD).all id && (xs.map (sameLen xs)).all id)
  | _ => false
theorem point_tup {d : PyData} (h : isPointD d = true) : ∃ ns : List Int, d = .tuple (ns.map .int) ∧ 2 ≤ ns.length ∧ ns.length ≤ 4 := by
  unfold isPointD at h
  rw [Bool.and_eq_true] at h
  obtain ⟨ns, rfl, h1, h2, _⟩ := spot_ints h.1
  exact ⟨ns, rfl, h1, h2⟩
theorem point_len {d : PyData} (h : isPointD d = true) : biD .len [d] = some (.int (lenD d)) := by
  obtain ⟨ns, rfl, _⟩ := point_tup h; rfl
theorem run19 (Φ : Fns) (h18 : ∀ d, Φ 18 [d] = .ok (.bool (isPointD d)) []) (d : PyData) : runFd Φ fd19 [d] = .ok (.bool (isPointsD d)) [] := by
  by_cases ht : ∃ xs, d = .list xs
  · obtain ⟨xs, rfl⟩ := ht
    have hc : evE Φ (.comp (.call 18 (.cons (.var 1) .nil)) (.one 1) (.var 0) (.bl true) [1]) [.val (.list xs), .un] = .ok (.list (xs.map fun d => .bool (isPointD d))) [.val (.list xs), .un] :=
      comp_all (fun d => [.val (.list xs), .val d]) rfl rfl rfl (fun d _ => ⟨rfl, fun _ => rfl⟩) ⟨rfl, fun _ => rfl⟩ (fun d _ => by simp [runFd, eS_skip, eS_seq, eS_asg, eS_asgM, eS_asgs, eS_two, eS_app, eS_setM, eS_aug, eS_ret, eS_retM, eS_ite, eS_drop, eS_brk, eS_cnt, thn_nx, thn_ret, eE_var, eE_non, eE_bl, eE_int, eE_str, eE_gint, eE_nil, eE_cons, eE_bin, eE_neg, eE_cmp, eE_chain, eE_not, eE_and, eE_or, eE_ite, eE_tup, eE_lst, eE_ix, eE_sl, eE_rev, eE_call, eE_callio, eE_bi, eE_isi, eE_rng, eE_rng2, eE_enum, eE_zip, eE_lrng, eE_trng, eE_edic, eE_lenM, eE_ixM, eE_nilM, eE_popM, startS, rdVar, getS_0, getS_s, rb_ok, ro_ok, of_some, oof_some, putS, List.getElem?_cons_zero, List.getElem?_cons_succ, bin_add, bin_sub, parOf, FR.ofIo, mutS, remut, tupOf, h18])
    have ha := all_biD isPointD xs
    by_cases l1 : xs.length ≤ 40
    · have c1 : ¬ (40 : Int) < xs.length := by omega
      cases hp : (xs.map isPointD).all id
      · rw [hp] at ha
        simp [runFd, eS_skip, eS_seq, eS_asg, eS_asgM, eS_asgs, eS_two, eS_app, eS_setM, eS_aug, eS_ret, eS_retM, eS_ite, eS_drop, eS_brk, eS_cnt, thn_nx, thn_ret, eE_var, eE_non, eE_bl, eE_int, eE_str, eE_gint, eE_nil, eE_cons, eE_bin, eE_neg, eE_cmp, eE_chain, eE_not, eE_and, eE_or, eE_ite, eE_tup, eE_lst, eE_ix, eE_sl, eE_rev, eE_call, eE_callio, eE_bi, eE_isi, eE_rng, eE_rng2, eE_enum, eE_zip, eE_lrng, eE_trng, eE_edic, eE_lenM, eE_ixM, eE_nilM, eE_popM, startS, rdVar, getS_0, getS_s, rb_ok, ro_ok, of_some, oof_some, putS, List.getElem?_cons_zero, List.getElem?_cons_succ, bin_add, bin_sub, parOf, FR.ofIo, mutS, remut, fd19, isTy_ll, tupOf, len_lst, cmp_gt_int, c1, hc, ha, isPointsD, hp, -List.all_map]
      · rw [hp] at ha
        have all : ∀ d ∈ xs, isPointD d = true := by rw [all_iff_map] at hp; exact List.all_eq_true.mp hp
        have hc2 : evE Φ (.comp (.cmp .eq (.bi .len (.cons (.var 1) .nil)) (.bi .len (.cons (.ix (.var 0) (.int 0)) .nil))) (.one 1) (.var 0) (.bl true) [1]) [.val (.list xs), .un] = .ok (.list (xs.map fun d => .bool (sameLen xs d))) [.val (.list xs), .un] :=
          comp_all (fun d => [.val (.list xs), .val d]) rfl rfl rfl (fun d _ => ⟨rfl, fun _ => rfl⟩) ⟨rfl, fun _ => rfl⟩ (fun d hd => by
            cases xs with
            | nil => cases hd
            | cons x r =>
              have h1 := point_len (all d hd)
              have h2 := point_len (all x List.mem_cons_self)
              have h3 : ixD (.list (x :: r)) (.int 0) = some x := rfl
              simp [runFd, eS_skip, eS_seq, eS_asg, eS_asgM, eS_asgs, eS_two, eS_app, eS_setM, eS_aug, eS_ret, eS_retM, eS_ite, eS_drop, eS_brk, eS_cnt, thn_nx, thn_ret, eE_var, eE_non, eE_bl, eE_int, eE_str, eE_gint, eE_nil, eE_cons, eE_bin, eE_neg, eE_cmp, eE_chain, eE_not, eE_and, eE_or, eE_ite, eE_tup, eE_lst, eE_ix, eE_sl, eE_rev, eE_call, eE_callio, eE_bi, eE_isi, eE_rng, eE_rng2, eE_enum, eE_zip, eE_lrng, eE_trng, eE_edic, eE_lenM, eE_ixM, eE_nilM, eE_popM, startS, rdVar, getS_0, getS_s, rb_ok, ro_ok, of_some, oof_some, putS, List.getElem?_cons_zero, List.getElem?_cons_succ, bin_add, bin_sub, parOf, FR.ofIo, mutS, remut, tupOf, h1, h2, h3, cmp_eq_int, sameLen, hdD]
              try rfl)
        have ha2 := all_biD (sameLen xs) xs
        simp [runFd, eS_skip, eS_seq, eS_asg, eS_asgM, eS_asgs, eS_two, eS_app, eS_setM, eS_aug, eS_ret, eS_retM, eS_ite, eS_drop, eS_brk, eS_cnt, thn_nx, thn_ret, eE_var, eE_non, eE_bl, eE_int, eE_str, eE_gint, eE_nil, eE_cons, eE_bin, eE_neg, eE_cmp, eE_chain, eE_not, eE_and, eE_or, eE_ite, eE_tup, eE_lst, eE_ix, eE_sl, eE_rev, eE_call, eE_callio, eE_bi, eE_isi, eE_rng, eE_rng2, eE_enum, eE_zip, eE_lrng, eE_trng, eE_edic, eE_lenM, eE_ixM, eE_nilM, eE_popM, startS, rdVar, getS_0, getS_s, rb_ok, ro_ok, of_some, oof_some, putS, List.getElem?_cons_zero, List.getElem?_cons_succ, bin_add, bin_sub, parOf, FR.ofIo, mutS, remut, fd19, isTy_ll, tupOf, len_lst, cmp_gt_int, c1, hc, ha, hc2, ha2, isPointsD, hp, l1, -List.all_map]
    · have c1 : (40 : Int) < xs.length := by omega
      simp [runFd, eS_skip, eS_seq, eS_asg, eS_asgM, eS_asgs, eS_two, eS_app, eS_setM, eS_aug, eS_ret, eS_retM, eS_ite, eS_drop, eS_brk, eS_cnt, thn_nx, thn_ret, eE_var, eE_non, eE_bl, eE_int, eE_str, eE_gint, eE_nil, eE_cons, eE_bin, eE_neg, eE_cmp, eE_chain, eE_not, eE_and, eE_or, eE_ite, eE_tup, eE_lst, eE_ix, eE_sl, eE_rev, eE_call, eE_callio, eE_bi, eE_isi, eE_rng, eE_rng2, eE_enum, eE_zip, eE_lrng, eE_trng, eE_edic, eE_lenM, eE_ixM, eE_nilM, eE_popM, startS, rdVar, getS_0, getS_s, rb_ok, ro_ok, of_some, oof_some, putS, List.getElem?_cons_zero, List.getElem?_cons_succ, bin_add, bin_sub, parOf, FR.ofIo, mutS, remut, fd19, isTy_ll, tupOf, len_lst, cmp_gt_int, c1, isPointsD, l1]
  · have hty : isTy .list d = false := by cases d <;> first | rfl | exact absurd ⟨_, rfl⟩ ht
    have hs : isPointsD d = false := by cases d <;> first | rfl | exact absurd ⟨_, rfl⟩ ht
    simp [runFd, eS_skip, eS_seq, eS_asg, eS_asgM, eS_asgs, eS_two, eS_app, eS_setM, eS_aug, eS_ret, eS_retM, eS_ite, eS_drop, eS_brk, eS_cnt, thn_nx, thn_ret, eE_var, eE_non, eE_bl, eE_int, eE_str, eE_gint, eE_nil, eE_cons, eE_bin, eE_neg, eE_cmp, eE_chain, eE_not, eE_and, eE_or, eE_ite, eE_tup, eE_lst, eE_ix, eE_sl, eE_rev, eE_call, eE_callio, eE_bi, eE_isi, eE_rng, eE_rng2, eE_enum, eE_zip, eE_lrng, eE_trng, eE_edic, eE_lenM, eE_ixM, eE_nilM, eE_popM, startS, rdVar, getS_0, getS_s, rb_ok, ro_ok, of_some, oof_some, putS, List.getElem?_cons_zero, List.getElem?_cons_succ, bin_add, bin_sub, parOf, FR.ofIo, mutS, remut, fd19, hty, hs]
theorem run25 (Φ : Fns) (h11 : ∀ d, Φ 11 [d] = .ok (.bool (isSpotD d)) []) (d : PyData) : runFd Φ fd25 [d] = .ok (.bool (isPointD d)) [] := by
  cases hs : isSpotD d
  · have : isPointD d = false := by unfold isPointD; rw [hs]; rfl
    simp [runFd, eS_skip, eS_seq, eS_asg, eS_asgM, eS_asgs, eS_two, eS_app, eS_setM, eS_aug, eS_ret, eS_retM, eS_ite, eS_drop, eS_brk, eS_cnt, thn_nx, thn_ret, eE_var, eE_non, eE_bl, eE_int, eE_str, eE_gint, eE_nil, eE_cons, eE_bin, eE_neg, eE_cmp, eE_chain, eE_not, eE_and, eE_or, eE_ite, eE_tup, eE_lst, eE_ix, eE_sl, eE_rev, eE_call, eE_callio, eE_bi, eE_isi, eE_rng, eE_rng2, eE_enum, eE_zip, eE_lrng, eE_trng, eE_edic, eE_lenM, eE_ixM, eE_nilM, eE_popM, startS, rdVar, getS_0, getS_s, rb_ok, ro_ok, of_some, oof_some, putS, List.getElem?_cons_zero, List.getElem?_cons_succ, bin_add, bin_sub, parOf, FR.ofIo, mutS, remut, fd25, tupOf, h11, hs, this]
  · obtain ⟨ns, rfl, l1, l2, l3, l4⟩ := spot_ints hs
    have hl := ixAt_last (ns := ns) (by omega)
    have hix : ixD (.tuple (ns.map .int)) (.int (-1)) = some (.int (lastI ns)) := hl
    have sl := sl_init (ns.map PyData.int)
    rw [← List.map_take, List.length_map] at sl
    have hc : evE Φ (.comp (.var 1) (.one 1) (.sl (.var 0) .non (.neg (.int 1))) (.or (.cmp .lt (.var 1) (.neg (.int 10000))) (.cmp .gt (.var 1) (.int 10000))) [1]) [.val (.tuple (ns.map .int)), .un] = .ok (.list ((((ns.take (ns.length - 1)).map PyData.int).filter fun d => !(match d with | .int n => decide (-10000 ≤ n ∧ n ≤ 10000) | _ => false)).map fun d => d)) [.val (.tuple (ns.map .int)), .un] :=
      comp_gen (x := .tuple ((ns.take (ns.length - 1)).map PyData.int)) (fun d => [.val (.tuple (ns.map .int)), .val d]) (by simp [runFd, eS_skip, eS_seq, eS_asg, eS_asgM, eS_asgs, eS_two, eS_app, eS_setM, eS_aug, eS_ret, eS_retM, eS_ite, eS_drop, eS_brk, eS_cnt, thn_nx, thn_ret, eE_var, eE_non, eE_bl, eE_int, eE_str, eE_gint, eE_nil, eE_cons, eE_bin, eE_neg, eE_cmp, eE_chain, eE_not, eE_and, eE_or, eE_ite, eE_tup, eE_lst, eE_ix, eE_sl, eE_rev, eE_call, eE_callio, eE_bi, eE_isi, eE_rng, eE_rng2, eE_enum, eE_zip, eE_lrng, eE_trng, eE_edic, eE_lenM, eE_ixM, eE_nilM, eE_popM, startS, rdVar, getS_0, getS_s, rb_ok, ro_ok, of_some, oof_some, putS, List.getElem?_cons_zero, List.getElem?_cons_succ, bin_add, bin_sub, parOf, FR.ofIo, mutS, remut, slOk, E.isNon, sl]) rfl rfl (fun d _ => ⟨rfl, fun _ => rfl⟩) ⟨rfl, fun _ => rfl⟩ (fun d hd => by
        obtain ⟨n, _, rfl⟩ := List.mem_map.mp hd
        by_cases c : n < -10000
        · have c2 : ¬ (-10000 ≤ n ∧ n ≤ 10000) := by omega
          simp [runFd, eS_skip, eS_seq, eS_asg, eS_asgM, eS_asgs, eS_two, eS_app, eS_setM, eS_aug, eS_ret, eS_retM, eS_ite, eS_drop, eS_brk, eS_cnt, thn_nx, thn_ret, eE_var, eE_non, eE_bl, eE_int, eE_str, eE_gint, eE_nil, eE_cons, eE_bin, eE_neg, eE_cmp, eE_chain, eE_not, eE_and, eE_or, eE_ite, eE_tup, eE_lst, eE_ix, eE_sl, eE_rev, eE_call, eE_callio, eE_bi, eE_isi, eE_rng, eE_rng2, eE_enum, eE_zip, eE_lrng, eE_trng, eE_edic, eE_lenM, eE_ixM, eE_nilM, eE_popM, startS, rdVar, getS_0, getS_s, rb_ok, ro_ok, of_some, oof_some, putS, List.getElem?_cons_zero, List.getElem?_cons_succ, bin_add, bin_sub, parOf, FR.ofIo, mutS, remut, cmp_lt_int, c, c2]
        · by_cases c3 : 10000 < n
          · have c2 : ¬ (-10000 ≤ n ∧ n ≤ 10000) := by omega
            simp [runFd, eS_skip, eS_seq, eS_asg, eS_asgM, eS_asgs, eS_two, eS_app, eS_setM, eS_aug, eS_ret, eS_retM, eS_ite, eS_drop, eS_brk, eS_cnt, thn_nx, thn_ret, eE_var, eE_non, eE_bl, eE_int, eE_str, eE_gint, eE_nil, eE_cons, eE_bin, eE_neg, eE_cmp, eE_chain, eE_not, eE_and, eE_or, eE_ite, eE_tup, eE_lst, eE_ix, eE_sl, eE_rev, eE_call, eE_callio, eE_bi, eE_isi, eE_rng, eE_rng2, eE_enum, eE_zip, eE_lrng, eE_trng, eE_edic, eE_lenM, eE_ixM, eE_nilM, eE_popM, startS, rdVar, getS_0, getS_s, rb_ok, ro_ok, of_some, oof_some, putS, List.getElem?_cons_zero, List.getElem?_cons_succ, bin_add, bin_sub, parOf, FR.ofIo, mutS, remut, cmp_lt_int, cmp_gt_int, c, c2, c3]
          · have c2 : -10000 ≤ n ∧ n ≤ 10000 := by omega
            simp [runFd, eS_skip, eS_seq, eS_asg, eS_asgM, eS_asgs, eS_two, eS_app, eS_setM, eS_aug, eS_ret, eS_retM, eS_ite, eS_drop, eS_brk, eS_cnt, thn_nx, thn_ret, eE_var, eE_non, eE_bl, eE_int, eE_str, eE_gint, eE_nil, eE_cons, eE_bin, eE_neg, eE_cmp, eE_chain, eE_not, eE_and, eE_or, eE_ite, eE_tup, eE_lst, eE_ix, eE_sl, eE_rev, eE_call, eE_callio, eE_bi, eE_isi, eE_rng, eE_rng2, eE_enum, eE_zip, eE_lrng, eE_trng, eE_edic, eE_lenM, eE_ixM, eE_nilM, eE_popM, startS, rdVar, getS_0, getS_s, rb_ok, ro_ok, of_some, oof_some, putS, List.getElem?_cons_zero, List.getElem?_cons_succ, bin_add, bin_sub, parOf, FR.ofIo, mutS, remut, cmp_lt_int, cmp_gt_int, c, c2.1, c2.2, c3]) (fun d _ _ => rfl)
    rw [List.map_id'] at hc
    have he := isEmpty_filter (fun d => (match d with | .int n => decide (-10000 ≤ n ∧ n ≤ 10000) | _ => false)) ((ns.take (ns.length - 1)).map PyData.int)
    have hp : isPointD (.tuple (ns.map .int)) = (decide (lastI ns ≤ 60) && (((ns.take (ns.length - 1)).map PyData.int).map fun d => (match d with | .int n => decide (-10000 ≤ n ∧ n ≤ 10000) | _ => false)).all id) := by
      unfold isPointD pointB
      rw [hs]
      dsimp only
      rw [intsD_map, List.map_map]
      rfl
    generalize (((ns.take (ns.length - 1)).map PyData.int).filter fun d => !(match d with | .int n => decide (-10000 ≤ n ∧ n ≤ 10000) | _ => false)) = L at hc he
    generalize (((ns.take (ns.length - 1)).map PyData.int).map fun d => (match d with | .int n => decide (-10000 ≤ n ∧ n ≤ 10000) | _ => false)).all id = B at he hp
    by_cases c : lastI ns ≤ 60
    · have c2 : ¬ (60 : Int) < lastI ns := by omega
      rw [hp]
      simp [runFd, eS_skip, eS_seq, eS_asg, eS_asgM, eS_asgs, eS_two, eS_app, eS_setM, eS_aug, eS_ret, eS_retM, eS_ite, eS_drop, eS_brk, eS_cnt, thn_nx, thn_ret, eE_var, eE_non, eE_bl, eE_int, eE_str, eE_gint, eE_nil, eE_cons, eE_bin, eE_neg, eE_cmp, eE_chain, eE_not, eE_and, eE_or, eE_ite, eE_tup, eE_lst, eE_ix, eE_sl, eE_rev, eE_call, eE_callio, eE_bi, eE_isi, eE_rng, eE_rng2, eE_enum, eE_zip, eE_lrng, eE_trng, eE_edic, eE_lenM, eE_ixM, eE_nilM, eE_popM, startS, rdVar, getS_0, getS_s, rb_ok, ro_ok, of_some, oof_some, putS, List.getElem?_cons_zero, List.getElem?_cons_succ, bin_add, bin_sub, parOf, FR.ofIo, mutS, remut, fd25, tupOf, h11, hs, hix, cmp_gt_int, c2, hc, cmp_eq_nil, he, c, -List.isEmpty_iff, -List.isEmpty_eq_false_iff]
    · have c2 : (60 : Int) < lastI ns := by omega
      rw [hp]
      simp [runFd, eS_skip, eS_seq, eS_asg, eS_asgM, eS_asgs, eS_two, eS_app, eS_setM, eS_aug, eS_ret, eS_retM, eS_ite, eS_drop, eS_brk, eS_cnt, thn_nx, thn_ret, eE_var, eE_non, eE_bl, eE_int, eE_str, eE_gint, eE_nil, eE_cons, eE_bin, eE_neg, eE_cmp, eE_chain, eE_not, eE_and, eE_or, eE_ite, eE_tup, eE_lst, eE_ix, eE_sl, eE_rev, eE_call, eE_callio, eE_bi, eE_isi, eE_rng, eE_rng2, eE_enum, eE_zip, eE_lrng, eE_trng, eE_edic, eE_lenM, eE_ixM, eE_nilM, eE_popM, startS, rdVar, getS_0, getS_s, rb_ok, ro_ok, of_some, oof_some, putS, List.getElem?_cons_zero, List.getElem?_cons_succ, bin_add, bin_sub, parOf, FR.ofIo, mutS, remut, fd25, tupOf, h11, hs, hix, cmp_gt_int, c2, c]
theorem run26 (Φ : Fns) (h25 : ∀ d, Φ 25 [d] = .ok (.bool (isPointD d)) []) (d : PyData) : runFd Φ fd26 [d] = .ok (.bool (isPointsD d)) [] := by
  by_cases ht : ∃ xs, d = .list xs
  · obtain ⟨xs, rfl⟩ := ht
    have hc : evE Φ (.comp (.var 1) (.one 1) (.var 0) (.not (.call 25 (.cons (.var 1) .nil))) [1]) [.val (.list xs), .un] = .ok (.list ((xs.filter fun d => !isPointD d).map fun d => d)) [.val (.list xs), .un] :=
      comp_gen (fun d => [.val (.list xs), .val d]) rfl rfl rfl (fun d _ => ⟨rfl, fun _ => rfl⟩) ⟨rfl, fun _ => rfl⟩ (fun d _ => by simp [runFd, eS_skip, eS_seq, eS_asg, eS_asgM, eS_asgs, eS_two, eS_app, eS_setM, eS_aug, eS_ret, eS_retM, eS_ite, eS_drop, eS_brk, eS_cnt, thn_nx, thn_ret, eE_var, eE_non, eE_bl, eE_int, eE_str, eE_gint, eE_nil, eE_cons, eE_bin, eE_neg, eE_cmp, eE_chain, eE_not, eE_and, eE_or, eE_ite, eE_tup, eE_lst, eE_ix, eE_sl, eE_rev, eE_call, eE_callio, eE_bi, eE_isi, eE_rng, eE_rng2, eE_enum, eE_zip, eE_lrng, eE_trng, eE_edic, eE_lenM, eE_ixM, eE_nilM, eE_popM, startS, rdVar, getS_0, getS_s, rb_ok, ro_ok, of_some, oof_some, putS, List.getElem?_cons_zero, List.getElem?_cons_succ, bin_add, bin_sub, parOf, FR.ofIo, mutS, remut, tupOf, h25]) (fun d _ _ => rfl)
    rw [List.map_id'] at hc
    have he := isEmpty_filter isPointD xs
    by_cases l1 : xs.length ≤ 40
    · have c1 : ¬ (40 : Int) < xs.length := by omega
      cases hp : (xs.map isPointD).all id
      · rw [hp] at he
        simp [runFd, eS_skip, eS_seq, eS_asg, eS_asgM, eS_asgs, eS_two, eS_app, eS_setM, eS_aug, eS_ret, eS_retM, eS_ite, eS_drop, eS_brk, eS_cnt, thn_nx, thn_ret, eE_var, eE_non, eE_bl, eE_int, eE_str, eE_gint, eE_nil, eE_cons, eE_bin, eE_neg, eE_cmp, eE_chain, eE_not, eE_and, eE_or, eE_ite, eE_tup, eE_lst, eE_ix, eE_sl, eE_rev, eE_call, eE_callio, eE_bi, eE_isi, eE_rng, eE_rng2, eE_enum, eE_zip, eE_lrng, eE_trng, eE_edic, eE_lenM, eE_ixM, eE_nilM, eE_popM, startS, rdVar, getS_0, getS_s, rb_ok, ro_ok, of_some, oof_some, putS, List.getElem?_cons_zero, List.getElem?_cons_succ, bin_add, bin_sub, parOf, FR.ofIo, mutS, remut, fd26, isTy_ll, tupOf, len_lst, cmp_gt_int, c1, hc, cmp_ne_nil, he, isPointsD, hp, -List.all_map, -List.isEmpty_iff, -List.isEmpty_eq_false_iff]
      · rw [hp] at he
        have all : ∀ d ∈ xs, isPointD d = true := by rw [all_iff_map] at hp; exact List.all_eq_true.mp hp
        have hc2 : evE Φ (.comp (.var 1) (.one 1) (.var 0) (.cmp .ne (.bi .len (.cons (.var 1) .nil)) (.bi .len (.cons (.ix (.var 0) (.int 0)) .nil))) [1]) [.val (.list xs), .un] = .ok (.list ((xs.filter fun d => !sameLen xs d).map fun d => d)) [.val (.list xs), .un] :=
          comp_gen (fun d => [.val (.list xs), .val d]) rfl rfl rfl (fun d _ => ⟨rfl, fun _ => rfl⟩) ⟨rfl, fun _ => rfl⟩ (fun d hd => by
            cases xs with
            | nil => cases hd
            | cons x r =>
              have h1 := point_len (all d hd)
              have h2 := point_len (all x List.mem_cons_self)
              have h3 : ixD (.list (x :: r)) (.int 0) = some x := rfl
              simp [runFd, eS_skip, eS_seq, eS_asg, eS_asgM, eS_asgs, eS_two, eS_app, eS_setM, eS_aug, eS_ret, eS_retM, eS_ite, eS_drop, eS_brk, eS_cnt, thn_nx, thn_ret, eE_var, eE_non, eE_bl, eE_int, eE_str, eE_gint, eE_nil, eE_cons, eE_bin, eE_neg, eE_cmp, eE_chain, eE_not, eE_and, eE_or, eE_ite, eE_tup, eE_lst, eE_ix, eE_sl, eE_rev, eE_call, eE_callio, eE_bi, eE_isi, eE_rng, eE_rng2, eE_enum, eE_zip, eE_lrng, eE_trng, eE_edic, eE_lenM, eE_ixM, eE_nilM, eE_popM, startS, rdVar, getS_0, getS_s, rb_ok, ro_ok, of_some, oof_some, putS, List.getElem?_cons_zero, List.getElem?_cons_succ, bin_add, bin_sub, parOf, FR.ofIo, mutS, remut, tupOf, h1, h2, h3, cmp_ne_int, sameLen, hdD]
              try rfl) (fun d _ _ => rfl)
        rw [List.map_id'] at hc2
        have he2 := isEmpty_filter (sameLen xs) xs
        have e1 : (xs.filter fun d => !isPointD d) = [] := List.isEmpty_iff.mp he
        rw [e1] at hc
        simp [runFd, eS_skip, eS_seq, eS_asg, eS_asgM, eS_asgs, eS_two, eS_app, eS_setM, eS_aug, eS_ret, eS_retM, eS_ite, eS_drop, eS_brk, eS_cnt, thn_nx, thn_ret, eE_var, eE_non, eE_bl, eE_int, eE_str, eE_gint, eE_nil, eE_cons, eE_bin, eE_neg, eE_cmp, eE_chain, eE_not, eE_and, eE_or, eE_ite, eE_tup, eE_lst, eE_ix, eE_sl, eE_rev, eE_call, eE_callio, eE_bi, eE_isi, eE_rng, eE_rng2, eE_enum, eE_zip, eE_lrng, eE_trng, eE_edic, eE_lenM, eE_ixM, eE_nilM, eE_popM, startS, rdVar, getS_0, getS_s, rb_ok, ro_ok, of_some, oof_some, putS, List.getElem?_cons_zero, List.getElem?_cons_succ, bin_add, bin_sub, parOf, FR.ofIo, mutS, remut, fd26, isTy_ll, tupOf, len_lst, cmp_gt_int, c1, hc, cmp_ne_nil, cmp_eq_nil, hc2, he2, isPointsD, hp, l1, -List.all_map, -List.isEmpty_iff, -List.isEmpty_eq_false_iff]
    · have c1 : (40 : Int) < xs.length := by omega
      simp [runFd, eS_skip, eS_seq, eS_asg, eS_asgM, eS_asgs, eS_two, eS_app, eS_setM, eS_aug, eS_ret, eS_retM, eS_ite, eS_drop, eS_brk, eS_cnt, thn_nx, thn_ret, eE_var, eE_non, eE_bl, eE_int, eE_str, eE_gint, eE_nil, eE_cons, eE_bin, eE_neg, eE_cmp, eE_chain, eE_not, eE_and, eE_or, eE_ite, eE_tup, eE_lst, eE_ix, eE_sl, eE_rev, eE_call, eE_callio, eE_bi, eE_isi, eE_rng, eE_rng2, eE_enum, eE_zip, eE_lrng, eE_trng, eE_edic, eE_lenM, eE_ixM, eE_nilM, eE_popM, startS, rdVar, getS_0, getS_s, rb_ok, ro_ok, of_some, oof_some, putS, List.getElem?_cons_zero, List.getElem?_cons_succ, bin_add, bin_sub, parOf, FR.ofIo, mutS, remut, fd26, isTy_ll, tupOf, len_lst, cmp_gt_int, c1, isPointsD, l1]
  · have hty : isTy .list d = false := by cases d <;> first | rfl | exact absurd ⟨_, rfl⟩ ht
    have hs : isPointsD d = false := by cases d <;> first | rfl | exact absurd ⟨_, rfl⟩ ht
    simp [runFd, eS_skip, eS_seq, eS_asg, eS_asgM, eS_asgs, eS_two, eS_app, eS_setM, eS_aug, eS_ret, eS_retM, eS_ite, eS_drop, eS_brk, eS_cnt, thn_nx, thn_ret, eE_var, eE_non, eE_bl, eE_int, eE_str, eE_gint, eE_nil, eE_cons, eE_bin, eE_neg, eE_cmp, eE_chain, eE_not, eE_and, eE_or, eE_ite, eE_tup, eE_lst, eE_ix, eE_sl, eE_rev, eE_call, eE_callio, eE_bi, eE_isi, eE_rng, eE_rng2, eE_enum, eE_zip, eE_lrng, eE_trng, eE_edic, eE_lenM, eE_ixM, eE_nilM, eE_popM, startS, rdVar, getS_0, getS_s, rb_ok, ro_ok, of_some, oof_some, putS, List.getElem?_cons_zero, List.getElem?_cons_succ, bin_add, bin_sub, parOf, FR.ofIo, mutS, remut, fd26, hty, hs]
end HM

namespace HM
open PySem
theorem run8t (Φ : Fns) (h : ∀ a b : Int, Φ 7 [.int a, .int b] = .ok (.int (Int.gcd a b)) []) (ns : List Int) (b : Int) (hb : b ≠ 0) (hs : Sm 9000 b) (hl : ns.length < 1000) : runFd Φ fd8 [.tuple (ns.map .int), .int b] = .ok (.tuple ((lowT ns b).map .int)) [] := by
  obtain ⟨g0, g1⟩ := sgn_ok (ns := ns) hb
  have gs : Sm 9000 (sgn ns b) := Nat.lt_of_le_of_lt g1 hs
  obtain ⟨s1, l1, e1⟩ := loop8 Φ h (.tuple (ns.map .int)) (.int b) ns b .un .un
  obtain ⟨s2, e⟩ := comp_div Φ 2 (sgn ns b) g0 gs [.val (.tuple (ns.map .int)), .val (.int b), .val (.int (sgn ns b))] rfl rfl (by decide) ns s1
  have hc : evE Φ (.comp (.bin .fdiv (.var 3) (.var 2)) (.one 3) (.var 0) (.bl true) [3]) [.val (.tuple (ns.map .int)), .val (.int b), .val (.int (sgn ns b)), s1] = .ok (.list ((ns.map fun n => n.fdiv (sgn ns b)).map .int)) [.val (.tuple (ns.map .int)), .val (.int b), .val (.int (sgn ns b)), s1] := by
    rw [eE_comp]
    simp only [eE_var, rdVar, getS_0, rb_ok, itemsD]
    have : ownOk [3] [.val (.tuple (ns.map .int)), .val (.int b), .val (.int (sgn ns b)), s1] = true := by rcases l1 with rfl | ⟨x, rfl⟩ <;> rfl
    rw [this]
    dsimp only
    rw [show [Slot.val (.tuple (ns.map .int)), .val (.int b), .val (.int (sgn ns b)), s1] = [Slot.val (.tuple (ns.map .int)), .val (.int b), .val (.int (sgn ns b))] ++ [s1] from rfl, e]
    rfl
  have hcat : bin .add (.tuple ((ns.map fun n => n.fdiv (sgn ns b)).map .int)) (.tuple [.int (b.fdiv (sgn ns b))]) = some (.tuple ((ns.map fun n => n.fdiv (sgn ns b)).map .int ++ [.int (b.fdiv (sgn ns b))])) := bin_cat (by simp [SL]; omega)
  have hg := gI_fold ns b
  have i3 : itemsD (.tuple (ns.map .int)) = some (ns.map PyData.int) := rfl
  by_cases hb0 : b < 0
  · have hsg : (if ns.foldl gI b < 0 then 0 + ns.foldl gI b else 0 - ns.foldl gI b) = sgn ns b := by
      unfold sgn
      rw [if_pos hb0]
      split <;> omega
    have hsg2 : 0 - (if ns.foldl gI b < 0 then -ns.foldl gI b else ns.foldl gI b) = sgn ns b := by
      rw [← hsg]
      split <;> omega
    simp (disch := assumption) [runFd, eS_skip, eS_seq, eS_asg, eS_asgM, eS_asgs, eS_two, eS_app, eS_setM, eS_aug, eS_ret, eS_retM, eS_ite, eS_drop, eS_brk, eS_cnt, thn_nx, thn_ret, eE_var, eE_non, eE_bl, eE_int, eE_str, eE_gint, eE_nil, eE_cons, eE_bin, eE_neg, eE_cmp, eE_chain, eE_not, eE_and, eE_or, eE_ite, eE_tup, eE_lst, eE_ix, eE_sl, eE_rev, eE_call, eE_callio, eE_bi, eE_isi, eE_rng, eE_rng2, eE_enum, eE_zip, eE_lrng, eE_trng, eE_edic, eE_lenM, eE_ixM, eE_nilM, eE_popM, startS, rdVar, getS_0, getS_s, rb_ok, ro_ok, of_some, oof_some, putS, List.getElem?_cons_zero, List.getElem?_cons_succ, bin_add, bin_sub, parOf, FR.ofIo, mutS, remut, -List.map_map, fd8, tupOf, cmp_lt_int, hb0, eS_for, i3, e1, biD, hsg2, hc, divOk_of, hcat, lowT]
  · have hge : 0 ≤ ns.foldl gI b := by
      have : ∀ (l : List Int) (a : Int), 0 ≤ a → 0 ≤ l.foldl gI a := fun l => by
        induction l with
        | nil => intro a h; exact h
        | cons x r ih => intro a h; exact ih _ (Int.natCast_nonneg _)
      exact this ns b (by omega)
    have hsg : ns.foldl gI b = sgn ns b := by
      unfold sgn
      rw [if_neg hb0]
      omega
    rw [hsg] at e1
    simp (disch := assumption) [runFd, eS_skip, eS_seq, eS_asg, eS_asgM, eS_asgs, eS_two, eS_app, eS_setM, eS_aug, eS_ret, eS_retM, eS_ite, eS_drop, eS_brk, eS_cnt, thn_nx, thn_ret, eE_var, eE_non, eE_bl, eE_int, eE_str, eE_gint, eE_nil, eE_cons, eE_bin, eE_neg, eE_cmp, eE_chain, eE_not, eE_and, eE_or, eE_ite, eE_tup, eE_lst, eE_ix, eE_sl, eE_rev, eE_call, eE_callio, eE_bi, eE_isi, eE_rng, eE_rng2, eE_enum, eE_zip, eE_lrng, eE_trng, eE_edic, eE_lenM, eE_ixM, eE_nilM, eE_popM, startS, rdVar, getS_0, getS_s, rb_ok, ro_ok, of_some, oof_some, putS, List.getElem?_cons_zero, List.getElem?_cons_succ, bin_add, bin_sub, parOf, FR.ofIo, mutS, remut, -List.map_map, fd8, tupOf, cmp_lt_int, hb0, eS_for, i3, e1, biD, hc, divOk_of, hcat, lowT]
end HM

namespace HM
open PySem
/-! CTP: what is said of defs holds -/
section
variable {I : Itp} {Φ : Fns} {s : Sg}
theorem HasVs.one {v : Va} {ds : List PyData} (h : HasVs I s [v] ds) : ∃ d, ds = [d] ∧ HasV I s v d := by
  cases ds with
  | nil => cases h
  | cons d r => cases r with
    | nil => exact ⟨d, rfl, h.1⟩
    | cons => exact h.2.elim
theorem HasVs.two {v w : Va} {ds : List PyData} (h : HasVs I s [v, w] ds) : ∃ d e, ds = [d, e] ∧ HasV I s v d ∧ HasV I s w e := by
  cases ds with
  | nil => cases h
  | cons d r =>
    obtain ⟨e, rfl, he⟩ := HasVs.one (v := w) (ds := r) h.2
    exact ⟨d, e, rfl, h.1, he⟩
theorem symB1_ok {f k : Nat} {P : PyData → Bool} (hI : ∀ d, I k [d] = .bool (P d)) (h : ∀ d, Φ f [d] = .ok (.bool (P d)) []) : CtOk I Φ f (symB1 k) := by
  intro gs fs as rs e s ds hs hf ha
  unfold symB1 at e
  split at e
  · cases e
    obtain ⟨d, rfl, hd⟩ := ha.one
    refine ⟨_, List.mem_cons_self, ?_⟩
    rw [h d]
    exact ⟨⟨⟨_, rfl⟩, [d], ⟨d, [], rfl, hd.2, rfl⟩, (hI d).symm⟩, trivial⟩
  · cases e
theorem symB2_ok {f k : Nat} {P : PyData → PyData → Bool} (hI : ∀ d e, I k [d, e] = .bool (P d e)) (h : ∀ d e, Φ f [d, e] = .ok (.bool (P d e)) []) : CtOk I Φ f (symB2 k) := by
  intro gs fs as rs e s ds hs hf ha
  unfold symB2 at e
  split at e
  · cases e
    obtain ⟨d, d', rfl, hd, hd'⟩ := ha.two
    refine ⟨_, List.mem_cons_self, ?_⟩
    rw [h d d']
    exact ⟨⟨⟨_, rfl⟩, [d, d'], ⟨d, [d'], rfl, hd.2, d', [], rfl, hd'.2, rfl⟩, (hI d d').symm⟩, trivial⟩
  · cases e
theorem iSh_ok {g : List Int} {a b z : Int} (h1 : a ≤ z) (h2 : z ≤ b) : Has g (iSh a b) (.int z) := ⟨z, rfl, ⟨a, rfl, h1⟩, ⟨b, rfl, h2⟩⟩
theorem draw_has {g : List Int} {ds : List Int} (h : Draws ds) (l : ds.length ≤ 2000) : Has g drawSh (.tuple (ds.map .int)) := by
  refine ⟨_, rfl, fun x hx => ?_, ⟨0, rfl, Int.natCast_nonneg _⟩, ⟨2000, rfl, by rw [List.length_map]; omega⟩⟩
  obtain ⟨n, hn, rfl⟩ := List.mem_map.mp hx
  have := h n hn
  exact iSh_ok this.1 (by omega)
theorem has_draw {g : List Int} {ds : List PyData} (h : Has g drawSh (.tuple ds)) : ∃ ns : List Int, ds = ns.map .int ∧ Draws ns ∧ ns.length ≤ 2000 := by
  obtain ⟨h1, _, ⟨w, w1, w2⟩⟩ := has_row_any h
  cases w1
  have : ∃ ns : List Int, intsD ds = some ns ∧ ds = ns.map .int := intsD_of fun x hx => by obtain ⟨z, e, _⟩ := h1 x hx; exact ⟨z, e⟩
  obtain ⟨ns, _, rfl⟩ := this
  refine ⟨ns, rfl, fun n hn => ?_, by rw [List.length_map] at w2; omega⟩
  obtain ⟨z, e, ⟨a, a1, a2⟩, ⟨b, b1, b2⟩⟩ := h1 (.int n) (List.mem_map_of_mem hn)
  cases e; cases a1; cases b1
  exact ⟨a2, by omega⟩
theorem ct4_ok (h : ∀ c k : Int, k.natAbs < 2 ^ 64 → Φ 4 [.int c, .int k] = .ok (.int (mixedI c k)) []) : CtOk I Φ 4 ct4 := by
  intro gs fs as rs e s ds hs hf ha
  unfold ct4 at e
  split at e
  · obtain ⟨d, d', rfl, ⟨⟨c, rfl, _⟩, _⟩, ⟨⟨k, rfl, k1, k2⟩, _⟩⟩ := ha.two
    split at e
    · rename_i p hp
      split at e
      · rename_i q
        cases e
        have b := range4_ok hs hp k1 k2
        refine ⟨_, List.mem_cons_self, ?_⟩
        rw [h c k (Nat.lt_of_le_of_lt (maxAbs_ok b) q)]
        have := mixedI_b c k
        exact ⟨⟨iSh_ok this.1 (by omega), trivial⟩, trivial⟩
      · cases e
    · cases e
  · cases e
theorem ct5_ok (h : ∀ ns : List Int, ns.length ≤ 63 → ∃ ds, Φ 5 [.list (ns.map .int)] = .ok (.list (ds.map .int)) [] ∧ Draws ds ∧ ds.length ≤ 2000) : CtOk I Φ 5 ct5 := by
  intro gs fs as rs e s ds hs hf ha
  unfold ct5 at e
  split at e
  · obtain ⟨d, rfl, ⟨xs, rfl, hx⟩, _⟩ := ha.one
    split at e
    · rename_i q
      cases e
      obtain ⟨h1, _, ⟨w, w1, w2⟩⟩ := has_row_any (leSh_ok hs q hx)
      cases w1
      have : ∃ ns : List Int, intsD xs = some ns ∧ xs = ns.map .int := intsD_of fun x hx => by obtain ⟨z, e, _⟩ := h1 x hx; exact ⟨z, e⟩
      obtain ⟨ns, _, rfl⟩ := this
      rw [List.length_map] at w2
      obtain ⟨es, e1, e2, e3⟩ := h ns (by omega)
      refine ⟨_, List.mem_cons_self, ?_⟩
      rw [e1]
      exact ⟨⟨⟨_, rfl, draw_has e2 e3⟩, trivial⟩, trivial⟩
    · cases e
  · cases e
theorem ct6_ok (h : ∀ ds : List Int, Φ 6 [.list (ds.map .int)] = .ok (.int (nx ds)) ((tl ds).map .int)) : CtOk I Φ 6 ct6 := by
  intro gs fs as rs e s ds hs hf ha
  unfold ct6 at e
  split at e
  · obtain ⟨d, rfl, ⟨xs, rfl, hx⟩, _⟩ := ha.one
    split at e
    · rename_i q
      cases e
      obtain ⟨ns, rfl, d1, d2⟩ := has_draw (leSh_ok hs q hx)
      refine ⟨_, List.mem_cons_self, ?_⟩
      rw [h ns]
      have := d1.nx
      exact ⟨⟨iSh_ok this.1 (by omega), trivial⟩, draw_has d1.tl (by cases ns with | nil => exact Nat.zero_le _ | cons => rw [List.length_cons] at d2; show _ ≤ 2000; simp only [tl]; omega)⟩
    · cases e
  · cases e
theorem low_bounds {ns : List Int} {b : Int} (hb : b ≠ 0) : (∀ n ∈ ns, (n.fdiv (sgn ns b)).natAbs ≤ n.natAbs) ∧ 1 ≤ b.fdiv (sgn ns b) ∧ b.fdiv (sgn ns b) ≤ b.natAbs := by
  obtain ⟨s0, s1⟩ := sgn_ok (ns := ns) hb
  have dv : sgn ns b ∣ b := by
    have : (Int.gcd (ns.foldl gI 0) b : Int) ∣ b := Int.gcd_dvd_right ..
    unfold sgn
    split
    · rw [Int.zero_sub]; exact (Int.neg_dvd).mpr this
    · exact this
  have dn : ∀ n ∈ ns, sgn ns b ∣ n := by
    have fold : ∀ (ns : List Int) (g : Int), ((ns.foldl gI g) ∣ g) ∧ ∀ n ∈ ns, (ns.foldl gI g) ∣ n := fun ns => by
      induction ns with
      | nil => intro g; exact ⟨Int.dvd_refl _, fun n hn => by cases hn⟩
      | cons m r ih =>
        intro g
        obtain ⟨i1, i2⟩ := ih (gI g m)
        have d1 : gI g m ∣ g := Int.gcd_dvd_left ..
        have d2 : gI g m ∣ m := Int.gcd_dvd_right ..
        refine ⟨Int.dvd_trans i1 d1, fun n hn => ?_⟩
        rcases List.mem_cons.mp hn with rfl | hn
        · exact Int.dvd_trans i1 d2
        · exact i2 n hn
    intro n hn
    have : (Int.gcd (ns.foldl gI 0) b : Int) ∣ n := Int.dvd_trans (Int.gcd_dvd_left ..) ((fold ns 0).2 n hn)
    unfold sgn
    split
    · rw [Int.zero_sub]; exact (Int.neg_dvd).mpr this
    · exact this
  have q : ∀ {n : Int}, sgn ns b ∣ n → n = sgn ns b * n.fdiv (sgn ns b) := fun {n} h => by
    have := Int.mul_fdiv_cancel' h
    exact this.symm
  have ab : ∀ {n : Int}, sgn ns b ∣ n → n.natAbs = (sgn ns b).natAbs * (n.fdiv (sgn ns b)).natAbs := fun {n} h => by
    have := congrArg Int.natAbs (q h)
    rw [Int.natAbs_mul] at this
    exact this
  have sp : 1 ≤ (sgn ns b).natAbs := by omega
  have le : ∀ {n : Int}, sgn ns b ∣ n → (n.fdiv (sgn ns b)).natAbs ≤ n.natAbs := fun {n} h => by
    rw [ab h]
    exact Nat.le_mul_of_pos_left _ sp
  refine ⟨fun n hn => le (dn n hn), ?_⟩
  have l := le dv
  have e := q dv
  have hne : b.fdiv (sgn ns b) ≠ 0 := fun z => hb (by rw [e, z, Int.mul_zero])
  have pos : 0 ≤ b.fdiv (sgn ns b) := by
    have sg : (b < 0 ∧ sgn ns b < 0) ∨ (0 < b ∧ 0 < sgn ns b) := by
      unfold sgn at s0 ⊢
      split at s0 <;> rename_i c
      · exact .inl ⟨c, by rw [if_pos c]; omega⟩
      · exact .inr ⟨by omega, by rw [if_neg c]; omega⟩
    rcases Int.lt_or_le (b.fdiv (sgn ns b)) 0 with c | c
    · exfalso
      rcases sg with ⟨h1, h2⟩ | ⟨h1, h2⟩
      · have := Int.mul_pos_of_neg_of_neg h2 c; omega
      · have := Int.mul_neg_of_pos_of_neg h2 c; omega
    · exact c
  omega
theorem rep_app {g : List Int} {e l : Sh} : ∀ {n : Nat} {xs : List PyData} {y : PyData} {gs : Gs} {c : Sh}, appSh gs (repS e n) (.cons l .nil) = some c → (∀ x ∈ xs, Has g e x) → xs.length = n → Has g l y → Has g c (.tuple (xs ++ [y]))
  | 0, [], y, gs, c, h, _, _, hy => by cases h; exact ⟨y, [], rfl, hy, rfl⟩
  | n + 1, x :: xs, y, gs, c, h, hx, hl, hy => by
    obtain ⟨q, hq, rfl⟩ := Option.map_eq_some_iff.mp h
    exact ⟨x, _, rfl, hx x List.mem_cons_self, rep_app hq (fun z hz => hx z (List.mem_cons_of_mem _ hz)) (by simpa using hl) hy⟩
  | 0, _ :: _, _, _, _, _, _, hl, _ => by cases hl
  | _ + 1, [], _, _, _, _, _, hl, _ => by cases hl
theorem lowSh_ok {g : List Int} {gs : Gs} (hs : Sat g gs) {t c : Sh} {q : Int × Int} {ds : List PyData} {b : Int} (h : lowSh gs t q = some c) (ht : Has g t (.tuple ds)) (hb : b ≠ 0) (hq : q.1 ≤ b ∧ b ≤ q.2) : ∃ ns : List Int, ds = ns.map .int ∧ Has g c (.tuple ((lowT ns b).map .int)) := by
  have absq : (b.natAbs : Int) ≤ absB q := by unfold absB; omega
  unfold lowSh at h
  split at h
  · rename_i l u lo hi hr
    have row := rowG_ok hs hr ht
    obtain ⟨ns, _, rfl, r3, r4, r5⟩ := row_ints row
    refine ⟨ns, rfl, ?_⟩
    obtain ⟨b1, b2, b3⟩ := low_bounds (ns := ns) hb
    split at h
    · rename_i p hp
      have el : ∀ x ∈ (ns.map fun n => n.fdiv (sgn ns b)).map PyData.int, Has g (iSh (-(absB p)) (absB p)) x := fun x hx => by
        obtain ⟨m, hm, rfl⟩ := List.mem_map.mp hx
        obtain ⟨n, hn, rfl⟩ := List.mem_map.mp hm
        have i1 := range4_ok hs hp (r3 n hn).1 (r3 n hn).2
        have i2 := b1 n hn
        have : (n.natAbs : Int) ≤ absB p := by unfold absB; omega
        exact iSh_ok (by omega) (by omega)
      have last : Has g (iSh 1 (absB q)) (.int (b.fdiv (sgn ns b))) := iSh_ok b2 (by omega)
      have eq : (lowT ns b).map PyData.int = (ns.map fun n => n.fdiv (sgn ns b)).map PyData.int ++ [.int (b.fdiv (sgn ns b))] := by unfold lowT; rw [List.map_append]; rfl
      rw [eq]
      have gen : ∀ {c : Sh}, appSh gs (.row (iSh (-(absB p)) (absB p)) lo hi) (.cons (iSh 1 (absB q)) .nil) = some c → Has g c (.tuple ((ns.map fun n => n.fdiv (sgn ns b)).map PyData.int ++ [.int (b.fdiv (sgn ns b))])) := fun h =>
        appSh_ok hs h ⟨_, rfl, el, by rw [List.length_map, List.length_map]; exact r4, by rw [List.length_map, List.length_map]; exact r5⟩ ⟨_, [], rfl, last, rfl⟩
      split at h
      · rename_i x y
        split at h
        · rename_i exy
          subst exy
          refine rep_app h el ?_ last
          obtain ⟨v, v1, v2⟩ := r4
          obtain ⟨w, w1, w2⟩ := r5
          cases v1; cases w1
          rw [List.length_map, List.length_map]; omega
        · exact gen h
      · exact gen h
    · cases h
  · rename_i lo hi hr
    cases h
    have := row_bot (rowG_ok hs hr ht)
    subst this
    obtain ⟨b1, b2, b3⟩ := low_bounds (ns := []) hb
    exact ⟨[], rfl, _, [], rfl, iSh_ok b2 (by omega), rfl⟩
  · cases h
theorem ct8_ok (h : ∀ (ns : List Int) (b : Int), b ≠ 0 → Sm 9000 b → ns.length < 1000 → Φ 8 [.list (ns.map .int), .int b] = .ok (.tuple ((lowT ns b).map .int)) [] ∧ Φ 8 [.tuple (ns.map .int), .int b] = .ok (.tuple ((lowT ns b).map .int)) []) : CtOk I Φ 8 ct8 := by
  intro gs fs as rs e s ds hs hf ha
  unfold ct8 at e
  split at e
  · obtain ⟨d, d', rfl, ⟨hd, _⟩, ⟨⟨b, rfl, k1, k2⟩, _⟩⟩ := ha.two
    split at e
    · rename_i q hq
      have r := range4_ok hs hq k1 k2
      split at e
      · rename_i c
        have hb : b ≠ 0 := by rcases c.1 with c | c <;> omega
        have hsm : Sm 9000 b := by
          have : (b.natAbs : Int) ≤ absB q := by unfold absB; omega
          have c2 := c.2
          have : b.natAbs < 2 ^ 8000 := by
            have e8 : ((2 ^ 8000 : Nat) : Int) = 2 ^ 8000 := Int.natCast_pow 2 8000
            rw [← e8] at c2
            generalize (2 ^ 8000 : Nat) = N at *
            omega
          exact Nat.lt_of_lt_of_le this (Nat.pow_le_pow_right (by decide) (by decide))
        split at e
        · split at e
          · rename_i hlen
            obtain ⟨c, hc, rfl⟩ := Option.map_eq_some_iff.mp e
            obtain ⟨xs, rfl, hx⟩ := hd
            obtain ⟨ns, rfl, i1⟩ := lowSh_ok hs hc hx hb r
            have := lenLe_ok hs hlen hx
            rw [List.length_map] at this
            refine ⟨_, List.mem_cons_self, ?_⟩
            rw [(h ns b hb hsm (by omega)).1]
            exact ⟨⟨i1, trivial⟩, trivial⟩
          · cases e
        · split at e
          · rename_i hsq
            rw [Bool.and_eq_true] at hsq
            obtain ⟨c, hc, rfl⟩ := Option.map_eq_some_iff.mp e
            obtain ⟨xs, rfl⟩ := seq_tup hsq.1 hd
            obtain ⟨ns, rfl, i1⟩ := lowSh_ok hs hc hd hb r
            have := lenLe_ok hs hsq.2 hd
            rw [List.length_map] at this
            refine ⟨_, List.mem_cons_self, ?_⟩
            rw [(h ns b hb hsm (by omega)).2]
            exact ⟨⟨i1, trivial⟩, trivial⟩
          · cases e
      · cases e
    · cases e
  · cases e
end
end HM

namespace HM
open PySem
/-! CTQ: the defs' answers at every depth -/
section
variable {T : Nat → Option Fd}
theorem phiS {f : Nat} {fd : Fd} (h : T f = some fd) {n : Nat} (hn : 1 ≤ n) (args : List PyData) : Phi T n f args = runFd (Phi T (n - 1)) fd args := by
  obtain ⟨m, rfl⟩ : ∃ m, n = m + 1 := ⟨n - 1, by omega⟩
  show (match T f with | some fd => runFd (Phi T m) fd args | none => .bad) = _
  rw [h]; rfl
theorem runFd_io {Φ : Fns} {fd : Fd} {args : List PyData} {d : PyData} {io : List PyData} (h : runFd Φ fd args = .ok d io) (hio : fd.io = none) : io = [] := by
  unfold runFd at h
  split at h
  · split at h
    · rw [hio] at h
      split at h
      · cases h
      · cases h; rfl
    · rw [hio] at h
      split at h
      · cases h; rfl
      · cases h
    · rw [hio] at h
      cases h
    · cases h
  · cases h
theorem B0 (t0 : T 0 = some fd0) : ∀ n, 1 ≤ n → ∀ d, Phi T n 0 [d] = .ok (.bool (isNumD d)) [] := fun n hn d => by rw [phiS t0 hn]; exact run0 _ d
theorem B9 (t9 : T 9 = some fd9) : ∀ n, 1 ≤ n → ∀ d, Phi T n 9 [d] = .ok (.bool (isNumD d)) [] := fun n hn d => by rw [phiS t9 hn]; exact run9 _ d
theorem B1 (t1 : T 1 = some fd1) : ∀ n, 1 ≤ n → ∀ a b : Int, Phi T n 1 [.int a, .int b] = .ok (.int (Int.gcd a b)) [] := fun n hn a b => by rw [phiS t1 hn]; exact run1 _ a b
theorem B7 (t7 : T 7 = some fd7) : ∀ n, 1 ≤ n → ∀ a b : Int, Phi T n 7 [.int a, .int b] = .ok (.int (Int.gcd a b)) [] := fun n hn a b => by rw [phiS t7 hn]; exact run7 _ a b
theorem B2 (t1 : T 1 = some fd1) (t2 : T 2 = some fd2) : ∀ n, 2 ≤ n → ∀ ns : List Int, Phi T n 2 [.tuple (ns.map .int)] = .ok (.int (ns.foldl gI 0)) [] := fun n hn ns => by
  rw [phiS t2 (by omega)]; exact run2 _ (B1 t1 (n - 1) (by omega)) ns rfl (fun _ => .inr trivial)
theorem B4 (t4 : T 4 = some fd4) : ∀ n, 1 ≤ n → ∀ c k : Int, k.natAbs < 2 ^ 64 → Phi T n 4 [.int c, .int k] = .ok (.int (mixedI c k)) [] := fun n hn c k h => by rw [phiS t4 hn]; exact run4 _ c k h
theorem B5 (t4 : T 4 = some fd4) (t5 : T 5 = some fd5) : ∀ n, 2 ≤ n → ∀ ns : List Int, ns.length ≤ 63 → ∃ ds, Phi T n 5 [.list (ns.map .int)] = .ok (.list (ds.map .int)) [] ∧ Draws ds ∧ ds.length ≤ 2000 := fun n hn ns h => by
  rw [phiS t5 (by omega)]; exact run5 _ (B4 t4 (n - 1) (by omega)) ns h
theorem B6 (t6 : T 6 = some fd6) : ∀ n, 1 ≤ n → ∀ ds : List Int, Phi T n 6 [.list (ds.map .int)] = .ok (.int (nx ds)) ((tl ds).map .int) := fun n hn ds => by rw [phiS t6 hn]; exact run6 _ ds
theorem B8 (t7 : T 7 = some fd7) (t8 : T 8 = some fd8) : ∀ n, 2 ≤ n → ∀ (ns : List Int) (b : Int), b ≠ 0 → Sm 9000 b → ns.length < 1000 → Phi T n 8 [.list (ns.map .int), .int b] = .ok (.tuple ((lowT ns b).map .int)) [] ∧ Phi T n 8 [.tuple (ns.map .int), .int b] = .ok (.tuple ((lowT ns b).map .int)) [] := fun n hn ns b hb hs hl => by
  rw [phiS t8 (by omega), phiS t8 (by omega)]; exact ⟨run8 _ (B7 t7 (n - 1) (by omega)) ns b hb hs hl, run8t _ (B7 t7 (n - 1) (by omega)) ns b hb hs hl⟩
theorem B3 (t0 : T 0 = some fd0) (t1 : T 1 = some fd1) (t2 : T 2 = some fd2) (t3 : T 3 = some fd3) : ∀ n, 3 ≤ n → ∀ d, Phi T n 3 [d] = .ok (.bool (isSpotD d)) [] := fun n hn d => by
  rw [phiS t3 (by omega)]; exact run3 _ (B0 t0 (n - 1) (by omega)) (B2 t1 t2 (n - 1) (by omega)) d
theorem B11 (t7 : T 7 = some fd7) (t9 : T 9 = some fd9) (t11 : T 11 = some fd11) : ∀ n, 2 ≤ n → ∀ d, Phi T n 11 [d] = .ok (.bool (isSpotD d)) [] := fun n hn d => by
  rw [phiS t11 (by omega)]; exact run11 _ (B9 t9 (n - 1) (by omega)) (B7 t7 (n - 1) (by omega)) d
theorem B18 (t0 : T 0 = some fd0) (t1 : T 1 = some fd1) (t2 : T 2 = some fd2) (t3 : T 3 = some fd3) (t18 : T 18 = some fd18) : ∀ n, 4 ≤ n → ∀ d, Phi T n 18 [d] = .ok (.bool (isPointD d)) [] := fun n hn d => by
  rw [phiS t18 (by omega)]; exact run18 _ (B3 t0 t1 t2 t3 (n - 1) (by omega)) d
theorem B19 (t0 : T 0 = some fd0) (t1 : T 1 = some fd1) (t2 : T 2 = some fd2) (t3 : T 3 = some fd3) (t18 : T 18 = some fd18) (t19 : T 19 = some fd19) : ∀ n, 5 ≤ n → ∀ d, Phi T n 19 [d] = .ok (.bool (isPointsD d)) [] := fun n hn d => by
  rw [phiS t19 (by omega)]; exact run19 _ (B18 t0 t1 t2 t3 t18 (n - 1) (by omega)) d
theorem B25 (t7 : T 7 = some fd7) (t9 : T 9 = some fd9) (t11 : T 11 = some fd11) (t25 : T 25 = some fd25) : ∀ n, 3 ≤ n → ∀ d, Phi T n 25 [d] = .ok (.bool (isPointD d)) [] := fun n hn d => by
  rw [phiS t25 (by omega)]; exact run25 _ (B11 t7 t9 t11 (n - 1) (by omega)) d
theorem B26 (t7 : T 7 = some fd7) (t9 : T 9 = some fd9) (t11 : T 11 = some fd11) (t25 : T 25 = some fd25) (t26 : T 26 = some fd26) : ∀ n, 4 ≤ n → ∀ d, Phi T n 26 [d] = .ok (.bool (isPointsD d)) [] := fun n hn d => by
  rw [phiS t26 (by omega)]; exact run26 _ (B25 t7 t9 t11 t25 (n - 1) (by omega)) d
/-- a law is true that the run over shapes finds true -/
theorem law_by {I : Itp} {H : Nat → Hint} {cts : Nat → Option Ct} {f : Nat} {fd : Fd} (hT : T f = some fd) (hio : fd.io = none) (n0 k : Nat) (hI : LenOk I) (hc : ∀ n, n0 ≤ n → ∀ f ct, cts f = some ct → CtOk I (Phi T n) f ct) (run : allTT (aiCall T H cts k f [scriptV] st0) = true) (ns : List Int) (h : ns.length ≤ 63) (h1 : 1 ≤ n0 + k) : Phi T (n0 + k) f [.list (ns.map .int)] = .ok (.bool true) [] := by
  cases q : aiCall T H cts k f [scriptV] st0 with
  | er p => rw [q] at run; cases run
  | ok l =>
    rw [q] at run
    have hs : StOk I ⟨[], []⟩ st0 [] := ⟨⟨trivial, rfl, fun p hp => by cases hp⟩, trivial⟩
    have ha : HasVs I ⟨[], []⟩ [scriptV] [.list (ns.map .int)] := ⟨⟨⟨_, rfl, _, rfl, fun x hx => by
      obtain ⟨n, _, rfl⟩ := List.mem_map.mp hx
      exact ⟨n, rfl, trivial, trivial⟩, ⟨0, rfl, Int.natCast_nonneg _⟩, ⟨63, rfl, by rw [List.length_map]; omega⟩⟩, trivial⟩, trivial⟩
    obtain ⟨al, hal, kk⟩ := aiCall_ok hI hc k f _ _ l q _ _ _ hs ha
    have t := List.all_eq_true.mp run al hal
    unfold isTT at t
    split at t
    · obtain ⟨t, _, fr, ρ, e, _, p⟩ := kk
      cases fr with
      | bad => exact p.elim
      | exc => exact p.elim
      | ok d io =>
        have hd := p.1.1
        cases hd
        have e2 : Phi T (n0 + k) f [.list (ns.map .int)] = .ok (.bool true) io := by
          revert e
          cases Phi T (n0 + k) f [.list (ns.map .int)] with
          | bad => intro e; cases e
          | exc => intro e; cases e
          | ok => intro e; cases e; rfl
        rw [e2]
        rw [phiS hT h1] at e2
        rw [runFd_io e2 hio]
    · cases t
end
end HM

namespace HM
open PySem
/-- is_share -/
def fd33 : Fd := ⟨3, 3, none, false, (.seq (.ite (.or (.not (.isi (.var 0) .tuple)) (.or (.cmp .ne (.bi .len (.cons (.var 0) .nil)) (.int 2)) (.or (.not (.call 0 (.cons (.ix (.var 0) (.int 0)) .nil))) (.not (.call 0 (.cons (.ix (.var 0) (.int 1)) .nil)))))) (.seq (.ret (.bl false)) .skip) .skip) (.seq (.ret (.and (.chain .le .lt (.var 1) (.ix (.var 0) (.int 0)) (.var 2)) (.cmp .ge (.ix (.var 0) (.int 1)) (.int 1)))) .skip))⟩
/-- is_shares -/
def fd34 : Fd := ⟨2, 4, none, false, (.seq (.ite (.or (.not (.isi (.var 1) .tuple)) (.cmp .eq (.var 1) (.tup .nil))) (.seq (.ret (.bl false)) .skip) .skip) (.seq (.asg 2 (.int 0)) (.seq (.for_ (.one 3) (.var 1) (.seq (.ite (.not (.call 33 (.cons (.var 3) (.cons (.var 2) (.cons (.var 0) .nil))))) (.seq (.ret (.bl false)) .skip) .skip) (.seq (.asg 2 (.bin .add (.ix (.var 3) (.int 0)) (.int 1))) .skip))) (.seq (.ret (.bl true)) .skip))))⟩
/-! ### rows of a number and a share -/
def shareD (least many : Int) : PyData → Bool
  | .tuple [.int k, .int s] => decide (least ≤ k) && (decide (k < many) && decide (1 ≤ s))
  | _ => false
def rowsGo (many : Int) : Int → List PyData → Bool
  | _, [] => true
  | last, .tuple [.int k, .int s] :: r => (decide (last < k) && (decide (k < many) && decide (1 ≤ s))) && rowsGo many k r
  | _, _ :: _ => false
def isRowsD (many : PyData) (thing : PyData) : Bool := match many, thing with
  | .int n, .tuple (x :: xs) => rowsGo n (-1) (x :: xs)
  | _, _ => false
theorem ixD_0 (a b : PyData) : ixD (.tuple [a, b]) (.int 0) = some a := rfl
theorem ixD_1 (a b : PyData) : ixD (.tuple [a, b]) (.int 1) = some b := rfl
theorem len_ne2 {xs : List PyData} (h : ∀ a b, xs ≠ [a, b]) : ¬ (xs.length : Int) = 2 := fun e => by
  match xs, h, e with
  | [], _, e => simp at e
  | [a], _, e => simp at e
  | [a, b], h, _ => exact h a b rfl
  | a :: b :: c :: r, _, e => simp at e; omega
theorem rows_pair (xs : List PyData) : (∃ a b, xs = [a, b]) ∨ ∀ a b, xs ≠ [a, b] := by
  match xs with
  | [] => exact .inr fun a b h => by cases h
  | [a] => exact .inr fun a b h => by cases h
  | [a, b] => exact .inl ⟨a, b, rfl⟩
  | a :: b :: c :: r => exact .inr fun a b h => by cases h
theorem share_cases (d : PyData) : (∃ k s, d = .tuple [.int k, .int s]) ∨ ((∃ a b, d = .tuple [a, b] ∧ (isNumD a = false ∨ isNumD b = false)) ∨ ((∃ xs, d = .tuple xs ∧ ∀ a b, xs ≠ [a, b]) ∨ isTy .tuple d = false)) := by
  cases d with
  | tuple xs =>
    rcases rows_pair xs with ⟨a, b, rfl⟩ | h
    · cases ha : isNumD a
      · exact .inr (.inl ⟨a, b, rfl, .inl ha⟩)
      · cases hb : isNumD b
        · exact .inr (.inl ⟨a, b, rfl, .inr hb⟩)
        · cases a <;> first | (cases ha; done) | skip
          cases b <;> first | (cases hb; done) | skip
          exact .inl ⟨_, _, rfl⟩
    · exact .inr (.inr (.inl ⟨xs, rfl, h⟩))
  | _ => exact .inr (.inr (.inr rfl))
theorem shareD_no {d : PyData} {l m : Int} (h : ∀ k s, d ≠ .tuple [.int k, .int s]) : shareD l m d = false := by
  unfold shareD
  split
  · exact absurd rfl (h _ _)
  · rfl
theorem rowsGo_no {d : PyData} {r : List PyData} {l m : Int} (h : ∀ k s, d ≠ .tuple [.int k, .int s]) : rowsGo m l (d :: r) = false := by
  unfold rowsGo
  split
  · rename_i e; cases e
  · rename_i e; cases e; exact absurd rfl (h _ _)
  · rfl
theorem run33 (Φ : Fns) (h0 : ∀ d, Φ 0 [d] = .ok (.bool (isNumD d)) []) (d : PyData) (l m : Int) : runFd Φ fd33 [d, .int l, .int m] = .ok (.bool (shareD l m d)) [] := by
  rcases share_cases d with ⟨k, s, rfl⟩ | ⟨a, b, rfl, h⟩ | ⟨xs, rfl, h⟩ | h
  · have e0 : isNumD (.int k) = true := rfl
    have e1 : isNumD (.int s) = true := rfl
    have c2 : ((([PyData.int k, .int s].length : Nat) : Int)) = 2 := rfl
    by_cases c : l ≤ k
    · by_cases c3 : k < m
      · simp [runFd, eS_skip, eS_seq, eS_asg, eS_asgM, eS_asgs, eS_two, eS_app, eS_setM, eS_aug, eS_ret, eS_retM, eS_ite, eS_drop, eS_brk, eS_cnt, thn_nx, thn_ret, eE_var, eE_non, eE_bl, eE_int, eE_str, eE_gint, eE_nil, eE_cons, eE_bin, eE_neg, eE_cmp, eE_chain, eE_not, eE_and, eE_or, eE_ite, eE_tup, eE_lst, eE_ix, eE_sl, eE_rev, eE_call, eE_callio, eE_bi, eE_isi, eE_rng, eE_rng2, eE_enum, eE_zip, eE_lrng, eE_trng, eE_edic, eE_lenM, eE_ixM, eE_nilM, eE_popM, startS, rdVar, getS_0, getS_s, rb_ok, ro_ok, of_some, oof_some, putS, List.getElem?_cons_zero, List.getElem?_cons_succ, bin_add, bin_sub, parOf, FR.ofIo, mutS, remut, fd33, isTy_tt, tupOf, len_tup, cmp_ne_int, c2, ixD_0, ixD_1, h0, e0, e1, cmp_le_int, cmp_lt_int, cmp_ge_int, c, c3, shareD]
      · simp [runFd, eS_skip, eS_seq, eS_asg, eS_asgM, eS_asgs, eS_two, eS_app, eS_setM, eS_aug, eS_ret, eS_retM, eS_ite, eS_drop, eS_brk, eS_cnt, thn_nx, thn_ret, eE_var, eE_non, eE_bl, eE_int, eE_str, eE_gint, eE_nil, eE_cons, eE_bin, eE_neg, eE_cmp, eE_chain, eE_not, eE_and, eE_or, eE_ite, eE_tup, eE_lst, eE_ix, eE_sl, eE_rev, eE_call, eE_callio, eE_bi, eE_isi, eE_rng, eE_rng2, eE_enum, eE_zip, eE_lrng, eE_trng, eE_edic, eE_lenM, eE_ixM, eE_nilM, eE_popM, startS, rdVar, getS_0, getS_s, rb_ok, ro_ok, of_some, oof_some, putS, List.getElem?_cons_zero, List.getElem?_cons_succ, bin_add, bin_sub, parOf, FR.ofIo, mutS, remut, fd33, isTy_tt, tupOf, len_tup, cmp_ne_int, c2, ixD_0, ixD_1, h0, e0, e1, cmp_le_int, cmp_lt_int, cmp_ge_int, c, c3, shareD]
    · simp [runFd, eS_skip, eS_seq, eS_asg, eS_asgM, eS_asgs, eS_two, eS_app, eS_setM, eS_aug, eS_ret, eS_retM, eS_ite, eS_drop, eS_brk, eS_cnt, thn_nx, thn_ret, eE_var, eE_non, eE_bl, eE_int, eE_str, eE_gint, eE_nil, eE_cons, eE_bin, eE_neg, eE_cmp, eE_chain, eE_not, eE_and, eE_or, eE_ite, eE_tup, eE_lst, eE_ix, eE_sl, eE_rev, eE_call, eE_callio, eE_bi, eE_isi, eE_rng, eE_rng2, eE_enum, eE_zip, eE_lrng, eE_trng, eE_edic, eE_lenM, eE_ixM, eE_nilM, eE_popM, startS, rdVar, getS_0, getS_s, rb_ok, ro_ok, of_some, oof_some, putS, List.getElem?_cons_zero, List.getElem?_cons_succ, bin_add, bin_sub, parOf, FR.ofIo, mutS, remut, fd33, isTy_tt, tupOf, len_tup, cmp_ne_int, c2, ixD_0, ixD_1, h0, e0, e1, cmp_le_int, cmp_lt_int, cmp_ge_int, c, shareD]
  · have hn : shareD l m (.tuple [a, b]) = false := shareD_no fun k s e => by cases e; rcases h with h | h <;> cases h
    rw [hn]
    cases ha : isNumD a
    · simp [runFd, eS_skip, eS_seq, eS_asg, eS_asgM, eS_asgs, eS_two, eS_app, eS_setM, eS_aug, eS_ret, eS_retM, eS_ite, eS_drop, eS_brk, eS_cnt, thn_nx, thn_ret, eE_var, eE_non, eE_bl, eE_int, eE_str, eE_gint, eE_nil, eE_cons, eE_bin, eE_neg, eE_cmp, eE_chain, eE_not, eE_and, eE_or, eE_ite, eE_tup, eE_lst, eE_ix, eE_sl, eE_rev, eE_call, eE_callio, eE_bi, eE_isi, eE_rng, eE_rng2, eE_enum, eE_zip, eE_lrng, eE_trng, eE_edic, eE_lenM, eE_ixM, eE_nilM, eE_popM, startS, rdVar, getS_0, getS_s, rb_ok, ro_ok, of_some, oof_some, putS, List.getElem?_cons_zero, List.getElem?_cons_succ, bin_add, bin_sub, parOf, FR.ofIo, mutS, remut, fd33, isTy_tt, tupOf, len_tup, cmp_ne_int, ixD_0, ixD_1, h0, ha]
    · have hb : isNumD b = false := by rcases h with h | h; · rw [ha] at h; cases h
                                       exact h
      simp [runFd, eS_skip, eS_seq, eS_asg, eS_asgM, eS_asgs, eS_two, eS_app, eS_setM, eS_aug, eS_ret, eS_retM, eS_ite, eS_drop, eS_brk, eS_cnt, thn_nx, thn_ret, eE_var, eE_non, eE_bl, eE_int, eE_str, eE_gint, eE_nil, eE_cons, eE_bin, eE_neg, eE_cmp, eE_chain, eE_not, eE_and, eE_or, eE_ite, eE_tup, eE_lst, eE_ix, eE_sl, eE_rev, eE_call, eE_callio, eE_bi, eE_isi, eE_rng, eE_rng2, eE_enum, eE_zip, eE_lrng, eE_trng, eE_edic, eE_lenM, eE_ixM, eE_nilM, eE_popM, startS, rdVar, getS_0, getS_s, rb_ok, ro_ok, of_some, oof_some, putS, List.getElem?_cons_zero, List.getElem?_cons_succ, bin_add, bin_sub, parOf, FR.ofIo, mutS, remut, fd33, isTy_tt, tupOf, len_tup, cmp_ne_int, ixD_0, ixD_1, h0, ha, hb]
  · have hn : shareD l m (.tuple xs) = false := shareD_no fun k s e => by cases e; exact h _ _ rfl
    have c := len_ne2 h
    rw [hn]
    simp [runFd, eS_skip, eS_seq, eS_asg, eS_asgM, eS_asgs, eS_two, eS_app, eS_setM, eS_aug, eS_ret, eS_retM, eS_ite, eS_drop, eS_brk, eS_cnt, thn_nx, thn_ret, eE_var, eE_non, eE_bl, eE_int, eE_str, eE_gint, eE_nil, eE_cons, eE_bin, eE_neg, eE_cmp, eE_chain, eE_not, eE_and, eE_or, eE_ite, eE_tup, eE_lst, eE_ix, eE_sl, eE_rev, eE_call, eE_callio, eE_bi, eE_isi, eE_rng, eE_rng2, eE_enum, eE_zip, eE_lrng, eE_trng, eE_edic, eE_lenM, eE_ixM, eE_nilM, eE_popM, startS, rdVar, getS_0, getS_s, rb_ok, ro_ok, of_some, oof_some, putS, List.getElem?_cons_zero, List.getElem?_cons_succ, bin_add, bin_sub, parOf, FR.ofIo, mutS, remut, fd33, isTy_tt, tupOf, len_tup, cmp_ne_int, c]
  · have hn : shareD l m d = false := shareD_no fun k s e => by subst e; cases h
    rw [hn]
    simp [runFd, eS_skip, eS_seq, eS_asg, eS_asgM, eS_asgs, eS_two, eS_app, eS_setM, eS_aug, eS_ret, eS_retM, eS_ite, eS_drop, eS_brk, eS_cnt, thn_nx, thn_ret, eE_var, eE_non, eE_bl, eE_int, eE_str, eE_gint, eE_nil, eE_cons, eE_bin, eE_neg, eE_cmp, eE_chain, eE_not, eE_and, eE_or, eE_ite, eE_tup, eE_lst, eE_ix, eE_sl, eE_rev, eE_call, eE_callio, eE_bi, eE_isi, eE_rng, eE_rng2, eE_enum, eE_zip, eE_lrng, eE_trng, eE_edic, eE_lenM, eE_ixM, eE_nilM, eE_popM, startS, rdVar, getS_0, getS_s, rb_ok, ro_ok, of_some, oof_some, putS, List.getElem?_cons_zero, List.getElem?_cons_succ, bin_add, bin_sub, parOf, FR.ofIo, mutS, remut, fd33, h]
theorem loop34 (Φ : Fns) (h33 : ∀ d (l m : Int), Φ 33 [d, .int l, .int m] = .ok (.bool (shareD l m d)) []) (m : Int) (th : PyData) : ∀ (ds : List PyData) (last : Int) (s : Slot), Lo s →
    (rowsGo m last ds = true → ∃ l' s', forGo (forF Φ (.one 3) (.seq (.ite (.not (.call 33 (.cons (.var 3) (.cons (.var 2) (.cons (.var 0) .nil))))) (.seq (.ret (.bl false)) .skip) .skip) (.seq (.asg 2 (.bin .add (.ix (.var 3) (.int 0)) (.int 1))) .skip))) ds [.val (.int m), .val th, .val (.int (last + 1)), s] = .nx [.val (.int m), .val th, .val (.int l'), s']) ∧
    (rowsGo m last ds = false → ∃ ρ', forGo (forF Φ (.one 3) (.seq (.ite (.not (.call 33 (.cons (.var 3) (.cons (.var 2) (.cons (.var 0) .nil))))) (.seq (.ret (.bl false)) .skip) .skip) (.seq (.asg 2 (.bin .add (.ix (.var 3) (.int 0)) (.int 1))) .skip))) ds [.val (.int m), .val th, .val (.int (last + 1)), s] = .ret false (.bool false) ρ')
  | [], last, s, hs => ⟨fun _ => ⟨_, s, rfl⟩, fun h => by cases h⟩
  | d :: r, last, s, hs => by
    have ent : asgT (.one 3) d [.val (.int m), .val th, .val (.int (last + 1)), s] = some [.val (.int m), .val th, .val (.int (last + 1)), .val d] := by
      rcases hs with rfl | ⟨x, rfl⟩ <;> rfl
    have go : forF Φ (.one 3) (.seq (.ite (.not (.call 33 (.cons (.var 3) (.cons (.var 2) (.cons (.var 0) .nil))))) (.seq (.ret (.bl false)) .skip) .skip) (.seq (.asg 2 (.bin .add (.ix (.var 3) (.int 0)) (.int 1))) .skip)) d [.val (.int m), .val th, .val (.int (last + 1)), s] = (if shareD (last + 1) m d then evS Φ (.seq (.asg 2 (.bin .add (.ix (.var 3) (.int 0)) (.int 1))) .skip) [.val (.int m), .val th, .val (.int (last + 1)), .val d] else .ret false (.bool false) [.val (.int m), .val th, .val (.int (last + 1)), .val d]) := by
      rw [forF_of ent]
      cases hs : shareD (last + 1) m d <;> simp [runFd, eS_skip, eS_seq, eS_asg, eS_asgM, eS_asgs, eS_two, eS_app, eS_setM, eS_aug, eS_ret, eS_retM, eS_ite, eS_drop, eS_brk, eS_cnt, thn_nx, thn_ret, eE_var, eE_non, eE_bl, eE_int, eE_str, eE_gint, eE_nil, eE_cons, eE_bin, eE_neg, eE_cmp, eE_chain, eE_not, eE_and, eE_or, eE_ite, eE_tup, eE_lst, eE_ix, eE_sl, eE_rev, eE_call, eE_callio, eE_bi, eE_isi, eE_rng, eE_rng2, eE_enum, eE_zip, eE_lrng, eE_trng, eE_edic, eE_lenM, eE_ixM, eE_nilM, eE_popM, startS, rdVar, getS_0, getS_s, rb_ok, ro_ok, of_some, oof_some, putS, List.getElem?_cons_zero, List.getElem?_cons_succ, bin_add, bin_sub, parOf, FR.ofIo, mutS, remut, tupOf, h33, hs]
    cases hs : shareD (last + 1) m d
    · rw [hs] at go
      have hr : rowsGo m last (d :: r) = false := by
        unfold shareD at hs
        split at hs
        · rename_i k z
          show ((decide (last < k) && (decide (k < m) && decide (1 ≤ z))) && rowsGo m k r) = false
          have : (decide (last < k) && (decide (k < m) && decide (1 ≤ z))) = (decide (last + 1 ≤ k) && (decide (k < m) && decide (1 ≤ z))) := by
            congr 1
          rw [this, hs]; rfl
        · rename_i hn
          exact rowsGo_no fun k z e => hn k z e
      rw [hr]
      refine ⟨fun h => (by cases h), fun _ => ⟨[.val (.int m), .val th, .val (.int (last + 1)), .val d], ?_⟩⟩
      rw [forGo, go]
      rfl
    · rw [hs] at go
      unfold shareD at hs
      split at hs
      · rename_i k z
        have hr : rowsGo m last (.tuple [.int k, .int z] :: r) = rowsGo m k r := by
          show ((decide (last < k) && (decide (k < m) && decide (1 ≤ z))) && rowsGo m k r) = _
          have : (decide (last < k) && (decide (k < m) && decide (1 ≤ z))) = (decide (last + 1 ≤ k) && (decide (k < m) && decide (1 ≤ z))) := by
            congr 1
          rw [this, hs]; rfl
        have go2 : forF Φ (.one 3) (.seq (.ite (.not (.call 33 (.cons (.var 3) (.cons (.var 2) (.cons (.var 0) .nil))))) (.seq (.ret (.bl false)) .skip) .skip) (.seq (.asg 2 (.bin .add (.ix (.var 3) (.int 0)) (.int 1))) .skip)) (.tuple [.int k, .int z]) [.val (.int m), .val th, .val (.int (last + 1)), s] = .nx [.val (.int m), .val th, .val (.int (k + 1)), .val (.tuple [.int k, .int z])] := by
          rw [go, if_pos rfl]
          simp [runFd, eS_skip, eS_seq, eS_asg, eS_asgM, eS_asgs, eS_two, eS_app, eS_setM, eS_aug, eS_ret, eS_retM, eS_ite, eS_drop, eS_brk, eS_cnt, thn_nx, thn_ret, eE_var, eE_non, eE_bl, eE_int, eE_str, eE_gint, eE_nil, eE_cons, eE_bin, eE_neg, eE_cmp, eE_chain, eE_not, eE_and, eE_or, eE_ite, eE_tup, eE_lst, eE_ix, eE_sl, eE_rev, eE_call, eE_callio, eE_bi, eE_isi, eE_rng, eE_rng2, eE_enum, eE_zip, eE_lrng, eE_trng, eE_edic, eE_lenM, eE_ixM, eE_nilM, eE_popM, startS, rdVar, getS_0, getS_s, rb_ok, ro_ok, of_some, oof_some, putS, List.getElem?_cons_zero, List.getElem?_cons_succ, bin_add, bin_sub, parOf, FR.ofIo, mutS, remut, ixD_0]
        obtain ⟨i1, i2⟩ := loop34 Φ h33 m th r k (.val (.tuple [.int k, .int z])) (.val _)
        rw [hr]
        refine ⟨fun h => ?_, fun h => ?_⟩
        · obtain ⟨l', s', e⟩ := i1 h
          exact ⟨l', s', by rw [forGo, go2]; exact e⟩
        · obtain ⟨ρ', e⟩ := i2 h
          exact ⟨ρ', by rw [forGo, go2]; exact e⟩
      · cases hs
theorem cmp_eq_tnil (xs : List PyData) : cmpD .eq (.tuple xs) (.tuple []) = some xs.isEmpty := rfl
theorem run34 (Φ : Fns) (h33 : ∀ d (l m : Int), Φ 33 [d, .int l, .int m] = .ok (.bool (shareD l m d)) []) (m : Int) (d : PyData) : runFd Φ fd34 [.int m, d] = .ok (.bool (isRowsD (.int m) d)) [] := by
  by_cases ht : ∃ xs, d = .tuple xs
  · obtain ⟨xs, rfl⟩ := ht
    cases xs with
    | nil => simp [runFd, eS_skip, eS_seq, eS_asg, eS_asgM, eS_asgs, eS_two, eS_app, eS_setM, eS_aug, eS_ret, eS_retM, eS_ite, eS_drop, eS_brk, eS_cnt, thn_nx, thn_ret, eE_var, eE_non, eE_bl, eE_int, eE_str, eE_gint, eE_nil, eE_cons, eE_bin, eE_neg, eE_cmp, eE_chain, eE_not, eE_and, eE_or, eE_ite, eE_tup, eE_lst, eE_ix, eE_sl, eE_rev, eE_call, eE_callio, eE_bi, eE_isi, eE_rng, eE_rng2, eE_enum, eE_zip, eE_lrng, eE_trng, eE_edic, eE_lenM, eE_ixM, eE_nilM, eE_popM, startS, rdVar, getS_0, getS_s, rb_ok, ro_ok, of_some, oof_some, putS, List.getElem?_cons_zero, List.getElem?_cons_succ, bin_add, bin_sub, parOf, FR.ofIo, mutS, remut, fd34, isTy_tt, tupOf, cmp_eq_tnil, isRowsD]
    | cons x r =>
      obtain ⟨i1, i2⟩ := loop34 Φ h33 m (.tuple (x :: r)) (x :: r) (-1) .un .un
      have e0 : (-1 : Int) + 1 = 0 := rfl
      rw [e0] at i1 i2
      have hi : itemsD (.tuple (x :: r)) = some (x :: r) := rfl
      cases hr : rowsGo m (-1) (x :: r)
      · obtain ⟨ρ', e⟩ := i2 hr
        simp [runFd, eS_skip, eS_seq, eS_asg, eS_asgM, eS_asgs, eS_two, eS_app, eS_setM, eS_aug, eS_ret, eS_retM, eS_ite, eS_drop, eS_brk, eS_cnt, thn_nx, thn_ret, eE_var, eE_non, eE_bl, eE_int, eE_str, eE_gint, eE_nil, eE_cons, eE_bin, eE_neg, eE_cmp, eE_chain, eE_not, eE_and, eE_or, eE_ite, eE_tup, eE_lst, eE_ix, eE_sl, eE_rev, eE_call, eE_callio, eE_bi, eE_isi, eE_rng, eE_rng2, eE_enum, eE_zip, eE_lrng, eE_trng, eE_edic, eE_lenM, eE_ixM, eE_nilM, eE_popM, startS, rdVar, getS_0, getS_s, rb_ok, ro_ok, of_some, oof_some, putS, List.getElem?_cons_zero, List.getElem?_cons_succ, bin_add, bin_sub, parOf, FR.ofIo, mutS, remut, fd34, isTy_tt, tupOf, cmp_eq_tnil, isRowsD, hr, eS_for, hi, e, -forGo]
      · obtain ⟨l', s', e⟩ := i1 hr
        simp [runFd, eS_skip, eS_seq, eS_asg, eS_asgM, eS_asgs, eS_two, eS_app, eS_setM, eS_aug, eS_ret, eS_retM, eS_ite, eS_drop, eS_brk, eS_cnt, thn_nx, thn_ret, eE_var, eE_non, eE_bl, eE_int, eE_str, eE_gint, eE_nil, eE_cons, eE_bin, eE_neg, eE_cmp, eE_chain, eE_not, eE_and, eE_or, eE_ite, eE_tup, eE_lst, eE_ix, eE_sl, eE_rev, eE_call, eE_callio, eE_bi, eE_isi, eE_rng, eE_rng2, eE_enum, eE_zip, eE_lrng, eE_trng, eE_edic, eE_lenM, eE_ixM, eE_nilM, eE_popM, startS, rdVar, getS_0, getS_s, rb_ok, ro_ok, of_some, oof_some, putS, List.getElem?_cons_zero, List.getElem?_cons_succ, bin_add, bin_sub, parOf, FR.ofIo, mutS, remut, fd34, isTy_tt, tupOf, cmp_eq_tnil, isRowsD, hr, eS_for, hi, e, -forGo]
  · have hty : isTy .tuple d = false := by cases d <;> first | rfl | exact absurd ⟨_, rfl⟩ ht
    have hs : isRowsD (.int m) d = false := by cases d <;> first | rfl | exact absurd ⟨_, rfl⟩ ht
    simp [runFd, eS_skip, eS_seq, eS_asg, eS_asgM, eS_asgs, eS_two, eS_app, eS_setM, eS_aug, eS_ret, eS_retM, eS_ite, eS_drop, eS_brk, eS_cnt, thn_nx, thn_ret, eE_var, eE_non, eE_bl, eE_int, eE_str, eE_gint, eE_nil, eE_cons, eE_bin, eE_neg, eE_cmp, eE_chain, eE_not, eE_and, eE_or, eE_ite, eE_tup, eE_lst, eE_ix, eE_sl, eE_rev, eE_call, eE_callio, eE_bi, eE_isi, eE_rng, eE_rng2, eE_enum, eE_zip, eE_lrng, eE_trng, eE_edic, eE_lenM, eE_ixM, eE_nilM, eE_popM, startS, rdVar, getS_0, getS_s, rb_ok, ro_ok, of_some, oof_some, putS, List.getElem?_cons_zero, List.getElem?_cons_succ, bin_add, bin_sub, parOf, FR.ofIo, mutS, remut, fd34, hty, hs]
end HM

namespace HM
open PySem
/-- near_holds -/
def fd92 : Fd := ⟨2, 2, none, false, (.seq (.ret (.and (.call 34 (.cons (.bi .len (.cons (.var 0) .nil)) (.cons (.var 1) .nil))) (.call 91 (.cons (.var 0) (.cons (.call 89 (.cons (.var 0) (.cons (.var 1) .nil))) .nil))))) .skip)⟩
/-- _law_is_rows -/
def fd210 : Fd := ⟨2, 4, none, false, (.seq (.ite (.or (.not (.isi (.var 1) .tuple)) (.cmp .eq (.var 1) (.tup .nil))) (.seq (.ret (.bl false)) .skip) .skip) (.seq (.asg 2 (.neg (.int 1))) (.seq (.for_ (.one 3) (.var 1) (.seq (.ite (.or (.not (.isi (.var 3) .tuple)) (.or (.cmp .ne (.bi .len (.cons (.var 3) .nil)) (.int 2)) (.or (.not (.call 9 (.cons (.ix (.var 3) (.int 0)) .nil))) (.not (.call 9 (.cons (.ix (.var 3) (.int 1)) .nil)))))) (.seq (.ret (.bl false)) .skip) .skip) (.seq (.ite (.or (.cmp .le (.ix (.var 3) (.int 0)) (.var 2)) (.or (.cmp .ge (.ix (.var 3) (.int 0)) (.var 0)) (.cmp .lt (.ix (.var 3) (.int 1)) (.int 1)))) (.seq (.ret (.bl false)) .skip) .skip) (.seq (.asg 2 (.ix (.var 3) (.int 0))) .skip)))) (.seq (.ret (.bl true)) .skip))))⟩
theorem loop210 (Φ : Fns) (h9 : ∀ d, Φ 9 [d] = .ok (.bool (isNumD d)) []) (m : Int) (th : PyData) (B : S) (hB : B = (.seq (.ite (.or (.not (.isi (.var 3) .tuple)) (.or (.cmp .ne (.bi .len (.cons (.var 3) .nil)) (.int 2)) (.or (.not (.call 9 (.cons (.ix (.var 3) (.int 0)) .nil))) (.not (.call 9 (.cons (.ix (.var 3) (.int 1)) .nil)))))) (.seq (.ret (.bl false)) .skip) .skip) (.seq (.ite (.or (.cmp .le (.ix (.var 3) (.int 0)) (.var 2)) (.or (.cmp .ge (.ix (.var 3) (.int 0)) (.var 0)) (.cmp .lt (.ix (.var 3) (.int 1)) (.int 1)))) (.seq (.ret (.bl false)) .skip) .skip) (.seq (.asg 2 (.ix (.var 3) (.int 0))) .skip)))) : ∀ (ds : List PyData) (last : Int) (s : Slot), Lo s →
    (rowsGo m last ds = true → ∃ l' s', forGo (forF Φ (.one 3) B) ds [.val (.int m), .val th, .val (.int last), s] = .nx [.val (.int m), .val th, .val (.int l'), s']) ∧
    (rowsGo m last ds = false → ∃ ρ', forGo (forF Φ (.one 3) B) ds [.val (.int m), .val th, .val (.int last), s] = .ret false (.bool false) ρ')
  | [], last, s, hs => ⟨fun _ => ⟨_, s, rfl⟩, fun h => by cases h⟩
  | d :: r, last, s, hs => by
    have ent : asgT (.one 3) d [.val (.int m), .val th, .val (.int last), s] = some [.val (.int m), .val th, .val (.int last), .val d] := by
      rcases hs with rfl | ⟨x, rfl⟩ <;> rfl
    have no : rowsGo m last (d :: r) = false → (∃ ρ', forF Φ (.one 3) B d [.val (.int m), .val th, .val (.int last), s] = .ret false (.bool false) ρ') → (rowsGo m last (d :: r) = true → ∃ l' s', forGo (forF Φ (.one 3) B) (d :: r) [.val (.int m), .val th, .val (.int last), s] = .nx [.val (.int m), .val th, .val (.int l'), s']) ∧
      (rowsGo m last (d :: r) = false → ∃ ρ', forGo (forF Φ (.one 3) B) (d :: r) [.val (.int m), .val th, .val (.int last), s] = .ret false (.bool false) ρ') := fun hr ⟨ρ', e⟩ => by
      rw [hr]
      exact ⟨fun h => (by cases h), fun _ => ⟨ρ', by rw [forGo, e]⟩⟩
    rcases share_cases d with ⟨k, z, rfl⟩ | ⟨a, b, rfl, h⟩ | ⟨xs, rfl, h⟩ | h
    · have e0 : isNumD (.int k) = true := rfl
      have e1 : isNumD (.int z) = true := rfl
      have c2 : ((([PyData.int k, .int z].length : Nat) : Int)) = 2 := rfl
      have hr : rowsGo m last (.tuple [.int k, .int z] :: r) = ((decide (last < k) && (decide (k < m) && decide (1 ≤ z))) && rowsGo m k r) := rfl
      by_cases c : last < k
      · by_cases c3 : k < m
        · by_cases c4 : 1 ≤ z
          · have b1 : ¬ k ≤ last := by omega
            have b2 : ¬ m ≤ k := by omega
            have b3 : ¬ z < 1 := by omega
            have go2 : forF Φ (.one 3) B (.tuple [.int k, .int z]) [.val (.int m), .val th, .val (.int last), s] = .nx [.val (.int m), .val th, .val (.int k), .val (.tuple [.int k, .int z])] := by
              rw [forF_of ent, hB]
              simp [runFd, eS_skip, eS_seq, eS_asg, eS_asgM, eS_asgs, eS_two, eS_app, eS_setM, eS_aug, eS_ret, eS_retM, eS_ite, eS_drop, eS_brk, eS_cnt, thn_nx, thn_ret, eE_var, eE_non, eE_bl, eE_int, eE_str, eE_gint, eE_nil, eE_cons, eE_bin, eE_neg, eE_cmp, eE_chain, eE_not, eE_and, eE_or, eE_ite, eE_tup, eE_lst, eE_ix, eE_sl, eE_rev, eE_call, eE_callio, eE_bi, eE_isi, eE_rng, eE_rng2, eE_enum, eE_zip, eE_lrng, eE_trng, eE_edic, eE_lenM, eE_ixM, eE_nilM, eE_popM, startS, rdVar, getS_0, getS_s, rb_ok, ro_ok, of_some, oof_some, putS, List.getElem?_cons_zero, List.getElem?_cons_succ, bin_add, bin_sub, parOf, FR.ofIo, mutS, remut, isTy_tt, tupOf, len_tup, cmp_ne_int, c2, ixD_0, ixD_1, h9, e0, e1, cmp_le_int, cmp_lt_int, cmp_ge_int, b1, b2, b3]
            obtain ⟨i1, i2⟩ := loop210 Φ h9 m th B hB r k (.val (.tuple [.int k, .int z])) (.val _)
            have hr2 : rowsGo m last (.tuple [.int k, .int z] :: r) = rowsGo m k r := by rw [hr]; simp [c, c3, c4]
            rw [hr2]
            refine ⟨fun h => ?_, fun h => ?_⟩
            · obtain ⟨l', s', e⟩ := i1 h
              exact ⟨l', s', by rw [forGo, go2]; exact e⟩
            · obtain ⟨ρ', e⟩ := i2 h
              exact ⟨ρ', by rw [forGo, go2]; exact e⟩
          · have b1 : ¬ k ≤ last := by omega
            have b2 : ¬ m ≤ k := by omega
            have b3 : z < 1 := by omega
            refine no (by rw [hr]; simp [c4]) ⟨_, by rw [forF_of ent, hB]; simp [runFd, eS_skip, eS_seq, eS_asg, eS_asgM, eS_asgs, eS_two, eS_app, eS_setM, eS_aug, eS_ret, eS_retM, eS_ite, eS_drop, eS_brk, eS_cnt, thn_nx, thn_ret, eE_var, eE_non, eE_bl, eE_int, eE_str, eE_gint, eE_nil, eE_cons, eE_bin, eE_neg, eE_cmp, eE_chain, eE_not, eE_and, eE_or, eE_ite, eE_tup, eE_lst, eE_ix, eE_sl, eE_rev, eE_call, eE_callio, eE_bi, eE_isi, eE_rng, eE_rng2, eE_enum, eE_zip, eE_lrng, eE_trng, eE_edic, eE_lenM, eE_ixM, eE_nilM, eE_popM, startS, rdVar, getS_0, getS_s, rb_ok, ro_ok, of_some, oof_some, putS, List.getElem?_cons_zero, List.getElem?_cons_succ, bin_add, bin_sub, parOf, FR.ofIo, mutS, remut, isTy_tt, tupOf, len_tup, cmp_ne_int, c2, ixD_0, ixD_1, h9, e0, e1, cmp_le_int, cmp_lt_int, cmp_ge_int, b1, b2, b3]; rfl⟩
        · have b1 : ¬ k ≤ last := by omega
          have b2 : m ≤ k := by omega
          refine no (by rw [hr]; simp [c3]) ⟨_, by rw [forF_of ent, hB]; simp [runFd, eS_skip, eS_seq, eS_asg, eS_asgM, eS_asgs, eS_two, eS_app, eS_setM, eS_aug, eS_ret, eS_retM, eS_ite, eS_drop, eS_brk, eS_cnt, thn_nx, thn_ret, eE_var, eE_non, eE_bl, eE_int, eE_str, eE_gint, eE_nil, eE_cons, eE_bin, eE_neg, eE_cmp, eE_chain, eE_not, eE_and, eE_or, eE_ite, eE_tup, eE_lst, eE_ix, eE_sl, eE_rev, eE_call, eE_callio, eE_bi, eE_isi, eE_rng, eE_rng2, eE_enum, eE_zip, eE_lrng, eE_trng, eE_edic, eE_lenM, eE_ixM, eE_nilM, eE_popM, startS, rdVar, getS_0, getS_s, rb_ok, ro_ok, of_some, oof_some, putS, List.getElem?_cons_zero, List.getElem?_cons_succ, bin_add, bin_sub, parOf, FR.ofIo, mutS, remut, isTy_tt, tupOf, len_tup, cmp_ne_int, c2, ixD_0, ixD_1, h9, e0, e1, cmp_le_int, cmp_lt_int, cmp_ge_int, b1, b2]; rfl⟩
      · have b1 : k ≤ last := by omega
        refine no (by rw [hr]; simp [c]) ⟨_, by rw [forF_of ent, hB]; simp [runFd, eS_skip, eS_seq, eS_asg, eS_asgM, eS_asgs, eS_two, eS_app, eS_setM, eS_aug, eS_ret, eS_retM, eS_ite, eS_drop, eS_brk, eS_cnt, thn_nx, thn_ret, eE_var, eE_non, eE_bl, eE_int, eE_str, eE_gint, eE_nil, eE_cons, eE_bin, eE_neg, eE_cmp, eE_chain, eE_not, eE_and, eE_or, eE_ite, eE_tup, eE_lst, eE_ix, eE_sl, eE_rev, eE_call, eE_callio, eE_bi, eE_isi, eE_rng, eE_rng2, eE_enum, eE_zip, eE_lrng, eE_trng, eE_edic, eE_lenM, eE_ixM, eE_nilM, eE_popM, startS, rdVar, getS_0, getS_s, rb_ok, ro_ok, of_some, oof_some, putS, List.getElem?_cons_zero, List.getElem?_cons_succ, bin_add, bin_sub, parOf, FR.ofIo, mutS, remut, isTy_tt, tupOf, len_tup, cmp_ne_int, c2, ixD_0, ixD_1, h9, e0, e1, cmp_le_int, cmp_lt_int, cmp_ge_int, b1]; rfl⟩
    · have hr : rowsGo m last (.tuple [a, b] :: r) = false := rowsGo_no fun k z e => by cases e; rcases h with h | h <;> cases h
      have c2 : ((([a, b].length : Nat) : Int)) = 2 := rfl
      cases ha : isNumD a
      · exact no hr ⟨_, by rw [forF_of ent, hB]; simp [runFd, eS_skip, eS_seq, eS_asg, eS_asgM, eS_asgs, eS_two, eS_app, eS_setM, eS_aug, eS_ret, eS_retM, eS_ite, eS_drop, eS_brk, eS_cnt, thn_nx, thn_ret, eE_var, eE_non, eE_bl, eE_int, eE_str, eE_gint, eE_nil, eE_cons, eE_bin, eE_neg, eE_cmp, eE_chain, eE_not, eE_and, eE_or, eE_ite, eE_tup, eE_lst, eE_ix, eE_sl, eE_rev, eE_call, eE_callio, eE_bi, eE_isi, eE_rng, eE_rng2, eE_enum, eE_zip, eE_lrng, eE_trng, eE_edic, eE_lenM, eE_ixM, eE_nilM, eE_popM, startS, rdVar, getS_0, getS_s, rb_ok, ro_ok, of_some, oof_some, putS, List.getElem?_cons_zero, List.getElem?_cons_succ, bin_add, bin_sub, parOf, FR.ofIo, mutS, remut, isTy_tt, tupOf, len_tup, cmp_ne_int, c2, ixD_0, ixD_1, h9, ha]; rfl⟩
      · have hb : isNumD b = false := by rcases h with h | h; · rw [ha] at h; cases h
                                         exact h
        exact no hr ⟨_, by rw [forF_of ent, hB]; simp [runFd, eS_skip, eS_seq, eS_asg, eS_asgM, eS_asgs, eS_two, eS_app, eS_setM, eS_aug, eS_ret, eS_retM, eS_ite, eS_drop, eS_brk, eS_cnt, thn_nx, thn_ret, eE_var, eE_non, eE_bl, eE_int, eE_str, eE_gint, eE_nil, eE_cons, eE_bin, eE_neg, eE_cmp, eE_chain, eE_not, eE_and, eE_or, eE_ite, eE_tup, eE_lst, eE_ix, eE_sl, eE_rev, eE_call, eE_callio, eE_bi, eE_isi, eE_rng, eE_rng2, eE_enum, eE_zip, eE_lrng, eE_trng, eE_edic, eE_lenM, eE_ixM, eE_nilM, eE_popM, startS, rdVar, getS_0, getS_s, rb_ok, ro_ok, of_some, oof_some, putS, List.getElem?_cons_zero, List.getElem?_cons_succ, bin_add, bin_sub, parOf, FR.ofIo, mutS, remut, isTy_tt, tupOf, len_tup, cmp_ne_int, c2, ixD_0, ixD_1, h9, ha, hb]; rfl⟩
    · have hr : rowsGo m last (.tuple xs :: r) = false := rowsGo_no fun k z e => by cases e; exact h _ _ rfl
      have c := len_ne2 h
      exact no hr ⟨_, by rw [forF_of ent, hB]; simp [runFd, eS_skip, eS_seq, eS_asg, eS_asgM, eS_asgs, eS_two, eS_app, eS_setM, eS_aug, eS_ret, eS_retM, eS_ite, eS_drop, eS_brk, eS_cnt, thn_nx, thn_ret, eE_var, eE_non, eE_bl, eE_int, eE_str, eE_gint, eE_nil, eE_cons, eE_bin, eE_neg, eE_cmp, eE_chain, eE_not, eE_and, eE_or, eE_ite, eE_tup, eE_lst, eE_ix, eE_sl, eE_rev, eE_call, eE_callio, eE_bi, eE_isi, eE_rng, eE_rng2, eE_enum, eE_zip, eE_lrng, eE_trng, eE_edic, eE_lenM, eE_ixM, eE_nilM, eE_popM, startS, rdVar, getS_0, getS_s, rb_ok, ro_ok, of_some, oof_some, putS, List.getElem?_cons_zero, List.getElem?_cons_succ, bin_add, bin_sub, parOf, FR.ofIo, mutS, remut, isTy_tt, tupOf, len_tup, cmp_ne_int, c]; rfl⟩
    · have hr : rowsGo m last (d :: r) = false := rowsGo_no fun k z e => by subst e; cases h
      exact no hr ⟨_, by rw [forF_of ent, hB]; simp [runFd, eS_skip, eS_seq, eS_asg, eS_asgM, eS_asgs, eS_two, eS_app, eS_setM, eS_aug, eS_ret, eS_retM, eS_ite, eS_drop, eS_brk, eS_cnt, thn_nx, thn_ret, eE_var, eE_non, eE_bl, eE_int, eE_str, eE_gint, eE_nil, eE_cons, eE_bin, eE_neg, eE_cmp, eE_chain, eE_not, eE_and, eE_or, eE_ite, eE_tup, eE_lst, eE_ix, eE_sl, eE_rev, eE_call, eE_callio, eE_bi, eE_isi, eE_rng, eE_rng2, eE_enum, eE_zip, eE_lrng, eE_trng, eE_edic, eE_lenM, eE_ixM, eE_nilM, eE_popM, startS, rdVar, getS_0, getS_s, rb_ok, ro_ok, of_some, oof_some, putS, List.getElem?_cons_zero, List.getElem?_cons_succ, bin_add, bin_sub, parOf, FR.ofIo, mutS, remut, h]; rfl⟩
theorem run210 (Φ : Fns) (h9 : ∀ d, Φ 9 [d] = .ok (.bool (isNumD d)) []) (m : Int) (d : PyData) : runFd Φ fd210 [.int m, d] = .ok (.bool (isRowsD (.int m) d)) [] := by
  by_cases ht : ∃ xs, d = .tuple xs
  · obtain ⟨xs, rfl⟩ := ht
    cases xs with
    | nil => simp [runFd, eS_skip, eS_seq, eS_asg, eS_asgM, eS_asgs, eS_two, eS_app, eS_setM, eS_aug, eS_ret, eS_retM, eS_ite, eS_drop, eS_brk, eS_cnt, thn_nx, thn_ret, eE_var, eE_non, eE_bl, eE_int, eE_str, eE_gint, eE_nil, eE_cons, eE_bin, eE_neg, eE_cmp, eE_chain, eE_not, eE_and, eE_or, eE_ite, eE_tup, eE_lst, eE_ix, eE_sl, eE_rev, eE_call, eE_callio, eE_bi, eE_isi, eE_rng, eE_rng2, eE_enum, eE_zip, eE_lrng, eE_trng, eE_edic, eE_lenM, eE_ixM, eE_nilM, eE_popM, startS, rdVar, getS_0, getS_s, rb_ok, ro_ok, of_some, oof_some, putS, List.getElem?_cons_zero, List.getElem?_cons_succ, bin_add, bin_sub, parOf, FR.ofIo, mutS, remut, fd210, isTy_tt, tupOf, cmp_eq_tnil, isRowsD]
    | cons x r =>
      obtain ⟨i1, i2⟩ := loop210 Φ h9 m (.tuple (x :: r)) _ rfl (x :: r) (-1) .un .un
      have hi : itemsD (.tuple (x :: r)) = some (x :: r) := rfl
      cases hr : rowsGo m (-1) (x :: r)
      · obtain ⟨ρ', e⟩ := i2 hr
        simp [runFd, eS_skip, eS_seq, eS_asg, eS_asgM, eS_asgs, eS_two, eS_app, eS_setM, eS_aug, eS_ret, eS_retM, eS_ite, eS_drop, eS_brk, eS_cnt, thn_nx, thn_ret, eE_var, eE_non, eE_bl, eE_int, eE_str, eE_gint, eE_nil, eE_cons, eE_bin, eE_neg, eE_cmp, eE_chain, eE_not, eE_and, eE_or, eE_ite, eE_tup, eE_lst, eE_ix, eE_sl, eE_rev, eE_call, eE_callio, eE_bi, eE_isi, eE_rng, eE_rng2, eE_enum, eE_zip, eE_lrng, eE_trng, eE_edic, eE_lenM, eE_ixM, eE_nilM, eE_popM, startS, rdVar, getS_0, getS_s, rb_ok, ro_ok, of_some, oof_some, putS, List.getElem?_cons_zero, List.getElem?_cons_succ, bin_add, bin_sub, parOf, FR.ofIo, mutS, remut, fd210, isTy_tt, tupOf, cmp_eq_tnil, isRowsD, hr, eS_for, hi, e]
      · obtain ⟨l', s', e⟩ := i1 hr
        simp [runFd, eS_skip, eS_seq, eS_asg, eS_asgM, eS_asgs, eS_two, eS_app, eS_setM, eS_aug, eS_ret, eS_retM, eS_ite, eS_drop, eS_brk, eS_cnt, thn_nx, thn_ret, eE_var, eE_non, eE_bl, eE_int, eE_str, eE_gint, eE_nil, eE_cons, eE_bin, eE_neg, eE_cmp, eE_chain, eE_not, eE_and, eE_or, eE_ite, eE_tup, eE_lst, eE_ix, eE_sl, eE_rev, eE_call, eE_callio, eE_bi, eE_isi, eE_rng, eE_rng2, eE_enum, eE_zip, eE_lrng, eE_trng, eE_edic, eE_lenM, eE_ixM, eE_nilM, eE_popM, startS, rdVar, getS_0, getS_s, rb_ok, ro_ok, of_some, oof_some, putS, List.getElem?_cons_zero, List.getElem?_cons_succ, bin_add, bin_sub, parOf, FR.ofIo, mutS, remut, fd210, isTy_tt, tupOf, cmp_eq_tnil, isRowsD, hr, eS_for, hi, e]
  · have hty : isTy .tuple d = false := by cases d <;> first | rfl | exact absurd ⟨_, rfl⟩ ht
    have hs : isRowsD (.int m) d = false := by cases d <;> first | rfl | exact absurd ⟨_, rfl⟩ ht
    simp [runFd, eS_skip, eS_seq, eS_asg, eS_asgM, eS_asgs, eS_two, eS_app, eS_setM, eS_aug, eS_ret, eS_retM, eS_ite, eS_drop, eS_brk, eS_cnt, thn_nx, thn_ret, eE_var, eE_non, eE_bl, eE_int, eE_str, eE_gint, eE_nil, eE_cons, eE_bin, eE_neg, eE_cmp, eE_chain, eE_not, eE_and, eE_or, eE_ite, eE_tup, eE_lst, eE_ix, eE_sl, eE_rev, eE_call, eE_callio, eE_bi, eE_isi, eE_rng, eE_rng2, eE_enum, eE_zip, eE_lrng, eE_trng, eE_edic, eE_lenM, eE_ixM, eE_nilM, eE_popM, startS, rdVar, getS_0, getS_s, rb_ok, ro_ok, of_some, oof_some, putS, List.getElem?_cons_zero, List.getElem?_cons_succ, bin_add, bin_sub, parOf, FR.ofIo, mutS, remut, fd210, hty, hs]
theorem run92f (Φ : Fns) (xs : List PyData) (d : PyData) (h34 : Φ 34 [.int xs.length, d] = .ok (.bool false) []) : runFd Φ fd92 [.list xs, d] = .ok (.bool false) [] := by
  simp [runFd, eS_skip, eS_seq, eS_asg, eS_asgM, eS_asgs, eS_two, eS_app, eS_setM, eS_aug, eS_ret, eS_retM, eS_ite, eS_drop, eS_brk, eS_cnt, thn_nx, thn_ret, eE_var, eE_non, eE_bl, eE_int, eE_str, eE_gint, eE_nil, eE_cons, eE_bin, eE_neg, eE_cmp, eE_chain, eE_not, eE_and, eE_or, eE_ite, eE_tup, eE_lst, eE_ix, eE_sl, eE_rev, eE_call, eE_callio, eE_bi, eE_isi, eE_rng, eE_rng2, eE_enum, eE_zip, eE_lrng, eE_trng, eE_edic, eE_lenM, eE_ixM, eE_nilM, eE_popM, startS, rdVar, getS_0, getS_s, rb_ok, ro_ok, of_some, oof_some, putS, List.getElem?_cons_zero, List.getElem?_cons_succ, bin_add, bin_sub, parOf, FR.ofIo, mutS, remut, fd92, tupOf, len_lst, h34]
end HM

namespace HM
open PySem
/-! CTS: rows of shares; near_holds of what is none -/
section
variable {T : Nat → Option Fd}
theorem B33 (t0 : T 0 = some fd0) (t33 : T 33 = some fd33) : ∀ n, 2 ≤ n → ∀ d (l m : Int), Phi T n 33 [d, .int l, .int m] = .ok (.bool (shareD l m d)) [] := fun n hn d l m => by
  rw [phiS t33 (by omega)]; exact run33 _ (B0 t0 (n - 1) (by omega)) d l m
theorem B34 (t0 : T 0 = some fd0) (t33 : T 33 = some fd33) (t34 : T 34 = some fd34) : ∀ n, 3 ≤ n → ∀ (m : Int) d, Phi T n 34 [.int m, d] = .ok (.bool (isRowsD (.int m) d)) [] := fun n hn m d => by
  rw [phiS t34 (by omega)]; exact run34 _ (B33 t0 t33 (n - 1) (by omega)) m d
theorem B210 (t9 : T 9 = some fd9) (t210 : T 210 = some fd210) : ∀ n, 2 ≤ n → ∀ (m : Int) d, Phi T n 210 [.int m, d] = .ok (.bool (isRowsD (.int m) d)) [] := fun n hn m d => by
  rw [phiS t210 (by omega)]; exact run210 _ (B9 t9 (n - 1) (by omega)) m d
end
/-- a truth about a number and a thing -/
def symN (f : Nat) : Ct := fun _ _ as => match as with
  | [⟨.int _ _, t⟩, y] => some [.v ⟨.bol, .ap f (.cons t (.cons y.tm .nil))⟩ none]
  | _ => none
theorem symN_ok {I : Itp} {Φ : Fns} {f k : Nat} {P : PyData → PyData → Bool} (hI : ∀ d e, I k [d, e] = .bool (P d e)) (h : ∀ (m : Int) e, Φ f [.int m, e] = .ok (.bool (P (.int m) e)) []) : CtOk I Φ f (symN k) := by
  intro gs fs as rs e s ds hs hf ha
  unfold symN at e
  split at e
  · cases e
    obtain ⟨d, d', rfl, hd, hd'⟩ := ha.two
    obtain ⟨z, rfl, _⟩ := id hd.1
    refine ⟨_, List.mem_cons_self, ?_⟩
    rw [h z d']
    exact ⟨⟨⟨_, rfl⟩, [.int z, d'], ⟨_, [d'], rfl, hd.2, d', [], rfl, hd'.2, rfl⟩, (hI _ d').symm⟩, trivial⟩
  · cases e
/-- near_holds of what a fact says to be no rows (k: the rows' symbol) -/
def ct92f (k : Nat) : Ct := fun _ fs as => match as with
  | [⟨.lst _, t⟩, y] => if t.full && y.tm.full then (match lookF fs (.ap k (.cons (.ap 900 (.cons t .nil)) (.cons y.tm .nil))) with
    | some false => some [.v ⟨.tt false, .kb false⟩ none]
    | _ => none) else none
  | _ => none
theorem ct92f_ok {I : Itp} {Φ : Fns} {k : Nat} (hl : LenOk I) (hI : ∀ d e, I k [d, e] = .bool (isRowsD d e)) (h : ∀ (xs : List PyData) d, isRowsD (.int xs.length) d = false → Φ 92 [.list xs, d] = .ok (.bool false) []) : CtOk I Φ 92 (ct92f k) := by
  intro gs fs as rs e s ds hs hf ha
  unfold ct92f at e
  split at e
  · rename_i u t y
    obtain ⟨d, d', rfl, hd, hd'⟩ := ha.two
    obtain ⟨xs, rfl, _⟩ := id hd.1
    split at e
    · rename_i q
      rw [Bool.and_eq_true] at q
      split at e
      · rename_i hq
        cases e
        have ht := lookF_ok (s := s) hq hf
        obtain ⟨es, ⟨m, r, e1, ⟨ms, ⟨m1, r1, e2, m2, m3⟩, m4⟩, x2, r2, e3, m5, m6⟩, m7⟩ := ht
        cases m6
        cases m3
        cases e1
        cases e2
        cases e3
        have h1 := TmHas.uniq q.1 m2 hd.2
        have h2 := TmHas.uniq q.2 m5 hd'.2
        subst h1; subst h2
        have h3 := hl (.list xs) (.int xs.length) rfl
        rw [h3] at m4
        subst m4
        rw [hI] at m7
        refine ⟨_, List.mem_cons_self, ?_⟩
        rw [h xs _ (by injection m7 with m7; exact m7.symm)]
        exact ⟨⟨rfl, rfl⟩, trivial⟩
      · cases e
    · cases e
  · cases e
theorem B92f {T : Nat → Option Fd} (t0 : T 0 = some fd0) (t33 : T 33 = some fd33) (t34 : T 34 = some fd34) (t92 : T 92 = some fd92) : ∀ n, 4 ≤ n → ∀ (xs : List PyData) d, isRowsD (.int xs.length) d = false → Phi T n 92 [.list xs, d] = .ok (.bool false) [] := fun n hn xs d h => by
  rw [phiS t92 (by omega)]; exact run92f _ xs d (by rw [B34 t0 t33 t34 (n - 1) (by omega), h])
end HM

set_option maxHeartbeats 0
namespace My
open PySem PySem.Spec PyProof.Rows L2 HM
section
def top (i : Nat) : Stmt := PySem.Challenge.pw_heapsmeet_k17_no_near_papers.main.body.getD i (.Pass ⟨0, 0, 0, 0⟩)
def fd88 : Fd := ⟨2, 3, none, false, (.seq (.ret (.bi .sum (.cons (.comp (.bin .mul (.ix (.var 0) (.var 2)) (.ix (.var 1) (.var 2))) (.one 2) (.rng (.bi .len (.cons (.var 1) .nil))) (.bl true) [2]) .nil))) .skip)⟩
def fd89 : Fd := ⟨2, 7, none, false, (.seq (.asg 2 (.bin .mul (.lst (.cons (.int 0) .nil)) (.bi .len (.cons (.ix (.var 0) (.int 0)) .nil)))) (.seq (.asg 3 (.int 0)) (.seq (.for_ (.many [4, 5]) (.var 1) (.seq (.asg 3 (.bin .add (.var 3) (.var 5))) (.seq (.asg 2 (.comp (.bin .add (.ix (.var 2) (.var 6)) (.bin .mul (.var 5) (.ix (.ix (.var 0) (.var 4)) (.var 6)))) (.one 6) (.rng (.bi .len (.cons (.var 2) .nil))) (.bl true) [6])) .skip))) (.seq (.ret (.call 30 (.cons (.bi .tuple (.cons (.var 2) .nil)) (.cons (.var 3) .nil)))) .skip))))⟩
def fd91 : Fd := ⟨2, 4, none, false, (.seq (.asg 2 (.call 88 (.cons (.var 1) (.cons (.sl (.var 1) .non (.neg (.int 1))) .nil)))) (.seq (.ret (.cmp .eq (.comp (.var 3) (.one 3) (.var 0) (.cmp .lt (.bin .mul (.call 88 (.cons (.var 1) (.cons (.var 3) .nil))) (.ix (.var 1) (.neg (.int 1)))) (.var 2)) [3]) (.lst .nil))) .skip))⟩
def fd205 : Fd := ⟨3, 6, none, false, (.seq (.asg 3 (.comp (.call 4 (.cons (.var 0) (.cons (.bin .add (.var 4) (.int 5)) .nil))) (.one 4) (.rng (.var 1)) (.bl true) [4])) (.seq (.ite (.cmp .eq (.var 2) (.int 0)) (.seq (.ret (.comp (.bin .sub (.bin .mod (.var 5) (.int 7)) (.int 3)) (.one 5) (.var 3) (.bl true) [5])) .skip) .skip) (.seq (.ite (.cmp .eq (.var 2) (.int 1)) (.seq (.ret (.comp (.bin .sub (.bin .mod (.var 5) (.int 41)) (.int 20)) (.one 5) (.var 3) (.bl true) [5])) .skip) .skip) (.seq (.ite (.cmp .eq (.var 2) (.int 2)) (.seq (.ret (.comp (.bin .sub (.bin .mod (.var 5) (.int 2000001)) (.int 1000000)) (.one 5) (.var 3) (.bl true) [5])) .skip) .skip) (.seq (.ite (.cmp .eq (.var 2) (.int 3)) (.seq (.ret (.bin .add (.lst (.cons (.bin .add (.int 1) (.bin .mod (.ix (.var 3) (.int 0)) (.int 9))) .nil)) (.comp (.bin .sub (.bin .mod (.var 5) (.int 11)) (.int 5)) (.one 5) (.sl (.var 3) (.int 1) .non) (.bl true) [5]))) .skip) .skip) (.seq (.ret (.bin .add (.lst (.cons (.bin .add (.int 3) (.bin .mul (.bin .mod (.bin .fdiv (.ix (.var 3) (.int 0)) (.int 9)) (.int 2)) (.bin .mod (.ix (.var 3) (.int 0)) (.int 5)))) .nil)) (.comp (.bin .sub (.bin .mod (.var 5) (.int 9)) (.int 4)) (.one 5) (.sl (.var 3) (.int 1) .non) (.bl true) [5]))) .skip))))))⟩
def fd220 : Fd := ⟨3, 11, some 0, false, (.seq (.asg 3 (.callio 6 0 0 .nil)) (.seq (.asg 4 (.bin .add (.int 1) (.bin .mod (.bin .fdiv (.var 3) (.int 9)) (.var 2)))) (.seq (.asg 5 (.bin .mod (.var 3) (.int 9))) (.seq (.asgM 6 (.comp (.call 205 (.cons (.callio 6 0 0 .nil) (.cons (.var 1) (.cons (.bin .mod (.var 5) (.int 5)) .nil)))) (.one 7) (.rng (.var 4)) (.bl true) [7])) (.seq (.ite (.cmp .eq (.var 5) (.int 5)) (.seq (.asgM 6 (.bin .add (.var 6) (.comp (.comp (.bin .sub (.int 0) (.var 10)) (.one 10) (.var 8) (.bl true) [10]) (.one 8) (.sl (.var 6) .non (.bin .add (.int 1) (.bin .fdiv (.var 4) (.int 2)))) (.bl true) [8]))) .skip) .skip) (.seq (.ite (.cmp .eq (.var 5) (.int 6)) (.seq (.app 6 (.comp (.bin .sub (.int 0) (.bi .sum (.cons (.compM (.ix (.var 8) (.var 9)) (.one 8) 6 (.bl true) [8]) .nil))) (.one 9) (.rng (.var 1)) (.bl true) [9])) .skip) .skip) (.seq (.ite (.cmp .eq (.var 5) (.int 7)) (.seq (.asgM 6 (.comp (.ix (.var 6) (.int 0)) (.one 8) (.var 6) (.bl true) [8])) .skip) .skip) (.seq (.ite (.cmp .eq (.var 5) (.int 8)) (.seq (.asgM 6 (.comp (.comp (.bin .mul (.bin .add (.bin .mod (.var 7) (.int 5)) (.int 1)) (.var 10)) (.one 10) (.ixM 6 (.int 0)) (.bl true) [10]) (.one 7) (.rng (.var 4)) (.bl true) [7])) .skip) .skip) (.seq (.ret (.call 207 (.cons (.bin .fdiv (.var 3) (.int 9000)) (.cons (.var 6) (.cons (.var 1) .nil))))) .skip)))))))))⟩
def fd207 : Fd := ⟨3, 8, none, false, (.seq (.asg 3 (.bi .sorted (.cons (.comp (.tup (.cons (.call 4 (.cons (.var 0) (.cons (.bin .add (.var 7) (.int 9)) .nil))) (.cons (.var 7) .nil))) (.one 7) (.rng (.var 2)) (.bl true) [7]) .nil))) (.seq (.asg 4 (.comp (.bin .sub (.int 1) (.bin .mul (.int 2) (.bin .mod (.bin .fdiv (.ix (.var 5) (.int 0)) (.int 3)) (.int 2)))) (.one 5) (.var 3) (.bl true) [5])) (.seq (.ret (.comp (.bi .tuple (.cons (.comp (.bin .mul (.ix (.var 4) (.var 7)) (.ix (.var 6) (.ix (.ix (.var 3) (.var 7)) (.int 1)))) (.one 7) (.rng (.var 2)) (.bl true) [7]) .nil)) (.one 6) (.var 1) (.bl true) [6])) .skip)))⟩
def fd223 : Fd := ⟨0, 0, none, false, (.seq (.ret (.lst (.cons .non (.cons (.bl true) (.cons (.bl false) (.cons (.int 0) (.cons (.int 1) (.cons (.neg (.int 1)) (.cons (.str "") (.cons (.str "((0, 1),)") (.cons (.lst .nil) (.cons .edic (.cons (.tup .nil) (.cons (.tup (.cons .non .nil)) (.cons (.tup (.cons (.int 0) .nil)) (.cons (.tup (.cons (.int 1) (.cons (.int 1) .nil))) (.cons (.tup (.cons (.tup .nil) .nil)) (.cons (.tup (.cons (.tup (.cons (.int 0) .nil)) .nil)) (.cons (.tup (.cons (.tup (.cons (.int 0) (.cons (.int 1) (.cons (.int 1) .nil)))) .nil)) (.cons (.lst (.cons (.tup (.cons (.int 0) (.cons (.int 1) .nil))) .nil)) (.cons (.tup (.cons (.lst (.cons (.int 0) (.cons (.int 1) .nil))) .nil)) (.cons (.tup (.cons (.tup (.cons (.int 0) (.cons (.str "1") .nil))) .nil)) (.cons (.tup (.cons (.tup (.cons (.str "0") (.cons (.int 1) .nil))) .nil)) (.cons (.tup (.cons (.tup (.cons (.int 0) (.cons .non .nil))) .nil)) (.cons (.tup (.cons (.tup (.cons .non (.cons (.int 1) .nil))) .nil)) (.cons (.tup (.cons (.tup (.cons (.int 0) (.cons (.tup (.cons (.int 1) .nil)) .nil))) .nil)) (.cons (.tup (.cons (.tup (.cons (.tup (.cons (.int 0) (.cons (.int 1) .nil))) .nil)) .nil)) (.cons (.dic1 (.int 0) (.int 1)) (.cons (.tup (.cons (.dic1 (.int 0) (.int 1)) .nil)) (.cons (.tup (.cons (.str "01") .nil)) (.cons (.tup (.cons (.tup (.cons (.int 0) (.cons (.int 1) .nil))) (.cons .non .nil))) (.cons (.tup (.cons (.tup (.cons (.int 0) (.cons (.int 1) .nil))) (.cons (.int 1) .nil))) (.cons (.tup (.cons (.tup (.cons (.int 0) (.cons (.int 1) .nil))) (.cons (.lst .nil) .nil))) (.cons (.tup (.cons (.tup (.cons (.int 0) (.cons (.int 1) .nil))) (.cons (.lst (.cons (.int 1) (.cons (.int 1) .nil))) .nil))) (.cons (.tup (.cons (.tup (.cons (.bl false) (.cons (.int 1) .nil))) .nil)) (.cons (.tup (.cons (.tup (.cons (.int 0) (.cons (.bl true) .nil))) .nil)) (.cons (.tup (.cons (.tup (.cons (.int 0) (.cons (.int 0) .nil))) .nil)) (.cons (.tup (.cons (.tup (.cons (.int 0) (.cons (.neg (.int 1)) .nil))) .nil)) (.cons (.tup (.cons (.tup (.cons (.neg (.int 1)) (.cons (.int 1) .nil))) .nil)) (.cons (.tup (.cons (.tup (.cons (.int 0) (.cons (.int 1) .nil))) (.cons (.tup (.cons (.int 0) (.cons (.int 1) .nil))) .nil))) .nil)))))))))))))))))))))))))))))))))))))))) .skip)⟩
def fd224 : Fd := ⟨1, 8, none, false, (.seq (.asgM 1 (.call 5 (.cons (.var 0) .nil))) (.seq (.for_ (.one 2) (.rng (.int 3)) (.seq (.asg 3 (.callio 220 0 1 (.cons (.bin .add (.int 1) (.bin .mod (.callio 6 0 1 .nil) (.int 20))) (.cons (.int 8) .nil)))) (.seq (.asg 4 (.bi .len (.cons (.var 3) .nil))) (.seq (.asg 5 (.lst (.cons (.tup (.cons (.tup (.cons (.var 4) (.cons (.int 1) .nil))) .nil)) (.cons (.tup (.cons (.tup (.cons (.int 0) (.cons (.int 1) .nil))) (.cons (.tup (.cons (.bin .add (.var 4) (.var 2)) (.cons (.int 1) .nil))) .nil))) (.cons (.bi .tuple (.cons (.comp (.tup (.cons (.var 7) (.cons (.int 1) .nil))) (.one 7) (.rng (.bin .add (.var 4) (.int 1))) (.bl true) [7]) .nil)) .nil))))) (.seq (.for_ (.one 6) (.bin .add (.bin .add (.call 223 .nil) (.var 5)) (.lst (.cons (.var 3) (.cons (.bi .tuple (.cons (.var 3) .nil)) (.cons (.ix (.var 3) (.int 0)) .nil))))) (.seq (.ite (.and (.not (.call 210 (.cons (.var 4) (.cons (.var 6) .nil)))) (.cmp .isnot (.call 92 (.cons (.var 3) (.cons (.var 6) .nil))) (.bl false))) (.seq (.ret (.bl false)) .skip) .skip) .skip)) .skip))))) (.seq (.ret (.bl true)) .skip)))⟩
def T : Nat → Option Fd
  | 0 => some fd0
  | 1 => some fd1
  | 2 => some fd2
  | 30 => some fd30
  | 33 => some fd33
  | 34 => some fd34
  | 88 => some fd88
  | 89 => some fd89
  | 91 => some fd91
  | 92 => some fd92
  | 4 => some fd4
  | 5 => some fd5
  | 6 => some fd6
  | 9 => some fd9
  | 210 => some fd210
  | 205 => some fd205
  | 220 => some fd220
  | 207 => some fd207
  | 223 => some fd223
  | 224 => some fd224
  | _ => none
def p_is_number : FnP := ⟨"is_number", 0, top 1, ["thing"], ["thing"], fd0⟩
def p_common_of : FnP := ⟨"common_of", 1, top 2, ["one", "other"], ["one", "other"], fd1⟩
def p_common_in : FnP := ⟨"common_in", 2, top 3, ["numbers", "found", "number"], ["numbers"], fd2⟩
def p_spot_at : FnP := ⟨"spot_at", 30, top 4, ["numbers", "bottom", "share", "number"], ["numbers", "bottom"], fd30⟩
def p_is_share : FnP := ⟨"is_share", 33, top 6, ["thing", "least", "many"], ["thing", "least", "many"], fd33⟩
def p_is_shares : FnP := ⟨"is_shares", 34, top 7, ["many", "thing", "least", "row"], ["many", "thing"], fd34⟩
def p_sum_of : FnP := ⟨"sum_of", 88, top 9, ["mix", "arrow", "k"], ["mix", "arrow"], fd88⟩
def p_mix_of : FnP := ⟨"mix_of", 89, top 10, ["arrows", "shares", "numbers", "bottom", "k", "share", "i"], ["arrows", "shares"], fd89⟩
def p_is_nearest : FnP := ⟨"is_nearest", 91, top 11, ["arrows", "mix", "own", "arrow"], ["arrows", "mix"], fd91⟩
def p_near_holds : FnP := ⟨"near_holds", 92, top 12, ["arrows", "thing"], ["arrows", "thing"], fd92⟩
def p__law_mixed : FnP := ⟨"_law_mixed", 4, top 14, ["cell", "k", "number"], ["cell", "k"], fd4⟩
def p__law_draws : FnP := ⟨"_law_draws", 5, top 15, ["script", "drawn", "k", "cell", "j"], ["script"], fd5⟩
def p__law_next : FnP := ⟨"_law_next", 6, top 16, ["drawn"], ["drawn"], fd6⟩
def p__law_whole : FnP := ⟨"_law_whole", 9, top 17, ["thing"], ["thing"], fd9⟩
def p__law_is_rows : FnP := ⟨"_law_is_rows", 210, top 18, ["many", "thing", "last", "row"], ["many", "thing"], fd210⟩
def p__law_arrow : FnP := ⟨"_law_arrow", 205, top 19, ["number", "size", "kind", "row", "k", "one"], ["number", "size", "kind"], fd205⟩
def p__law_arrows : FnP := ⟨"_law_arrows", 220, top 20, ["drawn", "size", "most", "number", "many", "kind", "rows", "j", "row", "k", "one"], ["drawn", "size", "most"], fd220⟩
def p__law_turned_rows : FnP := ⟨"_law_turned_rows", 207, top 21, ["number", "rows", "size", "order", "sign", "mark", "row", "k"], ["number", "rows", "size"], fd207⟩
def p__law_things : FnP := ⟨"_law_things", 223, top 22, [], [], fd223⟩
def p_law : FnP := ⟨"law", 224, top 23, ["script", "drawn", "turn", "arrows", "many", "beyond", "thing", "k"], ["script"], fd224⟩
def prog : List FnP := [p_is_number, p_common_of, p_common_in, p_spot_at, p_is_share, p_is_shares, p_sum_of, p_mix_of, p_is_nearest, p_near_holds, p__law_mixed, p__law_draws, p__law_next, p__law_whole, p__law_is_rows, p__law_arrow, p__law_arrows, p__law_turned_rows, p__law_things, p_law]
def gi : List (Str × Int) := []
def bl : List Str := ["abs", "bool", "int", "isinstance", "len", "min", "range", "sorted", "sum", "tuple"]
theorem ok_is_number : p_is_number.Ok prog gi bl where
  chk := by decide +kernel
  sc := ⟨rfl, rfl, rfl, by decide +kernel, rfl, by decide +kernel, by decide +kernel⟩
  size := rfl
  pars := rfl
  le := by decide
  bind := fun _ _ _ _ _ _ us hl => match us, hl with | [_], _ => rfl
theorem ok_common_of : p_common_of.Ok prog gi bl where
  chk := by decide +kernel
  sc := ⟨rfl, rfl, rfl, by decide +kernel, rfl, by decide +kernel, by decide +kernel⟩
  size := rfl
  pars := rfl
  le := by decide
  bind := fun _ _ _ _ _ _ us hl => match us, hl with | [_, _], _ => rfl
theorem ok_common_in : p_common_in.Ok prog gi bl where
  chk := by decide +kernel
  sc := ⟨rfl, rfl, rfl, by decide +kernel, rfl, by decide +kernel, by decide +kernel⟩
  size := rfl
  pars := rfl
  le := by decide
  bind := fun _ _ _ _ _ _ us hl => match us, hl with | [_], _ => rfl
theorem ok_spot_at : p_spot_at.Ok prog gi bl where
  chk := by decide +kernel
  sc := ⟨rfl, rfl, rfl, by decide +kernel, rfl, by decide +kernel, by decide +kernel⟩
  size := rfl
  pars := rfl
  le := by decide
  bind := fun _ _ _ _ _ _ us hl => match us, hl with | [_, _], _ => rfl
theorem ok_is_share : p_is_share.Ok prog gi bl where
  chk := by decide +kernel
  sc := ⟨rfl, rfl, rfl, by decide +kernel, rfl, by decide +kernel, by decide +kernel⟩
  size := rfl
  pars := rfl
  le := by decide
  bind := fun _ _ _ _ _ _ us hl => match us, hl with | [_, _, _], _ => rfl
theorem ok_is_shares : p_is_shares.Ok prog gi bl where
  chk := by decide +kernel
  sc := ⟨rfl, rfl, rfl, by decide +kernel, rfl, by decide +kernel, by decide +kernel⟩
  size := rfl
  pars := rfl
  le := by decide
  bind := fun _ _ _ _ _ _ us hl => match us, hl with | [_, _], _ => rfl
theorem ok_sum_of : p_sum_of.Ok prog gi bl where
  chk := by decide +kernel
  sc := ⟨rfl, rfl, rfl, by decide +kernel, rfl, by decide +kernel, by decide +kernel⟩
  size := rfl
  pars := rfl
  le := by decide
  bind := fun _ _ _ _ _ _ us hl => match us, hl with | [_, _], _ => rfl
theorem ok_mix_of : p_mix_of.Ok prog gi bl where
  chk := by decide +kernel
  sc := ⟨rfl, rfl, rfl, by decide +kernel, rfl, by decide +kernel, by decide +kernel⟩
  size := rfl
  pars := rfl
  le := by decide
  bind := fun _ _ _ _ _ _ us hl => match us, hl with | [_, _], _ => rfl
theorem ok_is_nearest : p_is_nearest.Ok prog gi bl where
  chk := by decide +kernel
  sc := ⟨rfl, rfl, rfl, by decide +kernel, rfl, by decide +kernel, by decide +kernel⟩
  size := rfl
  pars := rfl
  le := by decide
  bind := fun _ _ _ _ _ _ us hl => match us, hl with | [_, _], _ => rfl
theorem ok_near_holds : p_near_holds.Ok prog gi bl where
  chk := by decide +kernel
  sc := ⟨rfl, rfl, rfl, by decide +kernel, rfl, by decide +kernel, by decide +kernel⟩
  size := rfl
  pars := rfl
  le := by decide
  bind := fun _ _ _ _ _ _ us hl => match us, hl with | [_, _], _ => rfl
theorem ok__law_mixed : p__law_mixed.Ok prog gi bl where
  chk := by decide +kernel
  sc := ⟨rfl, rfl, rfl, by decide +kernel, rfl, by decide +kernel, by decide +kernel⟩
  size := rfl
  pars := rfl
  le := by decide
  bind := fun _ _ _ _ _ _ us hl => match us, hl with | [_, _], _ => rfl
theorem ok__law_draws : p__law_draws.Ok prog gi bl where
  chk := by decide +kernel
  sc := ⟨rfl, rfl, rfl, by decide +kernel, rfl, by decide +kernel, by decide +kernel⟩
  size := rfl
  pars := rfl
  le := by decide
  bind := fun _ _ _ _ _ _ us hl => match us, hl with | [_], _ => rfl
theorem ok__law_next : p__law_next.Ok prog gi bl where
  chk := by decide +kernel
  sc := ⟨rfl, rfl, rfl, by decide +kernel, rfl, by decide +kernel, by decide +kernel⟩
  size := rfl
  pars := rfl
  le := by decide
  bind := fun _ _ _ _ _ _ us hl => match us, hl with | [_], _ => rfl
theorem ok__law_whole : p__law_whole.Ok prog gi bl where
  chk := by decide +kernel
  sc := ⟨rfl, rfl, rfl, by decide +kernel, rfl, by decide +kernel, by decide +kernel⟩
  size := rfl
  pars := rfl
  le := by decide
  bind := fun _ _ _ _ _ _ us hl => match us, hl with | [_], _ => rfl
theorem ok__law_is_rows : p__law_is_rows.Ok prog gi bl where
  chk := by decide +kernel
  sc := ⟨rfl, rfl, rfl, by decide +kernel, rfl, by decide +kernel, by decide +kernel⟩
  size := rfl
  pars := rfl
  le := by decide
  bind := fun _ _ _ _ _ _ us hl => match us, hl with | [_, _], _ => rfl
theorem ok__law_arrow : p__law_arrow.Ok prog gi bl where
  chk := by decide +kernel
  sc := ⟨rfl, rfl, rfl, by decide +kernel, rfl, by decide +kernel, by decide +kernel⟩
  size := rfl
  pars := rfl
  le := by decide
  bind := fun _ _ _ _ _ _ us hl => match us, hl with | [_, _, _], _ => rfl
theorem ok__law_arrows : p__law_arrows.Ok prog gi bl where
  chk := by decide +kernel
  sc := ⟨rfl, rfl, rfl, by decide +kernel, rfl, by decide +kernel, by decide +kernel⟩
  size := rfl
  pars := rfl
  le := by decide
  bind := fun _ _ _ _ _ _ us hl => match us, hl with | [_, _, _], _ => rfl
theorem ok__law_turned_rows : p__law_turned_rows.Ok prog gi bl where
  chk := by decide +kernel
  sc := ⟨rfl, rfl, rfl, by decide +kernel, rfl, by decide +kernel, by decide +kernel⟩
  size := rfl
  pars := rfl
  le := by decide
  bind := fun _ _ _ _ _ _ us hl => match us, hl with | [_, _, _], _ => rfl
theorem ok__law_things : p__law_things.Ok prog gi bl where
  chk := by decide +kernel
  sc := ⟨rfl, rfl, rfl, by decide +kernel, rfl, by decide +kernel, by decide +kernel⟩
  size := rfl
  pars := rfl
  le := by decide
  bind := fun _ _ _ _ _ _ us hl => match us, hl with | [], _ => rfl
theorem ok_law : p_law.Ok prog gi bl where
  chk := by decide +kernel
  sc := ⟨rfl, rfl, rfl, by decide +kernel, rfl, by decide +kernel, by decide +kernel⟩
  size := rfl
  pars := rfl
  le := by decide
  bind := fun _ _ _ _ _ _ us hl => match us, hl with | [_], _ => rfl
theorem allOk : ∀ f ∈ prog, f.Ok prog gi bl := by
  intro f hf
  simp only [prog, List.mem_cons, List.not_mem_nil, or_false] at hf
  rcases hf with rfl | rfl | rfl | rfl | rfl | rfl | rfl | rfl | rfl | rfl | rfl | rfl | rfl | rfl | rfl | rfl | rfl | rfl | rfl | rfl
  · exact ok_is_number
  · exact ok_common_of
  · exact ok_common_in
  · exact ok_spot_at
  · exact ok_is_share
  · exact ok_is_shares
  · exact ok_sum_of
  · exact ok_mix_of
  · exact ok_is_nearest
  · exact ok_near_holds
  · exact ok__law_mixed
  · exact ok__law_draws
  · exact ok__law_next
  · exact ok__law_whole
  · exact ok__law_is_rows
  · exact ok__law_arrow
  · exact ok__law_arrows
  · exact ok__law_turned_rows
  · exact ok__law_things
  · exact ok_law
theorem allT : ∀ f ∈ prog, T f.id = some f.fd := by
  intro f hf
  simp only [prog, List.mem_cons, List.not_mem_nil, or_false] at hf
  rcases hf with rfl | rfl | rfl | rfl | rfl | rfl | rfl | rfl | rfl | rfl | rfl | rfl | rfl | rfl | rfl | rfl | rfl | rfl | rfl | rfl <;> rfl
end

section
abbrev R0 : PySem.W.OpenRow := PySem.W.OpenLaw.row PySem.Challenge.rw_heapsmeet_k17_no_near_papers
abbrev hk : PySem.W.Hook := hookM 4 (faOf prog gi bl) (prog.map FnP.dd)
def ob (s : PySem.W.SharedT) : He.AlD × Bool := obsMG 4 (faOf prog gi bl) (prog.map FnP.dd) (HandSHeadRun.getT s)
theorem ob_eq (s : PySem.W.SharedT) : ob s = hk.obs s.abs := obsMG_eq (HandSHeadRun.getT_eq s)
theorem run (w : World) : HandSHeadRun.RunEq R0 (PySem.W.view R0.prog [23]) hk ob 2000 ((["_law_arrow", "_law_arrows", "_law_draws", "_law_is_rows", "_law_mixed", "_law_next", "_law_things", "_law_turned_rows", "_law_whole", "common_in", "common_of", "is_nearest"] : List Str) ++ (["is_number", "is_share", "is_shares", "mix_of", "near_holds", "spot_at", "sum_of"] : List Str)) w := by
  intro os
  kernel_rfl
end

end My
namespace My
open PySem HM
def HI : Itp
  | 104, [d, e] => .bool (isRowsD d e)
  | 900, ds => (biD .len ds).getD .none
  | _, _ => .none
theorem lenOk : LenOk HI := fun d z h => by show (biD .len [d]).getD .none = z; rw [h]; rfl
def cts : Nat → Option Ct
  | 4 => some (ct4)
  | 5 => some (ct5)
  | 6 => some (ct6)
  | 92 => some (ct92f 104)
  | 210 => some (symN 104)
  | _ => none
def hints : Nat → Hint
  | 224 => ⟨[], 0, false⟩
  | _ => ⟨[], 2, false⟩
theorem ctsOk : ∀ n, 10 ≤ n → ∀ f ct, cts f = some ct → CtOk HI (Phi T n) f ct := by
  intro n hn f ct h
  unfold cts at h
  split at h
  · cases h; exact ct4_ok (B4 rfl n (by omega))
  · cases h; exact ct5_ok (B5 rfl rfl n (by omega))
  · cases h; exact ct6_ok (B6 rfl n (by omega))
  · cases h; exact ct92f_ok lenOk (fun _ _ => rfl) (B92f rfl rfl rfl rfl n (by omega))
  · cases h; exact symN_ok (fun _ _ => rfl) (B210 rfl rfl n (by omega))
  · cases h
set_option maxHeartbeats 0 in
theorem runOk : allTT (aiCall T hints cts 30 224 [scriptV] st0) = true := by decide +kernel
theorem law_true (ns : List Int) (h : ns.length ≤ 63) : Phi T 40 224 [.list (ns.map .int)] = .ok (.bool true) [] := law_by rfl rfl 10 30 lenOk ctsOk runOk ns h (by decide)
end My

open PySem PySem.W PySem.Calls PyProof.Rows
theorem PySem.Challenge.cw_heapsmeet_k17_no_near_papers_holds : PySem.Challenge.rw_heapsmeet_k17_no_near_papers.Holds := by
  w_on; o_law
  refine HandSHeadRun.head_any (r := OpenLaw.row PySem.Challenge.rw_heapsmeet_k17_no_near_papers) (q := view (OpenLaw.row PySem.Challenge.rw_heapsmeet_k17_no_near_papers).prog [23]) (H := My.hk) (ob := My.ob) (M := 2000) (loose := (["_law_arrow", "_law_arrows", "_law_draws", "_law_is_rows", "_law_mixed", "_law_next", "_law_things", "_law_turned_rows", "_law_whole", "common_in", "common_of", "is_nearest"] : List Str) ++ (["is_number", "is_share", "is_shares", "mix_of", "near_holds", "spot_at", "sum_of"] : List Str)) (d := HandSHeadRun.topDef (OpenLaw.row PySem.Challenge.rw_heapsmeet_k17_no_near_papers).prog 23) (kwd := []) My.ob_eq
    (by kernel_rfl) (fun s => by kernel_rfl) My.run (by kernel_rfl) (by kernel_rfl) (by kernel_rfl) (by rfl) (by first | assumption | decide +kernel) (by decide +kernel) ⟨rfl, rfl, rfl, rfl, rfl, by decide +kernel⟩ ?hw ?hc
  case hw => w_witness2
  case hc =>
    refine L2.walk_ofE (l := PySem.Challenge.rw_heapsmeet_k17_no_near_papers) (n := 63) (k := 41) (x := "script") (CX := L2.CX0) rfl (by decide) (by kernel_rfl) ⟨rfl, by decide, by decide⟩ ?F (fun _ _ _ _ z => z)
    intro w mg fa h Y G hmg0
    obtain ⟨K, KX, c, nl⟩ := Y
    have hmg : mg ("law" : PySem.Str) = some (.ref fa) := by
      have e : (HandSHeadRun.topDef (OpenLaw.row PySem.Challenge.rw_heapsmeet_k17_no_near_papers).prog 23).name = ("law" : PySem.Str) := by kernel_rfl
      rw [← e]
      exact hmg0
    exact HM.law_fn (P := (PySem.Challenge.rw_heapsmeet_k17_no_near_papers).prog) (w := w) (T := My.T) (f0 := My.p_law) (n := 40) KX G c nl My.allOk My.allT (by simp [My.prog]) rfl rfl rfl hmg My.law_true
