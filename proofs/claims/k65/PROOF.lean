import PyProof.Rows.All
import Wide.All
import OpenK.AllK
import Wide.FinOn
import HandS.ForMost
import HandS.Defaults
import HandS.Exc
import HandS.TryOnly
import HandS.ExcOwn
import HandS.WordsExc
import HandS.IsInst
import HandS.Deep
import HandS.Gcd
import HandS.Zip
import HandS.Conv
import HandS.TupAny
import HandS.SortInts
import HandS.CallSlots
import HandS.Wide
import HandS.More
import HandS.Star
import HandS.CallLocal
import HandS.Flow
import HandS.Style
import KE.DataMinMax
import KE.KStateDown
import HandS.Head0
import HandS.Head1
import HandS.Head2
import HandS.HeadEnd
import HandS.HeadHook1
import HandS.HeadHook2
import HandS.HeadHook3
import PySem.Challenge.RW_bothwheels_k65_judges_of_things_bent
import KE.GoesEnum
import KE.KMathGC
import HandS.SetFor
import KE.KRevSl
import KE.DataFind
set_option Elab.async false
set_option linter.all false
set_option maxRecDepth 100000
set_option maxHeartbeats 0
/-! Ev1: values, store, a small AST, its evaluator. -/
namespace Ev
open PySem PySem.Spec PyProof.Rows

theorem and2 {a b : Bool} (h : (a && b) = true) : a = true ∧ b = true := Bool.and_eq_true_iff.mp h

/-! ### values -/
/-- a value: tuples whole, lists and dicts by their place in the store; new: a list that nobody holds yet -/
inductive PV where
  | non | bl (b : Bool) | int (i : Int) | str (x : Str) | tup (b : Bool) (xs : List PV) | ref (k : Nat) | fn (k : Nat) | new (xs : List PV)
/-- what stands at a place of the store: a list; a list that is read alone -/
inductive Cell where
  | lst (xs : List PV) | fro (xs : List PV)
abbrev Store := List Cell
abbrev Fr := List (Option PV)
/-- what comes of a run: a value, an exception of the k-th class, nothing told -/
inductive R (α : Type) where
  | ok (v : α) (S : Store) | exc (c : Nat) (S : Store) | stk
/-! ### forcing -/
def frN {α : Type} (n : Nat) (k : Nat → α) : α := match n with
  | 0 => k 0
  | m + 1 => k (m + 1)
theorem frN_eq {α : Type} (n : Nat) (k : Nat → α) : frN n k = k n := by cases n <;> rfl
def frI {α : Type} (n : Int) (k : Int → α) : α := match n with
  | .ofNat m => frN m fun m => k (.ofNat m)
  | .negSucc m => frN m fun m => k (.negSucc m)
theorem frI_eq {α : Type} (n : Int) (k : Int → α) : frI n k = k n := by
  cases n with
  | ofNat m => exact frN_eq m fun m => k (.ofNat m)
  | negSucc m => exact frN_eq m fun m => k (.negSucc m)
def frB {α : Type} (b : Bool) (k : Bool → α) : α := match b with
  | true => k true
  | false => k false
theorem frB_eq {α : Type} (n : Bool) (k : Bool → α) : frB n k = k n := by cases n <;> rfl
/-- a list's spine laid out -/
def frL {α β : Type} (xs : List β) (k : List β → α) : α := match xs with
  | [] => k []
  | x :: r => frL r fun r => k (x :: r)
theorem frL_eq {α β : Type} : ∀ (xs : List β) (k : List β → α), frL xs k = k xs
  | [], _ => rfl
  | x :: r, k => frL_eq r _
/-! ### intsP, quick in the kernel -/
def iLt : Int → Int → Bool
  | .ofNat a, .ofNat b => Nat.blt a b
  | .negSucc _, .ofNat _ => true
  | .ofNat _, .negSucc _ => false
  | .negSucc a, .negSucc b => Nat.blt b a
theorem iLt_eq (a b : Int) : iLt a b = decide (a < b) := by
  apply Bool.eq_iff_iff.mpr
  rw [decide_eq_true_iff]
  cases a <;> cases b <;> simp [iLt] <;> omega
def iEq : Int → Int → Bool
  | .ofNat a, .ofNat b => Nat.beq a b
  | .negSucc a, .negSucc b => Nat.beq a b
  | _, _ => false
theorem iEq_eq (a b : Int) : iEq a b = decide (a = b) := by
  apply Bool.eq_iff_iff.mpr
  rw [decide_eq_true_iff]
  cases a <;> cases b <;> simp [iEq] <;> omega

/-! ### the store -/
/-- the items of a list -/
def items (S : Store) : PV → Option (List PV)
  | .new xs => some xs
  | .ref k => match S[k]? with
    | some (.lst xs) => some xs
    | some (.fro xs) => some xs
    | none => none
  | _ => none
/-- a value that may be kept: a new list goes into the store -/
def mat (v : PV) (S : Store) : PV × Store := match v with
  | .new xs => (.ref S.length, S ++ [.lst xs])
  | v => (v, S)

/-! ### data, for == and in -/
def mapO {α β : Type} (f : α → Option β) : List α → Option (List β)
  | [] => some []
  | x :: r => match f x with
    | some a => (match mapO f r with
      | some as => some (a :: as)
      | none => none)
    | none => none
/-- d: how deep it may be -/
def toD (S : Store) : Nat → PV → Option PyData
  | 0, _ => none
  | d + 1, v => match v with
    | .non => some .none
    | .bl b => some (.bool b)
    | .int i => some (.int i)
    | .str x => (match PyData.canLay0 (.str x) with
      | true => some (.str x)
      | false => none)
    | .tup _ xs => (match mapO (toD S d) xs with
      | some ds => some (.tuple ds)
      | none => none)
    | .fn _ => none
    | v => (match items S v with
      | some xs => (match mapO (toD S d) xs with
        | some ds => some (.list ds)
        | none => none)
      | none => none)

/-! ### operators -/
inductive Op where | add | sub | mul | fdiv | mod | pow
inductive Co where | lt | le | gt | ge | eq | ne | is | isnot | in_ | notin
inductive Ty where | int | bool | str | list | tuple
  deriving DecidableEq
inductive B where | len | abs | int | max2 | min2 | gcd | divmod | max | min | sum | any | all | tuple | tupleF | list | sorted | fact | lenset | str
inductive M where | append | extend | pop

def small64 : Int → Bool
  | .ofNat n => Nat.blt n 18446744073709551616
  | .negSucc n => Nat.blt n 18446744073709551615
def small30 : Int → Bool
  | .ofNat n => Nat.blt n 1073741824
  | .negSucc n => Nat.blt n 1073741823
def okN (n : Nat) : Bool := Nat.ble n 16777216
/-- a list that may be written -/
def mlist (S : Store) : PV → Option (List PV)
  | .new xs => some xs
  | .ref k => match S[k]? with
    | some (.lst xs) => some xs
    | _ => none
  | _ => none
def binop (S : Store) : Op → PV → PV → Option PV
  | .add, .int i, .int j => frI (i + j) fun k => some (.int k)
  | .sub, .int i, .int j => frI (i - j) fun k => some (.int k)
  | .mul, .int i, .int j => match small64 i || small64 j with
    | true => frI (i * j) fun k => some (.int k)
    | false => none
  | .fdiv, .int i, .int j => match !iEq j 0 && small30 j with
    | true => frI (i.fdiv j) fun k => some (.int k)
    | false => none
  | .mod, .int i, .int j => match iEq j 0 with
    | false => frI (i.fmod j) fun k => some (.int k)
    | true => none
  | .pow, .int i, .int j => match !iLt j 0 && !iLt 1000000 j && small64 i with
    | true => frI (i ^ j.toNat) fun k => some (.int k)
    | false => none
  | .add, .tup _ xs, .tup _ ys => match okN (xs.length + ys.length) with
    | true => frL (xs ++ ys) fun zs => some (.tup false zs)
    | false => none
  | .add, a, b => match mlist S a, mlist S b with
    | some xs, some ys => (match okN (xs.length + ys.length) with
      | true => frL (xs ++ ys) fun zs => some (.new zs)
      | false => none)
    | _, _ => none
  | .mul, a, .int k => match mlist S a with
    | some xs => (match small30 k && okN (xs.length * k.toNat) with
      | true => frL (List.replicate k.toNat xs).flatten fun zs => some (.new zs)
      | false => none)
    | none => none
  | _, _, _ => none

/-! ### comparisons -/
def pyEq (S : Store) (a b : PV) : Option Bool := match a, b with
  | .int i, .int j => some (iEq i j)
  | .bl i, .bl j => some (i == j)
  | .non, .non => some true
  | .non, .int _ => some false
  | .int _, .non => some false
  | .str x, .str y => some (decide (x = y))
  | a, b => match toD S 60 a, toD S 60 b with
    | some d, some e => some (PyData.eqv d e)
    | _, _ => none
/-- i among intsP -/
def inI (i : Int) : List PV → Option Bool
  | [] => some false
  | .int j :: r => match inI i r with
    | some b => some (iEq j i || b)
    | none => none
  | _ :: _ => none
def inG (S : Store) (x : PV) (xs : List PV) : Option Bool := match toD S 59 x, mapO (toD S 58) xs with
  | some d, some ds => some (ds.any fun z => PyData.eqv z d)
  | _, _ => none
def inP (S : Store) (x : PV) (xs : List PV) : Option Bool := match x with
  | .int i => (match inI i xs with
    | some b => some b
    | none => inG S (.int i) xs)
  | x => inG S x xs
def seqL (S : Store) : PV → Option (List PV)
  | .tup _ xs => some xs
  | v => items S v
def pyIn (S : Store) (x y : PV) : Option Bool := match seqL S y with
  | some xs => inP S x xs
  | none => none
def isNon : PV → Bool
  | .non => true
  | _ => false
def cmp (S : Store) : Co → PV → PV → Option Bool
  | .lt, .int i, .int j => some (iLt i j)
  | .le, .int i, .int j => some (!iLt j i)
  | .gt, .int i, .int j => some (iLt j i)
  | .ge, .int i, .int j => some (!iLt i j)
  | .eq, a, b => pyEq S a b
  | .ne, a, b => match pyEq S a b with
    | some c => some (!c)
    | none => none
  | .is, a, .non => some (isNon a)
  | .isnot, a, .non => some (!isNon a)
  | .in_, a, b => pyIn S a b
  | .notin, a, b => match pyIn S a b with
    | some c => some (!c)
    | none => none
  | _, _, _ => none

/-! ### places -/
def nth {α : Type} : List α → Nat → Option α
  | [], _ => none
  | x :: _, 0 => some x
  | _ :: r, n + 1 => nth r n
theorem nth_eq {α : Type} : ∀ (xs : List α) (n : Nat), nth xs n = xs[n]?
  | [], _ => rfl
  | _ :: _, 0 => rfl
  | _ :: r, n + 1 => by rw [nth, nth_eq r n]; rfl
/-- where i points, from 0 or from the end -/
def place (n : Nat) : Int → Option Nat
  | .ofNat k => match Nat.blt k n with
    | true => some k
    | false => none
  | .negSucc k => match Nat.blt k n with
    | true => some (n - (k + 1))
    | false => none
def item {α : Type} (xs : List α) (i : Int) : Option α := match i with
  | .ofNat k => nth xs k
  | .negSucc k => match Nat.blt k xs.length with
    | true => nth xs (xs.length - (k + 1))
    | false => none
/-- a slice's end -/
def cutAt (n d : Nat) : Option Int → Nat
  | none => d
  | some (.ofNat k) => Nat.min k n
  | some (.negSucc k) => n - (k + 1)
def cut {α : Type} (xs : List α) (lo hi : Option Int) : List α :=
  (xs.drop (cutAt xs.length 0 lo)).take (cutAt xs.length xs.length hi - cutAt xs.length 0 lo)
def index (S : Store) (a i : PV) : Option PV := match i with
  | .int i => (match a with
    | .tup _ xs => item xs i
    | .str x => (match okN x.length with
      | true => (match item x.cps.toList i with
        | some c => some (.str ⟨#[c]⟩)
        | none => none)
      | false => none)
    | a => match items S a with
      | some xs => item xs i
      | none => none)
  | _ => none
def slice (S : Store) (a : PV) (lo hi : Option Int) : Option PV := match a with
  | .tup _ xs => frL (cut xs lo hi) fun zs => some (.tup false zs)
  | a => match items S a with
    | some xs => frL (cut xs lo hi) fun zs => some (.new zs)
    | none => none

/-! ### built-ins -/
def intsP : List PV → Option (List Int)
  | [] => some []
  | .int i :: r => match intsP r with
    | some is => some (i :: is)
    | none => none
  | _ :: _ => none
def boolsP : List PV → Option (List Bool)
  | [] => some []
  | .bl i :: r => match boolsP r with
    | some is => some (i :: is)
    | none => none
  | _ :: _ => none
def sumI : List Int → Int → Int
  | [], a => a
  | i :: r, a => frI (a + i) fun b => sumI r b
def maxI : List Int → Int → Int
  | [], a => a
  | i :: r, a => match iLt a i with
    | true => maxI r i
    | false => maxI r a
def minI : List Int → Int → Int
  | [], a => a
  | i :: r, a => match iLt i a with
    | true => minI r i
    | false => minI r a
def insI (i : Int) : List Int → List Int
  | [] => [i]
  | j :: r => match iLt j i with
    | true => j :: insI i r
    | false => i :: j :: r
def sortI : List Int → List Int
  | [] => []
  | i :: r => frL (insI i (sortI r)) fun x => x
def isTy (S : Store) (t : Ty) : PV → Option Bool
  | .non => some false
  | .bl _ => some (t == .int || t == .bool)
  | .int _ => some (t == .int)
  | .str _ => some (t == .str)
  | .tup _ _ => some (t == .tuple)
  | .fn _ => none
  | v => match items S v with
    | some _ => some (t == .list)
    | none => none
def isTys (S : Store) (v : PV) : List Ty → Option Bool
  | [] => some false
  | t :: ts => match isTy S t v with
    | some b => (match isTys S v ts with
      | some c => some (b || c)
      | none => none)
    | none => none
def factN : Nat → Nat
  | 0 => 1
  | n + 1 => Nat.mul (n + 1) (factN n)
def tupsI : List PV → Option (List (List Int))
  | [] => some []
  | .tup _ xs :: r => match intsP xs with
    | some is => (match tupsI r with
      | some iss => some (is :: iss)
      | none => none)
    | none => none
  | _ :: _ => none
def minT : List (List Int) → List Int → List Int
  | [], a => a
  | i :: r, a => match PySem.W.dataLt (.tuple (i.map .int)) (.tuple (a.map .int)) with
    | true => minT r i
    | false => minT r a
def memI (i : Int) : List Int → Bool
  | [] => false
  | j :: r => match iEq i j with
    | true => true
    | false => memI i r
def dedI : List Int → List Int
  | [] => []
  | i :: r => match memI i r with
    | true => dedI r
    | false => i :: dedI r
def bi (S : Store) : B → List PV → Option PV
  | .len, [a] => (match a with
    | .str x => (match okN x.length with
      | true => some (.int (.ofNat x.length))
      | false => none)
    | a => match seqL S a with
      | some xs => frN xs.length fun n => some (.int (.ofNat n))
      | none => none)
  | .abs, [.int i] => (match i with
    | .ofNat n => some (.int (.ofNat n))
    | .negSucc n => some (.int (.ofNat (n + 1))))
  | .int, [a] => (match a with
    | .int i => some (.int i)
    | .bl b => some (.int (match b with | true => 1 | false => 0))
    | _ => none)
  | .max2, [.int i, .int j] => (match iLt i j with
    | true => some (.int j)
    | false => some (.int i))
  | .min2, [.int i, .int j] => (match iLt j i with
    | true => some (.int j)
    | false => some (.int i))
  | .gcd, [.int i, .int j] => frN (Nat.gcd i.natAbs j.natAbs) fun n => some (.int (.ofNat n))
  | .divmod, [.int i, .int j] => (match iLt 0 j && small30 j with
    | true => frI (i / j) fun q => frI (i % j) fun r => some (.tup false [.int q, .int r])
    | false => none)
  | .max, [a] => (match seqL S a with
    | some xs => (match intsP xs with
      | some (i :: is) => some (.int (maxI is i))
      | _ => none)
    | none => none)
  | .min, [a] => (match seqL S a with
    | some xs => (match intsP xs with
      | some (i :: is) => some (.int (minI is i))
      | _ => (match tupsI xs with
        | some (t :: ts) => some (.tup false ((minT ts t).map .int))
        | _ => none))
    | none => none)
  | .sum, [a] => (match seqL S a with
    | some xs => (match intsP xs with
      | some is => some (.int (sumI is 0))
      | _ => none)
    | none => none)
  | .any, [a] => (match items S a with
    | some xs => (match boolsP xs with
      | some is => some (.bl (is.any id))
      | _ => none)
    | none => none)
  | .all, [a] => (match items S a with
    | some xs => (match boolsP xs with
      | some is => some (.bl (is.all id))
      | _ => none)
    | none => none)
  | .tuple, [a] => (match seqL S a with
    | some xs => some (.tup false xs)
    | none => none)
  | .tupleF, [a] => (match a with
    | .tup b xs => some (.tup b xs)
    | a => match items S a with
      | some xs => some (.tup true xs)
      | none => none)
  | .list, [a] => (match seqL S a with
    | some xs => some (.new xs)
    | none => none)
  | .sorted, [a] => (match seqL S a with
    | some xs => (match intsP xs with
      | some is => frL ((sortI is).map .int) fun zs => some (.new zs)
      | _ => none)
    | none => none)
  | .fact, [.int (.ofNat n)] => (match Nat.ble n 20 with
    | true => frN (factN n) fun m => some (.int (.ofNat m))
    | false => none)
  | .lenset, [a] => (match a with
    | .tup _ xs => (match intsP xs with
      | some is => (match Nat.ble is.length 4000 with
        | true => frN (dedI is).length fun m => some (.int (.ofNat m))
        | false => none)
      | none => none)
    | _ => none)
  | .str, [.int i] => (match small64 i with
    | true => some (.str (Str.ofString (toString i)))
    | false => none)
  | _, _ => none

/-! ### the tree -/
inductive Tg where
  | n (i : Nat) | nil | cons (a : Tg) (r : Tg)
mutual
inductive E where
  | non | bl (b : Bool) | int (i : Int) | str (x : Str)
  | v (i : Nat) | g (k : Nat) | f (k : Nat)
  | tup (es : Es) | tupF (es : Es) | lst (es : Es)
  | bin (o : Op) (a b : E) | neg (a : E)
  | cmp (o : Co) (a b : E) | chn (o p : Co) (a b c : E)
  | and (a b : E) | or (a b : E) | not (a : E) | ife (c a b : E)
  | call (k : Nat) (es : Es) | callS (k : Nat) (es : Es) | calv (i : Nat) (es : Es)
  | bi (b : B) (es : Es) | isi (ts : List Ty) (a : E)
  | ix (a i : E) | sl (a : E) (lo hi : P)
  | mth (m : M) (a : E) (es : Es) | cnt (a e : E)
  | comp (own : List Nat) (t : Tg) (it : I) (c : P) (e : E)
  | comp2 (own : List Nat) (t : Tg) (it : I) (c : P) (own2 : List Nat) (t2 : Tg) (it2 : I) (c2 : P) (e : E)
  | orL (a b : E) | dwn (a : E) (lo : P) | gget (k : Nat) (a : E) | unk
inductive Es where
  | nil | cons (e : E) (r : Es) | star (e : E) (r : Es)
inductive P where
  | none | some (e : E)
inductive I where
  | e (a : E) | rng (es : Es) | enum (a : E) | zip (a b : E)
end
mutual
inductive Sx where
  | pass | asg (t : Tg) (e : E) | par (i j : Nat) (a b : E) | par3 (i j k : Nat) (a b c : E) | asgI (o i e : E) | aug (i : Nat) (o : Op) (e : E) | augI (o i : E) (p : Op) (e : E)
  | unk | ifs (c : E) (a b : Ss) | whl (c : E) (b : Ss) | for_ (t : Tg) (it : I) (b : Ss) | ret (e : E) | retN | ex (e : E) | brk | cont | raise (c : Nat)
inductive Ss where
  | nil | cons (a : Sx) (r : Ss)
end

/-! ### the evaluator -/
def R.bnd {α β : Type} (r : R α) (k : α → Store → R β) : R β := match r with
  | .ok v S => k v S
  | .exc c S => .exc c S
  | .stk => .stk
def R.of {α : Type} (S : Store) : Option α → R α
  | some v => .ok v S
  | none => .stk
/-- values that may be kept -/
def mats : List PV → Store → List PV × Store
  | [], S => ([], S)
  | v :: r, S => match mat v S with
    | (v, S) => match mats r S with
      | (r, S) => (v :: r, S)
mutual
/-- a value without places of the store -/
def flat : PV → Bool
  | .tup _ xs => flats xs
  | .ref _ => false
  | .new _ => false
  | .non => true
  | .bl _ => true
  | .int _ => true
  | .str _ => true
  | .fn _ => true
def flats : List PV → Bool
  | [] => true
  | v :: r => flat v && flats r
end
/-- an argument that a callee may have alone -/
def alone : List PV → Bool
  | [] => true
  | .new xs :: r => flats xs && alone r
  | v :: r => flat v && alone r
/-- what a callee of its own store hands back -/
def handed (S' : Store) : PV → Option PV
  | .ref k => match S'[k]? with
    | some (.lst xs) => (match flats xs with
      | true => some (.new xs)
      | false => none)
    | _ => none
  | .new xs => match flats xs with
    | true => some (.new xs)
    | false => none
  | v => match flat v with
    | true => some v
    | false => none
abbrev Fn := Nat → List PV → Store → R PV
def callF (F : Fn) (k : Nat) (vs : List PV) (S : Store) : R PV := match alone vs with
  | true => (match mats vs [] with
    | (vs, S0) => match F k vs S0 with
      | .ok v S' => R.of S (handed S' v)
      | .exc c _ => .exc c S
      | .stk => .stk)
  | false => (match mats vs S with
    | (vs, S) => F k vs S)
def setT (t : Tg) (v : PV) (fr : Fr) : Option Fr := match t with
  | .n i => match Nat.blt i fr.length with
    | true => frL (fr.set i (some v)) some
    | false => none
  | .nil => match v with
    | .tup _ [] => some fr
    | _ => none
  | .cons a r => match v with
    | .tup b (x :: xs) => (match setT a x fr with
      | some fr => setT r (.tup b xs) fr
      | none => none)
    | _ => none
def wipe (fr : Fr) : List Nat → Fr
  | [] => fr
  | i :: r => (wipe fr r).set i none
def rangeL (lo : Int) : Nat → List PV
  | 0 => []
  | n + 1 => .int lo :: frI (lo + 1) fun lo => rangeL lo n
def enumL (i : Nat) : List PV → List PV
  | [] => []
  | x :: r => .tup false [.int (.ofNat i), x] :: frN (i + 1) fun i => enumL i r
def zipL : List PV → List PV → List PV
  | x :: xs, y :: ys => .tup false [x, y] :: zipL xs ys
  | _, _ => []
def isTup : PV → Bool
  | .tup _ _ => true
  | _ => false
def small62 : Int → Bool
  | .ofNat n => Nat.blt n 4611686018427387904
  | .negSucc n => Nat.blt n 4611686018427387904
/-- what is walked: the items, and the places whose lists must rest meanwhile -/
abbrev Wk := List PV × List (Nat × List PV)
def walk (S : Store) (v : PV) : Option Wk := match v with
  | .tup _ xs => some (xs, [])
  | .new xs => some (xs, [])
  | .ref k => (match S[k]? with
    | some (.lst xs) => some (xs, [(k, xs)])
    | some (.fro xs) => some (xs, [])
    | none => none)
  | _ => none
def lock (S : Store) : List (Nat × List PV) → Store
  | [] => S
  | (k, xs) :: r => lock (S.set k (.fro xs)) r
def unlock (S : Store) : List (Nat × List PV) → Store
  | [] => S
  | (k, xs) :: r => unlock (S.set k (.lst xs)) r
def pickIf {α : Type} (v : PV) (a b : Unit → R α) : R α := match v with
  | .bl true => a ()
  | .bl false => b ()
  | _ => .stk
/-- within a comprehension nothing may be raised -/
def R.nx {α : Type} (r : R α) : R α := match r with
  | .exc _ _ => .stk
  | .ok v S => .ok v S
  | .stk => .stk
/-- a comprehension's turns -/
def turns (t : Tg) (fr : Fr) (c e : Fr → Store → R PV) : List PV → Nat → Store → R (List PV)
  | [], _, S => .ok [] S
  | x :: r, n, S => match setT t x fr with
    | some fr1 => (c fr1 S).nx.bnd fun b S => pickIf b
        (fun _ => (e fr1 S).nx.bnd fun v S => match mat v S with
          | (v, S) => (match Nat.blt n 16777216 with
            | true => (turns t fr c e r (n + 1) S).bnd fun vs S => .ok (v :: vs) S
            | false => .stk))
        (fun _ => turns t fr c e r n S)
    | none => .stk
/-- the turns of two fors: g gives an outer turn's items -/
def turns2 (t : Tg) (fr : Fr) (c : Fr → Store → R PV) (g : Fr → Nat → Store → R (List PV)) : List PV → Nat → Store → R (List PV)
  | [], _, S => .ok [] S
  | x :: r, n, S => match setT t x fr with
    | some fr1 => (c fr1 S).nx.bnd fun b S => pickIf b
        (fun _ => (g fr1 n S).nx.bnd fun vs S => frN (n + vs.length) fun m => (turns2 t fr c g r m S).bnd fun us S => frL (vs ++ us) fun ws => .ok ws S)
        (fun _ => turns2 t fr c g r n S)
    | none => .stk
/-- the items from the i-th down to the first -/
def downTo {α : Type} (xs : List α) (i : Option Int) : List α := match i with
  | none => xs.reverse
  | some (.ofNat k) => (xs.take (k + 1)).reverse
  | some (.negSucc k) => (xs.take (xs.length - k)).reverse
def keyed (x : Str) : List PV → PV
  | .tup _ [.str y, v] :: r => match decide (x = y) with
    | true => v
    | false => keyed x r
  | _ => .non
def downPV (S : Store) (a : PV) (i : Option Int) : Option PV := match a with
  | .tup _ xs => frL (downTo xs i) fun ys => some (.tup false ys)
  | a => match items S a with
    | some xs => frL (downTo xs i) fun ys => some (.new ys)
    | none => none
def meth (m : M) (a : PV) (vs : List PV) (S : Store) : R PV := match m with
  | .append => (match a, vs with
    | .ref k, [v] => (match S[k]? with
      | some (.lst xs) => (match mat v S with
        | (v, S) => match Nat.blt xs.length 16777216 with
          | true => frL (xs ++ [v]) fun zs => .ok .non (S.set k (.lst zs))
          | false => .stk)
      | _ => .stk)
    | _, _ => .stk)
  | .extend => (match a, vs with
    | .ref k, [v] => (match S[k]?, mlist S v with
      | some (.lst xs), some ys => (match okN (xs.length + ys.length) with
        | true => frL (xs ++ ys) fun zs => .ok .non (S.set k (.lst zs))
        | false => .stk)
      | _, _ => .stk)
    | _, _ => .stk)
  | .pop => (match a, vs with
    | .ref k, [] => (match S[k]? with
      | some (.lst xs) => (match xs.getLast? with
        | some v => frL xs.dropLast fun zs => .ok v (S.set k (.lst zs))
        | none => .stk)
      | _ => .stk)
    | _, _ => .stk)
/-- a list of the store that may be written -/
def isL (S : Store) : PV → Bool
  | .ref k => (match S[k]? with
    | some (.lst _) => true
    | _ => false)
  | _ => false
def cnt (a y : PV) : Option PV := match a, y with
  | .tup true xs, .int i => (match intsP xs with
    | some is => some (.int (.ofNat (is.count i)))
    | none => none)
  | _, _ => none
mutual
def ev (F : Fn) (C : List PV) : E → Fr → Store → R PV
  | .non, _, S => .ok .non S
  | .bl b, _, S => .ok (.bl b) S
  | .int i, _, S => .ok (.int i) S
  | .str x, _, S => .ok (.str x) S
  | .v i, fr, S => match nth fr i with
    | some (some v) => .ok v S
    | _ => .stk
  | .g k, _, S => R.of S (nth C k)
  | .f k, _, S => .ok (.fn k) S
  | .tup es, fr, S => (evs F C es fr S).bnd fun vs S => match mats vs S with
    | (vs, S) => match okN vs.length with
      | true => .ok (.tup false vs) S
      | false => .stk
  | .tupF es, fr, S => (evs F C es fr S).bnd fun vs S => match mats vs S with
    | (vs, S) => match okN vs.length with
      | true => .ok (.tup true vs) S
      | false => .stk
  | .lst es, fr, S => (evs F C es fr S).bnd fun vs S => match mats vs S with
    | (vs, S) => match okN vs.length with
      | true => .ok (.new vs) S
      | false => .stk
  | .bin o a b, fr, S => (ev F C a fr S).bnd fun x S => (ev F C b fr S).bnd fun y S => R.of S (binop S o x y)
  | .neg a, fr, S => (ev F C a fr S).bnd fun x S => match x with
    | .int i => frI (-i) fun i => .ok (.int i) S
    | _ => .stk
  | .cmp o a b, fr, S => (ev F C a fr S).bnd fun x S => (ev F C b fr S).bnd fun y S => match cmp S o x y with
    | some c => frB c fun c => .ok (.bl c) S
    | none => .stk
  | .chn o p a b c, fr, S => (ev F C a fr S).bnd fun x S => (ev F C b fr S).bnd fun y S => match cmp S o x y with
    | some true => (ev F C c fr S).bnd fun z S => (match cmp S p y z with
      | some d => frB d fun d => .ok (.bl d) S
      | none => .stk)
    | some false => .ok (.bl false) S
    | none => .stk
  | .and a b, fr, S => (ev F C a fr S).bnd fun x S => pickIf x (fun _ => ev F C b fr S) (fun _ => .ok (.bl false) S)
  | .or a b, fr, S => (ev F C a fr S).bnd fun x S => pickIf x (fun _ => .ok (.bl true) S) (fun _ => ev F C b fr S)
  | .not a, fr, S => (ev F C a fr S).bnd fun x S => pickIf x (fun _ => .ok (.bl false) S) (fun _ => .ok (.bl true) S)
  | .ife c a b, fr, S => (ev F C c fr S).bnd fun x S => pickIf x (fun _ => ev F C a fr S) (fun _ => ev F C b fr S)
  | .call k es, fr, S => (evs F C es fr S).bnd fun vs S => callF F k vs S
  | .callS k es, fr, S => (evs F C es fr S).bnd fun vs S => match mats vs S with
    | (vs, S) => F k vs S
  | .calv i es, fr, S => match nth fr i with
    | some (some (.fn k)) => (evs F C es fr S).bnd fun vs S => callF F k vs S
    | _ => .stk
  | .bi b es, fr, S => (evs F C es fr S).bnd fun vs S => R.of S (bi S b vs)
  | .isi ts a, fr, S => (ev F C a fr S).bnd fun x S => match isTys S x ts with
    | some c => frB c fun c => .ok (.bl c) S
    | none => .stk
  | .ix a i, fr, S => (ev F C a fr S).bnd fun x S => (ev F C i fr S).bnd fun y S => R.of S (index S x y)
  | .sl a lo hi, fr, S => (ev F C a fr S).bnd fun x S => (evp F C lo fr S).bnd fun l S => (evp F C hi fr S).bnd fun h S => R.of S (slice S x l h)
  | .mth m a es, fr, S => (ev F C a fr S).bnd fun x S => match isL S x with
    | true => (evs F C es fr S).bnd fun vs S => meth m x vs S
    | false => .stk
  | .cnt a e, fr, S => (ev F C a fr S).bnd fun x S => match x with
    | .tup true xs => (ev F C e fr S).bnd fun y S => R.of S (cnt (.tup true xs) y)
    | _ => .stk
  | .comp own t it c e, fr, S => (evi F C it fr S).bnd fun w S => (turns t (wipe fr own) (match c with
      | .none => fun _ S => .ok (.bl true) S
      | .some c => ev F C c) (ev F C e) w.1 0 (lock S w.2)).bnd fun vs S => .ok (.new vs) (unlock S w.2)
  | .comp2 own t it c own2 t2 it2 c2 e, fr, S => (evi F C it fr S).bnd fun w S => (turns2 t (wipe fr own) (match c with
      | .none => fun _ S => .ok (.bl true) S
      | .some c => ev F C c) (fun fr1 n S => (evi F C it2 fr1 S).bnd fun w S => (turns t2 (wipe fr1 own2) (match c2 with
      | .none => fun _ S => .ok (.bl true) S
      | .some c => ev F C c) (ev F C e) w.1 n (lock S w.2)).bnd fun vs S => .ok vs (unlock S w.2)) w.1 0 (lock S w.2)).bnd fun vs S => .ok (.new vs) (unlock S w.2)
  | .orL a b, fr, S => (ev F C a fr S).bnd fun x S => (match items S x with
    | some [] => ev F C b fr S
    | some _ => .ok x S
    | none => .stk)
  | .dwn a lo, fr, S => (ev F C a fr S).bnd fun x S => (evp F C lo fr S).bnd fun l S => R.of S (downPV S x l)
  | .gget k a, fr, S => (ev F C a fr S).bnd fun x S => match nth C k, x with
    | some (.tup _ kvs), .str y => .ok (keyed y kvs) S
    | _, _ => .stk
  | .unk, _, _ => .stk
def evs (F : Fn) (C : List PV) : Es → Fr → Store → R (List PV)
  | .nil, _, S => .ok [] S
  | .cons e r, fr, S => (ev F C e fr S).bnd fun v S => (evs F C r fr S).bnd fun vs S => .ok (v :: vs) S
  | .star e r, fr, S => (ev F C e fr S).bnd fun v S => match seqL S v with
    | some xs => (evs F C r fr S).bnd fun vs S => .ok (xs ++ vs) S
    | none => .stk
def evp (F : Fn) (C : List PV) : P → Fr → Store → R (Option Int)
  | .none, _, S => .ok none S
  | .some e, fr, S => (ev F C e fr S).bnd fun v S => match v with
    | .int i => .ok (some i) S
    | _ => .stk
def evi (F : Fn) (C : List PV) : I → Fr → Store → R Wk
  | .e a, fr, S => (ev F C a fr S).bnd fun v S => R.of S (walk S v)
  | .rng es, fr, S => (evs F C es fr S).bnd fun vs S => match vs with
    | [.int j] => (match small62 j with
      | true => .ok (rangeL 0 j.toNat, []) S
      | false => .stk)
    | [.int i, .int j] => (match small62 i && small62 j with
      | true => .ok (rangeL i (j - i).toNat, []) S
      | false => .stk)
    | _ => .stk
  | .enum a, fr, S => (ev F C a fr S).bnd fun v S => match walk S v with
    | some w => .ok (enumL 0 w.1, w.2) S
    | none => .stk
  | .zip a b, fr, S => (ev F C a fr S).bnd fun v S => (ev F C b fr S).bnd fun u S => match isTup v == isTup u with
    | true => (match walk S v, walk S u with
      | some w, some w' => .ok (zipL w.1 w'.1, w.2 ++ w'.2) S
      | _, _ => .stk)
    | false => .stk
end

/-! ### statements -/
inductive Fl where
  | nx | ret (v : PV) | brk | cont
inductive X where
  | ok (f : Fl) (fr : Fr) (S : Store) | exc (c : Nat) (fr : Fr) (S : Store) | stk
def R.st {α : Type} (r : R α) (fr : Fr) (k : α → Store → X) : X := match r with
  | .ok v S => k v S
  | .exc c S => .exc c fr S
  | .stk => .stk
def setX (t : Tg) (v : PV) (fr : Fr) (S : Store) : X := match mat v S with
  | (v, S) => match setT t v fr with
    | some fr => .ok .nx fr S
    | none => .stk
/-- o[i], o a list -/
def index1 (S : Store) (o i : PV) : Option PV := match i with
  | .int i => (match items S o with
    | some xs => item xs i
    | none => none)
  | _ => none
/-- o[i] = v -/
def setIx (o i v : PV) (S : Store) : Option Store := match o, i with
  | .ref k, .int i => (match S[k]? with
    | some (.lst xs) => (match place xs.length i with
      | some j => frL (xs.set j v) fun zs => some (S.set k (.lst zs))
      | none => none)
    | _ => none)
  | _, _ => none
/-- a for's turns -/
def fors (t : Tg) (b : Fr → Store → X) : List PV → Fr → Store → X
  | [], fr, S => .ok .nx fr S
  | x :: r, fr, S => match setT t x fr with
    | some fr => (match b fr S with
      | .ok .nx fr S => fors t b r fr S
      | .ok .cont fr S => fors t b r fr S
      | .ok .brk fr S => .ok .nx fr S
      | .ok (.ret v) fr S => .ok (.ret v) fr S
      | .exc c fr S => .exc c fr S
      | .stk => .stk)
    | none => .stk
def whl (c : Fr → Store → R PV) (b : Fr → Store → X) : Nat → Fr → Store → X
  | 0, _, _ => .stk
  | n + 1, fr, S => (c fr S).st fr fun v S => match v with
    | .bl true => (match b fr S with
      | .ok .nx fr S => whl c b n fr S
      | .ok .cont fr S => whl c b n fr S
      | .ok .brk fr S => .ok .nx fr S
      | .ok (.ret v) fr S => .ok (.ret v) fr S
      | .exc c fr S => .exc c fr S
      | .stk => .stk)
    | .bl false => .ok .nx fr S
    | _ => .stk
def unlockX (l : List (Nat × List PV)) : X → X
  | .ok f fr S => .ok f fr (unlock S l)
  | .exc c fr S => .exc c fr (unlock S l)
  | .stk => .stk
mutual
def exec (F : Fn) (C : List PV) : Sx → Fr → Store → X
  | .pass, fr, S => .ok .nx fr S
  | .asg t e, fr, S => (ev F C e fr S).st fr fun v S => setX t v fr S
  | .par i j a b, fr, S => (ev F C a fr S).st fr fun v S => match mat v S with
    | (v, S) => (ev F C b fr S).st fr fun u S => match mat u S with
      | (u, S) => match setT (.n i) v fr with
        | some fr => (match setT (.n j) u fr with
          | some fr => .ok .nx fr S
          | none => .stk)
        | none => .stk
  | .par3 i j k a b c, fr, S => (ev F C a fr S).st fr fun v S => match mat v S with
    | (v, S) => (ev F C b fr S).st fr fun u S => match mat u S with
      | (u, S) => (ev F C c fr S).st fr fun w S => match mat w S with
        | (w, S) => match setT (.n i) v fr with
          | some fr => (match setT (.n j) u fr with
            | some fr => (match setT (.n k) w fr with
              | some fr => .ok .nx fr S
              | none => .stk)
            | none => .stk)
          | none => .stk
  | .asgI o i e, fr, S => (ev F C e fr S).st fr fun v S => match mat v S with
    | (v, S) => (ev F C o fr S).st fr fun o S => (ev F C i fr S).st fr fun i S => match setIx o i v S with
      | some S => .ok .nx fr S
      | none => .stk
  | .aug i o e, fr, S => match nth fr i with
    | some (some x) => (ev F C e fr S).st fr fun y S => (match x, y with
      | .int a, .int b => (match binop S o (.int a) (.int b) with
        | some v => setX (.n i) v fr S
        | none => .stk)
      | _, _ => .stk)
    | _ => .stk
  | .augI o i p e, fr, S => (ev F C o fr S).st fr fun o S => (ev F C i fr S).st fr fun i S => match index1 S o i with
    | some x => (ev F C e fr S).st fr fun y S => (match x, y with
      | .int a, .int b => (match binop S p (.int a) (.int b) with
        | some v => (match setIx o i v S with
          | some S => .ok .nx fr S
          | none => .stk)
        | none => .stk)
      | _, _ => .stk)
    | none => .stk
  | .ifs c a b, fr, S => (ev F C c fr S).st fr fun v S => match v with
    | .bl true => execs F C a fr S
    | .bl false => execs F C b fr S
    | _ => .stk
  | .whl c b, fr, S => whl (ev F C c) (execs F C b) 1000000 fr S
  | .for_ t it b, fr, S => (evi F C it fr S).st fr fun w S => unlockX w.2 (fors t (execs F C b) w.1 fr (lock S w.2))
  | .ret e, fr, S => (ev F C e fr S).st fr fun v S => .ok (.ret v) fr S
  | .retN, fr, S => .ok (.ret .non) fr S
  | .ex e, fr, S => (ev F C e fr S).st fr fun _ S => .ok .nx fr S
  | .brk, fr, S => .ok .brk fr S
  | .cont, fr, S => .ok .cont fr S
  | .raise c, fr, S => .stk
  | .unk, _, _ => .stk
def execs (F : Fn) (C : List PV) : Ss → Fr → Store → X
  | .nil, fr, S => .ok .nx fr S
  | .cons a r, fr, S => match exec F C a fr S with
    | .ok .nx fr S => execs F C r fr S
    | x => x
end
/-- a def: how many parameters, how many names, its body -/
structure Df where
  np : Nat
  ns : Nat
  body : Ss
def repN {α : Type} (x : α) : Nat → List α
  | 0 => []
  | n + 1 => x :: repN x n
def runD (F : Fn) (C : List PV) (d : Df) (vs : List PV) (S : Store) : R PV := match Nat.beq vs.length d.np with
  | true => (match execs F C d.body (vs.map some ++ repN none (d.ns - d.np)) S with
    | .ok .nx _ S => .ok .non S
    | .ok (.ret v) _ S => .ok v S
    | .ok _ _ _ => .stk
    | .exc c _ S => .exc c S
    | .stk => .stk)
  | false => .stk
/-- all defs, to a depth -/
def fns (ds : List Df) (C : List PV) : Nat → Fn
  | 0, _, _, _ => .stk
  | n + 1, k, vs, S => match nth ds k with
    | some d => runD (fns ds C n) C d vs S
    | none => .stk
end Ev

namespace EvHead
open PySem PySem.W PySem.Calls PyProof.Rows HandSHeadRun

section
variable (st : SharedT → Thread → Option (SharedT × Thread))
/-- the opening, to its end -/
def impF : Nat → SharedT → Thread → Option SharedT
  | 0, _, _ => none
  | m + 1, s, t => match t.atExitBegin with
    | some [] => some s
    | some (_ :: _) => none
    | none => match st s t with
      | some (s', t') => frS s' fun s' => impF m s' t'
      | none => none
end
theorem impF_ok {tb : String → Option Builtin} {p : Program} {w : World} : ∀ {m : Nat} {s s' : SharedT} {t : Thread}, impF (stepT (denote tb) p w) m s t = some s' → importEnds tb p w m s.abs t = some s'.abs
  | 0, _, _, _, h => by cases h
  | m + 1, s, s', t, h => by
    unfold impF at h
    unfold importEnds
    cases ha : t.atExitBegin with
    | some l =>
      rw [ha] at h
      cases l with
      | nil => cases h; rfl
      | cons a r => cases h
    | none =>
      rw [ha] at h
      dsimp only at h
      cases hs : stepT (denote tb) p w s t with
      | none => rw [hs] at h; cases h
      | some r =>
        obtain ⟨s2, t2⟩ := r
        rw [hs] at h
        have h3 : (frS s2 fun s' => impF (stepT (denote tb) p w) m s' t2) = some s' := h
        rw [frS_eq] at h3
        have q := impF_ok h3
        rw [stepT_spec hs]
        exact q
/-- a state over a plain heap as one over a tree -/
def treed (s : Shared) : Option SharedT := match putAll s.heap.objs.toList .nil 0 with
  | some (t, n) => some ⟨t, n, s.heap.life, s.gens, s.drawn, s.toks, s.os⟩
  | none => none
theorem treed_ok {s : Shared} {r : SharedT} (h : treed s = some r) : r.abs = s := by
  unfold treed at h
  cases e : putAll s.heap.objs.toList .nil 0 with
  | none => rw [e] at h; cases h
  | some q =>
    obtain ⟨t, n⟩ := q
    rw [e] at h
    cases h
    have eh := putAll_heap e
    show (⟨absHeap t n s.heap.life, s.gens, s.drawn, s.toks, s.os⟩ : Shared) = s
    rw [eh]
/-- the state behind the opening -/
def opnF (st : SharedT → Thread → Option (SharedT × Thread)) (M : Nat) (p : Program) : Option SharedT :=
  match treed (start (opening p)).1 with
  | some s => match impF st M s (start (opening p)).2 with
    | some s1 => match fenceModules? p s1.abs with
      | some s2 => treed s2
      | none => none
    | none => none
  | none => none
theorem opnF_ok {M : Nat} {p : Program} {w : World} {s : SharedT} (h : opnF (stepT (denote treeTable) (opening p) w) M p = some s) : fencedOpening treeTable p w M = some s.abs := by
  unfold opnF at h
  cases e : treed (start (opening p)).1 with
  | none => rw [e] at h; cases h
  | some s0 =>
    rw [e] at h
    dsimp only at h
    cases e1 : impF (stepT (denote treeTable) (opening p) w) M s0 (start (opening p)).2 with
    | none => rw [e1] at h; cases h
    | some s1 =>
      rw [e1] at h
      dsimp only at h
      cases e2 : fenceModules? p s1.abs with
      | none => rw [e2] at h; cases h
      | some s2 =>
        rw [e2] at h
        have q := impF_ok e1
        rw [treed_ok e] at q
        unfold fencedOpening
        rw [q]
        show fenceModules? p s1.abs = _
        rw [e2, treed_ok h]
/-- the looks ahead of the top -/
def goI (st st2 : SharedT → Thread → Option (SharedT × Thread)) (M : Nat) (p : Program) : Option (SharedT × SharedT) :=
  match opnF st M p with
  | some s0 => match s0.abs.heap.isNs mainGlobals && s0.abs.gens.size == 0 with
    | true => (goF st2 s0.n (s0.abs.heap.nsMap mainGlobals "__annotations__") M s0 (topStub p)).map fun s => (s0, s)
    | false => none
  | none => none
theorem left_imp {p q : Program} {loose : List Str} {Xt : Shared → Bool} {α : Type} {Yf : Shared → α} {Ya : World → α} {M : Nat}
    (run : ∀ (w : World), (goI (stepT (denote treeTable) (opening p) w) (stepT (denote treeTable) p w) M p).map (fun r => (looksF p r.1.abs.heap r.2.abs, openSeen q loose (importedModules p.main.body) Xt true r.2.abs, Yf r.2.abs)) = some (true, openGood q loose, Ya w)) :
    LeftO p q loose Xt Yf Ya M true := fun w => by
  obtain ⟨⟨s0, s⟩, hs, hv⟩ := Option.map_eq_some_iff.mp (run w)
  obtain ⟨l1, l2, l3⟩ : _ ∧ _ ∧ _ := by simpa only [Prod.mk.injEq] using hv
  unfold goI at hs
  cases e : opnF (stepT (denote treeTable) (opening p) w) M p with
  | none => rw [e] at hs; cases hs
  | some s00 =>
    rw [e] at hs
    dsimp only at hs
    cases hb : (s00.abs.heap.isNs mainGlobals && s00.abs.gens.size == 0) with
    | false => rw [hb] at hs; cases hs
    | true =>
      rw [hb] at hs
      obtain ⟨s', hg, he⟩ := Option.map_eq_some_iff.mp hs
      cases he
      have r := goF_ok hg
      have en : s0.abs.heap.objs.size = s0.n := absHeap_size s0.tree s0.n s0.life
      unfold openEnds
      rw [opnF_ok e]
      show (topFrom treeTable p w M s0.abs).map _ = _
      unfold topFrom
      rw [hb]
      dsimp only
      rw [en, r]
      have l1' : (staticsOk (importedModules p.main.body) s0.abs.heap s.abs.heap && namesBound p s.abs.heap && gensDone s.abs && laidKept s0.abs.heap s.abs.heap) = true := l1
      show Option.map _ (match staticsOk (importedModules p.main.body) s0.abs.heap s.abs.heap && namesBound p s.abs.heap && gensDone s.abs && laidKept s0.abs.heap s.abs.heap with | true => some s.abs | false => none) = _
      rw [l1']
      exact congrArg some (Prod.ext l2 l3)
def RunI (r : OpenRow) (q : Program) (H : Hook) (ob : SharedT → H.α) (M : Nat) (loose : List PySem.Str) (w : World) : Prop :=
  (goI (stepQ (denQ tabQ) (opening r.prog) w) (stepQ (denQ tabQ) r.prog w) M r.prog).map (fun s => (looksF r.prog s.1.abs.heap s.2.abs, seenQ q loose (importedModules r.prog.main.body) (fun s => xlAt q [] s && recOk r.toRowW.records s) s.2.abs, ob s.2)) = some (true, openGood q loose, H.val w)
theorem head_imp {r : OpenRow} {q : Program} {H : Hook} {ob : SharedT → H.α} {M : Nat} {loose : List PySem.Str} {d : DefRec} {kwd : List (PySem.Str × PySem.Expr)} (ho : ∀ s : SharedT, ob s = H.obs s.abs)
    (run : ∀ w, RunI r q H ob M loose w)
    (hdef : defOf q r.name = some (d, kwd)) (hp : r.prog.theDef r.name = some (d.params, d.body, d.scope)) (hk : kwWritten? d.params.kwonlyargs d.params.kw_defaults = some kwd)
    (hwr : (!r.writes || r.records.isEmpty) = true) (k1 : r.wellSaid = true) (ok : (chainsOk q && opensWell r.prog && (frees r.toRowW && r.within.isEmpty)) = true) (hb : r.prog.bare) (hw : r.toRowW.promised)
    (call : WalkO q loose (XL q []) H.says r.toRowW d kwd fun f vs => PySem.call f vs) : r.Holds := by
  have left : LeftO r.prog q loose (fun s => xlAt q [] s && recOk r.toRowW.records s) H.obs H.val M true :=
    left_imp (M := M) fun w => by
      have z := run w
      unfold RunI at z
      have eo : ob = fun s => H.obs s.abs := funext ho
      rw [eo] at z
      rw [stepQ_eq, denQ_eq, tabQ_eq]
      simp only [seenQ_eq]
      exact z
  exact holds_open (r := r) (q := q) (loose := loose) (XP := XL q []) (YP := H.says) (d := d) (kwd := kwd) left H.of H.keeps (fun s z => xl_of s (Bool.and_eq_true_iff.mp z).1) XL.keeps hdef hp hk (fun s z => recFacts_of (Bool.and_eq_true_iff.mp z).2) hwr k1 ok hb hw call
end EvHead

/-! EvHook: what the head tells; a law's end. -/
namespace Ev
open PySem PySem.Spec PyProof.Rows L2

/-! ### the module's names -/
/-- what a name stands for -/
inductive Gv where
  | ref (a : Addr) | int (i : Int) | str (x : Str) | bi (n : String) | other
def gvB : Gv → Value → Bool
  | .ref a, .ref b => Nat.beq a b
  | .int i, .int j _ => iEq i j
  | .str x, .str y _ => decide (x = y)
  | .bi n, .builtin m => decide (n = m)
  | .other, _ => true
  | _, _ => false
def keyB (x : Str) : Value → Bool
  | .str y _ => decide (y = x)
  | _ => false
/-- the dict's entries, in order -/
def glsB : List DictEntry → List (Str × Gv) → Bool
  | [], [] => true
  | e :: es, (x, v) :: l => keyB x e.key && (gvB v e.val && glsB es l)
  | _, _ => false
theorem gls_find {x : Str} : ∀ {es : List DictEntry} {l : List (Str × Gv)}, glsB es l = true →
    match l.lookup x with
    | some v => ∃ e, es.find? (·.key.isStr x) = some e ∧ gvB v e.val = true
    | none => es.find? (·.key.isStr x) = none
  | [], [], _ => rfl
  | [], _ :: _, h => by cases h
  | _ :: _, [], h => by cases h
  | e :: es, (y, v) :: l, h => by
    obtain ⟨h1, h⟩ := and2 h
    obtain ⟨h2, h3⟩ := and2 h
    have ih := gls_find (x := x) h3
    have hk : e.key.isStr x = (x == y) := by
      unfold keyB at h1
      split at h1
      · rename_i z t q
        have := of_decide_eq_true h1
        subst this
        rw [q]
        show (z == x) = (x == z)
        exact Bool.eq_iff_iff.mpr ⟨fun a => by rw [eq_of_beq a]; exact beq_self_eq_true _, fun a => by rw [eq_of_beq a]; exact beq_self_eq_true _⟩
      · cases h1
    rw [List.lookup_cons, List.find?_cons, hk]
    cases hx : x == y with
    | true => exact ⟨e, rfl, h2⟩
    | false => exact ih
theorem gls_norefs : ∀ {es : List DictEntry} {l : List (Str × Gv)}, glsB es l = true → es.any (·.refKey) = false
  | [], [], _ => rfl
  | [], _ :: _, h => by cases h
  | _ :: _, [], h => by cases h
  | e :: es, (y, v) :: l, h => by
    obtain ⟨h1, h⟩ := and2 h
    obtain ⟨h2, h3⟩ := and2 h
    rw [List.any_cons, gls_norefs h3, Bool.or_false]
    unfold keyB at h1
    split at h1
    · rename_i q
      unfold DictEntry.refKey
      rw [q]
    · cases h1
def globB (l : List (Str × Gv)) : Option Obj → Bool
  | some ⟨_, _, .dict es _, _⟩ => glsB es.toList l
  | _ => false
section
variable {K : PySem.W.Frag} {l : List (Str × Gv)} {x : Str}
theorem ns_some {v : Gv} {a : Addr} (h : globB l (K.lookup a) = true) (e : l.lookup x = some v) : ∃ u, PySem.W.nsIn K a x = some (some u) ∧ gvB v u = true := by
  unfold globB at h
  unfold PySem.W.nsIn
  split at h
  · rename_i q
    rw [q]
    have z := gls_find (x := x) h
    rw [e] at z
    obtain ⟨en, z1, z2⟩ := z
    exact ⟨en.val, by dsimp only; rw [z1], z2⟩
  · cases h
theorem ns_none {a : Addr} (h : globB l (K.lookup a) = true) (e : l.lookup x = none) : PySem.W.nsIn K a x = some none := by
  unfold globB at h
  unfold PySem.W.nsIn
  split at h
  · rename_i q
    rw [q]
    have z := gls_find (x := x) h
    rw [e] at z
    dsimp only
    rw [z, gls_norefs h]
    rfl
  · cases h
end

/-! ### functions, written dicts -/
abbrev FnV : Type := Option (Str × Str × Arguments × FuncBody × Scope × Addr × List (Str × Addr) × Value × Addr)
def fnV : Option Obj → FnV
  | some ⟨_, _, .func fd, _⟩ => some (fd.name, fd.qualname, fd.params, fd.body, fd.scope, fd.globals, fd.closure, fd.defaults, fd.builtins)
  | _ => none
def cdB (f c : Option Obj) (ca : Addr) (q : Str) : Bool := match f with
  | some ⟨_, _, .func fd, _⟩ => (match fd.code with
    | .ref b => Nat.beq b ca && (match c with
      | some ⟨_, _, .fields vs, _⟩ => (match vs.toList with
        | _ :: .str n _ :: _ => decide (n = q)
        | _ => false)
      | _ => false)
    | _ => false)
  | _ => false
theorem cdB_ok {K : PySem.W.Frag} {f ca : Addr} {q : Str} (h : cdB (K.lookup f) (K.lookup ca) ca q = true) :
    ∃ oc od fd osl, K.lookup f = some ⟨oc, od, .func fd, osl⟩ ∧ PySem.W.codeIn K fd.code q = true := by
  unfold cdB at h
  split at h
  · rename_i oc od fd osl e
    refine ⟨oc, od, fd, osl, e, ?_⟩
    split at h
    · rename_i b e2
      obtain ⟨h1, h2⟩ := and2 h
      have := Nat.eq_of_beq_eq_true h1
      subst this
      unfold PySem.W.codeIn
      rw [e2]
      dsimp only
      split at h2
      · rename_i e3
        rw [e3]
        dsimp only
        split at h2
        · rename_i e4
          rw [e4]
          have := of_decide_eq_true h2
          subst this
          exact beq_self_eq_true _
        · cases h2
      · cases h2
    · cases h
  · cases h
/-- a def: its object, its code, its statement of the top -/
structure DefA where
  fa : Addr
  ca : Addr
  st : Stmt
def stN : Stmt → Str
  | .FunctionDef n _ _ _ _ _ _ _ _ _ => n
  | _ => ⟨#[]⟩
def DefA.val (d : DefA) : FnV := some (stN d.st, stN d.st, defArgs d.st, .stmts (defBody d.st), defScope d.st, mainGlobals, [], .none, builtinsNs)
/-- a written dict: where it is, its keys, its values -/
structure DctA where
  at_ : Addr
  kvs : List (Str × PV)
def dicKeys : Option Obj → Option (List (Option (Str × Int)))
  | some ⟨.type c, none, .dict es _, sl⟩ => (match decide (c = "dict") && sl.isEmpty with
    | true => some (es.toList.map He.keyOf)
    | false => none)
  | _ => none
def pvB : PV → Value → Bool
  | .int i, .int j _ => iEq i j
  | .str x, .str y _ => decide (x = y)
  | .bl b, .bool c => b == c
  | .non, .none => true
  | _, _ => false
def dvsB : List DictEntry → List (Str × PV) → Bool
  | [], [] => true
  | e :: es, (x, v) :: l => keyB x e.key && (pvB v e.val && dvsB es l)
  | _, _ => false
def dicVals (kvs : List (Str × PV)) : Option Obj → Bool
  | some ⟨_, _, .dict es _, _⟩ => dvsB es.toList kvs
  | _ => false
/-- a written tuple of numbers and texts -/
structure TupA where
  at_ : Addr
  its : List PV
def pvsB : List PV → List Value → Bool
  | [], [] => true
  | v :: vs, u :: us => pvB v u && pvsB vs us
  | _, _ => false
def tupVals (vs : List PV) : Option Obj → Bool
  | some ⟨.type c, _, .seq its _, _⟩ => decide (c = "tuple") && (Nat.ble its.size 1000 && pvsB vs its.toList)
  | _ => false
def noList : Option Obj → Bool
  | some ⟨.type c, _, _, _⟩ => !decide (c = "list")
  | some _ => true
  | none => true

/-! ### the Hook -/
structure Look where
  gl : List (Str × Gv)
  fn : List DefA
  dc : List DctA
  tc : List TupA
abbrev Al : Type := Bool × List FnV × List (Option (List (Option (Str × Int))))
def Look.as (L : Look) : List Addr := mainGlobals :: (L.fn.map (·.fa) ++ (L.fn.map (·.ca) ++ (L.dc.map (·.at_) ++ L.tc.map (·.at_))))
def Look.obs (L : Look) (g : Addr → Option Obj) : Al :=
  (globB L.gl (g mainGlobals) && (L.fn.all (fun d => cdB (g d.fa) (g d.ca) d.ca (stN d.st)) && (L.dc.all (fun d => dicVals d.kvs (g d.at_) && !(d.at_ == sysModules)) && (L.tc.all (fun d => tupVals d.its (g d.at_)) && L.as.all fun a => noList (g a)))),
    L.fn.map fun d => fnV (g d.fa), L.dc.map fun d => dicKeys (g d.at_))
def Look.val (L : Look) (w : World) : Al := (true, L.fn.map DefA.val, L.dc.map fun d => some (He.keysIn w.params (d.kvs.map (·.1))))
theorem frG_lookup {g : Addr → Option Obj} : ∀ {as : List Addr} {a : Addr}, a ∈ as → (He.frG g as).lookup a = g a
  | [], a, h => by simp at h
  | b :: r, a, h => by
    unfold He.frG
    rw [List.filterMap_cons]
    cases hb : g b with
    | none =>
      show ((He.frG g r).lookup a) = g a
      by_cases ha : a ∈ r
      · exact frG_lookup ha
      · have : a = b := by simpa [ha] using h
        subst this
        cases q : (He.frG g r).lookup a with
        | none => exact hb.symm
        | some o => exact (He.frG_at r q).symm
    | some o =>
      show (List.lookup a ((b, o) :: He.frG g r)) = g a
      rw [List.lookup_cons]
      cases q : a == b with
      | true => rw [eq_of_beq q, hb]
      | false =>
        have hn : a ≠ b := fun e => by rw [e, beq_self_eq_true] at q; cases q
        exact frG_lookup (by simpa [hn] using h)
theorem Look.congr (L : Look) {g g' : Addr → Option Obj} (h : ∀ a ∈ L.as, g a = g' a) : L.obs g = L.obs g' := by
  have h0 : g mainGlobals = g' mainGlobals := h _ (by simp [Look.as])
  have h1 : ∀ d ∈ L.fn, g d.fa = g' d.fa := fun d hd => h _ (by simp only [Look.as, List.mem_cons, List.mem_append, List.mem_map]; exact .inr (.inl ⟨d, hd, rfl⟩))
  have h2 : ∀ d ∈ L.fn, g d.ca = g' d.ca := fun d hd => h _ (by simp only [Look.as, List.mem_cons, List.mem_append, List.mem_map]; exact .inr (.inr (.inl ⟨d, hd, rfl⟩)))
  have h3 : ∀ d ∈ L.dc, g d.at_ = g' d.at_ := fun d hd => h _ (by simp only [Look.as, List.mem_cons, List.mem_append, List.mem_map]; exact .inr (.inr (.inr (.inl ⟨d, hd, rfl⟩))))
  have h4 : ∀ d ∈ L.tc, g d.at_ = g' d.at_ := fun d hd => h _ (by simp only [Look.as, List.mem_cons, List.mem_append, List.mem_map]; exact .inr (.inr (.inr (.inr ⟨d, hd, rfl⟩))))
  have allc : ∀ {α : Type} {l : List α} {p q : α → Bool}, (∀ x ∈ l, p x = q x) → l.all p = l.all q := fun {α l p q} hp => by
    induction l with
    | nil => rfl
    | cons x r ih => rw [List.all_cons, List.all_cons, hp x (by simp), ih fun y hy => hp y (List.mem_cons_of_mem _ hy)]
  unfold Look.obs
  rw [h0, allc (l := L.fn) fun d hd => by rw [h1 d hd, h2 d hd], allc (l := L.dc) fun d hd => by rw [h3 d hd], allc (l := L.tc) fun d hd => by rw [h4 d hd], allc (l := L.as) fun a ha => by rw [h a ha],
    List.map_congr_left (l := L.fn) (f := fun d => fnV (g d.fa)) (g := fun d => fnV (g' d.fa)) (fun d hd => by rw [h1 d hd]), List.map_congr_left (l := L.dc) (f := fun d => dicKeys (g d.at_)) (g := fun d => dicKeys (g' d.at_)) (fun d hd => by rw [h3 d hd])]
def Look.Says (L : Look) (w : World) (K : PySem.W.Frag) : Prop := L.obs (fun a => K.lookup a) = L.val w
def Look.hook (L : Look) : PySem.W.Hook where
  α := Al
  obs := fun s => L.obs s.heap.get?
  val := fun w => L.val w
  says := fun w h => ∃ K : PySem.W.Frag, K.In h ∧ (∀ a o, K.lookup a = some o → noList (some o) = true) ∧ L.Says w K
  of := fun w s e => by
    have cg : L.obs (fun a => (He.frG s.heap.get? L.as).lookup a) = L.obs s.heap.get? := L.congr fun a ha => frG_lookup ha
    refine ⟨He.frG s.heap.get? L.as, He.frG_in, fun a o ha => ?_, cg.trans e⟩
    have e2 : L.obs s.heap.get? = L.val w := e
    obtain ⟨_, b⟩ := and2 (show (globB L.gl (s.heap.get? mainGlobals) && _) = true from congrArg (fun z : Al => z.1) e2)
    obtain ⟨_, b⟩ := and2 b
    obtain ⟨_, b⟩ := and2 b
    obtain ⟨_, b⟩ := and2 b
    have hm : a ∈ L.as := by
      have q := lookup_mem ha
      unfold He.frG at q
      obtain ⟨c, hc, hq⟩ := List.mem_filterMap.mp q
      obtain ⟨o', ho', hq⟩ := Option.map_eq_some_iff.mp hq
      cases hq
      exact hc
    have q := List.all_eq_true.mp b a hm
    rw [frG_lookup hm] at ha
    rw [ha] at q
    exact q
  keeps := fun _ _ _ ⟨K, hK, n, c⟩ k => ⟨K, PySem.W.Frag.In.keeps hK k, n, c⟩
where
  lookup_mem {a : Addr} {o : Obj} : ∀ {l : List (Addr × Obj)}, l.lookup a = some o → (a, o) ∈ l
    | [], h => by cases h
    | (b, u) :: r, h => by
      rw [List.lookup_cons] at h
      cases q : a == b with
      | true => rw [q] at h; cases h; rw [eq_of_beq q]; simp
      | false => rw [q] at h; exact List.mem_cons_of_mem _ (lookup_mem h)
end Ev

/-! EvHd2: the head with few looks. -/
namespace EvHead
open PySem PySem.W PySem.Calls PyProof.Rows HandSHeadRun
/-- the looks but for the names -/
def looksK (p : Program) (h0 : Heap) (s : Shared) : Bool := staticsOk (importedModules p.main.body) h0 s.heap && (gensDone s && laidKept h0 s.heap)
/-- every name is one of these -/
def namesK (p : Program) (ks : List PySem.Str) : Bool := ks.all fun k => startupNames.contains k || p.boundNames.contains k
def RunA (r : OpenRow) (q : Program) (M : Nat) (loose : List PySem.Str) (w : World) : Prop :=
  (goI (stepQ (denQ tabQ) (opening r.prog) w) (stepQ (denQ tabQ) r.prog w) M r.prog).map (fun s => (looksK r.prog s.1.abs.heap s.2.abs, seenQ q loose (importedModules r.prog.main.body) (fun s => xlAt q [] s && recOk r.toRowW.records s) s.2.abs)) = some (true, openGood q loose)
def RunB (r : OpenRow) (H : Hook) (ob : SharedT → H.α) (M : Nat) (w : World) : Prop :=
  (goI (stepQ (denQ tabQ) (opening r.prog) w) (stepQ (denQ tabQ) r.prog w) M r.prog).map (fun s => ob s.2) = some (H.val w)
theorem keys_of {h : Heap} {l : List (PySem.Str × Ev.Gv)} (c : Ev.globB l (h.get? mainGlobals) = true) : h.isNs mainGlobals = true ∧ h.nsKeys mainGlobals = l.map (·.1) := by
  unfold Ev.globB at c
  split at c
  · rename_i a b es n sl e
    have key : ∀ {es : List DictEntry} {l : List (PySem.Str × Ev.Gv)}, Ev.glsB es l = true → es.all (fun e => match e.key with | .str _ _ => true | _ => false) = true ∧ es.filterMap (fun e => match e.key with | .str n _ => some n | _ => none) = l.map (·.1) := by
      intro es
      induction es with
      | nil => intro l h; cases l <;> first | exact ⟨rfl, rfl⟩ | cases h
      | cons e es ih =>
        intro l h
        cases l with
        | nil => cases h
        | cons p l =>
          obtain ⟨x, v⟩ := p
          obtain ⟨h1, h⟩ := Ev.and2 h
          obtain ⟨h2, h3⟩ := Ev.and2 h
          obtain ⟨i1, i2⟩ := ih h3
          unfold Ev.keyB at h1
          split at h1
          · rename_i z t q
            have := of_decide_eq_true h1
            subst this
            refine ⟨by rw [List.all_cons, q, i1]; rfl, by rw [List.filterMap_cons, q]; dsimp only; rw [i2, List.map_cons]⟩
          · cases h1
    obtain ⟨k1, k2⟩ := key c
    refine ⟨?_, ?_⟩
    · unfold Heap.isNs
      rw [e]
      dsimp only
      rw [← Array.all_toList]
      exact k1
    · unfold Heap.nsKeys
      rw [e]
      exact k2
  · cases c
theorem run_of {r : OpenRow} {q : Program} {L : Ev.Look} {ob : SharedT → Ev.Al} {M : Nat} {loose : List PySem.Str} {w : World} (ho : ∀ s : SharedT, ob s = L.hook.obs s.abs) (h : RunA r q M loose w) (h' : RunB r L.hook ob M w) (hn : namesK r.prog (L.gl.map (·.1)) = true) : RunI r q L.hook ob M loose w := by
  unfold RunA at h
  unfold RunB at h'
  unfold RunI
  obtain ⟨⟨s0, s⟩, hs, hv⟩ := Option.map_eq_some_iff.mp h
  have l1 : looksK r.prog s0.abs.heap s.abs = true := congrArg (fun z => z.1) hv
  have l2 : seenQ q loose (importedModules r.prog.main.body) (fun s => xlAt q [] s && recOk r.toRowW.records s) s.abs = openGood q loose := congrArg (fun z => z.2) hv
  have l3 : ob s = L.hook.val w := by
    rw [hs] at h'
    exact Option.some.inj h'
  rw [hs]
  have g : Ev.globB L.gl (s.abs.heap.get? mainGlobals) = true := by
    rw [ho s] at l3
    exact (Ev.and2 (show (Ev.globB L.gl (s.abs.heap.get? mainGlobals) && _) = true from congrArg (fun z : Ev.Al => z.1) l3)).1
  obtain ⟨k1, k2⟩ := keys_of g
  have hk := List.all_eq_true.mp hn
  have n1 : namesBound r.prog s.abs.heap = true := by
    unfold namesBound
    rw [k1, k2, Bool.true_and]
    exact List.all_eq_true.mpr fun k z => hk k z
  have z1 : looksF r.prog s0.abs.heap s.abs = true := by
    obtain ⟨a, b⟩ := Ev.and2 l1
    obtain ⟨b, c⟩ := Ev.and2 b
    unfold looksF
    rw [a, n1, b, c]
    rfl
  show some (looksF r.prog s0.abs.heap s.abs, seenQ q loose (importedModules r.prog.main.body) (fun s => xlAt q [] s && recOk r.toRowW.records s) s.abs, ob s) = _
  rw [z1, l2, l3]
  rfl
end EvHead

namespace Pg
open Ev PySem PySem.Spec PyProof.Rows L2
def top (i : Nat) : Stmt := PySem.Challenge.pw_bothwheels_k65_judges_of_things_bent.main.body.getD i (.Pass ⟨0, 0, 0, 0⟩)
def gl : List (PySem.Str × Gv) := ([("__name__", .other), ("__doc__", .other), ("__package__", .other), ("__loader__", .other), ("__spec__", .other), ("__annotations__", .other), ("__builtins__", .other), ("__file__", .other), ("__cached__", .other), ("factorial", .bi "math.factorial"), ("gcd", .bi "math.gcd"), ("TooMany", .ref 52), ("Unfit", .ref 65), ("is_number", .ref 75), ("is_from", .ref 82), ("is_within", .ref 89), ("is_long", .ref 96), ("tupled", .ref 101), ("are_numbers", .ref 106), ("is_fraction", .ref 113), ("sure_fraction", .ref 120), ("made", .ref 127), ("two", .ref 134), ("negative", .ref 141), ("compared", .ref 148)] : List (PySem.Str × Gv)) ++
  ([("less_than", .ref 155), ("floor_in", .ref 162), ("ceiling_in", .ref 169), ("common_of", .ref 176), ("common_bottom", .ref 181), ("is_wheel", .ref 186), ("sure_wheel", .ref 193), ("is_train", .ref 198), ("sure_train", .ref 205), ("led_in", .ref 212), ("shift", .ref 217), ("is_shift", .ref 224), ("behind", .ref 229), ("put_in", .ref 236), ("power", .ref 243), ("from_elsewhere", .ref 248), ("name_in", .ref 255), ("ahead_in", .ref 260), ("behind_in", .ref 265), ("greatest_in", .ref 270), ("MANY_most", .int (2000)), ("is_turns", .ref 275), ("sure_turns", .ref 282), ("sure_few", .ref 846), ("sure_few_most", .ref 289)] : List (PySem.Str × Gv)) ++
  ([("value_in", .ref 294), ("bottoms_in", .ref 860), ("bottoms_in_most", .ref 301), ("most_in", .ref 308), ("most", .ref 315), ("sure_number", .ref 322), ("sure_beats", .ref 329), ("own_in", .ref 334), ("come_back_in", .ref 341), ("come_back", .ref 348), ("is_return", .ref 353), ("turning_in", .ref 360), ("turning", .ref 367), ("after_in", .ref 374), ("fits_in", .ref 379), ("is_raised", .ref 386), ("is_lowered", .ref 393), ("turns_so", .ref 398), ("is_reached", .ref 405), ("is_lowest", .ref 410), ("is_word", .ref 415), ("sure_word", .ref 422), ("sure_fitting", .ref 429), ("wheel_of", .ref 434), ("both_sure", .ref 441)] : List (PySem.Str × Gv)) ++
  ([("word_wheel", .ref 448), ("turned_in", .ref 455), ("least_in_turn", .ref 460), ("MANY_rows", .int (600)), ("is_row", .ref 467), ("sure_numbers", .ref 472), ("sure_row", .ref 479), ("all_rows", .ref 644), ("all_rows_rows", .ref 486), ("rows_in", .ref 491), ("led_in_row", .ref 496), ("led_train", .ref 503), ("wheel_on", .ref 510), ("sure_turned", .ref 517), ("told_rows", .ref 522), ("best_in", .ref 529), ("most_of", .ref 536), ("bar_in", .ref 543), ("sure_barred", .ref 550), ("same", .ref 555), ("is_bar", .ref 562), ("WAYS", .ref 563), ("MOST_RING", .int (8)), ("MOST_BOTTOM", .int (6)), ("sure_of", .ref 570)] : List (PySem.Str × Gv)) ++
  ([("sure_two", .ref 577), ("is_tooth", .ref 584), ("are_teeth", .ref 589), ("greater", .ref 594), ("can_be_put", .ref 601), ("tooth_put_in", .ref 608), ("teeth", .ref 613), ("teeth_in", .ref 618), ("end_of_plan", .ref 625), ("is_plan", .ref 632), ("row_wheel_in", .ref 639), ("all_rows_teeth", .ref 644), ("sure_goal", .ref 651), ("nearest", .ref 658), ("is_fewest_plan", .ref 665), ("SIZES", .ref 666), ("are_word_parts", .ref 673), ("are_teeth_parts", .ref 680), ("is_demand", .ref 687), ("demand_parts", .ref 694), ("unlike", .ref 699), ("many_teeth", .ref 704), ("is_so", .ref 711), ("is_triple", .ref 716), ("come_to", .ref 723)] : List (PySem.Str × Gv)) ++
  ([("is_above", .ref 730), ("is_turned", .ref 735), ("is_paper_against", .ref 740), ("sums_of", .ref 745), ("is_leading_plan", .ref 752), ("is_reason_for", .ref 757), ("seen_in", .ref 762), ("strictly_in", .ref 767), ("is_rung", .ref 772), ("leader", .ref 779), ("first_in", .ref 784), ("next_in", .ref 789), ("ladder_in", .ref 796), ("is_ladder", .ref 801), ("gains_in", .ref 806), ("asked", .ref 813), ("is_gainer", .ref 820), ("is_lagger", .ref 827), ("MOST_LETTERS", .int (8)), ("sure_song", .ref 834), ("sure_pair", .ref 839), ("sure_few_stairs", .ref 846), ("can_in", .ref 853), ("bottoms_in_stairs", .ref 860), ("below_in", .ref 867)] : List (PySem.Str × Gv)) ++
  ([("sure_wish", .ref 874), ("in_round", .ref 881), ("is_corner_in", .ref 886), ("is_corner", .ref 891), ("barred_in", .ref 898), ("is_row_in", .ref 903), ("is_corner_paper", .ref 908), ("is_told_word", .ref 915), ("is_wish", .ref 920), ("are_wheels", .ref 925), ("is_told_rung", .ref 932), ("is_rungs", .ref 937), ("_law_box", .ref 944), ("_law_take", .ref 951), ("_law_cells", .ref 958), ("_law_same", .ref 963), ("_law_odds", .ref 968), ("_law_asked", .ref 975), ("_law_rows", .ref 982), ("law", .ref 987)] : List (PySem.Str × Gv))
def fnl : List DefA := ([⟨75, 74, top 5⟩, ⟨82, 81, top 6⟩, ⟨89, 88, top 7⟩, ⟨96, 95, top 8⟩, ⟨101, 100, top 9⟩, ⟨106, 105, top 10⟩, ⟨113, 112, top 12⟩, ⟨120, 119, top 13⟩, ⟨127, 126, top 14⟩, ⟨134, 133, top 15⟩, ⟨141, 140, top 16⟩, ⟨148, 147, top 17⟩, ⟨155, 154, top 18⟩, ⟨162, 161, top 19⟩, ⟨169, 168, top 20⟩, ⟨176, 175, top 21⟩, ⟨181, 180, top 22⟩, ⟨186, 185, top 24⟩, ⟨193, 192, top 25⟩, ⟨198, 197, top 26⟩, ⟨205, 204, top 27⟩, ⟨212, 211, top 28⟩, ⟨217, 216, top 29⟩, ⟨224, 223, top 30⟩, ⟨229, 228, top 31⟩] : List DefA) ++
  ([⟨236, 235, top 32⟩, ⟨243, 242, top 33⟩, ⟨248, 247, top 34⟩, ⟨255, 254, top 36⟩, ⟨260, 259, top 37⟩, ⟨265, 264, top 38⟩, ⟨270, 269, top 39⟩, ⟨275, 274, top 42⟩, ⟨282, 281, top 43⟩, ⟨289, 288, top 44⟩, ⟨294, 293, top 46⟩, ⟨301, 300, top 47⟩, ⟨308, 307, top 49⟩, ⟨315, 314, top 50⟩, ⟨322, 321, top 52⟩, ⟨329, 328, top 53⟩, ⟨334, 333, top 54⟩, ⟨341, 340, top 55⟩, ⟨348, 347, top 56⟩, ⟨353, 352, top 57⟩, ⟨360, 359, top 58⟩, ⟨367, 366, top 59⟩, ⟨374, 373, top 60⟩, ⟨379, 378, top 62⟩, ⟨386, 385, top 63⟩] : List DefA) ++
  ([⟨393, 392, top 64⟩, ⟨398, 397, top 65⟩, ⟨405, 404, top 66⟩, ⟨410, 409, top 67⟩, ⟨415, 414, top 69⟩, ⟨422, 421, top 70⟩, ⟨429, 428, top 71⟩, ⟨434, 433, top 72⟩, ⟨441, 440, top 73⟩, ⟨448, 447, top 74⟩, ⟨455, 454, top 75⟩, ⟨460, 459, top 76⟩, ⟨467, 466, top 79⟩, ⟨472, 471, top 80⟩, ⟨479, 478, top 81⟩, ⟨486, 485, top 82⟩, ⟨491, 490, top 84⟩, ⟨496, 495, top 85⟩, ⟨503, 502, top 86⟩, ⟨510, 509, top 87⟩, ⟨517, 516, top 88⟩, ⟨522, 521, top 89⟩, ⟨529, 528, top 90⟩, ⟨536, 535, top 91⟩, ⟨543, 542, top 92⟩] : List DefA) ++
  ([⟨550, 549, top 93⟩, ⟨555, 554, top 94⟩, ⟨562, 561, top 95⟩, ⟨570, 569, top 100⟩, ⟨577, 576, top 101⟩, ⟨584, 583, top 102⟩, ⟨589, 588, top 103⟩, ⟨594, 593, top 104⟩, ⟨601, 600, top 105⟩, ⟨608, 607, top 106⟩, ⟨613, 612, top 107⟩, ⟨618, 617, top 108⟩, ⟨625, 624, top 109⟩, ⟨632, 631, top 110⟩, ⟨639, 638, top 111⟩, ⟨644, 643, top 112⟩, ⟨651, 650, top 114⟩, ⟨658, 657, top 115⟩, ⟨665, 664, top 116⟩, ⟨673, 672, top 119⟩, ⟨680, 679, top 120⟩, ⟨687, 686, top 121⟩, ⟨694, 693, top 122⟩, ⟨699, 698, top 123⟩, ⟨704, 703, top 124⟩] : List DefA) ++
  ([⟨711, 710, top 125⟩, ⟨716, 715, top 126⟩, ⟨723, 722, top 127⟩, ⟨730, 729, top 128⟩, ⟨735, 734, top 129⟩, ⟨740, 739, top 130⟩, ⟨745, 744, top 131⟩, ⟨752, 751, top 132⟩, ⟨757, 756, top 133⟩, ⟨762, 761, top 135⟩, ⟨767, 766, top 136⟩, ⟨772, 771, top 138⟩, ⟨779, 778, top 139⟩, ⟨784, 783, top 140⟩, ⟨789, 788, top 141⟩, ⟨796, 795, top 142⟩, ⟨801, 800, top 143⟩, ⟨806, 805, top 145⟩, ⟨813, 812, top 146⟩, ⟨820, 819, top 147⟩, ⟨827, 826, top 148⟩, ⟨834, 833, top 151⟩, ⟨839, 838, top 152⟩, ⟨846, 845, top 153⟩, ⟨853, 852, top 155⟩] : List DefA) ++
  ([⟨860, 859, top 156⟩, ⟨867, 866, top 158⟩, ⟨874, 873, top 159⟩, ⟨881, 880, top 160⟩, ⟨886, 885, top 161⟩, ⟨891, 890, top 162⟩, ⟨898, 897, top 163⟩, ⟨903, 902, top 164⟩, ⟨908, 907, top 165⟩, ⟨915, 914, top 167⟩, ⟨920, 919, top 168⟩, ⟨925, 924, top 169⟩, ⟨932, 931, top 170⟩, ⟨937, 936, top 171⟩, ⟨944, 943, top 173⟩, ⟨951, 950, top 174⟩, ⟨958, 957, top 175⟩, ⟨963, 962, top 176⟩, ⟨968, 967, top 177⟩, ⟨975, 974, top 178⟩, ⟨982, 981, top 179⟩, ⟨987, 986, top 180⟩] : List DefA)
def look : Look := ⟨gl, fnl, [⟨666, [("train", .int 3), ("most", .int 3), ("word", .int 4), ("teeth", .int 4)]⟩], [⟨563, [.int (1), .int (-1)]⟩]⟩
abbrev R : PySem.W.OpenRow := PySem.W.OpenLaw.row PySem.Challenge.rw_bothwheels_k65_judges_of_things_bent
def names : List PySem.Str := (["factorial", "gcd", "TooMany", "Unfit", "is_number", "is_from", "is_within", "is_long", "tupled", "are_numbers", "is_fraction", "sure_fraction", "made", "two", "negative", "compared", "less_than", "floor_in", "ceiling_in", "common_of", "common_bottom", "is_wheel", "sure_wheel", "is_train", "sure_train"] : List PySem.Str) ++
  (["led_in", "shift", "is_shift", "behind", "put_in", "power", "from_elsewhere", "name_in", "ahead_in", "behind_in", "greatest_in", "MANY_most", "is_turns", "sure_turns", "sure_few", "sure_few_most", "value_in", "bottoms_in", "bottoms_in_most", "most_in", "most", "sure_number", "sure_beats", "own_in", "come_back_in"] : List PySem.Str) ++
  (["come_back", "is_return", "turning_in", "turning", "after_in", "fits_in", "is_raised", "is_lowered", "turns_so", "is_reached", "is_lowest", "is_word", "sure_word", "sure_fitting", "wheel_of", "both_sure", "word_wheel", "turned_in", "least_in_turn", "MANY_rows", "is_row", "sure_numbers", "sure_row", "all_rows", "all_rows_rows"] : List PySem.Str) ++
  (["rows_in", "led_in_row", "led_train", "wheel_on", "sure_turned", "told_rows", "best_in", "most_of", "bar_in", "sure_barred", "same", "is_bar", "WAYS", "MOST_RING", "MOST_BOTTOM", "sure_of", "sure_two", "is_tooth", "are_teeth", "greater", "can_be_put", "tooth_put_in", "teeth", "teeth_in", "end_of_plan"] : List PySem.Str) ++
  (["is_plan", "row_wheel_in", "all_rows_teeth", "sure_goal", "nearest", "is_fewest_plan", "SIZES", "are_word_parts", "are_teeth_parts", "is_demand", "demand_parts", "unlike", "many_teeth", "is_so", "is_triple", "come_to", "is_above", "is_turned", "is_paper_against", "sums_of", "is_leading_plan", "is_reason_for", "seen_in", "strictly_in", "is_rung"] : List PySem.Str) ++
  (["leader", "first_in", "next_in", "ladder_in", "is_ladder", "gains_in", "asked", "is_gainer", "is_lagger", "MOST_LETTERS", "sure_song", "sure_pair", "sure_few_stairs", "can_in", "bottoms_in_stairs", "below_in", "sure_wish", "in_round", "is_corner_in", "is_corner", "barred_in", "is_row_in", "is_corner_paper", "is_told_word", "is_wish"] : List PySem.Str) ++
  (["are_wheels", "is_told_rung", "is_rungs", "_law_box", "_law_take", "_law_cells", "_law_same", "_law_odds", "_law_asked", "_law_rows"] : List PySem.Str)
def ob (s : PySem.W.SharedT) : Al := look.obs (HandSHeadRun.getT s)
theorem ob_eq (s : PySem.W.SharedT) : ob s = look.hook.obs s.abs := congrArg look.obs (funext (HandSHeadRun.getT_eq s))
theorem runAF (w : World) : EvHead.RunA R (PySem.W.view R.prog [180]) 20000 names (w.withFollow "special-get-raises" false) := by
  unfold EvHead.RunA
  kernel_rfl
theorem runBF (w : World) : EvHead.RunB R look.hook ob 20000 (w.withFollow "special-get-raises" false) := by
  unfold EvHead.RunB
  kernel_rfl
theorem runAT (w : World) : EvHead.RunA R (PySem.W.view R.prog [180]) 20000 names (w.withFollow "special-get-raises" true) := by
  unfold EvHead.RunA
  kernel_rfl
theorem runBT (w : World) : EvHead.RunB R look.hook ob 20000 (w.withFollow "special-get-raises" true) := by
  unfold EvHead.RunB
  kernel_rfl
theorem runA (w : World) : EvHead.RunA R (PySem.W.view R.prog [180]) 20000 names w := PySem.W.byRow2 "special-get-raises" (P := fun w => EvHead.RunA R (PySem.W.view R.prog [180]) 20000 names w) runAF runAT w
theorem runB (w : World) : EvHead.RunB R look.hook ob 20000 w := PySem.W.byRow2 "special-get-raises" (P := fun w => EvHead.RunB R look.hook ob 20000 w) runBF runBT w
theorem nms_ok : EvHead.namesK R.prog (look.gl.map (·.1)) = true := by decide +kernel
theorem run (w : World) : EvHead.RunI R (PySem.W.view R.prog [180]) look.hook ob 20000 names w := EvHead.run_of ob_eq (runA w) (runB w) nms_ok
end Pg

/-! Ev2: what the evaluator's values, frames and stores stand for. -/
namespace Ev
open PySem PySem.Spec PyProof.Rows L2

/-- what is known of the text: the written part, where the defs and the classes stand -/
structure Gx where
  K : PySem.W.Frag
  nf : Nat
  fa : Nat → Addr
  ca : Nat → Addr

/-- a tuple whose one object is known: it has no dict -/
def Pl (H : Hp) (a : Addr) : Prop := ∃ o vs, H a = some (.frz o (.tup vs)) ∧ o.dict = none ∧ o.cls = .type "tuple"
/-- a tuple; b: a known one -/
def TQ (K : PySem.W.Frag) (H : Hp) (b : Bool) (a : Addr) (vs : List V) : Prop := SqT K H a vs ∧ (b = true → Pl H a)
theorem TQ.of {K : PySem.W.Frag} {H : Hp} {a : Addr} {vs : List V} (h : SqT K H a vs) : TQ K H false a vs := ⟨h, fun z => by cases z⟩
theorem TQ.off {K : PySem.W.Frag} {H : Hp} {b : Bool} {a : Addr} {vs : List V} (h : TQ K H b a vs) : TQ K H false a vs := .of h.1

mutual
inductive RV (G : Gx) (H : Hp) (m : List Addr) : PV → V → Prop where
  | non : RV G H m .non .non
  | bl (b : Bool) : RV G H m (.bl b) (.bl b)
  | int (i : Int) : RV G H m (.int i) (.int i)
  | str (x : Str) : RV G H m (.str x) (.str x)
  | tup {b : Bool} {xs : List PV} {a : Addr} {vs : List V} (h : TQ G.K H b a vs) (r : RVs G H m xs vs) : RV G H m (.tup b xs) (.ref a)
  | ref {k : Nat} {a : Addr} (h : m[k]? = some a) : RV G H m (.ref k) (.ref a)
  | fn {k : Nat} (h : k < G.nf) : RV G H m (.fn k) (.ref (G.fa k))
inductive RVs (G : Gx) (H : Hp) (m : List Addr) : List PV → List V → Prop where
  | nil : RVs G H m [] []
  | cons {v : PV} {x : V} {vs : List PV} {xs : List V} (h : RV G H m v x) (r : RVs G H m vs xs) : RVs G H m (v :: vs) (x :: xs)
end
section
variable {G : Gx} {H H' : Hp} {m m' : List Addr}
mutual
theorem RV.mono (ht : ∀ b a vs, TQ G.K H b a vs → TQ G.K H' b a vs) (hm : ∀ (k : Nat) a, m[k]? = some a → m'[k]? = some a) : ∀ {v : PV} {x : V}, RV G H m v x → RV G H' m' v x
  | _, _, .non => .non
  | _, _, .bl b => .bl b
  | _, _, .int i => .int i
  | _, _, .str x => .str x
  | _, _, .tup h r => .tup (ht _ _ _ h) (RVs.mono ht hm r)
  | _, _, .ref h => .ref (hm _ _ h)
  | _, _, .fn h => .fn h
theorem RVs.mono (ht : ∀ b a vs, TQ G.K H b a vs → TQ G.K H' b a vs) (hm : ∀ (k : Nat) a, m[k]? = some a → m'[k]? = some a) : ∀ {v : List PV} {x : List V}, RVs G H m v x → RVs G H' m' v x
  | _, _, .nil => .nil
  | _, _, .cons h r => .cons (RV.mono ht hm h) (RVs.mono ht hm r)
end
theorem RVs.length : ∀ {vs : List PV} {xs : List V}, RVs G H m vs xs → xs.length = vs.length
  | _, _, .nil => rfl
  | _, _, .cons _ r => by rw [List.length_cons, List.length_cons, RVs.length r]
theorem RVs.append : ∀ {vs us : List PV} {xs ys : List V}, RVs G H m vs xs → RVs G H m us ys → RVs G H m (vs ++ us) (xs ++ ys)
  | _, _, _, _, .nil, r => r
  | _, _, _, _, .cons h r, r' => .cons h (RVs.append r r')
theorem RVs.get : ∀ {vs : List PV} {xs : List V} {i : Nat} {v : PV}, RVs G H m vs xs → vs[i]? = some v → ∃ x, xs[i]? = some x ∧ RV G H m v x
  | _, _, _, _, .nil, e => by simp at e
  | _, _, 0, _, .cons h _, e => by simp at e; subst e; exact ⟨_, rfl, h⟩
  | _, _, i + 1, v, .cons _ r, e => by
    obtain ⟨x, h1, h2⟩ := RVs.get (i := i) (v := v) r (by simpa using e)
    exact ⟨x, by simpa using h1, h2⟩
theorem RVs.take : ∀ {vs : List PV} {xs : List V} (n : Nat), RVs G H m vs xs → RVs G H m (vs.take n) (xs.take n)
  | _, _, 0, _ => .nil
  | _, _, _ + 1, .nil => .nil
  | _, _, n + 1, .cons h r => .cons h (RVs.take n r)
theorem RVs.drop : ∀ {vs : List PV} {xs : List V} (n : Nat), RVs G H m vs xs → RVs G H m (vs.drop n) (xs.drop n)
  | _, _, 0, r => r
  | _, _, _ + 1, .nil => .nil
  | _, _, n + 1, .cons _ r => RVs.drop n r
theorem RVs.reverse : ∀ {vs : List PV} {xs : List V}, RVs G H m vs xs → RVs G H m vs.reverse xs.reverse
  | _, _, .nil => .nil
  | _, _, .cons h r => by rw [List.reverse_cons, List.reverse_cons]; exact (RVs.reverse r).append (.cons h .nil)
theorem RVs.set {v : PV} {x : V} (h : RV G H m v x) : ∀ {vs : List PV} {xs : List V} (i : Nat), RVs G H m vs xs → RVs G H m (vs.set i v) (xs.set i x)
  | _, _, _, .nil => .nil
  | _, _, 0, .cons _ r => .cons h r
  | _, _, i + 1, .cons q r => .cons q (RVs.set h i r)
theorem RVs.flatten_rep {vs : List PV} {xs : List V} (r : RVs G H m vs xs) : ∀ n : Nat, RVs G H m (List.replicate n vs).flatten (List.replicate n xs).flatten
  | 0 => .nil
  | n + 1 => by
    rw [List.replicate_succ, List.replicate_succ, List.flatten_cons, List.flatten_cons]
    exact r.append (RVs.flatten_rep r n)
/-- ints are ints -/
theorem RVs.ints : ∀ {vs : List PV} {xs : List V} {is : List Int}, RVs G H m vs xs → intsP vs = some is → xs = is.map V.int
  | _, _, is, .nil, e => by cases e; rfl
  | _, _, is, .cons h r, e => by
    cases h with
    | int i =>
      unfold intsP at e
      split at e
      · rename_i js q
        cases e
        rw [RVs.ints r q, List.map_cons]
      · cases e
    | _ => cases e
theorem RVs.bools : ∀ {vs : List PV} {xs : List V} {is : List Bool}, RVs G H m vs xs → boolsP vs = some is → xs = is.map V.bl
  | _, _, is, .nil, e => by cases e; rfl
  | _, _, is, .cons h r, e => by
    cases h with
    | bl i =>
      unfold boolsP at e
      split at e
      · rename_i js q
        cases e
        rw [RVs.bools r q, List.map_cons]
      · cases e
    | _ => cases e
theorem RVs.ofInts (is : List Int) : RVs G H m (is.map PV.int) (is.map V.int) := by
  induction is with
  | nil => exact .nil
  | cons i r ih => exact .cons (.int i) ih
end

/-- what a run leaves as it was -/
structure Ext (K : PySem.W.Frag) (H : Hp) (m : List Addr) (S : Store) (H' : Hp) (m' : List Addr) (S' : Store) : Prop where
  pre : ∃ r, m' = m ++ r ∧ ∀ p ∈ r, H p = none
  keep : ∀ a o, H a = some o → a ∉ m → H' a = some o
  live : ∀ a, H' a = none → H a = none
  tup : ∀ b a vs, TQ K H b a vs → TQ K H' b a vs
  fro : ∀ (k : Nat) xs a, S[k]? = some (.fro xs) → m[k]? = some a → S'[k]? = some (.fro xs) ∧ ∀ o, H a = some o → H' a = some o
section
variable {K : PySem.W.Frag} {H H1 H' : Hp} {m m1 m' : List Addr} {S S1 S' : Store}
theorem Ext.refl : Ext K H m S H m S := ⟨⟨[], by simp, fun _ h => by simp at h⟩, fun _ _ h _ => h, fun _ h => h, fun _ _ _ h => h, fun _ _ _ h _ => ⟨h, fun _ q => q⟩⟩
theorem Ext.at_ (x : Ext K H m S H' m' S') {k : Nat} {a : Addr} (h : m[k]? = some a) : m'[k]? = some a := by
  obtain ⟨r, e, _⟩ := x.pre
  subst e
  rw [List.getElem?_append_left (List.getElem?_eq_some_iff.mp h).1]
  exact h
theorem Ext.out (x : Ext K H m S H' m' S') {a : Addr} {o : HO} (h : H a = some o) (n : a ∉ m) : a ∉ m' := by
  obtain ⟨r, e, hr⟩ := x.pre
  subst e
  intro z
  rcases List.mem_append.mp z with z | z
  · exact n z
  · rw [hr a z] at h; cases h
theorem Ext.trans (x : Ext K H m S H1 m1 S1) (y : Ext K H1 m1 S1 H' m' S') : Ext K H m S H' m' S' := by
  refine ⟨?_, fun a o h n => y.keep a o (x.keep a o h n) (x.out h n), fun a h => x.live a (y.live a h), fun b a vs h => y.tup b a vs (x.tup b a vs h), fun k xs a h1 h2 => ?_⟩
  · obtain ⟨r, e, hr⟩ := x.pre
    obtain ⟨r', e', hr'⟩ := y.pre
    subst e
    subst e'
    refine ⟨r ++ r', by rw [List.append_assoc], fun p hp => ?_⟩
    rcases List.mem_append.mp hp with z | z
    · exact hr p z
    · exact x.live p (hr' p z)
  · obtain ⟨a1, a2⟩ := x.fro k xs a h1 h2
    obtain ⟨b1, b2⟩ := y.fro k xs a a1 (x.at_ h2)
    exact ⟨b1, fun o h => b2 o (a2 o h)⟩
theorem Ext.rv {G : Gx} (x : Ext G.K H m S H' m' S') {v : PV} {u : V} (r : RV G H m v u) : RV G H' m' v u := r.mono x.tup fun _ _ h => x.at_ h
theorem Ext.rvs {G : Gx} (x : Ext G.K H m S H' m' S') {v : List PV} {u : List V} (r : RVs G H m v u) : RVs G H' m' v u := r.mono x.tup fun _ _ h => x.at_ h
end

/-- a cell -/
def RC (G : Gx) (H : Hp) (m : List Addr) (a : Addr) : Cell → Prop
  | .lst xs => ∃ vs, H a = some (.lst vs) ∧ RVs G H m xs vs
  | .fro xs => ∃ vs, Rd H a (.lst vs) ∧ RVs G H m xs vs
/-- the store -/
structure RS (G : Gx) (H : Hp) (m : List Addr) (S : Store) : Prop where
  len : m.length = S.length
  nd : m.Nodup
  cell : ∀ (k : Nat) a c, m[k]? = some a → S[k]? = some c → RC G H m a c
/-- a frame -/
structure RF (G : Gx) (H : Hp) (m : List Addr) (fr : Fr) (σ : L2.St) : Prop where
  len : fr.length = σ.length
  at_ : ∀ (i : Nat) v, fr[i]? = some (some v) → ∃ x, σ[i]? = some (some x) ∧ RV G H m v x
/-- a run's value: it may be a list that is new (Z) -/
def RT (G : Gx) (Z : Addr → Prop) (H : Hp) (m : List Addr) (v : PV) (x : V) : Prop := match v with
  | .new xs => ∃ a vs, x = .ref a ∧ Z a ∧ a ∉ m ∧ H a = some (.lst vs) ∧ RVs G H m xs vs
  | v => RV G H m v x
def isNew : PV → Prop
  | .new _ => True
  | _ => False
/-- several, all new ones apart -/
inductive RTs (G : Gx) (H : Hp) (m : List Addr) : (Addr → Prop) → List PV → List V → Prop where
  | nil {Z : Addr → Prop} : RTs G H m Z [] []
  | cons {Z : Addr → Prop} {v : PV} {x : V} {vs : List PV} {xs : List V} (h : RT G Z H m v x) (r : RTs G H m (fun a => Z a ∧ (isNew v → x ≠ .ref a)) vs xs) : RTs G H m Z (v :: vs) (x :: xs)
section
variable {G : Gx} {H H0 H1 H' : Hp} {m m1 m' : List Addr} {S S1 S' : Store} {fr : Fr} {σ : L2.St} {v : PV} {x : V}
theorem Ext.rf (e : Ext G.K H m S H' m' S') (r : RF G H m fr σ) : RF G H' m' fr σ :=
  ⟨r.len, fun i v h => let ⟨x, h1, h2⟩ := r.at_ i v h; ⟨x, h1, e.rv h2⟩⟩
theorem RT.of {Z : Addr → Prop} (h : RV G H m v x) : RT G Z H m v x := by
  cases h <;> first | exact .non | exact .bl _ | exact .int _ | exact .str _ | (rename_i a b; exact .tup a b) | (rename_i a; exact .ref a) | (rename_i a; exact .fn a)
theorem RT.rv {Z : Addr → Prop} (h : RT G Z H m v x) (n : ¬ isNew v) : RV G H m v x := by
  cases v with
  | new xs => exact absurd trivial n
  | _ => exact h
theorem Ext.rt {Z : Addr → Prop} (e : Ext G.K H m S H' m' S') (r : RT G Z H m v x) : RT G Z H' m' v x := by
  cases v with
  | new xs =>
    obtain ⟨a, vs, h1, h2, h3, h4, h5⟩ := r
    exact ⟨a, vs, h1, h2, e.out h4 h3, e.keep a _ h4 h3, e.rvs h5⟩
  | _ => exact RT.of (e.rv r)
theorem RT.back {Z Z' : Addr → Prop} (hb : ∀ a, Z a → Z' a) (r : RT G Z H m v x) : RT G Z' H m v x := by
  cases v with
  | new xs =>
    obtain ⟨a, vs, h1, h2, h3⟩ := r
    exact ⟨a, vs, h1, hb a h2, h3⟩
  | _ => exact r
theorem RTs.back {vs : List PV} {xs : List V} {Z : Addr → Prop} (r : RTs G H m Z vs xs) : ∀ {Z' : Addr → Prop}, (∀ a, Z a → Z' a) → RTs G H m Z' vs xs := by
  induction r with
  | nil => intro _ _; exact .nil
  | cons h r ih => intro Z' hb; exact .cons (h.back hb) (ih fun a q => ⟨hb a q.1, q.2⟩)
theorem Ext.rts {vs : List PV} {xs : List V} {Z : Addr → Prop} (e : Ext G.K H m S H' m' S') (r : RTs G H m Z vs xs) : RTs G H' m' Z vs xs := by
  induction r with
  | nil => exact .nil
  | cons h r ih => exact .cons (e.rt h) ih
theorem RTs.length {vs : List PV} {xs : List V} {Z : Addr → Prop} (r : RTs G H m Z vs xs) : xs.length = vs.length := by
  induction r with
  | nil => rfl
  | cons h r ih => rw [List.length_cons, List.length_cons, ih]
theorem RTs.ofRVs {vs : List PV} {xs : List V} : ∀ {Z : Addr → Prop}, RVs G H m vs xs → RTs G H m Z vs xs := by
  induction vs generalizing xs with
  | nil => intro Z h; cases h; exact .nil
  | cons v vs ih => intro Z h; cases h with
    | cons h r => exact .cons (RT.of h) (ih r)
/-- a new object elsewhere -/
theorem sqt_new {K : PySem.W.Frag} {p : Addr} {o : HO} (hp : H p = none) : ∀ a vs, SqT K H a vs → SqT K (upd H p o) a vs := fun a vs h => by
  rcases h with (h | ⟨o', h⟩) | h
  · exact .inl (.inl (by rw [upd_ne (ne_of_none h hp)]; exact h))
  · exact .inl (.inr ⟨o', by rw [upd_ne (ne_of_none h hp)]; exact h⟩)
  · exact .inr h
theorem tup_new {K : PySem.W.Frag} {p : Addr} {o : HO} (hp : H p = none) : ∀ b a vs, TQ K H b a vs → TQ K (upd H p o) b a vs := fun b a vs h =>
  ⟨sqt_new hp a vs h.1, fun z => let ⟨o', us, q, r⟩ := h.2 z; ⟨o', us, by rw [upd_ne (ne_of_none q hp)]; exact q, r⟩⟩
theorem Ext.sq {K : PySem.W.Frag} (x : Ext K H m S H' m' S') {a : Addr} {vs : List V} (h : SqT K H a vs) : SqT K H' a vs := (x.tup false a vs (.of h)).1
theorem lst_new {K : PySem.W.Frag} {p : Addr} {o : HO} (hp : H p = none) : ∀ a vs, SqL K H a vs → SqL K (upd H p o) a vs := fun a vs h => by
  rcases h with (h | ⟨o', h⟩) | h
  · exact .inl (.inl (by rw [upd_ne (ne_of_none h hp)]; exact h))
  · exact .inl (.inr ⟨o', by rw [upd_ne (ne_of_none h hp)]; exact h⟩)
  · exact .inr h
theorem upd_none {p a : Addr} {o : HO} (h : upd H p o a = none) : H a = none := by
  unfold upd at h
  split at h
  · cases h
  · exact h
theorem RS.new {p : Addr} {o : HO} (r : RS G H m S) (hp : H p = none) : RS G (upd H p o) m S := by
  refine ⟨r.len, r.nd, fun k a c h1 h2 => ?_⟩
  have q := r.cell k a c h1 h2
  cases c with
  | lst xs =>
    obtain ⟨vs, h, h'⟩ := q
    exact ⟨vs, by rw [upd_ne (ne_of_none h hp)]; exact h, h'.mono (tup_new hp) fun _ _ z => z⟩
  | fro xs =>
    obtain ⟨vs, h, h'⟩ := q
    refine ⟨vs, ?_, h'.mono (tup_new hp) fun _ _ z => z⟩
    rcases h with h | ⟨o', h⟩
    · exact .inl (by rw [upd_ne (ne_of_none h hp)]; exact h)
    · exact .inr ⟨o', by rw [upd_ne (ne_of_none h hp)]; exact h⟩
theorem Ext.new {K : PySem.W.Frag} {p : Addr} {o : HO} (hp : H p = none) : Ext K H m S (upd H p o) m S :=
  ⟨⟨[], by simp, fun _ h => by simp at h⟩, fun a o' h _ => by rw [upd_ne (ne_of_none h hp)]; exact h, fun a h => upd_none h, tup_new hp,
    fun k xs a h1 h2 => ⟨h1, fun o' h => by rw [upd_ne (ne_of_none h hp)]; exact h⟩⟩
end
section
variable {G : Gx} {H H0 H1 H' : Hp} {m m0 m1 m' : List Addr} {S S0 S1 S' : Store} {v : PV} {x : V}
theorem RS.there (r : RS G H m S) {a : Addr} (h : a ∈ m) : ∃ o, H a = some o := by
  obtain ⟨k, hk, e⟩ := List.getElem_of_mem h
  have e1 : m[k]? = some a := by rw [List.getElem?_eq_getElem hk, e]
  have hk2 : k < S.length := by rw [← r.len]; exact hk
  have q := r.cell k a S[k] e1 (List.getElem?_eq_getElem hk2)
  cases e2 : S[k] with
  | lst xs => rw [e2] at q; obtain ⟨vs, q, _⟩ := q; exact ⟨_, q⟩
  | fro xs => rw [e2] at q; obtain ⟨vs, q, _⟩ := q; rcases q with q | ⟨o, q⟩ <;> exact ⟨_, q⟩
theorem at_grow {k : Nat} {a : Addr} {r : List Addr} (h : m[k]? = some a) : (m ++ r)[k]? = some a := by
  rw [List.getElem?_append_left (List.getElem?_eq_some_iff.mp h).1]
  exact h
theorem RS.push {a : Addr} {xs : List PV} {vs : List V} (r : RS G H m S) (n : a ∉ m) (h : H a = some (.lst vs)) (q : RVs G H m xs vs) : RS G H (m ++ [a]) (S ++ [.lst xs]) := by
  refine ⟨by simp [r.len], ?_, fun k b c h1 h2 => ?_⟩
  · rw [List.nodup_append]
    refine ⟨r.nd, by simp, fun b hb c hc => ?_⟩
    have : c = a := by simpa using hc
    subst this
    intro e
    subst e
    exact n hb
  · have gr : ∀ {us : List PV} {ws : List V}, RVs G H m us ws → RVs G H (m ++ [a]) us ws := fun z => z.mono (fun _ _ _ z => z) fun _ _ z => at_grow z
    by_cases hk : k < m.length
    · rw [List.getElem?_append_left hk] at h1
      rw [List.getElem?_append_left (by rw [← r.len]; exact hk)] at h2
      have z := r.cell k b c h1 h2
      cases c with
      | lst ys => obtain ⟨ws, z1, z2⟩ := z; exact ⟨ws, z1, gr z2⟩
      | fro ys => obtain ⟨ws, z1, z2⟩ := z; exact ⟨ws, z1, gr z2⟩
    · have hk' : m.length ≤ k := Nat.le_of_not_lt hk
      rw [List.getElem?_append_right hk'] at h1
      rw [List.getElem?_append_right (by rw [← r.len]; exact hk'), ← r.len] at h2
      cases e : k - m.length with
      | zero =>
        rw [e] at h1 h2
        simp at h1 h2
        subst h1 h2
        exact ⟨vs, h, gr q⟩
      | succ j =>
        rw [e] at h1
        simp at h1
theorem Ext.grow {K : PySem.W.Frag} {r : List Addr} {T : Store} (e : Ext K H0 m0 S0 H m S) (hr : ∀ p ∈ r, H0 p = none) : Ext K H0 m0 S0 H (m ++ r) (S ++ T) := by
  refine ⟨?_, e.keep, e.live, e.tup, fun k xs a h1 h2 => ?_⟩
  · obtain ⟨r', e1, e2⟩ := e.pre
    refine ⟨r' ++ r, by rw [e1, List.append_assoc], fun p hp => ?_⟩
    rcases List.mem_append.mp hp with z | z
    · exact e2 p z
    · exact hr p z
  · obtain ⟨a1, a2⟩ := e.fro k xs a h1 h2
    exact ⟨by rw [List.getElem?_append_left (List.getElem?_eq_some_iff.mp a1).1]; exact a1, a2⟩
/-- a value kept -/
theorem mat_ok {Z : Addr → Prop} (rs : RS G H m S) (rt : RT G Z H m v x) :
    ∃ r T, (mat v S).2 = S ++ T ∧ (∀ p ∈ r, Z p ∧ isNew v ∧ x = .ref p) ∧ RS G H (m ++ r) (mat v S).2 ∧ RV G H (m ++ r) (mat v S).1 x := by
  cases v with
  | new xs =>
    obtain ⟨a, vs, h1, h2, h3, h4, h5⟩ := rt
    refine ⟨[a], [.lst xs], rfl, fun p hp => ?_, rs.push h3 h4 h5, ?_⟩
    · have : p = a := by simpa using hp
      subst this
      exact ⟨h2, trivial, h1⟩
    · subst h1
      refine .ref ?_
      rw [← rs.len]
      simp
  | _ => exact ⟨[], [], by simp [mat], fun p hp => by simp at hp, by simpa [mat] using rs, by have z : RV G H m _ x := rt; simpa [mat] using z⟩
theorem RT.grow {Z : Addr → Prop} {r : List Addr} (h : RT G Z H m v x) (hz : ∀ p ∈ r, ¬ Z p) : RT G Z H (m ++ r) v x := by
  cases v with
  | new xs =>
    obtain ⟨a, vs, h1, h2, h3, h4, h5⟩ := h
    refine ⟨a, vs, h1, h2, fun z => ?_, h4, h5.mono (fun _ _ _ z => z) fun _ _ z => at_grow z⟩
    rcases List.mem_append.mp z with z | z
    · exact h3 z
    · exact hz a z h2
  | _ => exact RT.of (RV.mono (fun _ _ _ z => z) (fun _ _ z => at_grow z) h)
theorem RTs.grow {vs : List PV} {xs : List V} {Z : Addr → Prop} {r : List Addr} (h : RTs G H m Z vs xs) (hz : ∀ p ∈ r, ¬ Z p) : RTs G H (m ++ r) Z vs xs := by
  induction h with
  | nil => exact .nil
  | cons h q ih => exact .cons (h.grow hz) (ih fun p hp z => hz p hp z.1)
theorem RV.grow {r : List Addr} (h : RV G H m v x) : RV G H (m ++ r) v x := RV.mono (fun _ _ _ z => z) (fun _ _ z => at_grow z) h
theorem mats_ok {vs : List PV} : ∀ {xs : List V} {Z : Addr → Prop} {m : List Addr} {S : Store}, RS G H m S → RTs G H m Z vs xs →
    ∃ r T, (mats vs S).2 = S ++ T ∧ (∀ p ∈ r, Z p) ∧ RS G H (m ++ r) (mats vs S).2 ∧ RVs G H (m ++ r) (mats vs S).1 xs := by
  induction vs with
  | nil => intro xs Z m S rs rt; cases rt; exact ⟨[], [], by simp [mats], fun p hp => by simp at hp, by simpa [mats] using rs, .nil⟩
  | cons v vs ih =>
    intro xs Z m S rs rt
    cases rt with
    | cons h q =>
      obtain ⟨r1, T1, a1, a2, a3, a4⟩ := mat_ok rs h
      obtain ⟨r2, T2, b1, b2, b3, b4⟩ := ih a3 (q.grow (r := r1) fun p hp z => z.2 (a2 p hp).2.1 (a2 p hp).2.2)
      have e : mats (v :: vs) S = ((mat v S).1 :: (mats vs (mat v S).2).1, (mats vs (mat v S).2).2) := rfl
      refine ⟨r1 ++ r2, T1 ++ T2, ?_, fun p hp => ?_, ?_, ?_⟩
      · rw [e]
        show (mats vs (mat v S).2).2 = _
        rw [b1, a1, List.append_assoc]
      · rcases List.mem_append.mp hp with z | z
        · exact (a2 p z).1
        · exact (b2 p z).1
      · rw [e, ← List.append_assoc]
        exact b3
      · rw [e, ← List.append_assoc]
        exact .cons a4.grow b4
end
end Ev

/-! Ev3: runs and readings. -/
namespace Ev
open PySem PySem.Spec PyProof.Rows L2

section
variable {G : Gx} {W : WX} {σ : L2.St} {H H1 H' : Hp} {m m1 m' : List Addr} {S S1 S' : Store} {α β : Type}
/-- what a run comes to, from (H, m, S) -/
def PR (G : Gx) (W : WX) (σ : L2.St) (H : Hp) (m : List Addr) (S : Store) (r : R α) (P : α → Store → List Addr → Hp → Prop) : Prop := match r with
  | .ok v S' => ∀ m' H', Ext G.K H m S H' m' S' → RS G H' m' S' → P v S' m' H'
  | .exc c S' => ∀ m' H', Ext G.K H m S H' m' S' → RS G H' m' S' → W (.ref (G.ca c)) none σ H'
  | .stk => False
theorem PR.imp {r : R α} {P P' : α → Store → List Addr → Hp → Prop} (h : PR G W σ H m S r P) (hp : ∀ v S' m' H', Ext G.K H m S H' m' S' → RS G H' m' S' → P v S' m' H' → P' v S' m' H') : PR G W σ H m S r P' := by
  cases r with
  | ok v S' => exact fun m' H' e q => hp v S' m' H' e q (h m' H' e q)
  | exc c S' => exact h
  | stk => exact h
theorem PR.shift {r : R α} {P : α → Store → List Addr → Hp → Prop} (e : Ext G.K H m S H1 m1 S1) (h : PR G W σ H m S r P) : PR G W σ H1 m1 S1 r P := by
  cases r with
  | ok v S' => exact fun m' H' e' q => h m' H' (e.trans e') q
  | exc c S' => exact fun m' H' e' q => h m' H' (e.trans e') q
  | stk => exact h
/-- in a row: what follows is told from the start -/
theorem PR.bnd {r : R α} {k : α → Store → R β} {P : β → Store → List Addr → Hp → Prop} (h : PR G W σ H m S (r.bnd k) P) :
    PR G W σ H m S r fun v S1 m1 H1 => PR G W σ H m S (k v S1) P := by
  cases r with
  | ok v S' => exact fun m' H' e' q => h
  | exc c S' => exact h
  | stk => exact h
theorem PR.ok {v : α} {P : α → Store → List Addr → Hp → Prop} (h : PR G W σ H m S (.ok v S') P) {m' : List Addr} {H' : Hp} (e : Ext G.K H m S H' m' S') (r : RS G H' m' S') : P v S' m' H' := h m' H' e r
/-- what is wanted of an expression's value -/
abbrev Pv (G : Gx) (H : Hp) (Q : VK) : PV → Store → List Addr → Hp → Prop := fun v _ m' H' => ∀ x, RT G (fun a => H a = none) H' m' v x → Q x H'
end
end Ev

/-! Ev4: the context; small expressions. -/
namespace Ev
open PySem PySem.Spec PyProof.Rows L2

/-- the module's names as the tree numbers them -/
structure Tb where
  fn : List Str
  cn : List Str
  dn : List (Nat × Str)
  gcd : Bool
  fac : Bool
/-- what a def's call promises -/
def spR (G : Gx) (F : Fn) (k : Nat) : Sp := fun vs H Q E => ∃ args S m, RS G H m S ∧ RVs G H m args vs ∧
  PR G (fun c d _ H' => E c d H') [] H m S (F k args S) fun v _ m' H' => ∀ x, RT G (fun a => H a = none) H' m' v x → Q x H'
def bnames : List Str := ["len", "isinstance", "tuple", "list", "int", "bool", "str", "abs", "max", "min", "sum", "any", "all", "sorted", "range", "enumerate", "zip", "divmod", "set"]
/-- a written dict with text keys -/
structure DctW (K : PySem.W.Frag) (w : World) (G : Gx) (d : Addr) (kvs : List PV) : Prop where
  kd : ∃ es n, KDict K w d es n
  at_ : ∀ z : Str, (PySem.W.nsIn K d z = some none ∧ keyed z kvs = .non) ∨ ∃ u v, PySem.W.nsIn K d z = some (some u) ∧ RelV v u ∧ ¬ isNew (keyed z kvs) ∧ ∀ H m, RV G H m (keyed z kvs) v
/-- a context that fits -/
structure Good (X : Cx) (G : Gx) (F : Fn) (C : List PV) (W : WX) (T : Tb) (N : List Str) (sc : Scope) (n : Nat) : Prop where
  kk : X.K = G.K
  sc : X.env.scope = sc
  nn : X.N = N
  nd : N.Nodup
  plain : ∀ x ∈ N, (x == ("__debug__" : Str)) = false ∧ (x == ("__classdict__" : Str)) = false
  calm : X.calm = true
  room : Room n X.A
  tk : Takes X W
  fn : ∀ (k : Nat) x, T.fn[k]? = some x → (x == ("__debug__" : Str)) = false ∧ X.mg x = some (.ref (G.fa k)) ∧ PySem.W.keepIn X.K (.ref (G.fa k)) = true ∧ FnR X.prog X.w X.K X.mg X.base (L2.CX X.prog X.w) n (G.fa k) (spR G F k)
  nf : T.fn.length = G.nf
  free : ∀ x ∈ bnames, X.mg x = none
  cst : ∀ (k : Nat) x, T.cn[k]? = some x → (x == ("__debug__" : Str)) = false ∧ ∃ u v c, X.mg x = some u ∧ RelV v u ∧ C[k]? = some c ∧ ¬ isNew c ∧ ∀ H m, RV G H m c v
  dct : ∀ (k : Nat) x, (k, x) ∈ T.dn → (x == ("__debug__" : Str)) = false ∧ ∃ d b kvs, X.mg x = some (.ref d) ∧ DctW X.K X.w G d kvs ∧ C[k]? = some (.tup b kvs)
  gcd : T.gcd = true → X.mg "gcd" = some (.builtin "math.gcd")
  fac : T.fac = true → X.mg "factorial" = some (.builtin "math.factorial")
  inj : ∀ (j k : Nat) x y, T.fn[j]? = some x → T.fn[k]? = some y → G.fa j = G.fa k → j = k

def strB (o : Option Str) (x : Str) : Bool := match o with
  | some y => decide (y = x)
  | none => false
theorem strB_ok {o : Option Str} {x : Str} (h : strB o x = true) : o = some x := by
  cases o with
  | none => cases h
  | some y => rw [of_decide_eq_true h]
def visB (sc : Scope) (x : Str) : Bool := match sc.names.lookup x with
  | some .local => true
  | some .cell => true
  | some .free => true
  | _ => false
theorem visB_ok {sc : Scope} {x : Str} (h : visB sc x = true) : Vis sc x := by
  unfold visB at h
  split at h
  · rename_i e; exact .inl e
  · rename_i e; exact .inr (.inl e)
  · rename_i e; exact .inr (.inr e)
  · cases h
def glB (sc : Scope) (x : Str) : Bool := match sc.names.lookup x with
  | some .globalImplicit => true
  | _ => false
theorem glB_ok {X : Cx} {sc : Scope} {x : Str} (e : X.env.scope = sc) (h : glB sc x = true) : Gl X x := by
  unfold glB at h
  split at h
  · rename_i q
    show X.env.scope.names.lookup x = _
    rw [e]
    exact q
  · cases h
def lcB (sc : Scope) (x : Str) : Bool := match sc.names.lookup x with
  | some .local => true
  | some .cell => true
  | _ => false

/-! ### readings -/
section
variable (G : Gx) (F : Fn) (C : List PV) (W : WX)
def tE (e : E) : TE := fun σ H Q => ∃ fr S m, RF G H m fr σ ∧ RS G H m S ∧ PR G W σ H m S (ev F C e fr S) (Pv G H Q)
def tT (e : E) : TT := fun σ H Q => ∃ fr S m, RF G H m fr σ ∧ RS G H m S ∧ PR G W σ H m S (ev F C e fr S) fun v _ _ H' => ∃ b, v = .bl b ∧ Q b H'
def tA (es : Es) : TA := fun σ H Q => ∃ fr S m, RF G H m fr σ ∧ RS G H m S ∧ PR G W σ H m S (evs F C es fr S) fun vs _ m' H' => ∀ xs, RTs G H' m' (fun a => H a = none) vs xs → Q xs H'
end
theorem impE {X : Cx} {e : Expr} {t t' : TE} (h : PE X e t) (i : ∀ σ H Q, t' σ H Q → t σ H Q) : PE X e t' := ⟨fun pins s σ H Q I q => h.run pins s σ H Q I (i σ H Q q)⟩
theorem impT {X : Cx} {e : Expr} {t t' : TT} (h : PT X e t) (i : ∀ σ H Q, t' σ H Q → t σ H Q) : PT X e t' := ⟨fun pins s σ H Q I q => h.run pins s σ H Q I (i σ H Q q)⟩
theorem impW {X : Cx} {e : Expr} {t t' : TT} (h : PW X e t) (i : ∀ σ H Q, t' σ H Q → t σ H Q) : PW X e t' := ⟨fun wh pins s σ H Q I q => h.run wh pins s σ H Q I (i σ H Q q)⟩
theorem impA {X : Cx} {e : List Expr} {t t' : TA} (h : PA X e t) (i : ∀ σ H Q, t' σ H Q → t σ H Q) : PA X e t' := ⟨fun p pins s σ H Q I q => h.run p pins s σ H Q I (i σ H Q q)⟩
section
variable {G : Gx} {F : Fn} {C : List PV} {W : WX} {X : Cx} {σ : L2.St} {H H1 : Hp} {m m1 : List Addr} {S S1 : Store} {fr : Fr}
/-- a part of the expression, behind the start -/
theorem tE.of {e : E} {Q : VK} (rf : RF G H m fr σ) (x : Ext G.K H m S H1 m1 S1) (rs : RS G H1 m1 S1) (h : PR G W σ H1 m1 S1 (ev F C e fr S1) (Pv G H1 Q)) : tE G F C W e σ H1 Q := ⟨fr, S1, m1, x.rf rf, rs, h⟩
theorem tT.of {e : E} {Q : Bool → Hp → Prop} (rf : RF G H m fr σ) (x : Ext G.K H m S H1 m1 S1) (rs : RS G H1 m1 S1)
    (h : PR G W σ H1 m1 S1 (ev F C e fr S1) fun v _ m' H' => ∃ b, v = .bl b ∧ Q b H') : tT G F C W e σ H1 Q := ⟨fr, S1, m1, x.rf rf, rs, h⟩
theorem tA.of {e : Es} {Q : List V → Hp → Prop} (rf : RF G H m fr σ) (x : Ext G.K H m S H1 m1 S1) (rs : RS G H1 m1 S1)
    (h : PR G W σ H1 m1 S1 (evs F C e fr S1) fun vs _ m' H' => ∀ xs, RTs G H' m' (fun a => H1 a = none) vs xs → Q xs H') : tA G F C W e σ H1 Q := ⟨fr, S1, m1, x.rf rf, rs, h⟩
/-- a test by its value -/
theorem tT.val {e : E} {σ : L2.St} {H : Hp} {Q : Bool → Hp → Prop} (h : tT G F C W e σ H Q) : tE G F C W e σ H fun x H1 => ∃ c, x = .bl c ∧ Q c H1 := by
  obtain ⟨fr, S, m, rf, rs, p⟩ := h
  refine ⟨fr, S, m, rf, rs, p.imp fun v S' m' H' e q hp x rt => ?_⟩
  obtain ⟨b, rfl, hq⟩ := hp
  cases rt
  exact ⟨b, rfl, hq⟩
end
/-- the plain readers of a test -/
def plainT : Expr → Bool
  | .BoolOp .. => false
  | .UnaryOp .Not _ _ => false
  | .Compare .. => false
  | .NamedExpr .. => false
  | .IfExp .. => false
  | _ => true
/-- what may stand as a test -/
def tstB : Expr → Bool
  | .NamedExpr .. => false
  | .IfExp .. => false
  | .BoolOp .Or [.Call (.Name y _) [_] [] _, _] _ => !(decide (y = "list"))
  | _ => true
theorem plainT_ok {e : Expr} {env : Env} (h : plainT e = true) : ∀ whole, isTrue e env whole = (do let v ← whole; standAt e.pos; holding [v] (truthy v)) := by
  cases e with
  | BoolOp => cases h
  | Compare => cases h
  | NamedExpr => cases h
  | IfExp => cases h
  | UnaryOp op a p => cases op <;> first | (intro _; rfl) | cases h
  | _ => intro _; rfl

/-- an expression, well read -/
structure SE (X : Cx) (G : Gx) (F : Fn) (C : List PV) (W : WX) (me : E) (e : Expr) : Prop where
  pe : PE X e (tE G F C W me)
  pt : plainT e = false → tstB e = true → PT X e (tT G F C W me)
section
variable {G : Gx} {F : Fn} {C : List PV} {W : WX} {X : Cx} {T : Tb} {N : List Str} {sc : Scope} {n : Nat}
theorem SE.test {me : E} {e : Expr} (h : SE X G F C W me e) (t : tstB e = true) : PT X e (tT G F C W me) := by
  cases q : plainT e with
  | false => exact h.pt q t
  | true => exact impT (pt_val h.pe (plainT_ok q)) fun σ H Q z => z.val
theorem SE.plain {me : E} {e : Expr} (h : PE X e (tE G F C W me)) (q : plainT e = true) : SE X G F C W me e := ⟨h, fun z => by rw [q] at z; cases z⟩

/-! ### leaves -/
theorem tE_ok {me : E} {σ : L2.St} {H : Hp} {Q : VK} {c : PV} {v : V} (h : tE G F C W me σ H Q) (e : ∀ fr S, ev F C me fr S = .ok c S) (r : ∀ m, RT G (fun a => H a = none) H m c v) : Q v H := by
  obtain ⟨fr, S, m, rf, rs, p⟩ := h
  rw [e] at p
  exact p m H .refl rs v (r m)
theorem s_non {j pos} : SE X G F C W .non (.Constant .none j pos) := .plain (impE pe_non fun σ H Q h => tE_ok h (fun _ _ => rfl) fun _ => RV.non) rfl
theorem s_bl {b j pos} : SE X G F C W (.bl b) (.Constant (.bool b) j pos) := .plain (impE pe_bl fun σ H Q h => tE_ok h (fun _ _ => rfl) fun _ => RV.bl b) rfl
theorem s_int {i j pos} : SE X G F C W (.int i) (.Constant (.int i) j pos) := .plain (impE pe_int fun σ H Q h => tE_ok h (fun _ _ => rfl) fun _ => RV.int i) rfl
theorem s_str {x j pos} : SE X G F C W (.str x) (.Constant (.str x) j pos) := .plain (impE pe_str fun σ H Q h => tE_ok h (fun _ _ => rfl) fun _ => RV.str x) rfl
theorem s_v (g : Good X G F C W T N sc n) {i : Nat} {x : Str} {pos : Pos} (hi : strB (nth N i) x = true) (hv : visB sc x = true) : SE X G F C W (.v i) (.Name x pos) := by
  have hx : N[i]? = some x := by rw [← nth_eq]; exact strB_ok hi
  obtain ⟨p1, p2⟩ := g.plain x (List.mem_of_getElem? hx)
  refine .plain (impE (pe_var (i := i) (x := x) (by rw [g.nn]; exact hx) (by rw [g.sc]; exact visB_ok hv) p1 p2) fun σ H Q h => ?_) rfl
  obtain ⟨fr, S, m, rf, rs, p⟩ := h
  rw [ev] at p
  split at p
  · rename_i v e
    rw [nth_eq] at e
    obtain ⟨x, h1, h2⟩ := rf.at_ i v e
    exact ⟨x, h1, p m H .refl rs x (RT.of h2)⟩
  · exact p.elim
theorem s_g (g : Good X G F C W T N sc n) {k : Nat} {x : Str} {pos : Pos} (hk : strB (nth T.cn k) x = true) (hg : glB sc x = true) : SE X G F C W (.g k) (.Name x pos) := by
  obtain ⟨hd, u, v, c, h1, h2, h3, hn, h4⟩ := g.cst k x (by rw [← nth_eq]; exact strB_ok hk)
  refine .plain (impE (pe_glob (v := v) (glB_ok g.sc hg) h1 h2 hd) fun σ H Q h => ?_) rfl
  obtain ⟨fr, S, m, rf, rs, p⟩ := h
  rw [ev, nth_eq, h3] at p
  exact p m H .refl rs v (RT.of (h4 H m))
theorem s_f (g : Good X G F C W T N sc n) {k : Nat} {x : Str} {pos : Pos} (hk : strB (nth T.fn k) x = true) (hg : glB sc x = true) : SE X G F C W (.f k) (.Name x pos) := by
  obtain ⟨hd, h1, _⟩ := g.fn k x (by rw [← nth_eq]; exact strB_ok hk)
  exact .plain (impE (pe_glob (v := .ref (G.fa k)) (glB_ok g.sc hg) h1 rfl hd) fun σ H Q h => tE_ok h (fun _ _ => rfl) fun _ => RV.fn (by have hh := strB_ok hk; rw [nth_eq] at hh; rw [← g.nf]; exact (List.getElem?_eq_some_iff.mp hh).1)) rfl

/-! ### one part -/
/-- one part, then a rule on its value -/
theorem tE_un {me a : E} {σ : L2.St} {H : Hp} {Q : VK} {J : V → Hp → Prop} (h : tE G F C W me σ H Q) (k : PV → Store → Ev.R PV) (e : ∀ fr S, ev F C me fr S = (ev F C a fr S).bnd k)
    (step : ∀ m S m1 H1 S1 v x, Ext G.K H m S H1 m1 S1 → RS G H1 m1 S1 → RT G (fun a => H a = none) H1 m1 v x → PR G W σ H m S (k v S1) (Pv G H Q) → J x H1) : tE G F C W a σ H J := by
  obtain ⟨fr, S, m, rf, rs, p⟩ := h
  rw [e] at p
  exact ⟨fr, S, m, rf, rs, p.bnd.imp fun v S1 m1 H1 x1 r1 q u rt => step m S m1 H1 S1 v u x1 r1 rt q⟩
/-- two parts, then a rule on their values -/
theorem tE_bin {me a b : E} {σ : L2.St} {H : Hp} {Q : VK} {J : V → V → Hp → Prop} (h : tE G F C W me σ H Q) (k : PV → PV → Store → Ev.R PV) (e : ∀ fr S, ev F C me fr S = (ev F C a fr S).bnd fun x S => (ev F C b fr S).bnd fun y S => k x y S)
    (step : ∀ m S m1 H1 S1 v u x y, Ext G.K H m S H1 m1 S1 → RS G H1 m1 S1 → RT G (fun a => H a = none) H1 m1 v x → RT G (fun a => H a = none) H1 m1 u y → PR G W σ H m S (k v u S1) (Pv G H Q) → J x y H1) :
    tE G F C W a σ H fun x H1 => tE G F C W b σ H1 fun y H2 => J x y H2 := by
  obtain ⟨fr, S, m, rf, rs, p⟩ := h
  rw [e] at p
  refine ⟨fr, S, m, rf, rs, p.bnd.imp fun v S1 m1 H1 x1 r1 q x rt => ?_⟩
  refine tE.of rf x1 r1 ((q.bnd.shift x1).imp fun u S2 m2 H2 x2 r2 q2 y ru => ?_)
  exact step m S m2 H2 S2 v u x y (x1.trans x2) r2 (x2.rt rt) (ru.back x1.live) q2
end
end Ev

/-! Ev5: operators, comparisons. -/
namespace Ev
open PySem PySem.Spec PyProof.Rows L2

section
variable {G : Gx} {W : WX} {σ : L2.St} {H H1 : Hp} {m m1 : List Addr} {S S1 : Store} {Q : VK}
theorem fin_ok {v : PV} {x : V} (p : PR G W σ H m S (.ok v S1) (Pv G H Q)) (e : Ext G.K H m S H1 m1 S1) (r : RS G H1 m1 S1) (h : RT G (fun a => H a = none) H1 m1 v x) : Q x H1 := p m1 H1 e r x h
theorem fin_rv {v : PV} {x : V} (p : PR G W σ H m S (.ok v S1) (Pv G H Q)) (e : Ext G.K H m S H1 m1 S1) (r : RS G H1 m1 S1) (h : RV G H1 m1 v x) : Q x H1 := p m1 H1 e r x (RT.of h)
theorem fin_tup {xs : List PV} {vs : List V} (p : PR G W σ H m S (.ok (.tup false xs) S1) (Pv G H Q)) (e : Ext G.K H m S H1 m1 S1) (r : RS G H1 m1 S1) (h : RVs G H1 m1 xs vs) {a : Addr} (ha : H1 a = none) : Q (.ref a) (upd H1 a (.tup vs)) := by
  refine p m1 _ (e.trans (Ext.new ha)) (r.new ha) _ ?_
  exact RV.tup (.of (.inl (.inl upd_same))) (h.mono (tup_new ha) fun _ _ z => z)
theorem fin_new {xs : List PV} {vs : List V} (p : PR G W σ H m S (.ok (.new xs) S1) (Pv G H Q)) (e : Ext G.K H m S H1 m1 S1) (r : RS G H1 m1 S1) (h : RVs G H1 m1 xs vs) {a : Addr} (ha : H1 a = none) : Q (.ref a) (upd H1 a (.lst vs)) := by
  refine p m1 _ (e.trans (Ext.new ha)) (r.new ha) _ ?_
  refine ⟨a, vs, rfl, e.live a ha, fun z => ?_, upd_same, h.mono (tup_new ha) fun _ _ z => z⟩
  obtain ⟨o, q⟩ := r.there z
  rw [ha] at q
  cases q

/-! ### lists -/
/-- a list that may be written -/
theorem mlist_ok {Z : Addr → Prop} {v : PV} {x : V} {xs : List PV} (r : RS G H m S) (rt : RT G Z H m v x) (e : mlist S v = some xs) : ∃ a vs, x = .ref a ∧ H a = some (.lst vs) ∧ RVs G H m xs vs := by
  cases v with
  | new ys =>
    cases e
    obtain ⟨a, vs, h1, h2, h3, h4, h5⟩ := rt
    exact ⟨a, vs, h1, h4, h5⟩
  | ref k =>
    unfold mlist at e
    dsimp only at e
    cases rt with
    | ref h =>
      split at e
      · rename_i ys q
        cases e
        obtain ⟨vs, h4, h5⟩ := r.cell k _ _ h q
        exact ⟨_, vs, rfl, h4, h5⟩
      · cases e
  | _ => cases e
theorem items_ok {Z : Addr → Prop} {v : PV} {x : V} {xs : List PV} (r : RS G H m S) (rt : RT G Z H m v x) (e : items S v = some xs) : ∃ a vs, x = .ref a ∧ Rd H a (.lst vs) ∧ RVs G H m xs vs := by
  cases v with
  | new ys =>
    cases e
    obtain ⟨a, vs, h1, h2, h3, h4, h5⟩ := rt
    exact ⟨a, vs, h1, .inl h4, h5⟩
  | ref k =>
    unfold items at e
    dsimp only at e
    cases rt with
    | ref h =>
      split at e
      · rename_i ys q
        cases e
        obtain ⟨vs, h4, h5⟩ := r.cell k _ _ h q
        exact ⟨_, vs, rfl, .inl h4, h5⟩
      · rename_i ys q
        cases e
        obtain ⟨vs, h4, h5⟩ := r.cell k _ _ h q
        exact ⟨_, vs, rfl, h4, h5⟩
      · cases e
  | _ => cases e
theorem seqL_ok {Z : Addr → Prop} {v : PV} {x : V} {xs : List PV} (r : RS G H m S) (rt : RT G Z H m v x) (e : seqL S v = some xs) : ∃ a vs, x = .ref a ∧ (SqL G.K H a vs ∨ SqT G.K H a vs) ∧ RVs G H m xs vs := by
  cases v with
  | tup b ys =>
    cases e
    cases rt with
    | tup h q => exact ⟨_, _, rfl, .inr h.1, q⟩
  | new ys => obtain ⟨a, vs, h1, h2, h3⟩ := items_ok r rt e; exact ⟨a, vs, h1, .inl (.inl h2), h3⟩
  | ref k => obtain ⟨a, vs, h1, h2, h3⟩ := items_ok r rt e; exact ⟨a, vs, h1, .inl (.inl h2), h3⟩
  | _ => cases e

/-! ### small numbers -/
theorem small64_ok {i : Int} (h : small64 i = true) : -(2 ^ 64) < i ∧ i < 2 ^ 64 := by
  cases i with
  | ofNat n =>
    have : n < 18446744073709551616 := by simpa [small64] using h
    constructor <;> simp only [Int.ofNat_eq_natCast] <;> omega
  | negSucc n =>
    have : n < 18446744073709551615 := by simpa [small64] using h
    constructor <;> omega
theorem small30_ok {i : Int} (h : small30 i = true) : i.natAbs < 1073741824 := by
  cases i with
  | ofNat n => have : n < 1073741824 := by simpa [small30] using h
               simpa using this
  | negSucc n => have : n < 1073741823 := by simpa [small30] using h
                 simp only [Int.natAbs_negSucc]; omega
theorem okN_ok {n : Nat} (h : okN n = true) : n ≤ sizeLine := by
  have : n ≤ 16777216 := by simpa [okN] using h
  rw [show sizeLine = 16777216 from rfl]
  exact this
theorem iEq_ok {i j : Int} (h : iEq i j = true) : i = j := by rw [iEq_eq] at h; exact of_decide_eq_true h
theorem iEq_no {i j : Int} (h : iEq i j = false) : i ≠ j := by rw [iEq_eq] at h; exact of_decide_eq_false h
theorem iLt_ok {i j : Int} (h : iLt i j = true) : i < j := by rw [iLt_eq] at h; exact of_decide_eq_true h
theorem iLt_no {i j : Int} (h : iLt i j = false) : ¬ i < j := by rw [iLt_eq] at h; exact of_decide_eq_false h

/-! ### operators -/
def opOf : Op → Operator
  | .add => .Add | .sub => .Sub | .mul => .Mult | .fdiv => .FloorDiv | .mod => .Mod | .pow => .Pow
def rB (K : PySem.W.Frag) : Op → R2
  | .add => fun x y H Q => (rI0 (fun i j => .int (i + j)) x y H Q ∨ rCatA K x y H Q) ∨ rCat x y H Q
  | .sub => rI0 fun i j => .int (i - j)
  | .mul => fun x y H Q => rI CMul (fun i j => .int (i * j)) x y H Q ∨ rRep x y H Q
  | .fdiv => rI CDivN fun i j => .int (i.fdiv j)
  | .mod => rI (fun _ j => j ≠ 0) fun i j => .int (i.fmod j)
  | .pow => rI CPow fun i j => .int (i ^ j.toNat)
theorem opR {X : Cx} : ∀ o : Op, OpR X (binaryOp (opOf o)) (rB X.K o)
  | .add => (op_add.or op_catA).or op_cat
  | .sub => op_sub
  | .mul => op_mul.or op_rep
  | .fdiv => op_fdivN
  | .mod => op_modN
  | .pow => op_pow
theorem binop_ok {Z : Addr → Prop} {o : Op} {v u : PV} {x y : V} (e : Ext G.K H m S H1 m1 S1) (r : RS G H1 m1 S1) (rv : RT G Z H1 m1 v x) (ru : RT G Z H1 m1 u y) (p : PR G W σ H m S (R.of S1 (binop S1 o v u)) (Pv G H Q)) : rB G.K o x y H1 Q := by
  unfold binop at p
  split at p
  · rename_i i j
    cases rv; cases ru
    rw [frI_eq] at p
    exact .inl (.inl ⟨i, j, rfl, rfl, fin_rv p e r (.int _)⟩)
  · rename_i i j
    cases rv; cases ru
    rw [frI_eq] at p
    exact ⟨i, j, rfl, rfl, fin_rv p e r (.int _)⟩
  · rename_i i j
    cases rv; cases ru
    split at p
    · rename_i hs
      rw [frI_eq] at p
      refine .inl ⟨i, j, rfl, rfl, ?_, fin_rv p e r (.int _)⟩
      rcases Bool.or_eq_true_iff.mp hs with z | z
      · exact .inl (small64_ok z)
      · exact .inr (small64_ok z)
    · exact p.elim
  · rename_i i j
    cases rv; cases ru
    split at p
    · rename_i hs
      rw [frI_eq] at p
      obtain ⟨h1, h2⟩ := Bool.and_eq_true_iff.mp hs
      exact ⟨i, j, rfl, rfl, ⟨iEq_no (by simpa using h1), small30_ok h2⟩, fin_rv p e r (.int _)⟩
    · exact p.elim
  · rename_i i j
    cases rv; cases ru
    split at p
    · rename_i hs
      rw [frI_eq] at p
      exact ⟨i, j, rfl, rfl, iEq_no hs, fin_rv p e r (.int _)⟩
    · exact p.elim
  · rename_i i j
    cases rv; cases ru
    split at p
    · rename_i hs
      rw [frI_eq] at p
      obtain ⟨h12, h3⟩ := Bool.and_eq_true_iff.mp hs
      obtain ⟨h1, h2⟩ := Bool.and_eq_true_iff.mp h12
      have z1 : ¬ j < 0 := iLt_no (by simpa using h1)
      have z2 : ¬ 1000000 < j := iLt_no (by simpa using h2)
      have z3 := small64_ok h3
      exact ⟨i, j, rfl, rfl, ⟨by omega, by omega, by omega⟩, fin_rv p e r (.int _)⟩
    · exact p.elim
  · rename_i b1 xs b2 ys
    cases rv with
    | tup h1 q1 => cases ru with
      | tup h2 q2 =>
        split at p
        · rename_i hs
          rw [frL_eq] at p
          refine .inl (.inr ⟨_, _, _, _, rfl, rfl, h1.1, h2.1, by rw [q1.length, q2.length]; exact okN_ok hs, fun z => ?_, fun _ z => ?_, fun _ _ a ha => fin_tup p e r (q1.append q2) ha⟩)
          · subst z
            cases q1
            exact fin_rv p e r (.tup h2.off q2)
          · subst z
            cases q2
            rw [List.append_nil] at p
            exact fin_rv p e r (.tup h1.off q1)
        · exact p.elim
  · rename_i a b
    split at p
    · rename_i xs ys hx hy
      split at p
      · rename_i hs
        rw [frL_eq] at p
        obtain ⟨a1, v1, rfl, h1, q1⟩ := mlist_ok r rv hx
        obtain ⟨a2, v2, rfl, h2, q2⟩ := mlist_ok r ru hy
        exact .inr ⟨a1, a2, v1, v2, rfl, rfl, h1, h2, by rw [q1.length, q2.length]; exact okN_ok hs, fun q hq => fin_new p e r (q1.append q2) hq⟩
      · exact p.elim
    · exact p.elim
  · rename_i a k hn
    cases ru
    split at p
    · rename_i xs hx
      split at p
      · rename_i hs
        rw [frL_eq] at p
        obtain ⟨a1, v1, rfl, h1, q1⟩ := mlist_ok r rv hx
        obtain ⟨s1, s2⟩ := Bool.and_eq_true_iff.mp hs
        have s1 := small30_ok s1
        exact .inr ⟨a1, k, v1, rfl, rfl, h1, by omega, by omega, by rw [q1.length]; exact okN_ok s2, fun q hq => fin_new p e r (q1.flatten_rep _) hq⟩
      · exact p.elim
    · exact p.elim
  · exact p.elim

theorem s_bin {F : Fn} {C : List PV} {X : Cx} {T : Tb} {N : List Str} {sc : Scope} {n : Nat} (g : Good X G F C W T N sc n) {o : Op} {a b : E} {a' b' : Expr} {pos : Pos} (ha : SE X G F C W a a') (hb : SE X G F C W b b') : SE X G F C W (.bin o a b) (.BinOp a' (opOf o) b' pos) := by
  refine .plain (impE (pe_op (opR o) ha.pe hb.pe) fun σ H Q h => ?_) rfl
  rw [g.kk]
  exact tE_bin h _ (fun fr S => by rw [ev]) fun m S m1 H1 S1 v u x y e r rv ru p => binop_ok e r rv ru p
/-! ### == -/
theorem toD_ok {d : Nat} : ∀ {v : PV} {x : V} {D : PyData}, RS G H m S → (RV G H m v x ∨ ∃ Z : Addr → Prop, RT G Z H m v x) → toD S d v = some D → Dp G.K H x D ∧ D.canLay0 = true ∧ D.depth < d + 1 := by
  induction d with
  | zero => intro v x D _ _ h; cases h
  | succ d ih =>
    have all : ∀ {vs : List PV} {xs : List V} {Ds : List PyData}, RS G H m S → RVs G H m vs xs → mapO (toD S d) vs = some Ds → DpAll G.K H xs Ds ∧ PyData.canLayAll0 Ds = true ∧ PyData.depthAll Ds < d + 1 := by
      intro vs
      induction vs with
      | nil => intro xs Ds _ r h; cases r; cases h; exact ⟨.nil, by simp [PyData.canLayAll0], by simp [PyData.depthAll]⟩
      | cons v vs ihs =>
        intro xs Ds rs r h
        cases r with
        | cons h1 r1 =>
          unfold mapO at h
          split at h
          · rename_i D e1
            split at h
            · rename_i Ds' e2
              cases h
              obtain ⟨a1, a2, a3⟩ := ih rs (.inl h1) e1
              obtain ⟨b1, b2, b3⟩ := ihs rs r1 e2
              refine ⟨.cons a1 b1, by simp [PyData.canLayAll0, a2, b2], ?_⟩
              simp only [PyData.depthAll]
              exact Nat.max_lt.mpr ⟨a3, b3⟩
            · cases h
          · cases h
    intro v x D rs rt h
    have lists : ∀ {xs : List PV} {vs : List V} {a : Addr}, Rd H a (.lst vs) → RVs G H m xs vs → (match mapO (toD S d) xs with
        | some ds => some (PyData.list ds)
        | none => none) = some D → Dp G.K H (.ref a) D ∧ D.canLay0 = true ∧ D.depth < d + 1 + 1 := by
      intro xs vs a h1 h2 h3
      split at h3
      · rename_i ds e
        cases h3
        obtain ⟨b1, b2, b3⟩ := all rs h2 e
        exact ⟨.lst (.inl h1) b1, by simpa [PyData.canLay0] using b2, by simp only [PyData.depth]; omega⟩
      · cases h3
    unfold toD at h
    have rv : ¬ isNew v → RV G H m v x := fun n => by
      rcases rt with r | ⟨Z, r⟩
      · exact r
      · exact r.rv n
    cases v with
    | non => cases h; cases rv (fun z => z); exact ⟨.non, by simp [PyData.canLay0], by simp [PyData.depth]⟩
    | bl b => cases h; cases rv (fun z => z); exact ⟨.bl b, by simp [PyData.canLay0], by simp [PyData.depth]⟩
    | int i => cases h; cases rv (fun z => z); exact ⟨.int i, by simp [PyData.canLay0], by simp [PyData.depth]⟩
    | str s =>
      cases rv (fun z => z)
      dsimp only at h
      split at h
      · rename_i q
        cases h
        exact ⟨.str s, q, by simp [PyData.depth]⟩
      · cases h
    | tup b xs =>
      cases rv (fun z => z) with
      | tup h1 h2 =>
        dsimp only at h
        split at h
        · rename_i ds e
          cases h
          obtain ⟨b1, b2, b3⟩ := all rs h2 e
          exact ⟨.tup h1.1 b1, by simpa [PyData.canLay0] using b2, by simp only [PyData.depth]; omega⟩
        · cases h
    | fn k => cases h
    | ref k =>
      dsimp only at h
      split at h
      · rename_i xs e
        obtain ⟨a, vs, rfl, h1, h2⟩ := items_ok (Z := fun _ => True) rs (RT.of (rv fun z => z)) e
        exact lists h1 h2 h
      · cases h
    | new ys =>
      dsimp only at h
      split at h
      · rename_i xs e
        rcases rt with r | ⟨Z, r⟩
        · cases r
        · obtain ⟨a, vs, rfl, h1, h2⟩ := items_ok rs r e
          exact lists h1 h2 h
      · cases h
theorem shaped_of {D : PyData} {d : Nat} (h1 : D.canLay0 = true) (h2 : D.depth < d + 1) (h : d ≤ 64) : SeqAt.shaped D = true := by
  unfold SeqAt.shaped
  rw [h1, decide_eq_true (by omega)]
  rfl
def rQ (K : PySem.W.Frag) : R2 := fun x y H Q => rEq x y H Q ∨ rEqD K x y H Q
def rQn (K : PySem.W.Frag) : R2 := fun x y H Q => rNe x y H Q ∨ rNeD K x y H Q
theorem pyEq_ok {Z Z' : Addr → Prop} {v u : PV} {x y : V} {c : Bool} (r : RS G H1 m1 S1) (rv : RT G Z H1 m1 v x) (ru : RT G Z' H1 m1 u y) (e : pyEq S1 v u = some c) {Q : VK} (hq : Q (.bl c) H1) : rQ G.K x y H1 Q := by
  unfold pyEq at e
  split at e
  · rename_i i j
    cases rv; cases ru; cases e
    refine .inl ⟨rfl, ?_⟩
    rw [dec_int, Bool.beq_eq_decide_eq, ← iEq_eq]
    exact hq
  · rename_i i j
    cases rv; cases ru; cases e
    refine .inl ⟨rfl, ?_⟩
    rw [dec_bl]
    exact hq
  · cases rv; cases ru; cases e
    exact .inl ⟨rfl, hq⟩
  · cases rv; cases ru; cases e
    exact .inl ⟨rfl, hq⟩
  · cases rv; cases ru; cases e
    exact .inl ⟨rfl, hq⟩
  · rename_i i j
    cases rv; cases ru; cases e
    refine .inl ⟨rfl, ?_⟩
    rw [show (decide (V.str i = V.str j)) = decide (i = j) by simp]
    exact hq
  · split at e
    · rename_i d1 d2 e1 e2
      cases e
      obtain ⟨a1, a2, a3⟩ := toD_ok r (.inr ⟨Z, rv⟩) e1
      obtain ⟨b1, b2, b3⟩ := toD_ok r (.inr ⟨Z', ru⟩) e2
      exact .inr ⟨_, _, a1, b1, shaped_of a2 a3 (by decide), shaped_of b2 b3 (by decide), hq⟩
    · cases e
theorem pyNe_ok {Z Z' : Addr → Prop} {v u : PV} {x y : V} {c : Bool} (r : RS G H1 m1 S1) (rv : RT G Z H1 m1 v x) (ru : RT G Z' H1 m1 u y) (e : pyEq S1 v u = some c) {Q : VK} (hq : Q (.bl (!c)) H1) : rQn G.K x y H1 Q := by
  have h := pyEq_ok (Q := fun w H => w = .bl c ∧ H = H1) r rv ru e ⟨rfl, rfl⟩
  rcases h with ⟨h1, h2, _⟩ | ⟨d, f, a, b, s1, s2, h2, _⟩
  · refine .inl ⟨h1, ?_⟩
    injection h2 with h2
    rw [h2]
    exact hq
  · refine .inr ⟨d, f, a, b, s1, s2, ?_⟩
    injection h2 with h2
    rw [h2]
    exact hq
end
end Ev

/-! Ev6: in, comparisons, and, or, not. -/
namespace Ev
open PySem PySem.Spec PyProof.Rows L2

/-! ### in -/
def rInT (K : PySem.W.Frag) (neg : Bool) : R2 := fun x y H Q => ∃ d ds, Dp K H x d ∧ Dp K H y (.tuple ds) ∧ SeqAt.shaped d = true ∧ SeqAt.shaped (.tuple ds) = true ∧ Q (.bl (if neg then !ds.any fun z => PyData.eqv z d else ds.any fun z => PyData.eqv z d)) H
theorem op_inT {X : Cx} (hu : X.A.units + 65 < cLine) : OpR X (compareOp .In) (rInT X.K false) := by
  intro pins s σ H x y v u Q I rx ry h
  obtain ⟨d, ds, hd, he, sd, se, q⟩ := h
  obtain ⟨as, r1⟩ := Dp.reads I d x v hd rx
  obtain ⟨bs, r2⟩ := Dp.reads I (.tuple ds) y u he ry
  exact SeqAt.in_tuple_reads r2 r1 (SeqAt.canLay_of_shaped se) (SeqAt.canLay_of_shaped sd) (room_in_shaped sd hu) ⟨.bl _, H, I, rfl, q⟩
theorem op_notInT {X : Cx} (hu : X.A.units + 65 < cLine) : OpR X (compareOp .NotIn) (rInT X.K true) := by
  intro pins s σ H x y v u Q I rx ry h
  obtain ⟨d, ds, hd, he, sd, se, q⟩ := h
  obtain ⟨as, r1⟩ := Dp.reads I d x v hd rx
  obtain ⟨bs, r2⟩ := Dp.reads I (.tuple ds) y u he ry
  exact SeqAt.notIn_tuple_reads r2 r1 (SeqAt.canLay_of_shaped se) (SeqAt.canLay_of_shaped sd) (room_in_shaped sd hu) ⟨.bl _, H, I, rfl, q⟩
def rIns (K : PySem.W.Frag) (neg : Bool) : R2 := fun x y H Q => (rIn K neg x y H Q ∨ (if neg then rNotInD K x y H Q else rInD K x y H Q)) ∨ rInT K neg x y H Q
theorem op_ins {X : Cx} (hu : X.A.units + 65 < cLine) : OpR X (compareOp .In) (rIns X.K false) := (op_in_seq.or (op_inD hu)).or (op_inT hu)
theorem op_notins {X : Cx} (hu : X.A.units + 65 < cLine) : OpR X (compareOp .NotIn) (rIns X.K true) := (op_notIn_seq.or (op_notInD hu)).or (op_notInT hu)
section
variable {G : Gx} {W : WX} {σ : L2.St} {H H1 : Hp} {m m1 : List Addr} {S S1 : Store}
theorem inI_ok {i : Int} : ∀ {xs : List PV} {vs : List V} {b : Bool}, RVs G H m xs vs → inI i xs = some b → inV (.int i) vs = b ∧ vs.all flatV = true
  | _, _, _, .nil, h => by cases h; exact ⟨rfl, rfl⟩
  | _, _, b, .cons h r, e => by
    cases h with
    | int j =>
      unfold inI at e
      split at e
      · rename_i c q
        cases e
        obtain ⟨h1, h2⟩ := inI_ok r q
        refine ⟨?_, ?_⟩
        · show (eqV (.int j) (.int i) || inV (.int i) _) = _
          rw [h1, iEq_eq]
          show ((j == i) || c) = _
          rw [Bool.beq_eq_decide_eq]
        · rw [List.all_cons, h2]; rfl
      · cases e
    | _ => cases e
theorem inG_ok {Z : Addr → Prop} {v : PV} {xs : List PV} {x y : V} {vs : List V} {a : Addr} {b : Bool} (neg : Bool) (r : RS G H m S) (rv : RT G Z H m v x) (hy : y = .ref a) (hq : Rd H a (.lst vs) ∨ SqT G.K H a vs) (rx : RVs G H m xs vs) (e : inG S v xs = some b) {Q : VK}
    (q : Q (.bl (if neg then !b else b)) H) : rIns G.K neg x y H Q := by
  unfold inG at e
  split at e
  · rename_i d ds e1 e2
    cases e
    obtain ⟨a1, a2, a3⟩ := toD_ok r (.inr ⟨Z, rv⟩) e1
    have all : ∀ {xs : List PV} {vs : List V} {ds : List PyData}, RVs G H m xs vs → mapO (toD S 58) xs = some ds → DpAll G.K H vs ds ∧ PyData.canLayAll0 ds = true ∧ PyData.depthAll ds < 59 := by
      intro xs
      induction xs with
      | nil => intro vs ds r h; cases r; cases h; exact ⟨.nil, by simp [PyData.canLayAll0], by simp [PyData.depthAll]⟩
      | cons v vs ihs =>
        intro xs Ds r1 h
        cases r1 with
        | cons h1 r1 =>
          unfold mapO at h
          split at h
          · rename_i D e1
            split at h
            · rename_i Ds' e2
              cases h
              obtain ⟨a1, a2, a3⟩ := toD_ok r (.inl h1) e1
              obtain ⟨b1, b2, b3⟩ := ihs r1 e2
              refine ⟨.cons a1 b1, by simp [PyData.canLayAll0, a2, b2], ?_⟩
              simp only [PyData.depthAll]
              exact Nat.max_lt.mpr ⟨a3, b3⟩
            · cases h
          · cases h
    obtain ⟨b1, b2, b3⟩ := all rx e2
    subst hy
    rcases hq with hq | hq
    · refine .inl (.inr ?_)
      have s2 : SeqAt.shaped (.list ds) = true := shaped_of (d := 60) (by simpa [PyData.canLay0] using b2) (by simp only [PyData.depth]; omega) (by decide)
      cases neg
      · exact ⟨d, ds, a1, .lst (.inl hq) b1, shaped_of a2 a3 (by decide), s2, q⟩
      · exact ⟨d, ds, a1, .lst (.inl hq) b1, shaped_of a2 a3 (by decide), s2, q⟩
    · exact .inr ⟨d, ds, a1, .tup hq b1, shaped_of a2 a3 (by decide), shaped_of (d := 60) (by simpa [PyData.canLay0] using b2) (by simp only [PyData.depth]; omega) (by decide), q⟩
  · cases e
theorem seqR_ok {Z : Addr → Prop} {v : PV} {x : V} {xs : List PV} (r : RS G H m S) (rt : RT G Z H m v x) (e : seqL S v = some xs) : ∃ a vs, x = .ref a ∧ (Rd H a (.lst vs) ∨ SqT G.K H a vs) ∧ RVs G H m xs vs := by
  cases v with
  | tup b ys =>
    cases e
    cases rt with
    | tup h q => exact ⟨_, _, rfl, .inr h.1, q⟩
  | new ys => obtain ⟨a, vs, h1, h2, h3⟩ := items_ok r rt e; exact ⟨a, vs, h1, .inl h2, h3⟩
  | ref k => obtain ⟨a, vs, h1, h2, h3⟩ := items_ok r rt e; exact ⟨a, vs, h1, .inl h2, h3⟩
  | _ => cases e
theorem pyIn_ok {Z Z' : Addr → Prop} {v u : PV} {x y : V} {b : Bool} (neg : Bool) (r : RS G H m S) (rv : RT G Z H m v x) (ru : RT G Z' H m u y) (e : pyIn S v u = some b) {Q : VK} (q : Q (.bl (if neg then !b else b)) H) : rIns G.K neg x y H Q := by
  unfold pyIn at e
  split at e
  · rename_i xs hs
    obtain ⟨a, vs, hy, hq, rx⟩ := seqR_ok r ru hs
    unfold inP at e
    split at e
    · rename_i i
      split at e
      · rename_i c hc
        cases e
        cases rv
        obtain ⟨h1, h2⟩ := inI_ok rx hc
        refine .inl (.inl ⟨a, vs, hy, ?_, rfl, h2, ?_⟩)
        · rcases hq with hq | hq
          · exact .inl (.inl hq)
          · exact .inr hq
        · rw [h1]; exact q
      · exact inG_ok neg r rv hy hq rx e q
    · exact inG_ok neg r rv hy hq rx e q
  · cases e

/-! ### comparisons -/
def coOf : Co → CmpOp
  | .lt => .Lt | .le => .LtE | .gt => .Gt | .ge => .GtE | .eq => .Eq | .ne => .NotEq | .is => .Is | .isnot => .IsNot | .in_ => .In | .notin => .NotIn
def rC (K : PySem.W.Frag) : Co → R2
  | .lt => rI0 fun i j => .bl (decide (i < j))
  | .le => rI0 fun i j => .bl (decide (i ≤ j))
  | .gt => rI0 fun i j => .bl (decide (j < i))
  | .ge => rI0 fun i j => .bl (decide (j ≤ i))
  | .eq => rQ K
  | .ne => rQn K
  | .is => fun x y H Q => y = .non ∧ Q (.bl (decide (x = .non))) H
  | .isnot => fun x y H Q => y = .non ∧ Q (.bl (!decide (x = .non))) H
  | .in_ => rIns K false
  | .notin => rIns K true
theorem opC {X : Cx} {n : Nat} (hr : Room n X.A) : ∀ o : Co, OpR X (compareOp (coOf o)) (rC X.K o)
  | .lt => op_lt
  | .le => op_le
  | .gt => op_gt
  | .ge => op_ge
  | .eq => op_eq.or (op_eqD hr.units)
  | .ne => op_ne.or (op_neD hr.units)
  | .is => op_isN
  | .isnot => op_notN
  | .in_ => op_ins (by have := hr.un; omega)
  | .notin => op_notins (by have := hr.un; omega)
theorem isNon_ok {Z : Addr → Prop} {v : PV} {x : V} (rv : RT G Z H m v x) : decide (x = V.non) = isNon v := by
  cases v with
  | new xs => obtain ⟨a, vs, rfl, _⟩ := rv; rfl
  | _ => cases rv <;> rfl
theorem cmp_ok {Z Z' : Addr → Prop} {o : Co} {v u : PV} {x y : V} {c : Bool} (r : RS G H m S) (rv : RT G Z H m v x) (ru : RT G Z' H m u y) (e : cmp S o v u = some c) {Q : VK} (q : Q (.bl c) H) : rC G.K o x y H Q := by
  unfold cmp at e
  split at e
  · rename_i i j
    cases rv; cases ru; cases e
    rw [iLt_eq] at q
    exact ⟨i, j, rfl, rfl, q⟩
  · rename_i i j
    cases rv; cases ru; cases e
    refine ⟨i, j, rfl, rfl, ?_⟩
    dsimp only
    rw [show decide (i ≤ j) = !decide (j < i) by rw [← decide_not]; exact decide_eq_decide.mpr (by omega), ← iLt_eq]
    exact q
  · rename_i i j
    cases rv; cases ru; cases e
    rw [iLt_eq] at q
    exact ⟨i, j, rfl, rfl, q⟩
  · rename_i i j
    cases rv; cases ru; cases e
    refine ⟨i, j, rfl, rfl, ?_⟩
    dsimp only
    rw [show decide (j ≤ i) = !decide (i < j) by rw [← decide_not]; exact decide_eq_decide.mpr (by omega), ← iLt_eq]
    exact q
  · exact pyEq_ok r rv ru e q
  · split at e
    · rename_i d hd
      cases e
      exact pyNe_ok r rv ru hd q
    · cases e
  · cases e
    cases ru
    exact ⟨rfl, by rw [isNon_ok rv]; exact q⟩
  · cases e
    cases ru
    exact ⟨rfl, by rw [isNon_ok rv]; exact q⟩
  · exact pyIn_ok false r rv ru e q
  · split at e
    · rename_i d hd
      cases e
      exact pyIn_ok true r rv ru hd q
    · cases e
  · cases e
end
def noSet : Expr → Bool
  | .Set .. => false
  | _ => true
theorem noSet_ok {b : Expr} (h : noSet b = true) (op : CmpOp) : behindInMarks op b = false := by
  cases b <;> first | rfl | cases h
section
variable {G : Gx} {F : Fn} {C : List PV} {W : WX} {X : Cx} {T : Tb} {N : List Str} {sc : Scope} {n : Nat}
/-- a test of a comparison, by its value -/
theorem s_cmp (g : Good X G F C W T N sc n) {o : Co} {a b : E} {a' b' : Expr} {pos : Pos} (ha : SE X G F C W a a') (hb : SE X G F C W b b') (hn : noSet b' = true) : SE X G F C W (.cmp o a b) (.Compare a' [coOf o] [b'] pos) := by
  have key : ∀ {σ : L2.St} {H : Hp} {Q : VK}, tE G F C W (.cmp o a b) σ H Q → tOp (rC X.K o) (tE G F C W a) (tE G F C W b) σ H Q := fun {σ H Q} h => by
    rw [g.kk]
    refine tE_bin h _ (fun fr S => by rw [ev]) fun m S m1 H1 S1 v u x y e r rv ru p => ?_
    split at p
    · rename_i c hc
      rw [frB_eq] at p
      exact cmp_ok r rv ru hc (fin_rv p e r (.bl c))
    · exact p.elim
  refine ⟨impE (pe_cmpR (opC g.room o) ha.pe hb.pe (noSet_ok hn _)) fun σ H Q h => key h, fun _ _ => impT (pt_cmpR (opC g.room o) ha.pe hb.pe (noSet_ok hn _)) fun σ H Q h => key h.val⟩
theorem s_chn (g : Good X G F C W T N sc n) {o p : Co} {a b c : E} {a' b' c' : Expr} {pos : Pos} (ha : SE X G F C W a a') (hb : SE X G F C W b b') (hc : SE X G F C W c c') (hn : noSet c' = true) : SE X G F C W (.chn o p a b c) (.Compare a' [coOf o, coOf p] [b', c'] pos) := by
  have hm : lastMarks [coOf o, coOf p] [b', c'] = false := noSet_ok hn _
  have key : ∀ {σ : L2.St} {H : Hp} {Q : VK}, tE G F C W (.chn o p a b c) σ H Q → tChain (rC X.K o) (rC X.K p) (tE G F C W a) (tE G F C W b) (tE G F C W c) σ H Q := fun {σ H Q} h => by
    rw [g.kk]
    obtain ⟨fr, S, m, rf, rs, q⟩ := h
    rw [ev] at q
    refine ⟨fr, S, m, rf, rs, q.bnd.imp fun v S1 m1 H1 x1 r1 q x rv => ?_⟩
    refine tE.of rf x1 r1 ((q.bnd.shift x1).imp fun u S2 m2 H2 x2 r2 q y ru => ?_)
    have e2 := x1.trans x2
    split at q
    · rename_i hc
      refine cmp_ok r2 (x2.rt rv) ru hc ⟨true, rfl, ?_⟩
      rw [if_pos rfl]
      refine tE.of rf e2 r2 ((q.bnd.shift e2).imp fun w S3 m3 H3 x3 r3 q z rw' => ?_)
      split at q
      · rename_i d hd
        rw [frB_eq] at q
        exact cmp_ok r3 (x3.rt ru) rw' hd (fin_rv q (e2.trans x3) r3 (.bl d))
      · exact q.elim
    · rename_i hc
      refine cmp_ok r2 (x2.rt rv) ru hc ⟨false, rfl, ?_⟩
      rw [if_neg (by decide)]
      exact fin_rv q e2 r2 (.bl false)
    · exact q.elim
  refine ⟨impE (pe_chain (opC g.room o) (opC g.room p) ha.pe hb.pe hc.pe hm) fun σ H Q h => key h, fun _ _ => impT (pt_chain (opC g.room o) (opC g.room p) ha.pe hb.pe hc.pe hm) fun σ H Q h => key h.val⟩

/-! ### not, and, or, if -/
theorem pick_ok {σ : L2.St} {H : Hp} {m : List Addr} {S : Store} {α : Type} {v : PV} {r1 r2 : Unit → Ev.R α} {P : α → Store → List Addr → Hp → Prop} (h : PR G W σ H m S (pickIf v r1 r2) P) : (v = .bl true ∧ PR G W σ H m S (r1 ()) P) ∨ (v = .bl false ∧ PR G W σ H m S (r2 ()) P) := by
  unfold pickIf at h
  split at h
  · exact .inl ⟨rfl, h⟩
  · exact .inr ⟨rfl, h⟩
  · exact h.elim
theorem tT.start {e : E} {me : E} {σ : L2.St} {H : Hp} {P : PV → Store → List Addr → Hp → Prop} {J : Bool → Hp → Prop} {k : PV → Store → Ev.R PV} (h : ∃ fr S m, RF G H m fr σ ∧ RS G H m S ∧ PR G W σ H m S (ev F C me fr S) P) (e1 : ∀ fr S, ev F C me fr S = (ev F C e fr S).bnd k)
    (step : ∀ fr m S m1 H1 S1 v, RF G H m fr σ → Ext G.K H m S H1 m1 S1 → RS G H1 m1 S1 → PR G W σ H m S (k v S1) P → ∃ b, v = .bl b ∧ J b H1) : tT G F C W e σ H J := by
  obtain ⟨fr, S, m, rf, rs, p⟩ := h
  rw [e1] at p
  exact ⟨fr, S, m, rf, rs, p.bnd.imp fun v S1 m1 H1 x1 r1 q => step fr m S m1 H1 S1 v rf x1 r1 q⟩
theorem s_not {a : E} {a' : Expr} {pos : Pos} (ha : SE X G F C W a a') (t : tstB a' = true) : SE X G F C W (.not a) (.UnaryOp .Not a' pos) := by
  refine ⟨impE (pe_not ha.pe) fun σ H Q h => ?_, fun _ _ => impT (pt_not (ha.test t)) fun σ H Q h => ?_⟩
  · refine tE_un h _ (fun fr S => by rw [ev]) fun m S m1 H1 S1 v x e r rv p => ?_
    rcases pick_ok p with ⟨rfl, p⟩ | ⟨rfl, p⟩ <;> cases rv
    · exact ⟨true, rfl, fin_rv p e r (.bl _)⟩
    · exact ⟨false, rfl, fin_rv p e r (.bl _)⟩
  · obtain ⟨fr, S, m, rf, rs, p⟩ := h
    rw [ev] at p
    refine ⟨fr, S, m, rf, rs, p.bnd.imp fun v S1 m1 H1 x1 r1 q => ?_⟩
    rcases pick_ok q with ⟨rfl, p⟩ | ⟨rfl, p⟩
    · obtain ⟨b, e, h⟩ := p m1 H1 x1 r1
      cases e
      exact ⟨true, rfl, h⟩
    · obtain ⟨b, e, h⟩ := p m1 H1 x1 r1
      cases e
      exact ⟨false, rfl, h⟩
theorem s_ife {c a b : E} {c' a' b' : Expr} {pos : Pos} (hc : SE X G F C W c c') (t : tstB c' = true) (ha : SE X G F C W a a') (hb : SE X G F C W b b') : SE X G F C W (.ife c a b) (.IfExp c' a' b' pos) := by
  refine ⟨impE (pe_ifExp (hc.test t) ha.pe hb.pe) fun σ H Q h => ?_, fun _ z => by cases z⟩
  obtain ⟨fr, S, m, rf, rs, p⟩ := h
  rw [ev] at p
  refine ⟨fr, S, m, rf, rs, p.bnd.imp fun v S1 m1 H1 x1 r1 q => ?_⟩
  rcases pick_ok q with ⟨rfl, p⟩ | ⟨rfl, p⟩
  · refine ⟨true, rfl, ?_⟩
    dsimp only
    rw [if_pos rfl]
    exact tE.of rf x1 r1 ((p.shift x1).imp fun v S2 m2 H2 x2 r2 h u ru => h u (ru.back x1.live))
  · refine ⟨false, rfl, ?_⟩
    dsimp only
    rw [if_neg (by decide)]
    exact tE.of rf x1 r1 ((p.shift x1).imp fun v S2 m2 H2 x2 r2 h u ru => h u (ru.back x1.live))

/-- and, or: a tail of operands, well read as a value and as a test -/
structure SB (X : Cx) (G : Gx) (F : Fn) (C : List PV) (W : WX) (me : E) (e : Expr) : Prop where
  pe : PE X e (tE G F C W me)
  pw : PW X e (tT G F C W me)
theorem SB.se {me : E} {op : BoolOp} {l : List Expr} {pos : Pos} (h : SB X G F C W me (.BoolOp op l pos)) : SE X G F C W me (.BoolOp op l pos) := ⟨h.pe, fun _ _ => h.pw.pt⟩
theorem s_and1 {a : E} {a' : Expr} {pos : Pos} (ha : SE X G F C W a a') (t : tstB a' = true) : SB X G F C W a (.BoolOp .And [a'] pos) := ⟨pe_one ha.pe, pw_and1 (ha.test t)⟩
theorem s_or1 {a : E} {a' : Expr} {pos : Pos} (ha : SE X G F C W a a') (t : tstB a' = true) : SB X G F C W a (.BoolOp .Or [a'] pos) := ⟨pe_one ha.pe, pw_or1 (ha.test t)⟩
theorem s_and {a b : E} {a' b' : Expr} {l : List Expr} {pos : Pos} (ha : SE X G F C W a a') (t : tstB a' = true) (hb : SB X G F C W b (.BoolOp .And (b' :: l) pos)) : SB X G F C W (.and a b) (.BoolOp .And (a' :: b' :: l) pos) := by
  refine ⟨impE (pe_and ha.pe hb.pe) fun σ H Q h => ?_, impW (pw_and (ha.test t) hb.pw) fun σ H Q h => ?_⟩
  · obtain ⟨fr, S, m, rf, rs, p⟩ := h
    rw [ev] at p
    refine ⟨fr, S, m, rf, rs, p.bnd.imp fun v S1 m1 H1 x1 r1 q x rv => ?_⟩
    rcases pick_ok q with ⟨rfl, p⟩ | ⟨rfl, p⟩ <;> cases rv
    · refine ⟨true, rfl, ?_⟩
      rw [if_pos rfl]
      exact tE.of rf x1 r1 ((p.shift x1).imp fun v S2 m2 H2 x2 r2 h u ru => h u (ru.back x1.live))
    · refine ⟨false, rfl, ?_⟩
      rw [if_neg (by decide)]
      exact fin_rv p x1 r1 (.bl _)
  · obtain ⟨fr, S, m, rf, rs, p⟩ := h
    rw [ev] at p
    refine ⟨fr, S, m, rf, rs, p.bnd.imp fun v S1 m1 H1 x1 r1 q => ?_⟩
    rcases pick_ok q with ⟨rfl, p⟩ | ⟨rfl, p⟩
    · refine ⟨true, rfl, ?_⟩
      dsimp only
      rw [if_pos rfl]
      exact tT.of rf x1 r1 (p.shift x1)
    · refine ⟨false, rfl, ?_⟩
      dsimp only
      rw [if_neg (by decide)]
      obtain ⟨b, e, h⟩ := p m1 H1 x1 r1
      cases e
      exact h
theorem s_or {a b : E} {a' b' : Expr} {l : List Expr} {pos : Pos} (ha : SE X G F C W a a') (t : tstB a' = true) (hb : SB X G F C W b (.BoolOp .Or (b' :: l) pos)) : SB X G F C W (.or a b) (.BoolOp .Or (a' :: b' :: l) pos) := by
  refine ⟨impE (pe_or ha.pe hb.pe) fun σ H Q h => ?_, impW (pw_or (ha.test t) hb.pw) fun σ H Q h => ?_⟩
  · obtain ⟨fr, S, m, rf, rs, p⟩ := h
    rw [ev] at p
    refine ⟨fr, S, m, rf, rs, p.bnd.imp fun v S1 m1 H1 x1 r1 q x rv => ?_⟩
    rcases pick_ok q with ⟨rfl, p⟩ | ⟨rfl, p⟩ <;> cases rv
    · refine ⟨true, rfl, ?_⟩
      rw [if_pos rfl]
      exact fin_rv p x1 r1 (.bl _)
    · refine ⟨false, rfl, ?_⟩
      rw [if_neg (by decide)]
      exact tE.of rf x1 r1 ((p.shift x1).imp fun v S2 m2 H2 x2 r2 h u ru => h u (ru.back x1.live))
  · obtain ⟨fr, S, m, rf, rs, p⟩ := h
    rw [ev] at p
    refine ⟨fr, S, m, rf, rs, p.bnd.imp fun v S1 m1 H1 x1 r1 q => ?_⟩
    rcases pick_ok q with ⟨rfl, p⟩ | ⟨rfl, p⟩
    · refine ⟨true, rfl, ?_⟩
      dsimp only
      rw [if_pos rfl]
      obtain ⟨b, e, h⟩ := p m1 H1 x1 r1
      cases e
      exact h
    · refine ⟨false, rfl, ?_⟩
      dsimp only
      rw [if_neg (by decide)]
      exact tT.of rf x1 r1 (p.shift x1)
end
end Ev

/-! Ev7: arguments, displays, calls. -/
namespace Ev
open PySem PySem.Spec PyProof.Rows L2

def noStar : Expr → Bool
  | .Starred .. => false
  | _ => true
theorem noStar_ok {e : Expr} {es : List Expr} {env : Env} (h : noStar e = true) : starEach (e :: es) env = (false, eval e env) :: starEach es env := by
  cases e <;> first | rfl | cases h
def noStars : List Expr → Bool
  | [] => true
  | e :: r => noStar e && noStars r
theorem noStars_ok {env : Env} {pos : Pos} : ∀ {es : List Expr}, noStars es = true → (backTo pos (starEach es env)).any (·.1) = false
  | [], _ => rfl
  | e :: r, h => by
    obtain ⟨h1, h2⟩ := Bool.and_eq_true_iff.mp h
    rw [noStar_ok h1]
    show (false || (backTo pos (starEach r env)).any (·.1)) = false
    rw [noStars_ok h2]
    rfl
section
variable {G : Gx} {F : Fn} {C : List PV} {W : WX} {X : Cx} {T : Tb} {N : List Str} {sc : Scope} {n : Nat}
/-- an argument list, well read -/
abbrev SA (X : Cx) (G : Gx) (F : Fn) (C : List PV) (W : WX) (es : Es) (l : List Expr) : Prop := PA X l (tA G F C W es)
theorem a_nil : SA X G F C W .nil [] := impA pa_nil fun σ H Q h => by
  obtain ⟨fr, S, m, rf, rs, p⟩ := h
  rw [evs] at p
  exact p m H .refl rs [] .nil
theorem a_cons {a : E} {a' : Expr} {r : Es} {l : List Expr} (ha : SE X G F C W a a') (hr : SA X G F C W r l) (hn : noStar a' = true) : SA X G F C W (.cons a r) (a' :: l) := impA (pa_cons ha.pe hr (noStar_ok hn)) fun σ H Q h => by
  obtain ⟨fr, S, m, rf, rs, p⟩ := h
  rw [evs] at p
  refine ⟨fr, S, m, rf, rs, p.bnd.imp fun v S1 m1 H1 x1 r1 q x rv => ?_⟩
  refine tA.of rf x1 r1 ((q.bnd.shift x1).imp fun vs S2 m2 H2 x2 r2 q xs rvs => ?_)
  refine q m2 H2 (x1.trans x2) r2 (x :: xs) (.cons (x2.rt rv) (rvs.back fun a ha => ⟨x1.live a ha, fun hn e => ?_⟩))
  subst e
  cases v with
  | new ys =>
    obtain ⟨b, ws, e, _, _, h4, _⟩ := rv
    cases e
    rw [ha] at h4
    cases h4
  | _ => exact hn
theorem a_star {a : E} {a' : Expr} {p : Pos} {r : Es} {l : List Expr} (ha : SE X G F C W a a') (hk : X.K = G.K) (hr : SA X G F C W r l) : SA X G F C W (.star a r) (.Starred a' p :: l) := impA (StX.pa_star ha.pe hr) fun σ H Q h => by
  obtain ⟨fr, S, m, rf, rs, p⟩ := h
  rw [evs] at p
  refine ⟨fr, S, m, rf, rs, p.bnd.imp fun v S1 m1 H1 x1 r1 q x rv => ?_⟩
  split at q
  · rename_i xs hx
    obtain ⟨b, ws, e, h1, h2⟩ := seqL_ok r1 rv hx
    refine ⟨b, ws, e, ?_, ?_⟩
    · rw [hk]; exact h1.symm
    refine tA.of rf x1 r1 ((q.bnd.shift x1).imp fun vs S2 m2 H2 x2 r2 q us rvs => ?_)
    refine q m2 H2 (x1.trans x2) r2 (ws ++ us) ?_
    have front : ∀ {xs : List PV} {ws : List V} {Z : Addr → Prop}, RVs G H2 m2 xs ws → RTs G H2 m2 Z vs us → RTs G H2 m2 Z (xs ++ vs) (ws ++ us) := by
      intro xs
      induction xs with
      | nil => intro ws Z h1 h2; cases h1; exact h2
      | cons c r ih => intro ws Z h1 h2; cases h1 with
        | cons h r1 =>
          refine .cons (RT.of h) (ih r1 (h2.back fun a ha => ⟨ha, fun hn => ?_⟩))
          cases h <;> exact hn.elim
    exact front (x2.rvs h2) (rvs.back x1.live)
  · exact q.elim

/-! ### displays -/
theorem Ext.mats {H H0 : Hp} {m m0 : List Addr} {S S0 : Store} {vs : List PV} {xs : List V} (x : Ext G.K H0 m0 S0 H m S) (r : RS G H m S) (rt : RTs G H m (fun a => H0 a = none) vs xs) :
    ∃ m', Ext G.K H0 m0 S0 H m' (mats vs S).2 ∧ RS G H m' (mats vs S).2 ∧ RVs G H m' (mats vs S).1 xs := by
  obtain ⟨r', T, h1, h2, h3, h4⟩ := mats_ok r rt
  refine ⟨m ++ r', ?_, h3, h4⟩
  rw [h1]
  exact x.grow h2
theorem Ext.mat {H H0 : Hp} {m m0 : List Addr} {S S0 : Store} {v : PV} {x : V} (e : Ext G.K H0 m0 S0 H m S) (r : RS G H m S) (rt : RT G (fun a => H0 a = none) H m v x) :
    ∃ m', Ext G.K H0 m0 S0 H m' (mat v S).2 ∧ RS G H m' (mat v S).2 ∧ RV G H m' (mat v S).1 x := by
  obtain ⟨r', T, h1, h2, h3, h4⟩ := mat_ok r rt
  refine ⟨m ++ r', ?_, h3, h4⟩
  rw [h1]
  exact e.grow fun p hp => (h2 p hp).1
theorem mats_len : ∀ (vs : List PV) (S : Store), (mats vs S).1.length = vs.length
  | [], _ => rfl
  | v :: r, S => by
    show ((mat v S).1 :: (mats r (mat v S).2).1).length = _
    rw [List.length_cons, List.length_cons, mats_len r]
theorem s_tup {es : Es} {l : List Expr} {k : Nat} {pos : Pos} (h : SA X G F C W es l) : SE X G F C W (.tup es) (.Tuple l k pos) := .plain (impE (pe_tup h) fun σ H Q h => by
  obtain ⟨fr, S, m, rf, rs, p⟩ := h
  rw [ev] at p
  refine ⟨fr, S, m, rf, rs, p.bnd.imp fun vs S1 m1 H1 x1 r1 q xs rvs => ?_⟩
  obtain ⟨m2, x2, r2, v2⟩ := x1.mats r1 rvs
  dsimp only at q
  split at q
  · rename_i hs
    exact ⟨by rw [v2.length]; exact okN_ok hs, fun a ha => fin_tup q x2 r2 v2 ha⟩
  · exact q.elim) rfl
/-- a tuple whose object is known -/
def tTupF (t : TA) : TE := fun σ H Q => t σ H fun xs H1 => xs.length ≤ sizeLine ∧ ∀ p o, H1 p = none → o.dict = none → o.cls = .type "tuple" → Q (.ref p) (upd H1 p (.frz o (.tup xs)))
theorem pe_tupF {X : Cx} {t : TA} {l : List Expr} {k : Nat} {pos : Pos} (h : PA X l t) : PE X (.Tuple l k pos) (tTupF t) :=
  ⟨fun pins s σ H Q I hq => wpAny_Tuple_spliced (thn (h.run pos pins s σ H _ I hq) fun us s1 ⟨xs, H1, I1, r, z, q⟩ => ⟨by rw [← r.length]; exact z, by
    have at_ := Heap.get?_push_size s1.heap (o := { cls := .type "tuple", data := .seq us.toArray }) rfl
    have hf := I1.hok.fresh (Nat.le_refl s1.heap.objs.size)
    refine ⟨.ref s1.heap.objs.size, _, I1.laid (t' := s1.toks) (o := .frz { cls := .type "tuple", data := .seq us.toArray } (.tup xs)) (fun b u e => Heap.get?_push_of_some _ e) (Nat.le_refl _) ?_, rfl, q _ _ hf rfl rfl⟩
    exact ⟨at_, z, us, r, ⟨_, at_, rfl, _, rfl⟩⟩⟩)⟩
theorem fin_tupF {W : WX} {σ : L2.St} {H H1 : Hp} {m m1 : List Addr} {S S1 : Store} {Q : VK} {xs : List PV} {vs : List V} (p : PR G W σ H m S (.ok (.tup true xs) S1) (Pv G H Q)) (e : Ext G.K H m S H1 m1 S1) (r : RS G H1 m1 S1) (h : RVs G H1 m1 xs vs) {a : Addr} {o : Obj} (ha : H1 a = none)
    (hd : o.dict = none) (hc : o.cls = .type "tuple") : Q (.ref a) (upd H1 a (.frz o (.tup vs))) := by
  refine p m1 _ (e.trans (Ext.new ha)) (r.new ha) _ (RV.tup ⟨.inl (.inr ⟨o, upd_same⟩), fun _ => ⟨o, vs, upd_same, hd, hc⟩⟩ (h.mono (tup_new ha) fun _ _ z => z))
theorem s_tupF {es : Es} {l : List Expr} {k : Nat} {pos : Pos} (h : SA X G F C W es l) : SE X G F C W (.tupF es) (.Tuple l k pos) := .plain (impE (pe_tupF h) fun σ H Q h => by
  obtain ⟨fr, S, m, rf, rs, p⟩ := h
  rw [ev] at p
  refine ⟨fr, S, m, rf, rs, p.bnd.imp fun vs S1 m1 H1 x1 r1 q xs rvs => ?_⟩
  obtain ⟨m2, x2, r2, v2⟩ := x1.mats r1 rvs
  dsimp only at q
  split at q
  · rename_i hs
    exact ⟨by rw [v2.length]; exact okN_ok hs, fun a o ha hd hc => fin_tupF q x2 r2 v2 ha hd hc⟩
  · exact q.elim) rfl
theorem s_lst {es : Es} {l : List Expr} {pos : Pos} (h : SA X G F C W es l) : SE X G F C W (.lst es) (.List l pos) := .plain (impE (pe_lst h) fun σ H Q h => by
  obtain ⟨fr, S, m, rf, rs, p⟩ := h
  rw [ev] at p
  refine ⟨fr, S, m, rf, rs, p.bnd.imp fun vs S1 m1 H1 x1 r1 q xs rvs => ?_⟩
  obtain ⟨m2, x2, r2, v2⟩ := x1.mats r1 rvs
  dsimp only at q
  split at q
  · rename_i hs
    exact ⟨by rw [v2.length]; exact okN_ok hs, fun a ha => fin_new q x2 r2 v2 ha⟩
  · exact q.elim) rfl

/-! ### calls -/
section
variable {H H' : Hp} {m m' : List Addr}
mutual
theorem RV.flat : ∀ {v : PV} {x : V}, flat v = true → RV G H m v x → RV G H m' v x
  | _, _, _, .non => .non
  | _, _, _, .bl b => .bl b
  | _, _, _, .int i => .int i
  | _, _, _, .str x => .str x
  | _, _, e, .tup h r => .tup h (RVs.flats (by simpa [Ev.flat] using e) r)
  | _, _, e, .ref h => by simp [Ev.flat] at e
  | _, _, _, .fn h => .fn h
theorem RVs.flats : ∀ {v : List PV} {x : List V}, flats v = true → RVs G H m v x → RVs G H m' v x
  | _, _, _, .nil => .nil
  | _, _, e, .cons h r => by
    rw [Ev.flats, Bool.and_eq_true] at e
    exact .cons (RV.flat e.1 h) (RVs.flats e.2 r)
end
theorem RT.flat {Z : Addr → Prop} {v : PV} {x : V} (e : flat v = true) (h : RT G Z H m v x) : RT G Z H m' v x := by
  cases v with
  | new xs => simp [Ev.flat] at e
  | _ => exact RT.of (RV.flat e h)
theorem RTs.alone : ∀ {vs : List PV} {xs : List V} {Z : Addr → Prop}, alone vs = true → RTs G H m Z vs xs → RTs G H [] Z vs xs
  | _, _, _, _, .nil => .nil
  | v :: r, x :: xs, Z, e, .cons h q => by
    have e' : (match v with | .new xs => flats xs && Ev.alone r | v => flat v && Ev.alone r) = true := by
      cases v <;> simpa [Ev.alone] using e
    cases v with
    | new ys =>
      obtain ⟨h1, h2⟩ := Bool.and_eq_true_iff.mp e'
      obtain ⟨a, vs, a1, a2, a3, a4, a5⟩ := h
      exact .cons ⟨a, vs, a1, a2, by simp, a4, RVs.flats h1 a5⟩ (RTs.alone h2 q)
    | _ =>
      obtain ⟨h1, h2⟩ := Bool.and_eq_true_iff.mp e'
      exact .cons (h.flat h1) (RTs.alone h2 q)
theorem RTs.out {vs : List PV} {xs : List V} {Z : Addr → Prop} (r : RTs G H m Z vs xs) : RTs G H m (fun a => Z a ∧ a ∉ m) vs xs := by
  induction r with
  | nil => exact .nil
  | cons h r ih =>
    refine .cons ?_ (ih.back fun a q => ⟨⟨q.1.1, q.2⟩, q.1.2⟩)
    rename_i v x _ _
    cases v with
    | new ys => obtain ⟨a, vs, h1, h2, h3, h4⟩ := h; exact ⟨a, vs, h1, ⟨h2, h3⟩, h3, h4⟩
    | _ => exact h
theorem RS.nil : RS G H [] [] := ⟨rfl, List.nodup_nil, fun k a c h => by simp at h⟩
end
/-- what a call's value is in the caller -/
theorem call_ok {σ : L2.St} {k : Nat} {H0 H1 : Hp} {m0 m1 : List Addr} {S0 S1 : Store} {vs : List PV} {xs : List V} {Q : VK} (e : Ext G.K H0 m0 S0 H1 m1 S1) (r : RS G H1 m1 S1) (rt : RTs G H1 m1 (fun a => H0 a = none) vs xs)
    (p : PR G W σ H0 m0 S0 (callF F k vs S1) (Pv G H0 Q)) : spR G F k xs H1 Q (WE W σ) := by
  unfold callF at p
  split at p
  · rename_i ha
    obtain ⟨rr, T, h1, h2, h3, h4⟩ := mats_ok (m := []) RS.nil (rt.out.alone ha)
    simp only [List.nil_append] at h1 h3 h4
    refine ⟨_, _, rr, h3, h4, ?_⟩
    dsimp only at p
    -- what the callee leaves is left in the caller
    have back : ∀ {m' : List Addr} {H' : Hp} {S' : Store}, Ext G.K H1 rr (mats vs []).2 H' m' S' → Ext G.K H0 m0 S0 H' m1 S1 ∧ RS G H' m1 S1 := by
      intro m' H' S' e'
      have kp : ∀ a o, H0 a = some o → H1 a = some o → H' a = some o := fun a o q0 q1 => e'.keep a o q1 fun z => by rw [(h2 a z).1] at q0; cases q0
      have tup : ∀ b a vs, TQ G.K H1 b a vs → TQ G.K H' b a vs := e'.tup
      refine ⟨⟨e.pre, fun a o q n => kp a o q (e.keep a o q n), fun a q => e.live a (e'.live a q), fun b a vs q => tup b a vs (e.tup b a vs q), fun k xs a q1 q2 => ?_⟩, r.len, r.nd, fun k a c q1 q2 => ?_⟩
      · obtain ⟨z1, z2⟩ := e.fro k xs a q1 q2
        exact ⟨z1, fun o q => kp a o q (z2 o q)⟩
      · have na : a ∉ rr := fun z => (h2 a z).2 (List.mem_of_getElem? q1)
        have z := r.cell k a c q1 q2
        cases c with
        | lst ys => obtain ⟨ws, z1, z2⟩ := z; exact ⟨ws, e'.keep a _ z1 na, z2.mono tup fun _ _ z => z⟩
        | fro ys =>
          obtain ⟨ws, z1, z2⟩ := z
          refine ⟨ws, ?_, z2.mono tup fun _ _ z => z⟩
          rcases z1 with z1 | ⟨o, z1⟩
          · exact .inl (e'.keep a _ z1 na)
          · exact .inr ⟨o, e'.keep a _ z1 na⟩
    cases hF : F k (mats vs []).1 (mats vs []).2 with
    | stk => rw [hF] at p; exact p.elim
    | exc c S' =>
      rw [hF] at p
      intro m' H' e' r'
      obtain ⟨b1, b2⟩ := back e'
      exact p m1 H' b1 b2
    | ok v S' =>
      rw [hF] at p
      intro m' H' e' r' x rx
      obtain ⟨b1, b2⟩ := back e'
      dsimp only at p
      have fresh : ∀ a, a ∈ m' ∨ H1 a = none → H0 a = none ∧ a ∉ m1 := fun a ha => by
        have here : H1 a = none → H0 a = none ∧ a ∉ m1 := fun q => ⟨e.live a q, fun z => by
          obtain ⟨o, z⟩ := r.there z
          rw [q] at z
          cases z⟩
        rcases ha with ha | ha
        · obtain ⟨r3, e3, h5⟩ := e'.pre
          rw [e3] at ha
          rcases List.mem_append.mp ha with z | z
          · exact h2 a z
          · exact here (h5 a z)
        · exact here ha
      cases v with
      | ref k =>
        unfold handed at p
        dsimp only at p
        split at p
        · rename_i xs hk
          split at p
          · rename_i hf
            cases rx with
            | ref hm =>
              obtain ⟨ws, z1, z2⟩ := r'.cell k _ _ hm hk
              obtain ⟨f1, f2⟩ := fresh _ (.inl (List.mem_of_getElem? hm))
              exact p m1 H' b1 b2 _ ⟨_, ws, rfl, f1, f2, z1, RVs.flats hf z2⟩
          · exact p.elim
        · exact p.elim
      | new ys =>
        unfold handed at p
        dsimp only at p
        split at p
        · rename_i hf
          obtain ⟨a, ws, a1, a2, a3, a4, a5⟩ := rx
          obtain ⟨f1, f2⟩ := fresh a (.inr a2)
          exact p m1 H' b1 b2 _ ⟨a, ws, a1, f1, f2, a4, RVs.flats hf a5⟩
        · exact p.elim
      | _ =>
        unfold handed at p
        dsimp only at p
        split at p
        · rename_i hf
          exact p m1 H' b1 b2 _ (RT.flat hf rx)
        · exact p.elim
  · obtain ⟨m2, x2, r2, v2⟩ := e.mats r rt
    dsimp only at p
    refine ⟨_, _, m2, r2, v2, ?_⟩
    have p2 := p.shift x2
    cases hF : F k (mats vs S1).1 (mats vs S1).2 with
    | stk => rw [hF] at p2; exact p2.elim
    | exc c S' => rw [hF] at p2; exact p2
    | ok v S' => rw [hF] at p2; exact fun m' H' e' r' x rx => p2 m' H' e' r' x (rx.back x2.live)

theorem callS_ok {σ : L2.St} {k : Nat} {H0 H1 : Hp} {m0 m1 : List Addr} {S0 S1 : Store} {vs : List PV} {xs : List V} {Q : VK} (e : Ext G.K H0 m0 S0 H1 m1 S1) (r : RS G H1 m1 S1) (rt : RTs G H1 m1 (fun a => H0 a = none) vs xs)
    (p : PR G W σ H0 m0 S0 (match mats vs S1 with | (vs, S) => F k vs S) (Pv G H0 Q)) : spR G F k xs H1 Q (WE W σ) := by
  obtain ⟨m2, x2, r2, v2⟩ := e.mats r rt
  dsimp only at p
  refine ⟨_, _, m2, r2, v2, ?_⟩
  have p2 := p.shift x2
  cases hF : F k (mats vs S1).1 (mats vs S1).2 with
  | stk => rw [hF] at p2; exact p2.elim
  | exc c S' => rw [hF] at p2; exact p2
  | ok v S' => rw [hF] at p2; exact fun m' H' e' r' x rx => p2 m' H' e' r' x (rx.back x2.live)

theorem evalArgs_e {M : Model} {A : Around} {E : Value → Shared → Prop} {s : Shared} {f : Value} {Q : Args → Shared → Prop} (h : wpAny M A (spliced []) (fun vs s' => Q ⟨vs, []⟩ s') E s) : wpAny M A (evalArgs f true [] []) Q E s := by
  unfold evalArgs
  show wpAny M A (spliced [] >>= _) Q E s
  refine wpAny_bind (wpAny_mono h (fun vs s' h' => ?_) fun _ _ x => x)
  refine wpAny_holding ?_
  exact wpAny_bind (wpAny_pure (wpAny_bind (wpAny_pure (wpAny_pure h'))))
/-- a call by the value of the callee -/
theorem run_fnA {X : Cx} {pins : List (Addr × Obj)} {σ : L2.St} {H : Hp} {s : Shared} {k : Nat} {f : Addr} {sp : Sp} {E : XK} {Q : VK} {us : List Value} {vs : List V} (Fr : FnR X.prog X.w X.K X.mg X.base (L2.CX X.prog X.w) k f sp) (hr : Room k X.A) (hx : PassesAt (L2.CX X.prog X.w) X σ E) (I : Inv X pins σ H s) (r : Vals vs us) (h : sp vs H Q E) :
    wpAny (model X.prog X.w) X.A (call (.ref f) us) (EP X pins σ Q) X.xe s := by
  refine wpAny_call (codeAny_mono (Fr X.A X.stack s H us vs Q E hr I.env0 r h) fun r s' hq => ?_)
  cases r with
  | error e => exact hx pins H s e s' I hq
  | ok fl =>
    cases fl with
    | ret u => exact I.after hq
    | next => exact False.elim hq
    | brk => exact False.elim hq
    | cont => exact False.elim hq
theorem pe_callN {X : Cx} {k : Nat} {f : Addr} {sp : Sp} {E : L2.St → XK} {x : Str} {p pos : Pos} {es : List Expr} {t : TA} (Fr : FnR X.prog X.w X.K X.mg X.base (L2.CX X.prog X.w) k f sp) (hr : Room k X.A) (hg : Gl X x) (hm : X.mg x = some (.ref f)) (hk : PySem.W.keepIn X.K (.ref f) = true) (hx : ∀ σ, PassesAt (L2.CX X.prog X.w) X σ (E σ))
    (ha : PA X es t) (hdb : (x == ("__debug__" : Str)) = false) (hn : noStars es = true) : PE X (.Call (.Name x p) es [] pos) (fun σ H Q => t σ H fun vs H1 => sp vs H1 Q (E σ)) := by
  refine ⟨fun pins s σ H Q I h => ?_⟩
  refine wpAny_Call_Name_kw (ld_glob I hg hm ?_ hdb)
  cases es with
  | nil =>
    have z := ha.run pos pins s σ H _ I h
    refine PySem.W.callWith_of rfl (PySem.W.keeps_K hk) ?_
    have z2 : wpAny (model X.prog X.w) X.A (spliced []) (AP X pins σ fun vs H1 => sp vs H1 Q (E σ)) X.xe s := z
    refine evalArgs_e ?_
    exact thn z2 fun us s1 ⟨vs, H1, I1, r, q⟩ => ⟨I1.kIn, run_fnA Fr hr (hx σ) I1 r q⟩
  | cons e es =>
    obtain ⟨h1, h2⟩ := Bool.and_eq_true_iff.mp hn
    refine PySem.W.callWith_K (h₀ := X.base) I.ok.mod.kin hk (thn (ha.run pos pins s σ H _ I h) fun us s1 ⟨vs, H1, I1, r, q⟩ => ⟨I1.kIn, ?_⟩) (noStar_ok h1) (noStars_ok h2)
    exact run_fnA Fr hr (hx σ) I1 r q

theorem s_call (g : Good X G F C W T N sc n) {k : Nat} {es : Es} {l : List Expr} {x : Str} {p pos : Pos} (hk : strB (nth T.fn k) x = true) (hg : glB sc x = true) (ha : SA X G F C W es l) (hn : noStars l = true) : SE X G F C W (.call k es) (.Call (.Name x p) l [] pos) := by
  obtain ⟨hd, h1, h2, h3⟩ := g.fn k x (by rw [← nth_eq]; exact strB_ok hk)
  refine .plain (impE (pe_callN h3 g.room (glB_ok g.sc hg) h1 h2 (E := WE W) (fun σ => passAt g.tk σ) ha hd hn) fun σ H Q h => ?_) rfl
  obtain ⟨fr, S, m, rf, rs, p⟩ := h
  rw [ev] at p
  exact ⟨fr, S, m, rf, rs, p.bnd.imp fun vs S1 m1 H1 x1 r1 q xs rvs => call_ok x1 r1 rvs q⟩
theorem s_callS (g : Good X G F C W T N sc n) {k : Nat} {es : Es} {l : List Expr} {x : Str} {p pos : Pos} (hk : strB (nth T.fn k) x = true) (hg : glB sc x = true) (ha : SA X G F C W es l) (hn : noStars l = true) : SE X G F C W (.callS k es) (.Call (.Name x p) l [] pos) := by
  obtain ⟨hd, h1, h2, h3⟩ := g.fn k x (by rw [← nth_eq]; exact strB_ok hk)
  refine .plain (impE (pe_callN h3 g.room (glB_ok g.sc hg) h1 h2 (E := WE W) (fun σ => passAt g.tk σ) ha hd hn) fun σ H Q h => ?_) rfl
  obtain ⟨fr, S, m, rf, rs, p⟩ := h
  rw [ev] at p
  exact ⟨fr, S, m, rf, rs, p.bnd.imp fun vs S1 m1 H1 x1 r1 q xs rvs => callS_ok x1 r1 rvs q⟩
/-- f(*y) -/
theorem pe_callSt {X : Cx} {k : Nat} {f : Addr} {sp : Sp} {E : L2.St → XK} {x : Str} {p pos sp_ : Pos} {e : Expr} {te : TE} (Fr : FnR X.prog X.w X.K X.mg X.base (L2.CX X.prog X.w) k f sp) (hr : Room k X.A) (hg : Gl X x) (hm : X.mg x = some (.ref f)) (hk : PySem.W.keepIn X.K (.ref f) = true) (hx : ∀ σ, PassesAt (L2.CX X.prog X.w) X σ (E σ))
    (he : PE X e te) (hdb : (x == ("__debug__" : Str)) = false) :
    PE X (.Call (.Name x p) [.Starred e sp_] [] pos) (fun σ H Q => te σ H fun y H1 => ∃ a xs, y = V.ref a ∧ (SqT X.K H1 a xs ∨ SqL X.K H1 a xs) ∧ sp xs H1 Q (E σ)) := by
  refine ⟨fun pins s σ H Q I h => ?_⟩
  refine wpAny_Call_Name_kw (ld_glob I hg hm ?_ hdb)
  refine PySem.W.callWith_S (h₀ := X.base) I.ok.mod.kin hk (thn (he.run pins s σ H _ I h) fun v s1 ⟨y, H1, I1, ry, a, xs, ey, hxs, q⟩ => ?_) rfl
  subst ey
  obtain rfl : v = Value.ref a := ry
  exact StX.star_any I1 hxs fun us s2 I2 rv => ⟨I2.kIn, run_fnA Fr hr (hx σ) I2 rv q⟩
theorem s_callSt (g : Good X G F C W T N sc n) {k : Nat} {a : E} {a' : Expr} {x : Str} {p pos ps : Pos} (hk : strB (nth T.fn k) x = true) (hg : glB sc x = true) (ha : SE X G F C W a a') : SE X G F C W (.call k (.star a .nil)) (.Call (.Name x p) [.Starred a' ps] [] pos) := by
  obtain ⟨hd, h1, h2, h3⟩ := g.fn k x (by rw [← nth_eq]; exact strB_ok hk)
  refine .plain (impE (pe_callSt h3 g.room (glB_ok g.sc hg) h1 h2 (E := WE W) (fun σ => passAt g.tk σ) ha.pe hd) fun σ H Q h => ?_) rfl
  obtain ⟨fr, S, m, rf, rs, p⟩ := h
  rw [ev, evs] at p
  refine ⟨fr, S, m, rf, rs, p.bnd.bnd.imp fun v S1 m1 H1 x1 r1 q y ry => ?_⟩
  split at q
  · rename_i xs hx
    rw [evs] at q
    obtain ⟨b, ws, e, z1, z2⟩ := seqL_ok r1 ry hx
    refine ⟨b, ws, e, by rw [g.kk]; exact z1.symm, ?_⟩
    have q2 : PR G W σ H m S (callF F k (xs ++ []) S1) (Pv G H Q) := q m1 H1 x1 r1
    rw [List.append_nil] at q2
    exact call_ok x1 r1 (RTs.ofRVs z2) q2
  · exact q.elim
/-- a call of what a name holds -/
theorem pe_callV {X : Cx} {i : Nat} {t : TA} {x : Str} {p pos : Pos} {es : List Expr} {D : Addr → Option (Nat × Sp)} {E : L2.St → XK} (A : ∀ f k sp, D f = some (k, sp) → PySem.W.keepIn X.K (.ref f) = true ∧ Room k X.A ∧ FnR X.prog X.w X.K X.mg X.base (L2.CX X.prog X.w) k f sp) (hx : ∀ σ, PassesAt (L2.CX X.prog X.w) X σ (E σ))
    (hN : X.N[i]? = some x) (hv : Vis X.env.scope x) (hd : (x == ("__debug__" : Str)) = false) (hcd : (x == ("__classdict__" : Str)) = false) (ha : PA X es t) (hn : noStars es = true) :
    PE X (.Call (.Name x p) es [] pos) (fun σ H Q => ∃ f k sp, σ[i]? = some (some (.ref f)) ∧ D f = some (k, sp) ∧ t σ H fun vs H1 => sp vs H1 Q (E σ)) := by
  refine ⟨fun pins s σ H Q I h => ?_⟩
  obtain ⟨f, k, sp, hs, hD, ht⟩ := h
  obtain ⟨hk, hr, Fr⟩ := A f k sp hD
  refine wpAny_Call_Name_kw ?_
  refine thn ((pe_var (i := i) (pos := p) hN hv hd hcd).run pins s σ H (fun v H1 => v = .ref f ∧ H1 = H) I ⟨_, hs, rfl, rfl⟩) fun u s1 ⟨v, H1, I1, r1, e1, e2⟩ => ?_
  subst e1 e2
  obtain rfl : u = Value.ref f := r1
  cases es with
  | nil =>
    have z := ha.run pos pins s1 σ H1 _ I1 ht
    refine PySem.W.callWith_of rfl (PySem.W.keeps_K hk) ?_
    have z2 : wpAny (model X.prog X.w) X.A (spliced []) (AP X pins σ fun vs H1 => sp vs H1 Q (E σ)) X.xe s1 := z
    refine evalArgs_e ?_
    exact thn z2 fun us s1 ⟨vs, H1, I1, r, q⟩ => ⟨I1.kIn, run_fnA Fr hr (hx σ) I1 r q⟩
  | cons e es =>
    obtain ⟨h1, h2⟩ := Bool.and_eq_true_iff.mp hn
    refine PySem.W.callWith_K (h₀ := X.base) I.ok.mod.kin hk (thn (ha.run pos pins s1 σ H1 _ I1 ht) fun us s1 ⟨vs, H1, I1, r, q⟩ => ⟨I1.kIn, ?_⟩) (noStar_ok h1) (noStars_ok h2)
    exact run_fnA Fr hr (hx σ) I1 r q
open Classical in
theorem s_calv (g : Good X G F C W T N sc n) (inj : ∀ (j k : Nat) x y, T.fn[j]? = some x → T.fn[k]? = some y → G.fa j = G.fa k → j = k) {i : Nat} {es : Es} {l : List Expr} {x : Str} {p pos : Pos} (hi : strB (nth N i) x = true) (hv : visB sc x = true) (ha : SA X G F C W es l) (hn : noStars l = true) : SE X G F C W (.calv i es) (.Call (.Name x p) l [] pos) := by
  have hx : N[i]? = some x := by rw [← nth_eq]; exact strB_ok hi
  obtain ⟨p1, p2⟩ := g.plain x (List.mem_of_getElem? hx)
  refine .plain (impE (pe_callV (D := fun f => if h : ∃ k x, T.fn[k]? = some x ∧ G.fa k = f then some (n, spR G F h.choose) else none) (E := WE W) (fun f k sp hD => ?_) (fun σ => passAt g.tk σ) (by rw [g.nn]; exact hx) (by rw [g.sc]; exact visB_ok hv) p1 p2 ha hn) fun σ H Q h => ?_) rfl
  · split at hD
    · rename_i hh
      cases hD
      obtain ⟨y, h1, h2⟩ := hh.choose_spec
      obtain ⟨_, _, h3, h4⟩ := g.fn _ y h1
      rw [h2] at h3 h4
      exact ⟨h3, g.room, h4⟩
    · cases hD
  · obtain ⟨fr, S, m, rf, rs, q⟩ := h
    rw [ev] at q
    split at q
    · rename_i k e
      rw [nth_eq] at e
      obtain ⟨y, h1, h2⟩ := rf.at_ i _ e
      cases h2 with
      | fn hlt =>
        obtain ⟨z, hT⟩ : ∃ z, T.fn[k]? = some z := ⟨_, List.getElem?_eq_getElem (by rw [g.nf]; exact hlt)⟩
        have hh : ∃ k' x, T.fn[k']? = some x ∧ G.fa k' = G.fa k := ⟨k, z, hT, rfl⟩
        refine ⟨G.fa k, n, spR G F hh.choose, h1, dif_pos hh, ?_⟩
        have ek : hh.choose = k := by
          obtain ⟨y, h3, h4⟩ := hh.choose_spec
          exact inj _ _ _ _ h3 hT h4
        rw [ek]
        exact ⟨fr, S, m, rf, rs, q.bnd.imp fun vs S1 m1 H1 x1 r1 q xs rvs => call_ok x1 r1 rvs q⟩
    · exact q.elim
end
end Ev

/-! Ev8: items, slices, built-ins. -/
namespace Ev
open PySem PySem.Spec PyProof.Rows L2

theorem blt_t {k n : Nat} (h : k < n) : Nat.blt k n = true := by simpa using h
theorem blt_f {k n : Nat} (h : ¬ k < n) : Nat.blt k n = false := by
  cases q : Nat.blt k n with
  | false => rfl
  | true => exact absurd (by simpa using q) h
theorem place_eq (n : Nat) (i : Int) : place n i = ixN n i := by
  unfold place ixN
  cases i with
  | ofNat k =>
    dsimp only
    rw [if_pos (show (0 : Int) ≤ Int.ofNat k from Int.natCast_nonneg k)]
    by_cases h : k < n
    · rw [blt_t h, if_pos (show Int.ofNat k < (n : Int) by simp only [Int.ofNat_eq_natCast]; omega)]; rfl
    · rw [blt_f h, if_neg (show ¬ Int.ofNat k < (n : Int) by simp only [Int.ofNat_eq_natCast]; omega)]
  | negSucc k =>
    dsimp only
    rw [if_neg (show ¬ (0 : Int) ≤ Int.negSucc k by omega)]
    by_cases h : k < n
    · rw [blt_t h, if_pos (show -(n : Int) ≤ Int.negSucc k by omega)]
      show some (n - (k + 1)) = some (Int.negSucc k + (n : Int)).toNat
      congr 1
      omega
    · rw [blt_f h, if_neg (show ¬ -(n : Int) ≤ Int.negSucc k by omega)]
theorem item_eq {α : Type} (xs : List α) (i : Int) : item xs i = atI xs i := by
  unfold atI
  rw [← place_eq]
  unfold item place
  cases i with
  | ofNat k =>
    dsimp only
    rw [nth_eq]
    by_cases h : k < xs.length
    · rw [blt_t h]; rfl
    · rw [blt_f h]; exact List.getElem?_eq_none (by omega)
  | negSucc k =>
    dsimp only
    by_cases h : k < xs.length
    · rw [blt_t h]; exact nth_eq _ _
    · rw [blt_f h]; rfl
theorem cutAt_eq (n d : Nat) (i : Option Int) : cutAt n d i = HT.sIx n d i := by
  cases i with
  | none => rfl
  | some i =>
    cases i with
    | ofNat k =>
      rw [show HT.sIx n d (some (Int.ofNat k)) = min k n from HT.sIx_nat n d k]
      rfl
    | negSucc k =>
      show n - (k + 1) = if Int.negSucc k < 0 then (Int.negSucc k + (n : Int)).toNat else min (Int.negSucc k).toNat n
      rw [if_pos (by omega)]
      omega
section
variable {G : Gx} {F : Fn} {C : List PV} {W : WX} {X : Cx} {T : Tb} {N : List Str} {sc : Scope} {n : Nat}
section
variable {H : Hp} {m : List Addr} {S : Store}
theorem RVs.cut {xs : List PV} {vs : List V} (r : RVs G H m xs vs) (lo hi : Option Int) : RVs G H m (cut xs lo hi) (cutV vs lo hi) := by
  unfold Ev.cut cutV
  rw [r.length, ← cutAt_eq, ← cutAt_eq]
  exact (r.drop _).take _
theorem RVs.item {xs : List PV} {vs : List V} {i : Int} {v : PV} (r : RVs G H m xs vs) (h : item xs i = some v) : ∃ x, atI vs i = some x ∧ RV G H m v x := by
  rw [item_eq] at h
  unfold atI at h ⊢
  rw [r.length]
  obtain ⟨j, h1, h2⟩ := Option.bind_eq_some_iff.mp h
  obtain ⟨x, h3, h4⟩ := r.get h2
  exact ⟨x, by rw [h1]; exact h3, h4⟩
end

/-! ### minus -/
theorem s_neg (g : Good X G F C W T N sc n) {a : E} {a' : Expr} {pos : Pos} (ha : SE X G F C W a a') : SE X G F C W (.neg a) (.UnaryOp .USub a' pos) := .plain (impE (pe_un un_neg ha.pe) fun σ H Q h => by
  refine tE_un h _ (fun fr S => by rw [ev]) fun m S m1 H1 S1 v x e r rv p => ?_
  split at p
  · rename_i i
    cases rv
    rw [frI_eq] at p
    exact ⟨i, rfl, fin_rv p e r (.int _)⟩
  · exact p.elim) rfl

/-! ### items, slices -/
def noSlice : Expr → Bool
  | .Slice .. => false
  | _ => true
theorem noSlice_ok {b : Expr} (h : noSlice b = true) : PlainIx b := fun o i => by
  cases b <;> first | rfl | cases h
theorem index_ok {σ : L2.St} {H H1 : Hp} {m m1 : List Addr} {S S1 : Store} {Q : VK} {Z : Addr → Prop} {v u : PV} {x y : V} (e : Ext G.K H m S H1 m1 S1) (r : RS G H1 m1 S1) (rv : RT G Z H1 m1 v x) (ru : RT G Z H1 m1 u y) (p : PR G W σ H m S (R.of S1 (index S1 v u)) (Pv G H Q)) : rIx G.K x y H1 Q := by
  unfold index at p
  split at p
  · rename_i i
    cases ru
    split at p
    · rename_i xs
      cases rv with
      | tup h1 h2 =>
        cases hi : item xs i with
        | none => rw [hi] at p; exact p.elim
        | some w =>
          rw [hi] at p
          obtain ⟨x, h3, h4⟩ := h2.item hi
          exact .inr (.inl ⟨_, _, i, x, rfl, rfl, h1.1, h3, fin_rv p e r h4⟩)
    · rename_i z
      cases rv
      split at p
      · rename_i hs
        cases hi : item z.cps.toList i with
        | none => rw [hi] at p; exact p.elim
        | some c =>
          rw [hi] at p
          rw [item_eq] at hi
          exact .inr (.inr ⟨z, i, c, rfl, rfl, okN_ok hs, hi, fin_rv p e r (.str _)⟩)
      · exact p.elim
    · split at p
      · rename_i xs hx
        obtain ⟨a, vs, rfl, h1, h2⟩ := items_ok r rv hx
        cases hi : item xs i with
        | none => rw [hi] at p; exact p.elim
        | some w =>
          rw [hi] at p
          obtain ⟨x, h3, h4⟩ := h2.item hi
          exact .inl ⟨_, _, i, x, rfl, rfl, .inl h1, h3, fin_rv p e r h4⟩
      · exact p.elim
  · exact p.elim
theorem s_ix (g : Good X G F C W T N sc n) {a b : E} {a' b' : Expr} {pos : Pos} (ha : SE X G F C W a a') (hb : SE X G F C W b b') (hs : noSlice b' = true) : SE X G F C W (.ix a b) (.Subscript a' b' pos) := .plain (impE (pe_ix ix_seq ha.pe hb.pe (noSlice_ok hs)) fun σ H Q h => by
  rw [g.kk]
  exact tE_bin h _ (fun fr S => by rw [ev]) fun m S m1 H1 S1 v u x y e r rv ru p => index_ok e r rv ru p) rfl
def tP (G : Gx) (F : Fn) (C : List PV) (W : WX) (e : P) : TO := fun σ H Q => ∃ fr S m, RF G H m fr σ ∧ RS G H m S ∧ PR G W σ H m S (evp F C e fr S) fun v _ _ H' => Q v H'
abbrev SPo (X : Cx) (G : Gx) (F : Fn) (C : List PV) (W : WX) (e : P) (o : Option Expr) : Prop := PO X o (tP G F C W e)
theorem impO {e : Option Expr} {t t' : TO} (h : PO X e t) (i : ∀ σ H Q, t' σ H Q → t σ H Q) : PO X e t' := ⟨fun pins s σ H Q I q => h.run pins s σ H Q I (i σ H Q q)⟩
theorem p_none : SPo X G F C W .none none := impO po_none fun σ H Q h => by
  obtain ⟨fr, S, m, rf, rs, p⟩ := h
  rw [evp] at p
  exact p m H .refl rs
theorem p_some {a : E} {a' : Expr} (ha : SE X G F C W a a') : SPo X G F C W (.some a) (some a') := impO (po_some ha.pe) fun σ H Q h => by
  obtain ⟨fr, S, m, rf, rs, p⟩ := h
  rw [evp] at p
  refine ⟨fr, S, m, rf, rs, p.bnd.imp fun v S1 m1 H1 x1 r1 q x rv => ?_⟩
  split at q
  · rename_i i
    cases rv
    exact ⟨i, rfl, q m1 H1 x1 r1⟩
  · exact q.elim
theorem slice_ok {σ : L2.St} {H H1 : Hp} {m m1 : List Addr} {S S1 : Store} {Q : VK} {Z : Addr → Prop} {v : PV} {x : V} {lo hi : Option Int} (e : Ext G.K H m S H1 m1 S1) (r : RS G H1 m1 S1) (rv : RT G Z H1 m1 v x) (p : PR G W σ H m S (R.of S1 (slice S1 v lo hi)) (Pv G H Q)) : rSlA G.K x lo hi H1 Q ∨ rSlL G.K x lo hi H1 Q := by
  unfold slice at p
  split at p
  · rename_i xs
    rw [frL_eq] at p
    cases rv with
    | tup h1 h2 =>
      rename_i a vs
      refine .inl ⟨_, _, rfl, h1.1, fun hw => ?_, fun hw a ha => fin_tup p e r (h2.cut lo hi) ha⟩
      have ec : cut xs lo hi = xs := by
        unfold cut
        rw [cutAt_eq, cutAt_eq, ← h2.length, hw.1, hw.2]
        simp [h2.length]
      rw [ec] at p
      exact fin_rv p e r (.tup h1.off h2)
  · split at p
    · rename_i xs hx
      rw [frL_eq] at p
      obtain ⟨a, vs, rfl, h1, h2⟩ := items_ok r rv hx
      exact .inr ⟨a, vs, rfl, .inl h1, fun q hq => fin_new p e r (h2.cut lo hi) hq⟩
    · exact p.elim
theorem s_sl (g : Good X G F C W T N sc n) {a : E} {a' : Expr} {lo hi : P} {lo' hi' : Option Expr} {p2 pos : Pos} (ha : SE X G F C W a a') (hl : SPo X G F C W lo lo') (hh : SPo X G F C W hi hi') : SE X G F C W (.sl a lo hi) (.Subscript a' (.Slice lo' hi' none p2) pos) := .plain (impE (pe_slice (sl_tupA.or sl_list) ha.pe hl hh) fun σ H Q h => by
  rw [g.kk]
  obtain ⟨fr, S, m, rf, rs, q⟩ := h
  rw [ev] at q
  refine ⟨fr, S, m, rf, rs, q.bnd.imp fun v S1 m1 H1 x1 r1 q x rv => ?_⟩
  refine ⟨fr, S1, m1, x1.rf rf, r1, (q.bnd.shift x1).imp fun l S2 m2 H2 x2 r2 q => ?_⟩
  have e2 := x1.trans x2
  refine ⟨fr, S2, m2, e2.rf rf, r2, (q.bnd.shift e2).imp fun u S3 m3 H3 x3 r3 q => ?_⟩
  exact slice_ok (e2.trans x3) r3 ((x2.trans x3).rt rv) q) rfl

/-! ### x or y, by truth of a list -/
theorem s_orL (g : Good X G F C W T N sc n) {a b : E} {a' b' : Expr} {pos : Pos} (ha : SE X G F C W a a') (hb : SE X G F C W b b') (t : tstB b' = true) : PE X (.BoolOp .Or [a', b'] pos) (tE G F C W (.orL a b)) := impE (pe_orT ha.pe (s_or1 hb t).pe) fun σ H Q h => by
  rw [g.kk]
  obtain ⟨fr, S, m, rf, rs, q⟩ := h
  rw [ev] at q
  refine ⟨fr, S, m, rf, rs, q.bnd.imp fun v S1 m1 H1 x1 r1 q x rv => ?_⟩
  split at q
  · rename_i hx
    obtain ⟨c, vs, rfl, h1, h2⟩ := items_ok r1 rv hx
    cases h2
    refine ⟨false, .inl ⟨[], .inl h1, rfl⟩, ?_⟩
    rw [if_neg (by decide)]
    exact tE.of rf x1 r1 ((q.shift x1).imp fun v S2 m2 H2 x2 r2 h u ru => h u (ru.back x1.live))
  · rename_i xs hn hx
    obtain ⟨c, vs, rfl, h1, h2⟩ := items_ok r1 rv hx
    refine ⟨true, .inl ⟨vs, .inl h1, ?_⟩, ?_⟩
    · cases h2 with
      | nil => exact (hn rfl).elim
      | cons _ _ => rfl
    rw [if_pos rfl]
    exact q m1 H1 x1 r1 _ rv
  · exact q.elim
end
end Ev

/-! Ev9: built-in functions. -/
namespace Ev
open PySem PySem.Spec PyProof.Rows L2

/-! ### walks of tuples of ints -/
section
variable {prog : Program} {w : World} {A : Around} {E : Value → Shared → Prop} {s : Shared} {l : Addr} {xs : Array (Int × Tok)}
theorem iter_intTup {items : Array Value} {Q : Value → Shared → Prop} (hl : s.heap.IsTuple l items)
    (h : ∀ s₂ : Shared, s₂ = { s with heap := s.heap.push { cls := .type "tuple_iterator", data := .fields #[.ref l, .int 0 0] } } →
      (s₂.heap.IsTupleIter s.heap.objs.size l 0 ∧ s₂.heap.IsTuple l items) → (∀ b ∈ [s.heap.objs.size, l], b < s₂.heap.objs.size) → l ≠ s.heap.objs.size → Q (.ref s.heap.objs.size) s₂) :
    wpAny (model prog w) A (pyIter (.ref l)) Q E s := by
  have hlt : l < s.heap.objs.size := by obtain ⟨_, e, _⟩ := hl; exact Heap.lt_size e
  refine wpAny_pyIter_tuple hl (h _ rfl ⟨⟨_, Heap.get?_push_size _ rfl, rfl, rfl⟩, hl.push _⟩ (fun b hb => ?_) (Nat.ne_of_lt hlt))
  show b < (s.heap.push _).objs.size
  rw [Heap.size_push]
  rcases List.mem_cons.mp hb with rfl | hb
  · exact Nat.lt_succ_self _
  · rcases List.mem_cons.mp hb with rfl | hb
    · exact Nat.lt_succ_of_lt hlt
    · cases hb
theorem old_keptT {o0 : Obj} {h' : Heap} (hk : ∀ b o, b ∉ [s.heap.objs.size] → (s.heap.push o0).get? b = some o → h'.get? b = some o) :
    ∀ b o, s.heap.get? b = some o → h'.get? b = some o := fun b o e => by
  refine hk b o (fun hm => ?_) (Heap.get?_push_of_some _ e)
  rcases List.mem_cons.mp hm with e1 | hm
  · exact absurd (e1 ▸ Heap.lt_size e) (Nat.lt_irrefl _)
  · cases hm
theorem max_intTup {Q : Value → Shared → Prop} (hh : A.handled = none) (hl : s.heap.IsTuple l (intItems xs)) (hne : 0 < xs.size)
    (h : ∀ v h' tk, (intItems xs)[argBest (fun i j => decide (numAt xs i > numAt xs j)) (xs.size - 1)]? = some v → (∀ b o, s.heap.get? b = some o → h'.get? b = some o) → Q v { s with heap := h', toks := tk }) :
    wpAny (model prog w) A (call (.builtin "max") [.ref l]) Q E s := by
  refine call_max_walk (iter_intTup hl fun s₂ e st hfp hlI => ?_)
  subst e
  refine ⟨_, _, _, _, _, _, _, rfl, Walks.tuple (A := A.in1) hh _ l hlI (intItems xs), st, hfp, by simpa [intItems] using hne, CmpOf.ints_gt (numAt xs) (fun _ _ => intItems_at), fun v h' tk hP hk => ?_⟩
  exact h v h' tk (by simpa [intItems] using hP) (old_keptT hk)
theorem min_intTup {Q : Value → Shared → Prop} (hh : A.handled = none) (hl : s.heap.IsTuple l (intItems xs)) (hne : 0 < xs.size)
    (h : ∀ v h' tk, (intItems xs)[argBest (fun i j => decide (numAt xs i < numAt xs j)) (xs.size - 1)]? = some v → (∀ b o, s.heap.get? b = some o → h'.get? b = some o) → Q v { s with heap := h', toks := tk }) :
    wpAny (model prog w) A (call (.builtin "min") [.ref l]) Q E s := by
  refine call_min_walk (iter_intTup hl fun s₂ e st hfp hlI => ?_)
  subst e
  refine ⟨_, _, _, _, _, _, _, rfl, Walks.tuple (A := A.in1) hh _ l hlI (intItems xs), st, hfp, by simpa [intItems] using hne, CmpOf.ints_lt (numAt xs) (fun _ _ => intItems_at), fun v h' tk hP hk => ?_⟩
  exact h v h' tk (by simpa [intItems] using hP) (old_keptT hk)
theorem sum_intTup {Q : Value → Shared → Prop} (hh : A.handled = none) (hl : s.heap.IsTuple l (intItems xs))
    (h : ∀ h' tk t', (∀ b o, s.heap.get? b = some o → h'.get? b = some o) → Q (.int (preSum (numAt xs) xs.size) t') { s with heap := h', toks := tk }) :
    wpAny (model prog w) A (call (.builtin "sum") [.ref l]) Q E s := by
  refine call_sum_walkG (iter_intTup hl fun s₂ e st hfp hlI => ?_)
  subst e
  refine ⟨_, _, _, _, _, _, numAt xs, rfl, Walks.tuple (A := A.in1) hh _ l hlI (intItems xs), st, hfp, (fun _ _ => intItems_at), fun h' tk t' hk => ?_⟩
  have := h h' tk t' (old_keptT hk)
  simpa [intItems] using this
end
section
variable {prog : Program} {w : World} {A : Around} {E : Value → Shared → Prop} {s : Shared} {l : Addr} {its : List Value} {ns : List Int} {Q : Value → Shared → Prop}
theorem sum_rawT (hh : A.handled = none) (hl : s.heap.IsTuple l its.toArray) (hi : IntsAre its ns)
    (h : ∀ h' tk t', (∀ b o, s.heap.get? b = some o → h'.get? b = some o) → Q (.int ns.sum t') { s with heap := h', toks := tk }) : wpAny (model prog w) A (call (.builtin "sum") [.ref l]) Q E s := by
  obtain ⟨xs, e⟩ := hi.allInts.items
  have hn : numsOf (intItems xs).toList = ns := by rw [← e]; exact hi.numsOf
  rw [nums_intItems] at hn
  rw [e] at hl
  refine sum_intTup hh hl fun h' tk t' hk => ?_
  have := h h' tk t' hk
  rw [preSum_eq, List.take_of_length_le (by simp), hn]; exact this
theorem max_rawT (hh : A.handled = none) (hl : s.heap.IsTuple l its.toArray) (hi : IntsAre its ns) (hne : 0 < ns.length)
    (h : ∀ h' tk M t', (∀ b o, s.heap.get? b = some o → h'.get? b = some o) → M ∈ ns → (∀ a, a ∈ ns → a ≤ M) → Q (.int M t') { s with heap := h', toks := tk }) : wpAny (model prog w) A (call (.builtin "max") [.ref l]) Q E s := by
  obtain ⟨xs, e⟩ := hi.allInts.items
  have hn : numsOf (intItems xs).toList = ns := by rw [← e]; exact hi.numsOf
  rw [nums_intItems] at hn
  subst hn
  rw [e] at hl
  have hsz : 0 < xs.size := by simpa using hne
  refine max_intTup hh hl hsz fun v h' tk hv hk => ?_
  obtain ⟨t, rfl⟩ := intItems_at hv
  obtain ⟨h1, h2⟩ := argBest_gt (numAt xs) (xs.size - 1)
  refine h h' tk _ t hk ?_ fun a ha => ?_
  · rw [numAt_eq]; exact PySem.getD_mem (by rw [List.length_map, Array.length_toList]; omega)
  · obtain ⟨j, hj, rfl⟩ := mem_getD ha
    rw [List.length_map, Array.length_toList] at hj
    rw [← numAt_eq]; exact h2 j (by omega)
theorem min_rawT (hh : A.handled = none) (hl : s.heap.IsTuple l its.toArray) (hi : IntsAre its ns) (hne : 0 < ns.length)
    (h : ∀ h' tk M t', (∀ b o, s.heap.get? b = some o → h'.get? b = some o) → M ∈ ns → (∀ a, a ∈ ns → M ≤ a) → Q (.int M t') { s with heap := h', toks := tk }) : wpAny (model prog w) A (call (.builtin "min") [.ref l]) Q E s := by
  obtain ⟨xs, e⟩ := hi.allInts.items
  have hn : numsOf (intItems xs).toList = ns := by rw [← e]; exact hi.numsOf
  rw [nums_intItems] at hn
  subst hn
  rw [e] at hl
  have hsz : 0 < xs.size := by simpa using hne
  refine min_intTup hh hl hsz fun v h' tk hv hk => ?_
  obtain ⟨t, rfl⟩ := intItems_at hv
  obtain ⟨h1, h2⟩ := argBest_lt (numAt xs) (xs.size - 1)
  refine h h' tk _ t hk ?_ fun a ha => ?_
  · rw [numAt_eq]; exact PySem.getD_mem (by rw [List.length_map, Array.length_toList]; omega)
  · obtain ⟨j, hj, rfl⟩ := mem_getD ha
    rw [List.length_map, Array.length_toList] at hj
    rw [← numAt_eq]; exact h2 j (by omega)
end
section
variable {X : Cx}
def rSumT (K : PySem.W.Frag) : List V → Hp → VK → Prop := fun vs H Q => ∃ (a : Addr) (ns : List Int), vs = [V.ref a] ∧ SqT K H a (ns.map V.int) ∧ Q (.int ns.sum) H
def rMaxT (K : PySem.W.Frag) : List V → Hp → VK → Prop := fun vs H Q => ∃ (a : Addr) (ns : List Int), vs = [V.ref a] ∧ SqT K H a (ns.map V.int) ∧ 0 < ns.length ∧ ∀ m, m ∈ ns → (∀ y, y ∈ ns → y ≤ m) → Q (.int m) H
def rMinT (K : PySem.W.Frag) : List V → Hp → VK → Prop := fun vs H Q => ∃ (a : Addr) (ns : List Int), vs = [V.ref a] ∧ SqT K H a (ns.map V.int) ∧ 0 < ns.length ∧ ∀ m, m ∈ ns → (∀ y, y ∈ ns → m ≤ y) → Q (.int m) H
theorem isTuple_of {h : Heap} {a : Addr} {its : Array Value} (x : IsTup h a its) : h.IsTuple a its := x
theorem cr_sumT (hc : X.calm = true) : CallR X (.builtin "sum") (rSumT X.K) := by
  intro pins s σ H vs us Q I r h
  obtain ⟨a, ns, rfl, hs, q⟩ := h
  obtain ⟨its, rv, hl, _⟩ := I.tuple hs
  rw [Vals.ref1 r]
  exact sum_rawT (I.ok.hd hc) (isTuple_of hl) rv.ints fun h' tk t' hk => ⟨.int _, H, I.kept hk, ⟨_, rfl⟩, q⟩
theorem cr_maxT (hc : X.calm = true) : CallR X (.builtin "max") (rMaxT X.K) := by
  intro pins s σ H vs us Q I r h
  obtain ⟨a, ns, rfl, hs, hne, q⟩ := h
  obtain ⟨its, rv, hl, _⟩ := I.tuple hs
  rw [Vals.ref1 r]
  exact max_rawT (I.ok.hd hc) (isTuple_of hl) rv.ints hne fun h' tk m t' hk h1 h2 => ⟨.int _, H, I.kept hk, ⟨_, rfl⟩, q m h1 h2⟩
theorem cr_minT (hc : X.calm = true) : CallR X (.builtin "min") (rMinT X.K) := by
  intro pins s σ H vs us Q I r h
  obtain ⟨a, ns, rfl, hs, hne, q⟩ := h
  obtain ⟨its, rv, hl, _⟩ := I.tuple hs
  rw [Vals.ref1 r]
  exact min_rawT (I.ok.hd hc) (isTuple_of hl) rv.ints hne fun h' tk m t' hk h1 h2 => ⟨.int _, H, I.kept hk, ⟨_, rfl⟩, q m h1 h2⟩
theorem callR_or {f : Value} {r r' : List V → Hp → VK → Prop} (h : CallR X f r) (h' : CallR X f r') : CallR X f fun xs H Q => r xs H Q ∨ r' xs H Q := fun pins s σ H vs us Q I rv q => by
  rcases q with q | q
  · exact h pins s σ H vs us Q I rv q
  · exact h' pins s σ H vs us Q I rv q
end
end Ev

/-! Ev10: the evaluator's built-ins. -/
namespace Ev
open PySem PySem.Spec PyProof.Rows L2

/-- the evaluator's built-in by the rule r -/
def BiOk (G : Gx) (b : B) (r : List V → Hp → VK → Prop) : Prop := ∀ (W : WX) (σ : L2.St) (H : Hp) (m : List Addr) (S : Store) (H1 : Hp) (m1 : List Addr) (S1 : Store) (Q : VK) (vs : List PV) (xs : List V),
  Ext G.K H m S H1 m1 S1 → RS G H1 m1 S1 → RTs G H1 m1 (fun a => H a = none) vs xs → PR G W σ H m S (R.of S1 (bi S1 b vs)) (Pv G H Q) → r xs H1 Q
section
variable {G : Gx} {F : Fn} {C : List PV} {W : WX} {X : Cx} {T : Tb} {N : List Str} {sc : Scope} {n : Nat}
theorem bi_step {b : B} {es : Es} {r : List V → Hp → VK → Prop} (h : BiOk G b r) {σ : L2.St} {H : Hp} {Q : VK} (q : tE G F C W (.bi b es) σ H Q) : tCB r (tA G F C W es) σ H Q := by
  obtain ⟨fr, S, m, rf, rs, p⟩ := q
  rw [ev] at p
  exact ⟨fr, S, m, rf, rs, p.bnd.imp fun vs S1 m1 H1 x1 r1 q xs rvs => h W σ H m S H1 m1 S1 Q vs xs x1 r1 rvs q⟩
theorem s_biB (g : Good X G F C W T N sc n) {b : B} {es : Es} {a' : Expr} {l : List Expr} {r : List V → Hp → VK → Prop} {id : String} {x : Str} {p pos : Pos} (hc : CallR X (.builtin id) r) (h : BiOk G b r) (hx : x ∈ bnames) (hg : glB sc x = true) (hv : bootBuiltins x = some (.builtin id))
    (hn : x ≠ "__name__") (hd : (x == ("__debug__" : Str)) = false) (ha : SA X G F C W es (a' :: l)) (hs : noStars (a' :: l) = true) : SE X G F C W (.bi b es) (.Call (.Name x p) (a' :: l) [] pos) := by
  obtain ⟨h1, h2⟩ := Bool.and_eq_true_iff.mp hs
  exact .plain (impE (pe_callB hc (glB_ok g.sc hg) (g.free x hx) hv ha hn hd (noStar_ok h1) (noStars_ok h2)) fun σ H Q q => bi_step h q) rfl
theorem s_biT (g : Good X G F C W T N sc n) {b : B} {es : Es} {a' : Expr} {l : List Expr} {r : List V → Hp → VK → Prop} {id : String} {x : Str} {p pos : Pos} (hc : CallR X (.type id) r) (h : BiOk G b r) (hx : x ∈ bnames) (hg : glB sc x = true) (hv : bootBuiltins x = some (.type id))
    (hn : x ≠ "__name__") (hd : (x == ("__debug__" : Str)) = false) (ha : SA X G F C W es (a' :: l)) (hs : noStars (a' :: l) = true) : SE X G F C W (.bi b es) (.Call (.Name x p) (a' :: l) [] pos) := by
  obtain ⟨h1, h2⟩ := Bool.and_eq_true_iff.mp hs
  exact .plain (impE (pe_callTy hc (glB_ok g.sc hg) (g.free x hx) hv ha hn hd (noStar_ok h1) (noStars_ok h2)) fun σ H Q q => bi_step h q) rfl

/-! ### one by one -/
theorem one {H : Hp} {m : List Addr} {Z : Addr → Prop} {v : PV} {xs : List V} (h : RTs G H m Z [v] xs) : ∃ x, xs = [x] ∧ RT G Z H m v x := by
  cases h with
  | cons h r => cases r; exact ⟨_, rfl, h⟩
theorem two {H : Hp} {m : List Addr} {Z : Addr → Prop} {v u : PV} {xs : List V} (h : RTs G H m Z [v, u] xs) : ∃ x y, xs = [x, y] ∧ RT G Z H m v x ∧ RT G Z H m u y := by
  cases h with
  | cons h r => cases r with
    | cons h' r => cases r; exact ⟨_, _, rfl, h, h'.back fun a q => q.1⟩
def rLen (K : PySem.W.Frag) : List V → Hp → VK → Prop := fun xs H Q => (∃ p ys, xs = [.ref p] ∧ (SqL K H p ys ∨ SqT K H p ys) ∧ Q (.int ys.length) H) ∨ ∃ z, xs = [.str z] ∧ z.length ≤ sizeLine ∧ Q (.int z.length) H
theorem cr_len : CallR X (.builtin "len") (rLen X.K) := callR_or call_len_seq call_len_str
theorem b_len : BiOk G .len (rLen G.K) := fun W σ H m S H1 m1 S1 Q vs xs e r rt p => by
  unfold bi at p
  split at p <;> first | contradiction | skip
  rename_i a _
  obtain ⟨x, rfl, rx⟩ := one rt
  split at p
  · rename_i z
    cases rx
    split at p
    · rename_i hs
      exact .inr ⟨z, rfl, okN_ok hs, fin_rv p e r (.int _)⟩
    · exact p.elim
  · split at p
    · rename_i ys hy
      rw [frN_eq] at p
      obtain ⟨a, ws, rfl, h1, h2⟩ := seqL_ok r rx hy
      exact .inl ⟨a, ws, rfl, h1, by rw [h2.length]; exact fin_rv p e r (.int _)⟩
    · exact p.elim

theorem cr_abs : CallR X (.builtin "abs") (fun xs H Q => ∃ i, xs = [.int i] ∧ Q (.int (if i < 0 then -i else i)) H) := call_abs
theorem b_abs : BiOk G .abs (fun xs H Q => ∃ i, xs = [.int i] ∧ Q (.int (if i < 0 then -i else i)) H) := fun W σ H m S H1 m1 S1 Q vs xs e r rt p => by
  unfold bi at p
  split at p <;> first | contradiction | exact p.elim | skip
  rename_i i _
  obtain ⟨x, rfl, rx⟩ := one rt
  cases rx
  refine ⟨i, rfl, ?_⟩
  cases i with
  | ofNat k =>
    rw [if_neg (show ¬ Int.ofNat k < 0 by simp only [Int.ofNat_eq_natCast]; omega)]
    exact fin_rv p e r (.int _)
  | negSucc k =>
    rw [if_pos (show Int.negSucc k < 0 by omega)]
    exact fin_rv p e r (.int _)
def rInt1 : List V → Hp → VK → Prop := fun xs H Q => (∃ i, xs = [.int i] ∧ Q (.int i) H) ∨ ∃ b, xs = [.bl b] ∧ Q (.int (b2i b)) H
theorem b_int : BiOk G .int rInt1 := fun W σ H m S H1 m1 S1 Q vs xs e r rt p => by
  unfold bi at p
  split at p <;> first | contradiction | exact p.elim | skip
  rename_i a _
  obtain ⟨x, rfl, rx⟩ := one rt
  split at p
  · cases rx
    exact .inl ⟨_, rfl, fin_rv p e r (.int _)⟩
  · rename_i b
    cases rx
    refine .inr ⟨b, rfl, ?_⟩
    cases b <;> exact fin_rv p e r (.int _)
  · exact p.elim
theorem b_max2 : BiOk G .max2 (fun xs H Q => ∃ i j, xs = [.int i, .int j] ∧ Q (.int (if j > i then j else i)) H) := fun W σ H m S H1 m1 S1 Q vs xs e r rt p => by
  unfold bi at p
  split at p <;> first | contradiction | exact p.elim | skip
  rename_i i j _
  obtain ⟨x, y, rfl, rx, ry⟩ := two rt
  cases rx; cases ry
  refine ⟨i, j, rfl, ?_⟩
  split at p
  · rename_i h
    rw [if_pos (show j > i from iLt_ok h)]
    exact fin_rv p e r (.int _)
  · rename_i h
    rw [if_neg (show ¬ j > i from iLt_no h)]
    exact fin_rv p e r (.int _)
theorem b_min2 : BiOk G .min2 (fun xs H Q => ∃ i j, xs = [.int i, .int j] ∧ Q (.int (if j < i then j else i)) H) := fun W σ H m S H1 m1 S1 Q vs xs e r rt p => by
  unfold bi at p
  split at p <;> first | contradiction | exact p.elim | skip
  rename_i i j _
  obtain ⟨x, y, rfl, rx, ry⟩ := two rt
  cases rx; cases ry
  refine ⟨i, j, rfl, ?_⟩
  split at p
  · rename_i h
    rw [if_pos (show j < i from iLt_ok h)]
    exact fin_rv p e r (.int _)
  · rename_i h
    rw [if_neg (show ¬ j < i from iLt_no h)]
    exact fin_rv p e r (.int _)
theorem b_gcd : BiOk G .gcd rGcd := fun W σ H m S H1 m1 S1 Q vs xs e r rt p => by
  unfold bi at p
  split at p <;> first | contradiction | exact p.elim | skip
  rename_i i j _
  obtain ⟨x, y, rfl, rx, ry⟩ := two rt
  cases rx; cases ry
  rw [frN_eq] at p
  exact ⟨i, j, rfl, fin_rv p e r (.int _)⟩
theorem maxI_ok : ∀ (l : List Int) (a : Int), maxI l a ∈ a :: l ∧ ∀ y ∈ a :: l, y ≤ maxI l a
  | [], a => ⟨by simp [maxI], fun y hy => by simp [maxI] at hy ⊢; omega⟩
  | i :: l, a => by
    unfold maxI
    split
    · rename_i h
      have h := iLt_ok h
      obtain ⟨h1, h2⟩ := maxI_ok l i
      refine ⟨List.mem_cons_of_mem _ h1, fun y hy => ?_⟩
      rcases List.mem_cons.mp hy with rfl | hy
      · have := h2 i List.mem_cons_self; omega
      · exact h2 y hy
    · rename_i h
      have h := iLt_no h
      obtain ⟨h1, h2⟩ := maxI_ok l a
      refine ⟨?_, fun y hy => ?_⟩
      · rcases List.mem_cons.mp h1 with h1 | h1
        · rw [h1]; exact List.mem_cons_self
        · exact List.mem_cons_of_mem _ (List.mem_cons_of_mem _ h1)
      · rcases List.mem_cons.mp hy with rfl | hy
        · exact h2 y List.mem_cons_self
        · rcases List.mem_cons.mp hy with rfl | hy
          · have := h2 a List.mem_cons_self; omega
          · exact h2 y (List.mem_cons_of_mem _ hy)
theorem minI_ok : ∀ (l : List Int) (a : Int), minI l a ∈ a :: l ∧ ∀ y ∈ a :: l, minI l a ≤ y
  | [], a => ⟨by simp [minI], fun y hy => by simp [minI] at hy ⊢; omega⟩
  | i :: l, a => by
    unfold minI
    split
    · rename_i h
      have h := iLt_ok h
      obtain ⟨h1, h2⟩ := minI_ok l i
      refine ⟨List.mem_cons_of_mem _ h1, fun y hy => ?_⟩
      rcases List.mem_cons.mp hy with rfl | hy
      · have := h2 i List.mem_cons_self; omega
      · exact h2 y hy
    · rename_i h
      have h := iLt_no h
      obtain ⟨h1, h2⟩ := minI_ok l a
      refine ⟨?_, fun y hy => ?_⟩
      · rcases List.mem_cons.mp h1 with h1 | h1
        · rw [h1]; exact List.mem_cons_self
        · exact List.mem_cons_of_mem _ (List.mem_cons_of_mem _ h1)
      · rcases List.mem_cons.mp hy with rfl | hy
        · exact h2 y List.mem_cons_self
        · rcases List.mem_cons.mp hy with rfl | hy
          · have := h2 a List.mem_cons_self; omega
          · exact h2 y (List.mem_cons_of_mem _ hy)
theorem best_max {l : List Int} {a m : Int} (h1 : m ∈ a :: l) (h2 : ∀ y, y ∈ a :: l → y ≤ m) : m = maxI l a := by
  obtain ⟨h3, h4⟩ := maxI_ok l a
  have := h2 _ h3
  have := h4 _ h1
  omega
theorem best_min {l : List Int} {a m : Int} (h1 : m ∈ a :: l) (h2 : ∀ y, y ∈ a :: l → m ≤ y) : m = minI l a := by
  obtain ⟨h3, h4⟩ := minI_ok l a
  have := h2 _ h3
  have := h4 _ h1
  omega
theorem sumI_eq : ∀ (l : List Int) (a : Int), sumI l a = a + l.sum
  | [], a => by simp [sumI]
  | i :: l, a => by rw [sumI, frI_eq, sumI_eq l, List.sum_cons]; omega
theorem b_max : BiOk G .max (fun xs H Q => rMax G.K xs H Q ∨ rMaxT G.K xs H Q) := fun W σ H m S H1 m1 S1 Q vs xs e r rt p => by
  unfold bi at p
  split at p <;> first | contradiction | exact p.elim | skip
  rename_i a _
  obtain ⟨x, rfl, rx⟩ := one rt
  split at p
  · rename_i ys hy
    obtain ⟨a, ws, rfl, h1, h2⟩ := seqL_ok r rx hy
    split at p
    · rename_i i is hi
      have ew := h2.ints hi
      subst ew
      rcases h1 with h1 | h1
      · exact .inl ⟨a, i :: is, rfl, h1, by simp, fun mm q1 q2 => by rw [best_max q1 q2]; exact fin_rv p e r (.int _)⟩
      · exact .inr ⟨a, i :: is, rfl, h1, by simp, fun mm q1 q2 => by rw [best_max q1 q2]; exact fin_rv p e r (.int _)⟩
    · exact p.elim
  · exact p.elim
theorem b_sum : BiOk G .sum (fun xs H Q => rSum G.K xs H Q ∨ rSumT G.K xs H Q) := fun W σ H m S H1 m1 S1 Q vs xs e r rt p => by
  unfold bi at p
  split at p <;> first | contradiction | exact p.elim | skip
  rename_i a _
  obtain ⟨x, rfl, rx⟩ := one rt
  split at p
  · rename_i ys hy
    obtain ⟨a, ws, rfl, h1, h2⟩ := seqL_ok r rx hy
    split at p
    · rename_i is hi
      have ew := h2.ints hi
      subst ew
      rw [sumI_eq, Int.zero_add] at p
      rcases h1 with h1 | h1
      · exact .inl ⟨a, is, rfl, h1, fin_rv p e r (.int _)⟩
      · exact .inr ⟨a, is, rfl, h1, fin_rv p e r (.int _)⟩
    · exact p.elim
  · exact p.elim
theorem b_any : BiOk G .any (rAny G.K) := fun W σ H m S H1 m1 S1 Q vs xs e r rt p => by
  unfold bi at p
  split at p <;> first | contradiction | exact p.elim | skip
  rename_i a _
  obtain ⟨x, rfl, rx⟩ := one rt
  split at p
  · rename_i ys hy
    obtain ⟨a, ws, rfl, h1, h2⟩ := items_ok r rx hy
    split at p
    · rename_i is hi
      have ew := h2.bools hi
      subst ew
      exact ⟨a, is, rfl, .inl h1, fin_rv p e r (.bl _)⟩
    · exact p.elim
  · exact p.elim
theorem b_all : BiOk G .all (rAll G.K) := fun W σ H m S H1 m1 S1 Q vs xs e r rt p => by
  unfold bi at p
  split at p <;> first | contradiction | exact p.elim | skip
  rename_i a _
  obtain ⟨x, rfl, rx⟩ := one rt
  split at p
  · rename_i ys hy
    obtain ⟨a, ws, rfl, h1, h2⟩ := items_ok r rx hy
    split at p
    · rename_i is hi
      have ew := h2.bools hi
      subst ew
      exact ⟨a, is, rfl, .inl h1, fin_rv p e r (.bl _)⟩
    · exact p.elim
  · exact p.elim
theorem b_tuple : BiOk G .tuple (fun xs H Q => ∃ p ys, xs = [.ref p] ∧ ((SqL G.K H p ys ∧ ∀ l, H l = none → Q (.ref l) (upd H l (.tup ys))) ∨ (SqT G.K H p ys ∧ Q (.ref p) H))) := fun W σ H m S H1 m1 S1 Q vs xs e r rt p => by
  unfold bi at p
  split at p <;> first | contradiction | exact p.elim | skip
  rename_i a _
  obtain ⟨x, rfl, rx⟩ := one rt
  split at p
  · rename_i ys hy
    obtain ⟨a, ws, rfl, h1, h2⟩ := seqL_ok r rx hy
    rcases h1 with h1 | h1
    · exact ⟨a, ws, rfl, .inl ⟨h1, fun l hl => fin_tup p e r h2 hl⟩⟩
    · exact ⟨a, ws, rfl, .inr ⟨h1, fin_rv p e r (.tup (.of h1) h2)⟩⟩
  · exact p.elim
/-- tuple(x): a new one is known -/
def rTupF (K : PySem.W.Frag) : List V → Hp → VK → Prop := fun xs H Q => ∃ p ys, xs = [V.ref p] ∧ ((SqL K H p ys ∧ ∀ l o, H l = none → o.dict = none → o.cls = .type "tuple" → Q (.ref l) (upd H l (.frz o (.tup ys)))) ∨ (SqT K H p ys ∧ Q (.ref p) H))
theorem cr_tupF {X : Cx} : CallR X (.type "tuple") (rTupF X.K) := fun pins s σ H xs us Q I r ⟨p, ys, ex, h⟩ => by
  subst ex
  obtain ⟨u, rfl, rx⟩ := vals1 r
  cases rx
  rcases h with ⟨hq, q⟩ | ⟨hq, q⟩
  · obtain ⟨its, rv, pl, hz⟩ := I.list hq
    refine call_tuple_list pl.isList (fun h2 kp => ?_) (by rw [List.size_toArray, ← rv.length]; exact hz)
    have I1 : Inv X pins σ H { s with heap := h2 } := I.kept (t' := s.toks) kp
    have at_ := Heap.get?_push_size h2 (o := { cls := .type "tuple", data := .seq its.toArray }) rfl
    exact ⟨.ref h2.objs.size, _, I1.laid (t' := s.toks) (o := .frz { cls := .type "tuple", data := .seq its.toArray } (.tup ys)) (fun b o e => Heap.get?_push_of_some _ e) (Nat.le_refl _) ⟨at_, hz, its, rv, ⟨_, at_, rfl, _, rfl⟩⟩, rfl,
      q _ _ (I1.hok.fresh (Nat.le_refl _)) rfl rfl⟩
  · obtain ⟨its, rv, pl, hz⟩ := I.tuple hq
    exact call_tuple_same pl ⟨.ref p, H, I, rfl, q⟩
theorem b_tupleF : BiOk G .tupleF (fun xs H Q => rTupF G.K xs H Q) := fun W σ H m S H1 m1 S1 Q vs xs e r rt p => by
  unfold bi at p
  split at p <;> first | contradiction | exact p.elim | skip
  rename_i a _
  obtain ⟨x, rfl, rx⟩ := one rt
  split at p
  · cases rx with
    | tup h1 h2 => exact ⟨_, _, rfl, .inr ⟨h1.1, fin_rv p e r (.tup h1 h2)⟩⟩
  · split at p
    · rename_i hy
      obtain ⟨a, ws, rfl, h1, h2⟩ := items_ok r rx hy
      exact ⟨a, ws, rfl, .inl ⟨.inl h1, fun l o hl hd hc => fin_tupF p e r h2 hl hd hc⟩⟩
    · exact p.elim
theorem b_list : BiOk G .list (fun xs H Q => ∃ p ys, xs = [.ref p] ∧ (SqL G.K H p ys ∨ SqT G.K H p ys) ∧ ∀ l, H l = none → Q (.ref l) (upd H l (.lst ys))) := fun W σ H m S H1 m1 S1 Q vs xs e r rt p => by
  unfold bi at p
  split at p <;> first | contradiction | exact p.elim | skip
  rename_i a _
  obtain ⟨x, rfl, rx⟩ := one rt
  split at p
  · rename_i ys hy
    obtain ⟨a, ws, rfl, h1, h2⟩ := seqL_ok r rx hy
    exact ⟨a, ws, rfl, h1, fun l hl => fin_new p e r h2 hl⟩
  · exact p.elim
end
end Ev

/-! Ev11: enumerate of what begins. -/
namespace Ev
open PySem PySem.Spec PyProof.Rows L2

theorem meets_enum1 {v : Value} {o : Obj} {H : Heap → Prop} (B : Begins v o H) :
    Meets (Builtin.«enumerate.__new__» ⟨[.type "enumerate", v], []⟩) (fun _ R s => H s.heap ∧
      R (.ok (.ret (.ref (s.heap.push o).objs.size))) { s with heap := (s.heap.push o).push { cls := .type "enumerate", data := .fields #[.none, .bool false, .ref s.heap.objs.size, rawInt 0, .none, .none] } }) :=
  .of_wp fun prog w A R s ⟨h1, h⟩ => by
    obtain ⟨hp, g, d, tk, os⟩ := s
    have hsub := sub_enumerate
    have q1 : ∀ {A' : Around} {E : Value → Shared → Prop} {Q : Value → Shared → Prop}, Q (.ref hp.objs.size) ⟨hp.push o, g, d, tk, os⟩ → wpAny (model prog w) A' (pyIter v) Q E ⟨hp, g, d, tk, os⟩ :=
      fun q => B.iter prog w _ _ ⟨hp, g, d, tk, os⟩ _ h1 q
    wp_walk using q1
    refine wpAny_stack_any fun st => wpAny_pure ?_
    split
    · rename_i c _ _ _ _ _
      cases (c == Value.type "enumerate")
      · wp_walk using q1
        exact ⟨_, rfl, h⟩
      · wp_walk using q1
        exact ⟨_, rfl, h⟩
    · wp_walk using q1
      exact ⟨_, rfl, h⟩
section
variable {prog : Program} {w : World} {A : Around} {E : Value → Shared → Prop} {s : Shared}
theorem enum_begins1 {v : Value} {o : Obj} {H : Heap → Prop} {Q : Value → Shared → Prop} (B : Begins v o H) (h1 : H s.heap)
    (h : ∀ h', IsEnum h' (s.heap.objs.size + 1) s.heap.objs.size 0 .none → h'.get? s.heap.objs.size = some o → h'.objs.size = s.heap.objs.size + 2 →
      (∀ b o, s.heap.get? b = some o → h'.get? b = some o) → Q (.ref (s.heap.objs.size + 1)) { s with heap := h' }) :
    wpAny (model prog w) A (call (.type "enumerate") [v]) Q E s := by
  refine callType_new F.called_enumerate (by decide) (F.typeCall_enumerate_1 _) (F.newCall_enumerate_1 _) (fun obj => F.args_object_init_2 obj _) F.entry_enumerate_new (meets_enum1 B) ⟨h1, ?_⟩
  have hz : (s.heap.push o).objs.size = s.heap.objs.size + 1 := Heap.size_push ..
  show _ ∧ _
  rw [hz]
  have he : IsEnum ((s.heap.push o).push { cls := .type "enumerate", data := .fields #[.none, .bool false, .ref s.heap.objs.size, rawInt 0, .none, .none] }) (s.heap.objs.size + 1) s.heap.objs.size 0 .none := by
    have := Heap.get?_push_size (s.heap.push o) (o := { cls := .type "enumerate", data := .fields #[.none, .bool false, .ref s.heap.objs.size, rawInt 0, .none, .none] }) rfl
    rw [hz] at this; exact this
  refine ⟨⟨_, he, rfl⟩, h _ he (Heap.get?_push_of_some _ (Heap.get?_push_size _ B.free)) (by rw [Heap.size_push, hz]) fun b o x => Heap.get?_push_of_some _ (Heap.get?_push_of_some _ x)⟩
end

/-! ### enumerate(tuple) -/
def ItET (K : PySem.W.Frag) (a : Addr) : It :=
  ⟨fun i H => ∃ (xs : List V) (x : V), SqT K H a xs ∧ xs[i]? = some x, fun i H v H' => ∃ T x, v = .ref T ∧ H T = none ∧ H' = upd H T (.tup [.int (i : Nat), x]) ∧ ∀ xs, SqT K H a xs → xs[i]? = some x, fun i H => ∃ xs : List V, SqT K H a xs ∧ xs.length = i⟩
theorem turn_enumT {P : Program} {w : World} {K : PySem.W.Frag} {elts : List Expr} {kk : Nat} {tpos : Pos} (a e it : Addr) (hai : a ≠ it) (hae : a ≠ e) :
    Turn P w K (.Tuple elts kk tpos) (ItET K a) [e, it] e (fun i h => (∃ old, IsEnum h e it ((i : Nat) : Int) old) ∧ h.IsTupleIter it a i ∧ e ≠ it) where
  mem := by simp
  obj := fun i h st b hb => by
    obtain ⟨⟨old, he⟩, ⟨o, ho, hc, hd⟩, _⟩ := st
    have e' : b = e ∨ b = it := by simpa using hb
    rcases e' with z | z
    · rw [z]; exact ⟨_, he, fun v q => nomatch q⟩
    · rw [z]; exact ⟨o, ho, fun v q => by rw [hd] at q; cases q⟩
  keep := fun i h h' st k => let ⟨⟨old, he⟩, hi, hne⟩ := st; ⟨⟨old, k e (by simp) _ he⟩, hi.at fun o q => k it (by simp) o q, hne⟩
  item := by
    intro X hP hw hK hc i pins s σ H E I hf st hg
    subst hP hw hK
    obtain ⟨⟨old, he⟩, hit, hne⟩ := st
    obtain ⟨xs, x, hq, hx⟩ := hg
    obtain ⟨its, rv, p, hz⟩ := I.tuple hq
    obtain ⟨u, hu, ru⟩ := rv.get hx
    have hel : e < s.heap.objs.size := Heap.lt_size he
    have hil : it < s.heap.objs.size := by obtain ⟨_, q, _⟩ := hit; exact Heap.lt_size q
    have hil2 : i < its.toArray.size := by
      rcases Nat.lt_or_ge i its.toArray.size with z | z
      · exact z
      · rw [List.getElem?_eq_none (by simpa using z)] at hu; cases hu
    refine wpAny_pyNext_enum_itemD (Draws.tuple (prog := X.prog) (w := X.w) (A := X.A.in1) (I.ok.hd hc) it a hai its.toArray) he ⟨hit, p⟩ hil2 hne (by simp; exact ⟨hne, Ne.symm hae⟩) fun y h' tk hP ho hst hT hsz hk => ?_
    obtain ⟨hit', _⟩ := hst
    have ey : y = u := by
      have hP : its.toArray[i]? = some y := hP
      rw [show its.toArray[i]? = some u by simpa using hu] at hP
      exact (Option.some.inj hP).symm
    subst ey
    refine ⟨_, rfl, wpAny_letOwnedTupleGo_enum (s := { s with heap := h', toks := tk + 1 }) ho fun h'' he' sb => ?_⟩
    have hT2 : h''.get? s.heap.objs.size = some { cls := .type "tuple", data := .seq #[.int i tk, y] } := (sb.2 _ (Nat.ne_of_gt hel)).trans hT
    have new : ObjOk X.prog X.w (upd H s.heap.objs.size (.tup [.int (i : Nat), x])) h'' s.heap.objs.size (.tup [.int (i : Nat), x]) :=
      ⟨by show 2 ≤ sizeLine; decide, [.int i tk, y], .cons ⟨_, rfl⟩ (.cons ru .nil), ⟨_, hT2, rfl, _, rfl⟩⟩
    have I1 : Inv X pins σ (upd H s.heap.objs.size (.tup [.int (i : Nat), x])) { s with heap := h'', toks := tk + 1 } :=
      I.turnedNew (ch := [e, it]) (fun b ob hb q => (sb.2 b (fun z => hb (by simp [z]))).trans (hk b ob (fun z => hb (by simp [z])) (fun z => hb (by simp [z])) q)) hf (Nat.le_refl _) new
    refine ⟨.ref s.heap.objs.size, _, I1, rfl, ⟨_, x, rfl, I.hok.fresh (Nat.le_refl _), rfl, fun ys hy => by rw [I.tuple_inj hy hq]; exact hx⟩, ⟨⟨y, ?_⟩, hit'.at fun o q => (sb.2 it (Ne.symm hne)).trans q, hne⟩, fun b hb => ?_⟩
    · have e1 : ((i + 1 : Nat) : Int) = (i : Int) + 1 := by omega
      rw [e1]; exact he'
    · have hb' : b < s.heap.objs.size := by
        have e' : b = e ∨ b = it := by simpa using hb
        rcases e' with z | z
        · rw [z]; exact hel
        · rw [z]; exact hil
      rw [upd_ne (Nat.ne_of_lt hb')]
      exact (hf b hb).1
  done := by
    intro X hP hw hK hc i pins s σ H E I hf st hg
    subst hP hw hK
    obtain ⟨⟨old, he⟩, hit, hne⟩ := st
    obtain ⟨xs, hq, hx⟩ := hg
    obtain ⟨its, rv, p, hz⟩ := I.tuple hq
    obtain ⟨f0, f1, f2, f3, f4, f5⟩ := hf it (by simp)
    have hl := rv.length
    have en : i = its.toArray.size := by simp; omega
    subst en
    exact wpAny_pyNext_enum_endD (Draws.tuple (prog := X.prog) (w := X.w) (A := X.A.in1) (I.ok.hd hc) it a hai its.toArray) he ⟨hit, p⟩ fun h' eb => ⟨rfl, I.turned (t' := s.toks) (fun b o hb q => eb b o hb q) f0 f1 f3 f4 f5⟩
  self := fun A i s Q E st h => let ⟨⟨_, he⟩, _⟩ := st; wpAny_pyIter_enum he h
/-- enumerate(v) -/
def iEnumA (K : PySem.W.Frag) (ta : TA) : TI := fun σ H R => ta σ H fun vs H1 => ∃ a xs, vs = [.ref a] ∧ ((SqL K H1 a xs ∧ R (Ite K a) H1) ∨ (SqT K H1 a xs ∧ R (ItET K a) H1))
theorem pi_enumA {X : Cx} {e : Expr} {ta : TA} {p pos tpos : Pos} {elts : List Expr} {kk : Nat} (hg : Gl X "enumerate") (hm : X.mg "enumerate" = none) (ha : PA X [e] ta) (hs : starEach [e] X.env = [(false, eval e X.env)]) :
    PI X (.Tuple elts kk tpos) (.Call (.Name "enumerate" p) [e] [] pos) (iEnumA X.K ta) := by
  refine ⟨fun pins s σ H R I h => ?_⟩
  refine Call_ (ld_blt I hg hm boot_enumerate (PyProof.Rows.callWith_type1 (thn (ha.run pos pins s σ H _ I h) fun us s1 ⟨vs, H1, I1, r1, q1⟩ => ?_) hs rfl))
  obtain ⟨a, xs, ex, q1⟩ := q1
  subst ex
  cases r1 with
  | cons r rr =>
    cases rr
    cases r
    have fp2 : ∀ b ∈ [s1.heap.objs.size + 1, s1.heap.objs.size], FpOk X pins H1 b := fun b hb => by
      have e' : b = s1.heap.objs.size + 1 ∨ b = s1.heap.objs.size := by simpa using hb
      have hle : s1.heap.objs.size ≤ b := by
        rcases e' with z | z
        · rw [z]; exact Nat.le_add_right _ _
        · rw [z]; exact Nat.le_refl _
      exact I1.fpOk hle (I1.hok.fresh hle)
    rcases q1 with ⟨hq, q⟩ | ⟨hq, q⟩
    · obtain ⟨its, rv, p', hz⟩ := I1.list hq
      refine call_enumerate_list p'.isList fun h' he hit hsz hk => wpAny_pyIter_enum he ?_
      have I2 : Inv X pins σ H1 { s1 with heap := h' } := I1.kept (t' := s1.toks) hk
      exact ⟨s1.heap.objs.size + 1, [s1.heap.objs.size + 1, s1.heap.objs.size], _, _, H1, rfl, I2, turn_enum a (s1.heap.objs.size + 1) s1.heap.objs.size, ⟨⟨.none, he⟩, hit, Nat.succ_ne_self _⟩, fp2, q⟩
    · obtain ⟨its, rv, p', hz⟩ := I1.tuple hq
      have hlt : a < s1.heap.objs.size := by obtain ⟨_, e, _⟩ := p'; exact Heap.lt_size e
      refine enum_begins1 (begins_tuple a its.toArray) (isTuple_of p') fun h' he hit hsz hk => wpAny_pyIter_enum he ?_
      have I2 : Inv X pins σ H1 { s1 with heap := h' } := I1.kept (t' := s1.toks) hk
      exact ⟨s1.heap.objs.size + 1, [s1.heap.objs.size + 1, s1.heap.objs.size], _, _, H1, rfl, I2, turn_enumT a (s1.heap.objs.size + 1) s1.heap.objs.size (Nat.ne_of_lt hlt) (Nat.ne_of_lt (Nat.lt_succ_of_lt hlt)), ⟨⟨.none, he⟩, ⟨_, hit, rfl, rfl⟩, Nat.succ_ne_self _⟩, fp2, q⟩
/-- a list or a tuple, walked -/
def iSeq (K : PySem.W.Frag) (tl : TE) : TI := fun σ H R => tl σ H fun x H1 => ∃ a, x = .ref a ∧ (((∃ xs, SqL K H1 a xs) ∧ R (Itl K a) H1) ∨ ((∃ xs, SqT K H1 a xs) ∧ R (Itt K a) H1))
theorem pi_seq {X : Cx} {tg l : Expr} {tl : TE} (hl : PE X l tl) : PI X tg l (iSeq X.K tl) := by
  refine ⟨fun pins s σ H R I h => ?_⟩
  refine thn (hl.run pins s σ H _ I h) fun v s1 ⟨x, H1, I1, r1, q1⟩ => ?_
  obtain ⟨a, e, q1⟩ := q1
  subst e
  cases r1
  have fp1 : ∀ b ∈ [s1.heap.objs.size], FpOk X pins H1 b := fun b hb => by
    have e : b = s1.heap.objs.size := by simpa using hb
    subst e
    exact I1.fpOk (Nat.le_refl _) (I1.hok.fresh (Nat.le_refl _))
  rcases q1 with ⟨⟨xs, hq⟩, q⟩ | ⟨⟨xs, hq⟩, q⟩
  · obtain ⟨its, rv, p, hz⟩ := I1.list hq
    refine wpAny_pyIter_list p.isList ?_
    exact ⟨s1.heap.objs.size, [s1.heap.objs.size], _, _, H1, rfl, I1.kept (t' := s1.toks) fun b o e => Heap.get?_push_of_some _ e, turn_list a _, ⟨_, Heap.get?_push_size _ rfl, rfl, rfl⟩, fp1, q⟩
  · obtain ⟨its, rv, p, hz⟩ := I1.tuple hq
    refine wpAny_pyIter_tuple (isTuple_of p) ?_
    exact ⟨s1.heap.objs.size, [s1.heap.objs.size], _, _, H1, rfl, I1.kept (t' := s1.toks) fun b o e => Heap.get?_push_of_some _ e, turn_tuple a _, ⟨_, Heap.get?_push_size _ rfl, rfl, rfl⟩, fp1, q⟩
end Ev

/-! Ev12: locks; targets; what is walked. -/
namespace Ev
open PySem PySem.Spec PyProof.Rows L2

/-! ### locks -/
abbrev LK := List (Nat × List PV)
def Free (S : Store) (w : LK) : Prop := ∀ p ∈ w, S[p.1]? = some (.lst p.2)
theorem lock_len : ∀ (w : LK) (S : Store), (lock S w).length = S.length
  | [], _ => rfl
  | (k, xs) :: r, S => by rw [lock, lock_len r, List.length_set]
theorem unlock_len : ∀ (w : LK) (S : Store), (unlock S w).length = S.length
  | [], _ => rfl
  | (k, xs) :: r, S => by rw [unlock, unlock_len r, List.length_set]
theorem lock_out : ∀ {w : LK} {S : Store} {k : Nat}, (∀ p ∈ w, p.1 ≠ k) → (lock S w)[k]? = S[k]?
  | [], _, _, _ => rfl
  | (j, xs) :: r, S, k, h => by
    rw [lock, lock_out fun p hp => h p (List.mem_cons_of_mem _ hp), List.getElem?_set_ne (h _ List.mem_cons_self)]
theorem unlock_out : ∀ {w : LK} {S : Store} {k : Nat}, (∀ p ∈ w, p.1 ≠ k) → (unlock S w)[k]? = S[k]?
  | [], _, _, _ => rfl
  | (j, xs) :: r, S, k, h => by
    rw [unlock, unlock_out fun p hp => h p (List.mem_cons_of_mem _ hp), List.getElem?_set_ne (h _ List.mem_cons_self)]
theorem lock_in : ∀ {w : LK} {S : Store}, (∀ p ∈ w, ∀ q ∈ w, p.1 = q.1 → p.2 = q.2) → (∀ p ∈ w, p.1 < S.length) → ∀ p ∈ w, (lock S w)[p.1]? = some (.fro p.2)
  | [], _, _, _, _, h => by simp at h
  | (j, xs) :: r, S, hu, hl, p, hp => by
    rw [lock]
    by_cases hr : ∃ q ∈ r, q.1 = p.1
    · obtain ⟨q, hq, e⟩ := hr
      have z := lock_in (w := r) (S := S.set j (.fro xs)) (fun p hp q hq => hu p (List.mem_cons_of_mem _ hp) q (List.mem_cons_of_mem _ hq)) (fun p hp => by rw [List.length_set]; exact hl p (List.mem_cons_of_mem _ hp)) q hq
      rw [e, hu q (List.mem_cons_of_mem _ hq) p hp e] at z
      exact z
    · rw [lock_out fun q hq e => hr ⟨q, hq, e⟩]
      rcases List.mem_cons.mp hp with rfl | hp
      · exact List.getElem?_set_self (hl _ List.mem_cons_self)
      · exact (hr ⟨p, hp, rfl⟩).elim
theorem unlock_in : ∀ {w : LK} {S : Store}, (∀ p ∈ w, ∀ q ∈ w, p.1 = q.1 → p.2 = q.2) → (∀ p ∈ w, p.1 < S.length) → ∀ p ∈ w, (unlock S w)[p.1]? = some (.lst p.2)
  | [], _, _, _, _, h => by simp at h
  | (j, xs) :: r, S, hu, hl, p, hp => by
    rw [unlock]
    by_cases hr : ∃ q ∈ r, q.1 = p.1
    · obtain ⟨q, hq, e⟩ := hr
      have z := unlock_in (w := r) (S := S.set j (.lst xs)) (fun p hp q hq => hu p (List.mem_cons_of_mem _ hp) q (List.mem_cons_of_mem _ hq)) (fun p hp => by rw [List.length_set]; exact hl p (List.mem_cons_of_mem _ hp)) q hq
      rw [e, hu q (List.mem_cons_of_mem _ hq) p hp e] at z
      exact z
    · rw [unlock_out fun q hq e => hr ⟨q, hq, e⟩]
      rcases List.mem_cons.mp hp with rfl | hp
      · exact List.getElem?_set_self (hl _ List.mem_cons_self)
      · exact (hr ⟨p, hp, rfl⟩).elim
theorem Free.uniq {S : Store} {w : LK} (f : Free S w) : ∀ p ∈ w, ∀ q ∈ w, p.1 = q.1 → p.2 = q.2 := fun p hp q hq e => by
  have h1 := f p hp
  have h2 := f q hq
  rw [e, h2] at h1
  exact (Cell.lst.inj (Option.some.inj h1)).symm
theorem Free.lt {S : Store} {w : LK} (f : Free S w) : ∀ p ∈ w, p.1 < S.length := fun p hp => (List.getElem?_eq_some_iff.mp (f p hp)).1
theorem Free.lock {S : Store} {w : LK} (f : Free S w) : ∀ p ∈ w, (lock S w)[p.1]? = some (.fro p.2) := lock_in f.uniq f.lt
/-- what is read alone stays so under a lock -/
theorem Free.fro {S : Store} {w : LK} (f : Free S w) {k : Nat} {xs : List PV} (h : S[k]? = some (.fro xs)) : (Ev.lock S w)[k]? = some (.fro xs) := by
  rw [lock_out fun p hp e => ?_]
  · exact h
  · have z := f p hp
    rw [e, h] at z
    cases z
section
variable {G : Gx} {H H2 : Hp} {m m2 : List Addr} {S S2 : Store} {w : LK}
theorem Ext.lock {K : PySem.W.Frag} (f : Free S w) : Ext K H m S H m (lock S w) :=
  ⟨⟨[], by simp, fun _ h => by simp at h⟩, fun _ _ h _ => h, fun _ h => h, fun _ _ _ h => h, fun _ _ _ h _ => ⟨f.fro h, fun _ q => q⟩⟩
theorem RS.lock (r : RS G H m S) (f : Free S w) : RS G H m (lock S w) := by
  refine ⟨by rw [lock_len]; exact r.len, r.nd, fun k a c h1 h2 => ?_⟩
  by_cases hk : ∃ p ∈ w, p.1 = k
  · obtain ⟨p, hp, rfl⟩ := hk
    rw [f.lock p hp] at h2
    cases h2
    obtain ⟨vs, q1, q2⟩ := r.cell _ a _ h1 (f p hp)
    exact ⟨vs, .inl q1, q2⟩
  · rw [lock_out fun p hp e => hk ⟨p, hp, e⟩] at h2
    exact r.cell k a c h1 h2
theorem Ext.unlock {K : PySem.W.Frag} {H0 : Hp} {m0 : List Addr} {S0 : Store} (e0 : Ext K H0 m0 S0 H m S) (f : Free S w) (e : Ext K H m (Ev.lock S w) H2 m2 S2) : Ext K H0 m0 S0 H2 m2 (unlock S2 w) := by
  have z := e0.trans ((Ext.lock f).trans e)
  refine ⟨z.pre, z.keep, z.live, z.tup, fun k xs a h1 h2 => ?_⟩
  obtain ⟨q1, q2⟩ := z.fro k xs a h1 h2
  refine ⟨?_, q2⟩
  rw [unlock_out fun p hp e => ?_]
  · exact q1
  · have y := f p hp
    rw [e, (e0.fro k xs a h1 h2).1] at y
    cases y
theorem RS.unlock (r0 : RS G H m S) (f : Free S w) (e : Ext G.K H m (Ev.lock S w) H2 m2 S2) (r : RS G H2 m2 S2) : RS G H2 m2 (unlock S2 w) := by
  have le : S.length ≤ S2.length := by
    obtain ⟨rr, e1, _⟩ := e.pre
    rw [← r0.len, ← r.len, e1, List.length_append]
    exact Nat.le_add_right _ _
  refine ⟨by rw [unlock_len]; exact r.len, r.nd, fun k a c h1 h2 => ?_⟩
  by_cases hk : ∃ p ∈ w, p.1 = k
  · obtain ⟨p, hp, rfl⟩ := hk
    rw [unlock_in f.uniq (fun p hp => Nat.lt_of_lt_of_le (f.lt p hp) le) p hp] at h2
    cases h2
    obtain ⟨a', h3⟩ : ∃ a', m[p.1]? = some a' := ⟨_, List.getElem?_eq_getElem (by rw [r0.len]; exact f.lt p hp)⟩
    have z := e.at_ h3
    rw [h1] at z
    cases z
    obtain ⟨vs, q1, q2⟩ := r0.cell _ a _ h3 (f p hp)
    exact ⟨vs, (e.fro _ _ _ (f.lock p hp) h3).2 _ q1, e.rvs q2⟩
  · rw [unlock_out fun p hp e => hk ⟨p, hp, e⟩] at h2
    exact r.cell k a c h1 h2
end

/-! ### targets -/
def lenT : Tg → Nat
  | .cons _ r => lenT r + 1
  | _ => 0
mutual
def gT (K : PySem.W.Frag) : Tg → TG
  | .n i => gName i
  | .nil => gTup K 0 gNil
  | .cons a r => gTup K (lenT r + 1) (gCons (gT K a) (gTs K r))
def gTs (K : PySem.W.Frag) : Tg → TGs
  | .n _ => gNil
  | .nil => gNil
  | .cons a r => gCons (gT K a) (gTs K r)
end
mutual
def okT : Tg → Bool
  | .n _ => true
  | .nil => true
  | .cons a r => okT a && okS r
def okS : Tg → Bool
  | .n _ => false
  | .nil => true
  | .cons a r => okT a && okS r
end
def slots : Tg → List Nat
  | .n i => [i]
  | .nil => []
  | .cons a r => slots a ++ slots r
theorem gT_mono {K : PySem.W.Frag} : ∀ (t : Tg), (∀ {v : V} {σ : L2.St} {H : Hp} {Q Q' : L2.St → Hp → Prop}, (∀ σ H, Q σ H → Q' σ H) → gT K t v σ H Q → gT K t v σ H Q') ∧ ∀ {v : List V} {σ : L2.St} {H : Hp} {Q Q' : L2.St → Hp → Prop}, (∀ σ H, Q σ H → Q' σ H) → gTs K t v σ H Q → gTs K t v σ H Q'
  | .n i => ⟨fun h q => by unfold gT gName at q ⊢; exact h _ _ q, fun h q => by unfold gTs gNil at q ⊢; exact ⟨q.1, h _ _ q.2⟩⟩
  | .nil => ⟨fun h q => by
      unfold gT gTup gNil at q ⊢
      obtain ⟨a, xs, h1, h2, h3, h4, h5⟩ := q
      exact ⟨a, xs, h1, h2, h3, h4, h _ _ h5⟩, fun h q => by unfold gTs gNil at q ⊢; exact ⟨q.1, h _ _ q.2⟩⟩
  | .cons a r => by
    have key : ∀ {v : List V} {σ : L2.St} {H : Hp} {Q Q' : L2.St → Hp → Prop}, (∀ σ H, Q σ H → Q' σ H) → gCons (gT K a) (gTs K r) v σ H Q → gCons (gT K a) (gTs K r) v σ H Q' := fun h q => by
      obtain ⟨x, xs, h1, h2⟩ := q
      exact ⟨x, xs, h1, (gT_mono a).1 (fun σ H q => (gT_mono r).2 h q) h2⟩
    refine ⟨fun h q => ?_, fun h q => ?_⟩
    · unfold gT gTup at q ⊢
      obtain ⟨a, xs, h1, h2, h3, h4⟩ := q
      exact ⟨a, xs, h1, h2, h3, key h h4⟩
    · unfold gTs at q ⊢
      exact key h q
section
variable {G : Gx} {H : Hp} {m : List Addr}
theorem RF.set {fr : Fr} {σ : L2.St} {i : Nat} {v : PV} {x : V} (r : RF G H m fr σ) (h : RV G H m v x) : RF G H m (fr.set i (some v)) (σ.set i (some x)) := by
  refine ⟨by rw [List.length_set, List.length_set]; exact r.len, fun j u e => ?_⟩
  by_cases hj : i = j
  · subst hj
    have hl : i < fr.length := by
      have := (List.getElem?_eq_some_iff.mp e).1
      rw [List.length_set] at this
      exact this
    rw [List.getElem?_set_self hl] at e
    cases e
    exact ⟨x, List.getElem?_set_self (by rw [← r.len]; exact hl), h⟩
  · rw [List.getElem?_set_ne hj] at e
    rw [List.getElem?_set_ne hj]
    exact r.at_ j u e
theorem wipe_set {σ : L2.St} {x : Option V} {i : Nat} : ∀ {vs : List Nat}, i ∈ vs → L2.wipe (σ.set i x) vs = L2.wipe σ vs
  | v :: vs, h => by
    unfold L2.wipe
    by_cases hi : i ∈ vs
    · rw [wipe_set hi]
    · have e : v = i := by rcases List.mem_cons.mp h with h | h; exact h.symm; exact (hi h).elim
      subst e
      have out : ∀ {vs : List Nat} {σ : L2.St}, v ∉ vs → L2.wipe (σ.set v x) vs = (L2.wipe σ vs).set v x := by
        intro vs
        induction vs with
        | nil => intro σ _; rfl
        | cons u vs ih =>
          intro σ hn
          unfold L2.wipe
          rw [ih fun z => hn (List.mem_cons_of_mem _ z), List.set_comm _ _ (fun z => hn (by rw [z]; exact List.mem_cons_self))]
      rw [out hi, List.set_set]
theorem wipe_wipe (σ : L2.St) : ∀ (us vs : List Nat), (∀ u ∈ us, u ∈ vs) → L2.wipe (L2.wipe σ us) vs = L2.wipe σ vs
  | [], _, _ => rfl
  | u :: us, vs, h => by
    rw [L2.wipe, wipe_set (h u List.mem_cons_self), wipe_wipe σ us vs fun w hw => h w (List.mem_cons_of_mem _ hw)]
theorem RF.wipe {fr : Fr} {σ : L2.St} (r : RF G H m fr σ) : ∀ vs : List Nat, RF G H m (Ev.wipe fr vs) (L2.wipe σ vs)
  | [] => r
  | i :: vs => by
    have q := RF.wipe r vs
    refine ⟨by rw [Ev.wipe, L2.wipe, List.length_set, List.length_set]; exact q.len, fun j u e => ?_⟩
    rw [Ev.wipe] at e
    rw [L2.wipe]
    by_cases hj : i = j
    · subst hj
      have hl : i < (Ev.wipe fr vs).length := by
        have := (List.getElem?_eq_some_iff.mp e).1
        rw [List.length_set] at this
        exact this
      rw [List.getElem?_set_self hl] at e
      cases e
    · rw [List.getElem?_set_ne hj] at e
      rw [List.getElem?_set_ne hj]
      exact q.at_ j u e
theorem setT_len : ∀ {t : Tg} {b : Bool} {xs : List PV} {fr fr' : Fr}, okS t = true → setT t (.tup b xs) fr = some fr' → xs.length = lenT t
  | .n i, _, _, _, _, ho, _ => by cases ho
  | .nil, b, xs, fr, fr', _, e => by
    cases xs with
    | nil => rfl
    | cons => simp [setT] at e
  | .cons a r, b, xs, fr, fr', ho, e => by
    have ho : (okT a && okS r) = true := ho
    obtain ⟨o1, o2⟩ := Bool.and_eq_true_iff.mp ho
    cases xs with
    | nil => simp [setT] at e
    | cons x xs =>
      rw [setT] at e
      split at e
      · rw [List.length_cons, setT_len o2 e]; rfl
      · cases e
mutual
/-- a target set as the evaluator sets it -/
theorem setT_ok {vs : List Nat} : ∀ {t : Tg} {v : PV} {x : V} {fr fr' : Fr} {σ : L2.St}, okT t = true → setT t v fr = some fr' → RV G H m v x → RF G H m fr σ → gT G.K t x σ H fun σ' H' => H' = H ∧ RF G H m fr' σ' ∧ ((∀ i ∈ slots t, i ∈ vs) → L2.wipe σ' vs = L2.wipe σ vs)
  | .n i, v, x, fr, fr', σ, _, e, r, f => by
    rw [setT] at e
    split at e
    · rw [frL_eq] at e
      cases e
      unfold gT gName
      exact ⟨rfl, f.set r, fun h => wipe_set (h i (by simp [slots]))⟩
    · cases e
  | .nil, v, x, fr, fr', σ, _, e, r, f => by
    cases v with
    | tup b xs =>
      cases xs with
      | nil =>
        cases e
        cases r with
        | tup h q =>
          cases q
          unfold gT gTup gNil
          exact ⟨_, [], rfl, h.1, rfl, rfl, rfl, f, fun _ => rfl⟩
      | cons => simp [setT] at e
    | _ => simp [setT] at e
  | .cons a r, v, x, fr, fr', σ, ho, e, rx, f => by
    cases v with
    | tup b xs =>
      cases rx with
      | tup h q =>
        obtain ⟨h1, h2⟩ := setTs_ok (t := .cons a r) (vs := vs) ho e q f
        unfold gT gTup
        unfold gTs at h2
        exact ⟨_, _, rfl, h.1, h1, h2⟩
    | _ => simp [setT] at e
theorem setTs_ok {vs : List Nat} : ∀ {t : Tg} {b : Bool} {xs : List PV} {ys : List V} {fr fr' : Fr} {σ : L2.St}, okS t = true → setT t (.tup b xs) fr = some fr' → RVs G H m xs ys → RF G H m fr σ → ys.length = lenT t ∧ gTs G.K t ys σ H fun σ' H' => H' = H ∧ RF G H m fr' σ' ∧ ((∀ i ∈ slots t, i ∈ vs) → L2.wipe σ' vs = L2.wipe σ vs)
  | .n i, _, _, _, _, _, _, ho, _, _, _ => by cases ho
  | .nil, b, xs, ys, fr, fr', σ, _, e, r, f => by
    cases xs with
    | nil =>
      cases e
      cases r
      unfold gTs gNil
      exact ⟨rfl, rfl, rfl, f, fun _ => rfl⟩
    | cons => simp [setT] at e
  | .cons a r, b, xs, ys, fr, fr', σ, ho, e, rx, f => by
    have ho : (okT a && okS r) = true := ho
    obtain ⟨o1, o2⟩ := Bool.and_eq_true_iff.mp ho
    cases xs with
    | nil => simp [setT] at e
    | cons x xs =>
      cases rx with
      | cons h q =>
        rename_i y ys
        rw [setT] at e
        split at e
        · rename_i fr1 e1
          have z := setT_ok (vs := vs) o1 e1 h f
          refine ⟨by rw [List.length_cons, q.length, setT_len o2 e]; rfl, ?_⟩
          unfold gTs
          refine ⟨y, ys, rfl, (gT_mono a).1 (fun σ1 H1 hh => ?_) z⟩
          obtain ⟨eH, f1, w1⟩ := hh
          rw [eH]
          refine (gT_mono r).2 (fun σ2 H2 hh => ?_) (setTs_ok (vs := vs) o2 e q f1).2
          obtain ⟨eH2, f2, w2⟩ := hh
          refine ⟨eH2, f2, fun hs => ?_⟩
          rw [w2 fun i hi => hs i (by simp [slots, hi]), w1 fun i hi => hs i (by simp [slots, hi])]
        · cases e
end
end
end Ev

/-! Ev13: targets read; what is walked. -/
namespace Ev
open PySem PySem.Spec PyProof.Rows L2

/-- names of the scope so may be stored -/
def StOk (X : Cx) (so : Scope) : Prop := ∀ x, lcB so x = true → Loc X.env.scope x ∧ (X.fn x = true ∨ X.env.scope.names.lookup x = some .local)
mutual
def chkT (N : List Str) (so : Scope) : Tg → Expr → Bool
  | .n i, e => match e with
    | .Name x _ => strB (nth N i) x && lcB so x
    | _ => false
  | .nil, _ => false
  | .cons a r, e => match e with
    | .Tuple es _ _ => (match es with
      | b :: es => chkT N so a b && chkTs N so r es
      | [] => false)
    | _ => false
def chkTs (N : List Str) (so : Scope) : Tg → List Expr → Bool
  | .n _, _ => false
  | .nil, es => match es with
    | [] => true
    | _ => false
  | .cons a r, es => match es with
    | b :: es => chkT N so a b && chkTs N so r es
    | [] => false
end
section
variable {X : Cx} {N : List Str} {so : Scope}
theorem chkT_form {t : Tg} {e : Expr} (h : chkT N so t e = true) : (∃ x p, e = .Name x p) ∨ ∃ es k p, e = .Tuple es k p := by
  cases t with
  | n i =>
    unfold chkT at h
    split at h
    · exact .inl ⟨_, _, rfl⟩
    · cases h
  | nil => cases h
  | cons a r =>
    unfold chkT at h
    split at h
    · exact .inr ⟨_, _, _, rfl⟩
    · cases h
theorem assign_front {t : Tg} {e : Expr} (h : chkT N so t e = true) (es : List Expr) (env : Env) : assignEach (e :: es) env = (false, assign e env) :: assignEach es env := by
  rcases chkT_form h with ⟨x, p, rfl⟩ | ⟨l, k, p, rfl⟩ <;> rfl
theorem assign_plain : ∀ {t : Tg} {es : List Expr}, chkTs N so t es = true → ∀ env : Env, (assignEach es env).length = lenT t ∧ (assignEach es env).findIdx? (·.1) = none
  | .n _, _, h => by cases h
  | .nil, es, h => by
    unfold chkTs at h
    split at h
    · exact fun _ => ⟨rfl, rfl⟩
    · cases h
  | .cons a r, es, h => by
    unfold chkTs at h
    split at h
    · obtain ⟨h1, h2⟩ := Bool.and_eq_true_iff.mp h
      intro env
      obtain ⟨q1, q2⟩ := assign_plain h2 env
      rw [assign_front h1]
      refine ⟨by rw [List.length_cons, q1]; rfl, ?_⟩
      rw [List.findIdx?_cons]
      simp [q2]
    · cases h
mutual
theorem pgT (hc : X.calm = true) (hN : X.N = N) (hd : N.Nodup) (st : StOk X so) : ∀ {t : Tg} {e : Expr}, chkT N so t e = true → PG X e (gT X.K t)
  | .n i, e, h => by
    unfold chkT at h
    split at h
    · obtain ⟨h1, h2⟩ := Bool.and_eq_true_iff.mp h
      have h3 := strB_ok h1
      rw [nth_eq] at h3
      obtain ⟨q1, q2⟩ := st _ h2
      unfold gT
      exact pg_name (by rw [hN]; exact hd) (by rw [hN]; exact h3) q1 q2
    · cases h
  | .nil, e, h => by cases h
  | .cons a r, e, h => by
    unfold chkT at h
    split at h
    · rename_i es k p
      have h' : chkTs N so (.cons a r) es = true := by unfold chkTs; exact h
      obtain ⟨q1, q2⟩ := assign_plain h' X.env
      have z := pgTs hc hN hd st h'
      unfold gTs at z
      unfold gT
      exact pg_tup hc z q1 q2
    · cases h
theorem pgTs (hc : X.calm = true) (hN : X.N = N) (hd : N.Nodup) (st : StOk X so) : ∀ {t : Tg} {es : List Expr}, chkTs N so t es = true → PGs X es (gTs X.K t)
  | .n i, e, h => by cases h
  | .nil, e, h => by
    unfold chkTs at h
    split at h
    · unfold gTs; exact pgs_nil
    · cases h
  | .cons a r, e, h => by
    unfold chkTs at h
    split at h
    · obtain ⟨h1, h2⟩ := Bool.and_eq_true_iff.mp h
      unfold gTs
      exact pgs_cons (pgT hc hN hd st h1) (pgTs hc hN hd st h2) (by rw [assign_front h1]; rfl)
    · cases h
end
mutual
theorem chkT_okT : ∀ {t : Tg} {e : Expr}, chkT N so t e = true → okT t = true
  | .n i, e, h => rfl
  | .nil, e, h => by cases h
  | .cons a r, e, h => by
    unfold chkT at h
    split at h
    · split at h
      · obtain ⟨h1, h2⟩ := Bool.and_eq_true_iff.mp h
        unfold okT
        rw [chkT_okT h1, chkTs_okS h2]
        rfl
      · cases h
    · cases h
theorem chkTs_okS : ∀ {t : Tg} {es : List Expr}, chkTs N so t es = true → okS t = true
  | .n i, e, h => by cases h
  | .nil, e, h => rfl
  | .cons a r, e, h => by
    unfold chkTs at h
    split at h
    · obtain ⟨h1, h2⟩ := Bool.and_eq_true_iff.mp h
      unfold okS
      rw [chkT_okT h1, chkTs_okS h2]
      rfl
    · cases h
end
end

/-! ### what is walked -/
/-- what a walk needs: as Ext, but of what stood at Hs, lists may have changed -/
structure ExtJ (Hs : Hp) (K : PySem.W.Frag) (H : Hp) (m : List Addr) (S : Store) (H' : Hp) (m' : List Addr) (S' : Store) : Prop where
  at_ : ∀ (k : Nat) a, m[k]? = some a → m'[k]? = some a
  out : ∀ a ∈ m', a ∈ m ∨ H a = none
  keep : ∀ a o, Hs a = none → H a = some o → a ∉ m → H' a = some o
  live : ∀ a, H' a = none → H a = none
  tup : ∀ b a vs, TQ K H b a vs → TQ K H' b a vs
  fro : ∀ (k : Nat) xs a, S[k]? = some (.fro xs) → m[k]? = some a → S'[k]? = some (.fro xs) ∧ ∀ o, H a = some o → H' a = some o
section
variable {Hs H H1 H' : Hp} {m m1 m' : List Addr} {S S1 S' : Store}
theorem Ext.j {K : PySem.W.Frag} (e : Ext K H m S H' m' S') : ExtJ Hs K H m S H' m' S' := ⟨fun _ _ h => e.at_ h, fun a h => by
  obtain ⟨r, e1, e2⟩ := e.pre
  rw [e1] at h
  exact (List.mem_append.mp h).imp id (e2 a), fun a o _ h n => e.keep a o h n, e.live, e.tup, e.fro⟩
theorem ExtJ.step {K : PySem.W.Frag} (e : ExtJ Hs K H m S H1 m1 S1) (x : Ext K H1 m1 S1 H' m' S') : ExtJ Hs K H m S H' m' S' := by
  refine ⟨fun k a h => x.at_ (e.at_ k a h), fun a h => ?_, fun a o hs h n => ?_, fun a h => e.live a (x.live a h), fun b a vs h => x.tup b a vs (e.tup b a vs h), fun k xs a h1 h2 => ?_⟩
  · obtain ⟨r, e1, e2⟩ := x.pre
    rw [e1] at h
    rcases List.mem_append.mp h with z | z
    · exact e.out a z
    · exact .inr (e.live a (e2 a z))
  · refine x.keep a o (e.keep a o hs h n) fun z => ?_
    rcases e.out a z with q | q
    · exact n q
    · rw [q] at h; cases h
  · obtain ⟨a1, a2⟩ := e.fro k xs a h1 h2
    obtain ⟨b1, b2⟩ := x.fro k xs a a1 (e.at_ k a h2)
    exact ⟨b1, fun o h => b2 o (a2 o h)⟩
theorem ExtJ.sq {K : PySem.W.Frag} (x : ExtJ Hs K H m S H' m' S') {a : Addr} {vs : List V} (h : SqT K H a vs) : SqT K H' a vs := (x.tup false a vs (.of h)).1
theorem ExtJ.rv {G : Gx} (x : ExtJ Hs G.K H m S H' m' S') {v : PV} {u : V} (r : RV G H m v u) : RV G H' m' v u := r.mono x.tup x.at_
end
/-- J walks xs, from (H1, m1, L) on -/
def JOk (G : Gx) (Hs : Hp) (J : It) (xs : List PV) (H1 : Hp) (m1 : List Addr) (L : Store) : Prop := ∀ (i : Nat) H2 m2 S2, ExtJ Hs G.K H1 m1 L H2 m2 S2 → RS G H2 m2 S2 →
  (i = xs.length → J.stop i H2) ∧ ∀ v, xs[i]? = some v → J.go i H2 ∧ ∀ x H3, J.yld i H2 x H3 → Ext G.K H2 m2 S2 H3 m2 S2 ∧ RS G H3 m2 S2 ∧ RV G H3 m2 v x
def tI (G : Gx) (F : Fn) (C : List PV) (W : WX) (it : I) : TI := fun σ H R => ∃ fr S m, RF G H m fr σ ∧ RS G H m S ∧ PR G W σ H m S (evi F C it fr S) fun w S1 m1 H1 => ∀ J, Free S1 w.2 → JOk G H J w.1 H1 m1 (lock S1 w.2) → R J H1
abbrev SI (X : Cx) (G : Gx) (F : Fn) (C : List PV) (W : WX) (it : I) (tg e : Expr) : Prop := PI X tg e (tI G F C W it)
theorem impI {X : Cx} {tg e : Expr} {t t' : TI} (h : PI X tg e t) (i : ∀ σ H Q, t' σ H Q → t σ H Q) : PI X tg e t' := ⟨fun pins s σ H Q I q => h.run pins s σ H Q I (i σ H Q q)⟩
section
variable {G : Gx} {F : Fn} {C : List PV} {W : WX} {X : Cx} {T : Tb} {N : List Str} {sc : Scope} {n : Nat}
/-- a list or a tuple walked: where it stands, and that it stands -/
theorem walk_ok {Hs H : Hp} {m : List Addr} {S : Store} {v : PV} {x : V} {w : Wk} (r : RS G H m S) (rt : RT G (fun a => Hs a = none) H m v x) (e : walk S v = some w) :
    Free S w.2 ∧ ∃ a vs, x = .ref a ∧ RVs G H m w.1 vs ∧ (if isTup v then SqT G.K H a vs else SqL G.K H a vs ∧ ∀ L H2 m2 S2, (∀ p ∈ w.2, L[p.1]? = some (.fro p.2)) → (∀ (k : Nat) xs, S[k]? = some (.fro xs) → L[k]? = some (.fro xs)) → ExtJ Hs G.K H m L H2 m2 S2 → SqL G.K H2 a vs) := by
  cases v with
  | tup b xs =>
    cases e
    cases rt with
    | tup h q => exact ⟨fun p hp => by simp at hp, _, _, rfl, q, by simp only [isTup, if_true]; exact h.1⟩
  | new xs =>
    cases e
    obtain ⟨a, vs, h1, h2, h3, h4, h5⟩ := rt
    exact ⟨fun p hp => by simp at hp, a, vs, h1, h5, by
      simp only [isTup, if_false, Bool.false_eq_true]
      exact ⟨.inl (.inl h4), fun L H2 m2 S2 _ _ x => .inl (.inl (x.keep a _ h2 h4 h3))⟩⟩
  | ref k =>
    unfold walk at e
    dsimp only at e
    cases rt with
    | ref h =>
      rename_i a
      split at e
      · rename_i xs q
        cases e
        obtain ⟨vs, q1, q2⟩ := r.cell k _ _ h q
        refine ⟨fun p hp => by simp at hp; subst hp; exact q, a, vs, rfl, q2, ?_⟩
        simp only [isTup, if_false, Bool.false_eq_true]
        exact ⟨.inl (.inl q1), fun L H2 m2 S2 h1 _ x => .inl (.inl ((x.fro k xs a (h1 (k, xs) (by simp)) h).2 _ q1))⟩
      · rename_i xs q
        cases e
        obtain ⟨vs, q1, q2⟩ := r.cell k _ _ h q
        refine ⟨fun p hp => by simp at hp, a, vs, rfl, q2, ?_⟩
        simp only [isTup, if_false, Bool.false_eq_true]
        refine ⟨.inl q1, fun L H2 m2 S2 _ h2 x => .inl ?_⟩
        have z := (x.fro k xs a (h2 k xs q) h).2
        rcases q1 with q1 | ⟨o, q1⟩
        · exact .inl (z _ q1)
        · exact .inr ⟨o, z _ q1⟩
      · cases e
  | _ => cases e
theorem s_srcE (g : Good X G F C W T N sc n) {a : E} {tg a' : Expr} (ha : SE X G F C W a a') : SI X G F C W (.e a) tg a' := impI (pi_seq ha.pe) fun σ H R h => by
  rw [g.kk]
  obtain ⟨fr, S, m, rf, rs, p⟩ := h
  rw [evi] at p
  refine ⟨fr, S, m, rf, rs, p.bnd.imp fun v S1 m1 H1 x1 r1 q x rv => ?_⟩
  cases e : walk S1 v with
  | none => rw [e] at q; exact q.elim
  | some w =>
    rw [e] at q
    obtain ⟨f, b, vs, rfl, rvs, hh⟩ := walk_ok r1 rv e
    refine ⟨b, rfl, ?_⟩
    have fin : ∀ J, JOk G H J w.1 H1 m1 (lock S1 w.2) → R J H1 := fun J hJ => q m1 H1 x1 r1 J f hJ
    split at hh
    · refine .inr ⟨⟨vs, hh⟩, fin _ fun i H2 m2 S2 x2 r2 => ⟨fun hi => ?_, fun u hu => ?_⟩⟩
      · exact ⟨vs, x2.sq hh, by rw [rvs.length]; exact Nat.le_of_eq hi.symm⟩
      · obtain ⟨y, h1, h2⟩ := rvs.get hu
        refine ⟨⟨vs, y, x2.sq hh, h1⟩, fun z H3 hz => ?_⟩
        obtain ⟨rfl, hz⟩ := hz
        have := hz vs (x2.sq hh)
        rw [h1] at this
        cases this
        exact ⟨.refl, r2, x2.rv h2⟩
    · obtain ⟨h0, hk⟩ := hh
      refine .inl ⟨⟨vs, h0⟩, fin _ fun i H2 m2 S2 x2 r2 => ?_⟩
      have sq := hk _ H2 m2 S2 f.lock (fun k xs => f.fro) x2
      refine ⟨fun hi => ⟨vs, sq, by rw [rvs.length]; exact Nat.le_of_eq hi.symm⟩, fun u hu => ?_⟩
      obtain ⟨y, h1, h2⟩ := rvs.get hu
      refine ⟨⟨vs, y, sq, h1⟩, fun z H3 hz => ?_⟩
      obtain ⟨rfl, hz⟩ := hz
      have := hz vs sq
      rw [h1] at this
      cases this
      exact ⟨.refl, r2, x2.rv h2⟩
theorem enumL_get : ∀ (xs : List PV) (k i : Nat), (enumL k xs)[i]? = (xs[i]?).map fun x => PV.tup false [.int (.ofNat (k + i)), x]
  | [], k, i => by simp [enumL]
  | x :: r, k, 0 => by simp [enumL]
  | x :: r, k, i + 1 => by
    rw [enumL, frN_eq, List.getElem?_cons_succ, enumL_get r (k + 1) i, List.getElem?_cons_succ, show k + 1 + i = k + (i + 1) by omega]
theorem enumL_len : ∀ (xs : List PV) (k : Nat), (enumL k xs).length = xs.length
  | [], _ => rfl
  | x :: r, k => by rw [enumL, frN_eq, List.length_cons, enumL_len r, List.length_cons]
/-- a pair made at a turn -/
theorem pair_ok {H2 : Hp} {m2 : List Addr} {S2 : Store} {v u : PV} {x y : V} {p : Addr} (r : RS G H2 m2 S2) (hp : H2 p = none) (h1 : RV G H2 m2 v x) (h2 : RV G H2 m2 u y) :
    Ext G.K H2 m2 S2 (upd H2 p (.tup [x, y])) m2 S2 ∧ RS G (upd H2 p (.tup [x, y])) m2 S2 ∧ RV G (upd H2 p (.tup [x, y])) m2 (.tup false [v, u]) (.ref p) :=
  ⟨.new hp, r.new hp, .tup (.of (.inl (.inl upd_same))) (RVs.mono (tup_new hp) (fun _ _ z => z) (.cons h1 (.cons h2 .nil)))⟩
theorem bn (x : Str) (h : x ∈ bnames) : x ∈ bnames := h
theorem s_srcEn (g : Good X G F C W T N sc n) {a : E} {a' : Expr} {elts : List Expr} {kk : Nat} {x : Str} {p pos tpos : Pos} (hx : x = "enumerate") (hg : glB sc x = true) (ha : SE X G F C W a a') (hn : noStar a' = true) : SI X G F C W (.enum a) (.Tuple elts kk tpos) (.Call (.Name x p) [a'] [] pos) := by
  subst hx
  refine impI (pi_enumA (glB_ok g.sc hg) (g.free _ (by simp [bnames])) (pa_cons ha.pe pa_nil (noStar_ok hn)) (noStar_ok hn)) fun σ H R h => ?_
  rw [g.kk]
  obtain ⟨fr, S, m, rf, rs, p⟩ := h
  rw [evi] at p
  refine ⟨fr, S, m, rf, rs, p.bnd.imp fun v S1 m1 H1 x1 r1 q x rv => ?_⟩
  split at q
  · rename_i w e
    obtain ⟨f, b, vs, rfl, rvs, hh⟩ := walk_ok r1 rv e
    refine ⟨b, vs, rfl, ?_⟩
    have fin : ∀ J, JOk G H J (enumL 0 w.1) H1 m1 (lock S1 w.2) → R J H1 := fun J hJ => q m1 H1 x1 r1 J f hJ
    have itm : ∀ {i : Nat} {u : PV} {H2 : Hp} {m2 : List Addr} {S2 : Store}, ExtJ H G.K H1 m1 (lock S1 w.2) H2 m2 S2 → (enumL 0 w.1)[i]? = some u → ∃ v y, u = .tup false [.int (i : Nat), v] ∧ vs[i]? = some y ∧ RV G H2 m2 v y := fun {i u H2 m2 S2} x2 hu => by
      rw [enumL_get, Nat.zero_add] at hu
      obtain ⟨v, h1, h2⟩ := Option.map_eq_some_iff.mp hu
      obtain ⟨y, h3, h4⟩ := rvs.get h1
      exact ⟨v, y, h2.symm, h3, x2.rv h4⟩
    split at hh
    · refine .inr ⟨hh, fin _ fun i H2 m2 S2 x2 r2 => ⟨fun hi => ?_, fun u hu => ?_⟩⟩
      · exact ⟨vs, x2.sq hh, by rw [rvs.length, hi, enumL_len]⟩
      · obtain ⟨v, y, rfl, h1, h2⟩ := itm x2 hu
        refine ⟨⟨vs, y, x2.sq hh, h1⟩, fun z H3 hz => ?_⟩
        obtain ⟨p, y', rfl, hp, rfl, hz⟩ := hz
        have := hz vs (x2.sq hh)
        rw [h1] at this
        cases this
        exact pair_ok r2 hp (.int _) h2
    · obtain ⟨h0, hk⟩ := hh
      refine .inl ⟨h0, fin _ fun i H2 m2 S2 x2 r2 => ?_⟩
      have sq := hk _ H2 m2 S2 f.lock (fun k xs => f.fro) x2
      refine ⟨fun hi => ⟨vs, sq, by rw [rvs.length, hi, enumL_len]; exact Nat.le_refl _⟩, fun u hu => ?_⟩
      obtain ⟨v, y, rfl, h1, h2⟩ := itm x2 hu
      refine ⟨⟨vs, y, sq, h1⟩, fun z H3 hz => ?_⟩
      obtain ⟨p, y', rfl, hp, rfl, hz⟩ := hz
      have := hz vs sq
      rw [h1] at this
      cases this
      exact pair_ok r2 hp (.int _) h2
  · exact q.elim
theorem rangeL_len : ∀ (n : Nat) (lo : Int), (rangeL lo n).length = n
  | 0, _ => rfl
  | n + 1, lo => by rw [rangeL, frI_eq, List.length_cons, rangeL_len n]
theorem rangeL_get : ∀ (n : Nat) (lo : Int) (i : Nat) (v : PV), (rangeL lo n)[i]? = some v → i < n ∧ v = .int (lo + i)
  | 0, _, i, v, h => by simp [rangeL] at h
  | n + 1, lo, 0, v, h => by
    rw [rangeL] at h
    simp at h
    exact ⟨Nat.succ_pos _, by rw [← h]; simp⟩
  | n + 1, lo, i + 1, v, h => by
    rw [rangeL, frI_eq, List.getElem?_cons_succ] at h
    obtain ⟨h1, h2⟩ := rangeL_get n (lo + 1) i v h
    exact ⟨Nat.succ_lt_succ h1, by rw [h2]; congr 1; omega⟩
theorem small62_ok {i : Int} (h : small62 i = true) : -(2 ^ 62) ≤ i ∧ i < 2 ^ 62 := by
  cases i with
  | ofNat n =>
    have : n < 4611686018427387904 := by simpa [small62] using h
    constructor <;> simp only [Int.ofNat_eq_natCast] <;> omega
  | negSucc n =>
    have : n < 4611686018427387904 := by simpa [small62] using h
    constructor <;> omega
theorem itr_ok (Hs : Hp) (lo : Int) (n : Nat) (H1 : Hp) (m1 : List Addr) (L : Store) : JOk G Hs (Itr lo n) (rangeL lo n) H1 m1 L := fun i H2 m2 S2 x2 r2 =>
  ⟨fun hi => by rw [hi, rangeL_len]; exact Nat.le_refl _, fun v hv => by
    obtain ⟨h1, rfl⟩ := rangeL_get n lo i v hv
    refine ⟨h1, fun z H3 hz => ?_⟩
    obtain ⟨rfl, rfl⟩ := hz
    exact ⟨.refl, r2, .int _⟩⟩
theorem s_srcR1 (g : Good X G F C W T N sc n) {a : E} {a' tg : Expr} {x : Str} {p pos : Pos} (hx : x = "range") (hg : glB sc x = true) (ha : SE X G F C W a a') (hn : noStar a' = true) : SI X G F C W (.rng (.cons a .nil)) tg (.Call (.Name x p) [a'] [] pos) := by
  subst hx
  refine impI (pi_range1 (glB_ok g.sc hg) (g.free _ (by simp [bnames])) (pa_cons ha.pe pa_nil (noStar_ok hn)) (noStar_ok hn)) fun σ H R h => ?_
  obtain ⟨fr, S, m, rf, rs, p⟩ := h
  rw [evi, evs] at p
  refine ⟨fr, S, m, rf, rs, p.bnd.bnd.imp fun v S1 m1 H1 x1 r1 q x rv => ?_⟩
  rw [evs] at q
  have q := q m1 H1 x1 r1
  cases v with
  | int j =>
    cases rv
    dsimp only at q
    split at q
    · rename_i hs
      obtain ⟨h1, h2⟩ := small62_ok hs
      exact ⟨j, rfl, h1, h2, q m1 H1 x1 r1 _ (fun p hp => by simp at hp) (itr_ok _ _ _ _ _ _)⟩
    · exact q.elim
  | _ => exact q.elim
theorem s_srcR2 (g : Good X G F C W T N sc n) {a b : E} {a' b' tg : Expr} {x : Str} {p pos : Pos} (hx : x = "range") (hg : glB sc x = true) (ha : SE X G F C W a a') (hn : noStar a' = true) (hb : SE X G F C W b b') (hm : noStar b' = true) : SI X G F C W (.rng (.cons a (.cons b .nil))) tg (.Call (.Name x p) [a', b'] [] pos) := by
  subst hx
  refine impI (pi_range2 (glB_ok g.sc hg) (g.free _ (by simp [bnames])) (pa_cons ha.pe (pa_cons hb.pe pa_nil (noStar_ok hm)) (noStar_ok hn)) ((noStar_ok hn).trans (by rw [noStar_ok hm]; rfl)) (noStar_ok hm)) fun σ H R h => ?_
  obtain ⟨fr, S, m, rf, rs, p⟩ := h
  rw [evi, evs] at p
  refine ⟨fr, S, m, rf, rs, p.bnd.bnd.imp fun v S1 m1 H1 x1 r1 q x rv => ?_⟩
  rw [evs] at q
  refine tE.of rf x1 r1 ((q.bnd.bnd.shift x1).imp fun u S2 m2 H2 x2 r2 q y ru => ?_)
  have e2 := x1.trans x2
  rw [evs] at q
  have q := q m2 H2 e2 r2
  have q := q m2 H2 e2 r2
  cases v with
  | int i =>
    cases u with
    | int j =>
      cases rv
      cases ru
      dsimp only at q
      split at q
      · rename_i hs
        obtain ⟨s1, s2⟩ := Bool.and_eq_true_iff.mp hs
        obtain ⟨h1, h2⟩ := small62_ok s1
        obtain ⟨h3, h4⟩ := small62_ok s2
        exact ⟨i, j, rfl, ⟨h1, h2, h3, h4⟩, q m2 H2 e2 r2 _ (fun p hp => by simp at hp) (itr_ok _ _ _ _ _ _)⟩
      · exact q.elim
    | _ => exact q.elim
  | _ => cases u <;> exact q.elim
theorem zipL_get : ∀ (xs ys : List PV) (i : Nat) (v : PV), (zipL xs ys)[i]? = some v → ∃ x y, xs[i]? = some x ∧ ys[i]? = some y ∧ v = .tup false [x, y]
  | [], ys, i, v, h => by simp [zipL] at h
  | x :: xs, [], i, v, h => by simp [zipL] at h
  | x :: xs, y :: ys, 0, v, h => by simp [zipL] at h; exact ⟨x, y, rfl, rfl, h.symm⟩
  | x :: xs, y :: ys, i + 1, v, h => by
    rw [zipL, List.getElem?_cons_succ] at h
    obtain ⟨a, b, h1, h2, h3⟩ := zipL_get xs ys i v h
    exact ⟨a, b, by simpa using h1, by simpa using h2, h3⟩
theorem zipL_len : ∀ (xs ys : List PV), (zipL xs ys).length = xs.length ∨ (zipL xs ys).length = ys.length
  | [], ys => .inl (by simp [zipL])
  | x :: xs, [] => .inr (by simp [zipL])
  | x :: xs, y :: ys => by
    rcases zipL_len xs ys with h | h
    · exact .inl (by simp [zipL, h])
    · exact .inr (by simp [zipL, h])
theorem s_srcZ (g : Good X G F C W T N sc n) {a b : E} {a' b' : Expr} {elts : List Expr} {kk : Nat} {x : Str} {p pos tpos : Pos} (hx : x = "zip") (hg : glB sc x = true) (ha : SE X G F C W a a') (hn : noStar a' = true) (hb : SE X G F C W b b') (hm : noStar b' = true) : SI X G F C W (.zip a b) (.Tuple elts kk tpos) (.Call (.Name x p) [a', b'] [] pos) := by
  subst hx
  refine impI (RZ.pi_zipA (glB_ok g.sc hg) (g.free _ (by simp [bnames])) (pa_cons ha.pe (pa_cons hb.pe pa_nil (noStar_ok hm)) (noStar_ok hn)) (noStar_ok hn) (noStars_ok (by simp [noStars, hm]))) fun σ H R h => ?_
  rw [g.kk]
  obtain ⟨fr, S, m, rf, rs, p⟩ := h
  rw [evi] at p
  refine ⟨fr, S, m, rf, rs, p.bnd.imp fun v S1 m1 H1 x1 r1 q x rv => ?_⟩
  refine tE.of rf x1 r1 ((q.bnd.shift x1).imp fun u S2 m2 H2 x2 r2 q y ru => ?_)
  have e2 := x1.trans x2
  have rv := x2.rt rv
  split at q
  · rename_i hk
    split at q
    · rename_i w w' e e'
      obtain ⟨f, b, vs, rfl, rvs, hh⟩ := walk_ok r2 rv e
      obtain ⟨f', b', vs', rfl, rvs', hh'⟩ := walk_ok r2 (ru.back x1.live) e'
      have ff : Free S2 (w.2 ++ w'.2) := fun p hp => by
        rcases List.mem_append.mp hp with z | z
        · exact f p z
        · exact f' p z
      refine ⟨b, b', vs, vs', rfl, ?_⟩
      have fin : ∀ J, JOk G H J (zipL w.1 w'.1) H2 m2 (lock S2 (w.2 ++ w'.2)) → R J H2 := fun J hJ => q m2 H2 e2 r2 J ff hJ
      have itm : ∀ {i : Nat} {u : PV} {H3 : Hp} {m3 : List Addr} {S3 : Store}, ExtJ H G.K H2 m2 (lock S2 (w.2 ++ w'.2)) H3 m3 S3 → (zipL w.1 w'.1)[i]? = some u → ∃ v y v' y', u = .tup false [v, v'] ∧ vs[i]? = some y ∧ vs'[i]? = some y' ∧ RV G H3 m3 v y ∧ RV G H3 m3 v' y' := fun {i u H3 m3 S3} x3 hu => by
        obtain ⟨v, v', h1, h2, h3⟩ := zipL_get _ _ _ _ hu
        obtain ⟨y, h4, h5⟩ := rvs.get h1
        obtain ⟨y', h6, h7⟩ := rvs'.get h2
        exact ⟨v, y, v', y', h3, h4, h6, x3.rv h5, x3.rv h7⟩
      have kb : isTup v = isTup u := by simpa using hk
      have len : ∀ i, i = (zipL w.1 w'.1).length → vs.length ≤ i ∨ vs'.length ≤ i := fun i hi => by
        rcases zipL_len w.1 w'.1 with z | z
        · exact .inl (by rw [hi, z, rvs.length]; exact Nat.le_refl _)
        · exact .inr (by rw [hi, z, rvs'.length]; exact Nat.le_refl _)
      rw [← kb] at hh'
      split at hh
      · rename_i ht
        rw [if_pos ht] at hh'
        refine .inr ⟨hh, hh', fin _ fun i H3 m3 S3 x3 r3 => ⟨fun hi => ?_, fun u hu => ?_⟩⟩
        · exact ⟨vs, vs', x3.sq hh, x3.sq hh', len i hi⟩
        · obtain ⟨v, y, v', y', rfl, h1, h1', h2, h2'⟩ := itm x3 hu
          refine ⟨⟨vs, vs', y, y', x3.sq hh, x3.sq hh', h1, h1'⟩, fun z H4 hz => ?_⟩
          obtain ⟨p, z1, z2, rfl, hp, rfl, hz, hz'⟩ := hz
          have t1 := hz vs (x3.sq hh)
          have t2 := hz' vs' (x3.sq hh')
          rw [h1] at t1
          rw [h1'] at t2
          cases t1
          cases t2
          exact pair_ok r3 hp h2 h2'
      · rename_i ht
        rw [if_neg ht] at hh'
        obtain ⟨h0, hk⟩ := hh
        obtain ⟨h0', hk'⟩ := hh'
        refine .inl ⟨h0, h0', fin _ fun i H3 m3 S3 x3 r3 => ?_⟩
        have sq := hk _ H3 m3 S3 (fun p hp => ff.lock p (List.mem_append_left _ hp)) (fun k xs => ff.fro) x3
        have sq' := hk' _ H3 m3 S3 (fun p hp => ff.lock p (List.mem_append_right _ hp)) (fun k xs => ff.fro) x3
        refine ⟨fun hi => ⟨vs, vs', sq, sq', len i hi⟩, fun u hu => ?_⟩
        obtain ⟨v, y, v', y', rfl, h1, h1', h2, h2'⟩ := itm x3 hu
        refine ⟨⟨vs, vs', y, y', sq, sq', h1, h1'⟩, fun z H4 hz => ?_⟩
        obtain ⟨p, z1, z2, rfl, hp, rfl, hz, hz'⟩ := hz
        have t1 := hz vs sq
        have t2 := hz' vs' sq'
        rw [h1] at t1
        rw [h1'] at t2
        cases t1
        cases t2
        exact pair_ok r3 hp h2 h2'
    · exact q.elim
  · exact q.elim
end
end Ev

/-! Ev14: comprehensions. -/
namespace Ev
open PySem PySem.Spec PyProof.Rows L2

/-- nothing is raised here -/
def WF : WX := fun _ _ _ _ => False
section
variable {G : Gx} {W : WX} {σ : L2.St} {H : Hp} {m : List Addr} {S : Store} {α β : Type}
theorem PR.nx {r : Ev.R α} {k : α → Store → Ev.R β} {P : β → Store → List Addr → Hp → Prop} (W' : WX) (σ' : L2.St) (h : PR G W σ H m S (r.nx.bnd k) P) : PR G W' σ' H m S r fun v S1 m1 H1 => PR G W σ H m S (k v S1) P := by
  cases r with
  | ok v S' => exact fun m' H' e' q => h
  | exc c S' => exact h.elim
  | stk => exact h
theorem PR.nx1 {r : Ev.R α} {P : α → Store → List Addr → Hp → Prop} (W' : WX) (σ' : L2.St) (h : PR G W σ H m S r.nx P) : PR G W' σ' H m S r P := by
  cases r with
  | ok v S' => exact h
  | exc c S' => exact h.elim
  | stk => exact h
end
/-! ### a list of one's own -/
section
variable {G : Gx} {H Hs H1 : Hp} {m m1 : List Addr} {S L : Store} {D : Addr} {zs ys : List V}
theorem sqt_own {K : PySem.W.Frag} (hD : H D = some (.lst zs)) : ∀ a vs, SqT K H a vs → SqT K (upd H D (.lst ys)) a vs := fun a vs h => by
  rcases h with (h | ⟨o, h⟩) | h
  · exact .inl (.inl (by rw [upd_ne (fun e => by rw [e, hD] at h; cases h)]; exact h))
  · exact .inl (.inr ⟨o, by rw [upd_ne (fun e => by rw [e, hD] at h; cases h)]; exact h⟩)
  · exact .inr h
theorem tup_own {K : PySem.W.Frag} (hD : H D = some (.lst zs)) : ∀ b a vs, TQ K H b a vs → TQ K (upd H D (.lst ys)) b a vs := fun b a vs h =>
  ⟨sqt_own hD a vs h.1, fun z => let ⟨o', us, q, r⟩ := h.2 z; ⟨o', us, by rw [upd_ne (fun e => by rw [e, hD] at q; cases q)]; exact q, r⟩⟩
theorem RS.own (r : RS G H m S) (n : D ∉ m) (hD : H D = some (.lst zs)) : RS G (upd H D (.lst ys)) m S := by
  refine ⟨r.len, r.nd, fun k a c h1 h2 => ?_⟩
  have ne : a ≠ D := fun e => n (e ▸ List.mem_of_getElem? h1)
  have z := r.cell k a c h1 h2
  cases c with
  | lst xs =>
    obtain ⟨vs, q1, q2⟩ := z
    exact ⟨vs, by rw [upd_ne ne]; exact q1, q2.mono (tup_own hD) fun _ _ z => z⟩
  | fro xs =>
    obtain ⟨vs, q1, q2⟩ := z
    refine ⟨vs, ?_, q2.mono (tup_own hD) fun _ _ z => z⟩
    rcases q1 with q1 | ⟨o, q1⟩
    · exact .inl (by rw [upd_ne ne]; exact q1)
    · exact .inr ⟨o, by rw [upd_ne ne]; exact q1⟩
theorem Ext.own {K : PySem.W.Frag} (e : Ext K H1 m1 L H m S) (h1 : H1 D = none) (hD : H D = some (.lst zs)) : Ext K H1 m1 L (upd H D (.lst ys)) m S := by
  have ne : ∀ {a o}, H1 a = some o → a ≠ D := fun {a o} h e => by rw [e, h1] at h; cases h
  exact ⟨e.pre, fun a o h n => by rw [upd_ne (ne h)]; exact e.keep a o h n, fun a h => e.live a (upd_none h), fun b a vs h => tup_own hD b a vs (e.tup b a vs h), fun k xs a q1 q2 => by
    obtain ⟨z1, z2⟩ := e.fro k xs a q1 q2
    exact ⟨z1, fun o h => by rw [upd_ne (ne h)]; exact z2 o h⟩⟩
theorem ExtJ.own {K : PySem.W.Frag} (e : ExtJ Hs K H1 m1 L H m S) (h1 : Hs D = none → H1 D = none) (n : D ∉ m) (hD : H D = some (.lst zs)) : ExtJ Hs K H1 m1 L (upd H D (.lst ys)) m S :=
  ⟨e.at_, e.out, fun a o hs h q => by rw [upd_ne (fun z => by rw [z] at hs h; rw [h1 hs] at h; cases h)]; exact e.keep a o hs h q, fun a h => e.live a (upd_none h), fun b a vs h => tup_own hD b a vs (e.tup b a vs h), fun k xs a q1 q2 => by
    obtain ⟨z1, z2⟩ := e.fro k xs a q1 q2
    exact ⟨z1, fun o h => by rw [upd_ne (fun z => by have w := List.mem_of_getElem? (e.at_ k a q2); rw [z] at w; exact n w)]; exact z2 o h⟩⟩
theorem ExtJ.rf {fr : Fr} {σ : L2.St} (e : ExtJ Hs G.K H1 m1 L H m S) (r : RF G H1 m1 fr σ) : RF G H m fr σ :=
  ⟨r.len, fun i v h => let ⟨x, h1, h2⟩ := r.at_ i v h; ⟨x, h1, e.rv h2⟩⟩
end

/-! ### turns -/
/-- a test, a value, told as runs -/
def tTF (G : Gx) (W : WX) (cf : Fr → Store → Ev.R PV) : TT := fun σ H Q => ∃ fr S m, RF G H m fr σ ∧ RS G H m S ∧ PR G W σ H m S (cf fr S) fun v _ _ H' => ∃ b, v = .bl b ∧ Q b H'
def tEF (G : Gx) (W : WX) (ef : Fr → Store → Ev.R PV) : TE := fun σ H Q => ∃ fr S m, RF G H m fr σ ∧ RS G H m S ∧ PR G W σ H m S (ef fr S) (Pv G H Q)
section
variable (G : Gx) (W : WX) (σ : L2.St) (H0 : Hp) (m0 : List Addr) (S0 : Store) (Hs Hj : Hp) (mj : List Addr) (Lj : Store) (D : Addr)
/-- where a comprehension stands -/
structure At (FIN : List PV → Store → List Addr → Hp → Prop) (acc : List PV) (Sc : Store) (mc : List Addr) (Hc : Hp) : Prop where
  e : Ext G.K H0 m0 S0 Hc mc Sc
  j : ExtJ Hs G.K Hj mj Lj Hc mc Sc
  r : RS G Hc mc Sc
  n : D ∉ mc
  ac : ∃ accV, Hc D = some (.lst accV) ∧ RVs G Hc mc acc accV
  fin : FIN acc Sc mc Hc
/-- before the i-th turn -/
def Lp (t : Tg) (fr : Fr) (cf ef : Fr → Store → Ev.R PV) (xs : List PV) (FIN : List PV → Store → List Addr → Hp → Prop) (i : Nat) (Hc : Hp) : Prop := i ≤ xs.length ∧
  ∃ mc Sc acc, At G H0 m0 S0 Hs Hj mj Lj D (fun acc Sc _ _ => PR G W σ H0 m0 S0 (turns t fr cf ef (xs.drop i) acc.length Sc) fun vs S' m' H' => FIN (acc ++ vs) S' m' H') acc Sc mc Hc
end
section
variable {G : Gx} {W : WX} {σ : L2.St} {H0 : Hp} {m0 : List Addr} {S0 : Store} {Hs Hj : Hp} {mj : List Addr} {Lj : Store} {D : Addr} {FIN : List PV → Store → List Addr → Hp → Prop}
theorem lp_step {J : It} {xs : List PV} {t : Tg} {fr : Fr} {cf ef : Fr → Store → Ev.R PV} {σw : L2.St} {vs : List Nat} (hJ : JOk G Hs J xs Hj mj Lj) (hsD : Hs D = none → Hj D = none) (h0D : H0 D = none) (ht : okT t = true) (hv : ∀ i ∈ slots t, i ∈ vs) (rf : RF G Hj mj fr σw)
    {i : Nat} {Hc : Hp} (h : Lp G W σ H0 m0 S0 Hs Hj mj Lj D t fr cf ef xs FIN i Hc) :
    (J.stop i Hc ∧ ∃ mc Sc acc, At G H0 m0 S0 Hs Hj mj Lj D FIN acc Sc mc Hc) ∨
    (J.go i Hc ∧ i < xs.length ∧ ∀ x H', J.yld i Hc x H' → gT G.K t x σw H' fun σ2 H2 => L2.wipe σ2 vs = L2.wipe σw vs ∧ tTF G WF cf σ2 H2 fun b H3 =>
      if b = true then tEF G WF ef σ2 H3 fun y H4 => ∃ acc, H4 D = some (.lst acc) ∧ acc.length < sizeLine ∧ Lp G W σ H0 m0 S0 Hs Hj mj Lj D t fr cf ef xs FIN (i + 1) (upd H4 D (.lst (acc ++ [y]))) else Lp G W σ H0 m0 S0 Hs Hj mj Lj D t fr cf ef xs FIN (i + 1) H3) := by
  obtain ⟨hi, mc, Sc, acc, A⟩ := h
  obtain ⟨accV, aD, av⟩ := A.ac
  obtain ⟨jstop, jgo⟩ := hJ i Hc mc Sc A.j A.r
  have f := A.fin
  by_cases hlt : i < xs.length
  · obtain ⟨go, yl⟩ := jgo xs[i] (List.getElem?_eq_getElem hlt)
    refine .inr ⟨go, hlt, fun x H' hy => ?_⟩
    obtain ⟨x1, r1, rx⟩ := yl x H' hy
    rw [List.drop_eq_getElem_cons hlt, turns] at f
    split at f
    · rename_i fr1 e1
      refine (gT_mono t).1 (fun σ2 H2 hh => ?_) (setT_ok (vs := vs) ht e1 rx ((A.j.step x1).rf rf))
      obtain ⟨eH, f1, w1⟩ := hh
      rw [eH]
      refine ⟨w1 hv, fr1, Sc, mc, f1, r1, ((PR.nx WF σ2 f).shift (A.e.trans x1)).imp fun b S3 m3 H3 x3 r3 q => ?_⟩
      have x13 := x1.trans x3
      have e3 := A.e.trans x13
      have j3 := A.j.step x13
      have n3 : D ∉ m3 := x13.out aD A.n
      have aD3 : H3 D = some (.lst accV) := x13.keep D _ aD A.n
      rcases pick_ok q with ⟨rfl, q⟩ | ⟨rfl, q⟩
      · refine ⟨true, rfl, ?_⟩
        dsimp only
        rw [if_pos rfl]
        refine ⟨fr1, S3, m3, x3.rf f1, r3, ((PR.nx WF σ2 q).shift e3).imp fun v S4 m4 H4 x4 r4 q y ry => ?_⟩
        obtain ⟨m5, x5, r5, ry5⟩ := x4.mat r4 ry
        dsimp only at q
        split at q
        · rename_i hb
          have hb : acc.length < 16777216 := by simpa using hb
          have aD5 : H4 D = some (.lst accV) := x5.keep D _ aD3 n3
          have n5 : D ∉ m5 := x5.out aD3 n3
          refine ⟨accV, aD5, by rw [av.length]; exact hb, hlt, m5, (mat v S4).2, acc ++ [(mat v S4).1], ?_⟩
          have mono : ∀ b a vs, TQ G.K H4 b a vs → TQ G.K (upd H4 D (.lst (accV ++ [y]))) b a vs := tup_own aD5
          refine ⟨(e3.trans x5).own h0D aD5, (j3.step x5).own hsD n5 aD5, r5.own n5 aD5, n5, ⟨_, upd_same, ?_⟩, ?_⟩
          · exact (((x13.trans x5).rvs av).append (.cons ry5 .nil)).mono mono fun _ _ z => z
          · rw [List.length_append]
            exact q.bnd.imp fun us S' m' H' e' r' h => by
              have z := h m' H' e' r'
              rw [List.append_assoc]
              exact z
        · exact q.elim
      · refine ⟨false, rfl, ?_⟩
        dsimp only
        rw [if_neg (by decide)]
        exact ⟨hlt, m3, S3, acc, e3, j3, r3, n3, ⟨accV, aD3, x13.rvs av⟩, q⟩
    · exact f.elim
  · have ei : i = xs.length := Nat.le_antisymm hi (Nat.le_of_not_lt hlt)
    refine .inl ⟨jstop ei, mc, Sc, acc, A.e, A.j, A.r, A.n, ⟨accV, aD, av⟩, ?_⟩
    rw [ei, List.drop_length, turns] at f
    have z := f mc Hc A.e A.r
    dsimp only at z
    rw [List.append_nil] at z
    exact z
end

/-! ### blocks -/
section
variable {G : Gx} {F : Fn} {C : List PV} {W : WX} {X : Cx} {T : Tb} {N : List Str} {sc : Scope} {n : Nat}
theorem blk_good (g : Good X G F C W T N sc n) (scope : Scope) (s : Shared) (H : Hp) (c : Addr) (cl : List (Str × Addr)) (fp : List Addr) : Good (X.blk s H scope (compEnvC scope cl c X.env) fp) G F C WF T N (relS scope sc) n where
  kk := g.kk
  sc := by rw [← g.sc]; rfl
  nn := g.nn
  nd := g.nd
  plain := g.plain
  calm := g.calm
  room := g.room
  tk := fun u s' h => by obtain ⟨_, _, _, _, _, _, _, _, _, _, _, _, _, _, _, _, z⟩ := h; exact z.elim
  fn := g.fn
  nf := g.nf
  free := g.free
  cst := g.cst
  dct := g.dct
  gcd := g.gcd
  fac := g.fac
  inj := g.inj
theorem blk_st (X : Cx) (scope : Scope) (s : Shared) (H : Hp) (c : Addr) (cl : List (Str × Addr)) (fp : List Addr) : StOk (X.blk s H scope (compEnvC scope cl c X.env) fp) scope := fun x h => by
  unfold lcB at h
  split at h
  · rename_i q
    have z : (compEnvC scope cl c X.env).scope.names.lookup x = some .local := lookup_relS_keep (sc := X.env.scope) (by intro h; cases h) q
    exact ⟨.inl z, .inr z⟩
  · rename_i q
    have z : (compEnvC scope cl c X.env).scope.names.lookup x = some .cell := lookup_relS_keep (sc := X.env.scope) (by intro h; cases h) q
    refine ⟨.inr z, .inl ?_⟩
    show (scope.names.lookup x == some .cell) = true
    rw [q]
    rfl
  · cases h
theorem pgK {X : Cx} {K : PySem.W.Frag} {so : Scope} {t : Tg} {e : Expr} (hk : X.K = K) (hc : X.calm = true) (hN : X.N = N) (hd : N.Nodup) (st : StOk X so) (h : chkT N so t e = true) : PG X e (gT K t) := by
  subst hk
  exact pgT hc hN hd st h
/-- a clause's tests -/
def cfP (F : Fn) (C : List PV) : P → Fr → Store → Ev.R PV
  | .none => fun _ S => .ok (.bl true) S
  | .some c => ev F C c
theorem impTs {X : Cx} {e : List Expr} {t t' : TT} (h : PTs X e t) (i : ∀ σ H Q, t' σ H Q → t σ H Q) : PTs X e t' := ⟨fun pins s σ H Q I q => h.run pins s σ H Q I (i σ H Q q)⟩
abbrev SC (X : Cx) (G : Gx) (F : Fn) (C : List PV) (W : WX) (c : P) (ifs : List Expr) : Prop := PTs X ifs (tTF G W (cfP F C c))
theorem c_none : SC X G F C W .none [] := impTs pts_nil fun σ H Q h => by
  obtain ⟨fr, S, m, rf, rs, p⟩ := h
  obtain ⟨b, e, q⟩ := p m H .refl rs
  cases e
  exact q
theorem c_some {c : E} {c' : Expr} (h : SE X G F C W c c') (t : tstB c' = true) : SC X G F C W (.some c) [c'] := impTs (pts_one (h.test t)) fun σ H Q h => h
theorem lp_start {σ : L2.St} {H0 : Hp} {m0 : List Addr} {S0 : Store} {Hs Hj : Hp} {mj : List Addr} {Lj : Store} {D : Addr} {FIN : List PV → Store → List Addr → Hp → Prop} {t : Tg} {fr : Fr} {cf ef : Fr → Store → Ev.R PV} {xs acc : List PV} {Sc : Store} {mc : List Addr} {Hc : Hp}
    (A : At G H0 m0 S0 Hs Hj mj Lj D (fun acc Sc _ _ => PR G W σ H0 m0 S0 (turns t fr cf ef xs acc.length Sc) fun vs S' m' H' => FIN (acc ++ vs) S' m' H') acc Sc mc Hc) : Lp G W σ H0 m0 S0 Hs Hj mj Lj D t fr cf ef xs FIN 0 Hc := ⟨Nat.zero_le _, mc, Sc, acc, A⟩
theorem comp_imp {os : List Nat} {own : List (Str × Nat)} {t : Tg} {it : I} {c : P} {e : E} (ho : own.map (·.2) = os) (hv : ∀ i ∈ slots t, i ∈ os) (ht : okT t = true) (σ : L2.St) (H : Hp) (Q : VK) (h : tE G F C W (.comp os t it c e) σ H Q) :
    tLc (tI G F C W it) (gT G.K t) (tTF G WF (cfP F C c)) (tE G F C WF e) (own.map (·.2)) σ H Q := by
  obtain ⟨fr, S, m, rf, rs, p⟩ := h
  have e0 : ∀ fr S, ev F C (.comp os t it c e) fr S = (evi F C it fr S).bnd fun w S => (turns t (wipe fr os) (cfP F C c) (ev F C e) w.1 0 (lock S w.2)).bnd fun vs S => .ok (.new vs) (unlock S w.2) := fun fr S => by
    cases c <;> rfl
  rw [e0] at p
  refine ⟨fr, S, m, rf, rs, p.bnd.imp fun w S1 m1 H1 x1 r1 q J f hJ D hD => ?_⟩
  have xl := x1.trans (Ext.lock f)
  have rl := r1.lock f
  refine ⟨fun i mm Hc => mm = w.1.length - i ∧ Lp G W σ H1 m1 (lock S1 w.2) H H1 m1 (lock S1 w.2) D t (wipe fr os) (cfP F C c) (ev F C e) w.1 (fun zs S' m' H' => PR G W σ H m S (.ok (.new zs) (unlock S' w.2)) (Pv G H Q)) i Hc, ⟨_, rfl, lp_start (acc := []) (mc := m1) (Sc := lock S1 w.2) ?_⟩, fun i mm Hc hh => ?_⟩
  · refine ⟨Ext.new hD, (Ext.new hD).j, rl.new hD, fun z => ?_, ⟨[], upd_same, .nil⟩, ?_⟩
    · obtain ⟨o, z⟩ := rl.there z
      rw [hD] at z
      cases z
    · exact q.bnd.shift xl
  · obtain ⟨rfl, hh⟩ := hh
    have wf : RF G H1 m1 (wipe fr os) (L2.wipe σ os) := (x1.rf rf).wipe os
    rcases lp_step (vs := os) hJ (fun _ => hD) hD ht hv wf hh with ⟨stop, mc, Sc, acc, A⟩ | ⟨go, hlt, step⟩
    · refine .inl ⟨stop, ?_⟩
      obtain ⟨accV, aD, av⟩ := A.ac
      exact A.fin mc Hc (Ext.unlock x1 f A.e) (RS.unlock r1 f A.e A.r) _ ⟨D, accV, rfl, x1.live D hD, A.n, aD, av⟩
    · refine .inr ⟨go, fun H' => Lp G W σ H1 m1 (lock S1 w.2) H H1 m1 (lock S1 w.2) D t (wipe fr os) (cfP F C c) (ev F C e) w.1 (fun zs S' m' H' => PR G W σ H m S (.ok (.new zs) (unlock S' w.2)) (Pv G H Q)) (i + 1) H', fun H' hn => ⟨_, by omega, rfl, hn⟩, fun x H' hy => ?_⟩
      rw [ho]
      refine (gT_mono t).1 (fun σ2 H2 hz => ?_) (step x H' hy)
      obtain ⟨w1, tt⟩ := hz
      exact ⟨w1.trans (wipe_wipe σ os os fun u hu => hu), tt⟩
theorem s_comp (g : Good X G F C W T N sc n) {os : List Nat} {own : List (Str × Nat)} {t : Tg} {it : I} {c : P} {e : E} {tg iter elt : Expr} {ifs : List Expr} {scope : Scope} {pos : Pos} (ho : own.map (·.2) = os) (hi : SI X G F C W it tg iter) (ok : blkC N sc scope own = true) (hv : ∀ i ∈ slots t, i ∈ os)
    (ht : chkT N scope t tg = true) (hc : ∀ X', Good X' G F C WF T N (relS scope sc) n → SC X' G F C WF c ifs) (he : ∀ X', Good X' G F C WF T N (relS scope sc) n → SE X' G F C WF e elt) (hs : ∀ x, foldedSetIterable iter X.env x = pure x) :
    SE X G F C W (.comp os t it c e) (.ListComp elt [⟨tg, iter, ifs, 0⟩] scope pos) := by
  have okb : BlkOk X.N X.env.scope scope own := by rw [g.nn, g.sc]; exact blkOk_by ok
  refine .plain (impE (pe_lc g.calm (by rw [g.nn]; exact g.nd) hi okb
    (fun s H c cl fp => pgK (X := X.blk s H scope (compEnvC scope cl c X.env) fp) g.kk g.calm g.nn g.nd (blk_st X scope s H c cl fp) ht)
    (fun s H c cl fp => hc _ (blk_good g scope s H c cl fp)) (fun s H c cl fp => (he _ (blk_good g scope s H c cl fp)).pe) hs) fun σ H Q h => comp_imp ho hv (chkT_okT ht) σ H Q h) rfl
end
end Ev

/-! Ev15: comprehensions of two fors. -/
namespace Ev
open PySem PySem.Spec PyProof.Rows L2

section
variable {G : Gx} {H H0 H2 Hs : Hp} {m m0 m2 : List Addr} {S S0 S2 : Store} {w : LK}
theorem Ext.unlockJ {K : PySem.W.Frag} (e0 : Ext K H0 m0 S0 H m S) (f : Free S w) (z : Ext K H0 m0 S0 H2 m2 S2) : Ext K H0 m0 S0 H2 m2 (Ev.unlock S2 w) := by
  refine ⟨z.pre, z.keep, z.live, z.tup, fun k xs a h1 h2 => ?_⟩
  obtain ⟨q1, q2⟩ := z.fro k xs a h1 h2
  refine ⟨?_, q2⟩
  rw [unlock_out fun p hp e => ?_]
  · exact q1
  · have y := f p hp
    rw [e, (e0.fro k xs a h1 h2).1] at y
    cases y
theorem RS.unlockJ (r0 : RS G H m S) (f : Free S w) (e : ExtJ Hs G.K H m (Ev.lock S w) H2 m2 S2) (r : RS G H2 m2 S2) : RS G H2 m2 (Ev.unlock S2 w) := by
  have le : ∀ k, k < S.length → k < S2.length := fun k hk => by
    have hk : k < m.length := by rw [r0.len]; exact hk
    rw [← r.len]
    exact (List.getElem?_eq_some_iff.mp (e.at_ k _ (List.getElem?_eq_getElem hk))).1
  refine ⟨by rw [unlock_len]; exact r.len, r.nd, fun k a c h1 h2 => ?_⟩
  by_cases hk : ∃ p ∈ w, p.1 = k
  · obtain ⟨p, hp, rfl⟩ := hk
    rw [unlock_in f.uniq (fun p hp => le _ (f.lt p hp)) p hp] at h2
    cases h2
    obtain ⟨a', h3⟩ : ∃ a', m[p.1]? = some a' := ⟨_, List.getElem?_eq_getElem (by rw [r0.len]; exact f.lt p hp)⟩
    have z := e.at_ _ _ h3
    rw [h1] at z
    cases z
    obtain ⟨vs, q1, q2⟩ := r0.cell _ a _ h3 (f p hp)
    exact ⟨vs, (e.fro _ _ _ (f.lock p hp) h3).2 _ q1, q2.mono e.tup e.at_⟩
  · rw [unlock_out fun p hp e => hk ⟨p, hp, e⟩] at h2
    exact r.cell k a c h1 h2
end
section
variable {G : Gx} {F : Fn} {C : List PV} {W : WX} {X : Cx} {T : Tb} {N : List Str} {sc : Scope} {n : Nat}
/-- the inner for -/
def gF (F : Fn) (C : List PV) (os2 : List Nat) (t2 : Tg) (it2 : I) (c2 : P) (e : E) : Fr → Nat → Store → Ev.R (List PV) := fun fr1 n S => (evi F C it2 fr1 S).bnd fun w S => (turns t2 (wipe fr1 os2) (cfP F C c2) (ev F C e) w.1 n (lock S w.2)).bnd fun vs S => .ok vs (unlock S w.2)
theorem comp2_imp {os os2 : List Nat} {own : List (Str × Nat)} {t t2 : Tg} {it it2 : I} {c c2 : P} {e : E} (ho : own.map (·.2) = os) (hv : ∀ i ∈ slots t, i ∈ os) (hv2 : ∀ i ∈ slots t2, i ∈ os2) (ht : okT t = true) (ht2 : okT t2 = true) (σ : L2.St) (H : Hp) (Q : VK) (h : tE G F C W (.comp2 os t it c os2 t2 it2 c2 e) σ H Q) :
    tLc2 (tI G F C W it) (gT G.K t) (tTF G WF (cfP F C c)) (tI G F C WF it2) (gT G.K t2) (tTF G WF (cfP F C c2)) (tE G F C WF e) (own.map (·.2)) os2 σ H Q := by
  obtain ⟨fr, S, m, rf, rs, p⟩ := h
  have e0 : ∀ fr S, ev F C (.comp2 os t it c os2 t2 it2 c2 e) fr S = (evi F C it fr S).bnd fun w S => (turns2 t (wipe fr os) (cfP F C c) (gF F C os2 t2 it2 c2 e) w.1 0 (lock S w.2)).bnd fun vs S => .ok (.new vs) (unlock S w.2) := fun fr S => by
    cases c <;> cases c2 <;> rfl
  rw [e0] at p
  refine ⟨fr, S, m, rf, rs, p.bnd.imp fun w S1 m1 H1 x1 r1 q J f hJ D hD => ?_⟩
  have xl := x1.trans (Ext.lock f)
  have rl := r1.lock f
  -- before the i-th turn
  let L : Nat → Hp → Prop := fun i Hc => i ≤ w.1.length ∧ ∃ mc Sc acc, At G H1 m1 (lock S1 w.2) H H1 m1 (lock S1 w.2) D (fun acc Sc _ _ => PR G W σ H1 m1 (lock S1 w.2) (turns2 t (wipe fr os) (cfP F C c) (gF F C os2 t2 it2 c2 e) (w.1.drop i) acc.length Sc) fun vs S' m' H' => PR G W σ H m S (.ok (.new (acc ++ vs)) (unlock S' w.2)) (Pv G H Q)) acc Sc mc Hc
  refine ⟨fun i mm Hc => mm = w.1.length - i ∧ L i Hc, ⟨_, rfl, Nat.zero_le _, m1, lock S1 w.2, [], ?_⟩, fun i mm Hc hh => ?_⟩
  · refine ⟨Ext.new hD, (Ext.new hD).j, rl.new hD, fun z => ?_, ⟨[], upd_same, .nil⟩, ?_⟩
    · obtain ⟨o, z⟩ := rl.there z
      rw [hD] at z
      cases z
    · exact q.bnd.shift xl
  obtain ⟨rfl, hi, mc, Sc, acc, A⟩ := hh
  obtain ⟨accV, aD, av⟩ := A.ac
  obtain ⟨jstop, jgo⟩ := hJ i Hc mc Sc A.j A.r
  have fq := A.fin
  have wf : RF G H1 m1 (wipe fr os) (L2.wipe σ os) := (x1.rf rf).wipe os
  by_cases hlt : i < w.1.length
  · obtain ⟨go, yl⟩ := jgo w.1[i] (List.getElem?_eq_getElem hlt)
    refine .inr ⟨go, fun H' => L (i + 1) H', fun H' hn => ⟨_, by omega, rfl, hn⟩, fun x H' hy => ?_⟩
    obtain ⟨x2, r2, rx⟩ := yl x H' hy
    rw [List.drop_eq_getElem_cons hlt, turns2] at fq
    split at fq
    · rename_i fr1 e1
      rw [ho]
      refine (gT_mono t).1 (fun σ2 H2 hz => ?_) (setT_ok (vs := os) ht e1 rx ((A.j.step x2).rf wf))
      obtain ⟨eH, f1, w1⟩ := hz
      rw [eH]
      refine ⟨(w1 hv).trans (wipe_wipe σ os os fun u hu => hu), fr1, Sc, mc, f1, r2, ((PR.nx WF σ2 fq).shift (A.e.trans x2)).imp fun b S3 m3 H3 x3 r3 q => ?_⟩
      have x23 := x2.trans x3
      have e3 := A.e.trans x23
      have n3 : D ∉ m3 := x23.out aD A.n
      have aD3 : H3 D = some (.lst accV) := x23.keep D _ aD A.n
      rcases pick_ok q with ⟨rfl, q⟩ | ⟨rfl, q⟩
      · refine ⟨true, rfl, ?_⟩
        dsimp only
        rw [if_pos rfl]
        -- the inner for
        refine ⟨fr1, S3, m3, x3.rf f1, r3, ((PR.nx WF σ2 q).bnd.shift e3).imp fun w2 S4 m4 H4 x4 r4 q J1 f4 hJ1 => ?_⟩
        have e4 := e3.trans x4
        have n4 : D ∉ m4 := x4.out aD3 n3
        have aD4 : H4 D = some (.lst accV) := x4.keep D _ aD3 n3
        let FIN1 : List PV → Store → List Addr → Hp → Prop := fun zs S' m' H' => ∃ vs, zs = acc ++ vs ∧ PR G WF σ2 H1 m1 (lock S1 w.2) (.ok vs (unlock S' w2.2)) fun vs S' m' H' => PR G W σ H1 m1 (lock S1 w.2)
          (frN (acc.length + vs.length) fun m => (turns2 t (wipe fr os) (cfP F C c) (gF F C os2 t2 it2 c2 e) (w.1.drop (i + 1)) m S').bnd fun us S => frL (vs ++ us) fun ws => .ok ws S) fun vs S' m' H' => PR G W σ H m S (.ok (.new (acc ++ vs)) (unlock S' w.2)) (Pv G H Q)
        refine ⟨fun j k Hc => k = w2.1.length - j ∧ Lp G WF σ2 H1 m1 (lock S1 w.2) H3 H4 m4 (lock S4 w2.2) D t2 (wipe fr1 os2) (cfP F C c2) (ev F C e) w2.1 FIN1 j Hc, ⟨_, rfl, lp_start (acc := acc) (mc := m4) (Sc := lock S4 w2.2) ?_⟩, fun j k Hi hh => ?_⟩
        · refine ⟨e4.trans (Ext.lock f4), Ext.refl.j, r4.lock f4, n4, ⟨accV, aD4, (x23.trans x4).rvs av⟩, ?_⟩
          exact q.bnd.imp fun vs S' m' H' e' r' h => ⟨vs, rfl, h⟩
        · obtain ⟨rfl, hh⟩ := hh
          have wf2 : RF G H4 m4 (wipe fr1 os2) (L2.wipe σ2 os2) := ((x3.trans x4).rf f1).wipe os2
          rcases lp_step (vs := os2) hJ1 (fun z => by rw [aD3] at z; cases z) hD ht2 hv2 wf2 hh with ⟨stop, mi, Si, zs, B⟩ | ⟨go1, hlt1, step1⟩
          · refine .inl ⟨stop, hlt, mi, unlock Si w2.2, zs, ?_⟩
            obtain ⟨bV, bD, bv⟩ := B.ac
            obtain ⟨vs, rfl, fin⟩ := B.fin
            have eu := Ext.unlockJ e4 f4 B.e
            have ru := RS.unlockJ r4 f4 B.j B.r
            refine ⟨eu, eu.j, ru, B.n, ⟨bV, bD, bv⟩, ?_⟩
            have z := fin mi Hi eu ru
            dsimp only at z
            rw [frN_eq] at z
            rw [List.length_append]
            exact z.bnd.imp fun us S' m' H' e' r' h => by
              rw [frL_eq] at h
              have z := h m' H' e' r'
              rw [List.append_assoc]
              exact z
          · refine .inr ⟨go1, fun H' => Lp G WF σ2 H1 m1 (lock S1 w.2) H3 H4 m4 (lock S4 w2.2) D t2 (wipe fr1 os2) (cfP F C c2) (ev F C e) w2.1 FIN1 (j + 1) H', fun H' hn => ⟨_, by omega, rfl, hn⟩, fun x H' hy => ?_⟩
            refine (gT_mono t2).1 (fun σ3 H5 hz => ?_) (step1 x H' hy)
            obtain ⟨w3, tt⟩ := hz
            exact ⟨w3.trans (wipe_wipe σ2 os2 os2 fun u hu => hu), tt⟩
      · refine ⟨false, rfl, ?_⟩
        dsimp only
        rw [if_neg (by decide)]
        exact ⟨hlt, m3, S3, acc, e3, e3.j, r3, n3, ⟨accV, aD3, x23.rvs av⟩, q⟩
    · exact fq.elim
  · have ei : i = w.1.length := Nat.le_antisymm hi (Nat.le_of_not_lt hlt)
    refine .inl ⟨jstop ei, ?_⟩
    rw [ei, List.drop_length, turns2] at fq
    have z := fq mc Hc A.e A.r
    dsimp only at z
    rw [List.append_nil] at z
    exact z mc Hc (Ext.unlock x1 f A.e) (RS.unlock r1 f A.e A.r) _ ⟨D, accV, rfl, x1.live D hD, A.n, aD, av⟩
theorem s_comp2 (g : Good X G F C W T N sc n) {os os2 : List Nat} {own : List (Str × Nat)} {t t2 : Tg} {it it2 : I} {c c2 : P} {e : E} {tg iter tg2 iter2 elt : Expr} {ifs ifs2 : List Expr} {scope : Scope} {pos : Pos} (ho : own.map (·.2) = os) (hi : SI X G F C W it tg iter) (ok : blkC N sc scope own = true) (hv : ∀ i ∈ slots t, i ∈ os) (hv2 : ∀ i ∈ slots t2, i ∈ os2) (ho2 : ∀ i ∈ os2, i ∈ os)
    (ht : chkT N scope t tg = true) (ht2 : chkT N scope t2 tg2 = true) (hc : ∀ X', Good X' G F C WF T N (relS scope sc) n → SC X' G F C WF c ifs) (hc2 : ∀ X', Good X' G F C WF T N (relS scope sc) n → SC X' G F C WF c2 ifs2)
    (hi2 : ∀ X', Good X' G F C WF T N (relS scope sc) n → SI X' G F C WF it2 tg2 iter2) (he : ∀ X', Good X' G F C WF T N (relS scope sc) n → SE X' G F C WF e elt) (hs : ∀ x, foldedSetIterable iter X.env x = pure x) (hs2 : ∀ env x, foldedSetIterable iter2 env x = pure x) :
    SE X G F C W (.comp2 os t it c os2 t2 it2 c2 e) (.ListComp elt [⟨tg, iter, ifs, 0⟩, ⟨tg2, iter2, ifs2, 0⟩] scope pos) := by
  have okb : BlkOk X.N X.env.scope scope own := by rw [g.nn, g.sc]; exact blkOk_by ok
  refine .plain (impE (pe_lc2 (vs1 := os2) g.calm (by rw [g.nn]; exact g.nd) hi okb (by rw [ho]; exact ho2)
    (fun s H c cl fp => pgK (X := X.blk s H scope (compEnvC scope cl c X.env) fp) g.kk g.calm g.nn g.nd (blk_st X scope s H c cl fp) ht)
    (fun s H c cl fp => hc _ (blk_good g scope s H c cl fp)) (fun s H c cl fp => hi2 _ (blk_good g scope s H c cl fp))
    (fun s H c cl fp => pgK (X := X.blk s H scope (compEnvC scope cl c X.env) fp) g.kk g.calm g.nn g.nd (blk_st X scope s H c cl fp) ht2)
    (fun s H c cl fp => hc2 _ (blk_good g scope s H c cl fp)) (fun s H c cl fp => (he _ (blk_good g scope s H c cl fp)).pe) hs hs2) fun σ H Q h => comp2_imp ho hv hv2 (chkT_okT ht) (chkT_okT ht2) σ H Q h) rfl
end
end Ev

/-! Ev16: statements. -/
namespace Ev
open PySem PySem.Spec PyProof.Rows L2

/-- what a statement comes to, from (H, m, S) -/
def XR (G : Gx) (W : WX) (H : Hp) (m : List Addr) (S : Store) (D : Ends) (x : X) : Prop := match x with
  | .ok f fr S' => ∀ σ m' H', Ext G.K H m S H' m' S' → RS G H' m' S' → RF G H' m' fr σ → (match f with
    | .nx => D.nx σ H'
    | .brk => D.bk σ H'
    | .cont => D.ct σ H'
    | .ret v => ∀ x, RT G (fun a => H a = none) H' m' v x → D.rt x H')
  | .exc c fr S' => ∀ σ m' H', Ext G.K H m S H' m' S' → RS G H' m' S' → RF G H' m' fr σ → W (.ref (G.ca c)) none σ H'
  | .stk => False
def tS (G : Gx) (F : Fn) (C : List PV) (W : WX) (s : Sx) : TS := fun D σ H => ∃ fr S m, RF G H m fr σ ∧ RS G H m S ∧ XR G W H m S D (exec F C s fr S)
def tSs (G : Gx) (F : Fn) (C : List PV) (W : WX) (s : Ss) : TS := fun D σ H => ∃ fr S m, RF G H m fr σ ∧ RS G H m S ∧ XR G W H m S D (execs F C s fr S)
abbrev SS (X : Cx) (G : Gx) (F : Fn) (C : List PV) (W : WX) (s : Sx) (st : Stmt) : Prop := PS X st (tS G F C W s)
abbrev SSs (X : Cx) (G : Gx) (F : Fn) (C : List PV) (W : WX) (s : Ss) (st : List Stmt) : Prop := PSs X st (tSs G F C W s)
theorem impS {X : Cx} {e : Stmt} {t t' : TS} (h : PS X e t) (i : ∀ D σ H, t' D σ H → t D σ H) : PS X e t' := ⟨fun pins s σ H D I q => h.run pins s σ H D I (i D σ H q)⟩
theorem impSs {X : Cx} {e : List Stmt} {t t' : TS} (h : PSs X e t) (i : ∀ D σ H, t' D σ H → t D σ H) : PSs X e t' := ⟨fun pins s σ H D I q => h.run pins s σ H D I (i D σ H q)⟩
section
variable {G : Gx} {F : Fn} {C : List PV} {W : WX} {X : Cx} {T : Tb} {N : List Str} {sc : Scope} {n : Nat} {H H1 : Hp} {m m1 : List Addr} {S S1 : Store} {D : Ends} {σ : L2.St} {fr : Fr} {α : Type}
theorem XR.shift {x : Ev.X} (e : Ext G.K H m S H1 m1 S1) (h : XR G W H m S D x) : XR G W H1 m1 S1 D x := by
  cases x with
  | ok f fr S' =>
    intro σ m' H' e' r' f'
    have z := h σ m' H' (e.trans e') r' f'
    cases f with
    | ret v => exact fun x rx => z x (rx.back e.live)
    | _ => exact z
  | exc c fr S' => exact fun σ m' H' e' r' f' => h σ m' H' (e.trans e') r' f'
  | stk => exact h
theorem XR.st {r : Ev.R α} {k : α → Store → Ev.X} (rf : RF G H m fr σ) (h : XR G W H m S D (r.st fr k)) : PR G W σ H m S r fun v S1 m1 H1 => XR G W H m S D (k v S1) := by
  cases r with
  | ok v S' => exact fun m' H' e r => h
  | exc c S' => exact fun m' H' e r => h σ m' H' e r (e.rf rf)
  | stk => exact h
theorem XR.nx {f' : Fr} (h : XR G W H m S D (.ok .nx f' S1)) (e : Ext G.K H m S H1 m1 S1) (r : RS G H1 m1 S1) (f : RF G H1 m1 f' σ) : D.nx σ H1 := h σ m1 H1 e r f

/-! ### small ones -/
theorem s_pass {pos : Pos} : SS X G F C W .pass (.Pass pos) := impS ps_pass fun D σ H h => by
  obtain ⟨fr, S, m, rf, rs, x⟩ := h
  rw [exec] at x
  exact x.nx .refl rs rf
theorem s_brk {pos : Pos} : SS X G F C W .brk (.Break pos) := impS ps_break fun D σ H h => by
  obtain ⟨fr, S, m, rf, rs, x⟩ := h
  rw [exec] at x
  exact x σ m H .refl rs rf
theorem s_cont {pos : Pos} : SS X G F C W .cont (.Continue pos) := impS ps_continue fun D σ H h => by
  obtain ⟨fr, S, m, rf, rs, x⟩ := h
  rw [exec] at x
  exact x σ m H .refl rs rf
theorem s_retN {pos : Pos} : SS X G F C W .retN (.Return none pos) := impS ps_retN fun D σ H h => by
  obtain ⟨fr, S, m, rf, rs, x⟩ := h
  rw [exec] at x
  exact x σ m H .refl rs rf _ (RT.of .non)
theorem s_ret {e : E} {e' : Expr} {pos : Pos} (he : SE X G F C W e e') : SS X G F C W (.ret e) (.Return (some e') pos) := impS (ps_ret he.pe) fun D σ H h => by
  obtain ⟨fr, S, m, rf, rs, x⟩ := h
  rw [exec] at x
  exact ⟨fr, S, m, rf, rs, (x.st rf).imp fun v S1 m1 H1 x1 r1 q y ry => q σ m1 H1 x1 r1 (x1.rf rf) y ry⟩
def notComp : Expr → Bool
  | .ListComp .. => false
  | .SetComp .. => false
  | .DictComp .. => false
  | _ => true
theorem notComp_ok {e : Expr} (h : notComp e = true) (t : Option Expr) (l : Nat) (env : Env) : swapsWith e t l env = pure false := by
  cases e <;> first | rfl | cases h
theorem s_ex {e : E} {e' : Expr} {pos : Pos} (he : SE X G F C W e e') (hn : notComp e' = true) : SS X G F C W (.ex e) (.Expr e' pos) := impS (ps_expr he.pe (notComp_ok hn _ _ _)) fun D σ H h => by
  obtain ⟨fr, S, m, rf, rs, x⟩ := h
  rw [exec] at x
  exact ⟨fr, S, m, rf, rs, (x.st rf).imp fun v S1 m1 H1 x1 r1 q y ry => q.nx x1 r1 (x1.rf rf)⟩
theorem s_doc {x j pos pos'} : SS X G F C W .pass (.Expr (.Constant (.str x) j pos) pos') := impS ps_doc fun D σ H h => by
  obtain ⟨fr, S, m, rf, rs, x⟩ := h
  rw [exec] at x
  exact x.nx .refl rs rf
theorem s_raise {e : Option Expr} {c : Nat} {o : Option Expr} {pos : Pos} : SS X G F C W (.raise c) (.Raise e o pos) := impS ps_never fun D σ H h => by
  obtain ⟨fr, S, m, rf, rs, x⟩ := h
  rw [exec] at x
  exact x
theorem s_unkS {st : Stmt} : SS X G F C W .unk st := impS ps_never fun D σ H h => by
  obtain ⟨fr, S, m, rf, rs, x⟩ := h
  rw [exec] at x
  exact x
theorem ss_nil : SSs X G F C W .nil [] := impSs pss_nil fun D σ H h => by
  obtain ⟨fr, S, m, rf, rs, x⟩ := h
  rw [execs] at x
  exact x.nx .refl rs rf
theorem ss_cons {s : Sx} {r : Ss} {st : Stmt} {l : List Stmt} (h1 : SS X G F C W s st) (h2 : SSs X G F C W r l) : SSs X G F C W (.cons s r) (st :: l) := impSs (pss_cons h1 h2) fun D σ H h => by
  obtain ⟨fr, S, m, rf, rs, x⟩ := h
  rw [execs] at x
  refine ⟨fr, S, m, rf, rs, ?_⟩
  cases e : exec F C s fr S with
  | stk => rw [e] at x; exact x
  | exc c fr' S' => rw [e] at x; exact x
  | ok f fr' S' =>
    rw [e] at x
    cases f with
    | nx => exact fun σ' m' H' e' r' f' => ⟨fr', S', m', f', r', x.shift e'⟩
    | brk => exact x
    | cont => exact x
    | ret v => exact x
theorem s_ifs {c : E} {a b : Ss} {c' : Expr} {a' b' : List Stmt} {pos : Pos} (hc : SE X G F C W c c') (t : tstB c' = true) (ha : SSs X G F C W a a') (hb : SSs X G F C W b b') : SS X G F C W (.ifs c a b) (.If c' a' b' pos) := impS (ps_if (hc.test t) ha hb) fun D σ H h => by
  obtain ⟨fr, S, m, rf, rs, x⟩ := h
  rw [exec] at x
  refine ⟨fr, S, m, rf, rs, (x.st rf).imp fun v S1 m1 H1 x1 r1 q => ?_⟩
  split at q
  · refine ⟨true, rfl, ?_⟩
    dsimp only
    rw [if_pos rfl]
    exact ⟨fr, S1, m1, x1.rf rf, r1, q.shift x1⟩
  · refine ⟨false, rfl, ?_⟩
    dsimp only
    rw [if_neg (by decide)]
    exact ⟨fr, S1, m1, x1.rf rf, r1, q.shift x1⟩
  · exact q.elim

/-! ### stores -/
theorem setT_of {t : Tg} {v : PV} {x : V} {fr' : Fr} {Q : L2.St → Hp → Prop} (ht : okT t = true) (e : setT t v fr = some fr') (r : RV G H m v x) (f : RF G H m fr σ) (q : ∀ σ', RF G H m fr' σ' → Q σ' H) : gT G.K t x σ H Q :=
  (gT_mono t).1 (fun σ' H' h => by obtain ⟨eH, f', _⟩ := h; rw [eH]; exact q σ' f') (setT_ok (vs := []) ht e r f)
/-- a value stored -/
theorem setX_ok {t : Tg} {v : PV} {x : V} (ht : okT t = true) (rf : RF G H m fr σ) (x1 : Ext G.K H m S H1 m1 S1) (r1 : RS G H1 m1 S1) (rx : RT G (fun a => H a = none) H1 m1 v x) (h : XR G W H m S D (setX t v fr S1)) : gT G.K t x σ H1 D.nx := by
  obtain ⟨m2, x2, r2, v2⟩ := x1.mat r1 rx
  unfold setX at h
  dsimp only at h
  split at h
  · rename_i fr' e
    exact setT_of ht e v2 (x2.rf rf) fun σ' f' => h.nx x2 r2 f'
  · exact h.elim
theorem blockKind_of (hk : X.env.scope.kind = .function) : X.env.blockKind = .function := by unfold Env.blockKind; rw [hk]; rfl
def isName : Expr → Bool
  | .Name .. => true
  | _ => false
/-- a comprehension's store that does not swap -/
def plainSw (sc : Scope) (tg e : Expr) : Bool := match e with
  | .ListComp _ _ s p => (match tg with
    | .Name y q => !(sc.names.lookup y == some .local && q.line == p.line && !(s.names.any fun (n, k) => n == y && (k == .local || k == .cell)))
    | .Tuple .. => true
    | _ => false)
  | e => notComp e
theorem plainSw_ok {sc : Scope} {tg e : Expr} {env : Env} {l : Nat} (hk : env.scope = sc) (h : plainSw sc tg e = true) : swapsWith e (some tg) l env = pure false := by
  cases e with
  | ListComp elt gs s p =>
    cases tg with
    | Name y q =>
      show (pure _ : Sem Bool) = pure false
      congr 1
      have e1 : env.kindOf y = sc.names.lookup y := by rw [← hk]; rfl
      show (env.blockKind == .function && env.kindOf y == some .local && q.line == p.line && !(s.names.any fun (n, k) => n == y && (k == .local || k == .cell))) = false
      have h : (!(sc.names.lookup y == some .local && q.line == p.line && !(s.names.any fun (n, k) => n == y && (k == .local || k == .cell)))) = true := h
      rw [e1]
      revert h
      generalize (sc.names.lookup y == some .local) = b1
      generalize (q.line == p.line) = b2
      generalize (s.names.any fun (n, k) => n == y && (k == .local || k == .cell)) = b3
      cases b1 <;> cases b2 <;> cases b3 <;> simp
    | Tuple es k p => rfl
    | _ => cases h
  | _ => first | rfl | cases h
/-- how a tuple is stored: some none: one after another; some (some names): swapped -/
def swP (sc : Scope) (tg e : Expr) : Option (Option (List Str)) := match tg, e with
  | .Tuple ts _ _, .Tuple vs _ _ =>
    if (!(ts.length == 2 || ts.length == 3) || vs.length != ts.length) = true then some none
    else if (vs.any fun | .Starred .. => true | _ => false) = true then some none
    else
      let names := ts.filterMap fun
        | .Name id pos => if sc.names.lookup id == some .local && pos.line == (ts.head?.map (·.pos.line)).getD 0 then some id else none
        | _ => none
      if (names.length != ts.length || names.eraseDups.length != names.length) = true then some none
      else if vs.all (foldedForSure 8) = true then some none
      else if vs.all (constantsAlone 8) = true then none
      else some (some names)
  | .Tuple .., _ => some none
  | .Name .., _ => some none
  | _, _ => none
theorem swP_ok {sc : Scope} {tg e : Expr} {env : Env} {r : Option (List Str)} (hk : env.scope = sc) (hb : env.blockKind = .function) (h : swP sc tg e = some r) : swappedStores [tg] e env = pure r := by
  subst hk
  unfold swP at h
  split at h
  · rename_i ts k p vs k2 p2
    have ek : ∀ x, env.kindOf x = env.scope.names.lookup x := fun _ => rfl
    have e1 : swappedStores [.Tuple ts k p] (.Tuple vs k2 p2) env = (do
      if !(ts.length == 2 || ts.length == 3) || vs.length != ts.length || env.blockKind != .function then return none
      if vs.any fun | .Starred .. => true | _ => false then return none
      let line := (ts.head?.map (·.pos.line)).getD 0
      let names := ts.filterMap fun
        | .Name id pos => if env.kindOf id == some .local && pos.line == line then some id else none
        | _ => none
      if names.length != ts.length || names.eraseDups.length != names.length then return none
      if vs.all (foldedForSure 8) then return none
      if vs.all (constantsAlone 8) then unsupported "assign.tuple-of-constant-expressions:order-of-the-stores"
      return some names) := rfl
    rw [e1, hb]
    have ff : (ScopeKind.function != ScopeKind.function) = false := rfl
    simp only [ek, ff, Bool.or_false]
    dsimp only at h
    by_cases c1 : (!(ts.length == 2 || ts.length == 3) || vs.length != ts.length) = true
    · rw [if_pos c1] at h
      cases h
      exact if_pos c1
    rw [if_neg c1] at h
    refine (if_neg c1).trans ?_
    split at h
    · rename_i c2
      cases h
      exact if_pos c2
    rename_i c2
    refine (if_neg c2).trans ?_
    split at h
    · rename_i c3
      cases h
      exact if_pos c3
    rename_i c3
    refine (if_neg c3).trans ?_
    split at h
    · rename_i c4
      cases h
      exact if_pos c4
    rename_i c4
    refine (if_neg c4).trans ?_
    split at h
    · cases h
    rename_i c5
    cases h
    exact if_neg c5
  · cases h; cases e <;> first | rfl | (rename_i hh; exact (hh _ _ _ rfl).elim)
  · cases h; rfl
  · cases h
end
end Ev

/-! Ev17: stores, loops. -/
namespace Ev
open PySem PySem.Spec PyProof.Rows L2

section
variable {G : Gx} {F : Fn} {C : List PV} {W : WX} {X : Cx} {T : Tb} {N : List Str} {sc so : Scope} {n : Nat}
theorem s_asg (g : Good X G F C W T N sc n) (st : StOk X so) (hk : X.env.scope.kind = .function) {t : Tg} {e : E} {tg e' : Expr} {pos : Pos} (he : SE X G F C W e e') (hT : chkT N so t tg = true) (hs : plainSw sc tg e' = true) (hw : swP sc tg e' = some none) : SS X G F C W (.asg t e) (.Assign [tg] e' pos) :=
  impS (ps_asg he.pe (pgK g.kk g.calm g.nn g.nd st hT) (plainSw_ok g.sc hs) (swP_ok g.sc (blockKind_of hk) hw) (by rw [assign_front hT]; rfl)) fun D σ H h => by
    obtain ⟨fr, S, m, rf, rs, x⟩ := h
    rw [exec] at x
    exact ⟨fr, S, m, rf, rs, (x.st rf).imp fun v S1 m1 H1 x1 r1 q y ry => setX_ok (chkT_okT hT) rf x1 r1 ry q⟩
theorem asg_q {i : Nat} {e : E} {D : Ends} {σ : L2.St} {H : Hp} (h : tS G F C W (.asg (.n i) e) D σ H) : tE G F C W e σ H fun x H1 => gName i x σ H1 D.nx := by
  obtain ⟨fr, S, m, rf, rs, x⟩ := h
  rw [exec] at x
  refine ⟨fr, S, m, rf, rs, (x.st rf).imp fun v S1 m1 H1 x1 r1 q y ry => ?_⟩
  have z := setX_ok (t := .n i) rfl rf x1 r1 ry q
  unfold gT at z
  exact z
/-- name = [..] on one line -/
def lineSw (sc : Scope) (tg e : Expr) : Bool := match e with
  | .ListComp _ _ s p => (match tg with
    | .Name y q => sc.names.lookup y == some .local && q.line == p.line && !(s.names.any fun (n, k) => n == y && (k == .local || k == .cell))
    | _ => false)
  | _ => false
theorem s_asgLc (g : Good X G F C W T N sc n) (hk : X.env.scope.kind = .function) {i : Nat} {y : Str} {py : Pos} {os : List Nat} {own : List (Str × Nat)} {t : Tg} {it : I} {c : P} {e : E} {tg iter elt : Expr} {ifs : List Expr} {scope : Scope} {pos spos : Pos} (hy : strB (nth N i) y = true) (hsw : lineSw sc (.Name y py) (.ListComp elt [⟨tg, iter, ifs, 0⟩] scope pos) = true)
    (ho : own.map (·.2) = os) (hi : SI X G F C W it tg iter) (ok : blkC N sc scope own = true) (hv : ∀ i ∈ slots t, i ∈ os)
    (ht : chkT N scope t tg = true) (hc : ∀ X', Good X' G F C WF T N (relS scope sc) n → SC X' G F C WF c ifs) (he : ∀ X', Good X' G F C WF T N (relS scope sc) n → SE X' G F C WF e elt) (hs : ∀ x, foldedSetIterable iter X.env x = pure x) :
    SS X G F C W (.asg (.n i) (.comp os t it c e)) (.Assign [.Name y py] (.ListComp elt [⟨tg, iter, ifs, 0⟩] scope pos) spos) := by
  have okb : BlkOk X.N X.env.scope scope own := by rw [g.nn, g.sc]; exact blkOk_by ok
  have h : (sc.names.lookup y == some .local && py.line == pos.line && !(scope.names.any fun (n, k) => n == y && (k == .local || k == .cell))) = true := hsw
  obtain ⟨h12, h3⟩ := Bool.and_eq_true_iff.mp h
  obtain ⟨h1, h2⟩ := Bool.and_eq_true_iff.mp h12
  have hl : X.env.scope.names.lookup y = some .local := by rw [g.sc]; simpa using h1
  exact impS (ps_setLc (i := i) g.calm (by rw [g.nn]; exact g.nd) (by rw [g.nn, ← nth_eq]; exact strB_ok hy) hl (sw_true hk hl h2 (by simpa using h3)) hi okb
    (fun s H c cl fp => pgK (X := X.blk s H scope (compEnvC scope cl c X.env) fp) g.kk g.calm g.nn g.nd (blk_st X scope s H c cl fp) ht)
    (fun s H c cl fp => hc _ (blk_good g scope s H c cl fp)) (fun s H c cl fp => (he _ (blk_good g scope s H c cl fp)).pe) hs) fun D σ H h => comp_imp ho hv (chkT_okT ht) σ H _ (asg_q h)
theorem s_asgLc2 (g : Good X G F C W T N sc n) (hk : X.env.scope.kind = .function) {i : Nat} {y : Str} {py : Pos} {os os2 : List Nat} {own : List (Str × Nat)} {t t2 : Tg} {it it2 : I} {c c2 : P} {e : E} {tg iter tg2 iter2 elt : Expr} {ifs ifs2 : List Expr} {scope : Scope} {pos spos : Pos} (hy : strB (nth N i) y = true) (hsw : lineSw sc (.Name y py) (.ListComp elt [⟨tg, iter, ifs, 0⟩, ⟨tg2, iter2, ifs2, 0⟩] scope pos) = true)
    (ho : own.map (·.2) = os) (hi : SI X G F C W it tg iter) (ok : blkC N sc scope own = true) (hv : ∀ i ∈ slots t, i ∈ os) (hv2 : ∀ i ∈ slots t2, i ∈ os2) (ho2 : ∀ i ∈ os2, i ∈ os)
    (ht : chkT N scope t tg = true) (ht2 : chkT N scope t2 tg2 = true) (hc : ∀ X', Good X' G F C WF T N (relS scope sc) n → SC X' G F C WF c ifs) (hc2 : ∀ X', Good X' G F C WF T N (relS scope sc) n → SC X' G F C WF c2 ifs2)
    (hi2 : ∀ X', Good X' G F C WF T N (relS scope sc) n → SI X' G F C WF it2 tg2 iter2) (he : ∀ X', Good X' G F C WF T N (relS scope sc) n → SE X' G F C WF e elt) (hs : ∀ x, foldedSetIterable iter X.env x = pure x) (hs2 : ∀ env x, foldedSetIterable iter2 env x = pure x) :
    SS X G F C W (.asg (.n i) (.comp2 os t it c os2 t2 it2 c2 e)) (.Assign [.Name y py] (.ListComp elt [⟨tg, iter, ifs, 0⟩, ⟨tg2, iter2, ifs2, 0⟩] scope pos) spos) := by
  have okb : BlkOk X.N X.env.scope scope own := by rw [g.nn, g.sc]; exact blkOk_by ok
  have h : (sc.names.lookup y == some .local && py.line == pos.line && !(scope.names.any fun (n, k) => n == y && (k == .local || k == .cell))) = true := hsw
  obtain ⟨h12, h3⟩ := Bool.and_eq_true_iff.mp h
  obtain ⟨h1, h2⟩ := Bool.and_eq_true_iff.mp h12
  have hl : X.env.scope.names.lookup y = some .local := by rw [g.sc]; simpa using h1
  exact impS (ps_setLc2 (i := i) (vs1 := os2) g.calm (by rw [g.nn]; exact g.nd) (by rw [g.nn, ← nth_eq]; exact strB_ok hy) hl (sw_true hk hl h2 (by simpa using h3)) hi okb (by rw [ho]; exact ho2)
    (fun s H c cl fp => pgK (X := X.blk s H scope (compEnvC scope cl c X.env) fp) g.kk g.calm g.nn g.nd (blk_st X scope s H c cl fp) ht)
    (fun s H c cl fp => hc _ (blk_good g scope s H c cl fp)) (fun s H c cl fp => hi2 _ (blk_good g scope s H c cl fp))
    (fun s H c cl fp => pgK (X := X.blk s H scope (compEnvC scope cl c X.env) fp) g.kk g.calm g.nn g.nd (blk_st X scope s H c cl fp) ht2)
    (fun s H c cl fp => hc2 _ (blk_good g scope s H c cl fp)) (fun s H c cl fp => (he _ (blk_good g scope s H c cl fp)).pe) hs hs2) fun D σ H h => comp2_imp ho hv hv2 (chkT_okT ht) (chkT_okT ht2) σ H _ (asg_q h)

/-! ### a, b = x, y -/
theorem set1 {i : Nat} {v : PV} {fr fr' : Fr} (e : setT (.n i) v fr = some fr') : fr' = fr.set i (some v) := by
  rw [setT] at e
  split at e
  · rw [frL_eq] at e; cases e; rfl
  · cases e
def localB (sc : Scope) (x : Str) : Bool := match sc.names.lookup x with
  | some .local => true
  | _ => false
theorem localB_ok {sc : Scope} {x : Str} (h : localB sc x = true) : sc.names.lookup x = some .local := by
  unfold localB at h
  split at h
  · assumption
  · cases h
theorem s_par (g : Good X G F C W T N sc n) (hk : X.env.scope.kind = .function) {i j : Nat} {a b : E} {x y : Str} {a' b' : Expr} {px py pt pt2 pos : Pos} {kt k2 : Nat} (ha : SE X G F C W a a') (na : noStar a' = true) (hb : SE X G F C W b b') (nb : noStar b' = true) (hi : strB (nth N i) x = true) (hj : strB (nth N j) y = true) (hij : i ≠ j) (lx : localB sc x = true) (ly : localB sc y = true)
    (hw : swP sc (.Tuple [.Name x px, .Name y py] kt pt) (.Tuple [a', b'] k2 pt2) = some (some [x, y])) :
    SS X G F C W (.par i j a b) (.Assign [.Tuple [.Name x px, .Name y py] kt pt] (.Tuple [a', b'] k2 pt2) pos) :=
  impS (ps_par (i := i) (j := j) g.calm (by rw [g.nn]; exact g.nd) (by rw [g.nn, ← nth_eq]; exact strB_ok hi) (by rw [g.nn, ← nth_eq]; exact strB_ok hj) hij (by rw [g.sc]; exact localB_ok lx) (by rw [g.sc]; exact localB_ok ly)
    (pa_cons ha.pe (pa_cons hb.pe pa_nil (noStar_ok nb)) (noStar_ok na)) (swP_ok g.sc (blockKind_of hk) hw)) fun D σ H h => by
    obtain ⟨fr, S, m, rf, rs, x⟩ := h
    rw [exec] at x
    refine ⟨fr, S, m, rf, rs, (x.st rf).imp fun v S1 m1 H1 x1 r1 q y ry => ?_⟩
    obtain ⟨m2, x2, r2, v2⟩ := x1.mat r1 ry
    try dsimp only at q
    refine ⟨fr, (mat v S1).2, m2, x2.rf rf, r2, ((q.st rf).shift x2).imp fun u S3 m3 H3 x3 r3 q z rz => ?_⟩
    obtain ⟨m4, x4, r4, v4⟩ := x3.mat r3 rz
    try dsimp only at q
    split at q
    · rename_i fr1 e1
      split at q
      · rename_i fr2 e2
        have ef := set1 e2
        rw [set1 e1] at ef
        subst ef
        exact ⟨_, _, rfl, q.nx (x2.trans x4) r4 ((((x2.trans x4).rf rf).set (x4.rv v2)).set v4)⟩
      · exact q.elim
    · exact q.elim
theorem s_par3 (g : Good X G F C W T N sc n) (hk : X.env.scope.kind = .function) {i j l : Nat} {a b c : E} {x y z : Str} {a' b' c' : Expr} {px py pz pt pt2 pos : Pos} {kt k2 : Nat} (ha : SE X G F C W a a') (na : noStar a' = true) (hb : SE X G F C W b b') (nb : noStar b' = true) (hc : SE X G F C W c c') (nc : noStar c' = true) (hi : strB (nth N i) x = true) (hj : strB (nth N j) y = true) (hl : strB (nth N l) z = true)
    (hij : i ≠ j) (hil : i ≠ l) (hjl : j ≠ l) (lx : localB sc x = true) (ly : localB sc y = true) (lz : localB sc z = true)
    (hw : swP sc (.Tuple [.Name x px, .Name y py, .Name z pz] kt pt) (.Tuple [a', b', c'] k2 pt2) = some (some [x, y, z])) :
    SS X G F C W (.par3 i j l a b c) (.Assign [.Tuple [.Name x px, .Name y py, .Name z pz] kt pt] (.Tuple [a', b', c'] k2 pt2) pos) :=
  impS (ps_par3 (i := i) (j := j) (l := l) g.calm (by rw [g.nn]; exact g.nd) (by rw [g.nn, ← nth_eq]; exact strB_ok hi) (by rw [g.nn, ← nth_eq]; exact strB_ok hj) (by rw [g.nn, ← nth_eq]; exact strB_ok hl) hij hil hjl (by rw [g.sc]; exact localB_ok lx) (by rw [g.sc]; exact localB_ok ly) (by rw [g.sc]; exact localB_ok lz)
    (pa_cons ha.pe (pa_cons hb.pe (pa_cons hc.pe pa_nil (noStar_ok nc)) (noStar_ok nb)) (noStar_ok na)) (swP_ok g.sc (blockKind_of hk) hw)) fun D σ H h => by
    obtain ⟨fr, S, m, rf, rs, x⟩ := h
    rw [exec] at x
    refine ⟨fr, S, m, rf, rs, (x.st rf).imp fun v S1 m1 H1 x1 r1 q y ry => ?_⟩
    obtain ⟨m2, x2, r2, v2⟩ := x1.mat r1 ry
    try dsimp only at q
    refine ⟨fr, (mat v S1).2, m2, x2.rf rf, r2, ((q.st rf).shift x2).imp fun u S3 m3 H3 x3 r3 q z rz => ?_⟩
    obtain ⟨m4, x4, r4, v4⟩ := x3.mat r3 rz
    have e4 := x2.trans x4
    try dsimp only at q
    refine ⟨fr, (mat u S3).2, m4, e4.rf rf, r4, ((q.st rf).shift e4).imp fun w S5 m5 H5 x5 r5 q t rt => ?_⟩
    obtain ⟨m6, x6, r6, v6⟩ := x5.mat r5 rt
    try dsimp only at q
    split at q
    · rename_i fr1 e1
      split at q
      · rename_i fr2 e2
        split at q
        · rename_i fr3 e3
          have ef := set1 e3
          rw [set1 e2, set1 e1] at ef
          subst ef
          exact ⟨_, _, _, rfl, q.nx (e4.trans x6) r6 (((((e4.trans x6).rf rf).set ((x4.trans x6).rv v2)).set (x6.rv v4)).set v6)⟩
        · exact q.elim
      · exact q.elim
    · exact q.elim
end
end Ev

/-! Ev18: lists written; loops. -/
namespace Ev
open PySem PySem.Spec PyProof.Rows L2

section
variable {G : Gx} {H H0 : Hp} {m m0 : List Addr} {S S0 : Store} {k : Nat} {a : Addr} {xs ys : List PV} {vs ws : List V}
theorem nodup_at {m : List Addr} (nd : m.Nodup) {j : Nat} (h1 : m[k]? = some a) (h2 : m[j]? = some a) : j = k := by
  obtain ⟨l1, e1⟩ := List.getElem?_eq_some_iff.mp h1
  obtain ⟨l2, e2⟩ := List.getElem?_eq_some_iff.mp h2
  have key : ∀ {p q : Nat} (hp : p < m.length) (hq : q < m.length), p < q → m[p] = m[q] → False := fun {p q} hp hq h e => List.pairwise_iff_getElem.mp nd p q hp hq h e
  rcases Nat.lt_trichotomy j k with h | h | h
  · exact (key l2 l1 h (e2.trans e1.symm)).elim
  · exact h
  · exact (key l1 l2 h (e1.trans e2.symm)).elim
/-- a list of the store written -/
theorem RS.put (r : RS G H m S) (hk : m[k]? = some a) (hS : S[k]? = some (.lst xs)) (hD : H a = some (.lst vs)) (q : RVs G H m ys ws) : RS G (upd H a (.lst ws)) m (S.set k (.lst ys)) := by
  refine ⟨by rw [List.length_set]; exact r.len, r.nd, fun j b c h1 h2 => ?_⟩
  by_cases hj : k = j
  · subst hj
    rw [hk] at h1
    cases h1
    rw [List.getElem?_set_self (List.getElem?_eq_some_iff.mp hS).1] at h2
    cases h2
    exact ⟨ws, upd_same, q.mono (tup_own hD) fun _ _ z => z⟩
  · rw [List.getElem?_set_ne hj] at h2
    have ne : b ≠ a := fun e => by rw [e] at h1; exact hj (nodup_at r.nd h1 hk)
    have z := r.cell j b c h1 h2
    cases c with
    | lst us =>
      obtain ⟨us', q1, q2⟩ := z
      exact ⟨us', by rw [upd_ne ne]; exact q1, q2.mono (tup_own hD) fun _ _ z => z⟩
    | fro us =>
      obtain ⟨us', q1, q2⟩ := z
      refine ⟨us', ?_, q2.mono (tup_own hD) fun _ _ z => z⟩
      rcases q1 with q1 | ⟨o, q1⟩
      · exact .inl (by rw [upd_ne ne]; exact q1)
      · exact .inr ⟨o, by rw [upd_ne ne]; exact q1⟩
theorem Ext.put (r : RS G H m S) (hk : m[k]? = some a) (hS : S[k]? = some (.lst xs)) (hD : H a = some (.lst vs)) : Ext G.K H m S (upd H a (.lst ws)) m (S.set k (.lst ys)) := by
  refine ⟨⟨[], by simp, fun _ h => by simp at h⟩, fun b o h n => ?_, fun b h => upd_none h, tup_own hD, fun j us b h1 h2 => ?_⟩
  · rw [upd_ne (fun e => n (by rw [e]; exact List.mem_of_getElem? hk))]
    exact h
  · have hj : k ≠ j := fun e => by rw [← e, hS] at h1; cases h1
    refine ⟨by rw [List.getElem?_set_ne hj]; exact h1, fun o h => ?_⟩
    rw [upd_ne (fun e => by rw [e] at h2; exact hj (nodup_at r.nd h2 hk))]
    exact h
end
section
variable {G : Gx} {F : Fn} {C : List PV} {W : WX} {X : Cx} {T : Tb} {N : List Str} {sc so : Scope} {n : Nat}
/-- o[i] = v -/
theorem setIx_ok {Z Z' : Addr → Prop} {H : Hp} {m : List Addr} {S S' : Store} {o i v : PV} {x y z : V} {Q : Hp → Prop} (r : RS G H m S) (ro : RT G Z H m o x) (ri : RT G Z' H m i y) (rv : RV G H m v z) (e : setIx o i v S = some S') (h : ∀ H', Ext G.K H m S H' m S' → RS G H' m S' → Q H') : rSetL x y z H Q := by
  unfold setIx at e
  split at e
  · rename_i k j
    cases ro with
    | ref hm =>
      rename_i a
      cases ri
      split at e
      · rename_i xs hS
        split at e
        · rename_i p hp
          rw [frL_eq] at e
          cases e
          obtain ⟨vs, h1, h2⟩ := r.cell k a _ hm hS
          refine ⟨a, vs, j, p, rfl, rfl, h1, ?_, h _ (Ext.put r hm hS h1) (r.put hm hS h1 (RVs.set rv _ h2))⟩
          rw [← place_eq, h2.length]
          exact hp
        · cases e
      · cases e
  · cases e
theorem asgSub {o i : Expr} {pos : Pos} {env : Env} (h : noSlice i = true) (v : Value) : assign (.Subscript o i pos) env v = (do
      let ov ← holding [v] (eval o env)
      let iv ← holding [v, ov] (eval i env)
      standAt pos
      holding [v, ov, iv] (setItem ov iv v)
      release [v, ov, iv] []) := by cases i <;> first | rfl | cases h
theorem s_asgI (g : Good X G F C W T N sc n) {o i e : E} {o' i' e' : Expr} {pos spos : Pos} (ho : SE X G F C W o o') (hi : SE X G F C W i i') (he : SE X G F C W e e') (hn : notComp e' = true) (hs : noSlice i' = true) : SS X G F C W (.asgI o i e) (.Assign [.Subscript o' i' pos] e' spos) :=
  impS (ps_asg he.pe (pg_sub ho.pe hi.pe set_list (asgSub hs)) (notComp_ok hn (some (.Subscript o' i' pos)) spos.line X.env) (by cases e' <;> rfl) rfl) fun D σ H h => by
    obtain ⟨fr, S, m, rf, rs, x⟩ := h
    rw [exec] at x
    refine ⟨fr, S, m, rf, rs, (x.st rf).imp fun v S1 m1 H1 x1 r1 q y ry => ?_⟩
    obtain ⟨m2, x2, r2, v2⟩ := x1.mat r1 ry
    try dsimp only at q
    refine ⟨fr, _, m2, x2.rf rf, r2, ((q.st rf).shift x2).imp fun u S3 m3 H3 x3 r3 q z rz => ?_⟩
    have e3 := x2.trans x3
    refine ⟨fr, S3, m3, e3.rf rf, r3, ((q.st rf).shift e3).imp fun w S4 m4 H4 x4 r4 q t rt => ?_⟩
    have e4 := e3.trans x4
    split at q
    · rename_i S5 hS
      exact setIx_ok r4 (x4.rt rz) rt ((x3.trans x4).rv v2) hS fun H' x5 r5 => q.nx (e4.trans x5) r5 ((e4.trans x5).rf rf)
    · exact q.elim
/-- op= of numbers -/
def ipB : Op → TIp
  | .add => ipI fun i j => i + j
  | .sub => ipI fun i j => i - j
  | _ => fun _ _ _ _ => False
theorem ipR : ∀ o : Op, PIp X (opOf o) (ipB o)
  | .add => ip_add
  | .sub => ip_sub
  | .mul => fun _ _ _ _ _ _ _ _ _ _ _ _ h => h.elim
  | .fdiv => fun _ _ _ _ _ _ _ _ _ _ _ _ h => h.elim
  | .mod => fun _ _ _ _ _ _ _ _ _ _ _ _ h => h.elim
  | .pow => fun _ _ _ _ _ _ _ _ _ _ _ _ h => h.elim
def augOp : Op → Bool
  | .add => true
  | .sub => true
  | _ => false
theorem ip_ok {o : Op} {S : Store} {i j : Int} {v : PV} {H : Hp} {Q : VK} (ho : augOp o = true) (e : binop S o (.int i) (.int j) = some v) : ∃ k, v = .int k ∧ (Q (.int k) H → ipB o (.int i) (.int j) H Q) := by
  cases o with
  | add =>
    have e : frI (i + j) (fun k => some (PV.int k)) = some v := e
    rw [frI_eq] at e; cases e; exact ⟨_, rfl, fun q => ⟨i, j, rfl, rfl, q⟩⟩
  | sub =>
    have e : frI (i - j) (fun k => some (PV.int k)) = some v := e
    rw [frI_eq] at e; cases e; exact ⟨_, rfl, fun q => ⟨i, j, rfl, rfl, q⟩⟩
  | _ => cases ho
theorem s_aug (g : Good X G F C W T N sc n) (st : StOk X so) {i : Nat} {o : Op} {e : E} {x : Str} {e' : Expr} {p pos : Pos} (he : SE X G F C W e e') (hi : strB (nth N i) x = true) (hl : lcB so x = true) (ho : augOp o = true) : SS X G F C W (.aug i o e) (.AugAssign (.Name x p) (opOf o) e' pos) := by
  obtain ⟨q1, q2⟩ := st x hl
  refine impS (ps_aug (i := i) (by rw [g.nn]; exact g.nd) (by rw [g.nn, ← nth_eq]; exact strB_ok hi) q1 he.pe (ipR o) q2) fun D σ H h => ?_
  obtain ⟨fr, S, m, rf, rs, x⟩ := h
  rw [exec] at x
  split at x
  · rename_i v hv
    rw [nth_eq] at hv
    obtain ⟨y, h1, h2⟩ := rf.at_ i v hv
    refine ⟨y, h1, fr, S, m, rf, rs, (x.st rf).imp fun u S1 m1 H1 x1 r1 q z rz => ?_⟩
    split at q
    · rename_i a b
      cases h2
      cases rz
      split at q
      · rename_i w hw
        obtain ⟨k, rfl, hq⟩ := ip_ok (H := H1) (Q := fun z H2 => D.nx (σ.set i (some z)) H2) ho hw
        apply hq
        have z := setX_ok (t := .n i) (σ := σ) rfl rf x1 r1 (RT.of (.int k)) q
        unfold gT gName at z
        exact z
      · exact q.elim
    · exact q.elim
  · exact x.elim
theorem get_list : PGet X (rIxL X.K) := by
  intro pins s σ H x y v u Q I rx ry h
  obtain ⟨p, xs, i, z, rfl, rfl, hq, he, q⟩ := h
  cases rx
  obtain ⟨t, rfl⟩ := ry
  obtain ⟨its, r, pl, hz⟩ := I.list hq
  obtain ⟨j, h1, h2, h3, h4, h5⟩ := atI_get he
  obtain ⟨w, ew, rw'⟩ := r.get h2
  have hl := r.length
  have hn := line63
  have fin : EP X pins σ Q w s := ⟨z, H, I, rw', q⟩
  by_cases h0 : 0 ≤ i
  · have hj : i.toNat = j := by
      rw [seqIndex_of h0 h5] at h1
      exact Option.some.inj h1
    exact wpAny_getItem_list pl.isList h0 (by omega) (by rw [hj]; simpa using ew) fin
  · have hj : (i + (its.toArray.size : Int)).toNat = j := by
      rw [seqIndex_neg (by omega) h4] at h1
      rw [List.size_toArray, ← hl]
      exact Option.some.inj h1
    exact wpAny_getItem_list_neg pl.isList (by omega) (by rw [List.size_toArray] <;> omega) (by omega) (by rw [hj]; simpa using ew) fin
theorem index1_ok {Z Z' : Addr → Prop} {H : Hp} {m : List Addr} {S : Store} {v u w : PV} {x y : V} {Q : VK} (r : RS G H m S) (rv : RT G Z H m v x) (ru : RT G Z' H m u y) (e : index1 S v u = some w) (h : ∀ c, RV G H m w c → Q c H) : rIxL G.K x y H Q := by
  unfold index1 at e
  split at e
  · rename_i i
    cases ru
    split at e
    · rename_i xs hx
      obtain ⟨a, vs, rfl, h1, h2⟩ := items_ok r rv hx
      obtain ⟨x, h3, h4⟩ := h2.item e
      exact ⟨a, vs, i, x, rfl, rfl, .inl h1, h3, h x h4⟩
    · cases e
  · cases e
theorem s_augI (g : Good X G F C W T N sc n) {o i e : E} {p : Op} {o' i' e' : Expr} {tp pos : Pos} (ho : SE X G F C W o o') (hi : SE X G F C W i i') (he : SE X G F C W e e') (hs : noSlice i' = true) (hp : augOp p = true) : SS X G F C W (.augI o i p e) (.AugAssign (.Subscript o' i' tp) (opOf p) e' pos) :=
  impS (ps_augS ho.pe hi.pe get_list he.pe (ipR p) set_list (fun ov iv new => by cases i' <;> first | rfl | cases hs)) fun D σ H h => by
    rw [g.kk]
    obtain ⟨fr, S, m, rf, rs, x⟩ := h
    rw [exec] at x
    refine ⟨fr, S, m, rf, rs, (x.st rf).imp fun v S1 m1 H1 x1 r1 q y ry => ?_⟩
    refine ⟨fr, S1, m1, x1.rf rf, r1, ((q.st rf).shift x1).imp fun u S2 m2 H2 x2 r2 q z rz => ?_⟩
    have e2 := x1.trans x2
    split at q
    · rename_i w hw
      refine index1_ok r2 (x2.rt ry) rz hw fun c rc => ?_
      refine ⟨fr, S2, m2, e2.rf rf, r2, ((q.st rf).shift e2).imp fun u' S4 m4 H4 x4 r4 q d rd => ?_⟩
      have e4 := e2.trans x4
      split at q
      · rename_i a b
        cases rc
        cases rd
        split at q
        · rename_i w' hw'
          obtain ⟨k, rfl, hq⟩ := ip_ok (H := H4) (Q := fun z5 H5 => rSetL y z z5 H5 fun H6 => D.nx σ H6) hp hw'
          apply hq
          split at q
          · rename_i S5 hS
            exact setIx_ok r4 ((x2.trans x4).rt ry) (x4.rt rz) (.int k) hS fun H' x5 r5 => q.nx (e4.trans x5) r5 ((e4.trans x5).rf rf)
          · exact q.elim
        · exact q.elim
      · exact q.elim
    · exact q.elim
end
end Ev

/-! Ev19: while, for. -/
namespace Ev
open PySem PySem.Spec PyProof.Rows L2

section
variable {G : Gx} {F : Fn} {C : List PV} {W : WX} {X : Cx} {T : Tb} {N : List Str} {sc so : Scope} {n : Nat} {H H1 : Hp} {m m1 : List Addr} {S S1 : Store} {D : Ends} {σ : L2.St} {fr : Fr}
/-- a loop's body: where it goes on -/
theorem XR.loop {x : Ev.X} {k : Fr → Store → Ev.X} (h : XR G W H m S D (match x with
      | .ok .nx fr S => k fr S
      | .ok .cont fr S => k fr S
      | .ok .brk fr S => .ok .nx fr S
      | .ok (.ret v) fr S => .ok (.ret v) fr S
      | .exc c fr S => .exc c fr S
      | .stk => .stk)) :
    XR G W H m S { D with nx := fun σ H' => ∃ fr S' m', Ext G.K H m S H' m' S' ∧ RS G H' m' S' ∧ RF G H' m' fr σ ∧ XR G W H m S D (k fr S'), ct := fun σ H' => ∃ fr S' m', Ext G.K H m S H' m' S' ∧ RS G H' m' S' ∧ RF G H' m' fr σ ∧ XR G W H m S D (k fr S'), bk := D.nx } x := by
  cases x with
  | stk => exact h
  | exc c fr S' => exact h
  | ok f fr S' =>
    cases f with
    | nx => exact fun σ m' H' e r f => ⟨fr, S', m', e, r, f, h⟩
    | cont => exact fun σ m' H' e r f => ⟨fr, S', m', e, r, f, h⟩
    | brk => exact fun σ m' H' e r f => h σ m' H' e r f
    | ret v => exact h
theorem XR.stL {α : Type} {r : Ev.R α} {k : α → Store → Ev.X} (e1 : Ext G.K H m S H1 m1 S1) (f1 : RF G H1 m1 fr σ) (h : XR G W H m S D (r.st fr k)) : PR G W σ H1 m1 S1 r fun v S2 m2 H2 => XR G W H m S D (k v S2) := by
  cases r with
  | ok v S' => exact fun m' H' e r => h
  | exc c S' => exact fun m' H' e r => h σ m' H' (e1.trans e) r (e.rf f1)
  | stk => exact h
theorem s_whl (hp : PassesOwn (model X.prog X.w) X.A X.env X.xe) {c : E} {b : Ss} {c' : Expr} {b' : List Stmt} {pos : Pos} (hc : SE X G F C W c c') (t : tstB c' = true) (hb : SSs X G F C W b b') : SS X G F C W (.whl c b) (.While c' b' [] pos) := impS (ps_while hp (hc.test t) hb) fun D σ H h => by
  obtain ⟨fr, S, m, rf, rs, x⟩ := h
  rw [exec] at x
  refine ⟨fun mm σc Hc => ∃ frc Sc mc, Ext G.K H m S Hc mc Sc ∧ RS G Hc mc Sc ∧ RF G Hc mc frc σc ∧ XR G W H m S D (whl (ev F C c) (execs F C b) mm frc Sc), ⟨_, fr, S, m, .refl, rs, rf, x⟩, fun mm σc Hc hh => ?_⟩
  obtain ⟨frc, Sc, mc, e1, r1, f1, x⟩ := hh
  cases mm with
  | zero => exact x.elim
  | succ mm =>
    rw [whl] at x
    refine ⟨frc, Sc, mc, f1, r1, (x.stL e1 f1).imp fun v S2 m2 H2 e2 r2 q => ?_⟩
    have e12 := e1.trans e2
    split at q
    · refine ⟨true, rfl, ?_⟩
      dsimp only
      rw [if_pos rfl]
      refine ⟨fun σ' H' => ∃ fr' S' m', Ext G.K H m S H' m' S' ∧ RS G H' m' S' ∧ RF G H' m' fr' σ' ∧ XR G W H m S D (whl (ev F C c) (execs F C b) mm fr' S'), fun σ' H' hn => ⟨mm, Nat.lt_succ_self _, hn⟩, frc, S2, m2, e2.rf f1, r2, (XR.loop q).shift e12⟩
    · refine ⟨false, rfl, ?_⟩
      dsimp only
      rw [if_neg (by decide)]
      exact q.nx e12 r2 (e2.rf f1)
    · exact q.elim

theorem XR.unlock {w : LK} {x : Ev.X} (x1 : Ext G.K H m S H1 m1 S1) (r1 : RS G H1 m1 S1) (f : Free S1 w) (h : XR G W H m S D (unlockX w x)) : XR G W H1 m1 (lock S1 w) D x := by
  cases x with
  | stk => exact h
  | exc c fr S' => exact fun σ m' H' e' r' f' => h σ m' H' (Ext.unlock x1 f e') (RS.unlock r1 f e' r') f'
  | ok fl fr S' =>
    intro σ m' H' e' r' f'
    have z := h σ m' H' (Ext.unlock x1 f e') (RS.unlock r1 f e' r') f'
    cases fl with
    | ret v => exact fun x rx => z x (rx.back x1.live)
    | _ => exact z
theorem s_for (hp : PassesOwn (model X.prog X.w) X.A X.env X.xe) (g : Good X G F C W T N sc n) (st : StOk X so) {t : Tg} {it : I} {b : Ss} {tg iter : Expr} {b' : List Stmt} {pos : Pos} (hi : SI X G F C W it tg iter) (hT : chkT N so t tg = true) (hb : SSs X G F C W b b') (hs : ∀ x, foldedSetIterable iter X.env x = pure x) :
    SS X G F C W (.for_ t it b) (.For tg iter b' [] pos) := impS (ps_for hp g.calm hi (pgK g.kk g.calm g.nn g.nd st hT) hb hs) fun D σ H h => by
  obtain ⟨fr, S, m, rf, rs, x⟩ := h
  rw [exec] at x
  refine ⟨fr, S, m, rf, rs, (x.st rf).imp fun w S1 m1 H1 x1 r1 q J f hJ => ?_⟩
  have q := XR.unlock x1 r1 f q
  refine ⟨fun i mm σc Hc => mm = w.1.length - i ∧ i ≤ w.1.length ∧ ∃ frc Sc mc, Ext G.K H1 m1 (lock S1 w.2) Hc mc Sc ∧ RS G Hc mc Sc ∧ RF G Hc mc frc σc ∧ XR G W H1 m1 (lock S1 w.2) D (fors t (execs F C b) (w.1.drop i) frc Sc), ⟨_, rfl, Nat.zero_le _, fr, _, m1, .refl, r1.lock f, x1.rf rf, q⟩, fun i mm σc Hc hh => ?_⟩
  obtain ⟨rfl, hi, frc, Sc, mc, e1, rc, fc, x⟩ := hh
  obtain ⟨jstop, jgo⟩ := hJ i Hc mc Sc e1.j rc
  by_cases hlt : i < w.1.length
  · obtain ⟨go, yl⟩ := jgo w.1[i] (List.getElem?_eq_getElem hlt)
    rw [List.drop_eq_getElem_cons hlt, fors] at x
    refine .inr ⟨go, fun σ' H' => i + 1 ≤ w.1.length ∧ ∃ fr' S' m', Ext G.K H1 m1 (lock S1 w.2) H' m' S' ∧ RS G H' m' S' ∧ RF G H' m' fr' σ' ∧ XR G W H1 m1 (lock S1 w.2) D (fors t (execs F C b) (w.1.drop (i + 1)) fr' S'), fun σ' H' hn => ⟨_, by omega, rfl, hn⟩, fun y H' hy => ?_⟩
    obtain ⟨x2, r2, ry⟩ := yl y H' hy
    split at x
    · rename_i fr1 ef
      refine setT_of (chkT_okT hT) ef ry (x2.rf fc) fun σ' f' => ?_
      refine ⟨fr1, Sc, mc, f', r2, ?_⟩
      have z := (XR.loop x).shift (e1.trans x2)
      have fin : ∀ {x : Ev.X}, XR G W H' mc Sc { D with nx := fun σ H' => ∃ fr S' m', Ext G.K H1 m1 (lock S1 w.2) H' m' S' ∧ RS G H' m' S' ∧ RF G H' m' fr σ ∧ XR G W H1 m1 (lock S1 w.2) D (fors t (execs F C b) (w.1.drop (i + 1)) fr S'), ct := fun σ H' => ∃ fr S' m', Ext G.K H1 m1 (lock S1 w.2) H' m' S' ∧ RS G H' m' S' ∧ RF G H' m' fr σ ∧ XR G W H1 m1 (lock S1 w.2) D (fors t (execs F C b) (w.1.drop (i + 1)) fr S'), bk := D.nx } x → 
          XR G W H' mc Sc { D with nx := fun σ' H' => i + 1 ≤ w.1.length ∧ ∃ fr' S' m', Ext G.K H1 m1 (lock S1 w.2) H' m' S' ∧ RS G H' m' S' ∧ RF G H' m' fr' σ' ∧ XR G W H1 m1 (lock S1 w.2) D (fors t (execs F C b) (w.1.drop (i + 1)) fr' S'), ct := fun σ' H' => i + 1 ≤ w.1.length ∧ ∃ fr' S' m', Ext G.K H1 m1 (lock S1 w.2) H' m' S' ∧ RS G H' m' S' ∧ RF G H' m' fr' σ' ∧ XR G W H1 m1 (lock S1 w.2) D (fors t (execs F C b) (w.1.drop (i + 1)) fr' S'), bk := D.nx } x := fun {x} h => by
        cases x with
        | ok fl fr S' =>
          cases fl with
          | nx => exact fun σ m' H' e r f => ⟨hlt, h σ m' H' e r f⟩
          | cont => exact fun σ m' H' e r f => ⟨hlt, h σ m' H' e r f⟩
          | _ => exact h
        | _ => exact h
      exact fin z
    · exact x.elim
  · have ei : i = w.1.length := Nat.le_antisymm hi (Nat.le_of_not_lt hlt)
    rw [ei, List.drop_length, fors] at x
    exact .inl ⟨jstop ei, x.nx e1 rc fc⟩
end
end Ev

/-! Ev20: methods of lists. -/
namespace Ev
open PySem PySem.Spec PyProof.Rows L2

def noCall : Expr → Bool
  | .Call .. => false
  | _ => true
theorem noCall_ok {o : Expr} (h : noCall o = true) (x : Str) (env : Env) (w : Sem Value) : attributeBase o x env w = w := by
  cases o <;> first | rfl | cases h
section
variable {G : Gx} {F : Fn} {C : List PV} {W : WX} {X : Cx} {T : Tb} {N : List Str} {sc so : Scope} {n : Nat}
theorem few1 {e : Expr} {env : Env} {cpos : Pos} (h : noStar e = true) : ((backTo cpos (starEach [e] env)).all (fun x => !x.1) && (backToKw cpos (keywordEach [] env)).all (fun x => x.1.isSome)
      && decide ([e].length + ([] : List Keyword).length + (if ([] : List Keyword).isEmpty then 0 else 1) < 30)) = true := by
  rw [noStar_ok h]; rfl
theorem tyL {H : Hp} {a : Addr} {vs : List V} (h : H a = some (.lst vs)) : tyV X.K "list" (.ref a) H := .inl ⟨rfl, vs, .inl (.inl h)⟩
theorem isL_ok {Z : Addr → Prop} {H : Hp} {m : List Addr} {S : Store} {v : PV} {x : V} (r : RS G H m S) (rv : RT G Z H m v x) (h : isL S v = true) : ∃ k a vs, v = .ref k ∧ x = .ref a ∧ m[k]? = some a ∧ H a = some (.lst vs) := by
  unfold isL at h
  split at h
  · rename_i k
    split at h
    · rename_i xs hS
      cases rv with
      | ref hm =>
        obtain ⟨vs, h1, _⟩ := r.cell k _ _ hm hS
        exact ⟨k, _, vs, rfl, rfl, hm, h1⟩
    · cases h
  · cases h
/-- a method of one argument on a list of the store -/
theorem s_m1 (g : Good X G F C W T N sc n) {a e : E} {a' e' : Expr} {apos cpos : Pos} {name : Str} {id : String} {m : M} {r : V → List V → Hp → VK → Prop} (ha : SE X G F C W a a') (he : SE X G F C W e e') (hn : noStar e' = true) (hc : noCall a' = true) (hl : (apos.endLine == cpos.line) = true)
    (slot : Slot "list" name id) (hty : typeOf (.builtin id) = pure (.type "method_descriptor")) (hm : MtR X id r)
    (ok : ∀ (σ : L2.St) (H : Hp) (mm : List Addr) (S : Store) (H1 : Hp) (m1 : List Addr) (S1 : Store) (k : Nat) (a : Addr) (u : PV) (y : V) (Q : VK), Ext G.K H mm S H1 m1 S1 → RS G H1 m1 S1 → m1[k]? = some a → RT G (fun a => H a = none) H1 m1 u y → PR G W σ H mm S (meth m (.ref k) [u] S1) (Pv G H Q) → r (.ref a) [y] H1 Q) : SE X G F C W (.mth m a (.cons e .nil)) (.Call (.Attribute a' name apos) [e'] [] cpos) := by
  refine .plain (impE (pe_bm PySem.F.plainAttrs_list slot hty hm ha.pe (pa_cons he.pe pa_nil (noStar_ok hn)) (noCall_ok hc _ _ _) (few1 hn) hl (noStar_ok hn) (by rfl)) fun σ H Q h => ?_) rfl
  obtain ⟨fr, S, mm, rf, rs, p⟩ := h
  rw [ev] at p
  refine ⟨fr, S, mm, rf, rs, p.bnd.imp fun v S1 m1 H1 x1 r1 q x rv => ?_⟩
  split at q
  · rename_i hL
    obtain ⟨k, a, vs, rfl, rfl, hk, hD⟩ := isL_ok r1 rv hL
    refine ⟨tyL hD, ?_⟩
    rw [evs] at q
    refine tE.of rf x1 r1 ((q.bnd.bnd.shift x1).imp fun u S2 m2 H2 x2 r2 q y ry => ?_)
    rw [evs] at q
    have e2 := x1.trans x2
    have q := q m2 H2 e2 r2
    exact ok σ H mm S H2 m2 S2 k a u y Q e2 r2 (x2.at_ hk) (ry.back x1.live) q
  · exact q.elim
theorem s_append (g : Good X G F C W T N sc n) {a e : E} {a' e' : Expr} {apos cpos : Pos} (ha : SE X G F C W a a') (he : SE X G F C W e e') (hn : noStar e' = true) (hc : noCall a' = true) (hl : (apos.endLine == cpos.line) = true) : SE X G F C W (.mth .append a (.cons e .nil)) (.Call (.Attribute a' "append" apos) [e'] [] cpos) :=
  s_m1 g ha he hn hc hl PySem.F.slot_list_append PySem.F.type_list_append mt_append fun σ H mm S H1 m1 S1 k a u y Q e r hk ru p => by
    unfold meth at p
    dsimp only at p
    split at p
    · rename_i xs hS
      obtain ⟨vs, h1, h2⟩ := r.cell k a _ hk hS
      obtain ⟨rr, T, t1, t2, t3, t4⟩ := mat_ok r ru
      have e2 : Ext G.K H mm S H1 (m1 ++ rr) (mat u S1).2 := by rw [t1]; exact e.grow fun p hp => (t2 p hp).1
      have hk2 : (m1 ++ rr)[k]? = some a := at_grow hk
      have hS2 : (mat u S1).2[k]? = some (.lst xs) := by
        rw [t1, List.getElem?_append_left (List.getElem?_eq_some_iff.mp hS).1]
        exact hS
      try dsimp only at p
      split at p
      · rename_i hb
        rw [frL_eq] at p
        have hb : xs.length < 16777216 := by simpa using hb
        refine ⟨a, vs, y, rfl, rfl, h1, by rw [h2.length]; exact hb, ?_⟩
        exact fin_rv p (e2.trans (Ext.put t3 hk2 hS2 h1)) (t3.put hk2 hS2 h1 ((h2.mono (fun _ _ _ z => z) fun _ _ z => at_grow z).append (.cons t4 .nil))) .non
      · exact p.elim
    · exact p.elim
theorem s_extend (g : Good X G F C W T N sc n) {a e : E} {a' e' : Expr} {apos cpos : Pos} (ha : SE X G F C W a a') (he : SE X G F C W e e') (hn : noStar e' = true) (hc : noCall a' = true) (hl : (apos.endLine == cpos.line) = true) : SE X G F C W (.mth .extend a (.cons e .nil)) (.Call (.Attribute a' "extend" apos) [e'] [] cpos) :=
  s_m1 g ha he hn hc hl PySem.F.slot_list_extend PySem.F.type_list_extend mt_extend fun σ H mm S H1 m1 S1 k a u y Q e r hk ru p => by
    unfold meth at p
    dsimp only at p
    split at p
    · rename_i xs ys hS hy
      obtain ⟨vs, h1, h2⟩ := r.cell k a _ hk hS
      obtain ⟨b, ws, rfl, h3, h4⟩ := mlist_ok r ru hy
      split at p
      · rename_i hb
        rw [frL_eq] at p
        refine ⟨a, b, vs, ws, rfl, rfl, h1, h3, by rw [h2.length, h4.length]; exact okN_ok hb, ?_⟩
        exact fin_rv p (e.trans (Ext.put r hk hS h1)) (r.put hk hS h1 (h2.append h4)) .non
      · exact p.elim
    · exact p.elim
theorem s_pop (g : Good X G F C W T N sc n) {a : E} {a' : Expr} {apos cpos : Pos} (ha : SE X G F C W a a') (hc : noCall a' = true) (hl : (apos.endLine == cpos.line) = true) : SE X G F C W (.mth .pop a .nil) (.Call (.Attribute a' "pop" apos) [] [] cpos) := by
  refine .plain (impE (pe_bm0 PySem.F.plainAttrs_list PySem.F.slot_list_pop PySem.F.type_list_pop mt_pop ha.pe (noCall_ok hc _ _ _) hl) fun σ H Q h => ?_) rfl
  obtain ⟨fr, S, mm, rf, rs, p⟩ := h
  rw [ev] at p
  refine ⟨fr, S, mm, rf, rs, p.bnd.imp fun v S1 m1 H1 x1 r1 q x rv => ?_⟩
  split at q
  · rename_i hL
    obtain ⟨k, a, vs, rfl, rfl, hk, hD⟩ := isL_ok r1 rv hL
    refine ⟨tyL hD, ?_⟩
    rw [evs] at q
    have q : PR G W σ H mm S (meth M.pop (.ref k) [] S1) (Pv G H Q) := q
    unfold meth at q
    dsimp only at q
    split at q
    · rename_i xs hS
      obtain ⟨ws, h1, h2⟩ := r1.cell k a _ hk hS
      split at q
      · rename_i w hw
        rw [frL_eq] at q
        rw [List.getLast?_eq_getElem?] at hw
        obtain ⟨y, h3, h4⟩ := h2.get hw
        refine ⟨a, ws, y, rfl, rfl, h1, by rw [h2.length]; exact h3, ?_⟩
        have hd : RVs G H1 m1 xs.dropLast ws.dropLast := by
          rw [List.dropLast_eq_take, List.dropLast_eq_take, h2.length]
          exact h2.take _
        have x2 := Ext.put (ys := xs.dropLast) (ws := ws.dropLast) r1 hk hS h1
        exact fin_rv q (x1.trans x2) (r1.put hk hS h1 hd) (x2.rv h4)
      · exact q.elim
    · exact q.elim
  · exact q.elim
end
end Ev

/-! Ev21: isinstance; more built-ins. -/
namespace Ev
open PySem PySem.Spec PyProof.Rows L2

/-! ### isinstance -/
def tyN : Ty → String
  | .int => "int" | .bool => "bool" | .str => "str" | .list => "list" | .tuple => "tuple"
def tyS : Ty → Str
  | .int => "int" | .bool => "bool" | .str => "str" | .list => "list" | .tuple => "tuple"
def pvN : PV → String
  | .non => "NoneType" | .bl _ => "bool" | .int _ => "int" | .str _ => "str" | .tup _ _ => "tuple" | .fn _ => "function" | _ => "list"
section
variable {G : Gx} {F : Fn} {C : List PV} {W : WX} {X : Cx} {T : Tb} {N : List Str} {sc so : Scope} {n : Nat}
theorem kit1 (K : PySem.W.Frag) (a : String) (t : Ty) (h : a ∈ ["NoneType", "bool", "int", "str", "tuple", "list"]) : PySem.W.kitOne K (.type a) (.type (tyN t)) = some (match a, t with
    | "bool", .int => true | "bool", .bool => true | "int", .int => true | "str", .str => true | "tuple", .tuple => true | "list", .list => true | _, _ => false) := by
  simp only [List.mem_cons, List.not_mem_nil, or_false] at h
  rcases h with rfl | rfl | rfl | rfl | rfl | rfl <;> cases t <;> kernel_rfl
theorem ty_ok {Z : Addr → Prop} {H : Hp} {m : List Addr} {S : Store} {v : PV} {x : V} {t : Ty} {b : Bool} (r : RS G H m S) (rv : RT G Z H m v x) (e : isTy S t v = some b) : TyX G.K H x (.type (pvN v)) ∧ PySem.W.kitOne G.K (.type (pvN v)) (.type (tyN t)) = some b := by
  have lst : ∀ {a : Addr} {vs : List V}, Rd H a (.lst vs) → TyX G.K H (.ref a) (.type "list") := fun {a vs} h => by
    rcases h with h | ⟨o, h⟩
    · exact .base (.lst h)
    · exact .base (.frz h)
  cases v with
  | non => cases rv; cases e; exact ⟨.base .non, by rw [show pvN .non = "NoneType" from rfl, kit1 _ _ _ (by simp)]; cases t <;> rfl⟩
  | bl c => cases rv; cases e; exact ⟨.base (.bl c), by rw [show pvN (.bl c) = "bool" from rfl, kit1 _ _ _ (by simp)]; cases t <;> rfl⟩
  | int i => cases rv; cases e; exact ⟨.base (.int i), by rw [show pvN (.int i) = "int" from rfl, kit1 _ _ _ (by simp)]; cases t <;> rfl⟩
  | str z => cases rv; cases e; exact ⟨.base (.str z), by rw [show pvN (.str z) = "str" from rfl, kit1 _ _ _ (by simp)]; cases t <;> rfl⟩
  | tup b xs =>
    cases rv with
    | tup h _ =>
      cases e
      refine ⟨?_, by rw [show pvN (.tup b xs) = "tuple" from rfl, kit1 _ _ _ (by simp)]; cases t <;> rfl⟩
      rcases h.1 with (h | ⟨o, h⟩) | ⟨o, its, k, h, hc, _⟩
      · exact .base (.tup h)
      · exact .fTuple h
      · exact .kTuple h hc
  | fn k => cases e
  | ref k =>
    unfold isTy at e
    dsimp only at e
    split at e
    · rename_i xs hx
      cases e
      obtain ⟨a, vs, rfl, h1, _⟩ := items_ok r rv hx
      exact ⟨lst h1, by rw [show pvN (.ref k) = "list" from rfl, kit1 _ _ _ (by simp)]; cases t <;> rfl⟩
    · cases e
  | new ys =>
    unfold isTy at e
    dsimp only at e
    split at e
    · rename_i xs hx
      cases e
      obtain ⟨a, vs, rfl, h1, _⟩ := items_ok r rv hx
      exact ⟨lst h1, by rw [show pvN (.new ys) = "list" from rfl, kit1 _ _ _ (by simp)]; cases t <;> rfl⟩
    · cases e
theorem boot_ty (t : Ty) : bootBuiltins (tyS t) = some (.type (tyN t)) := by
  cases t
  · exact boot_int
  · exact boot_bool
  · exact boot_str
  · exact boot_list
  · exact boot_tuple
theorem bn_ty (t : Ty) : tyS t ∈ bnames := by cases t <;> simp [bnames, tyS]
theorem bne_ty (t : Ty) : tyS t ≠ "__name__" ∧ (tyS t == ("__debug__" : Str)) = false := by cases t <;> exact ⟨by decide, by decide⟩
theorem pe_ty (g : Good X G F C W T N sc n) {t : Ty} {y : Str} {q : Pos} (hy : y = tyS t) (hg : glB sc y = true) : PE X (.Name y q) (tC (.ty (tyN t))) := by
  subst hy
  exact pe_bltn (glB_ok g.sc hg) (g.free _ (bn_ty t)) (boot_ty t) rfl (bne_ty t).1 (bne_ty t).2
theorem noStarN {x : Str} {p : Pos} {es : List Expr} {env : Env} : starEach (.Name x p :: es) env = (false, eval (.Name x p) env) :: starEach es env := rfl
theorem s_isi1 (g : Good X G F C W T N sc n) {t : Ty} {a : E} {a' : Expr} {x y : Str} {p q pos : Pos} (hx : x = "isinstance") (hg : glB sc x = true) (hy : y = tyS t) (hgy : glB sc y = true) (ha : SE X G F C W a a') (hn : noStar a' = true) : SE X G F C W (.isi [t] a) (.Call (.Name x p) [a', .Name y q] [] pos) := by
  subst hx
  refine .plain (impE (pe_callB call_isi (glB_ok g.sc hg) (g.free _ (by simp [bnames])) boot_isinstance (pa_cons ha.pe (pa_cons (pe_ty g hy hgy) pa_nil noStarN) (noStar_ok hn)) (by decide) (by decide) (noStar_ok hn) (by rfl)) fun σ H Q h => ?_) rfl
  rw [g.kk]
  obtain ⟨fr, S, m, rf, rs, p⟩ := h
  rw [ev] at p
  refine ⟨fr, S, m, rf, rs, p.bnd.imp fun v S1 m1 H1 x1 r1 q x rv => ?_⟩
  split at q
  · rename_i c hc
    rw [frB_eq] at q
    unfold isTys isTys at hc
    split at hc
    · rename_i b hb
      dsimp only at hc
      rw [Bool.or_false] at hc
      cases hc
      obtain ⟨h1, h2⟩ := ty_ok r1 rv hb
      exact ⟨x, .ty (tyN t), _, _, c, rfl, .ty _, h1, h2, fin_rv q x1 r1 (.bl c)⟩
    · cases hc
  · exact q.elim
theorem s_isi2 (g : Good X G F C W T N sc n) {t t2 : Ty} {a : E} {a' : Expr} {x y y2 : Str} {p q q2 pt pos : Pos} {k : Nat} (hx : x = "isinstance") (hg : glB sc x = true) (hy : y = tyS t) (hgy : glB sc y = true) (hy2 : y2 = tyS t2) (hgy2 : glB sc y2 = true) (ha : SE X G F C W a a') (hn : noStar a' = true) :
    SE X G F C W (.isi [t, t2] a) (.Call (.Name x p) [a', .Tuple [.Name y q, .Name y2 q2] k pt] [] pos) := by
  subst hx
  refine .plain (impE (pe_callB call_isiT (glB_ok g.sc hg) (g.free _ (by simp [bnames])) boot_isinstance (pa_cons ha.pe (pa_cons (pe_tup (pa_cons (pe_ty g hy hgy) (pa_cons (pe_ty g hy2 hgy2) pa_nil noStarN) noStarN)) pa_nil rfl) (noStar_ok hn)) (by decide) (by decide) (noStar_ok hn) (by rfl)) fun σ H Q h => ?_) rfl
  rw [g.kk]
  obtain ⟨fr, S, m, rf, rs, p⟩ := h
  rw [ev] at p
  refine ⟨fr, S, m, rf, rs, p.bnd.imp fun v S1 m1 H1 x1 r1 q x rv => ?_⟩
  refine ⟨show 2 ≤ sizeLine by decide, fun A hA => ?_⟩
  split at q
  · rename_i c hc
    rw [frB_eq] at q
    unfold isTys at hc
    split at hc
    · rename_i b hb
      unfold isTys isTys at hc
      split at hc
      · rename_i d hd
        split at hd
        · rename_i b2 hb2
          dsimp only at hd
          rw [Bool.or_false] at hd
          cases hd
          cases hc
          have x2 := x1.trans (Ext.new (o := .tup [V.ty (tyN t), V.ty (tyN t2)]) hA)
          have r2 := r1.new (o := .tup [V.ty (tyN t), V.ty (tyN t2)]) hA
          have rv2 := (Ext.new (K := G.K) (m := m1) (S := S1) (o := .tup [V.ty (tyN t), V.ty (tyN t2)]) hA).rt rv
          obtain ⟨h1, h2⟩ := ty_ok r2 rv2 hb
          obtain ⟨h3, h4⟩ := ty_ok r2 rv2 hb2
          refine ⟨x, A, [.ty (tyN t), .ty (tyN t2)], _, [.type (tyN t), .type (tyN t2)], b || d, rfl, upd_same, .cons (.ty _) (.cons (.ty _) .nil), h1, ?_, fin_rv q x2 r2 (.bl _)⟩
          unfold PySem.W.kitAny PySem.W.kitAny PySem.W.kitAny
          rw [h2, h4]
          cases b <;> cases d <;> rfl
        · cases hd
      · cases hc
    · cases hc
  · exact q.elim
end
end Ev

/-! Ev22: divmod, min, gcd, factorial, str. -/
namespace Ev
open PySem PySem.Spec PyProof.Rows L2

section
variable {G : Gx} {F : Fn} {C : List PV} {W : WX} {X : Cx} {T : Tb} {N : List Str} {sc so : Scope} {n : Nat}
def rDivmod : List V → Hp → VK → Prop := fun xs H Q => ∃ i j, xs = [.int i, .int j] ∧ CDiv i j ∧ ∀ p, H p = none → Q (.ref p) (upd H p (.tup [.int (i / j), .int (i % j)]))
theorem b_divmod : BiOk G .divmod rDivmod := fun W σ H m S H1 m1 S1 Q vs xs e r rt p => by
  unfold bi at p
  split at p <;> first | contradiction | exact p.elim | skip
  rename_i i j _
  obtain ⟨x, y, rfl, rx, ry⟩ := two rt
  cases rx; cases ry
  split at p
  · rename_i hs
    rw [frI_eq, frI_eq] at p
    obtain ⟨h1, h2⟩ := Bool.and_eq_true_iff.mp hs
    have h1 := iLt_ok h1
    have h2 := small30_ok h2
    exact ⟨i, j, rfl, ⟨h1, by omega⟩, fun q hq => fin_tup p e r (.cons (.int _) (.cons (.int _) .nil)) hq⟩
  · exact p.elim
theorem b_str : BiOk G .str (fun xs H Q => ∃ i, xs = [.int i] ∧ i.natAbs.log2 < 1920 ∧ Q (.str (toString i)) H) := fun W σ H m S H1 m1 S1 Q vs xs e r rt p => by
  unfold bi at p
  split at p <;> first | contradiction | exact p.elim | skip
  rename_i i _
  obtain ⟨x, rfl, rx⟩ := one rt
  cases rx
  split at p
  · rename_i hs
    refine ⟨i, rfl, ?_, fin_rv p e r (.str _)⟩
    have := small64_ok hs
    have h2 : i.natAbs < 2 ^ 64 := by omega
    have h3 : i.natAbs.log2 ≤ 64 := by
      rcases Nat.eq_zero_or_pos i.natAbs with z | z
      · rw [z]; decide
      · exact Nat.le_of_lt ((Nat.log2_lt (by omega)).mpr h2)
    omega
  · exact p.elim
/-- a function of the module math -/
theorem s_biF (g : Good X G F C W T N sc n) {b : B} {es : Es} {a' : Expr} {l : List Expr} {r : List V → Hp → VK → Prop} {id : String} {x : Str} {p pos : Pos} (hc : CallR X (.builtin id) r) (h : BiOk G b r) (hm : X.mg x = some (.builtin id)) (hg : glB sc x = true)
    (hd : (x == ("__debug__" : Str)) = false) (ha : SA X G F C W es (a' :: l)) (hs : noStars (a' :: l) = true) : SE X G F C W (.bi b es) (.Call (.Name x p) (a' :: l) [] pos) := by
  obtain ⟨h1, h2⟩ := Bool.and_eq_true_iff.mp hs
  exact .plain (impE (pe_callBfun hc (glB_ok g.sc hg) hm ha hd (noStar_ok h1) (noStars_ok h2)) fun σ H Q q => bi_step h q) rfl
theorem factN_eq : ∀ n, factN n = Builtin.Math.factorialNat n
  | 0 => by rw [factN]; rfl
  | n + 1 => by
    rw [factN, factN_eq n, PySem.W.mc_fac_succ]
    exact Nat.mul_comm _ _
def rFact : List V → Hp → VK → Prop := fun xs H Q => ∃ n : Nat, xs = [.int (n : Nat)] ∧ n ≤ 20 ∧ Q (.int (Builtin.Math.factorialNat n : Nat)) H
theorem cr_fact : CallR X (.builtin "math.factorial") rFact := by
  intro pins s σ H xs us Q I r h
  obtain ⟨n, rfl, hn, q⟩ := h
  obtain ⟨u, rfl, t, rfl⟩ := vals1 r
  refine PySem.W.mc_factorial (by omega) (by omega) fun _ => ?_
  exact ⟨.int _, H, I.tok _, ⟨_, rfl⟩, by simpa using q⟩
theorem b_fact : BiOk G .fact rFact := fun W σ H m S H1 m1 S1 Q vs xs e r rt p => by
  unfold bi at p
  split at p <;> first | contradiction | exact p.elim | skip
  rename_i k _
  obtain ⟨x, rfl, rx⟩ := one rt
  cases rx
  split at p
  · rename_i hs
    rw [frN_eq, factN_eq] at p
    exact ⟨k, rfl, by simpa using hs, fin_rv p e r (.int _)⟩
  · exact p.elim
/-! ### min -/
def rMinD (K : PySem.W.Frag) : List V → Hp → VK → Prop := fun vs H Q => ∃ (a : Addr) (ys : List V) (d : PyData) (ds : List PyData), vs = [V.ref a] ∧ (SqL K H a ys ∨ SqT K H a ys) ∧ DpAll K H ys (d :: ds) ∧ PySem.W.AlikeAll (d :: ds) ∧ PyData.depthAll (d :: ds) < 8 ∧ ∀ (i : Nat) y, ys[i]? = some y → (d :: ds)[i]? = some (PySem.W.minD d ds) → Q y H
theorem cr_minD {X : Cx} (hc : X.calm = true) (hu : X.A.units + 65 < cLine) : CallR X (.builtin "min") (rMinD X.K) := by
  intro pins s σ H vs us Q I r h
  obtain ⟨a, ys, d, ds, rfl, hs, hd, hal, hdp, q⟩ := h
  have fin : ∀ {its : List Value} {as : List Addr}, Vals ys its → ReadsAll s.heap its (d :: ds) as → ∀ (i : Nat) v h' tk bs, its[i]? = some v → Reads h' v (PySem.W.minD d ds) bs → (∀ b o, s.heap.get? b = some o → h'.get? b = some o) → EP X pins σ Q v { s with heap := h', toks := tk } := fun {its as} rv hr i v h' tk bs hv rd hk => by
    have hi : i < ys.length := by rw [rv.length]; exact (List.getElem?_eq_some_iff.mp hv).1
    obtain ⟨u, hu2, ru⟩ := rv.get (List.getElem?_eq_getElem hi)
    rw [hv] at hu2
    cases hu2
    refine ⟨ys[i], H, I.kept hk, ru, q i _ (List.getElem?_eq_getElem hi) ?_⟩
    obtain ⟨bs2, r2, h2, _, _⟩ := PySem.W.readsAll_at hr i v hv
    have e := (Reads.unique (Reads.keeps hk r2) _ _ rd).1
    rw [List.getElem?_eq_getElem h2, ← e, List.getD_eq_getElem?_getD, List.getElem?_eq_getElem h2]
    rfl
  rw [Vals.ref1 r]
  rcases hs with hs | hs
  · obtain ⟨its, rv, hl, _⟩ := I.list hs
    obtain ⟨as, hr⟩ := Dp.readsAll I (d :: ds) ys its hd rv
    exact PySem.W.min_list_data (I.ok.hd hc) hl.isList (by simpa using hr) hal (by omega) fun i v h' tk bs hv rd hk => fin rv hr i v h' tk bs (by simpa using hv) rd hk
  · obtain ⟨its, rv, hl, _⟩ := I.tuple hs
    obtain ⟨as, hr⟩ := Dp.readsAll I (d :: ds) ys its hd rv
    exact PySem.W.min_tuple_data (I.ok.hd hc) (isTuple_of hl) (by simpa using hr) hal (by omega) fun i v h' tk bs hv rd hk => fin rv hr i v h' tk bs (by simpa using hv) rd hk
/-- tuples of numbers as data -/
def tD (is : List Int) : PyData := .tuple (is.map .int)
theorem minT_eq : ∀ (ts : List (List Int)) (t : List Int), PySem.W.minD (tD t) (ts.map tD) = tD (minT ts t)
  | [], t => rfl
  | i :: ts, t => by
    unfold PySem.W.minD
    rw [List.map_cons, List.foldl_cons, minT]
    split
    · rename_i h
      have h' : PySem.W.dataLt (PyData.tuple (List.map PyData.int i)) (PyData.tuple (List.map PyData.int t)) = true := h
      rw [h']
      exact minT_eq ts i
    · rename_i h
      have h' : PySem.W.dataLt (PyData.tuple (List.map PyData.int i)) (PyData.tuple (List.map PyData.int t)) = false := by
        cases q : PySem.W.dataLt (PyData.tuple (List.map PyData.int i)) (PyData.tuple (List.map PyData.int t)) with
        | false => rfl
        | true => exact (h q).elim
      rw [h']
      exact minT_eq ts t
theorem tD_inj {a b : List Int} (h : tD a = tD b) : a = b := by
  unfold tD at h
  injection h with h
  have key : ∀ {a b : List Int}, a.map PyData.int = b.map PyData.int → a = b := by
    intro a
    induction a with
    | nil => intro b h; cases b with
      | nil => rfl
      | cons => simp at h
    | cons x a ih => intro b h; cases b with
      | nil => simp at h
      | cons y b =>
        rw [List.map_cons, List.map_cons] at h
        injection h with h1 h2
        injection h1 with h1
        rw [h1, ih h2]
  exact key h
theorem tD_alike (a b : List Int) : PySem.W.alike (tD a) (tD b) = true := by
  unfold tD PySem.W.alike
  have key : ∀ {a b : List Int}, PySem.W.alikeAll (a.map PyData.int) (b.map PyData.int) = true := by
    intro a
    induction a with
    | nil => intro b; cases b <;> simp [PySem.W.alikeAll]
    | cons x a ih => intro b; cases b with
      | nil => simp [PySem.W.alikeAll]
      | cons y b => simp [PySem.W.alikeAll, PySem.W.alike, ih]
  exact key
theorem ints_dp {K : PySem.W.Frag} {H : Hp} : ∀ (is : List Int), DpAll K H (is.map V.int) (is.map PyData.int) ∧ PyData.depthAll (is.map PyData.int) ≤ 1
  | [] => ⟨.nil, by simp [PyData.depthAll]⟩
  | i :: is => ⟨.cons (.int i) (ints_dp is).1, by
    have := (ints_dp (K := K) (H := H) is).2
    simp only [List.map_cons, PyData.depthAll, PyData.depth]
    omega⟩
theorem intsP_eq : ∀ {xs : List PV} {is : List Int}, intsP xs = some is → xs = is.map .int
  | [], is, h => by cases h; rfl
  | x :: xs, is, h => by
    cases x with
    | int i =>
      unfold intsP at h
      split at h
      · rename_i js hj
        cases h
        rw [List.map_cons, intsP_eq hj]
      · cases h
    | _ => cases h
theorem tups_dp {H : Hp} {m : List Addr} : ∀ {xs : List PV} {ws : List V} {ts : List (List Int)}, RVs G H m xs ws → tupsI xs = some ts → DpAll G.K H ws (ts.map tD) ∧ PyData.depthAll (ts.map tD) ≤ 2 ∧ ∀ (i : Nat) u, ts[i]? = some u → ∃ b, xs[i]? = some (PV.tup b (u.map .int))
  | _, _, _, .nil, h => by cases h; exact ⟨.nil, by simp [PyData.depthAll], fun i u h => by simp at h⟩
  | _, _, _, .cons h r, e => by
    cases h with
    | tup hT q =>
      unfold tupsI at e
      split at e
      · rename_i is hi
        split at e
        · rename_i iss h2
          cases e
          obtain ⟨a1, a2, a3⟩ := tups_dp r h2
          have ew := q.ints hi
          subst ew
          refine ⟨.cons (.tup hT.1 (ints_dp is).1) a1, ?_, fun i u hu => ?_⟩
          rotate_left
          · cases i with
            | zero => cases hu; exact ⟨_, by rw [List.getElem?_cons_zero, ← intsP_eq hi]⟩
            | succ i => obtain ⟨b, hb⟩ := a3 i u (by simpa using hu); exact ⟨b, by simpa using hb⟩
          have := (ints_dp (K := G.K) (H := H) is).2
          simp only [List.map_cons, PyData.depthAll, tD, PyData.depth]
          omega
        · cases e
      · cases e
    | _ => cases e
theorem b_min : BiOk G .min (fun xs H Q => (rMin G.K xs H Q ∨ rMinT G.K xs H Q) ∨ rMinD G.K xs H Q) := fun W σ H m S H1 m1 S1 Q vs xs e r rt p => by
  unfold bi at p
  split at p <;> first | contradiction | exact p.elim | skip
  rename_i a _
  obtain ⟨x, rfl, rx⟩ := one rt
  split at p
  · rename_i ys hy
    obtain ⟨a, ws, rfl, h1, h2⟩ := seqL_ok r rx hy
    split at p
    · rename_i i is hi
      have ew := h2.ints hi
      subst ew
      rcases h1 with h1 | h1
      · exact .inl (.inl ⟨a, i :: is, rfl, h1, by simp, fun mm q1 q2 => by rw [best_min q1 q2]; exact fin_rv p e r (.int _)⟩)
      · exact .inl (.inr ⟨a, i :: is, rfl, h1, by simp, fun mm q1 q2 => by rw [best_min q1 q2]; exact fin_rv p e r (.int _)⟩)
    · split at p
      · rename_i t ts ht
        obtain ⟨a1, a2, a3⟩ := tups_dp h2 ht
        refine .inr ⟨a, ws, tD t, ts.map tD, rfl, h1, a1, ⟨fun x hx y hy => ?_, fun x hx => ?_⟩, by rw [List.map_cons] at a2; omega, fun i y hy hm => ?_⟩
        · rw [← List.map_cons] at hx hy
          obtain ⟨u, _, rfl⟩ := List.mem_map.mp hx
          obtain ⟨v, _, rfl⟩ := List.mem_map.mp hy
          exact tD_alike u v
        · rw [← List.map_cons] at hx
          obtain ⟨u, _, rfl⟩ := List.mem_map.mp hx
          exact fun z => by cases z
        · rw [← List.map_cons, List.getElem?_map] at hm
          obtain ⟨u, hu, hu2⟩ := Option.map_eq_some_iff.mp hm
          rw [minT_eq] at hu2
          have hu3 := tD_inj hu2
          subst hu3
          obtain ⟨b, hx⟩ := a3 i _ hu
          obtain ⟨y', h3, h4⟩ := h2.get hx
          rw [hy] at h3
          cases h3
          cases h4 with
          | tup q1 q2 => exact fin_rv p e r (.tup q1.off q2)
      · exact p.elim
  · exact p.elim
end
end Ev

/-! EvS: sorted. -/
namespace Ev
open PySem PySem.Spec PyProof.Rows L2

def rSortedT (K : PySem.W.Frag) : List V → Hp → VK → Prop := fun vs H Q => ∃ (a : Addr) (ns : List Int), vs = [V.ref a] ∧ SqT K H a (ns.map V.int) ∧
  ∀ (ns' : List Int) (p : Addr), ns'.Perm ns → ns'.Pairwise (· ≤ ·) → H p = none → Q (.ref p) (upd H p (.lst (ns'.map V.int)))
theorem cr_sortedT {X : Cx} : CallR X (.builtin "sorted") (rSortedT X.K) := by
  intro pins s σ H vs us Q I r h
  obtain ⟨a, ns, rfl, hs, q⟩ := h
  obtain ⟨its, rv, ⟨o, ho, hc, k, hd⟩, hz⟩ := I.tuple hs
  rw [Vals.ref1 r]
  have hi := rv.ints
  have hz2 : its.length ≤ sizeLine := by rw [← rv.length]; exact hz
  refine Calls.call_function_entry kind_sorted plain_sorted entry_sorted (args_sorted1 _) ?_
  unfold Builtin.«sorted»
  refine wpAny_bind (m := checkCount "sorted" 1 1 _) (wpAny_pure ?_)
  refine wpAny_bind (wpAny_collect_seq a (.inr rfl) ho hc hd (fun h' hk => ?_) (by rw [List.size_toArray]; exact hz2))
  rw [List.toList_toArray]
  refine wpAny_bind (wpAny_newList ?_ hz2)
  have hob : (h'.push { cls := .type "list", data := .seq its.toArray }).get? h'.objs.size = some (seqObj "list" its.toArray 0) := Heap.get?_push_size _ rfl
  have old : ∀ b o, s.heap.get? b = some o → b < h'.objs.size := fun b o e => Heap.lt_size (hk b o e)
  refine wpAny_bind (wpAny_holding (wpAny_call_entry PyProof.Rows.slot_list_sort ⟨_, hob, rfl⟩ PyProof.Rows.entry_list_sort (SrtO.list_sort_ord SrtO.swo_int hob hz2 (fun h2 => SrtO.ints_sortable hi h2) fun out h1 h2 => ⟨_, rfl, ?_⟩) (PyProof.Rows.args_list_sort _)))
  refine wpAny_pure ⟨_, rfl, ?_⟩
  obtain ⟨k1, k2, k3⟩ := SrtO.ints_out hi h1 h2
  obtain ⟨ep, he'⟩ := PyProof.Rows.sortedHeap_at (vs := its) (out := out.toArray) hob
  have hlen : ((out.map SrtO.iv).map V.int).length ≤ sizeLine := by
    rw [List.length_map, k2.length_eq]
    rw [List.length_map] at hz
    exact hz
  have I2 : Inv X pins σ H { s with heap := h' } := I.kept (t' := s.toks) hk
  refine ⟨.ref _, upd H h'.objs.size (.lst ((out.map SrtO.iv).map V.int)), I2.laid (t' := s.toks) (fun b o e => ?_) (Nat.le_refl _) ⟨hlen, out, ep, vals_of_ints k1, he'⟩, rfl, q _ _ k2 k3 (I2.hok.fresh (Nat.le_refl _))⟩
  have hb : b < h'.objs.size := Heap.lt_size e
  rw [PyProof.Rows.sortedHeap_old (Nat.ne_of_lt hb) (by rw [Heap.size_push]; exact Nat.lt_succ_of_lt hb)]
  exact Heap.get?_push_of_some _ e
/-! ### the sorted list is one -/
theorem insI_perm (i : Int) : ∀ l : List Int, (insI i l).Perm (i :: l)
  | [] => List.Perm.refl _
  | j :: r => by
    unfold insI
    split
    · exact (List.Perm.cons j (insI_perm i r)).trans (List.Perm.swap i j r)
    · exact List.Perm.refl _
theorem sortI_perm : ∀ l : List Int, (sortI l).Perm l
  | [] => List.Perm.refl _
  | i :: r => by
    rw [sortI, frL_eq]
    exact (insI_perm i _).trans (List.Perm.cons i (sortI_perm r))
theorem insI_sorted (i : Int) : ∀ {l : List Int}, l.Pairwise (· ≤ ·) → (insI i l).Pairwise (· ≤ ·)
  | [], _ => by simp [insI]
  | j :: r, h => by
    obtain ⟨h1, h2⟩ := List.pairwise_cons.mp h
    unfold insI
    split
    · rename_i hlt
      refine List.pairwise_cons.mpr ⟨fun x hx => ?_, insI_sorted i h2⟩
      rcases List.mem_cons.mp ((insI_perm i r).mem_iff.mp hx) with rfl | hx
      · have := iLt_ok hlt; omega
      · exact h1 x hx
    · rename_i hlt
      have := iLt_no hlt
      refine List.pairwise_cons.mpr ⟨fun x hx => ?_, h⟩
      rcases List.mem_cons.mp hx with rfl | hx
      · omega
      · have := h1 x hx; omega
theorem sortI_sorted : ∀ l : List Int, (sortI l).Pairwise (· ≤ ·)
  | [] => by simp [sortI]
  | i :: r => by
    rw [sortI, frL_eq]
    exact insI_sorted i (sortI_sorted r)
theorem sorted_one {a b : List Int} (h : a.Perm b) (ha : a.Pairwise (· ≤ ·)) (hb : b.Pairwise (· ≤ ·)) : a = b :=
  h.eq_of_pairwise (le := (· ≤ ·)) (fun x y _ _ h1 h2 => Int.le_antisymm h1 h2) ha hb
theorem b_sorted {G : Gx} : BiOk G .sorted (fun xs H Q => rSortedI G.K xs H Q ∨ rSortedT G.K xs H Q) := fun W σ H m S H1 m1 S1 Q vs xs e r rt p => by
  unfold bi at p
  split at p <;> first | contradiction | exact p.elim | skip
  rename_i a _
  obtain ⟨x, rfl, rx⟩ := one rt
  split at p
  · rename_i ys hy
    obtain ⟨a, ws, rfl, h1, h2⟩ := seqL_ok r rx hy
    split at p
    · rename_i is hi
      have ew := h2.ints hi
      subst ew
      rw [frL_eq] at p
      have fin : ∀ (ns' : List Int) (p : Addr), ns'.Perm is → ns'.Pairwise (· ≤ ·) → H1 p = none → Q (.ref p) (upd H1 p (.lst (ns'.map V.int))) := fun ns' q hp hs hq => by
        rw [sorted_one (hp.trans (sortI_perm is).symm) hs (sortI_sorted is)]
        exact fin_new p e r (RVs.ofInts _) hq
      rcases h1 with h1 | h1
      · exact .inl ⟨a, is, rfl, h1, fin⟩
      · exact .inr ⟨a, is, rfl, h1, fin⟩
    · exact p.elim
  · exact p.elim
end Ev

/-! EvT: len(set(x)). -/
namespace Ev
open PySem PySem.Spec PyProof.Rows L2

theorem len_same {a b : List Int} (ha : a.Nodup) (hb : b.Nodup) (h : ∀ k, k ∈ a ↔ k ∈ b) : a.length = b.length := ((List.perm_ext_iff_of_nodup ha hb).mpr h).length_eq
theorem memI_iff {i : Int} : ∀ {l : List Int}, memI i l = true ↔ i ∈ l
  | [] => by simp [memI]
  | j :: r => by
    unfold memI
    rw [iEq_eq]
    by_cases h : i = j
    · simp [h]
    · simp [h, memI_iff (i := i) (l := r)]
theorem dedI_mem {i : Int} : ∀ {l : List Int}, i ∈ dedI l ↔ i ∈ l
  | [] => by simp [dedI]
  | j :: r => by
    unfold dedI
    split
    · rename_i h
      have h := memI_iff.mp h
      rw [dedI_mem (l := r)]
      constructor
      · exact fun q => List.mem_cons_of_mem _ q
      · intro q
        rcases List.mem_cons.mp q with rfl | q
        · exact h
        · exact q
    · rw [List.mem_cons, List.mem_cons, dedI_mem (l := r)]
theorem dedI_nodup : ∀ (l : List Int), (dedI l).Nodup
  | [] => by simp [dedI]
  | j :: r => by
    unfold dedI
    split
    · exact dedI_nodup r
    · rename_i h
      refine List.nodup_cons.mpr ⟨fun q => ?_, dedI_nodup r⟩
      rw [memI_iff.mpr (dedI_mem.mp q)] at h
      cases h
theorem setR_len {w : World} {h : Heap} {a : Addr} {ns : List Int} {c : Nat} (R : SetR w h a (fun j => decide (j ∈ ns)) c) : c = (dedI ns).length := by
  obtain ⟨o, es, ep, t, ho, hex, hd, _, nd, hm, _, _, hn, _⟩ := R
  rw [← hn]
  have e : es.size = (es.toList.map keyOf).length := by simp
  rw [e]
  refine len_same nd (dedI_nodup ns) fun k => ?_
  rw [← hm k, dedI_mem]
  simp
/-- len(set(x)), x a tuple of numbers -/
def tLenSetT (K : PySem.W.Frag) (ta : TE) : TE := fun σ H Q => ta σ H fun x H1 => ∃ (l : Addr) (ns : List Int), x = .ref l ∧ SqT K H1 l (ns.map V.int) ∧ ns.length ≤ 4000 ∧ Q (.int ((dedI ns).length : Nat)) H1
theorem pe_lenSetT {X : Cx} {a : Expr} {ta : TE} {p p2 q pos : Pos} (hg : Gl X "len") (hm : X.mg "len" = none) (hg2 : Gl X "set") (hm2 : X.mg "set" = none) (ha : PE X a ta) (hc : X.calm = true)
    (na : starEach [a] X.env = (false, eval a X.env) :: starEach [] X.env) : PE X (.Call (.Name "len" p) [.Call (.Name "set" p2) [a] [] q] [] pos) (tLenSetT X.K ta) := by
  refine ⟨fun pins s σ H Q I h => ?_⟩
  refine Call_ (ld_blt I hg hm boot_len ?_)
  refine PyProof.Rows.callWith_builtin1 (PyProof.Rows.args_cons ?_ rfl) rfl rfl
  refine Call_ (ld_blt I hg2 hm2 boot_set ?_)
  refine PyProof.Rows.callWith_type1 (PyProof.Rows.args_cons (thn (ha.run pins s σ H _ I h) fun v s1 ⟨x, H1, I1, r1, q1⟩ => PyProof.Rows.args_nil ?_) na) na rfl
  obtain ⟨l, ns, rfl, hq, hl, q1⟩ := q1
  cases r1
  obtain ⟨its, r, pl, hz⟩ := I1.tuple hq
  refine call_set_tupI ns (I1.ok.hd hc) (isTuple_of pl) (by simpa using r.ints) (by unfold scanBound; omega) fun h' tk c R hc' hk => ?_
  refine PyProof.Rows.args_nil ?_
  have ec := setR_len R
  obtain ⟨o, es, ep, t, ho, hex, hd, _, _, _, _, hf, hn, _⟩ := R
  have I2 : Inv X pins σ H1 { s1 with heap := h', toks := tk } := I1.kept hk
  exact call_len_set ho hex hd hf (by rw [hn]; omega) ⟨.int _, H1, I2.tok _, ⟨_, by rw [hn, ec]⟩, q1⟩
section
variable {G : Gx} {F : Fn} {C : List PV} {W : WX} {X : Cx} {T : Tb} {N : List Str} {sc so : Scope} {n : Nat}
theorem s_lenset (g : Good X G F C W T N sc n) {a : E} {a' : Expr} {x y : Str} {p p2 q pos : Pos} (hx : x = "len") (hg : glB sc x = true) (hy : y = "set") (hg2 : glB sc y = true) (ha : SE X G F C W a a') (hn : noStar a' = true) : SE X G F C W (.bi .lenset (.cons a .nil)) (.Call (.Name x p) [.Call (.Name y p2) [a'] [] q] [] pos) := by
  subst hx hy
  refine .plain (impE (pe_lenSetT (glB_ok g.sc hg) (g.free _ (by simp [bnames])) (glB_ok g.sc hg2) (g.free _ (by simp [bnames])) ha.pe g.calm (noStar_ok hn)) fun σ H Q h => ?_) rfl
  rw [g.kk]
  obtain ⟨fr, S, m, rf, rs, p⟩ := h
  rw [ev, evs] at p
  refine ⟨fr, S, m, rf, rs, p.bnd.bnd.imp fun v S1 m1 H1 x1 r1 q x rv => ?_⟩
  rw [evs] at q
  have q := q m1 H1 x1 r1
  have q : PR G W σ H m S (R.of S1 (bi S1 .lenset [v])) (Pv G H Q) := q
  unfold bi at q
  dsimp only at q
  split at q
  · rename_i ys
    cases rv with
    | tup h1 h2 =>
      split at q
      · rename_i is hi
        have ew := h2.ints hi
        subst ew
        split at q
        · rename_i hb
          rw [frN_eq] at q
          exact ⟨_, is, rfl, h1.1, by simpa using hb, fin_rv q x1 r1 (.int _)⟩
        · exact q.elim
      · exact q.elim
  · exact q.elim
end
end Ev

/-! EvU: x[i::-1], t.count(x), D.get(x). -/
namespace Ev
open PySem PySem.Spec PyProof.Rows L2

/-! ### from a place down to the first -/
/-- how many items -/
def dnN (n : Nat) : Option Int → Nat
  | none => n
  | some (.ofNat k) => min (k + 1) n
  | some (.negSucc k) => n - k
theorem dnN_le (n : Nat) (o : Option Int) : dnN n o ≤ n := by
  unfold dnN
  split <;> omega
theorem downTo_eq {α : Type} (xs : List α) (o : Option Int) : downTo xs o = (xs.take (dnN xs.length o)).reverse := by
  unfold downTo dnN
  split
  · rw [List.take_length]
  · rename_i k
    congr 1
    show xs.take (k + 1) = xs.take (min (k + 1) xs.length)
    rcases Nat.le_total (k + 1) xs.length with h | h
    · rw [Nat.min_eq_left h]
    · rw [Nat.min_eq_right h, List.take_length, List.take_of_length_le h]
  · rfl
theorem fm_congr {α β : Type} {f g : α → Option β} : ∀ {l : List α}, (∀ x ∈ l, f x = g x) → l.filterMap f = l.filterMap g
  | [], _ => rfl
  | x :: r, h => by
    rw [List.filterMap_cons, List.filterMap_cons, h x (by simp), fm_congr fun y hy => h y (List.mem_cons_of_mem _ hy)]
theorem dn_pick (xs : Array Value) (c : Int) (d : Nat) (hd : d ≤ xs.size) (hc : c = (d : Int) - 1) : (List.range d).filterMap (fun (k : Nat) => xs[(c + (k : Int) * -1).toNat]?) = (xs.toList.take d).reverse := by
  have h1 : (List.range d).filterMap (fun (k : Nat) => xs[(c + (k : Int) * -1).toNat]?) = ((List.range d).map fun k => d - 1 - k).filterMap (xs[·]?) := by
    rw [List.filterMap_map]
    refine fm_congr fun k hk => ?_
    have hk := List.mem_range.mp hk
    have e : (c + (k : Int) * -1).toNat = d - 1 - k := by omega
    show xs[(c + (k : Int) * -1).toNat]? = xs[d - 1 - k]?
    rw [e]
  rw [h1, PySem.W.krv_range, List.filterMap_reverse]
  have h2 := pick_run xs 0 d
  rw [show ((0 + ·) : Nat → Nat) = id from funext fun k => Nat.zero_add k, List.map_id, List.drop_zero] at h2
  rw [h2]
theorem dn_adjust (lo : Option Int) (n : Nat) : Builtin.Slice.sliceAdjust lo none (-1) (n : Int) = ((dnN n lo : Int) - 1, -1) := by
  unfold Builtin.Slice.sliceAdjust dnN
  simp only [show ((-1 : Int) < 0) = True by simp, if_true]
  refine Prod.ext ?_ rfl
  cases lo with
  | none => rfl
  | some v =>
    cases v with
    | ofNat k =>
      dsimp only
      rw [if_neg (show ¬ (Int.ofNat k < 0) by simp only [Int.ofNat_eq_natCast]; omega)]
      simp only [Int.ofNat_eq_natCast]
      omega
    | negSucc k =>
      dsimp only
      rw [if_pos (show Int.negSucc k < 0 by omega)]
      omega
theorem dn_places (d : Nat) : Builtin.Slice.slicePlaces ((d : Int) - 1) (-1) (-1) = d := by
  unfold Builtin.Slice.slicePlaces
  simp only [show ¬ ((-1 : Int) > 0) by simp, if_false, Int.neg_neg, Int.ediv_one]
  split <;> omega
theorem dn_slice (its : List Value) (lo : Option Int) : slicePick its.toArray lo none (some (-1)) = (downTo its lo).toArray := by
  have hb : sliceBounds lo none (some (-1)) its.toArray.size = ((dnN its.length lo : Int) - 1, -1, -1) := by
    unfold sliceBounds dnN
    simp only [Option.getD_some, show ¬ ((-1 : Int) > 0) by simp, if_false, List.size_toArray]
    refine Prod.ext ?_ rfl
    cases lo with
    | none => rfl
    | some v =>
      cases v with
      | ofNat k =>
        dsimp only
        rw [if_neg (show ¬ (Int.ofNat k < 0) by simp only [Int.ofNat_eq_natCast]; omega)]
        simp only [Int.ofNat_eq_natCast]
        omega
      | negSucc k =>
        dsimp only
        rw [if_pos (show Int.negSucc k < 0 by omega)]
        omega
  unfold slicePick
  rw [hb]
  congr 1
  have hl : dnN its.length lo ≤ its.toArray.size := by rw [List.size_toArray]; exact dnN_le _ _
  have key := dn_pick its.toArray ((dnN its.length lo : Int) - 1) (dnN its.length lo) hl rfl
  rw [downTo_eq, ← show its.toArray.toList = its by simp, ← key]
  unfold sliceRange
  simp only [show ¬ ((-1 : Int) > 0) by simp, if_false, Int.neg_neg, Int.ediv_one]
  rw [List.filterMap_map]
  have hn : (if (dnN its.length lo : Int) - 1 > -1 then (dnN its.length lo : Int) - 1 - -1 - -1 - 1 else 0).toNat = dnN its.length lo := by
    split <;> omega
  rw [show its.toArray.toList.length = its.length by simp, hn]
  refine fm_congr fun k _ => ?_
  show its.toArray[((dnN its.length lo : Int) - 1 + -1 * (k : Int)).toNat]? = _
  rw [Int.mul_comm]
section
variable {prog : Program} {w : World} {A : Around} {E : Value → Shared → Prop} {s : Shared}
theorem getItem_tuple_dwn {t sl : Addr} {items : List Value} {vl vs : Value} {lo : Option Int} {Q : Value → Shared → Prop} (ht : IsTup s.heap t items.toArray) (hs : s.heap.IsSliceOf sl vl .none vs) (pl : IsPart vl lo) (ps : IsPart vs (some (-1)))
    (h : Q (.ref s.heap.objs.size) { s with heap := s.heap.push { cls := .type "tuple", data := .seq (downTo items lo).toArray } }) (hsz : items.length ≤ sizeLine) : wpAny (model prog w) A (getItem (.ref t) (.ref sl)) Q E s := by
  have hl : dnN items.length lo ≤ items.toArray.size := by rw [List.size_toArray]; exact dnN_le _ _
  have hok : sizeOk (.seq (downTo items lo).toArray) := by
    show (downTo items lo).toArray.size ≤ sizeLine
    rw [downTo_eq, List.size_toArray, List.length_reverse, List.length_take]
    omega
  obtain ⟨os, hos, hcs, hds⟩ := id hs
  have hTs : s.TypeIs (.ref sl) "slice" := ⟨os, hos, hcs⟩
  unfold getItem
  try with_reducible refine wpAny_holding ?_
  first | refine wpAny_bind (wpAny_pure ?_) | skip
  refine wpAny_bind (wpAny_sequenceKey ht.typeIs (by decide) (wpAny_bind (wpAny_callSpecial?_slot (name := Str.ofString "__getitem__") ht.typeIs slot_tuple_getitem (wpAny_call_entry slot_tuple_getitem ht.typeIs entry_tuple_getitem ?_ (args_tuple_getitem _ _)))))
  show wpAny _ _ (Builtin.Tuple.tupleItemsOf (.ref t) >>= _) _ _ s
  refine wpAny_bind (tupleItemsOf_ ht (wpAny_bind (wpAny_typeOf hTs ?_)))
  rw [if_pos (by decide)]
  have app : ∀ {Q : Int × Int × Nat → Shared → Prop} {A : Around} {E : Value → Shared → Prop}, Q ((dnN items.length lo : Int) - 1, -1, dnN items.length lo) s → wpAny (model prog w) A (Builtin.Slice.sliceApplied (.ref sl) (pure (items.toArray.size : Int))) Q E s := fun {Q A E} q => by
    unfold Builtin.Slice.sliceApplied Builtin.Slice.sliceFields
    refine wpAny_bind (wpAny_bind (wpAny_field hos hds (x := vl) rfl (wpAny_bind (wpAny_field hos hds (x := .none) rfl (wpAny_bind (wpAny_field hos hds (x := vs) rfl (wpAny_pure ?_)))))))
    refine wpAny_bind (HT.slicePart_ ps ?_)
    show wpAny _ _ (if ((-1 : Int) == 0) = true then _ else _) _ _ s
    rw [if_neg (by decide)]
    refine wpAny_bind (HT.slicePart_ pl (wpAny_bind (HT.slicePart_ .none (wpAny_bind (wpAny_pure ?_)))))
    show wpAny _ _ (match Builtin.Slice.sliceAdjust lo none (-1) (items.toArray.size : Int) with | (lo, hi) => pure (lo, (-1 : Int), Builtin.Slice.slicePlaces lo hi (-1))) _ _ s
    rw [List.size_toArray, dn_adjust lo items.length]
    show wpAny _ _ (pure ((dnN items.length lo : Int) - 1, (-1 : Int), Builtin.Slice.slicePlaces ((dnN items.length lo : Int) - 1) (-1) (-1))) _ _ s
    rw [dn_places]
    exact wpAny_pure q
  refine wpAny_bind (app ?_)
  have hno : ¬ ((((dnN items.length lo : Int) - 1) == 0 && (-1 : Int) == 1 && dnN items.length lo == items.toArray.size) = true) := by simp
  show wpAny _ _ (if (((dnN items.length lo : Int) - 1) == 0 && (-1 : Int) == 1 && dnN items.length lo == items.toArray.size) = true then _ else _) _ _ s
  rw [if_neg hno, dn_pick items.toArray _ _ hl rfl, show items.toArray.toList = items by simp, ← downTo_eq]
  first
    | exact wpAny_bind (m := Builtin.Tuple.tupleExact _) (wpAny_newObj_type (wpAny_pure ⟨_, rfl, wpAny_pure h⟩) hok)
    | exact wpAny_bind (m := Builtin.Tuple.tupleExact _) (wpAny_newObj_type (wpAny_bind (wpAny_pure (wpAny_pure ⟨_, rfl, wpAny_pure h⟩))) hok)
    | exact wpAny_bind (wpAny_bind (m := Builtin.Tuple.tupleExact _) (wpAny_newObj_type (wpAny_pure (wpAny_pure ⟨_, rfl, wpAny_pure h⟩)) hok))
    | exact wpAny_bind (wpAny_bind (m := Builtin.Tuple.tupleExact _) (wpAny_newObj_type (wpAny_pure ⟨_, rfl, wpAny_pure h⟩) hok))
end
theorem Vals.dn {xs : List V} {us : List Value} (r : Vals xs us) (o : Option Int) : Vals (downTo xs o) (downTo us o) := by
  rw [downTo_eq, downTo_eq, r.length]
  exact (r.take _).reverse
theorem downTo_len {α : Type} (xs : List α) (o : Option Int) : (downTo xs o).length ≤ xs.length := by
  rw [downTo_eq, List.length_reverse, List.length_take]
  omega
def tDwn (K : PySem.W.Frag) (te : TE) (tl : TO) : TE := fun σ H Q => te σ H fun x H1 => tl σ H1 fun l H2 => ∃ a xs, x = .ref a ∧
  ((SqL K H2 a xs ∧ ∀ p, H2 p = none → Q (.ref p) (upd H2 p (.lst (downTo xs l)))) ∨ (SqT K H2 a xs ∧ ∀ p, H2 p = none → Q (.ref p) (upd H2 p (.tup (downTo xs l)))))
theorem pe_dwn {X : Cx} {e : Expr} {lo : Option Expr} {te : TE} {tl : TO} {j : Nat} {p2 p3 p4 pos : Pos} (he : PE X e te) (hl : PO X lo tl) :
    PE X (.Subscript e (.Slice lo none (some (.UnaryOp .USub (.Constant (.int 1) j p3) p4)) p2) pos) (tDwn X.K te tl) := by
  refine ⟨fun pins s σ H Q I h => Subscript_ (thn (he.run pins s σ H _ I h) fun v s1 ⟨x, H1, I1, r1, q1⟩ => ?_)⟩
  refine wpAny_Slice (thn (hl.run pins s1 σ H1 _ I1 q1) fun vl s2 ⟨l, H2, I2, pl, q2⟩ => ?_)
  rw [evalPart_none]
  refine wpAny_pure ?_
  have hst : PO X (some (.UnaryOp .USub (.Constant (.int 1) j p3) p4)) (tPart (tUn (rU fun i => .int (-i)) (tC (.int 1)))) := po_some (pe_un un_neg pe_int)
  refine thn (hst.run pins s2 σ H2 (fun o H3 => o = some (-1) ∧ H3 = H2) I2 ⟨1, rfl, -1, rfl, rfl, rfl⟩) fun vs s3 ⟨u, H3, I3, ps, eu, e3⟩ => ?_
  subst eu e3
  obtain ⟨a, xs, rfl, q2⟩ := q2
  cases r1
  have I4 : Inv X pins σ H3 { s3 with heap := s3.heap.push { cls := .type "slice", data := .fields #[vl, .none, vs] } } := I3.kept (t' := s3.toks) fun b ob q => Heap.get?_push_of_some _ q
  rcases q2 with ⟨hx, q⟩ | ⟨hx, q⟩
  · obtain ⟨its, r, ht, hz⟩ := I4.list hx
    refine tail_any (ops := [.ref a, .ref s3.heap.objs.size]) ht.isList.typeIs slot_list_getitem.lookup ?_ (by with_unfolding_all rfl)
    refine wpAny_getItem_list_slice ht.isList (Heap.IsSliceOf.new ..) pl .none ps (by decide) ?_ (by rw [List.size_toArray, ← r.length]; exact hz)
    rw [dn_slice]
    exact ⟨.ref _, _, I4.laid (t' := s3.toks) (o := .lst (downTo xs l)) (fun b ob q => Heap.get?_push_of_some _ q) (Nat.le_refl _) ⟨Nat.le_trans (downTo_len _ _) hz, _, 0, Vals.dn r l, Heap.get?_push_size _ rfl⟩, rfl, q _ (I4.hok.fresh (Nat.le_refl _))⟩
  · obtain ⟨its, r, ht, hz⟩ := I4.tuple hx
    refine tail_any (ops := [.ref a, .ref s3.heap.objs.size]) ht.typeIs PyProof.Rows.slot_tuple_getitem.lookup ?_ (by with_unfolding_all rfl)
    refine getItem_tuple_dwn ht (Heap.IsSliceOf.new ..) pl ps ?_ (by rw [← r.length]; exact hz)
    exact ⟨.ref _, _, I4.laid (t' := s3.toks) (o := .tup (downTo xs l)) (fun b ob q => Heap.get?_push_of_some _ q) (Nat.le_refl _) ⟨Nat.le_trans (downTo_len _ _) hz, _, Vals.dn r l, IsTup.new _ _⟩, rfl, q _ (I4.hok.fresh (Nat.le_refl _))⟩
/-! ### t.count(x) -/
def rCntT (K : PySem.W.Frag) : V → List V → Hp → VK → Prop := fun x xs H Q => ∃ (p : Addr) (ns : List Int) (k : Int), x = .ref p ∧ xs = [V.int k] ∧ SqT K H p (ns.map V.int) ∧ Q (.int (ns.count k : Nat)) H
theorem mt_cntT {X : Cx} : MtR X "tuple.count" (rCntT X.K) := fun pins s σ H x xs v us Q I rx rxs h => by
  obtain ⟨p, ns, k, rfl, rfl, hs, q⟩ := h
  cases rx
  obtain ⟨u, rfl, t, rfl⟩ := rxs.one
  obtain ⟨its, rv, ⟨⟨cls, dd, data, sl⟩, ho, hc, n, hd⟩, _⟩ := I.tuple hs
  simp only at hc hd
  subst hc hd
  have hi := ints_of_vals rv
  refine call_meets PySem.F.slot_tuple_count ⟨_, ho, rfl⟩ PySem.F.entry_tuple_count (PySem.F.args_tuple_count_2 _ _) (SeqAt.tuple_countAt p its.toArray n dd sl (.int k t) (eqk k)) ⟨ho, fun y hy => (eqk_gives hi y (by simpa using hy)).at _ _, ?_⟩
  rw [show its.toArray.toList.countP (eqk k) = ns.count k from eqk_count hi]
  exact ⟨.int _, H, I.tok _, ⟨_, rfl⟩, q⟩
def tCntT (K : PySem.W.Frag) (to te : TE) : TE := fun σ H Q => to σ H fun x H1 => (∃ a, x = .ref a ∧ Pl H1 a) ∧ te σ H1 fun y H2 => rCntT K x [y] H2 Q
section
variable {G : Gx} {F : Fn} {C : List PV} {W : WX} {X : Cx} {T : Tb} {N : List Str} {sc so : Scope} {n : Nat}
theorem pe_cntT {o e : Expr} {to te : TE} {apos cpos : Pos} (ho : PE X o to) (he : PE X e te) (hn : noStar e = true) (hc : noCall o = true) (hl : (apos.endLine == cpos.line) = true) : PE X (.Call (.Attribute o "count" apos) [e] [] cpos) (tCntT X.K to te) := by
  refine ⟨fun pins s σ H Q I h => wpAny_Call_method_late (noCall_ok hc _ _ _) (few1 hn) hl rfl (thn (ho.run pins s σ H _ I h) fun v s1 ⟨x, H1, I1, r1, ⟨a, ex, ob, vs, hp, hd, hcl⟩, q1⟩ => ?_)⟩
  subst ex
  cases r1
  obtain ⟨at_, _⟩ := I1.hok a _ hp
  refine ⟨"tuple", "tuple.count", PySem.F.plainAttrs_tuple, PySem.F.slot_tuple_count, PySem.F.type_tuple_count, ⟨ob, at_, hcl⟩, fun b e => by cases e; exact ⟨ob, at_, hd⟩, ?_⟩
  have hA := (pa_cons he pa_nil (noStar_ok hn)).run cpos pins s1 σ H1 (fun vs H2 => rCntT X.K (V.ref a) vs H2 Q) I1 q1
  rw [noStar_ok hn] at hA ⊢
  exact Calls.callWith_builtin rfl (Calls.evalArgs_plain (thn hA fun us s2 ⟨vs, H2, I2, r2, q2⟩ => mt_cntT pins s2 σ H2 (.ref a) vs (.ref a) us Q I2 rfl r2 q2))
theorem s_cnt (g : Good X G F C W T N sc n) {a e : E} {a' e' : Expr} {apos cpos : Pos} (ha : SE X G F C W a a') (he : SE X G F C W e e') (hn : noStar e' = true) (hc : noCall a' = true) (hl : (apos.endLine == cpos.line) = true) : SE X G F C W (.cnt a e) (.Call (.Attribute a' "count" apos) [e'] [] cpos) := by
  refine .plain (impE (pe_cntT ha.pe he.pe hn hc hl) fun σ H Q h => ?_) rfl
  rw [g.kk]
  obtain ⟨fr, S, m, rf, rs, p⟩ := h
  rw [ev] at p
  refine ⟨fr, S, m, rf, rs, p.bnd.imp fun v S1 m1 H1 x1 r1 q x rv => ?_⟩
  split at q
  · cases rv with
    | tup h1 h2 =>
      refine ⟨⟨_, rfl, h1.2 rfl⟩, tE.of rf x1 r1 ((q.bnd.shift x1).imp fun u S2 m2 H2 x2 r2 q y ru => ?_)⟩
      unfold cnt at q
      split at q <;> first | exact q.elim | skip
      rename_i e1
      cases e1
      cases ru
      split at q
      · rename_i is hi
        have ew := h2.ints hi
        subst ew
        exact ⟨_, is, _, rfl, rfl, x2.sq h1.1, fin_rv q (x1.trans x2) r2 (.int _)⟩
      · exact q.elim
  · exact q.elim

/-! ### D.get(x), D a written dict -/
def tGet (K : PySem.W.Frag) (d : Addr) (te : TE) : TE := fun σ H Q => te σ H fun y H2 => ∃ z, y = .str z ∧ ((PySem.W.nsIn K d z = some none ∧ Q .non H2) ∨ ∃ u v, PySem.W.nsIn K d z = some (some u) ∧ RelV v u ∧ Q v H2)
theorem pe_get {d : Addr} {es : Array DictEntry} {k : Nat} {x : Str} {e : Expr} {te : TE} {p apos cpos : Pos} (D : KDict X.K X.w d es k) (hg : Gl X x) (hm : X.mg x = some (.ref d)) (hd : (x == ("__debug__" : Str)) = false) (he : PE X e te) (hn : noStar e = true) (hl : (apos.endLine == cpos.line) = true) :
    PE X (.Call (.Attribute (.Name x p) "get" apos) [e] [] cpos) (tGet X.K d te) := by
  refine ⟨fun pins s σ H Q I h => wpAny_Call_method_late rfl (few1 hn) hl rfl (thn ((pe_glob (pos := p) (v := .ref d) hg hm rfl hd).run pins s σ H (fun y H1 => y = .ref d ∧ H1 = H) I ⟨rfl, rfl⟩) fun v s1 ⟨y, H1, I1, r1, ey, eH⟩ => ?_)⟩
  subst ey eH
  cases r1
  have M := PySem.W.mapOf_K (prog := X.prog) (w := X.w) I1.kIn D.at_ D.lit
  refine ⟨"dict", "dict.get", PySem.F.plainAttrs_dict, PySem.F.slot_dict_get, PySem.F.type_dict_get, M.typeIs, fun b e => ?_, ?_⟩
  · cases e
    exact ⟨_, I1.kIn _ _ D.at_, rfl⟩
  have hA := (pa_cons he pa_nil (noStar_ok hn)).run cpos pins s1 σ H1 (fun vs H2 => ∃ z, vs = [.str z] ∧ ((PySem.W.nsIn X.K d z = some none ∧ Q .non H2) ∨ ∃ u v, PySem.W.nsIn X.K d z = some (some u) ∧ RelV v u ∧ Q v H2)) I1 (by
    have e : (fun y H2 => ∃ z, y = V.str z ∧ ((PySem.W.nsIn X.K d z = some none ∧ Q .non H2) ∨ ∃ u v, PySem.W.nsIn X.K d z = some (some u) ∧ RelV v u ∧ Q v H2)) = fun y H2 => ∃ z, [y] = [V.str z] ∧ ((PySem.W.nsIn X.K d z = some none ∧ Q .non H2) ∨ ∃ u v, PySem.W.nsIn X.K d z = some (some u) ∧ RelV v u ∧ Q v H2) := by
      funext y H2
      simp only [List.cons.injEq, and_true]
    show te σ H1 fun y H2 => ∃ z, [y] = [V.str z] ∧ _
    rw [← e]
    exact h)
  rw [noStar_ok hn] at hA ⊢
  refine Calls.callWith_builtin rfl (Calls.evalArgs_plain (thn hA fun us s2 ⟨vs, H2, I2, r2, z, ez, q2⟩ => ?_))
  subst ez
  obtain ⟨u, rfl, t, rfl⟩ := r2.one
  have M2 := PySem.W.mapOf_K (prog := X.prog) (w := X.w) I2.kIn D.at_ D.lit
  refine call_meetsIn PySem.F.slot_dict_get M2.typeIs PySem.F.entry_dict_get (PySem.F.args_dict_get_2 _ _) (meets_dict_get _ d (strKind_is X.prog X.w z t) D.low) ⟨_, M2, ?_⟩
  rcases q2 with ⟨h1, q⟩ | ⟨u, v, h1, h2, q⟩
  · rw [PySem.W.find_K D.at_ h1]
    exact ⟨.non, H2, I2.tok _, rfl, q⟩
  · rw [PySem.W.find_K D.at_ h1]
    exact ⟨v, H2, I2.tok _, h2, q⟩
theorem s_gget (g : Good X G F C W T N sc n) {k : Nat} {a : E} {x : Str} {a' : Expr} {p apos cpos : Pos} (hk : (k, x) ∈ T.dn) (hg : glB sc x = true) (ha : SE X G F C W a a') (hn : noStar a' = true) (hl : (apos.endLine == cpos.line) = true) : SE X G F C W (.gget k a) (.Call (.Attribute (.Name x p) "get" apos) [a'] [] cpos) := by
  obtain ⟨hd, d, b, kvs, hm, ⟨⟨es, j, kd⟩, hv⟩, hC⟩ := g.dct k x hk
  refine .plain (impE (pe_get kd (glB_ok g.sc hg) hm hd ha.pe hn hl) fun σ H Q h => ?_) rfl
  obtain ⟨fr, S, m, rf, rs, p⟩ := h
  rw [ev] at p
  refine ⟨fr, S, m, rf, rs, p.bnd.imp fun v S1 m1 H1 x1 r1 q y rv => ?_⟩
  rw [nth_eq, hC] at q
  split at q
  · rename_i e1
    cases e1
    cases rv
    rename_i z
    refine ⟨z, rfl, ?_⟩
    rcases hv z with ⟨h1, h2⟩ | ⟨u, v, h1, h2, _, h3⟩
    · rw [h2] at q
      exact .inl ⟨h1, fin_rv q x1 r1 .non⟩
    · exact .inr ⟨u, v, h1, h2, fin_rv q x1 r1 (h3 _ _)⟩
  · exact q.elim
theorem s_dwn (g : Good X G F C W T N sc n) {a : E} {lo : P} {a' : Expr} {lo' : Option Expr} {j : Nat} {p2 p3 p4 pos : Pos} (ha : SE X G F C W a a') (hl : SPo X G F C W lo lo') : SE X G F C W (.dwn a lo) (.Subscript a' (.Slice lo' none (some (.UnaryOp .USub (.Constant (.int 1) j p3) p4)) p2) pos) := by
  refine .plain (impE (pe_dwn ha.pe hl) fun σ H Q h => ?_) rfl
  rw [g.kk]
  obtain ⟨fr, S, m, rf, rs, p⟩ := h
  rw [ev] at p
  refine ⟨fr, S, m, rf, rs, p.bnd.imp fun v S1 m1 H1 x1 r1 q x rv => ?_⟩
  refine ⟨fr, S1, m1, x1.rf rf, r1, (q.bnd.shift x1).imp fun l S2 m2 H2 x2 r2 q => ?_⟩
  have rv := x2.rt rv
  have e2 := x1.trans x2
  have cut : ∀ {xs : List PV} {vs : List V}, RVs G H2 m2 xs vs → RVs G H2 m2 (downTo xs l) (downTo vs l) := fun {xs vs} r => by
    rw [downTo_eq, downTo_eq, r.length]
    exact (r.take _).reverse
  unfold downPV at q
  split at q
  · rw [frL_eq] at q
    cases rv with
    | tup h1 h2 => exact ⟨_, _, rfl, .inr ⟨h1.1, fun a ha => fin_tup q e2 r2 (cut h2) ha⟩⟩
  · split at q
    · rename_i xs hx
      rw [frL_eq] at q
      obtain ⟨a, vs, rfl, h1, h2⟩ := items_ok r2 rv hx
      exact ⟨a, vs, rfl, .inl ⟨.inl h1, fun b hb => fin_new q e2 r2 (cut h2) hb⟩⟩
    · exact q.elim
/-- what is not told is well read -/
theorem s_unk {e : Expr} : SE X G F C W .unk e := by
  have no : ∀ {fr : Fr} {σ : L2.St} {H : Hp} {m : List Addr} {S : Store} {P : PV → Store → List Addr → Hp → Prop}, PR G W σ H m S (ev F C .unk fr S) P → False := fun p => by
    rw [ev] at p
    exact p
  exact ⟨⟨fun pins s σ H Q I h => let ⟨_, _, _, _, _, p⟩ := h; (no p).elim⟩, fun _ _ => ⟨fun pins s σ H Q I h => let ⟨_, _, _, _, _, p⟩ := h; (no p).elim⟩⟩
end
end Ev

/-! Ev23: the tree is the text: the check. -/
namespace Ev
open PySem PySem.Spec PyProof.Rows L2

def opB : Op → Operator → Bool
  | .add, .Add => true
  | .sub, .Sub => true
  | .mul, .Mult => true
  | .fdiv, .FloorDiv => true
  | .mod, .Mod => true
  | .pow, .Pow => true
  | _, _ => false
theorem opB_ok {o : Op} {p : Operator} (h : opB o p = true) : p = opOf o := by cases o <;> cases p <;> first | rfl | cases h
def coB : Co → CmpOp → Bool
  | .lt, .Lt => true
  | .le, .LtE => true
  | .gt, .Gt => true
  | .ge, .GtE => true
  | .eq, .Eq => true
  | .ne, .NotEq => true
  | .is, .Is => true
  | .isnot, .IsNot => true
  | .in_, .In => true
  | .notin, .NotIn => true
  | _, _ => false
theorem coB_ok {o : Co} {p : CmpOp} (h : coB o p = true) : p = coOf o := by cases o <;> cases p <;> first | rfl | cases h
def strE (x y : Str) : Bool := decide (x = y)
theorem strE_ok {x y : Str} (h : strE x y = true) : x = y := of_decide_eq_true h
def natIn (i : Nat) (l : List Nat) : Bool := l.any (Nat.beq i)
theorem natIn_ok {i : Nat} {l : List Nat} (h : natIn i l = true) : i ∈ l := by
  obtain ⟨j, h1, h2⟩ := List.any_eq_true.mp h
  rw [Nat.eq_of_beq_eq_true h2]
  exact h1
def subL (a b : List Nat) : Bool := a.all fun i => natIn i b
theorem subL_ok {a b : List Nat} (h : subL a b = true) : ∀ i ∈ a, i ∈ b := fun i hi => natIn_ok (List.all_eq_true.mp h i hi)
def ownL (N : List Str) (os : List Nat) : List (Str × Nat) := os.map fun i => (match nth N i with | some y => y | none => ⟨#[]⟩, i)
theorem ownL_ok {N : List Str} {os : List Nat} : (ownL N os).map (·.2) = os := by
  unfold ownL
  rw [List.map_map]
  induction os with
  | nil => rfl
  | cons i r ih => rw [List.map_cons, ih]; rfl
theorem noSetI_ok {e : Expr} (h : noSet e = true) (env : Env) (x : Value) : foldedSetIterable e env x = pure x := by cases e <;> first | rfl | cases h
/-- the built-ins by their names; 0: a function, 1: a type, 2: of math -/
def biN : B → Option Str
  | .len => some "len" | .abs => some "abs" | .int => some "int" | .max2 => some "max" | .min2 => some "min" | .gcd => some "gcd" | .divmod => some "divmod" | .max => some "max" | .min => some "min" | .sum => some "sum" | .any => some "any" | .all => some "all" | .tuple => some "tuple" | .tupleF => some "tuple" | .list => some "list" | .sorted => some "sorted" | .fact => some "factorial" | .lenset => none | .str => some "str"
def biT (T : Tb) : B → Bool
  | .gcd => T.gcd
  | .fact => T.fac
  | _ => true
def biK (b : B) (x : Str) : Bool := match biN b with
  | some y => strE x y
  | none => false
def isLS : B → Bool
  | .lenset => true
  | _ => false
theorem isLS_ok {b : B} (h : isLS b = true) : b = .lenset := by cases b <;> first | rfl | cases h

def inDn (T : Tb) (j : Nat) (y : Str) : Bool := T.dn.any fun p => Nat.beq p.1 j && strE p.2 y
theorem inDn_ok {T : Tb} {j : Nat} {y : Str} (h : inDn T j y = true) : (j, y) ∈ T.dn := by
  obtain ⟨⟨a, b⟩, h1, h2⟩ := List.any_eq_true.mp h
  obtain ⟨h3, h4⟩ := Bool.and_eq_true_iff.mp h2
  cases Nat.eq_of_beq_eq_true h3
  cases strE_ok h4
  exact h1
mutual
def kE (T : Tb) (N : List Str) : Nat → Scope → E → Expr → Bool
  | 0, _, _, _ => false
  | k + 1, sc, e, x => match e with
    | .non => (match x with
      | .Constant .none _ _ => true
      | _ => false)
    | .bl b => (match x with
      | .Constant (.bool c) _ _ => b == c
      | _ => false)
    | .int i => (match x with
      | .Constant (.int j) _ _ => iEq i j
      | _ => false)
    | .str z => (match x with
      | .Constant (.str y) _ _ => strE z y
      | _ => false)
    | .v i => (match x with
      | .Name y _ => strB (nth N i) y && visB sc y
      | _ => false)
    | .g j => (match x with
      | .Name y _ => strB (nth T.cn j) y && glB sc y
      | _ => false)
    | .f j => (match x with
      | .Name y _ => strB (nth T.fn j) y && glB sc y
      | _ => false)
    | .tup es => (match x with
      | .Tuple l _ _ => kEs T N k sc es l
      | _ => false)
    | .tupF es => (match x with
      | .Tuple l _ _ => kEs T N k sc es l
      | _ => false)
    | .lst es => (match x with
      | .List l _ => kEs T N k sc es l
      | _ => false)
    | .bin o a b => (match x with
      | .BinOp a' p b' _ => opB o p && (kE T N k sc a a' && kE T N k sc b b')
      | _ => false)
    | .neg a => (match x with
      | .UnaryOp .USub a' _ => kE T N k sc a a'
      | _ => false)
    | .cmp o a b => (match x with
      | .Compare a' [p] [b'] _ => coB o p && (noSet b' && (kE T N k sc a a' && kE T N k sc b b'))
      | _ => false)
    | .chn o o2 a b c => (match x with
      | .Compare a' [p, p2] [b', c'] _ => coB o p && (coB o2 p2 && (noSet c' && (kE T N k sc a a' && (kE T N k sc b b' && kE T N k sc c c'))))
      | _ => false)
    | .and a b => (match x with
      | .BoolOp .And (a' :: b' :: l) _ => tstB a' && (kE T N k sc a a' && kB T N k sc true b (b' :: l))
      | _ => false)
    | .or a b => (match x with
      | .BoolOp .Or (a' :: b' :: l) _ => tstB a' && (kE T N k sc a a' && kB T N k sc false b (b' :: l))
      | _ => false)
    | .not a => (match x with
      | .UnaryOp .Not a' _ => tstB a' && kE T N k sc a a'
      | _ => false)
    | .ife c a b => (match x with
      | .IfExp c' a' b' _ => tstB c' && (kE T N k sc c c' && (kE T N k sc a a' && kE T N k sc b b'))
      | _ => false)
    | .call j es => (match x with
      | .Call (.Name y _) l [] _ => strB (nth T.fn j) y && (glB sc y && kCl T N k sc es l)
      | _ => false)
    | .callS j es => (match x with
      | .Call (.Name y _) l [] _ => strB (nth T.fn j) y && (glB sc y && (noStars l && kEs T N k sc es l))
      | _ => false)
    | .calv i es => (match x with
      | .Call (.Name y _) l [] _ => strB (nth N i) y && (visB sc y && (noStars l && kEs T N k sc es l))
      | _ => false)
    | .bi b es => (match isLS b with
      | true => (match es, x with
        | .cons a .nil, .Call (.Name y _) [.Call (.Name z _) [a'] [] _] [] _ => strE y "len" && (glB sc y && (strE z "set" && (glB sc z && (noStar a' && kE T N k sc a a'))))
        | _, _ => false)
      | false => (match x with
        | .Call (.Name y _) (a' :: l) [] _ => biT T b && (biK b y && (glB sc y && (noStars (a' :: l) && kEs T N k sc es (a' :: l))))
        | _ => false))
    | .isi ts a => (match ts, x with
      | [t], .Call (.Name y _) [a', .Name z _] [] _ => strE y "isinstance" && (glB sc y && (strE z (tyS t) && (glB sc z && (noStar a' && kE T N k sc a a'))))
      | [t, t2], .Call (.Name y _) [a', .Tuple [.Name z _, .Name z2 _] _ _] [] _ => strE y "isinstance" && (glB sc y && (strE z (tyS t) && (glB sc z && (strE z2 (tyS t2) && (glB sc z2 && (noStar a' && kE T N k sc a a'))))))
      | _, _ => false)
    | .ix a i => (match x with
      | .Subscript a' i' _ => noSlice i' && (kE T N k sc a a' && kE T N k sc i i')
      | _ => false)
    | .sl a lo hi => (match x with
      | .Subscript a' (.Slice lo' hi' none _) _ => kE T N k sc a a' && (kP T N k sc lo lo' && kP T N k sc hi hi')
      | _ => false)
    | .mth m a es => (match m, es, x with
      | .append, .cons e .nil, .Call (.Attribute a' y p) [e'] [] q => strE y "append" && (p.endLine == q.line && (noCall a' && (noStar e' && (kE T N k sc a a' && kE T N k sc e e'))))
      | .extend, .cons e .nil, .Call (.Attribute a' y p) [e'] [] q => strE y "extend" && (p.endLine == q.line && (noCall a' && (noStar e' && (kE T N k sc a a' && kE T N k sc e e'))))
      | .pop, .nil, .Call (.Attribute a' y p) [] [] q => strE y "pop" && (p.endLine == q.line && (noCall a' && kE T N k sc a a'))
      | _, _, _ => false)
    | .comp os t it c e => (match x with
      | .ListComp elt [⟨tg, iter, ifs, 0⟩] s _ => noSet iter && (blkC N sc s (ownL N os) && (subL (slots t) os && (chkT N s t tg && (kI T N k sc it tg iter && (kC T N k (relS s sc) c ifs && kE T N k (relS s sc) e elt)))))
      | _ => false)
    | .comp2 os t it c os2 t2 it2 c2 e => (match x with
      | .ListComp elt [⟨tg, iter, ifs, 0⟩, ⟨tg2, iter2, ifs2, 0⟩] s _ => noSet iter && (noSet iter2 && (blkC N sc s (ownL N os) && (subL (slots t) os && (subL (slots t2) os2 && (subL os2 os && (chkT N s t tg && (chkT N s t2 tg2 && (kI T N k sc it tg iter && (kC T N k (relS s sc) c ifs && (kI T N k (relS s sc) it2 tg2 iter2 && (kC T N k (relS s sc) c2 ifs2 && kE T N k (relS s sc) e elt)))))))))))
      | _ => false)
    | .orL a b => (match x with
      | .BoolOp .Or [.Call (.Name y p) [u] [] q, b'] _ => strE y "list" && (tstB b' && (kE T N k sc a (.Call (.Name y p) [u] [] q) && kE T N k sc b b'))
      | _ => false)
    | .cnt a e => (match x with
      | .Call (.Attribute a' y p) [e'] [] q => strE y "count" && (p.endLine == q.line && (noCall a' && (noStar e' && (kE T N k sc a a' && kE T N k sc e e'))))
      | _ => false)
    | .dwn a lo => (match x with
      | .Subscript a' (.Slice lo' none (some (.UnaryOp .USub (.Constant (.int i) _ _) _)) _) _ => iEq i 1 && (kE T N k sc a a' && kP T N k sc lo lo')
      | _ => false)
    | .gget j a => (match x with
      | .Call (.Attribute (.Name y _) z p) [a'] [] q => strE z "get" && (p.endLine == q.line && (glB sc y && (noStar a' && (inDn T j y && kE T N k sc a a'))))
      | _ => false)
    | .unk => true
def kEs (T : Tb) (N : List Str) : Nat → Scope → Es → List Expr → Bool
  | 0, _, _, _ => false
  | k + 1, sc, es, l => match es, l with
    | .nil, [] => true
    | .cons e r, x :: l => noStar x && (kE T N k sc e x && kEs T N k sc r l)
    | .star e r, .Starred x _ :: l => kE T N k sc e x && kEs T N k sc r l
    | _, _ => false
def kCl (T : Tb) (N : List Str) : Nat → Scope → Es → List Expr → Bool
  | 0, _, _, _ => false
  | k + 1, sc, es, l => match es, l with
    | .star e .nil, [.Starred x _] => kE T N k sc e x
    | es, l => noStars l && kEs T N k sc es l
def kP (T : Tb) (N : List Str) : Nat → Scope → P → Option Expr → Bool
  | 0, _, _, _ => false
  | k + 1, sc, p, o => match p, o with
    | .none, none => true
    | .some e, some x => kE T N k sc e x
    | _, _ => false
def kC (T : Tb) (N : List Str) : Nat → Scope → P → List Expr → Bool
  | 0, _, _, _ => false
  | k + 1, sc, p, o => match p, o with
    | .none, [] => true
    | .some e, [x] => tstB x && kE T N k sc e x
    | _, _ => false
def kI (T : Tb) (N : List Str) : Nat → Scope → I → Expr → Expr → Bool
  | 0, _, _, _, _ => false
  | k + 1, sc, i, tg, x => match i with
    | .e a => kE T N k sc a x
    | .rng es => (match es, x with
      | .cons a .nil, .Call (.Name y _) [a'] [] _ => strE y "range" && (glB sc y && (noStar a' && kE T N k sc a a'))
      | .cons a (.cons b .nil), .Call (.Name y _) [a', b'] [] _ => strE y "range" && (glB sc y && (noStar a' && (noStar b' && (kE T N k sc a a' && kE T N k sc b b'))))
      | _, _ => false)
    | .enum a => (match tg, x with
      | .Tuple _ _ _, .Call (.Name y _) [a'] [] _ => strE y "enumerate" && (glB sc y && (noStar a' && kE T N k sc a a'))
      | _, _ => false)
    | .zip a b => (match tg, x with
      | .Tuple _ _ _, .Call (.Name y _) [a', b'] [] _ => strE y "zip" && (glB sc y && (noStar a' && (noStar b' && (kE T N k sc a a' && kE T N k sc b b'))))
      | _, _ => false)
def kB (T : Tb) (N : List Str) : Nat → Scope → Bool → E → List Expr → Bool
  | 0, _, _, _, _ => false
  | k + 1, sc, o, e, l => match l with
    | [x] => tstB x && kE T N k sc e x
    | x :: y :: l => (match o, e with
      | true, .and a b => tstB x && (kE T N k sc a x && kB T N k sc true b (y :: l))
      | false, .or a b => tstB x && (kE T N k sc a x && kB T N k sc false b (y :: l))
      | _, _ => false)
    | [] => false
end
end Ev

/-! Ev24: what is checked is well read: expressions. -/
namespace Ev
open PySem PySem.Spec PyProof.Rows L2

section
variable {G : Gx} {F : Fn} {C : List PV} {T : Tb} {N : List Str} {n : Nat}
theorem s_bi {X : Cx} {W : WX} {sc : Scope} (g : Good X G F C W T N sc n) {b : B} {es : Es} {a' : Expr} {l : List Expr} {x : Str} {p pos : Pos} (ht : biT T b = true) (hk : biK b x = true) (hg : glB sc x = true) (hs : noStars (a' :: l) = true) (ha : SA X G F C W es (a' :: l)) : SE X G F C W (.bi b es) (.Call (.Name x p) (a' :: l) [] pos) := by
  unfold biK at hk
  split at hk
  · rename_i y hy
    have hk := strE_ok hk
    subst hk
    cases b <;> first | cases hy | skip
    · exact s_biB (r := rLen G.K) g (g.kk ▸ cr_len) b_len (by simp [bnames]) hg boot_len (by decide) (by decide) ha hs
    · exact s_biB g cr_abs b_abs (by simp [bnames]) hg boot_abs (by decide) (by decide) ha hs
    · exact s_biT g call_int1 b_int (by simp [bnames]) hg boot_int (by decide) (by decide) ha hs
    · exact s_biB g (call_max2 g.calm) b_max2 (by simp [bnames]) hg boot_max (by decide) (by decide) ha hs
    · exact s_biB g (call_min2 g.calm) b_min2 (by simp [bnames]) hg boot_min (by decide) (by decide) ha hs
    · exact s_biF g cr_gcd b_gcd (g.gcd ht) hg (by decide) ha hs
    · exact s_biB g call_divmod b_divmod (by simp [bnames]) hg boot_divmod (by decide) (by decide) ha hs
    · exact s_biB g (g.kk ▸ callR_or (cr_max g.calm) (cr_maxT g.calm)) b_max (by simp [bnames]) hg boot_max (by decide) (by decide) ha hs
    · exact s_biB g (g.kk ▸ callR_or (callR_or (cr_min g.calm) (cr_minT g.calm)) (cr_minD g.calm (by have := g.room.un; omega))) b_min (by simp [bnames]) hg boot_min (by decide) (by decide) ha hs
    · exact s_biB g (g.kk ▸ callR_or (cr_sum g.calm) (cr_sumT g.calm)) b_sum (by simp [bnames]) hg boot_sum (by decide) (by decide) ha hs
    · exact s_biB g (g.kk ▸ cr_any g.calm) b_any (by simp [bnames]) hg boot_any (by decide) (by decide) ha hs
    · exact s_biB g (g.kk ▸ cr_all g.calm) b_all (by simp [bnames]) hg boot_all (by decide) (by decide) ha hs
    · exact s_biT g (g.kk ▸ call_tuple_of) b_tuple (by simp [bnames]) hg boot_tuple (by decide) (by decide) ha hs
    · exact s_biT g (g.kk ▸ cr_tupF) b_tupleF (by simp [bnames]) hg boot_tuple (by decide) (by decide) ha hs
    · exact s_biT g (g.kk ▸ call_list_of) b_list (by simp [bnames]) hg boot_list (by decide) (by decide) ha hs
    · exact s_biB g (g.kk ▸ callR_or cr_sortedI cr_sortedT) b_sorted (by simp [bnames]) hg boot_sorted (by decide) (by decide) ha hs
    · exact s_biF g cr_fact b_fact (g.fac ht) hg (by decide) ha hs
    · exact s_biT g call_str_int b_str (by simp [bnames]) hg boot_str (by decide) (by decide) ha hs
  · cases hk
mutual
theorem kE_ok : ∀ (k : Nat) {sc : Scope} {e : E} {x : Expr}, kE T N k sc e x = true → ∀ {X : Cx} {W : WX}, Good X G F C W T N sc n → SE X G F C W e x
  | 0, sc, e, x, h, X, W, g => by unfold kE at h; cases h
  | k + 1, sc, e, x, h, X, W, g => by
    cases e with
    | non => unfold kE at h; dsimp only at h; split at h; · exact s_non
             cases h
    | bl b =>
      unfold kE at h; dsimp only at h; split at h
      · rename_i c _ _
        have : b = c := by simpa using h
        subst this
        exact s_bl
      · cases h
    | int i =>
      unfold kE at h; dsimp only at h; split at h
      · cases iEq_ok h; exact s_int
      · cases h
    | str z =>
      unfold kE at h; dsimp only at h; split at h
      · cases strE_ok h; exact s_str
      · cases h
    | v i =>
      unfold kE at h; dsimp only at h; split at h
      · obtain ⟨h1, h2⟩ := and2 h; exact s_v g h1 h2
      · cases h
    | g j =>
      unfold kE at h; dsimp only at h; split at h
      · obtain ⟨h1, h2⟩ := and2 h; exact s_g g h1 h2
      · cases h
    | f j =>
      unfold kE at h; dsimp only at h; split at h
      · obtain ⟨h1, h2⟩ := and2 h; exact s_f g h1 h2
      · cases h
    | tup es =>
      unfold kE at h; dsimp only at h; split at h
      · exact s_tup (kEs_ok k h g)
      · cases h
    | tupF es =>
      unfold kE at h; dsimp only at h; split at h
      · exact s_tupF (kEs_ok k h g)
      · cases h
    | lst es =>
      unfold kE at h; dsimp only at h; split at h
      · exact s_lst (kEs_ok k h g)
      · cases h
    | bin o a b =>
      unfold kE at h; dsimp only at h; split at h
      · obtain ⟨h1, h⟩ := and2 h
        obtain ⟨h2, h3⟩ := and2 h
        rw [opB_ok h1]
        exact s_bin g (kE_ok k h2 g) (kE_ok k h3 g)
      · cases h
    | neg a =>
      unfold kE at h; dsimp only at h; split at h
      · exact s_neg g (kE_ok k h g)
      · cases h
    | cmp o a b =>
      unfold kE at h; dsimp only at h; split at h
      · obtain ⟨h1, h⟩ := and2 h
        obtain ⟨h2, h⟩ := and2 h
        obtain ⟨h3, h4⟩ := and2 h
        rw [coB_ok h1]
        exact s_cmp g (kE_ok k h3 g) (kE_ok k h4 g) h2
      · cases h
    | chn o o2 a b c =>
      unfold kE at h; dsimp only at h; split at h
      · obtain ⟨h1, h⟩ := and2 h
        obtain ⟨h2, h⟩ := and2 h
        obtain ⟨h3, h⟩ := and2 h
        obtain ⟨h4, h⟩ := and2 h
        obtain ⟨h5, h6⟩ := and2 h
        rw [coB_ok h1, coB_ok h2]
        exact s_chn g (kE_ok k h4 g) (kE_ok k h5 g) (kE_ok k h6 g) h3
      · cases h
    | and a b =>
      unfold kE at h; dsimp only at h; split at h
      · obtain ⟨h1, h⟩ := and2 h
        obtain ⟨h2, h3⟩ := and2 h
        exact (s_and (kE_ok k h2 g) h1 ((kB_ok k h3 g).1 rfl)).se
      · cases h
    | or a b =>
      unfold kE at h; dsimp only at h; split at h
      · obtain ⟨h1, h⟩ := and2 h
        obtain ⟨h2, h3⟩ := and2 h
        exact (s_or (kE_ok k h2 g) h1 ((kB_ok k h3 g).2 rfl)).se
      · cases h
    | not a =>
      unfold kE at h; dsimp only at h; split at h
      · obtain ⟨h1, h2⟩ := and2 h
        exact s_not (kE_ok k h2 g) h1
      · cases h
    | ife c a b =>
      unfold kE at h; dsimp only at h; split at h
      · obtain ⟨h1, h⟩ := and2 h
        obtain ⟨h2, h⟩ := and2 h
        obtain ⟨h3, h4⟩ := and2 h
        exact s_ife (kE_ok k h2 g) h1 (kE_ok k h3 g) (kE_ok k h4 g)
      · cases h
    | call j es =>
      unfold kE at h; dsimp only at h; split at h
      · obtain ⟨h1, h⟩ := and2 h
        obtain ⟨h2, h3⟩ := and2 h
        cases k with
        | zero => unfold kCl at h3; cases h3
        | succ k =>
          unfold kCl at h3
          split at h3
          · exact s_callSt g h1 h2 (kE_ok k h3 g)
          · obtain ⟨h4, h5⟩ := and2 h3
            exact s_call g h1 h2 (kEs_ok k h5 g) h4
      · cases h
    | callS j es =>
      unfold kE at h; dsimp only at h; split at h
      · obtain ⟨h1, h⟩ := and2 h
        obtain ⟨h2, h⟩ := and2 h
        obtain ⟨h3, h4⟩ := and2 h
        exact s_callS g h1 h2 (kEs_ok k h4 g) h3
      · cases h
    | calv i es =>
      unfold kE at h; dsimp only at h; split at h
      · obtain ⟨h1, h⟩ := and2 h
        obtain ⟨h2, h⟩ := and2 h
        obtain ⟨h3, h4⟩ := and2 h
        exact s_calv g g.inj h1 h2 (kEs_ok k h4 g) h3
      · cases h
    | bi b es =>
      unfold kE at h; dsimp only at h; split at h
      · rename_i hb
        cases isLS_ok hb
        split at h
        · obtain ⟨h1, h⟩ := and2 h
          obtain ⟨h2, h⟩ := and2 h
          obtain ⟨h3, h⟩ := and2 h
          obtain ⟨h4, h⟩ := and2 h
          obtain ⟨h5, h6⟩ := and2 h
          exact s_lenset g (strE_ok h1) h2 (strE_ok h3) h4 (kE_ok k h6 g) h5
        · cases h
      · split at h
        · obtain ⟨h1, h⟩ := and2 h
          obtain ⟨h2, h⟩ := and2 h
          obtain ⟨h3, h⟩ := and2 h
          obtain ⟨h4, h5⟩ := and2 h
          exact s_bi g h1 h2 h3 h4 (kEs_ok k h5 g)
        · cases h
    | isi ts a =>
      unfold kE at h; dsimp only at h; split at h
      · obtain ⟨h1, h⟩ := and2 h
        obtain ⟨h2, h⟩ := and2 h
        obtain ⟨h3, h⟩ := and2 h
        obtain ⟨h4, h⟩ := and2 h
        obtain ⟨h5, h6⟩ := and2 h
        exact s_isi1 g (strE_ok h1) h2 (strE_ok h3) h4 (kE_ok k h6 g) h5
      · obtain ⟨h1, h⟩ := and2 h
        obtain ⟨h2, h⟩ := and2 h
        obtain ⟨h3, h⟩ := and2 h
        obtain ⟨h4, h⟩ := and2 h
        obtain ⟨h5, h⟩ := and2 h
        obtain ⟨h6, h⟩ := and2 h
        obtain ⟨h7, h8⟩ := and2 h
        exact s_isi2 g (strE_ok h1) h2 (strE_ok h3) h4 (strE_ok h5) h6 (kE_ok k h8 g) h7
      · cases h
    | ix a i =>
      unfold kE at h; dsimp only at h; split at h
      · obtain ⟨h1, h⟩ := and2 h
        obtain ⟨h2, h3⟩ := and2 h
        exact s_ix g (kE_ok k h2 g) (kE_ok k h3 g) h1
      · cases h
    | sl a lo hi =>
      unfold kE at h; dsimp only at h; split at h
      · obtain ⟨h1, h⟩ := and2 h
        obtain ⟨h2, h3⟩ := and2 h
        exact s_sl g (kE_ok k h1 g) (kP_ok k h2 g) (kP_ok k h3 g)
      · cases h
    | mth m a es =>
      unfold kE at h; dsimp only at h; split at h
      · obtain ⟨h1, h⟩ := and2 h
        obtain ⟨h2, h⟩ := and2 h
        obtain ⟨h3, h⟩ := and2 h
        obtain ⟨h4, h⟩ := and2 h
        obtain ⟨h5, h6⟩ := and2 h
        cases strE_ok h1
        exact s_append g (kE_ok k h5 g) (kE_ok k h6 g) h4 h3 h2
      · obtain ⟨h1, h⟩ := and2 h
        obtain ⟨h2, h⟩ := and2 h
        obtain ⟨h3, h⟩ := and2 h
        obtain ⟨h4, h⟩ := and2 h
        obtain ⟨h5, h6⟩ := and2 h
        cases strE_ok h1
        exact s_extend g (kE_ok k h5 g) (kE_ok k h6 g) h4 h3 h2
      · obtain ⟨h1, h⟩ := and2 h
        obtain ⟨h2, h⟩ := and2 h
        obtain ⟨h3, h4⟩ := and2 h
        cases strE_ok h1
        exact s_pop g (kE_ok k h4 g) h3 h2
      · cases h
    | comp os t it c e =>
      unfold kE at h; dsimp only at h; split at h
      · obtain ⟨h1, h⟩ := and2 h
        obtain ⟨h2, h⟩ := and2 h
        obtain ⟨h3, h⟩ := and2 h
        obtain ⟨h4, h⟩ := and2 h
        obtain ⟨h5, h⟩ := and2 h
        obtain ⟨h6, h7⟩ := and2 h
        exact s_comp g ownL_ok (kI_ok k h5 g) h2 (subL_ok h3) h4 (fun X' g' => kC_ok k h6 g') (fun X' g' => kE_ok k h7 g') (fun x => noSetI_ok h1 _ x)
      · cases h
    | comp2 os t it c os2 t2 it2 c2 e =>
      unfold kE at h; dsimp only at h; split at h
      · obtain ⟨h1, h⟩ := and2 h
        obtain ⟨h2, h⟩ := and2 h
        obtain ⟨h3, h⟩ := and2 h
        obtain ⟨h4, h⟩ := and2 h
        obtain ⟨h5, h⟩ := and2 h
        obtain ⟨h6, h⟩ := and2 h
        obtain ⟨h7, h⟩ := and2 h
        obtain ⟨h8, h⟩ := and2 h
        obtain ⟨h9, h⟩ := and2 h
        obtain ⟨h10, h⟩ := and2 h
        obtain ⟨h11, h⟩ := and2 h
        obtain ⟨h12, h13⟩ := and2 h
        exact s_comp2 g ownL_ok (kI_ok k h9 g) h3 (subL_ok h4) (subL_ok h5) (subL_ok h6) h7 h8 (fun X' g' => kC_ok k h10 g') (fun X' g' => kC_ok k h12 g') (fun X' g' => kI_ok k h11 g') (fun X' g' => kE_ok k h13 g') (fun x => noSetI_ok h1 _ x) (fun env x => noSetI_ok h2 env x)
      · cases h
    | orL a b =>
      unfold kE at h; dsimp only at h; split at h
      · obtain ⟨h1, h⟩ := and2 h
        obtain ⟨h2, h⟩ := and2 h
        obtain ⟨h3, h4⟩ := and2 h
        refine ⟨s_orL g (kE_ok k h3 g) (kE_ok k h4 g) h2, fun _ z => ?_⟩
        cases strE_ok h1
        cases z
      · cases h
    | cnt a e =>
      unfold kE at h; dsimp only at h; split at h
      · obtain ⟨h1, h⟩ := and2 h
        obtain ⟨h2, h⟩ := and2 h
        obtain ⟨h3, h⟩ := and2 h
        obtain ⟨h4, h⟩ := and2 h
        obtain ⟨h5, h6⟩ := and2 h
        cases strE_ok h1
        exact s_cnt g (kE_ok k h5 g) (kE_ok k h6 g) h4 h3 h2
      · cases h
    | dwn a lo =>
      unfold kE at h; dsimp only at h; split at h
      · obtain ⟨h1, h⟩ := and2 h
        obtain ⟨h2, h3⟩ := and2 h
        cases iEq_ok h1
        exact s_dwn g (kE_ok k h2 g) (kP_ok k h3 g)
      · cases h
    | gget j a =>
      unfold kE at h; dsimp only at h; split at h
      · obtain ⟨h1, h⟩ := and2 h
        obtain ⟨h2, h⟩ := and2 h
        obtain ⟨h3, h⟩ := and2 h
        obtain ⟨h4, h⟩ := and2 h
        obtain ⟨h5, h6⟩ := and2 h
        cases strE_ok h1
        exact s_gget g (inDn_ok h5) h3 (kE_ok k h6 g) h4 h2
      · cases h
    | unk => exact s_unk
theorem kEs_ok : ∀ (k : Nat) {sc : Scope} {e : Es} {x : List Expr}, kEs T N k sc e x = true → ∀ {X : Cx} {W : WX}, Good X G F C W T N sc n → SA X G F C W e x
  | 0, sc, e, x, h, X, W, g => by unfold kEs at h; cases h
  | k + 1, sc, e, x, h, X, W, g => by
    unfold kEs at h
    split at h
    · exact a_nil
    · obtain ⟨h1, h⟩ := and2 h
      obtain ⟨h2, h3⟩ := and2 h
      exact a_cons (kE_ok k h2 g) (kEs_ok k h3 g) h1
    · obtain ⟨h1, h2⟩ := and2 h
      exact a_star (kE_ok k h1 g) g.kk (kEs_ok k h2 g)
    · cases h
theorem kP_ok : ∀ (k : Nat) {sc : Scope} {e : P} {x : Option Expr}, kP T N k sc e x = true → ∀ {X : Cx} {W : WX}, Good X G F C W T N sc n → SPo X G F C W e x
  | 0, sc, e, x, h, X, W, g => by unfold kP at h; cases h
  | k + 1, sc, e, x, h, X, W, g => by
    unfold kP at h
    split at h
    · exact p_none
    · exact p_some (kE_ok k h g)
    · cases h
theorem kC_ok : ∀ (k : Nat) {sc : Scope} {e : P} {x : List Expr}, kC T N k sc e x = true → ∀ {X : Cx} {W : WX}, Good X G F C W T N sc n → SC X G F C W e x
  | 0, sc, e, x, h, X, W, g => by unfold kC at h; cases h
  | k + 1, sc, e, x, h, X, W, g => by
    unfold kC at h
    split at h
    · exact c_none
    · obtain ⟨h1, h2⟩ := and2 h
      exact c_some (kE_ok k h2 g) h1
    · cases h
theorem kI_ok : ∀ (k : Nat) {sc : Scope} {e : I} {tg x : Expr}, kI T N k sc e tg x = true → ∀ {X : Cx} {W : WX}, Good X G F C W T N sc n → SI X G F C W e tg x
  | 0, sc, e, tg, x, h, X, W, g => by unfold kI at h; cases h
  | k + 1, sc, e, tg, x, h, X, W, g => by
    cases e with
    | e a => unfold kI at h; exact s_srcE g (kE_ok k h g)
    | rng es =>
      unfold kI at h; dsimp only at h; split at h
      · obtain ⟨h1, h⟩ := and2 h
        obtain ⟨h2, h⟩ := and2 h
        obtain ⟨h3, h4⟩ := and2 h
        exact s_srcR1 g (strE_ok h1) h2 (kE_ok k h4 g) h3
      · obtain ⟨h1, h⟩ := and2 h
        obtain ⟨h2, h⟩ := and2 h
        obtain ⟨h3, h⟩ := and2 h
        obtain ⟨h4, h⟩ := and2 h
        obtain ⟨h5, h6⟩ := and2 h
        exact s_srcR2 g (strE_ok h1) h2 (kE_ok k h5 g) h3 (kE_ok k h6 g) h4
      · cases h
    | enum a =>
      unfold kI at h; dsimp only at h; split at h
      · obtain ⟨h1, h⟩ := and2 h
        obtain ⟨h2, h⟩ := and2 h
        obtain ⟨h3, h4⟩ := and2 h
        exact s_srcEn g (strE_ok h1) h2 (kE_ok k h4 g) h3
      · cases h
    | zip a b =>
      unfold kI at h; dsimp only at h; split at h
      · obtain ⟨h1, h⟩ := and2 h
        obtain ⟨h2, h⟩ := and2 h
        obtain ⟨h3, h⟩ := and2 h
        obtain ⟨h4, h⟩ := and2 h
        obtain ⟨h5, h6⟩ := and2 h
        exact s_srcZ g (strE_ok h1) h2 (kE_ok k h5 g) h3 (kE_ok k h6 g) h4
      · cases h
theorem kB_ok : ∀ (k : Nat) {sc : Scope} {o : Bool} {e : E} {x : Expr} {l : List Expr}, kB T N k sc o e (x :: l) = true → ∀ {X : Cx} {W : WX}, Good X G F C W T N sc n → (o = true → ∀ {pos : Pos}, SB X G F C W e (.BoolOp .And (x :: l) pos)) ∧ (o = false → ∀ {pos : Pos}, SB X G F C W e (.BoolOp .Or (x :: l) pos))
  | 0, sc, o, e, x, l, h, X, W, g => by unfold kB at h; cases h
  | k + 1, sc, o, e, x, l, h, X, W, g => by
    cases l with
    | nil =>
      unfold kB at h
      obtain ⟨h1, h2⟩ := and2 h
      exact ⟨fun _ _ => s_and1 (kE_ok k h2 g) h1, fun _ _ => s_or1 (kE_ok k h2 g) h1⟩
    | cons y l =>
      unfold kB at h
      dsimp only at h
      split at h
      · obtain ⟨h1, h⟩ := and2 h
        obtain ⟨h2, h3⟩ := and2 h
        exact ⟨fun _ _ => s_and (kE_ok k h2 g) h1 ((kB_ok k h3 g).1 rfl), fun z => by cases z⟩
      · obtain ⟨h1, h⟩ := and2 h
        obtain ⟨h2, h3⟩ := and2 h
        exact ⟨fun z => (by cases z), fun _ _ => s_or (kE_ok k h2 g) h1 ((kB_ok k h3 g).2 rfl)⟩
      · cases h
end
end
end Ev

/-! Ev25: what is checked is well read: statements. -/
namespace Ev
open PySem PySem.Spec PyProof.Rows L2

def swNone (sc : Scope) (tg e : Expr) : Bool := match swP sc tg e with
  | some none => true
  | _ => false
theorem swNone_ok {sc : Scope} {tg e : Expr} (h : swNone sc tg e = true) : swP sc tg e = some none := by
  unfold swNone at h
  split at h
  · assumption
  · cases h
def swSome (sc : Scope) (tg e : Expr) (l : List Str) : Bool := match swP sc tg e with
  | some (some r) => decide (r = l)
  | _ => false
theorem swSome_ok {sc : Scope} {tg e : Expr} {l : List Str} (h : swSome sc tg e l = true) : swP sc tg e = some (some l) := by
  unfold swSome at h
  split at h
  · rename_i r q
    rw [← of_decide_eq_true h]
    exact q
  · cases h
def neN (i j : Nat) : Bool := !(Nat.beq i j)
theorem neN_ok {i j : Nat} (h : neN i j = true) : i ≠ j := by
  intro e
  subst e
  unfold neN at h
  rw [Nat.beq_refl] at h
  cases h
mutual
def kS (T : Tb) (N : List Str) (sc : Scope) : Nat → Sx → Stmt → Bool
  | 0, _, _ => false
  | k + 1, s, x => match s with
    | .pass => (match x with
      | .Pass _ => true
      | .Expr (.Constant (.str _) _ _) _ => true
      | _ => false)
    | .brk => (match x with
      | .Break _ => true
      | _ => false)
    | .cont => (match x with
      | .Continue _ => true
      | _ => false)
    | .retN => (match x with
      | .Return none _ => true
      | _ => false)
    | .ret e => (match x with
      | .Return (some e') _ => kE T N k sc e e'
      | _ => false)
    | .ex e => (match x with
      | .Expr e' _ => notComp e' && kE T N k sc e e'
      | _ => false)
    | .raise _ => (match x with
      | .Raise _ _ _ => true
      | _ => false)
    | .unk => true
    | .ifs c a b => (match x with
      | .If c' a' b' _ => tstB c' && (kE T N k sc c c' && (kSs T N sc k a a' && kSs T N sc k b b'))
      | _ => false)
    | .whl c b => (match x with
      | .While c' b' [] _ => tstB c' && (kE T N k sc c c' && kSs T N sc k b b')
      | _ => false)
    | .for_ t it b => (match x with
      | .For tg iter b' [] _ => noSet iter && (chkT N sc t tg && (kI T N k sc it tg iter && kSs T N sc k b b'))
      | _ => false)
    | .asg t e => (match x with
      | .Assign [tg] e' _ => (plainSw sc tg e' && (chkT N sc t tg && (swNone sc tg e' && kE T N k sc e e'))) || kL T N sc k t e tg e'
      | _ => false)
    | .par i j a b => (match x with
      | .Assign [.Tuple [.Name y py, .Name z pz] kt pt] (.Tuple [a', b'] k2 pt2) _ => strB (nth N i) y && (strB (nth N j) z && (neN i j && (localB sc y && (localB sc z && (noStar a' && (noStar b' && (swSome sc (.Tuple [.Name y py, .Name z pz] kt pt) (.Tuple [a', b'] k2 pt2) [y, z] && (kE T N k sc a a' && kE T N k sc b b'))))))))
      | _ => false)
    | .par3 i j l a b c => (match x with
      | .Assign [.Tuple [.Name y py, .Name z pz, .Name u pu] kt pt] (.Tuple [a', b', c'] k2 pt2) _ => strB (nth N i) y && (strB (nth N j) z && (strB (nth N l) u && (neN i j && (neN i l && (neN j l && (localB sc y && (localB sc z && (localB sc u && (noStar a' && (noStar b' && (noStar c' && (swSome sc (.Tuple [.Name y py, .Name z pz, .Name u pu] kt pt) (.Tuple [a', b', c'] k2 pt2) [y, z, u] && (kE T N k sc a a' && (kE T N k sc b b' && kE T N k sc c c'))))))))))))))
      | _ => false)
    | .asgI o i e => (match x with
      | .Assign [.Subscript o' i' _] e' _ => notComp e' && (noSlice i' && (kE T N k sc o o' && (kE T N k sc i i' && kE T N k sc e e')))
      | _ => false)
    | .aug i o e => (match x with
      | .AugAssign (.Name y _) p e' _ => opB o p && (augOp o && (strB (nth N i) y && (lcB sc y && kE T N k sc e e')))
      | _ => false)
    | .augI o i q e => (match x with
      | .AugAssign (.Subscript o' i' _) p e' _ => opB q p && (augOp q && (noSlice i' && (kE T N k sc o o' && (kE T N k sc i i' && kE T N k sc e e'))))
      | _ => false)
/-- name = [..] on one line -/
def kL (T : Tb) (N : List Str) (sc : Scope) : Nat → Tg → E → Expr → Expr → Bool
  | 0, _, _, _, _ => false
  | k + 1, t, e, tg, x => match t with
    | .n i => (match tg with
      | .Name y py => (match e with
        | .comp os t it c e => (match x with
          | .ListComp elt [⟨tg, iter, ifs, 0⟩] s p => strB (nth N i) y && (lineSw sc (.Name y py) (.ListComp elt [⟨tg, iter, ifs, 0⟩] s p) && (noSet iter && (blkC N sc s (ownL N os) && (subL (slots t) os && (chkT N s t tg && (kI T N k sc it tg iter && (kC T N k (relS s sc) c ifs && kE T N k (relS s sc) e elt)))))))
          | _ => false)
        | .comp2 os t it c os2 t2 it2 c2 e => (match x with
          | .ListComp elt [⟨tg, iter, ifs, 0⟩, ⟨tg2, iter2, ifs2, 0⟩] s p => strB (nth N i) y && (lineSw sc (.Name y py) (.ListComp elt [⟨tg, iter, ifs, 0⟩, ⟨tg2, iter2, ifs2, 0⟩] s p) && (noSet iter && (noSet iter2 && (blkC N sc s (ownL N os) && (subL (slots t) os && (subL (slots t2) os2 && (subL os2 os && (chkT N s t tg && (chkT N s t2 tg2 && (kI T N k sc it tg iter && (kC T N k (relS s sc) c ifs && (kI T N k (relS s sc) it2 tg2 iter2 && (kC T N k (relS s sc) c2 ifs2 && kE T N k (relS s sc) e elt)))))))))))))
          | _ => false)
        | _ => false)
      | _ => false)
    | _ => false
def kSs (T : Tb) (N : List Str) (sc : Scope) : Nat → Ss → List Stmt → Bool
  | 0, _, _ => false
  | k + 1, s, x => match s, x with
    | .nil, [] => true
    | .cons a r, y :: l => kS T N sc k a y && kSs T N sc k r l
    | _, _ => false
end
section
variable {G : Gx} {F : Fn} {C : List PV} {W : WX} {X : Cx} {T : Tb} {N : List Str} {sc : Scope} {n : Nat}
theorem kL_ok (g : Good X G F C W T N sc n) (hk : X.env.scope.kind = .function) {k : Nat} {t : Tg} {e : E} {tg x : Expr} {pos : Pos} (h : kL T N sc k t e tg x = true) : SS X G F C W (.asg t e) (.Assign [tg] x pos) := by
  cases k with
  | zero => unfold kL at h; cases h
  | succ k =>
    unfold kL at h
    cases t with
    | n i =>
      cases tg with
      | Name y py =>
        cases e with
        | comp os t it c e =>
          dsimp only at h
          split at h
          · obtain ⟨a1, h⟩ := and2 h
            obtain ⟨a2, h⟩ := and2 h
            obtain ⟨h1, h⟩ := and2 h
            obtain ⟨h2, h⟩ := and2 h
            obtain ⟨h3, h⟩ := and2 h
            obtain ⟨h4, h⟩ := and2 h
            obtain ⟨h5, h⟩ := and2 h
            obtain ⟨h6, h7⟩ := and2 h
            exact s_asgLc g hk a1 a2 ownL_ok (kI_ok k h5 g) h2 (subL_ok h3) h4 (fun X' g' => kC_ok k h6 g') (fun X' g' => kE_ok k h7 g') (fun x => noSetI_ok h1 _ x)
          · cases h
        | comp2 os t it c os2 t2 it2 c2 e =>
          dsimp only at h
          split at h
          · obtain ⟨a1, h⟩ := and2 h
            obtain ⟨a2, h⟩ := and2 h
            obtain ⟨h1, h⟩ := and2 h
            obtain ⟨h2, h⟩ := and2 h
            obtain ⟨h3, h⟩ := and2 h
            obtain ⟨h4, h⟩ := and2 h
            obtain ⟨h5, h⟩ := and2 h
            obtain ⟨h6, h⟩ := and2 h
            obtain ⟨h7, h⟩ := and2 h
            obtain ⟨h8, h⟩ := and2 h
            obtain ⟨h9, h⟩ := and2 h
            obtain ⟨h10, h⟩ := and2 h
            obtain ⟨h11, h⟩ := and2 h
            obtain ⟨h12, h13⟩ := and2 h
            exact s_asgLc2 g hk a1 a2 ownL_ok (kI_ok k h9 g) h3 (subL_ok h4) (subL_ok h5) (subL_ok h6) h7 h8 (fun X' g' => kC_ok k h10 g') (fun X' g' => kC_ok k h12 g') (fun X' g' => kI_ok k h11 g') (fun X' g' => kE_ok k h13 g') (fun x => noSetI_ok h1 _ x) (fun env x => noSetI_ok h2 env x)
          · cases h
        | _ => cases h
      | _ => cases h
    | _ => cases h
mutual
theorem kS_ok (g : Good X G F C W T N sc n) (hk : X.env.scope.kind = .function) (hp : PassesOwn (model X.prog X.w) X.A X.env X.xe) (st : StOk X sc) : ∀ (k : Nat) {s : Sx} {x : Stmt}, kS T N sc k s x = true → SS X G F C W s x
  | 0, s, x, h => by unfold kS at h; cases h
  | k + 1, s, x, h => by
    cases s with
    | pass =>
      unfold kS at h; dsimp only at h; split at h
      · exact s_pass
      · exact s_doc
      · cases h
    | brk =>
      unfold kS at h; dsimp only at h; split at h
      · exact s_brk
      · cases h
    | cont =>
      unfold kS at h; dsimp only at h; split at h
      · exact s_cont
      · cases h
    | retN =>
      unfold kS at h; dsimp only at h; split at h
      · exact s_retN
      · cases h
    | ret e =>
      unfold kS at h; dsimp only at h; split at h
      · exact s_ret (kE_ok k h g)
      · cases h
    | ex e =>
      unfold kS at h; dsimp only at h; split at h
      · obtain ⟨h1, h2⟩ := and2 h
        exact s_ex (kE_ok k h2 g) h1
      · cases h
    | unk => exact s_unkS
    | raise c =>
      unfold kS at h; dsimp only at h; split at h
      · exact s_raise
      · cases h
    | ifs c a b =>
      unfold kS at h; dsimp only at h; split at h
      · obtain ⟨h1, h⟩ := and2 h
        obtain ⟨h2, h⟩ := and2 h
        obtain ⟨h3, h4⟩ := and2 h
        exact s_ifs (kE_ok k h2 g) h1 (kSs_ok g hk hp st k h3) (kSs_ok g hk hp st k h4)
      · cases h
    | whl c b =>
      unfold kS at h; dsimp only at h; split at h
      · obtain ⟨h1, h⟩ := and2 h
        obtain ⟨h2, h3⟩ := and2 h
        exact s_whl hp (kE_ok k h2 g) h1 (kSs_ok g hk hp st k h3)
      · cases h
    | for_ t it b =>
      unfold kS at h; dsimp only at h; split at h
      · obtain ⟨h1, h⟩ := and2 h
        obtain ⟨h2, h⟩ := and2 h
        obtain ⟨h3, h4⟩ := and2 h
        exact s_for hp g st (kI_ok k h3 g) h2 (kSs_ok g hk hp st k h4) (fun x => noSetI_ok h1 _ x)
      · cases h
    | asg t e =>
      unfold kS at h; dsimp only at h; split at h
      · rcases Bool.or_eq_true_iff.mp h with h | h
        · obtain ⟨h1, h⟩ := and2 h
          obtain ⟨h2, h⟩ := and2 h
          obtain ⟨h3, h4⟩ := and2 h
          exact s_asg g st hk (kE_ok k h4 g) h2 h1 (swNone_ok h3)
        · exact kL_ok g hk h
      · cases h
    | par i j a b =>
      unfold kS at h; dsimp only at h; split at h
      · obtain ⟨h1, h⟩ := and2 h
        obtain ⟨h2, h⟩ := and2 h
        obtain ⟨h3, h⟩ := and2 h
        obtain ⟨h4, h⟩ := and2 h
        obtain ⟨h5, h⟩ := and2 h
        obtain ⟨h6, h⟩ := and2 h
        obtain ⟨h7, h⟩ := and2 h
        obtain ⟨h8, h⟩ := and2 h
        obtain ⟨h9, h10⟩ := and2 h
        exact s_par g hk (kE_ok k h9 g) h6 (kE_ok k h10 g) h7 h1 h2 (neN_ok h3) h4 h5 (swSome_ok h8)
      · cases h
    | par3 i j l a b c =>
      unfold kS at h; dsimp only at h; split at h
      · obtain ⟨h1, h⟩ := and2 h
        obtain ⟨h2, h⟩ := and2 h
        obtain ⟨h3, h⟩ := and2 h
        obtain ⟨h4, h⟩ := and2 h
        obtain ⟨h5, h⟩ := and2 h
        obtain ⟨h6, h⟩ := and2 h
        obtain ⟨h7, h⟩ := and2 h
        obtain ⟨h8, h⟩ := and2 h
        obtain ⟨h9, h⟩ := and2 h
        obtain ⟨h10, h⟩ := and2 h
        obtain ⟨h11, h⟩ := and2 h
        obtain ⟨h12, h⟩ := and2 h
        obtain ⟨h13, h⟩ := and2 h
        obtain ⟨h14, h⟩ := and2 h
        obtain ⟨h15, h16⟩ := and2 h
        exact s_par3 g hk (kE_ok k h14 g) h10 (kE_ok k h15 g) h11 (kE_ok k h16 g) h12 h1 h2 h3 (neN_ok h4) (neN_ok h5) (neN_ok h6) h7 h8 h9 (swSome_ok h13)
      · cases h
    | asgI o i e =>
      unfold kS at h; dsimp only at h; split at h
      · obtain ⟨h1, h⟩ := and2 h
        obtain ⟨h2, h⟩ := and2 h
        obtain ⟨h3, h⟩ := and2 h
        obtain ⟨h4, h5⟩ := and2 h
        exact s_asgI g (kE_ok k h3 g) (kE_ok k h4 g) (kE_ok k h5 g) h1 h2
      · cases h
    | aug i o e =>
      unfold kS at h; dsimp only at h; split at h
      · obtain ⟨h1, h⟩ := and2 h
        obtain ⟨h2, h⟩ := and2 h
        obtain ⟨h3, h⟩ := and2 h
        obtain ⟨h4, h5⟩ := and2 h
        rw [opB_ok h1]
        exact s_aug g st (kE_ok k h5 g) h3 h4 h2
      · cases h
    | augI o i q e =>
      unfold kS at h; dsimp only at h; split at h
      · obtain ⟨h1, h⟩ := and2 h
        obtain ⟨h2, h⟩ := and2 h
        obtain ⟨h3, h⟩ := and2 h
        obtain ⟨h4, h⟩ := and2 h
        obtain ⟨h5, h6⟩ := and2 h
        rw [opB_ok h1]
        exact s_augI g (kE_ok k h4 g) (kE_ok k h5 g) (kE_ok k h6 g) h3 h2
      · cases h
theorem kSs_ok (g : Good X G F C W T N sc n) (hk : X.env.scope.kind = .function) (hp : PassesOwn (model X.prog X.w) X.A X.env X.xe) (st : StOk X sc) : ∀ (k : Nat) {s : Ss} {x : List Stmt}, kSs T N sc k s x = true → SSs X G F C W s x
  | 0, s, x, h => by unfold kSs at h; cases h
  | k + 1, s, x, h => by
    unfold kSs at h
    split at h
    · exact ss_nil
    · obtain ⟨h1, h2⟩ := and2 h
      exact ss_cons (kS_ok g hk hp st k h1) (kSs_ok g hk hp st k h2)
    · cases h
end
end
end Ev

/-! Ev26: arguments bound by position. -/
namespace Ev
open PySem PySem.Spec PyProof.Rows L2

theorem zip_lookup : ∀ {ps : List Str} {us : List Value} {x : Str}, us.length = ps.length → x ∈ ps → ∃ v, (ps.zip us).lookup x = some v
  | [], _, _, _, h => by simp at h
  | p :: ps, [], _, e, _ => by simp at e
  | p :: ps, u :: us, x, e, h => by
    rw [List.zip_cons_cons, List.lookup_cons]
    cases hx : x == p with
    | true => exact ⟨u, rfl⟩
    | false =>
      rcases List.mem_cons.mp h with rfl | h
      · simp at hx
      · exact zip_lookup (by simpa using e) h
theorem zip_take : ∀ {ps : List Str} {us : List Value}, us.length = ps.length → ps.Nodup → ∀ (l : List (Str × Value)), (∀ p ∈ ps.zip us, l.lookup p.1 = some p.2) → ps.filterMap (fun n => (l.lookup n).map (n, ·)) = ps.zip us
  | [], us, _, _, _, _ => by simp
  | p :: ps, [], e, _, _, _ => by simp at e
  | p :: ps, u :: us, e, nd, l, h => by
    have h1 := h (p, u) (by simp)
    rw [List.filterMap_cons, h1, List.zip_cons_cons]
    show (p, u) :: _ = _
    rw [zip_take (by simpa using e) (List.nodup_cons.mp nd).2 l fun q hq => h q (by rw [List.zip_cons_cons]; exact List.mem_cons_of_mem _ hq)]
theorem zip_self : ∀ {ps : List Str} {us : List Value}, ps.Nodup → ∀ p ∈ ps.zip us, (ps.zip us).lookup p.1 = some p.2
  | [], us, _, p, h => by simp at h
  | a :: ps, [], _, p, h => by simp at h
  | a :: ps, u :: us, nd, p, h => by
    rw [List.zip_cons_cons] at h ⊢
    rw [List.lookup_cons]
    rcases List.mem_cons.mp h with rfl | h
    · simp
    · have : p.1 ∈ ps := (List.of_mem_zip h).1
      have ne : (p.1 == a) = false := by
        have : p.1 ≠ a := fun e => (List.nodup_cons.mp nd).1 (e ▸ this)
        simpa using this
      rw [ne]
      exact zip_self (List.nodup_cons.mp nd).2 p h
theorem bind_plain {fd : FuncData} {as : List Arg} {kd : List (Option Expr)} {df : List Expr} {us : List Value} (hp : fd.params = ⟨[], as, none, [], kd, none, df⟩) (hd : fd.defaults = .none) (nd : (as.map (·.arg)).Nodup) (hl : us.length = (as.map (·.arg)).length) :
    bindArgs fd ⟨us, []⟩ = pure ((as.map (·.arg)).zip us) := by
  have fl : ((as.map (·.arg)).filter fun n => (List.lookup n ((as.map (·.arg)).zip us)).isNone) = [] := by
    rw [List.filter_eq_nil_iff]
    intro x hx
    obtain ⟨v, hv⟩ := zip_lookup hl hx
    rw [hv]
    simp
  have hg : ¬ us.length > (as.map (·.arg)).length := by omega
  have zt := zip_take hl nd ((as.map (·.arg)).zip us) (zip_self nd)
  unfold bindArgs
  have e1 : (seqItems? Value.none : Sem (Option (Array Value))) = pure none := rfl
  simp only [hp, hd, e1]
  simp only [List.map_nil, List.nil_append, List.append_nil, List.forIn_nil, pure_bind, Option.getD_none, List.length_nil, Nat.zero_sub, List.drop_nil, Nat.sub_zero, List.take_length, fl, List.isEmpty_nil, Bool.not_true, Option.isNone_none, Bool.and_true, decide_eq_true_eq, if_neg hg, List.zip_nil_right, zt, Bool.false_eq_true, if_false]
end Ev

/-! Ev27: all defs. -/
namespace Ev
open PySem PySem.Spec PyProof.Rows L2

/-- a def's object of the written part -/
def DefW (K : PySem.W.Frag) (f : Addr) (as : List Arg) (body : List Stmt) (scope : Scope) : Prop :=
  ∃ (oc : Value) (od : Option Addr) (name qual : Str) (kd : List (Option Expr)) (df : List Expr) (kV doc pm : Value) (an : Option Addr) (cdv ct : Value) (osl : Array (Option Value)),
    K.lookup f = some ⟨oc, od, .func (PySem.W.fnOf name qual ⟨[], as, none, [], kd, none, df⟩ body scope .none kV doc pm an cdv ct), osl⟩ ∧ PySem.W.codeIn K cdv qual = true
def ndB : List Str → Bool
  | [] => true
  | x :: r => !(r.any fun y => decide (x = y)) && ndB r
theorem ndB_ok : ∀ {l : List Str}, ndB l = true → l.Nodup
  | [], _ => List.nodup_nil
  | x :: r, h => by
    obtain ⟨h1, h2⟩ := and2 h
    refine List.nodup_cons.mpr ⟨fun hm => ?_, ndB_ok h2⟩
    have : (r.any fun y => decide (x = y)) = true := List.any_eq_true.mpr ⟨x, hm, by simp⟩
    rw [this] at h1
    cases h1
def lsB : List Str → List Str → Bool
  | [], [] => true
  | x :: r, y :: l => decide (x = y) && lsB r l
  | _, _ => false
theorem lsB_ok : ∀ {a b : List Str}, lsB a b = true → a = b
  | [], [], _ => rfl
  | x :: r, y :: l, h => by
    obtain ⟨h1, h2⟩ := and2 h
    rw [of_decide_eq_true h1, lsB_ok h2]
  | [], _ :: _, h => by cases h
  | _ :: _, [], h => by cases h
def scB (N ps : List Str) (sc : Scope) : Bool := (match sc.kind with | .function => true | _ => false) && (!sc.isCoroutine && (!sc.isGenerator && (ndB N && (lsB (N.take ps.length) ps && (ps.all (fun x => lcB sc x) && (sc.names.all fun y => match y.2 with | .free => false | _ => true))))))
theorem scB_ok {N ps : List Str} {sc : Scope} (h : scB N ps sc = true) : FnScope N ps sc := by
  obtain ⟨h1, h⟩ := and2 h
  obtain ⟨h2, h⟩ := and2 h
  obtain ⟨h3, h⟩ := and2 h
  obtain ⟨h4, h⟩ := and2 h
  obtain ⟨h5, h⟩ := and2 h
  obtain ⟨h6, h7⟩ := and2 h
  refine ⟨?_, by simpa using h2, by simpa using h3, ndB_ok h4, lsB_ok h5, fun x hx => ?_, fun y hy e => ?_⟩
  · split at h1
    · assumption
    · cases h1
  · have z := List.all_eq_true.mp h6 x hx
    unfold lcB at z
    split at z
    · exact .inl (by assumption)
    · exact .inr (by assumption)
    · cases z
  · have z := List.all_eq_true.mp h7 y hy
    rw [e] at z
    cases z
def plB (N : List Str) : Bool := N.all fun x => !(x == ("__debug__" : Str)) && !(x == ("__classdict__" : Str))
theorem plB_ok {N : List Str} (h : plB N = true) : ∀ x ∈ N, (x == ("__debug__" : Str)) = false ∧ (x == ("__classdict__" : Str)) = false := fun x hx => by
  obtain ⟨h1, h2⟩ := and2 (List.all_eq_true.mp h x hx)
  exact ⟨by simpa using h1, by simpa using h2⟩
/-- the tree d is the def's text -/
def kD (T : Tb) (fuel : Nat) (d : Df) (N : List Str) (as : List Arg) (body : List Stmt) (sc : Scope) : Bool :=
  Nat.beq N.length d.ns && (Nat.beq as.length d.np && (Nat.ble d.np d.ns && (scB N (as.map (·.arg)) sc && (plB N && kSs T N sc fuel d.body body))))

/-- the module -/
structure Md (P : Program) (w : World) (K : PySem.W.Frag) (mg : Str → Option Value) (base : Heap) (G : Gx) (C : List PV) (T : Tb) (ds : List Df) : Prop where
  kk : K = G.K
  fn : ∀ (k : Nat) x, T.fn[k]? = some x → (x == ("__debug__" : Str)) = false ∧ mg x = some (.ref (G.fa k)) ∧ PySem.W.keepIn K (.ref (G.fa k)) = true
  df : ∀ (k : Nat) x, T.fn[k]? = some x → ∃ d N as body sc fuel, ds[k]? = some d ∧ DefW K (G.fa k) as body sc ∧ kD T fuel d N as body sc = true
  nf : T.fn.length = G.nf
  free : ∀ x ∈ bnames, mg x = none
  cst : ∀ (k : Nat) x, T.cn[k]? = some x → (x == ("__debug__" : Str)) = false ∧ ∃ u v c, mg x = some u ∧ RelV v u ∧ C[k]? = some c ∧ ¬ isNew c ∧ ∀ H m, RV G H m c v
  dct : ∀ (k : Nat) x, (k, x) ∈ T.dn → (x == ("__debug__" : Str)) = false ∧ ∃ d b kvs, mg x = some (.ref d) ∧ DctW K w G d kvs ∧ C[k]? = some (.tup b kvs)
  gcd : T.gcd = true → mg "gcd" = some (.builtin "math.gcd")
  fac : T.fac = true → mg "factorial" = some (.builtin "math.factorial")
  inj : ∀ (j k : Nat) x y, T.fn[j]? = some x → T.fn[k]? = some y → G.fa j = G.fa k → j = k
theorem repN_eq {α : Type} (x : α) : ∀ n, repN x n = List.replicate n x
  | 0 => rfl
  | n + 1 => by rw [repN, repN_eq x n, List.replicate_succ]
theorem rf_start {G : Gx} {H : Hp} {m : List Addr} {N : List Str} {args : List PV} {vs : List V} {j : Nat} (r : RVs G H m args vs) (hj : j = N.length - vs.length) : RF G H m (args.map some ++ repN none j) (start N vs) := by
  subst hj
  have key : ∀ {args : List PV} {vs : List V}, RVs G H m args vs → ∀ (l : Nat), RF G H m (args.map some ++ List.replicate l none) (vs.map some ++ List.replicate l none) := by
    intro args
    induction args with
    | nil =>
      intro vs h l
      cases h
      refine ⟨by simp, fun i v e => ?_⟩
      simp only [List.map_nil, List.nil_append] at e
      rw [List.getElem?_replicate] at e
      split at e <;> cases e
    | cons a args ih =>
      intro vs h l
      cases h with
      | cons h r =>
        have q := ih r l
        refine ⟨by simp [r.length], fun i v e => ?_⟩
        cases i with
        | zero =>
          simp at e
          subst e
          exact ⟨_, rfl, h⟩
        | succ i => exact q.at_ i v (by simpa using e)
  rw [repN_eq]
  exact key r _
theorem fnr_all {P : Program} {w : World} {K : PySem.W.Frag} {mg : Str → Option Value} {base : Heap} {G : Gx} {C : List PV} {T : Tb} {ds : List Df} (M : Md P w K mg base G C T ds) :
    ∀ (n : Nat) (k : Nat) (x : Str), T.fn[k]? = some x → FnR P w K mg base (L2.CX P w) n (G.fa k) (spR G (fns ds C n) k)
  | 0, k, x, hx => fun A outer s H us vs Q E hr e0 rv h => by
    obtain ⟨args, S, m, rs, rvs, p⟩ := h
    exact p.elim
  | n + 1, k, x, hx => by
    obtain ⟨d, N, as, body, sc, fuel, hd, ⟨oc, od, name, qual, kd, df, kV, doc, pm, an, cdv, ct, osl, lk, hcd⟩, hD⟩ := M.df k x hx
    obtain ⟨h1, hD⟩ := and2 hD
    obtain ⟨h2, hD⟩ := and2 hD
    obtain ⟨h3, hD⟩ := and2 hD
    obtain ⟨h4, hD⟩ := and2 hD
    obtain ⟨h5, h6⟩ := and2 hD
    have h1 := Nat.eq_of_beq_eq_true h1
    have h2 := Nat.eq_of_beq_eq_true h2
    have S0 := scB_ok h4
    have ndP : (as.map (·.arg)).Nodup := by
      rw [← S0.pre]
      exact S0.nd.sublist (List.take_sublist _ _)
    have len : ∀ vs H Q E, spR G (fns ds C (n + 1)) k vs H Q E → vs.length = (as.map (·.arg)).length := fun vs H Q E h => by
      obtain ⟨args, S, m, rs, rvs, p⟩ := h
      rw [fns, nth_eq, hd] at p
      dsimp only at p
      unfold runD at p
      split at p
      · rename_i q
        rw [rvs.length, Nat.eq_of_beq_eq_true q, List.length_map, h2]
      · exact p.elim
    have F := fn_of (CX := L2.CX P w) (P := P) (w := w) (mg := mg) (base := base) (k := n) (N := N) (ps := as.map (·.arg)) (sp := spR G (fns ds C (n + 1)) k) lk hcd S0 len (fun A outer s H vs Q E hr hsp => ?_)
    · have R := F.raw (dvs := []) (ds := []) (Binds.all fun us hl => bind_plain rfl rfl ndP hl) .nil
      exact R.imp fun vs H Q E h => by rw [List.append_nil]; exact h
    · obtain ⟨args, S, m, rs, rvs, p⟩ := hsp
      rw [fns, nth_eq, hd] at p
      dsimp only at p
      unfold runD at p
      split at p
      · rename_i q
        have q := Nat.eq_of_beq_eq_true q
        have g : Good (cxOf (L2.CX P w) P w K mg base N qual sc (G.fa k) cdv A outer s H E) G (fns ds C n) C (fun c d _ H' => E c d H') T N sc n := {
          kk := M.kk
          sc := rfl
          nn := rfl
          nd := S0.nd
          plain := plB_ok h5
          calm := rfl
          room := hr
          tk := takes_of rfl rfl rfl rfl
          fn := fun j y hy => ⟨(M.fn j y hy).1, (M.fn j y hy).2.1, (M.fn j y hy).2.2, fnr_all M n j y hy⟩
          nf := M.nf
          free := M.free
          cst := M.cst
          dct := M.dct
          gcd := M.gcd
          fac := M.fac
          inj := M.inj }
        have st : StOk (cxOf (L2.CX P w) P w K mg base N qual sc (G.fa k) cdv A outer s H E) sc := fun y hy => by
          refine ⟨?_, .inl rfl⟩
          unfold lcB at hy
          split at hy
          · exact .inl (by assumption)
          · exact .inr (by assumption)
          · cases hy
        refine ⟨_, kSs_ok g S0.kind (passes_of rfl) st fuel h6, args.map some ++ repN none (d.ns - d.np), S, m, rf_start rvs (by rw [rvs.length, q, h1]), rs, ?_⟩
        split at p
        · rename_i e
          rw [e]
          exact fun σ m' H' e' r' f' => p m' H' e' r' .non (RT.of .non)
        · rename_i e
          rw [e]
          exact fun σ m' H' e' r' f' x rx => p m' H' e' r' x rx
        · exact p.elim
        · rename_i e
          rw [e]
          exact fun σ m' H' e' r' f' => p m' H' e' r'
        · exact p.elim
      · exact p.elim
end Ev

/-! EvEnd: from what the head tells to the law. -/
namespace Ev
open PySem PySem.Spec PyProof.Rows L2

/-! ### the checks over the written data -/
def plainA (a : Arguments) : Bool := a.posonlyargs.isEmpty && (a.vararg.isNone && (a.kwonlyargs.isEmpty && a.kwarg.isNone))
theorem plainA_ok {a : Arguments} (h : plainA a = true) : a = ⟨[], a.args, none, [], a.kw_defaults, none, a.defaults⟩ := by
  obtain ⟨p, as, va, ko, kd, kw, df⟩ := a
  obtain ⟨h1, h⟩ := and2 h
  obtain ⟨h2, h⟩ := and2 h
  obtain ⟨h3, h4⟩ := and2 h
  cases p with
  | cons => cases h1
  | nil => cases va with
    | some => cases h2
    | none => cases ko with
      | cons => cases h3
      | nil => cases kw with
        | some => cases h4
        | none => rfl
def okName (x : Str) : Bool := !(x == ("__debug__" : Str))
theorem okName_ok {x : Str} (h : okName x = true) : (x == ("__debug__" : Str)) = false := by
  unfold okName at h
  cases q : x == ("__debug__" : Str) with
  | false => rfl
  | true => rw [q] at h; cases h
def isRef : Option Gv → Addr → Bool
  | some (.ref a), b => Nat.beq a b
  | _, _ => false
theorem isRef_ok {o : Option Gv} {a : Addr} (h : isRef o a = true) : o = some (.ref a) := by
  unfold isRef at h
  split at h
  · rw [Nat.eq_of_beq_eq_true h]
  · cases h
def isBi : Option Gv → String → Bool
  | some (.bi a), b => decide (a = b)
  | _, _ => false
theorem isBi_ok {o : Option Gv} {a : String} (h : isBi o a = true) : o = some (.bi a) := by
  unfold isBi at h
  split at h
  · rw [of_decide_eq_true h]
  · cases h
section
variable (L : Look) (T : Tb) (ds : List Df) (nms : List (List Str)) (C : List PV) (fuel : Nat)
/-- the k-th def -/
def chkK (k : Nat) : Bool := match nth T.fn k, nth ds k, nth nms k, nth L.fn k with
  | some x, some d, some N, some a => okName x && (isRef (L.gl.lookup x) a.fa && (plainA (defArgs a.st) && kD T fuel d N (defArgs a.st).args (defBody a.st) (defScope a.st)))
  | _, _, _, _ => false
def gvC (L : Look) : Option Gv → Option PV → Bool
  | some (.int i), some (.int j) => iEq i j
  | some (.str x), some (.str y) => decide (x = y)
  | some (.ref a), some (.tup false vs) => L.tc.any fun t => Nat.beq t.at_ a && (t.its.length == vs.length && pvE t.its vs)
  | _, _ => false
where
  pvE : List PV → List PV → Bool
    | [], [] => true
    | .int i :: r, .int j :: l => iEq i j && pvE r l
    | .str i :: r, .str j :: l => decide (i = j) && pvE r l
    | _, _ => false
def chkC (k : Nat) : Bool := match nth T.cn k with
  | some x => okName x && gvC L (L.gl.lookup x) (nth C k)
  | none => false
def incB : List DefA → Bool
  | a :: b :: r => Nat.blt a.fa b.fa && incB (b :: r)
  | _ => true
def kvE : List (Str × PV) → List PV → Bool
  | [], [] => true
  | (x, .int i) :: r, .tup _ [.str y, .int j] :: l => decide (x = y) && (iEq i j && kvE r l)
  | _, _ => false
def chkDn (p : Nat × Str) : Bool := okName p.2 && (match L.gl.lookup p.2, nth C p.1 with
  | some (.ref a), some (.tup _ kvs) => L.dc.any fun d => Nat.beq d.at_ a && kvE d.kvs kvs
  | _, _ => false)
def chkM : Bool := bnames.all (fun x => (L.gl.lookup x).isNone) && ((List.range T.cn.length).all (chkC L T C) && (T.dn.all (chkDn L C) && ((!T.gcd || isBi (L.gl.lookup ("gcd" : Str)) "math.gcd") && ((!T.fac || isBi (L.gl.lookup ("factorial" : Str)) "math.factorial") && (incB L.fn && Nat.beq T.fn.length L.fn.length)))))
end
theorem inc_lt : ∀ {l : List DefA}, incB l = true → ∀ {j k : Nat} {a b : DefA}, l[j]? = some a → l[k]? = some b → j < k → a.fa < b.fa
  | [], _, j, k, a, b, h, _, _ => by simp at h
  | [x], _, j, k, a, b, h, h', hlt => by
    have := (List.getElem?_eq_some_iff.mp h').1
    simp at this
    omega
  | x :: y :: r, hi, j, k, a, b, h, h', hlt => by
    obtain ⟨h1, h2⟩ := and2 hi
    have h1 : x.fa < y.fa := by simpa using h1
    cases k with
    | zero => omega
    | succ k =>
      cases j with
      | zero =>
        cases h
        cases k with
        | zero => cases h'; exact h1
        | succ k => exact Nat.lt_trans h1 (inc_lt h2 (j := 0) (k := k + 1) rfl (by simpa using h') (by omega))
      | succ j => exact inc_lt h2 (by simpa using h) (by simpa using h') (by omega)
theorem inc_inj {l : List DefA} (h : incB l = true) {j k : Nat} {a b : DefA} (hj : l[j]? = some a) (hk : l[k]? = some b) (e : a.fa = b.fa) : j = k := by
  rcases Nat.lt_trichotomy j k with z | z | z
  · exact absurd e (Nat.ne_of_lt (inc_lt h hj hk z))
  · exact z
  · exact absurd e.symm (Nat.ne_of_lt (inc_lt h hk hj z))

/-! ### the module -/
def gxOf (L : Look) (T : Tb) (K : PySem.W.Frag) : Gx := ⟨K, T.fn.length, fun k => match L.fn[k]? with | some a => a.fa | none => 0, fun _ => 0⟩
theorem pvB_ok {v : PV} {u : Value} (h : pvB v u = true) : ∃ x, RelV x u ∧ ¬ isNew v ∧ ∀ (G : Gx) H m, RV G H m v x := by
  unfold pvB at h
  split at h
  · cases iEq_ok h; exact ⟨.int _, ⟨_, rfl⟩, fun z => z, fun _ _ _ => .int _⟩
  · cases of_decide_eq_true h; exact ⟨.str _, ⟨_, rfl⟩, fun z => z, fun _ _ _ => .str _⟩
  · cases eq_of_beq h; exact ⟨.bl _, rfl, fun z => z, fun _ _ _ => .bl _⟩
  · exact ⟨.non, rfl, fun z => z, fun _ _ _ => .non⟩
  · cases h
theorem pvsB_ok : ∀ {vs : List PV} {us : List Value}, pvsB vs us = true → ∃ xs, Vals xs us ∧ ∀ (G : Gx) H m, RVs G H m vs xs
  | [], [], _ => ⟨[], .nil, fun _ _ _ => .nil⟩
  | [], _ :: _, h => by cases h
  | _ :: _, [], h => by cases h
  | v :: vs, u :: us, h => by
    obtain ⟨h1, h2⟩ := and2 h
    obtain ⟨x, a1, _, a2⟩ := pvB_ok h1
    obtain ⟨xs, b1, b2⟩ := pvsB_ok h2
    exact ⟨x :: xs, .cons a1 b1, fun G H m => .cons (a2 G H m) (b2 G H m)⟩
theorem pvE_ok : ∀ {vs us : List PV}, gvC.pvE vs us = true → vs = us
  | [], [], _ => rfl
  | v :: vs, u :: us, h => by
    cases v <;> cases u <;> first | cases h | skip
    · obtain ⟨h1, h2⟩ := and2 h
      cases iEq_ok h1
      rw [pvE_ok h2]
    · obtain ⟨h1, h2⟩ := and2 h
      cases of_decide_eq_true h1
      rw [pvE_ok h2]
  | [], _ :: _, h => by cases h
  | v :: _, [], h => by cases v <;> cases h
theorem dvs_find {z : Str} : ∀ {es : List DictEntry} {l : List (Str × PV)} {kvs : List PV}, dvsB es l = true → kvE l kvs = true →
    (es.find? (·.key.isStr z) = none ∧ keyed z kvs = .non) ∨ ∃ e, es.find? (·.key.isStr z) = some e ∧ ∃ x, RelV x e.val ∧ ¬ isNew (keyed z kvs) ∧ ∀ (G : Gx) H m, RV G H m (keyed z kvs) x
  | [], [], [], _, _ => .inl ⟨rfl, rfl⟩
  | [], [], _ :: _, _, h => by cases h
  | [], _ :: _, _, h, _ => by cases h
  | _ :: _, [], _, h, _ => by cases h
  | e :: es, (x, v) :: l, kvs, h, h' => by
    obtain ⟨h1, h⟩ := and2 h
    obtain ⟨h2, h3⟩ := and2 h
    unfold kvE at h'
    split at h'
    · rename_i e1 e2
      cases e2
    · rename_i x' i r b y j l' e1
      cases e1
      obtain ⟨k1, k2⟩ := and2 h'
      obtain ⟨k2, k3⟩ := and2 k2
      cases of_decide_eq_true k1
      cases iEq_ok k2
      have ih := dvs_find (z := z) h3 k3
      have hk : e.key.isStr z = decide (z = x) := by
        unfold keyB at h1
        split at h1
        · rename_i w t q
          have := of_decide_eq_true h1
          subst this
          rw [q]
          exact Bool.eq_iff_iff.mpr ⟨fun a => by rw [eq_of_beq (show (w == z) = true from a)]; exact decide_eq_true rfl, fun a => by rw [of_decide_eq_true a]; exact beq_self_eq_true _⟩
        · cases h1
      unfold keyed
      rw [List.find?_cons, hk]
      cases hx : decide (z = x) with
      | true =>
        obtain ⟨u, a1, a2, a3⟩ := pvB_ok h2
        exact .inr ⟨e, rfl, u, a1, a2, a3⟩
      | false => exact ih
    · cases h'
theorem dvs_norefs : ∀ {es : List DictEntry} {l : List (Str × PV)}, dvsB es l = true → es.any (·.refKey) = false
  | [], [], _ => rfl
  | [], _ :: _, h => by cases h
  | _ :: _, [], h => by cases h
  | e :: es, (y, v) :: l, h => by
    obtain ⟨h1, h⟩ := and2 h
    obtain ⟨h2, h3⟩ := and2 h
    rw [List.any_cons, dvs_norefs h3, Bool.or_false]
    unfold keyB at h1
    split at h1
    · rename_i q
      unfold DictEntry.refKey
      rw [q]
    · cases h1
theorem dicKeys_ok {K : PySem.W.Frag} {w : World} {a : Addr} {ks : List Str} (h : dicKeys (K.lookup a) = some (He.keysIn w.params ks)) (hs : (a == sysModules) = false) : ∃ es n, KDict K w a es n := by
  unfold dicKeys at h
  split at h
  · rename_i c es n sl q
    split at h
    · rename_i z
      obtain ⟨z1, z2⟩ := and2 z
      cases of_decide_eq_true z1
      have e2 : sl = #[] := Array.isEmpty_iff.mp z2
      subst e2
      exact ⟨es, n, q, He.keysLit_of (Option.some.inj h), hs⟩
    · cases h
  · cases h
section
variable {L : Look} {T : Tb} {ds : List Df} {nms : List (List Str)} {C : List PV} {fuel : Nat} {K : PySem.W.Frag} {h : Heap} {w : World} {mg : Str → Option Value}
theorem says_parts (c : L.Says w K) : globB L.gl (K.lookup mainGlobals) = true ∧ (∀ d ∈ L.fn, cdB (K.lookup d.fa) (K.lookup d.ca) d.ca (stN d.st) = true ∧ fnV (K.lookup d.fa) = d.val) ∧
    (∀ d ∈ L.dc, dicVals d.kvs (K.lookup d.at_) = true ∧ (d.at_ == sysModules) = false ∧ dicKeys (K.lookup d.at_) = some (He.keysIn w.params (d.kvs.map (·.1)))) ∧ ∀ d ∈ L.tc, tupVals d.its (K.lookup d.at_) = true := by
  have b := show (globB L.gl (K.lookup mainGlobals) && (L.fn.all (fun d => cdB (K.lookup d.fa) (K.lookup d.ca) d.ca (stN d.st)) && (L.dc.all (fun d => dicVals d.kvs (K.lookup d.at_) && !(d.at_ == sysModules)) && (L.tc.all (fun d => tupVals d.its (K.lookup d.at_)) && L.as.all fun a => noList (K.lookup a))))) = true from congrArg (fun z : Al => z.1) c
  have b2 : L.fn.map (fun d => fnV (K.lookup d.fa)) = L.fn.map DefA.val := congrArg (fun z : Al => z.2.1) c
  have b3 : L.dc.map (fun d => dicKeys (K.lookup d.at_)) = L.dc.map fun d => some (He.keysIn w.params (d.kvs.map (·.1))) := congrArg (fun z : Al => z.2.2) c
  obtain ⟨h1, b⟩ := and2 b
  obtain ⟨h2, b⟩ := and2 b
  obtain ⟨h3, b⟩ := and2 b
  obtain ⟨h4, b⟩ := and2 b
  refine ⟨h1, fun d hd => ⟨List.all_eq_true.mp h2 d hd, List.map_inj_left.mp b2 d hd⟩, fun d hd => ?_, fun d hd => List.all_eq_true.mp h4 d hd⟩
  obtain ⟨h5, h6⟩ := and2 (List.all_eq_true.mp h3 d hd)
  exact ⟨h5, by simpa using h6, List.map_inj_left.mp b3 d hd⟩
theorem def_w {d : DefA} (h1 : cdB (K.lookup d.fa) (K.lookup d.ca) d.ca (stN d.st) = true) (h2 : fnV (K.lookup d.fa) = d.val) (h3 : plainA (defArgs d.st) = true) : DefW K d.fa (defArgs d.st).args (defBody d.st) (defScope d.st) := by
  obtain ⟨oc, od, fd, osl, e, hc⟩ := cdB_ok h1
  rw [e] at h2
  obtain ⟨n1, n2, n3, n4, n5, n6, n7, n8, n9, n10, n11, n12, n13, n14, n15⟩ := fd
  have e2 : (some (n1, n2, n3, n4, n5, n6, n7, n8, n15) : FnV) = some (stN d.st, stN d.st, defArgs d.st, .stmts (defBody d.st), defScope d.st, mainGlobals, [], .none, builtinsNs) := h2
  simp only [Option.some.injEq, Prod.mk.injEq] at e2
  obtain ⟨e1, e2, e3, e4, e5, e6, e7, e8, e9⟩ := e2
  subst e1 e2 e4 e5 e6 e7 e8 e9
  rw [plainA_ok h3] at e3
  subst e3
  exact ⟨oc, od, _, _, _, _, n9, n10, n11, n12, n13, n14, osl, e, hc⟩
theorem md_of (X : K.In h) (N : h.Ns mainGlobals mg) (c : L.Says w K) (hk : ∀ k, k < T.fn.length → chkK L T ds nms fuel k = true) (hm : chkM L T C = true) {P : Program} {base : Heap} :
    Md P w K mg base (gxOf L T K) C T ds := by
  obtain ⟨c1, c2, c3, c4⟩ := says_parts c
  obtain ⟨m1, hm⟩ := and2 hm
  obtain ⟨m2, hm⟩ := and2 hm
  obtain ⟨m3, hm⟩ := and2 hm
  obtain ⟨m4, hm⟩ := and2 hm
  obtain ⟨m5, hm⟩ := and2 hm
  obtain ⟨m6, m7⟩ := and2 hm
  have m7 := Nat.eq_of_beq_eq_true m7
  have at_ : ∀ (k : Nat) x, T.fn[k]? = some x → ∃ d N a, ds[k]? = some d ∧ nms[k]? = some N ∧ L.fn[k]? = some a ∧ okName x = true ∧ L.gl.lookup x = some (.ref a.fa) ∧ plainA (defArgs a.st) = true ∧ kD T fuel d N (defArgs a.st).args (defBody a.st) (defScope a.st) = true := fun k x hx => by
    have q := hk k (List.getElem?_eq_some_iff.mp hx).1
    unfold chkK at q
    rw [nth_eq, hx] at q
    split at q
    · rename_i x' d N a e1 e2 e3 e4
      cases e1
      rw [nth_eq] at e2 e3 e4
      obtain ⟨q1, q⟩ := and2 q
      obtain ⟨q2, q⟩ := and2 q
      obtain ⟨q3, q4⟩ := and2 q
      exact ⟨d, N, a, e2, e3, e4, q1, isRef_ok q2, q3, q4⟩
    · cases q
  have ga : ∀ {k : Nat} {a : DefA}, L.fn[k]? = some a → (gxOf L T K).fa k = a.fa := fun {k a} e => by
    show (match L.fn[k]? with | some a => a.fa | none => 0) = _
    rw [e]
  have mgr : ∀ {x : Str} {a : Addr}, L.gl.lookup x = some (.ref a) → mg x = some (.ref a) := fun {x a} e => by
    obtain ⟨u, z1, z2⟩ := ns_some c1 e
    cases u <;> first | cases z2 | skip
    cases Nat.eq_of_beq_eq_true z2
    exact PySem.W.mg_of X N z1
  refine ⟨rfl, fun k x hx => ?_, fun k x hx => ?_, rfl, fun x hx => ?_, fun k x hx => ?_, fun k x hx => ?_, fun hg => ?_, fun hg => ?_, fun j k x y hx hy e => ?_⟩
  · obtain ⟨d, N, a, _, _, e4, q1, q2, q3, _⟩ := at_ k x hx
    rw [ga e4]
    refine ⟨okName_ok q1, mgr q2, ?_⟩
    obtain ⟨d1, d2⟩ := c2 a (List.mem_of_getElem? e4)
    obtain ⟨oc, od, fd, osl, e, _⟩ := cdB_ok d1
    unfold PySem.W.keepIn
    dsimp only
    rw [e]
  · obtain ⟨d, N, a, e2, _, e4, _, _, q3, q4⟩ := at_ k x hx
    rw [ga e4]
    obtain ⟨d1, d2⟩ := c2 a (List.mem_of_getElem? e4)
    exact ⟨d, N, _, _, _, fuel, e2, def_w d1 d2 q3, q4⟩
  · have q := List.all_eq_true.mp m1 x hx
    exact PySem.W.mg_none_of X N (ns_none c1 (Option.isNone_iff_eq_none.mp q))
  · have q := List.all_eq_true.mp m2 k (List.mem_range.mpr (List.getElem?_eq_some_iff.mp hx).1)
    unfold chkC at q
    rw [nth_eq, hx] at q
    dsimp only at q
    obtain ⟨q1, q2⟩ := and2 q
    refine ⟨okName_ok q1, ?_⟩
    rw [nth_eq] at q2
    unfold gvC at q2
    split at q2
    · rename_i i j e1 e2
      cases iEq_ok q2
      obtain ⟨u, z1, z2⟩ := ns_some c1 e1
      cases u <;> first | cases z2 | skip
      cases iEq_ok z2
      exact ⟨_, .int i, .int i, PySem.W.mg_of X N z1, ⟨_, rfl⟩, e2, fun z => z, fun _ _ => .int _⟩
    · rename_i i j e1 e2
      cases of_decide_eq_true q2
      obtain ⟨u, z1, z2⟩ := ns_some c1 e1
      cases u <;> first | cases z2 | skip
      cases of_decide_eq_true z2
      exact ⟨_, .str i, .str i, PySem.W.mg_of X N z1, ⟨_, rfl⟩, e2, fun z => z, fun _ _ => .str _⟩
    · rename_i a vs e1 e2
      obtain ⟨t, ht, q3⟩ := List.any_eq_true.mp q2
      obtain ⟨q3, q4⟩ := and2 q3
      obtain ⟨_, q4⟩ := and2 q4
      cases Nat.eq_of_beq_eq_true q3
      cases pvE_ok q4
      have z := c4 t ht
      unfold tupVals at z
      split at z
      · rename_i c dd its n sl hl
        obtain ⟨z1, z⟩ := and2 z
        obtain ⟨z2, z3⟩ := and2 z
        cases of_decide_eq_true z1
        obtain ⟨xs, r1, r2⟩ := pvsB_ok z3
        refine ⟨_, .ref t.at_, .tup false t.its, mgr e1, rfl, e2, fun z => z, fun H m => .tup (.of (.inr ⟨_, its, n, hl, rfl, rfl, ?_, r1⟩)) (r2 _ _ _)⟩
        have z2 : its.size ≤ 1000 := by simpa using z2
        exact Nat.le_trans z2 (by decide)
      · cases z
    · cases q2
  · have q := List.all_eq_true.mp m3 (k, x) hx
    unfold chkDn at q
    obtain ⟨q1, q2⟩ := and2 q
    refine ⟨okName_ok q1, ?_⟩
    dsimp only at q2
    rw [nth_eq] at q2
    split at q2
    · rename_i a b kvs e1 e2
      obtain ⟨d, hd, q3⟩ := List.any_eq_true.mp q2
      obtain ⟨q3, q4⟩ := and2 q3
      cases Nat.eq_of_beq_eq_true q3
      obtain ⟨z1, z2, z3⟩ := c3 d hd
      refine ⟨d.at_, b, kvs, mgr e1, ⟨dicKeys_ok z3 z2, fun z => ?_⟩, e2⟩
      unfold dicVals at z1
      split at z1
      · rename_i es n sl hl
        unfold PySem.W.nsIn
        rw [hl]
        dsimp only
        rcases dvs_find (z := z) z1 q4 with ⟨y1, y2⟩ | ⟨e, y1, v, y2, y3, y4⟩
        · rw [y1, dvs_norefs z1]
          exact .inl ⟨rfl, y2⟩
        · rw [y1]
          exact .inr ⟨_, v, rfl, y2, y3, y4 _⟩
      · cases z1
    · cases q2
  · rw [hg] at m4
    have q := isBi_ok m4
    obtain ⟨u, z1, z2⟩ := ns_some c1 q
    cases u <;> first | cases z2 | skip
    cases of_decide_eq_true z2
    exact PySem.W.mg_of X N z1
  · rw [hg] at m5
    have q := isBi_ok m5
    obtain ⟨u, z1, z2⟩ := ns_some c1 q
    cases u <;> first | cases z2 | skip
    cases of_decide_eq_true z2
    exact PySem.W.mg_of X N z1
  · obtain ⟨_, _, a, _, _, e4, _⟩ := at_ j x hx
    obtain ⟨_, _, b, _, _, e5, _⟩ := at_ k y hy
    rw [ga e4, ga e5] at e
    exact inc_inj m6 e4 e5 e
end
/-! ### the law -/
/-- as fnr_all, the def's own object told -/
theorem fnok_at {P : Program} {w : World} {K : PySem.W.Frag} {mg : Str → Option Value} {G : Gx} {C : List PV} {T : Tb} {ds : List Df} (M : ∀ base : Heap, Md P w K mg base G C T ds) (n k : Nat) {x y : Str} (hx : T.fn[k]? = some x)
    {d : Df} (hd : ds[k]? = some d) {as : List Arg} {body : List Stmt} {sc : Scope} (hw : DefW K (G.fa k) as body sc) {fuel : Nat} {N : List Str} (hD : kD T fuel d N as body sc = true) (ha : as.map (·.arg) = [y]) :
    ∃ fd : FuncData, (∀ (s : Shared) (u : Value), BindsTo s fd ⟨[u], []⟩ [(y, u)]) ∧ ∀ base : Heap, FnOk P w K mg base (L2.CX P w) (n + 1) (G.fa k) fd [y] (spR G (fns ds C (n + 1)) k) := by
  obtain ⟨oc, od, name, qual, kd, df, kV, doc, pm, an, cdv, ct, osl, lk, hcd⟩ := hw
  obtain ⟨h1, hD⟩ := and2 hD
  obtain ⟨h2, hD⟩ := and2 hD
  obtain ⟨h3, hD⟩ := and2 hD
  obtain ⟨h4, hD⟩ := and2 hD
  obtain ⟨h5, h6⟩ := and2 hD
  have h1 := Nat.eq_of_beq_eq_true h1
  have h2 := Nat.eq_of_beq_eq_true h2
  have S0 := scB_ok h4
  have ndP : (as.map (·.arg)).Nodup := by rw [ha]; simp
  refine ⟨PySem.W.fnOf name qual ⟨[], as, none, [], kd, none, df⟩ body sc .none kV doc pm an cdv ct, fun s u => .of_eq ?_, fun base => ?_⟩
  · have e := bind_plain (fd := PySem.W.fnOf name qual ⟨[], as, none, [], kd, none, df⟩ body sc .none kV doc pm an cdv ct) (us := [u]) rfl rfl ndP (by rw [ha]; rfl)
    rw [e, ha]
    rfl
  have len : ∀ vs H Q E, spR G (fns ds C (n + 1)) k vs H Q E → vs.length = [y].length := fun vs H Q E h => by
    obtain ⟨args, S, m, rs, rvs, p⟩ := h
    rw [fns, nth_eq, hd] at p
    dsimp only at p
    unfold runD at p
    split at p
    · rename_i q
      rw [rvs.length, Nat.eq_of_beq_eq_true q, ← h2, ← ha, List.length_map]
    · exact p.elim
  rw [ha] at S0
  refine fn_of (CX := L2.CX P w) (P := P) (w := w) (mg := mg) (base := base) (k := n) (N := N) (ps := [y]) (sp := spR G (fns ds C (n + 1)) k) lk hcd S0 len (fun A outer s H vs Q E hr hsp => ?_)
  obtain ⟨args, S, m, rs, rvs, p⟩ := hsp
  rw [fns, nth_eq, hd] at p
  dsimp only at p
  unfold runD at p
  split at p
  · rename_i q
    have q := Nat.eq_of_beq_eq_true q
    have M0 := M base
    have g : Good (cxOf (L2.CX P w) P w K mg base N qual sc (G.fa k) cdv A outer s H E) G (fns ds C n) C (fun c d _ H' => E c d H') T N sc n := {
      kk := M0.kk
      sc := rfl
      nn := rfl
      nd := S0.nd
      plain := plB_ok h5
      calm := rfl
      room := hr
      tk := takes_of rfl rfl rfl rfl
      fn := fun j y hy => ⟨(M0.fn j y hy).1, (M0.fn j y hy).2.1, (M0.fn j y hy).2.2, fnr_all M0 n j y hy⟩
      nf := M0.nf
      free := M0.free
      cst := M0.cst
      dct := M0.dct
      gcd := M0.gcd
      fac := M0.fac
      inj := M0.inj }
    have st : StOk (cxOf (L2.CX P w) P w K mg base N qual sc (G.fa k) cdv A outer s H E) sc := fun y hy => by
      refine ⟨?_, .inl rfl⟩
      unfold lcB at hy
      split at hy
      · exact .inl (by assumption)
      · exact .inr (by assumption)
      · cases hy
    refine ⟨_, kSs_ok g S0.kind (passes_of rfl) st fuel h6, args.map some ++ repN none (d.ns - d.np), S, m, rf_start rvs (by rw [rvs.length, q, h1]), rs, ?_⟩
    split at p
    · rename_i e
      rw [e]
      exact fun σ m' H' e' r' f' => p m' H' e' r' .non (RT.of .non)
    · rename_i e
      rw [e]
      exact fun σ m' H' e' r' f' x rx => p m' H' e' r' x rx
    · exact p.elim
    · rename_i e
      rw [e]
      exact fun σ m' H' e' r' f' => p m' H' e' r'
    · exact p.elim
  · exact p.elim
theorem law_end {l : PySem.W.OpenLaw} {L : Look} {T : Tb} {ds : List Df} {nms : List (List Str)} {C : List PV} {fuel n k : Nat} {q : Program} {loose : List Str} {XP : (Str → Option Value) → Heap → Prop} {d : DefRec} {y : Str} {a : DefA}
    (hk : ∀ j, j < T.fn.length → chkK L T ds nms fuel j = true) (hm : chkM L T C = true) (hn : l.most = some 63) (hdf : d.params.defaults = []) (hr : Room (n + 1) callerA)
    (hx : T.fn[k]? = some d.name) (ha : L.fn[k]? = some a) (hy : (defArgs a.st).args.map (·.arg) = [y])
    (plain : ∀ ns : List Int, ns.length ≤ 63 → ∃ S', fns ds C (n + 1) k [.ref 0] [.fro (ns.map .int)] = .ok (.bl true) S') :
    PySem.W.WalkO q loose XP L.hook.says l.row.toRowW d [] (fun f vs => PySem.call f vs) := by
  refine Att.attach_call hn hdf fun w s₀ s₁ mg mb fa o pm cd doc p vs ns Gr Y ho hd hcd hmg hobj hints hlen hg => ?_
  obtain ⟨K, KX, nl, c⟩ := Y
  have M : ∀ base : Heap, Md l.prog w K mg base (gxOf L T K) C T ds := fun base => md_of KX Gr.T.g c hk hm
  have q := hk k (List.getElem?_eq_some_iff.mp hx).1
  unfold chkK at q
  rw [nth_eq, hx, nth_eq, nth_eq, nth_eq, ha] at q
  split at q
  · rename_i x' d' N a' e1 e2 e3 e4
    cases e1
    cases e4
    obtain ⟨q1, q⟩ := and2 q
    obtain ⟨q2, q⟩ := and2 q
    obtain ⟨q3, q4⟩ := and2 q
    have ga : (gxOf L T K).fa k = a.fa := by
      show (match L.fn[k]? with | some a => a.fa | none => 0) = _
      rw [ha]
    obtain ⟨c1, c2, _⟩ := says_parts c
    obtain ⟨d1, d2⟩ := c2 a (List.mem_of_getElem? ha)
    have hw : DefW K ((gxOf L T K).fa k) (defArgs a.st).args (defBody a.st) (defScope a.st) := by rw [ga]; exact def_w d1 d2 q3
    obtain ⟨fd, hb, hF⟩ := fnok_at M n k hx e2 hw q4 hy
    have ef : fa = (gxOf L T K).fa k := by
      have := hmg.symm.trans ((M s₁.heap).fn k _ hx).2.1
      cases this
      rfl
    subst ef
    refine law_call KX Gr.T.g Gr.T.b Gr.T.builtins Gr.T.nolimit hg hobj hints (Nat.le_trans hlen (by decide)) hr (fun base _ _ => hF base) hb (fun H hO hS => ?_) fun H e s' hc => ?_
    · have hR : Rd H p (.lst (ns.map V.int)) := by
        rcases hS with hS | ⟨o', its, j, hK, hc, _⟩
        · exact hS
        · have z := nl p o' hK
          obtain ⟨oc, od, dt, osl⟩ := o'
          subst hc
          cases z
      obtain ⟨S', ep⟩ := plain ns hlen
      refine ⟨[.ref 0], [.fro (ns.map .int)], [p], ⟨rfl, by simp, fun j b cc h1 h2 => ?_⟩, .cons (.ref rfl) .nil, ?_⟩
      · cases j with
        | zero =>
          cases h1
          cases h2
          exact ⟨ns.map V.int, hR, RVs.ofInts ns⟩
        | succ j => simp at h1
      · rw [ep]
        intro m' H' _ _ x hx
        cases hx
        rfl
    · obtain ⟨_, _, _, _, _, _, _, _, _, _, _, _, z⟩ := hc
      exact z
  · cases q
end Ev

/-! EvLaw: the draws of the laws. -/
namespace Ev
open PySem PySem.Spec PyProof.Rows L2

def takeD : Df := ⟨2, 6, (.cons (.ifs (.cmp .gt (.ix (.v 0) (.int 0)) (.int 0)) (.cons (.asg (.n 2) (.bin .mod (.bi .int (.cons (.ix (.v 0) (.int 0)) .nil)) (.v 1)))
    (.cons (.asgI (.v 0) (.int 0) (.bin .fdiv (.ix (.v 0) (.int 0)) (.v 1)))
    (.cons (.ret (.v 2))
    .nil))) .nil)
    (.cons (.asgI (.v 0) (.int 2) (.bin .add (.ix (.v 0) (.int 2)) (.int 1)))
    (.cons (.asg (.n 3) (.bin .mod (.bi .int (.cons (.bin .mul (.bin .add (.ix (.v 0) (.int 1)) (.bin .mul (.int 48271) (.ix (.v 0) (.int 2)))) (.bin .add (.int 39373) (.ix (.v 0) (.int 2)))) .nil)) (.int 2147483647)))
    (.cons (.asg (.n 4) (.bin .add (.bin .mod (.bi .int (.cons (.v 3) .nil)) (.int 40009)) (.int 7)))
    (.cons (.asg (.n 5) (.bin .mod (.bi .int (.cons (.bin .mul (.bin .add (.bin .add (.v 3) (.ix (.v 0) (.int 2))) (.bin .fdiv (.ix (.v 0) (.int 1)) (.int 1000003))) (.v 4)) .nil)) (.int 2147483629)))
    (.cons (.ret (.bin .mod (.bi .int (.cons (.bin .fdiv (.bin .mod (.bi .int (.cons (.bin .add (.bin .mul (.v 5) (.int 48271)) (.v 3)) .nil)) (.int 2147483587)) (.int 64)) .nil)) (.v 1)))
    .nil))))))⟩
theorem fmod_nn {a n : Int} (h : 0 < n) : 0 ≤ a.fmod n := Int.fmod_nonneg_of_pos _ h
theorem fmod_lt {a n : Int} (h : 0 < n) : a.fmod n < n := Int.fmod_lt_of_pos _ h
theorem small64_of {i : Int} (h0 : 0 ≤ i) (h : i < 18446744073709551616) : small64 i = true := by
  cases i with
  | ofNat n => simp only [small64]; simp only [Int.ofNat_eq_natCast] at h; exact Nat.ble_eq_true_of_le (by omega)
  | negSucc n => omega
theorem small30_of {i : Int} (h0 : 0 ≤ i) (h : i < 1073741824) : small30 i = true := by
  cases i with
  | ofNat n => simp only [small30]; simp only [Int.ofNat_eq_natCast] at h; exact Nat.ble_eq_true_of_le (by omega)
  | negSucc n => omega
theorem iEq_ne {a b : Int} (h : a ≠ b) : iEq a b = false := by rw [iEq_eq]; exact decide_eq_false h
theorem iLt_t {a b : Int} (h : a < b) : iLt a b = true := by rw [iLt_eq]; exact decide_eq_true h
theorem iLt_f {a b : Int} (h : ¬ a < b) : iLt a b = false := by rw [iLt_eq]; exact decide_eq_false h
def onceT (b c : Int) : Int := ((b + 48271 * c) * (39373 + c)).fmod 2147483647
def twiceT (b c : Int) : Int := ((onceT b c + c + b.fdiv 1000003) * ((onceT b c).fmod 40009 + 7)).fmod 2147483629
/-- a mixed draw -/
def mixT (b c n : Int) : Int := (((twiceT b c * 48271 + onceT b c).fmod 2147483587).fdiv 64).fmod n
section
variable (F : Fn) (C : List PV)
theorem take_ok {S : Store} {j : Nat} {a b c n : Int} (hj : S[j]? = some (.lst [.int a, .int b, .int c])) (ha : 0 ≤ a) (hc : 0 ≤ c) (hc2 : c < 1000000000000) (hn : 0 < n) (hn2 : n < 1073741824) :
    ∃ r a' c', 0 ≤ r ∧ r < n ∧ 0 ≤ a' ∧ 0 ≤ c' ∧ c' ≤ c + 1 ∧ runD F C takeD [.ref j, .int n] S = .ok (.int r) (S.set j (.lst [.int a', .int b, .int c'])) := by
  have hjl : j < S.length := (List.getElem?_eq_some_iff.mp hj).1
  have hs : ∀ x : Cell, (S.set j x)[j]? = some x := fun x => List.getElem?_set_self hjl
  have n0 : iEq n 0 = false := iEq_ne (by omega)
  have n1 : small30 n = true := small30_of (by omega) hn2
  by_cases h : 0 < a
  · refine ⟨a.fmod n, a.fdiv n, c, fmod_nn hn, fmod_lt hn, Int.fdiv_nonneg ha (by omega), hc, by omega, ?_⟩
    simp [blt_t, runD, takeD, execs, exec, ev, evs, R.bnd, R.of, R.st, nth, index, items, hj, item, cmp, iLt_t h, frB_eq, bi, binop, n0, n1, frI_eq, frL_eq, setX, mat, setT, index1, setIx, place, repN]
  · have h0 : a = 0 := by omega
    subst h0
    refine ⟨mixT b (c + 1) n, 0, c + 1, fmod_nn hn, fmod_lt hn, by omega, by omega, by omega, ?_⟩
    · have m1 : small64 (39373 + (c + 1)) = true := small64_of (by omega) (by omega)
      have m2 : small64 48271 = true := rfl
      have e1 : iEq 2147483647 0 = false := rfl
      have e2 : iEq 40009 0 = false := rfl
      have e3 : iEq 2147483629 0 = false := rfl
      have e4 : iEq 1000003 0 = false := rfl
      have e5 : iEq 2147483587 0 = false := rfl
      have e6 : iEq 64 0 = false := rfl
      have s1 : small30 1000003 = true := rfl
      have s2 : small30 64 = true := rfl
      have m3 : ∀ z : Int, small64 ((z.fmod 2147483647).fmod 40009 + 7) = true := fun z => small64_of (by have := fmod_nn (a := z.fmod 2147483647) (n := 40009) (by omega); omega) (by have := fmod_lt (a := z.fmod 2147483647) (n := 40009) (by omega); omega)
      have z0 : iLt 0 0 = false := rfl
      simp [blt_t, runD, takeD, execs, exec, ev, evs, R.bnd, R.of, R.st, nth, index, items, hj, item, cmp, z0, frB_eq, bi, binop, n0, n1, frI_eq, frL_eq, setX, mat, setT, index1, setIx, place, repN, m1, m2, m3, e1, e2, e3, e4, e5, e6, s1, s2, hs]
      rfl
end
def boxD (c : Int) : Df := ⟨2, 3, (.cons (.asg (.n 2) (.ife (.cmp .lt (.v 1) (.bi .len (.cons (.v 0) .nil))) (.ix (.v 0) (.v 1)) (.int 0)))
    (.cons (.ret (.lst (.cons (.bin .mul (.bi .abs (.cons (.v 2) .nil)) (.bi .int (.cons (.cmp .ge (.bi .abs (.cons (.v 2) .nil)) (.bin .pow (.int 10) (.int 18))) .nil))) (.cons (.bin .add (.bin .add (.bin .mod (.bi .int (.cons (.v 2) .nil)) (.int 2305843009213693951)) (.bin .mul (.int 39373) (.v 1))) (.int c)) (.cons (.int 0) .nil)))))
    .nil))⟩
def cellsD : Df := ⟨2, 6, (.cons (.asg (.n 2) (.orL (.bi .list (.cons (.sl (.v 0) .none (.some (.v 1))) .nil)) (.lst (.cons (.int 0) .nil))))
    (.cons (.for_ (.cons (.n 3) (.cons (.n 4) .nil)) (.enum (.sl (.v 0) (.some (.v 1)) (.some (.int 63)))) (.cons (.asg (.n 5) (.bin .mod (.bi .int (.cons (.v 3) .nil)) (.v 1)))
    (.cons (.asgI (.v 2) (.v 5) (.bin .add (.ix (.v 2) (.v 5)) (.bin .mul (.v 4) (.bin .add (.v 3) (.int 2)))))
    .nil)))
    (.cons (.ret (.v 2))
    .nil)))⟩
theorem abs_eq (S : Store) (z : Int) : bi S .abs [.int z] = some (.int (z.natAbs : Int)) := by
  cases z with
  | ofNat n => rfl
  | negSucc n => rfl
section
variable (F : Fn) (C : List PV)
/-- how a box is filled -/
def boxL (c z k : Int) : List PV := [.int ((z.natAbs : Int) * (if iLt (z.natAbs : Int) 1000000000000000000 then 0 else 1)), .int (z.fmod 2305843009213693951 + 39373 * k + c), .int 0]
theorem box_tail (c z : Int) {k : Int} (a : PV) (hk : small64 k = true) (S : Store) : execs F C (.cons (.ret (.lst (.cons (.bin .mul (.bi .abs (.cons (.v 2) .nil)) (.bi .int (.cons (.cmp .ge (.bi .abs (.cons (.v 2) .nil)) (.bin .pow (.int 10) (.int 18))) .nil))) (.cons (.bin .add (.bin .add (.bin .mod (.bi .int (.cons (.v 2) .nil)) (.int 2305843009213693951)) (.bin .mul (.int 39373) (.v 1))) (.int c)) (.cons (.int 0) .nil)))))
    .nil) [some a, some (.int k), some (.int z)] S = .ok (.ret (.new (boxL c z k))) [some a, some (.int k), some (.int z)] S := by
  have e1 : iEq 2305843009213693951 0 = false := rfl
  have p1 : iLt 18 0 = false := rfl
  have p2 : iLt 1000000 18 = false := rfl
  have p3 : small64 10 = true := rfl
  have p4 : (10 : Int) ^ (18 : Int).toNat = 1000000000000000000 := rfl
  have m1 : small64 39373 = true := rfl
  have i1 : ∀ b : Bool, bi S .int [.bl b] = some (.int (match b with | true => 1 | false => 0)) := fun b => rfl
  have i2 : ∀ z : Int, bi S .int [.int z] = some (.int z) := fun z => rfl
  have m2 : small64 0 = true := rfl
  have m3 : small64 1 = true := rfl
  cases hz : iLt (z.natAbs : Int) 1000000000000000000 with
  | true => simp [execs, exec, ev, evs, R.bnd, R.of, R.st, nth, abs_eq, i1, i2, cmp, binop, frI_eq, frB_eq, e1, p1, p2, p3, p4, m1, m2, hz, mats, mat, okN, boxL]
  | false => simp [execs, exec, ev, evs, R.bnd, R.of, R.st, nth, abs_eq, i1, i2, cmp, binop, frI_eq, frB_eq, e1, p1, p2, p3, p4, m1, m3, hz, mats, mat, okN, boxL]
theorem seq_lst {S : Store} {j : Nat} {xs : List PV} (hj : S[j]? = some (.lst xs)) : seqL S (.ref j) = some xs := by simp [seqL, items, hj]
theorem box_ok (c : Int) {S : Store} {j k : Nat} {is : List Int} (hj : S[j]? = some (.lst (is.map .int))) (hk : k < 1000) :
    ∃ a b, 0 ≤ a ∧ runD F C (boxD c) [.ref j, .int (.ofNat k)] S = .ok (.new [.int a, .int b, .int 0]) S := by
  have hk2 : small64 (.ofNat k) = true := small64_of (Int.natCast_nonneg k) (by simp only [Int.ofNat_eq_natCast]; omega)
  have l1 : bi S .len [.ref j] = some (.int (.ofNat is.length)) := by simp [bi, seq_lst hj, frN_eq]
  have fin : ∀ z : Int, ∃ a b, 0 ≤ a ∧ boxL c z (.ofNat k) = [.int a, .int b, .int 0] := fun z => ⟨_, _, Int.mul_nonneg (Int.natCast_nonneg _) (by split <;> omega), rfl⟩
  by_cases h : k < is.length
  · have hi : index S (.ref j) (.int (.ofNat k)) = some (.int is[k]) := by simp [index, items, hj, item, nth_eq, h]
    have c1 : iLt (.ofNat k) (.ofNat is.length) = true := iLt_t (by simp only [Int.ofNat_eq_natCast]; omega)
    obtain ⟨a, b, h1, h2⟩ := fin is[k]
    refine ⟨a, b, h1, ?_⟩
    have key := box_tail F C c is[k] (k := .ofNat k) (.ref j) hk2 S
    rw [h2] at key
    have e0 : exec F C (.asg (.n 2) (.ife (.cmp .lt (.v 1) (.bi .len (.cons (.v 0) .nil))) (.ix (.v 0) (.v 1)) (.int 0))) [some (.ref j), some (.int (.ofNat k)), none] S = .ok .nx [some (.ref j), some (.int (.ofNat k)), some (.int is[k])] S := by
      simp only [exec, ev, evs, R.bnd, R.of, R.st, nth, l1, cmp, c1, frB_eq, pickIf, hi, setX, mat, setT]
      rfl
    unfold runD boxD
    dsimp only [List.length_cons, List.length_nil, List.map_cons, List.map_nil, repN, List.cons_append, List.nil_append]
    rw [execs, show (List.map some [PV.ref j, PV.int (Int.ofNat k)] ++ repN none (3 - 2)) = [some (.ref j), some (.int (.ofNat k)), none] from rfl, e0]
    dsimp only
    rw [key]
  · have c1 : iLt (.ofNat k) (.ofNat is.length) = false := iLt_f (by simp only [Int.ofNat_eq_natCast]; omega)
    obtain ⟨a, b, h1, h2⟩ := fin 0
    refine ⟨a, b, h1, ?_⟩
    have key := box_tail F C c 0 (k := .ofNat k) (.ref j) hk2 S
    rw [h2] at key
    have e0 : exec F C (.asg (.n 2) (.ife (.cmp .lt (.v 1) (.bi .len (.cons (.v 0) .nil))) (.ix (.v 0) (.v 1)) (.int 0))) [some (.ref j), some (.int (.ofNat k)), none] S = .ok .nx [some (.ref j), some (.int (.ofNat k)), some (.int 0)] S := by
      simp only [exec, ev, evs, R.bnd, R.of, R.st, nth, l1, cmp, c1, frB_eq, pickIf, setX, mat, setT]
      rfl
    unfold runD boxD
    dsimp only [List.length_cons, List.length_nil, List.map_cons, List.map_nil, repN, List.cons_append, List.nil_append]
    rw [execs, show (List.map some [PV.ref j, PV.int (Int.ofNat k)] ++ repN none (3 - 2)) = [some (.ref j), some (.int (.ofNat k)), none] from rfl, e0]
    dsimp only
    rw [key]
def cellsB : Ss := (.cons (.asg (.n 5) (.bin .mod (.bi .int (.cons (.v 3) .nil)) (.v 1)))
    (.cons (.asgI (.v 2) (.v 5) (.bin .add (.ix (.v 2) (.v 5)) (.bin .mul (.v 4) (.bin .add (.v 3) (.int 2)))))
    .nil))
theorem set_ints (is : List Int) (i : Nat) (z : Int) : (is.map PV.int).set i (.int z) = (is.set i z).map .int := by rw [List.map_set]
theorem cells_loop {m : Nat} (hm : 0 < m) (hm2 : m < 1000) {S : Store} {a : PV} : ∀ (zs : List Int) (i : Nat) (cs : List Int) (x y z : Option PV), cs.length = m → i + zs.length < 100000 →
    ∃ (cs' : List Int) (x' y' z' : Option PV), cs'.length = m ∧ fors (.cons (.n 3) (.cons (.n 4) .nil)) (execs F C cellsB) (enumL i (zs.map .int)) [some a, some (.int (.ofNat m)), some (.ref S.length), x, y, z] (S ++ [.lst (cs.map .int)]) =
      .ok .nx [some a, some (.int (.ofNat m)), some (.ref S.length), x', y', z'] (S ++ [.lst (cs'.map .int)])
  | [], i, cs, x, y, z, hl, _ => ⟨cs, x, y, z, hl, rfl⟩
  | b :: zs, i, cs, x, y, z, hl, hi => by
    have hi2 : i < 100000 := by simp only [List.length_cons] at hi; omega
    have n0 : iEq (.ofNat m) 0 = false := iEq_ne (by simp only [Int.ofNat_eq_natCast]; omega)
    have md : (Int.ofNat i).fmod (.ofNat m) = .ofNat (i % m) := by
      cases i with
      | zero => rw [Nat.zero_mod]; rfl
      | succ i => rfl
    have lt : i % m < m := Nat.mod_lt _ hm
    have at_ : (S ++ [Cell.lst (cs.map PV.int)])[S.length]? = some (.lst (cs.map .int)) := by simp
    have hx : index (S ++ [Cell.lst (cs.map PV.int)]) (.ref S.length) (.int (.ofNat (i % m))) = some (.int cs[i % m]) := by simp [index, items, item, nth_eq, hl, lt]
    have sm : small64 (Int.ofNat i + 2) = true := small64_of (by simp only [Int.ofNat_eq_natCast]; omega) (by simp only [Int.ofNat_eq_natCast]; omega)
    have st : ∀ v : Int, setIx (.ref S.length) (.int (.ofNat (i % m))) (.int v) (S ++ [.lst (cs.map .int)]) = some (S ++ [.lst ((cs.set (i % m) v).map .int)]) := fun v => by
      simp only [setIx, at_, place, List.length_map, hl, blt_t lt, frL_eq, set_ints]
      rw [List.set_append_right _ _ (Nat.le_refl _), Nat.sub_self]
      rfl
    obtain ⟨cs', x', y', z', h1, h2⟩ := cells_loop hm hm2 (S := S) (a := a) zs (i + 1) (cs.set (i % m) (cs[i % m] + b * (Int.ofNat i + 2))) (some (.int (.ofNat i))) (some (.int b)) (some (.int (.ofNat (i % m)))) (by rw [List.length_set, hl]) (by simp only [List.length_cons] at hi; omega)
    refine ⟨cs', x', y', z', h1, ?_⟩
    rw [List.map_cons, enumL, frN_eq, fors]
    have t1 : setT (.cons (.n 3) (.cons (.n 4) .nil)) (.tup false [.int (.ofNat i), .int b]) [some a, some (.int (.ofNat m)), some (.ref S.length), x, y, z] = some [some a, some (.int (.ofNat m)), some (.ref S.length), some (.int (.ofNat i)), some (.int b), z] := rfl
    rw [t1]
    dsimp only
    have b1 : execs F C cellsB [some a, some (.int (.ofNat m)), some (.ref S.length), some (.int (.ofNat i)), some (.int b), z] (S ++ [.lst (cs.map .int)]) =
        .ok .nx [some a, some (.int (.ofNat m)), some (.ref S.length), some (.int (.ofNat i)), some (.int b), some (.int (.ofNat (i % m)))] (S ++ [.lst ((cs.set (i % m) (cs[i % m] + b * (Int.ofNat i + 2))).map .int)]) := by
      have q1 : exec F C (.asg (.n 5) (.bin .mod (.bi .int (.cons (.v 3) .nil)) (.v 1))) [some a, some (.int (.ofNat m)), some (.ref S.length), some (.int (.ofNat i)), some (.int b), z] (S ++ [.lst (cs.map .int)]) = .ok .nx [some a, some (.int (.ofNat m)), some (.ref S.length), some (.int (.ofNat i)), some (.int b), some (.int (.ofNat (i % m)))] (S ++ [.lst (cs.map .int)]) := by
        have i2 : ∀ z : Int, bi (S ++ [Cell.lst (cs.map PV.int)]) .int [.int z] = some (.int z) := fun z => rfl
        simp only [exec, ev, evs, R.bnd, R.of, R.st, nth, i2, binop, n0, frI_eq, md, setX, mat]
        rfl
      have q2 : exec F C (.asgI (.v 2) (.v 5) (.bin .add (.ix (.v 2) (.v 5)) (.bin .mul (.v 4) (.bin .add (.v 3) (.int 2))))) [some a, some (.int (.ofNat m)), some (.ref S.length), some (.int (.ofNat i)), some (.int b), some (.int (.ofNat (i % m)))] (S ++ [.lst (cs.map .int)]) = .ok .nx [some a, some (.int (.ofNat m)), some (.ref S.length), some (.int (.ofNat i)), some (.int b), some (.int (.ofNat (i % m)))] (S ++ [.lst ((cs.set (i % m) (cs[i % m] + b * (Int.ofNat i + 2))).map .int)]) := by
        simp only [exec, ev, R.bnd, R.of, R.st, nth, binop, frI_eq, mat, hx, sm, Bool.or_true, st]
      rw [cellsB, execs, q1]
      dsimp only
      rw [execs, q2]
      rfl
    rw [b1]
    exact h2
theorem map_cut (ns : List Int) (lo hi : Option Int) : cut (ns.map PV.int) lo hi = (cut ns lo hi).map .int := by
  unfold cut
  rw [List.length_map, List.map_take, List.map_drop]
theorem cells_ok {S : Store} {j m : Nat} {ns : List Int} (hj : S[j]? = some (.fro (ns.map .int))) (hm : 0 < m) (hm2 : m < 1000) (hn : ns.length < 10000) :
    ∃ cs : List Int, 0 < cs.length ∧ cs.length ≤ m ∧ runD F C cellsD [.ref j, .int (.ofNat m)] S = .ok (.ref S.length) (S ++ [.lst (cs.map .int)]) := by
  have it : ∀ T : Store, items (S ++ T) (.ref j) = some (ns.map .int) := fun T => by
    have : (S ++ T)[j]? = some (.fro (ns.map .int)) := by rw [List.getElem?_append_left (List.getElem?_eq_some_iff.mp hj).1, hj]
    simp [items, this]
  have it0 : items S (.ref j) = some (ns.map .int) := by have := it []; rwa [List.append_nil] at this
  have c1 : cut ns none (some (.ofNat m)) = ns.take m := by
    simp only [cut, cutAt, List.drop_zero, Nat.sub_zero]
    show ns.take (min m ns.length) = _
    rcases Nat.le_total m ns.length with h | h
    · rw [Nat.min_eq_left h]
    · rw [Nat.min_eq_right h, List.take_length, List.take_of_length_le h]
  -- the first cells
  obtain ⟨c0, hc0, hc1, hc2, e0⟩ : ∃ c0 : List Int, 0 < c0.length ∧ c0.length ≤ m ∧ (m < ns.length → c0.length = m) ∧ exec F C (.asg (.n 2) (.orL (.bi .list (.cons (.sl (.v 0) .none (.some (.v 1))) .nil)) (.lst (.cons (.int 0) .nil)))) [some (.ref j), some (.int (.ofNat m)), none, none, none, none] S = .ok .nx [some (.ref j), some (.int (.ofNat m)), some (.ref S.length), none, none, none] (S ++ [.lst (c0.map .int)]) := by
    have sl : ev F C (.bi .list (.cons (.sl (.v 0) .none (.some (.v 1))) .nil)) [some (.ref j), some (.int (.ofNat m)), none, none, none, none] S = .ok (.new ((ns.take m).map .int)) S := by
      simp only [ev, evs, evp, R.bnd, R.of, nth, slice, it0, frL_eq, map_cut, c1]
      rfl
    cases hns : ns.take m with
    | nil =>
      refine ⟨[0], by simp, by simp only [List.length_cons, List.length_nil]; omega, fun z => ?_, ?_⟩
      · have := congrArg List.length hns
        rw [List.length_take, List.length_nil] at this
        omega
      · rw [hns] at sl
        rw [exec, ev, sl]
        rfl
    | cons a r =>
      have hl : (a :: r).length = min m ns.length := by rw [← hns, List.length_take]
      refine ⟨a :: r, by simp, by omega, fun z => by omega, ?_⟩
      rw [hns] at sl
      rw [exec, ev, sl]
      rfl
  have lp : ∃ cs : List Int, cs.length = c0.length ∧ ∃ fr', nth fr' 2 = some (some (.ref S.length)) ∧ exec F C (.for_ (.cons (.n 3) (.cons (.n 4) .nil)) (.enum (.sl (.v 0) (.some (.v 1)) (.some (.int 63)))) cellsB) [some (.ref j), some (.int (.ofNat m)), some (.ref S.length), none, none, none] (S ++ [.lst (c0.map .int)]) = .ok .nx fr' (S ++ [.lst (cs.map .int)]) := by
    have e1 : evi F C (.enum (.sl (.v 0) (.some (.v 1)) (.some (.int 63)))) [some (.ref j), some (.int (.ofNat m)), some (.ref S.length), none, none, none] (S ++ [.lst (c0.map .int)]) = .ok (enumL 0 ((cut ns (some (.ofNat m)) (some 63)).map .int), []) (S ++ [.lst (c0.map .int)]) := by
      simp only [evi, ev, evs, evp, R.bnd, R.of, nth, slice, it, frL_eq, map_cut, walk]
    rw [exec, e1]
    simp only [R.st, lock]
    cases hz : cut ns (some (.ofNat m)) (some 63) with
    | nil => exact ⟨c0, rfl, [some (.ref j), some (.int (.ofNat m)), some (.ref S.length), none, none, none], rfl, rfl⟩
    | cons b zs =>
      have hlen : m < ns.length := by
        have h := congrArg List.length hz
        simp only [cut, cutAt, List.length_take, List.length_drop, List.length_cons] at h
        have e : Nat.min m ns.length = min m ns.length := rfl
        rw [e] at h
        omega
      have hzl : (b :: zs).length ≤ ns.length := by
        rw [← hz]
        simp only [cut, List.length_take, List.length_drop]
        omega
      obtain ⟨cs', x', y', z', h1, h2⟩ := cells_loop F C hm hm2 (S := S) (a := .ref j) (b :: zs) 0 c0 none none none (hc2 hlen) (by omega)
      refine ⟨cs', by rw [h1, hc2 hlen], [some (.ref j), some (.int (.ofNat m)), some (.ref S.length), x', y', z'], rfl, ?_⟩
      rw [h2]
      rfl
  obtain ⟨cs, h1, fr', h3, h4⟩ := lp
  refine ⟨cs, by omega, by omega, ?_⟩
  unfold runD cellsD
  dsimp only [List.length_cons, List.length_nil]
  rw [execs, show (List.map some [PV.ref j, PV.int (Int.ofNat m)] ++ repN none (6 - 2)) = [some (.ref j), some (.int (.ofNat m)), none, none, none, none] from rfl, e0]
  dsimp only
  rw [execs, show exec F C (.for_ (.cons (.n 3) (.cons (.n 4) .nil)) (.enum (.sl (.v 0) (.some (.v 1)) (.some (.int 63)))) (.cons (.asg (.n 5) (.bin .mod (.bi .int (.cons (.v 3) .nil)) (.v 1))) (.cons (.asgI (.v 2) (.v 5) (.bin .add (.ix (.v 2) (.v 5)) (.bin .mul (.v 4) (.bin .add (.v 3) (.int 2))))) .nil))) _ _ = _ from h4]
  dsimp only
  rw [execs, exec, ev, h3]
  rfl
end
/-! ### the first draw -/
def boxE (kb kc m : Nat) : E := .call kb (.cons (.call kc (.cons (.v 0) (.cons (.int (.ofNat m)) .nil))) (.cons (.int (.ofNat 0)) .nil))
theorem boxE_ok {ds : List Df} {C : List PV} {n kb kc m : Nat} {c : Int} (hb : nth ds kb = some (boxD c)) (hc : nth ds kc = some cellsD) (hm : 0 < m) (hm2 : m < 1000) {ns : List Int} (hn : ns.length ≤ 63) {fr : Fr} :
    ∃ (cs : List Int) (a b : Int), 0 ≤ a ∧ ev (fns ds C (n + 1)) C (boxE kb kc m) (some (.ref 0) :: fr) [.fro (ns.map .int)] = .ok (.new [.int a, .int b, .int 0]) [.fro (ns.map .int), .lst (cs.map .int)] := by
  obtain ⟨cs, _, _, h⟩ := cells_ok (fns ds C n) C (S := [.fro (ns.map .int)]) (j := 0) rfl hm hm2 (by omega : ns.length < 10000)
  obtain ⟨a, b, ha, h2⟩ := box_ok (fns ds C n) C c (S := [.fro (ns.map .int), .lst (cs.map .int)]) (j := 1) (k := 0) (is := cs) rfl (by omega)
  refine ⟨cs, a, b, ha, ?_⟩
  have e1 : callF (fns ds C (n + 1)) kc [.ref 0, .int (.ofNat m)] [.fro (ns.map .int)] = .ok (.ref 1) [.fro (ns.map .int), .lst (cs.map .int)] := by
    show fns ds C (n + 1) kc [.ref 0, .int (.ofNat m)] [.fro (ns.map .int)] = _
    rw [fns, hc]
    exact h
  have e2 : callF (fns ds C (n + 1)) kb [.ref 1, .int (.ofNat 0)] [.fro (ns.map .int), .lst (cs.map .int)] = .ok (.new [.int a, .int b, .int 0]) [.fro (ns.map .int), .lst (cs.map .int)] := by
    show fns ds C (n + 1) kb [.ref 1, .int (.ofNat 0)] [.fro (ns.map .int), .lst (cs.map .int)] = _
    rw [fns, hb]
    exact h2
  simp only [boxE, ev, evs, R.bnd, nth, e1, e2]
/-- a draw from a fresh box -/
theorem drawE_ok {ds : List Df} {C : List PV} {n kt kb kc m : Nat} {c w : Int} (ht : nth ds kt = some takeD) (hb : nth ds kb = some (boxD c)) (hc : nth ds kc = some cellsD) (hm : 0 < m) (hm2 : m < 1000) (hw : 0 < w) (hw2 : w < 1073741824) {ns : List Int} (hn : ns.length ≤ 63) {fr : Fr} :
    ∃ (cs : List Int) (p : Int), 0 ≤ p ∧ p < w ∧ ev (fns ds C (n + 1)) C (.call kt (.cons (boxE kb kc m) (.cons (.int w) .nil))) (some (.ref 0) :: fr) [.fro (ns.map .int)] = .ok (.int p) [.fro (ns.map .int), .lst (cs.map .int)] := by
  obtain ⟨cs, a, b, ha, h⟩ := boxE_ok (n := n) (C := C) (fr := fr) hb hc hm hm2 hn
  obtain ⟨p, a', c', h1, h2, _, _, _, h3⟩ := take_ok (fns ds C n) C (S := [.lst [.int a, .int b, .int 0]]) (j := 0) rfl ha (by omega) (by omega) hw hw2
  refine ⟨cs, p, h1, h2, ?_⟩
  have e1 : callF (fns ds C (n + 1)) kt [.new [.int a, .int b, .int 0], .int w] [.fro (ns.map .int), .lst (cs.map .int)] = .ok (.int p) [.fro (ns.map .int), .lst (cs.map .int)] := by
    show (match fns ds C (n + 1) kt [.ref 0, .int w] [.lst [.int a, .int b, .int 0]] with
      | .ok v S' => R.of [.fro (ns.map .int), .lst (cs.map .int)] (handed S' v)
      | .exc c _ => .exc c [.fro (ns.map .int), .lst (cs.map .int)]
      | .stk => .stk) = _
    rw [fns, ht]
    dsimp only
    rw [h3]
    rfl
  rw [ev, evs, h]
  simp only [evs, ev, R.bnd]
  exact e1
end Ev

namespace Pg
open Ev PySem PySem.Spec PyProof.Rows L2
def d0 : Df := ⟨1, 1, (.cons (.ret (.and (.isi [.int] (.v 0)) (.not (.isi [.bool] (.v 0)))))
    .nil)⟩
def d1 : Df := ⟨2, 2, (.cons (.ret (.and (.call 0 (.cons (.v 0) .nil)) (.cmp .ge (.v 0) (.v 1))))
    .nil)⟩
def d2 : Df := ⟨3, 3, (.cons (.ret (.and (.call 0 (.cons (.v 0) .nil)) (.chn .le .le (.v 1) (.v 0) (.v 2))))
    .nil)⟩
def d3 : Df := ⟨2, 2, (.cons (.ret (.and (.isi [.tuple] (.v 0)) (.cmp .eq (.bi .len (.cons (.v 0) .nil)) (.v 1))))
    .nil)⟩
def d4 : Df := ⟨1, 2, (.cons (.ret (.ife (.isi [.list, .tuple] (.v 0)) (.bi .tupleF (.cons (.comp [1] (.n 1) (.e (.v 0)) .none (.call 4 (.cons (.v 1) .nil))) .nil)) (.v 0)))
    .nil)⟩
def d5 : Df := ⟨1, 2, (.cons (.ret (.and (.isi [.tuple] (.v 0)) (.bi .all (.cons (.comp [1] (.n 1) (.e (.v 0)) .none (.call 0 (.cons (.v 1) .nil))) .nil))))
    .nil)⟩
def d6 : Df := ⟨1, 1, (.cons (.ifs (.or (.not (.call 3 (.cons (.v 0) (.cons (.int 2) .nil)))) (.or (.not (.call 0 (.cons (.ix (.v 0) (.int 0)) .nil))) (.not (.call 1 (.cons (.ix (.v 0) (.int 1)) (.cons (.int 1) .nil)))))) (.cons (.ret (.bl false))
    .nil) .nil)
    (.cons (.ret (.cmp .eq (.bi .gcd (.cons (.ix (.v 0) (.int 0)) (.cons (.ix (.v 0) (.int 1)) .nil))) (.int 1)))
    .nil))⟩
def d7 : Df := ⟨1, 2, (.cons (.asg (.n 1) (.call 4 (.cons (.v 0) .nil)))
    (.cons (.ifs (.not (.call 6 (.cons (.v 1) .nil))) (.cons (.raise 1)
    .nil) .nil)
    (.cons (.ret (.v 1))
    .nil)))⟩
def d8 : Df := ⟨2, 3, (.cons (.asg (.n 2) (.bi .gcd (.cons (.v 0) (.cons (.v 1) .nil))))
    (.cons (.ret (.ife (.cmp .gt (.v 1) (.int 0)) (.tupF (.cons (.bin .fdiv (.v 0) (.v 2)) (.cons (.bin .fdiv (.v 1) (.v 2)) .nil))) (.tupF (.cons (.bin .fdiv (.neg (.v 0)) (.v 2)) (.cons (.bin .fdiv (.neg (.v 1)) (.v 2)) .nil)))))
    .nil))⟩
def d9 : Df := ⟨2, 2, (.cons (.ret (.tupF (.cons (.call 7 (.cons (.v 0) .nil)) (.cons (.call 7 (.cons (.v 1) .nil)) .nil))))
    .nil)⟩
def d10 : Df := ⟨1, 3, (.cons (.asg (.cons (.n 1) (.cons (.n 2) .nil)) (.call 7 (.cons (.v 0) .nil)))
    (.cons (.ret (.tupF (.cons (.neg (.v 1)) (.cons (.v 2) .nil))))
    .nil))⟩
def d11 : Df := ⟨2, 6, (.cons (.asg (.cons (.cons (.n 2) (.cons (.n 3) .nil)) (.cons (.cons (.n 4) (.cons (.n 5) .nil)) .nil)) (.call 9 (.cons (.v 0) (.cons (.v 1) .nil))))
    (.cons (.ret (.bin .sub (.bi .int (.cons (.cmp .gt (.bin .mul (.v 2) (.v 5)) (.bin .mul (.v 4) (.v 3))) .nil)) (.bi .int (.cons (.cmp .lt (.bin .mul (.v 2) (.v 5)) (.bin .mul (.v 4) (.v 3))) .nil))))
    .nil))⟩
def d12 : Df := ⟨2, 2, (.cons (.ret (.cmp .lt (.call 11 (.cons (.v 0) (.cons (.v 1) .nil))) (.int 0)))
    .nil)⟩
def d13 : Df := ⟨2, 2, (.cons (.ret (.bin .fdiv (.bin .mul (.ix (.v 0) (.int 0)) (.v 1)) (.ix (.v 0) (.int 1))))
    .nil)⟩
def d14 : Df := ⟨2, 2, (.cons (.ret (.neg (.bin .fdiv (.bin .mul (.neg (.ix (.v 0) (.int 0))) (.v 1)) (.ix (.v 0) (.int 1)))))
    .nil)⟩
def d15 : Df := ⟨1, 3, (.cons (.asg (.n 1) (.int 1))
    (.cons (.for_ (.n 2) (.e (.v 0)) (.cons (.asg (.n 1) (.bin .fdiv (.bin .mul (.v 1) (.v 2)) (.bi .gcd (.cons (.v 1) (.cons (.v 2) .nil)))))
    .nil))
    (.cons (.ret (.v 1))
    .nil)))⟩
def d16 : Df := ⟨1, 5, (.cons (.asg (.n 1) (.call 4 (.cons (.v 0) .nil)))
    (.cons (.ifs (.or (.not (.isi [.tuple] (.v 1))) (.not (.bi .all (.cons (.comp [2] (.n 2) (.e (.v 1)) .none (.call 6 (.cons (.v 2) .nil))) .nil)))) (.cons (.raise 1)
    .nil) .nil)
    (.cons (.ret (.call 15 (.cons (.comp [3, 4] (.cons (.n 3) (.cons (.n 4) .nil)) (.e (.v 1)) .none (.v 4)) .nil)))
    .nil)))⟩
def d17 : Df := ⟨1, 4, (.cons (.ifs (.or (.not (.isi [.tuple] (.v 0))) (.or (.cmp .eq (.bi .len (.cons (.v 0) .nil)) (.int 0)) (.not (.bi .all (.cons (.comp [1] (.n 1) (.e (.v 0)) .none (.call 0 (.cons (.v 1) .nil))) .nil))))) (.cons (.ret (.bl false))
    .nil) .nil)
    (.cons (.ifs (.not (.bi .all (.cons (.comp [2, 3] (.cons (.n 2) (.cons (.n 3) .nil)) (.zip (.v 0) (.sl (.v 0) (.some (.int 1)) .none)) .none (.cmp .le (.v 2) (.v 3))) .nil))) (.cons (.ret (.bl false))
    .nil) .nil)
    (.cons (.ret (.cmp .le (.ix (.v 0) (.neg (.int 1))) (.bin .add (.ix (.v 0) (.int 0)) (.bi .len (.cons (.v 0) .nil)))))
    .nil)))⟩
def d18 : Df := ⟨1, 2, (.cons (.asg (.n 1) (.call 4 (.cons (.v 0) .nil)))
    (.cons (.ifs (.not (.call 17 (.cons (.v 1) .nil))) (.cons (.raise 1)
    .nil) .nil)
    (.cons (.ret (.v 1))
    .nil)))⟩
def d19 : Df := ⟨1, 2, (.cons (.ifs (.or (.not (.isi [.tuple] (.v 0))) (.or (.cmp .eq (.bi .len (.cons (.v 0) .nil)) (.int 0)) (.not (.bi .all (.cons (.comp [1] (.n 1) (.e (.v 0)) .none (.call 17 (.cons (.v 1) .nil))) .nil))))) (.cons (.ret (.bl false))
    .nil) .nil)
    (.cons (.ret (.bi .all (.cons (.comp [1] (.n 1) (.e (.v 0)) .none (.cmp .eq (.bi .len (.cons (.v 1) .nil)) (.bi .len (.cons (.ix (.v 0) (.int 0)) .nil)))) .nil)))
    .nil))⟩
def d20 : Df := ⟨1, 2, (.cons (.asg (.n 1) (.call 4 (.cons (.v 0) .nil)))
    (.cons (.ifs (.not (.call 19 (.cons (.v 1) .nil))) (.cons (.raise 1)
    .nil) .nil)
    (.cons (.ret (.v 1))
    .nil)))⟩
def d21 : Df := ⟨2, 4, (.cons (.asg (.cons (.n 2) (.cons (.n 3) .nil)) (.bi .divmod (.cons (.v 1) (.cons (.bi .len (.cons (.v 0) .nil)) .nil))))
    (.cons (.ret (.bin .add (.ix (.v 0) (.v 3)) (.bin .mul (.v 2) (.bi .len (.cons (.v 0) .nil)))))
    .nil))⟩
def d22 : Df := ⟨2, 3, (.cons (.ret (.bi .tupleF (.cons (.comp [2] (.n 2) (.rng (.cons (.v 0) .nil)) .none (.bin .add (.v 1) (.v 2))) .nil)))
    .nil)⟩
def d23 : Df := ⟨1, 2, (.cons (.asg (.n 1) (.call 18 (.cons (.v 0) .nil)))
    (.cons (.ret (.cmp .eq (.v 1) (.call 22 (.cons (.bi .len (.cons (.v 1) .nil)) (.cons (.ix (.v 1) (.int 0)) .nil)))))
    .nil))⟩
def d24 : Df := ⟨2, 3, (.cons (.ret (.bi .tupleF (.cons (.comp [2] (.n 2) (.e (.v 1)) .none (.call 21 (.cons (.v 0) (.cons (.v 2) .nil)))) .nil)))
    .nil)⟩
def d25 : Df := ⟨1, 3, (.cons (.asg (.n 1) (.ix (.v 0) (.neg (.int 1))))
    (.cons (.for_ (.n 2) (.e (.dwn (.v 0) (.some (.neg (.int 2))))) (.cons (.asg (.n 1) (.call 24 (.cons (.v 2) (.cons (.v 1) .nil))))
    .nil))
    (.cons (.ret (.v 1))
    .nil)))⟩
def d26 : Df := ⟨2, 5, (.cons (.asg (.n 2) (.call 18 (.cons (.v 0) .nil)))
    (.cons (.par 3 4 (.call 22 (.cons (.bi .len (.cons (.v 2) .nil)) (.cons (.int 0) .nil))) (.v 1))
    (.cons (.whl (.cmp .gt (.v 4) (.int 0)) (.cons (.ifs (.cmp .eq (.bin .mod (.v 4) (.int 2)) (.int 1)) (.cons (.asg (.n 3) (.call 24 (.cons (.v 2) (.cons (.v 3) .nil))))
    .nil) .nil)
    (.cons (.par 2 4 (.call 24 (.cons (.v 2) (.cons (.v 2) .nil))) (.bin .fdiv (.v 4) (.int 2)))
    .nil)))
    (.cons (.ret (.v 3))
    .nil))))⟩
def d27 : Df := ⟨2, 4, (.cons (.asg (.n 2) (.call 18 (.cons (.v 0) .nil)))
    (.cons (.ret (.bi .tupleF (.cons (.comp [3] (.n 3) (.rng (.cons (.bi .len (.cons (.v 2) .nil)) .nil)) .none (.bin .sub (.call 21 (.cons (.v 2) (.cons (.bin .add (.v 3) (.v 1)) .nil))) (.v 1))) .nil)))
    .nil))⟩
def d28 : Df := ⟨3, 3, (.cons (.ret (.bin .add (.ix (.v 0) (.bin .mod (.v 2) (.bi .len (.cons (.v 0) .nil)))) (.bin .mul (.bin .fdiv (.v 2) (.bi .len (.cons (.v 0) .nil))) (.v 1))))
    .nil)⟩
def d29 : Df := ⟨3, 5, (.cons (.asg (.n 3) (.bin .mul (.bin .fdiv (.v 2) (.v 1)) (.bi .len (.cons (.v 0) .nil))))
    (.cons (.ret (.bin .sub (.bin .add (.v 3) (.bi .len (.cons (.comp [4] (.n 4) (.e (.v 0)) (.some (.cmp .le (.v 4) (.bin .mod (.v 2) (.v 1)))) (.v 4)) .nil))) (.int 1)))
    .nil))⟩
def d30 : Df := ⟨3, 5, (.cons (.asg (.n 3) (.bin .mul (.bin .fdiv (.v 2) (.v 1)) (.bi .len (.cons (.v 0) .nil))))
    (.cons (.ret (.bin .add (.v 3) (.bi .len (.cons (.comp [4] (.n 4) (.e (.v 0)) (.some (.cmp .lt (.v 4) (.bin .mod (.v 2) (.v 1)))) (.v 4)) .nil))))
    .nil))⟩
def d31 : Df := ⟨3, 4, (.cons (.ret (.bi .tupleF (.cons (.comp [3] (.n 3) (.rng (.cons (.v 2) .nil)) .none (.call 28 (.cons (.v 0) (.cons (.v 2) (.cons (.bin .add (.call 30 (.cons (.v 0) (.cons (.v 2) (.cons (.v 3) .nil)))) (.v 1)) .nil))))) .nil)))
    .nil)⟩
def d32 : Df := ⟨1, 2, (.cons (.ret (.and (.isi [.tuple] (.v 0)) (.and (.cmp .gt (.bi .len (.cons (.v 0) .nil)) (.int 0)) (.bi .all (.cons (.comp [1] (.n 1) (.e (.v 0)) .none (.call 6 (.cons (.v 1) .nil))) .nil)))))
    .nil)⟩
def d33 : Df := ⟨1, 2, (.cons (.asg (.n 1) (.call 4 (.cons (.v 0) .nil)))
    (.cons (.ifs (.not (.call 32 (.cons (.v 1) .nil))) (.cons (.raise 1)
    .nil) .nil)
    (.cons (.ret (.v 1))
    .nil)))⟩
def d34 : Df := ⟨1, 2, (.cons (.asg (.n 1) (.call 33 (.cons (.v 0) .nil)))
    (.cons (.ifs (.cmp .gt (.call 16 (.cons (.v 1) .nil)) (.g 0)) (.cons (.raise 0)
    .nil) .nil)
    (.cons (.ret (.v 1))
    .nil)))⟩
def d35 : Df := ⟨2, 3, (.cons (.ret (.call 8 (.cons (.bin .sub (.bin .add (.bi .sum (.cons (.comp [2] (.n 2) (.e (.v 0)) .none (.call 13 (.cons (.v 2) (.cons (.v 1) .nil)))) .nil)) (.bi .len (.cons (.v 0) .nil))) (.int 1)) (.cons (.v 1) .nil))))
    .nil)⟩
def d36 : Df := ⟨1, 6, (.cons (.par 1 2 (.lst .nil) .non)
    (.cons (.for_ (.n 3) (.rng (.cons (.int 1) (.cons (.bin .add (.call 16 (.cons (.v 0) .nil)) (.int 1)) .nil))) (.cons (.asg (.n 4) (.call 35 (.cons (.v 0) (.cons (.v 3) .nil))))
    (.cons (.asg (.n 5) (.ife (.cmp .is (.v 2) .non) (.int 1) (.call 11 (.cons (.v 4) (.cons (.v 2) .nil)))))
    (.cons (.ifs (.cmp .gt (.v 5) (.int 0)) (.cons (.par 1 2 (.lst (.cons (.v 3) .nil)) (.v 4))
    .nil) (.cons (.ifs (.cmp .eq (.v 5) (.int 0)) (.cons (.ex (.mth .append (.v 1) (.cons (.v 3) .nil)))
    .nil) .nil)
    .nil))
    .nil))))
    (.cons (.ret (.bi .tupleF (.cons (.v 1) .nil)))
    .nil)))⟩
def d37 : Df := ⟨1, 1, (.cons (.ret (.call 35 (.cons (.v 0) (.cons (.ix (.call 36 (.cons (.v 0) .nil)) (.int 0)) .nil))))
    .nil)⟩
def d38 : Df := ⟨1, 1, (.cons (.ret (.call 37 (.cons (.call 34 (.cons (.v 0) .nil)) .nil)))
    .nil)⟩
def d39 : Df := ⟨1, 1, (.cons (.ifs (.not (.call 0 (.cons (.v 0) .nil))) (.cons (.raise 1)
    .nil) .nil)
    (.cons (.ret (.v 0))
    .nil))⟩
def d40 : Df := ⟨2, 2, (.cons (.ifs (.not (.call 1 (.cons (.v 0) (.cons (.v 1) .nil)))) (.cons (.raise 1)
    .nil) .nil)
    (.cons (.ret (.v 0))
    .nil))⟩
def d41 : Df := ⟨1, 8, (.cons (.asg (.n 1) (.comp [2] (.n 2) (.e (.v 0)) .none (.bin .mod (.v 2) (.bi .len (.cons (.v 0) .nil)))))
    (.cons (.asg (.n 3) (.bin .mul (.lst (.cons (.int 0) .nil)) (.bi .len (.cons (.v 0) .nil))))
    (.cons (.for_ (.n 4) (.e (.v 1)) (.cons (.augI (.v 3) (.v 4) .add (.int 1))
    .nil))
    (.cons (.asg (.n 5) (.comp [6, 7] (.cons (.n 6) (.cons (.n 7) .nil)) (.enum (.v 3)) (.some (.cmp .eq (.v 7) (.int 0))) (.v 6)))
    (.cons (.whl (.cmp .gt (.bi .len (.cons (.v 5) .nil)) (.int 0)) (.cons (.asg (.n 4) (.ix (.v 1) (.mth .pop (.v 5) .nil)))
    (.cons (.augI (.v 3) (.v 4) .sub (.int 1))
    (.cons (.ifs (.cmp .eq (.ix (.v 3) (.v 4)) (.int 0)) (.cons (.ex (.mth .append (.v 5) (.cons (.v 4) .nil)))
    .nil) .nil)
    .nil))))
    (.cons (.ret (.comp [6, 7] (.cons (.n 6) (.cons (.n 7) .nil)) (.enum (.v 3)) (.some (.cmp .gt (.v 7) (.int 0))) (.v 6)))
    .nil))))))⟩
def d42 : Df := ⟨1, 4, (.cons (.asg (.n 1) (.ix (.call 41 (.cons (.v 0) .nil)) (.int 0)))
    (.cons (.par 2 3 (.call 21 (.cons (.v 0) (.cons (.v 1) .nil))) (.int 1))
    (.cons (.whl (.cmp .ne (.bin .mod (.v 2) (.bi .len (.cons (.v 0) .nil))) (.v 1)) (.cons (.par 2 3 (.call 21 (.cons (.v 0) (.cons (.v 2) .nil))) (.bin .add (.v 3) (.int 1)))
    .nil))
    (.cons (.ret (.tupF (.cons (.v 1) (.cons (.v 3) (.cons (.bin .fdiv (.bin .sub (.v 2) (.v 1)) (.bi .len (.cons (.v 0) .nil))) .nil)))))
    .nil))))⟩
def d43 : Df := ⟨1, 1, (.cons (.ret (.call 42 (.cons (.call 18 (.cons (.v 0) .nil)) .nil)))
    .nil)⟩
def d44 : Df := ⟨2, 4, (.cons (.asg (.n 2) (.call 43 (.cons (.v 0) .nil)))
    (.cons (.ret (.and (.isi [.tuple] (.v 1)) (.and (.bi .all (.cons (.comp [3] (.n 3) (.e (.v 1)) .none (.call 0 (.cons (.v 3) .nil))) .nil)) (.cmp .eq (.v 1) (.v 2)))))
    .nil))⟩
def d45 : Df := ⟨1, 5, (.cons (.asg (.cons (.n 1) (.cons (.n 2) (.cons (.n 3) .nil))) (.call 42 (.cons (.v 0) .nil)))
    (.cons (.asg (.n 4) (.bi .gcd (.cons (.v 2) (.cons (.v 3) .nil))))
    (.cons (.ret (.tupF (.cons (.bin .fdiv (.v 3) (.v 4)) (.cons (.bin .fdiv (.v 2) (.v 4)) .nil))))
    .nil)))⟩
def d46 : Df := ⟨1, 1, (.cons (.ret (.call 45 (.cons (.call 18 (.cons (.v 0) .nil)) .nil)))
    .nil)⟩
def d47 : Df := ⟨3, 7, (.cons (.asg (.cons (.n 3) (.cons (.n 4) (.cons (.n 5) .nil))) (.call 42 (.cons (.v 0) .nil)))
    (.cons (.asg (.n 6) (.bi .min2 (.cons (.v 2) (.cons (.bi .len (.cons (.v 0) .nil)) .nil))))
    (.cons (.for_ (.n 3) (.rng (.cons (.v 6) .nil)) (.cons (.asg (.n 1) (.call 21 (.cons (.v 0) (.cons (.v 1) .nil))))
    .nil))
    (.cons (.asg (.n 1) (.bin .add (.v 1) (.bin .mul (.bin .mul (.bin .fdiv (.bin .sub (.v 2) (.v 6)) (.v 4)) (.v 5)) (.bi .len (.cons (.v 0) .nil)))))
    (.cons (.for_ (.n 3) (.rng (.cons (.bin .mod (.bin .sub (.v 2) (.v 6)) (.v 4)) .nil)) (.cons (.asg (.n 1) (.call 21 (.cons (.v 0) (.cons (.v 1) .nil))))
    .nil))
    (.cons (.ret (.v 1))
    .nil))))))⟩
def d48 : Df := ⟨4, 8, (.cons (.ifs (.or (.not (.call 3 (.cons (.v 2) (.cons (.int 2) .nil)))) (.or (.not (.call 1 (.cons (.ix (.v 2) (.int 1)) (.cons (.int 1) .nil)))) (.not (.call 17 (.cons (.ix (.v 2) (.int 0)) .nil))))) (.cons (.ret (.bl false))
    .nil) .nil)
    (.cons (.asg (.cons (.n 4) (.cons (.n 5) .nil)) (.v 2))
    (.cons (.ifs (.or (.cmp .ne (.bi .len (.cons (.v 4) .nil)) (.bin .mul (.v 5) (.bi .len (.cons (.v 0) .nil)))) (.cmp .ne (.call 45 (.cons (.v 4) .nil)) (.v 1))) (.cons (.ret (.bl false))
    .nil) .nil)
    (.cons (.ret (.bi .all (.cons (.comp [6, 7] (.cons (.n 6) (.cons (.n 7) .nil)) (.enum (.v 0)) .none (.cmp .ge (.bin .mul (.v 3) (.call 21 (.cons (.v 4) (.cons (.bin .mul (.v 5) (.v 6)) .nil)))) (.bin .mul (.bin .mul (.v 3) (.v 5)) (.v 7)))) .nil)))
    .nil))))⟩
def d49 : Df := ⟨3, 4, (.cons (.asg (.n 3) (.call 18 (.cons (.v 0) .nil)))
    (.cons (.ret (.call 48 (.cons (.v 3) (.cons (.call 7 (.cons (.v 1) .nil)) (.cons (.v 2) (.cons (.int 1) .nil))))))
    .nil))⟩
def d50 : Df := ⟨3, 4, (.cons (.asg (.n 3) (.call 18 (.cons (.v 0) .nil)))
    (.cons (.ret (.call 48 (.cons (.v 3) (.cons (.call 7 (.cons (.v 1) .nil)) (.cons (.v 2) (.cons (.neg (.int 1)) .nil))))))
    .nil))⟩
def d51 : Df := ⟨3, 5, (.cons (.ifs (.or (.not (.call 19 (.cons (.v 1) .nil))) (.cmp .ne (.bi .len (.cons (.v 1) .nil)) (.bi .len (.cons (.v 0) .nil)))) (.cons (.ret (.bl false))
    .nil) .nil)
    (.cons (.ifs (.bi .any (.cons (.comp [3, 4] (.cons (.n 3) (.cons (.n 4) .nil)) (.zip (.v 1) (.v 0)) .none (.cmp .ne (.call 45 (.cons (.v 3) .nil)) (.v 4))) .nil)) (.cons (.ret (.bl false))
    .nil) .nil)
    (.cons (.ret (.cmp .eq (.call 45 (.cons (.call 25 (.cons (.v 1) .nil)) .nil)) (.v 2)))
    .nil)))⟩
def d52 : Df := ⟨2, 3, (.cons (.asg (.n 2) (.call 34 (.cons (.v 0) .nil)))
    (.cons (.ret (.call 51 (.cons (.v 2) (.cons (.v 1) (.cons (.call 37 (.cons (.v 2) .nil)) .nil)))))
    .nil))⟩
def d53 : Df := ⟨2, 4, (.cons (.asg (.n 2) (.call 34 (.cons (.v 0) .nil)))
    (.cons (.ret (.call 51 (.cons (.v 2) (.cons (.v 1) (.cons (.call 10 (.cons (.call 37 (.cons (.bi .tupleF (.cons (.comp [3] (.n 3) (.e (.v 2)) .none (.call 10 (.cons (.v 3) .nil))) .nil)) .nil)) .nil)) .nil)))))
    .nil))⟩
def d54 : Df := ⟨1, 2, (.cons (.ifs (.or (.not (.isi [.tuple] (.v 0))) (.or (.cmp .eq (.bi .len (.cons (.v 0) .nil)) (.int 0)) (.not (.bi .all (.cons (.comp [1] (.n 1) (.e (.v 0)) .none (.call 1 (.cons (.v 1) (.cons (.int 0) .nil)))) .nil))))) (.cons (.ret (.bl false))
    .nil) .nil)
    (.cons (.ret (.cmp .eq (.bi .lenset (.cons (.v 0) .nil)) (.bin .add (.bi .max (.cons (.v 0) .nil)) (.int 1))))
    .nil))⟩
def d55 : Df := ⟨1, 2, (.cons (.asg (.n 1) (.call 4 (.cons (.v 0) .nil)))
    (.cons (.ifs (.not (.call 54 (.cons (.v 1) .nil))) (.cons (.raise 1)
    .nil) .nil)
    (.cons (.ret (.v 1))
    .nil)))⟩
def d56 : Df := ⟨2, 2, (.cons (.ifs (.cmp .ne (.bi .len (.cons (.v 0) .nil)) (.bin .add (.bi .max (.cons (.v 1) .nil)) (.int 1))) (.cons (.raise 1)
    .nil) .nil)
    .nil)⟩
def d57 : Df := ⟨2, 3, (.cons (.ret (.call 25 (.cons (.bi .tupleF (.cons (.comp [2] (.n 2) (.e (.v 1)) .none (.ix (.v 0) (.v 2))) .nil)) .nil)))
    .nil)⟩
def d58 : Df := ⟨2, 4, (.cons (.par 2 3 (.call 20 (.cons (.v 0) .nil)) (.call 55 (.cons (.v 1) .nil)))
    (.cons (.ex (.call 56 (.cons (.v 2) (.cons (.v 3) .nil))))
    (.cons (.ret (.tupF (.cons (.v 2) (.cons (.v 3) .nil))))
    .nil)))⟩
def d59 : Df := ⟨2, 4, (.cons (.asg (.cons (.n 2) (.cons (.n 3) .nil)) (.call 58 (.cons (.v 0) (.cons (.v 1) .nil))))
    (.cons (.ret (.call 57 (.cons (.v 2) (.cons (.v 3) .nil))))
    .nil))⟩
def d60 : Df := ⟨2, 3, (.cons (.asg (.n 2) (.bin .mod (.v 1) (.bi .len (.cons (.v 0) .nil))))
    (.cons (.ret (.bin .add (.sl (.v 0) (.some (.v 2)) .none) (.sl (.v 0) .none (.some (.v 2)))))
    .nil))⟩
def d61 : Df := ⟨1, 2, (.cons (.ret (.bi .min (.cons (.comp [1] (.n 1) (.rng (.cons (.bi .len (.cons (.v 0) .nil)) .nil)) .none (.call 60 (.cons (.v 0) (.cons (.v 1) .nil)))) .nil)))
    .nil)⟩
def d62 : Df := ⟨1, 1, (.cons (.ret (.call 54 (.cons (.v 0) .nil)))
    .nil)⟩
def d63 : Df := ⟨2, 4, (.cons (.asg (.n 2) (.call 4 (.cons (.v 0) .nil)))
    (.cons (.ifs (.or (.not (.isi [.tuple] (.v 2))) (.or (.cmp .eq (.bi .len (.cons (.v 2) .nil)) (.int 0)) (.not (.bi .all (.cons (.comp [3] (.n 3) (.e (.v 2)) .none (.call 0 (.cons (.v 3) .nil))) .nil))))) (.cons (.raise 1)
    .nil) .nil)
    (.cons (.ifs (.and (.cmp .isnot (.v 1) .non) (.not (.bi .all (.cons (.comp [3] (.n 3) (.e (.v 2)) .none (.call 1 (.cons (.v 3) (.cons (.v 1) .nil)))) .nil)))) (.cons (.raise 1)
    .nil) .nil)
    (.cons (.ret (.v 2))
    .nil))))⟩
def d64 : Df := ⟨2, 4, (.cons (.par 2 3 (.call 55 (.cons (.v 0) .nil)) (.call 63 (.cons (.v 1) (.cons .non .nil))))
    (.cons (.ifs (.cmp .ne (.bin .add (.bi .max (.cons (.v 2) .nil)) (.int 1)) (.bi .len (.cons (.v 3) .nil))) (.cons (.raise 1)
    .nil) .nil)
    (.cons (.ret (.tupF (.cons (.v 2) (.cons (.v 3) .nil))))
    .nil)))⟩
def d65 : Df := ⟨1, 3, (.cons (.asg (.n 1) (.bi .fact (.cons (.bi .sum (.cons (.v 0) .nil)) .nil)))
    (.cons (.for_ (.n 2) (.e (.v 0)) (.cons (.asg (.n 1) (.bin .fdiv (.v 1) (.bi .fact (.cons (.v 2) .nil))))
    .nil))
    (.cons (.ret (.v 1))
    .nil)))⟩
def d66 : Df := ⟨1, 7, (.cons (.ifs (.cmp .gt (.call 65 (.cons (.v 0) .nil)) (.g 1)) (.cons (.raise 0)
    .nil) .nil)
    (.cons (.asg (.n 1) (.lst (.cons (.tupF .nil) .nil)))
    (.cons (.for_ (.n 2) (.rng (.cons (.bi .sum (.cons (.v 0) .nil)) .nil)) (.cons (.asg (.n 3) (.lst .nil))
    (.cons (.for_ (.n 4) (.e (.v 1)) (.cons (.ex (.mth .extend (.v 3) (.cons (.comp [5, 6] (.cons (.n 5) (.cons (.n 6) .nil)) (.enum (.v 0)) (.some (.cmp .lt (.cnt (.v 4) (.v 5)) (.v 6))) (.tupF (.star (.v 4) (.cons (.v 5) .nil)))) .nil)))
    .nil))
    (.cons (.asg (.n 1) (.v 3))
    .nil))))
    (.cons (.ret (.comp [4] (.n 4) (.e (.v 1)) (.some (.cmp .eq (.v 4) (.call 61 (.cons (.v 4) .nil)))) (.v 4)))
    .nil))))⟩
def d67 : Df := ⟨2, 8, (.cons (.asg (.n 2) (.lst .nil))
    (.cons (.for_ (.cons (.n 3) (.cons (.n 4) .nil)) (.enum (.v 1)) (.cons (.asg (.n 5) (.bi .tupleF (.cons (.comp [6, 7] (.cons (.n 6) (.cons (.n 7) .nil)) (.enum (.v 0)) (.some (.cmp .eq (.v 7) (.v 3))) (.v 6)) .nil)))
    (.cons (.ex (.mth .append (.v 2) (.cons (.call 31 (.cons (.v 5) (.cons (.v 4) (.cons (.bi .len (.cons (.v 0) .nil)) .nil)))) .nil)))
    .nil)))
    (.cons (.ret (.bi .tupleF (.cons (.v 2) .nil)))
    .nil)))⟩
def d68 : Df := ⟨2, 4, (.cons (.asg (.cons (.n 2) (.cons (.n 3) .nil)) (.call 64 (.cons (.v 0) (.cons (.v 1) .nil))))
    (.cons (.ret (.call 67 (.cons (.v 2) (.cons (.v 3) .nil))))
    .nil))⟩
def d69 : Df := ⟨3, 3, (.cons (.ret (.call 57 (.cons (.call 67 (.cons (.v 1) (.cons (.v 2) .nil))) (.cons (.v 0) .nil))))
    .nil)⟩
def d70 : Df := ⟨2, 4, (.cons (.par 2 3 (.call 55 (.cons (.v 0) .nil)) (.call 33 (.cons (.v 1) .nil)))
    (.cons (.ifs (.cmp .ne (.bin .add (.bi .max (.cons (.v 2) .nil)) (.int 1)) (.bi .len (.cons (.v 3) .nil))) (.cons (.raise 1)
    .nil) .nil)
    (.cons (.ret (.tupF (.cons (.v 2) (.cons (.v 3) .nil))))
    .nil)))⟩
def d71 : Df := ⟨2, 7, (.cons (.asg (.n 2) (.bi .tupleF (.cons (.comp [3, 4] (.cons (.n 3) (.cons (.n 4) .nil)) (.e (.v 1)) .none (.v 3)) .nil)))
    (.cons (.ret (.comp [5] (.n 5) (.e (.call 66 (.cons (.bi .tupleF (.cons (.comp [4, 6] (.cons (.n 4) (.cons (.n 6) .nil)) (.e (.v 1)) .none (.v 6)) .nil)) .nil))) .none (.tupF (.cons (.v 5) (.cons (.call 69 (.cons (.v 0) (.cons (.v 5) (.cons (.v 2) .nil)))) .nil)))))
    .nil))⟩
def d72 : Df := ⟨2, 7, (.cons (.asg (.cons (.n 2) (.cons (.n 3) .nil)) (.tupF (.cons .non (.cons .non .nil))))
    (.cons (.for_ (.cons (.n 4) (.cons (.n 5) .nil)) (.e (.call 71 (.cons (.v 0) (.cons (.v 1) .nil)))) (.cons (.asg (.n 6) (.call 45 (.cons (.v 5) .nil)))
    (.cons (.ifs (.or (.cmp .is (.v 2) .non) (.cmp .gt (.call 11 (.cons (.v 6) (.cons (.v 2) .nil))) (.int 0))) (.cons (.par 2 3 (.v 6) (.v 4))
    .nil) .nil)
    .nil)))
    (.cons (.ret (.tupF (.cons (.v 2) (.cons (.v 3) .nil))))
    .nil)))⟩
def d73 : Df := ⟨2, 4, (.cons (.asg (.cons (.n 2) (.cons (.n 3) .nil)) (.call 70 (.cons (.v 0) (.cons (.v 1) .nil))))
    (.cons (.ret (.ix (.call 72 (.cons (.v 2) (.cons (.v 3) .nil))) (.int 0)))
    .nil))⟩
def d74 : Df := ⟨3, 6, (.cons (.asg (.n 3) (.lst .nil))
    (.cons (.for_ (.cons (.n 4) (.cons (.n 5) .nil)) (.e (.call 71 (.cons (.v 0) (.cons (.v 1) .nil)))) (.cons (.ifs (.cmp .ge (.call 11 (.cons (.call 45 (.cons (.v 5) .nil)) (.cons (.v 2) .nil))) (.int 0)) (.cons (.ret .non)
    .nil) .nil)
    (.cons (.ex (.mth .append (.v 3) (.cons (.tupF (.cons (.v 4) (.cons (.call 42 (.cons (.v 5) .nil)) .nil))) .nil)))
    .nil)))
    (.cons (.ret (.bi .tupleF (.cons (.v 3) .nil)))
    .nil)))⟩
def d75 : Df := ⟨3, 6, (.cons (.par 3 4 (.call 55 (.cons (.v 0) .nil)) (.call 33 (.cons (.v 1) .nil)))
    (.cons (.asg (.n 5) (.call 7 (.cons (.v 2) .nil)))
    (.cons (.ifs (.cmp .ne (.bin .add (.bi .max (.cons (.v 3) .nil)) (.int 1)) (.bi .len (.cons (.v 4) .nil))) (.cons (.raise 1)
    .nil) .nil)
    (.cons (.ret (.tupF (.cons (.v 3) (.cons (.v 4) (.cons (.v 5) .nil)))))
    .nil))))⟩
def d76 : Df := ⟨2, 4, (.cons (.ifs (.and (.isi [.tuple] (.v 0)) (.isi [.tuple] (.v 1))) (.cons (.ret (.and (.cmp .eq (.bi .len (.cons (.v 0) .nil)) (.bi .len (.cons (.v 1) .nil))) (.bi .all (.cons (.comp [2, 3] (.cons (.n 2) (.cons (.n 3) .nil)) (.zip (.v 0) (.v 1)) .none (.call 76 (.cons (.v 2) (.cons (.v 3) .nil)))) .nil))))
    .nil) .nil)
    (.cons (.ret (.and (.call 0 (.cons (.v 0) .nil)) (.and (.call 0 (.cons (.v 1) .nil)) (.cmp .eq (.v 0) (.v 1)))))
    .nil))⟩
def d77 : Df := ⟨4, 8, (.cons (.asg (.cons (.n 4) (.cons (.n 5) (.cons (.n 6) .nil))) (.call 75 (.cons (.v 0) (.cons (.v 1) (.cons (.v 2) .nil)))))
    (.cons (.asg (.n 7) (.call 74 (.cons (.v 4) (.cons (.v 5) (.cons (.v 6) .nil)))))
    (.cons (.ret (.and (.cmp .isnot (.v 7) .non) (.call 76 (.cons (.v 3) (.cons (.v 7) .nil)))))
    .nil)))⟩
def d78 : Df := ⟨2, 3, (.cons (.asg (.n 2) (.call 4 (.cons (.v 0) .nil)))
    (.cons (.ifs (.not (.calv 1 (.cons (.v 2) .nil))) (.cons (.raise 1)
    .nil) .nil)
    (.cons (.ret (.v 2))
    .nil)))⟩
def d79 : Df := ⟨2, 4, (.cons (.par 2 3 (.call 78 (.cons (.v 0) (.cons (.f 17) .nil))) (.call 78 (.cons (.v 1) (.cons (.f 17) .nil))))
    (.cons (.ifs (.cmp .ne (.bi .len (.cons (.v 2) .nil)) (.bi .len (.cons (.v 3) .nil))) (.cons (.raise 1)
    .nil) .nil)
    (.cons (.ret (.tupF (.cons (.v 2) (.cons (.v 3) .nil))))
    .nil)))⟩
def d80 : Df := ⟨1, 1, (.cons (.ret (.and (.call 3 (.cons (.v 0) (.cons (.int 2) .nil))) (.and (.call 1 (.cons (.ix (.v 0) (.int 0)) (.cons (.int 0) .nil))) (.and (.call 0 (.cons (.ix (.v 0) (.int 1)) .nil)) (.cmp .in_ (.ix (.v 0) (.int 1)) (.g 2))))))
    .nil)⟩
def d81 : Df := ⟨1, 2, (.cons (.ret (.and (.isi [.tuple] (.v 0)) (.bi .all (.cons (.comp [1] (.n 1) (.e (.v 0)) .none (.call 80 (.cons (.v 1) .nil))) .nil))))
    .nil)⟩
def d82 : Df := ⟨2, 6, (.cons (.asg (.cons (.n 2) (.cons (.n 3) .nil)) (.call 79 (.cons (.v 0) (.cons (.v 1) .nil))))
    (.cons (.ret (.bi .tupleF (.cons (.comp [4, 5] (.cons (.n 4) (.cons (.n 5) .nil)) (.zip (.v 2) (.v 3)) .none (.bi .max2 (.cons (.v 4) (.cons (.v 5) .nil)))) .nil)))
    .nil))⟩
def d83 : Df := ⟨2, 4, (.cons (.asg (.cons (.n 2) (.cons (.n 3) .nil)) (.v 1))
    (.cons (.ifs (.cmp .ge (.v 2) (.bi .len (.cons (.v 0) .nil))) (.cons (.ret (.bl false))
    .nil) .nil)
    (.cons (.ifs (.cmp .gt (.v 3) (.int 0)) (.cons (.ret (.cmp .lt (.ix (.v 0) (.v 2)) (.ife (.cmp .lt (.bin .add (.v 2) (.int 1)) (.bi .len (.cons (.v 0) .nil))) (.ix (.v 0) (.bin .add (.v 2) (.int 1))) (.bin .add (.ix (.v 0) (.int 0)) (.bi .len (.cons (.v 0) .nil))))))
    .nil) .nil)
    (.cons (.ret (.cmp .gt (.ix (.v 0) (.v 2)) (.ife (.cmp .gt (.v 2) (.int 0)) (.ix (.v 0) (.bin .sub (.v 2) (.int 1))) (.bin .sub (.ix (.v 0) (.neg (.int 1))) (.bi .len (.cons (.v 0) .nil))))))
    .nil))))⟩
def d84 : Df := ⟨2, 4, (.cons (.asg (.cons (.n 2) (.cons (.n 3) .nil)) (.v 1))
    (.cons (.ret (.bin .add (.bin .add (.sl (.v 0) .none (.some (.v 2))) (.tupF (.cons (.bin .add (.ix (.v 0) (.v 2)) (.v 3)) .nil))) (.sl (.v 0) (.some (.bin .add (.v 2) (.int 1))) .none)))
    .nil))⟩
def d85 : Df := ⟨1, 4, (.cons (.asg (.n 1) (.call 78 (.cons (.v 0) (.cons (.f 17) .nil))))
    (.cons (.ret (.bi .tupleF (.cons (.comp2 [2, 3] (.n 2) (.rng (.cons (.bi .len (.cons (.v 1) .nil)) .nil)) .none [3] (.n 3) (.e (.bi .sorted (.cons (.g 2) .nil))) (.some (.call 83 (.cons (.v 1) (.cons (.tupF (.cons (.v 2) (.cons (.v 3) .nil))) .nil)))) (.tupF (.cons (.v 2) (.cons (.v 3) .nil)))) .nil)))
    .nil))⟩
def d86 : Df := ⟨2, 4, (.cons (.ret (.bi .sum (.cons (.comp [2, 3] (.cons (.n 2) (.cons (.n 3) .nil)) (.zip (.v 0) (.v 1)) .none (.bi .abs (.cons (.bin .sub (.v 2) (.v 3)) .nil))) .nil)))
    .nil)⟩
def d87 : Df := ⟨2, 4, (.cons (.ifs (.not (.call 81 (.cons (.v 1) .nil))) (.cons (.ret .non)
    .nil) .nil)
    (.cons (.asg (.n 2) (.v 0))
    (.cons (.for_ (.n 3) (.e (.v 1)) (.cons (.ifs (.cmp .notin (.v 3) (.call 85 (.cons (.v 2) .nil))) (.cons (.ret .non)
    .nil) .nil)
    (.cons (.asg (.n 2) (.call 84 (.cons (.v 2) (.cons (.v 3) .nil))))
    .nil)))
    (.cons (.ret (.v 2))
    .nil))))⟩
def d88 : Df := ⟨3, 5, (.cons (.asg (.cons (.n 3) (.cons (.n 4) .nil)) (.call 79 (.cons (.v 0) (.cons (.v 1) .nil))))
    (.cons (.ret (.and (.cmp .eq (.call 87 (.cons (.v 3) (.cons (.v 2) .nil))) (.v 4)) (.cmp .eq (.bi .len (.cons (.v 2) .nil)) (.call 86 (.cons (.v 3) (.cons (.v 4) .nil))))))
    .nil))⟩
def d89 : Df := ⟨3, 9, (.cons (.par3 3 4 5 (.lst .nil) (.bi .len (.cons (.v 0) .nil)) (.neg (.int 1)))
    (.cons (.for_ (.n 6) (.rng (.cons (.v 2) .nil)) (.cons (.whl (.and (.cmp .lt (.bin .add (.v 5) (.int 1)) (.v 4)) (.cmp .le (.ix (.v 0) (.bin .add (.v 5) (.int 1))) (.v 6))) (.cons (.aug 5 .add (.int 1))
    .nil))
    (.cons (.asg (.cons (.n 7) (.cons (.n 8) .nil)) (.bi .divmod (.cons (.bin .add (.v 5) (.v 1)) (.cons (.v 4) .nil))))
    (.cons (.ex (.mth .append (.v 3) (.cons (.bin .add (.ix (.v 0) (.v 8)) (.bin .mul (.v 7) (.v 2))) .nil)))
    .nil))))
    (.cons (.ret (.bi .tupleF (.cons (.v 3) .nil)))
    .nil)))⟩
def d90 : Df := ⟨2, 6, (.cons (.asg (.n 2) (.lst (.cons (.tupF .nil) .nil)))
    (.cons (.for_ (.n 3) (.rng (.cons (.v 0) .nil)) (.cons (.asg (.n 2) (.comp2 [4, 5] (.n 4) (.e (.v 2)) .none [5] (.n 5) (.rng (.cons (.ife (.cmp .ne (.v 4) (.tupF .nil)) (.ix (.v 4) (.neg (.int 1))) (.int 0)) (.cons (.v 1) .nil))) .none (.bin .add (.v 4) (.tupF (.cons (.v 5) .nil)))))
    .nil))
    (.cons (.ret (.v 2))
    .nil)))⟩
def d91 : Df := ⟨2, 4, (.cons (.par 2 3 (.call 78 (.cons (.v 0) (.cons (.f 17) .nil))) (.call 78 (.cons (.v 1) (.cons (.f 6) .nil))))
    (.cons (.ifs (.or (.cmp .gt (.bi .len (.cons (.v 2) .nil)) (.g 3)) (.cmp .gt (.ix (.v 3) (.int 1)) (.g 4))) (.cons (.raise 0)
    .nil) .nil)
    (.cons (.ret (.tupF (.cons (.v 2) (.cons (.v 3) .nil))))
    .nil)))⟩
def d92 : Df := ⟨2, 6, (.cons (.asg (.n 2) .non)
    (.cons (.for_ (.n 3) (.e (.call 90 (.cons (.ix (.v 1) (.int 1)) (.cons (.bi .len (.cons (.v 0) .nil)) .nil)))) (.cons (.asg (.n 4) (.call 82 (.cons (.v 0) (.cons (.call 89 (.cons (.v 3) (.cons (.ix (.v 1) (.int 0)) (.cons (.bi .len (.cons (.v 0) .nil)) .nil)))) .nil))))
    (.cons (.asg (.n 5) (.call 86 (.cons (.v 0) (.cons (.v 4) .nil))))
    (.cons (.ifs (.or (.cmp .is (.v 2) .non) (.cmp .lt (.v 5) (.ix (.v 2) (.int 0)))) (.cons (.asg (.n 2) (.tupF (.cons (.v 5) (.cons (.v 4) .nil))))
    .nil) .nil)
    .nil))))
    (.cons (.ret (.v 2))
    .nil)))⟩
def d93 : Df := ⟨3, 8, (.cons (.asg (.cons (.n 3) (.cons (.n 4) .nil)) (.call 91 (.cons (.v 0) (.cons (.v 1) .nil))))
    (.cons (.asg (.n 5) (.call 87 (.cons (.v 3) (.cons (.v 2) .nil))))
    (.cons (.ifs (.or (.cmp .is (.v 5) .non) (.cmp .ne (.bi .len (.cons (.v 2) .nil)) (.ix (.call 92 (.cons (.v 3) (.cons (.v 4) .nil))) (.int 0)))) (.cons (.ret (.bl false))
    .nil) .nil)
    (.cons (.asg (.cons (.n 6) (.cons (.n 7) .nil)) (.call 46 (.cons (.v 5) .nil)))
    (.cons (.ret (.cmp .ge (.bin .mul (.v 6) (.ix (.v 4) (.int 1))) (.bin .mul (.ix (.v 4) (.int 0)) (.v 7))))
    .nil)))))⟩
def d94 : Df := ⟨3, 3, (.cons (.ifs (.or (.not (.call 54 (.cons (.v 0) .nil))) (.or (.not (.call 32 (.cons (.v 1) .nil))) (.not (.call 6 (.cons (.v 2) .nil))))) (.cons (.ret (.bl false))
    .nil) .nil)
    (.cons (.ret (.cmp .eq (.bi .len (.cons (.v 1) .nil)) (.bin .add (.bi .max (.cons (.v 0) .nil)) (.int 1))))
    .nil))⟩
def d95 : Df := ⟨3, 3, (.cons (.ret (.and (.call 17 (.cons (.v 0) .nil)) (.and (.call 17 (.cons (.v 1) .nil)) (.and (.cmp .eq (.bi .len (.cons (.v 0) .nil)) (.bi .len (.cons (.v 1) .nil))) (.call 1 (.cons (.v 2) (.cons (.int 0) .nil)))))))
    .nil)⟩
def d96 : Df := ⟨1, 3, (.cons (.ifs (.or (.not (.isi [.tuple] (.v 0))) (.or (.cmp .eq (.bi .len (.cons (.v 0) .nil)) (.int 0)) (.not (.isi [.str] (.ix (.v 0) (.int 0)))))) (.cons (.ret (.bl false))
    .nil) .nil)
    (.cons (.par 1 2 (.ix (.v 0) (.int 0)) (.sl (.v 0) (.some (.int 1)) .none))
    (.cons (.ifs (.cmp .ne (.gget 6 (.v 1)) (.bi .len (.cons (.v 0) .nil))) (.cons (.ret (.bl false))
    .nil) .nil)
    (.cons (.ifs (.cmp .eq (.v 1) (.str "train")) (.cons (.ret (.and (.call 19 (.cons (.ix (.v 2) (.int 0)) .nil)) (.call 6 (.cons (.ix (.v 2) (.int 1)) .nil))))
    .nil) .nil)
    (.cons (.ifs (.cmp .eq (.v 1) (.str "most")) (.cons (.ret (.and (.call 32 (.cons (.ix (.v 2) (.int 0)) .nil)) (.call 6 (.cons (.ix (.v 2) (.int 1)) .nil))))
    .nil) .nil)
    (.cons (.ret (.ife (.cmp .eq (.v 1) (.str "word")) (.call 94 (.star (.v 2) .nil)) (.call 95 (.star (.v 2) .nil))))
    .nil))))))⟩
def d97 : Df := ⟨1, 2, (.cons (.asg (.n 1) (.call 4 (.cons (.v 0) .nil)))
    (.cons (.ifs (.not (.call 96 (.cons (.v 1) .nil))) (.cons (.raise 1)
    .nil) .nil)
    (.cons (.ret (.tupF (.cons (.ix (.v 1) (.int 0)) (.cons (.sl (.v 1) (.some (.int 1)) .none) .nil))))
    .nil)))⟩
def d98 : Df := ⟨2, 4, (.cons (.ret (.bi .tupleF (.cons (.comp [2, 3] (.cons (.n 2) (.cons (.n 3) .nil)) (.zip (.v 0) (.v 1)) .none (.bin .sub (.v 3) (.v 2))) .nil)))
    .nil)⟩
def d99 : Df := ⟨2, 3, (.cons (.ret (.bi .sum (.cons (.comp [2] (.n 2) (.e (.call 98 (.cons (.v 0) (.cons (.v 1) .nil)))) .none (.bi .abs (.cons (.v 2) .nil))) .nil)))
    .nil)⟩
def d100 : Df := ⟨1, 3, (.cons (.asg (.cons (.n 1) (.cons (.n 2) .nil)) (.call 97 (.cons (.v 0) .nil)))
    (.cons (.ifs (.cmp .eq (.v 1) (.str "train")) (.cons (.ret (.cmp .le (.call 11 (.cons (.call 45 (.cons (.call 25 (.cons (.ix (.v 2) (.int 0)) .nil)) .nil)) (.cons (.ix (.v 2) (.int 1)) .nil))) (.int 0)))
    .nil) .nil)
    (.cons (.ifs (.cmp .eq (.v 1) (.str "most")) (.cons (.ret (.cmp .le (.call 11 (.cons (.call 38 (.cons (.ix (.v 2) (.int 0)) .nil)) (.cons (.ix (.v 2) (.int 1)) .nil))) (.int 0)))
    .nil) .nil)
    (.cons (.ifs (.cmp .eq (.v 1) (.str "word")) (.cons (.ret (.cmp .lt (.call 11 (.cons (.call 73 (.cons (.ix (.v 2) (.int 0)) (.cons (.ix (.v 2) (.int 1)) .nil))) (.cons (.ix (.v 2) (.int 2)) .nil))) (.int 0)))
    .nil) .nil)
    (.cons (.ret (.cmp .le (.call 99 (.cons (.ix (.v 2) (.int 0)) (.cons (.ix (.v 2) (.int 1)) .nil))) (.ix (.v 2) (.int 2))))
    .nil)))))⟩
def d101 : Df := ⟨2, 3, (.cons (.ifs (.or (.not (.call 3 (.cons (.v 1) (.cons (.int 3) .nil)))) (.not (.bi .all (.cons (.comp [2] (.n 2) (.e (.v 1)) .none (.call 0 (.cons (.v 2) .nil))) .nil)))) (.cons (.ret (.bl false))
    .nil) .nil)
    (.cons (.ret (.and (.call 2 (.cons (.ix (.v 1) (.int 0)) (.cons (.int 0) (.cons (.bin .sub (.bi .len (.cons (.ix (.v 0) (.int 0)) .nil)) (.int 1)) .nil)))) (.cmp .ge (.ix (.v 1) (.int 1)) (.int 1))))
    .nil))⟩
def d102 : Df := ⟨2, 3, (.cons (.asg (.n 2) (.call 25 (.cons (.v 0) .nil)))
    (.cons (.ret (.bin .sub (.bin .sub (.call 47 (.cons (.v 2) (.cons (.ix (.v 1) (.int 0)) (.cons (.ix (.v 1) (.int 1)) .nil)))) (.ix (.v 1) (.int 0))) (.bin .mul (.ix (.v 1) (.int 2)) (.bi .len (.cons (.v 2) .nil)))))
    .nil))⟩
def d103 : Df := ⟨2, 2, (.cons (.ret (.cmp .gt (.bin .mul (.ix (.v 0) (.int 2)) (.ix (.v 1) (.int 1))) (.bin .mul (.ix (.v 1) (.int 0)) (.ix (.v 0) (.int 1)))))
    .nil)⟩
def d104 : Df := ⟨2, 4, (.cons (.ifs (.or (.not (.call 19 (.cons (.v 0) .nil))) (.cmp .ne (.bi .len (.cons (.v 0) .nil)) (.bi .len (.cons (.v 1) .nil)))) (.cons (.ret (.bl false))
    .nil) .nil)
    (.cons (.ret (.bi .all (.cons (.comp [2, 3] (.cons (.n 2) (.cons (.n 3) .nil)) (.zip (.v 0) (.v 1)) .none (.cmp .eq (.call 45 (.cons (.v 2) .nil)) (.v 3))) .nil)))
    .nil))⟩
def d105 : Df := ⟨2, 5, (.cons (.asg (.cons (.n 2) (.cons (.n 3) .nil)) (.call 97 (.cons (.v 0) .nil)))
    (.cons (.ifs (.call 100 (.cons (.v 0) .nil)) (.cons (.ret (.bl false))
    .nil) .nil)
    (.cons (.ifs (.cmp .eq (.v 2) (.str "train")) (.cons (.ret (.and (.call 101 (.cons (.ix (.v 3) (.int 0)) (.cons (.v 1) .nil))) (.and (.call 103 (.cons (.v 1) (.cons (.ix (.v 3) (.int 1)) .nil))) (.cmp .ge (.call 102 (.cons (.ix (.v 3) (.int 0)) (.cons (.v 1) .nil))) (.int 0)))))
    .nil) .nil)
    (.cons (.ifs (.cmp .eq (.v 2) (.str "most")) (.cons (.ret (.and (.call 104 (.cons (.v 1) (.cons (.ix (.v 3) (.int 0)) .nil))) (.cmp .gt (.call 11 (.cons (.call 45 (.cons (.call 25 (.cons (.v 1) .nil)) .nil)) (.cons (.ix (.v 3) (.int 1)) .nil))) (.int 0))))
    .nil) .nil)
    (.cons (.ifs (.cmp .eq (.v 2) (.str "word")) (.cons (.ret (.and (.call 104 (.cons (.v 1) (.cons (.ix (.v 3) (.int 1)) .nil))) (.cmp .ge (.call 11 (.cons (.call 45 (.cons (.call 59 (.cons (.v 1) (.cons (.ix (.v 3) (.int 0)) .nil))) .nil)) (.cons (.ix (.v 3) (.int 2)) .nil))) (.int 0))))
    .nil) .nil)
    (.cons (.ifs (.or (.not (.call 3 (.cons (.v 1) (.cons (.bi .len (.cons (.ix (.v 3) (.int 0)) .nil)) .nil)))) (.not (.bi .all (.cons (.comp [4] (.n 4) (.e (.v 1)) .none (.call 0 (.cons (.v 4) .nil))) .nil)))) (.cons (.ret (.bl false))
    .nil) .nil)
    (.cons (.ret (.cmp .eq (.v 1) (.call 98 (.cons (.ix (.v 3) (.int 0)) (.cons (.ix (.v 3) (.int 1)) .nil)))))
    .nil)))))))⟩
def d106 : Df := ⟨1, 4, (.cons (.asg (.n 1) (.call 16 (.cons (.v 0) .nil)))
    (.cons (.ret (.bi .tupleF (.cons (.comp [3] (.n 3) (.rng (.cons (.int 1) (.cons (.bin .add (.v 1) (.int 1)) .nil))) .none (.bin .sub (.bin .add (.bi .sum (.cons (.comp [2] (.n 2) (.e (.v 0)) .none (.call 13 (.cons (.v 2) (.cons (.v 3) .nil)))) .nil)) (.bi .len (.cons (.v 0) .nil))) (.int 1))) .nil)))
    .nil))⟩
def d107 : Df := ⟨4, 6, (.cons (.ifs (.or (.not (.isi [.tuple] (.v 3))) (.cmp .gt (.bi .len (.cons (.v 3) .nil)) (.v 2))) (.cons (.ret (.bl false))
    .nil) .nil)
    (.cons (.asg (.n 4) (.v 0))
    (.cons (.for_ (.n 5) (.e (.v 3)) (.cons (.ifs (.or (.not (.call 3 (.cons (.v 5) (.cons (.int 2) .nil)))) (.or (.not (.call 2 (.cons (.ix (.v 5) (.int 0)) (.cons (.int 0) (.cons (.bin .sub (.bi .len (.cons (.v 0) .nil)) (.int 1)) .nil))))) (.not (.call 0 (.cons (.ix (.v 5) (.int 1)) .nil))))) (.cons (.ret (.bl false))
    .nil) .nil)
    (.cons (.asg (.n 4) (.bin .add (.bin .add (.sl (.v 4) .none (.some (.ix (.v 5) (.int 0)))) (.tupF (.cons (.bin .add (.ix (.v 4) (.ix (.v 5) (.int 0))) (.ix (.v 5) (.int 1))) .nil))) (.sl (.v 4) (.some (.bin .add (.ix (.v 5) (.int 0)) (.int 1))) .none)))
    (.cons (.ifs (.or (.cmp .notin (.ix (.v 5) (.int 1)) (.tupF (.cons (.int 1) (.cons (.neg (.int 1)) .nil)))) (.not (.call 17 (.cons (.v 4) .nil)))) (.cons (.ret (.bl false))
    .nil) .nil)
    .nil))))
    (.cons (.ret (.cmp .eq (.v 4) (.v 1)))
    .nil))))⟩
def d108 : Df := ⟨2, 5, (.cons (.asg (.cons (.n 2) (.cons (.n 3) .nil)) (.call 97 (.cons (.v 0) .nil)))
    (.cons (.ifs (.not (.call 100 (.cons (.v 0) .nil))) (.cons (.ret (.bl false))
    .nil) .nil)
    (.cons (.ifs (.cmp .eq (.v 2) (.str "train")) (.cons (.ret (.and (.call 101 (.cons (.ix (.v 3) (.int 0)) (.cons (.v 1) .nil))) (.and (.not (.call 103 (.cons (.v 1) (.cons (.ix (.v 3) (.int 1)) .nil)))) (.cmp .le (.call 102 (.cons (.ix (.v 3) (.int 0)) (.cons (.v 1) .nil))) (.int 0)))))
    .nil) .nil)
    (.cons (.ifs (.cmp .eq (.v 2) (.str "most")) (.cons (.ifs (.or (.not (.isi [.tuple] (.v 1))) (.not (.bi .all (.cons (.comp [4] (.n 4) (.e (.v 1)) .none (.call 0 (.cons (.v 4) .nil))) .nil)))) (.cons (.ret (.bl false))
    .nil) .nil)
    (.cons (.ret (.cmp .eq (.v 1) (.call 106 (.cons (.ix (.v 3) (.int 0)) .nil))))
    .nil)) .nil)
    (.cons (.ifs (.cmp .eq (.v 2) (.str "word")) (.cons (.ret (.call 77 (.cons (.ix (.v 3) (.int 0)) (.cons (.ix (.v 3) (.int 1)) (.cons (.ix (.v 3) (.int 2)) (.cons (.v 1) .nil))))))
    .nil) .nil)
    (.cons (.ret (.call 107 (.cons (.ix (.v 3) (.int 0)) (.cons (.ix (.v 3) (.int 1)) (.cons (.ix (.v 3) (.int 2)) (.cons (.v 1) .nil))))))
    .nil))))))⟩
def d109 : Df := ⟨2, 3, (.cons (.ret (.bi .tupleF (.cons (.comp [2] (.n 2) (.e (.v 1)) .none (.call 29 (.cons (.v 1) (.cons (.bi .len (.cons (.v 0) .nil)) (.cons (.ix (.v 0) (.v 2)) .nil))))) .nil)))
    .nil)⟩
def d110 : Df := ⟨2, 3, (.cons (.ret (.bi .tupleF (.cons (.comp [2] (.n 2) (.e (.v 1)) .none (.call 29 (.cons (.v 1) (.cons (.bi .len (.cons (.v 0) .nil)) (.cons (.bin .sub (.ix (.v 0) (.v 2)) (.int 1)) .nil))))) .nil)))
    .nil)⟩
def d111 : Df := ⟨1, 2, (.cons (.ifs (.or (.not (.call 3 (.cons (.v 0) (.cons (.int 3) .nil)))) (.or (.not (.call 1 (.cons (.ix (.v 0) (.int 0)) (.cons (.int 1) .nil)))) (.or (.not (.call 0 (.cons (.ix (.v 0) (.int 1)) .nil))) (.not (.isi [.tuple] (.ix (.v 0) (.int 2))))))) (.cons (.ret (.bl false))
    .nil) .nil)
    (.cons (.ret (.bi .all (.cons (.comp [1] (.n 1) (.e (.ix (.v 0) (.int 2))) .none (.and (.call 17 (.cons (.v 1) .nil)) (.cmp .eq (.bi .len (.cons (.v 1) .nil)) (.ix (.v 0) (.int 0))))) .nil)))
    .nil))⟩
def d112 : Df := ⟨1, 6, (.cons (.asg (.cons (.n 1) (.cons (.n 2) (.cons (.n 3) .nil))) (.call 42 (.cons (.v 0) .nil)))
    (.cons (.asg (.n 4) (.lst .nil))
    (.cons (.for_ (.n 5) (.rng (.cons (.v 2) .nil)) (.cons (.ex (.mth .append (.v 4) (.cons (.bin .mod (.v 1) (.bi .len (.cons (.v 0) .nil))) .nil)))
    (.cons (.asg (.n 1) (.call 21 (.cons (.v 0) (.cons (.v 1) .nil))))
    .nil)))
    (.cons (.ret (.tupF (.cons (.bi .tupleF (.cons (.bi .sorted (.cons (.v 4) .nil)) .nil)) (.cons (.v 3) .nil))))
    .nil))))⟩
def d113 : Df := ⟨1, 4, (.cons (.asg (.cons (.n 1) (.cons (.n 2) .nil)) (.call 112 (.cons (.ix (.v 0) (.int 0)) .nil)))
    (.cons (.ret (.tupF (.cons (.bi .len (.cons (.v 1) .nil)) (.cons (.v 2) (.cons (.bi .tupleF (.cons (.comp [3] (.n 3) (.e (.sl (.v 0) (.some (.int 1)) .none)) .none (.call 110 (.cons (.v 3) (.cons (.v 1) .nil)))) .nil)) .nil)))))
    .nil))⟩
def d114 : Df := ⟨1, 11, (.cons (.asg (.cons (.n 1) (.cons (.n 2) (.cons (.n 3) .nil))) (.v 0))
    (.cons (.asg (.n 4) (.comp [5, 6] (.cons (.n 5) (.cons (.n 6) .nil)) (.enum (.v 3)) (.some (.not (.call 23 (.cons (.v 6) .nil)))) (.v 5)))
    (.cons (.ifs (.cmp .eq (.bi .len (.cons (.v 4) .nil)) (.int 0)) (.cons (.ret .non)
    .nil) .nil)
    (.cons (.asg (.n 7) (.ix (.v 4) (.int 0)))
    (.cons (.asg (.cons (.n 8) (.cons (.n 9) .nil)) (.call 112 (.cons (.ix (.v 3) (.v 7)) .nil)))
    (.cons (.asg (.n 10) (.bin .add (.lst (.star (.sl (.v 3) (.some (.bin .add (.v 7) (.int 1))) .none) (.cons (.call 22 (.cons (.v 1) (.cons (.v 2) .nil))) .nil))) (.comp [6] (.n 6) (.e (.sl (.v 3) .none (.some (.v 7)))) .none (.call 27 (.cons (.v 6) (.cons (.int 1) .nil))))))
    (.cons (.ret (.tupF (.cons (.bi .len (.cons (.v 8) .nil)) (.cons (.v 9) (.cons (.bi .tupleF (.cons (.comp [6] (.n 6) (.e (.v 10)) .none (.call 109 (.cons (.v 6) (.cons (.v 8) .nil)))) .nil)) .nil)))))
    .nil)))))))⟩
def d115 : Df := ⟨1, 3, (.cons (.asg (.n 1) (.lst .nil))
    (.cons (.asg (.n 2) (.call 113 (.cons (.v 0) .nil)))
    (.cons (.whl (.cmp .isnot (.v 2) .non) (.cons (.ex (.mth .append (.v 1) (.cons (.v 2) .nil)))
    (.cons (.asg (.n 2) (.call 114 (.cons (.v 2) .nil)))
    .nil)))
    (.cons (.ret (.bi .tupleF (.cons (.v 1) .nil)))
    .nil))))⟩
def d116 : Df := ⟨2, 4, (.cons (.asg (.n 2) (.call 115 (.cons (.call 20 (.cons (.v 0) .nil)) .nil)))
    (.cons (.ifs (.or (.not (.isi [.tuple] (.v 1))) (.not (.bi .all (.cons (.comp [3] (.n 3) (.e (.v 1)) .none (.call 111 (.cons (.v 3) .nil))) .nil)))) (.cons (.ret (.bl false))
    .nil) .nil)
    (.cons (.ret (.cmp .eq (.v 1) (.v 2)))
    .nil)))⟩
def d117 : Df := ⟨2, 4, (.cons (.ret (.comp [2, 3] (.cons (.n 2) (.cons (.n 3) .nil)) (.enum (.call 26 (.cons (.v 0) (.cons (.v 1) .nil)))) .none (.bin .sub (.v 3) (.v 2))))
    .nil)⟩
def d118 : Df := ⟨3, 5, (.cons (.asg (.n 3) (.call 18 (.cons (.v 0) .nil)))
    (.cons (.asg (.n 4) (.bin .mul (.call 39 (.cons (.v 1) .nil)) (.bi .len (.cons (.v 3) .nil))))
    (.cons (.ret (.tupF (.cons (.call 117 (.cons (.v 3) (.cons (.call 40 (.cons (.v 2) (.cons (.int 1) .nil))) .nil))) (.cons (.v 4) .nil))))
    .nil)))⟩
def d119 : Df := ⟨4, 6, (.cons (.asg (.cons (.n 4) (.cons (.n 5) .nil)) (.callS 118 (.cons (.v 0) (.cons (.v 1) (.cons (.v 2) .nil)))))
    (.cons (.ret (.and (.call 2 (.cons (.v 3) (.cons (.int 0) (.cons (.bin .sub (.bi .len (.cons (.v 4) .nil)) (.int 1)) .nil)))) (.cmp .ge (.ix (.v 4) (.v 3)) (.v 5))))
    .nil))⟩
def d120 : Df := ⟨4, 6, (.cons (.asg (.cons (.n 4) (.cons (.n 5) .nil)) (.callS 118 (.cons (.v 0) (.cons (.v 1) (.cons (.v 2) .nil)))))
    (.cons (.ret (.and (.call 2 (.cons (.v 3) (.cons (.int 0) (.cons (.bin .sub (.bi .len (.cons (.v 4) .nil)) (.int 1)) .nil)))) (.cmp .le (.ix (.v 4) (.v 3)) (.v 5))))
    .nil))⟩
def d121 : Df := ⟨1, 2, (.cons (.asg (.n 1) (.call 4 (.cons (.v 0) .nil)))
    (.cons (.ifs (.or (.not (.call 54 (.cons (.v 1) .nil))) (.cmp .ne (.bi .max (.cons (.v 1) .nil)) (.int 1))) (.cons (.raise 1)
    .nil) .nil)
    (.cons (.ret (.v 1))
    .nil)))⟩
def d122 : Df := ⟨1, 3, (.cons (.asg (.n 1) (.call 4 (.cons (.v 0) .nil)))
    (.cons (.ifs (.or (.not (.call 3 (.cons (.v 1) (.cons (.int 2) .nil)))) (.not (.bi .all (.cons (.comp [2] (.n 2) (.e (.v 1)) .none (.call 6 (.cons (.v 2) .nil))) .nil)))) (.cons (.raise 1)
    .nil) .nil)
    (.cons (.ret (.v 1))
    .nil)))⟩
def d123 : Df := ⟨1, 1, (.cons (.ifs (.cmp .gt (.v 0) (.g 5)) (.cons (.raise 0)
    .nil) .nil)
    .nil)⟩
def d124 : Df := ⟨3, 3, (.cons (.ret (.cmp .ge (.call 11 (.cons (.call 73 (.cons (.v 0) (.cons (.v 1) .nil))) (.cons (.v 2) .nil))) (.int 0)))
    .nil)⟩
def d125 : Df := ⟨2, 2, (.cons (.ret (.tupF (.cons (.bin .mul (.ix (.v 1) (.int 1)) (.cnt (.v 0) (.int 0))) (.cons (.bin .mul (.ix (.v 1) (.int 1)) (.cnt (.v 0) (.int 1))) .nil))))
    .nil)⟩
def d126 : Df := ⟨2, 5, (.cons (.asg (.n 2) .non)
    (.cons (.for_ (.n 3) (.rng (.cons (.int 1) (.cons (.bin .add (.v 1) (.int 1)) .nil))) (.cons (.asg (.n 4) (.call 8 (.cons (.bin .sub (.call 14 (.cons (.v 0) (.cons (.v 3) .nil))) (.int 1)) (.cons (.v 3) .nil))))
    (.cons (.asg (.n 2) (.ife (.or (.cmp .is (.v 2) .non) (.call 12 (.cons (.v 2) (.cons (.v 4) .nil)))) (.v 4) (.v 2)))
    .nil)))
    (.cons (.ret (.v 2))
    .nil)))⟩
def d127 : Df := ⟨2, 4, (.cons (.par 2 3 (.call 121 (.cons (.v 0) .nil)) (.call 7 (.cons (.v 1) .nil)))
    (.cons (.ex (.call 123 (.cons (.bi .sum (.cons (.call 125 (.cons (.v 2) (.cons (.v 3) .nil))) .nil)) .nil)))
    (.cons (.ret (.tupF (.cons (.v 2) (.cons (.v 3) .nil))))
    .nil)))⟩
def d128 : Df := ⟨1, 1, (.cons (.ret (.chn .le .lt (.int 0) (.ix (.v 0) (.int 0)) (.ix (.v 0) (.int 1))))
    .nil)⟩
def d129 : Df := ⟨3, 5, (.cons (.asg (.n 3) (.call 125 (.cons (.v 0) (.cons (.v 1) .nil))))
    (.cons (.ifs (.not (.bi .all (.cons (.comp [4] (.n 4) (.e (.tupF (.cons (.int 0) (.cons (.int 1) .nil)))) .none (.and (.call 128 (.cons (.ix (.v 2) (.v 4)) .nil)) (.cmp .le (.ix (.ix (.v 2) (.v 4)) (.int 1)) (.ix (.v 3) (.v 4))))) .nil))) (.cons (.ret (.bl false))
    .nil) .nil)
    (.cons (.ifs (.or (.not (.call 124 (.cons (.v 0) (.cons (.v 2) (.cons (.v 1) .nil))))) (.call 124 (.cons (.v 0) (.cons (.tupF (.cons (.call 126 (.cons (.ix (.v 2) (.int 0)) (.cons (.ix (.v 3) (.int 0)) .nil))) (.cons (.ix (.v 2) (.int 1)) .nil))) (.cons (.v 1) .nil))))) (.cons (.ret (.bl false))
    .nil) .nil)
    (.cons (.ret (.not (.call 124 (.cons (.v 0) (.cons (.tupF (.cons (.ix (.v 2) (.int 0)) (.cons (.call 126 (.cons (.ix (.v 2) (.int 1)) (.cons (.ix (.v 3) (.int 1)) .nil))) .nil))) (.cons (.v 1) .nil))))))
    .nil))))⟩
def d130 : Df := ⟨3, 6, (.cons (.asg (.cons (.n 3) (.cons (.n 4) .nil)) (.call 127 (.cons (.v 0) (.cons (.v 1) .nil))))
    (.cons (.ifs (.or (.not (.call 3 (.cons (.v 2) (.cons (.int 2) .nil)))) (.not (.bi .all (.cons (.comp [5] (.n 5) (.e (.v 2)) .none (.call 6 (.cons (.v 5) .nil))) .nil)))) (.cons (.ret (.bl false))
    .nil) .nil)
    (.cons (.ret (.call 129 (.cons (.v 3) (.cons (.v 4) (.cons (.v 2) .nil)))))
    .nil)))⟩
def d131 : Df := ⟨3, 4, (.cons (.asg (.n 3) (.call 125 (.cons (.v 0) (.cons (.v 1) .nil))))
    (.cons (.ret (.tupF (.cons (.tupF (.cons (.call 126 (.cons (.ix (.v 2) (.int 0)) (.cons (.ix (.v 3) (.int 0)) .nil))) (.cons (.ix (.v 2) (.int 1)) .nil))) (.cons (.tupF (.cons (.ix (.v 2) (.int 0)) (.cons (.call 126 (.cons (.ix (.v 2) (.int 1)) (.cons (.ix (.v 3) (.int 1)) .nil))) .nil))) .nil))))
    .nil))⟩
def d132 : Df := ⟨4, 6, (.cons (.ifs (.or (.not (.call 5 (.cons (.v 3) .nil))) (.or (.cmp .ne (.bi .len (.cons (.v 3) .nil)) (.bin .add (.ix (.ix (.v 2) (.int 0)) (.int 1)) (.ix (.ix (.v 2) (.int 1)) (.int 1)))) (.not (.bi .all (.cons (.comp [4] (.n 4) (.e (.v 3)) .none (.call 2 (.cons (.v 4) (.cons (.int 0) (.cons (.int 1) .nil))))) .nil))))) (.cons (.ret (.bl false))
    .nil) .nil)
    (.cons (.ifs (.cmp .ne (.cnt (.v 3) (.int 0)) (.ix (.ix (.v 2) (.int 0)) (.int 1))) (.cons (.ret (.bl false))
    .nil) .nil)
    (.cons (.asg (.n 5) (.call 59 (.cons (.call 68 (.cons (.v 3) (.cons (.tupF (.cons (.ix (.ix (.v 2) (.int 0)) (.int 0)) (.cons (.ix (.ix (.v 2) (.int 1)) (.int 0)) .nil))) .nil))) (.cons (.v 0) .nil))))
    (.cons (.ret (.cmp .ge (.call 11 (.cons (.call 46 (.cons (.v 5) .nil)) (.cons (.v 1) .nil))) (.int 0)))
    .nil))))⟩
def d133 : Df := ⟨4, 11, (.cons (.par 4 5 (.call 121 (.cons (.v 0) .nil)) (.call 7 (.cons (.v 1) .nil)))
    (.cons (.asg (.n 6) (.call 122 (.cons (.v 2) .nil)))
    (.cons (.ex (.call 123 (.cons (.bi .sum (.cons (.call 125 (.cons (.v 4) (.cons (.v 5) .nil))) .nil)) .nil)))
    (.cons (.asg (.n 7) (.call 125 (.cons (.v 4) (.cons (.v 5) .nil))))
    (.cons (.ifs (.not (.bi .all (.cons (.comp [8] (.n 8) (.e (.tupF (.cons (.int 0) (.cons (.int 1) .nil)))) .none (.and (.call 128 (.cons (.ix (.v 6) (.v 8)) .nil)) (.cmp .le (.ix (.ix (.v 6) (.v 8)) (.int 1)) (.ix (.v 7) (.v 8))))) .nil))) (.cons (.ret (.bl false))
    .nil) .nil)
    (.cons (.ifs (.or (.not (.call 3 (.cons (.v 3) (.cons (.int 3) .nil)))) (.not (.call 132 (.cons (.v 4) (.cons (.v 5) (.cons (.v 6) (.cons (.ix (.v 3) (.int 0)) .nil))))))) (.cons (.ret (.bl false))
    .nil) .nil)
    (.cons (.asg (.cons (.n 9) (.cons (.n 10) .nil)) (.call 131 (.cons (.v 4) (.cons (.v 5) (.cons (.v 6) .nil)))))
    (.cons (.ret (.and (.call 77 (.cons (.v 4) (.cons (.v 9) (.cons (.v 5) (.cons (.ix (.v 3) (.int 1)) .nil))))) (.call 77 (.cons (.v 4) (.cons (.v 10) (.cons (.v 5) (.cons (.ix (.v 3) (.int 2)) .nil)))))))
    .nil))))))))⟩
def d134 : Df := ⟨1, 1, (.cons (.ifs (.or (.not (.call 5 (.cons (.v 0) .nil))) (.cmp .eq (.v 0) (.tupF .nil))) (.cons (.ret (.bl false))
    .nil) .nil)
    (.cons (.ret (.and (.cmp .eq (.bi .min (.cons (.v 0) .nil)) (.int 0)) (.cmp .eq (.bi .lenset (.cons (.v 0) .nil)) (.bin .add (.bi .max (.cons (.v 0) .nil)) (.int 1)))))
    .nil))⟩
def d135 : Df := ⟨1, 2, (.cons (.ifs (.or (.not (.call 3 (.cons (.v 0) (.cons (.int 3) .nil)))) (.or (.not (.call 134 (.cons (.ix (.v 0) (.int 0)) .nil))) (.not (.call 3 (.cons (.ix (.v 0) (.int 1)) (.cons (.bin .add (.bi .max (.cons (.ix (.v 0) (.int 0)) .nil)) (.int 1)) .nil)))))) (.cons (.ret (.bl false))
    .nil) .nil)
    (.cons (.ret (.and (.bi .all (.cons (.comp [1] (.n 1) (.e (.ix (.v 0) (.int 1))) .none (.call 6 (.cons (.v 1) .nil))) .nil)) (.call 6 (.cons (.ix (.v 0) (.int 2)) .nil))))
    .nil))⟩
def d136 : Df := ⟨2, 3, (.cons (.ret (.and (.isi [.tuple] (.v 0)) (.bi .all (.cons (.comp [2] (.n 2) (.e (.v 0)) .none (.and (.call 17 (.cons (.v 2) .nil)) (.cmp .eq (.bi .len (.cons (.v 2) .nil)) (.v 1)))) .nil))))
    .nil)⟩
def d137 : Df := ⟨1, 1, (.cons (.ifs (.or (.not (.call 3 (.cons (.v 0) (.cons (.int 3) .nil)))) (.or (.not (.call 1 (.cons (.ix (.v 0) (.int 0)) (.cons (.int 1) .nil)))) (.not (.call 0 (.cons (.ix (.v 0) (.int 1)) .nil))))) (.cons (.ret (.bl false))
    .nil) .nil)
    (.cons (.ret (.call 136 (.cons (.ix (.v 0) (.int 2)) (.cons (.ix (.v 0) (.int 0)) .nil))))
    .nil))⟩
def d138 : Df := ⟨1, 2, (.cons (.ret (.and (.isi [.tuple] (.v 0)) (.and (.cmp .ne (.v 0) (.tupF .nil)) (.bi .all (.cons (.comp [1] (.n 1) (.e (.v 0)) .none (.call 137 (.cons (.v 1) .nil))) .nil)))))
    .nil)⟩
def d139 : Df := ⟨2, 3, (.cons (.asg (.n 2) (.ife (.cmp .lt (.v 1) (.bi .len (.cons (.v 0) .nil))) (.ix (.v 0) (.v 1)) (.int 0)))
    (.cons (.ret (.lst (.cons (.bin .mul (.bi .abs (.cons (.v 2) .nil)) (.bi .int (.cons (.cmp .ge (.bi .abs (.cons (.v 2) .nil)) (.bin .pow (.int 10) (.int 18))) .nil))) (.cons (.bin .add (.bin .add (.bin .mod (.bi .int (.cons (.v 2) .nil)) (.int 2305843009213693951)) (.bin .mul (.int 39373) (.v 1))) (.int 3190065)) (.cons (.int 0) .nil)))))
    .nil))⟩
def d140 : Df := ⟨2, 6, (.cons (.ifs (.cmp .gt (.ix (.v 0) (.int 0)) (.int 0)) (.cons (.asg (.n 2) (.bin .mod (.bi .int (.cons (.ix (.v 0) (.int 0)) .nil)) (.v 1)))
    (.cons (.asgI (.v 0) (.int 0) (.bin .fdiv (.ix (.v 0) (.int 0)) (.v 1)))
    (.cons (.ret (.v 2))
    .nil))) .nil)
    (.cons (.asgI (.v 0) (.int 2) (.bin .add (.ix (.v 0) (.int 2)) (.int 1)))
    (.cons (.asg (.n 3) (.bin .mod (.bi .int (.cons (.bin .mul (.bin .add (.ix (.v 0) (.int 1)) (.bin .mul (.int 48271) (.ix (.v 0) (.int 2)))) (.bin .add (.int 39373) (.ix (.v 0) (.int 2)))) .nil)) (.int 2147483647)))
    (.cons (.asg (.n 4) (.bin .add (.bin .mod (.bi .int (.cons (.v 3) .nil)) (.int 40009)) (.int 7)))
    (.cons (.asg (.n 5) (.bin .mod (.bi .int (.cons (.bin .mul (.bin .add (.bin .add (.v 3) (.ix (.v 0) (.int 2))) (.bin .fdiv (.ix (.v 0) (.int 1)) (.int 1000003))) (.v 4)) .nil)) (.int 2147483629)))
    (.cons (.ret (.bin .mod (.bi .int (.cons (.bin .fdiv (.bin .mod (.bi .int (.cons (.bin .add (.bin .mul (.v 5) (.int 48271)) (.v 3)) .nil)) (.int 2147483587)) (.int 64)) .nil)) (.v 1)))
    .nil))))))⟩
def d141 : Df := ⟨2, 6, (.cons (.asg (.n 2) (.orL (.bi .list (.cons (.sl (.v 0) .none (.some (.v 1))) .nil)) (.lst (.cons (.int 0) .nil))))
    (.cons (.for_ (.cons (.n 3) (.cons (.n 4) .nil)) (.enum (.sl (.v 0) (.some (.v 1)) (.some (.int 63)))) (.cons (.asg (.n 5) (.bin .mod (.bi .int (.cons (.v 3) .nil)) (.v 1)))
    (.cons (.asgI (.v 2) (.v 5) (.bin .add (.ix (.v 2) (.v 5)) (.bin .mul (.v 4) (.bin .add (.v 3) (.int 2)))))
    .nil)))
    (.cons (.ret (.v 2))
    .nil)))⟩
def d142 : Df := ⟨2, 4, (.cons (.ifs (.isi [.list, .tuple] (.v 1)) (.cons (.ifs (.or (.cmp .ne (.isi [.list] (.v 0)) (.isi [.list] (.v 1))) (.cmp .ne (.isi [.tuple] (.v 0)) (.isi [.tuple] (.v 1)))) (.cons (.ret (.bl false))
    .nil) .nil)
    (.cons (.ret (.and (.cmp .eq (.bi .len (.cons (.v 0) .nil)) (.bi .len (.cons (.v 1) .nil))) (.bi .all (.cons (.comp [2, 3] (.cons (.n 2) (.cons (.n 3) .nil)) (.zip (.v 0) (.v 1)) .none (.call 142 (.cons (.v 2) (.cons (.v 3) .nil)))) .nil))))
    .nil)) .nil)
    (.cons (.ifs (.or (.cmp .is (.v 1) .non) (.isi [.bool, .str] (.v 1))) (.cons (.ret (.and (.cmp .eq (.v 0) (.v 1)) (.and (.cmp .eq (.isi [.bool] (.v 0)) (.isi [.bool] (.v 1))) (.cmp .eq (.cmp .is (.v 0) .non) (.cmp .is (.v 1) .non)))))
    .nil) .nil)
    (.cons (.ret (.and (.isi [.int] (.v 0)) (.and (.not (.isi [.bool] (.v 0))) (.cmp .eq (.v 0) (.v 1)))))
    .nil)))⟩
def d143 : Df := ⟨1, 5, (.cons (.ifs (.or (.cmp .is (.v 0) .non) (.isi [.bool] (.v 0))) (.cons (.ret (.lst .nil))
    .nil) .nil)
    (.cons (.ifs (.isi [.str] (.v 0)) (.cons (.ret (.lst (.cons (.tupF (.cons (.v 0) .nil)) (.cons (.lst (.cons (.v 0) .nil)) .nil))))
    .nil) .nil)
    (.cons (.ifs (.isi [.int] (.v 0)) (.cons (.asg (.n 1) (.lst (.cons (.bi .str (.cons (.v 0) .nil)) (.cons (.tupF (.cons (.v 0) .nil)) .nil))))
    (.cons (.ret (.ife (.cmp .in_ (.v 0) (.tupF (.cons (.int 0) (.cons (.int 1) .nil)))) (.bin .add (.v 1) (.lst (.cons (.cmp .eq (.v 0) (.int 1)) .nil))) (.v 1)))
    .nil)) .nil)
    (.cons (.asg (.n 1) (.lst (.cons (.bi .list (.cons (.v 0) .nil)) (.cons (.bin .add (.v 0) (.tupF (.cons .non .nil))) .nil))))
    (.cons (.for_ (.cons (.n 2) (.cons (.n 3) .nil)) (.enum (.v 0)) (.cons (.asg (.n 1) (.bin .add (.v 1) (.comp [4] (.n 4) (.e (.callS 143 (.cons (.v 3) .nil))) .none (.bin .add (.bin .add (.sl (.v 0) .none (.some (.v 2))) (.tupF (.cons (.v 4) .nil))) (.sl (.v 0) (.some (.bin .add (.v 2) (.int 1))) .none)))))
    .nil))
    (.cons (.ret (.v 1))
    .nil))))))⟩
def d144 : Df := ⟨3, 3, (.cons (.ifs (.cmp .lt (.bi .len (.cons (.v 1) .nil)) (.int 2)) (.cons (.ret (.ife (.cmp .eq (.v 1) (.tupF .nil)) (.calv 0 (.cons (.v 2) .nil)) (.calv 0 (.cons (.ix (.v 1) (.int 0)) (.cons (.v 2) .nil)))))
    .nil) .nil)
    (.cons (.ifs (.cmp .eq (.bi .len (.cons (.v 1) .nil)) (.int 2)) (.cons (.ret (.calv 0 (.cons (.ix (.v 1) (.int 0)) (.cons (.ix (.v 1) (.int 1)) (.cons (.v 2) .nil)))))
    .nil) .nil)
    (.cons (.ifs (.cmp .eq (.bi .len (.cons (.v 1) .nil)) (.int 3)) (.cons (.ret (.calv 0 (.cons (.ix (.v 1) (.int 0)) (.cons (.ix (.v 1) (.int 1)) (.cons (.ix (.v 1) (.int 2)) (.cons (.v 2) .nil))))))
    .nil) .nil)
    (.cons (.ifs (.cmp .eq (.bi .len (.cons (.v 1) .nil)) (.int 4)) (.cons (.ret (.calv 0 (.cons (.ix (.v 1) (.int 0)) (.cons (.ix (.v 1) (.int 1)) (.cons (.ix (.v 1) (.int 2)) (.cons (.ix (.v 1) (.int 3)) (.cons (.v 2) .nil)))))))
    .nil) .nil)
    (.cons (.ret (.calv 0 (.cons (.ix (.v 1) (.int 0)) (.cons (.ix (.v 1) (.int 1)) (.cons (.ix (.v 1) (.int 2)) (.cons (.ix (.v 1) (.int 3)) (.cons (.ix (.v 1) (.int 4)) (.cons (.v 2) .nil))))))))
    .nil)))))⟩
def d145 : Df := ⟨1, 10, (.cons (.asg (.cons (.n 1) (.cons (.n 2) (.cons (.n 3) (.cons (.n 4) .nil)))) (.tupF (.cons (.tupF (.cons (.int 0) (.cons (.int 1) .nil))) (.cons (.tupF (.cons (.int 1) (.cons (.int 2) .nil))) (.cons (.tupF (.cons (.int 0) (.cons (.int 2) (.cons (.int 1) .nil)))) (.cons (.tupF (.cons (.int 0) (.cons (.int 0) (.cons (.int 1) .nil)))) .nil))))))
    (.cons (.asg (.cons (.n 5) (.cons (.n 6) .nil)) (.tupF (.cons (.tupF (.cons (.tupF (.cons (.tupF (.cons (.int 0) (.cons (.int 0) .nil))) (.cons (.tupF (.cons (.int 0) (.cons (.int 2) (.cons (.int 1) .nil)))) .nil))) .nil)) (.cons (.tupF (.cons (.tupF (.cons (.tupF (.cons (.int 0) (.cons (.int 1) .nil))) (.cons (.tupF (.cons (.int 0) (.cons (.int 1) (.cons (.int 0) .nil)))) .nil))) .nil)) .nil))))
    (.cons (.asg (.cons (.n 7) (.cons (.n 8) .nil)) (.tupF (.cons (.tupF (.cons (.tupF (.cons (.int 0) (.cons (.int 1) .nil))) (.cons (.tupF (.cons (.int 0) (.cons (.int 1) .nil))) .nil))) (.cons (.tupF (.cons (.tupF (.cons (.int 1) (.cons (.int 2) .nil))) .nil)) .nil))))
    (.cons (.ifs (.cmp .eq (.v 0) (.int 0)) (.cons (.asg (.n 9) (.lst (.cons (.tupF (.cons (.f 6) (.cons (.tupF .nil) (.cons (.tupF (.cons (.int 1) (.cons (.int 2) .nil))) .nil)))) (.cons (.tupF (.cons (.f 6) (.cons (.tupF .nil) (.cons (.tupF (.cons (.int 0) (.cons (.int 1) .nil))) .nil)))) (.cons (.tupF (.cons (.f 17) (.cons (.tupF .nil) (.cons (.tupF (.cons (.int 0) (.cons (.int 2) (.cons (.int 3) .nil)))) .nil)))) .nil)))))
    (.cons (.asg (.n 9) (.bin .add (.v 9) (.lst (.cons (.tupF (.cons (.f 17) (.cons (.tupF .nil) (.cons (.tupF (.cons (.neg (.int 1)) .nil)) .nil)))) (.cons (.tupF (.cons (.f 19) (.cons (.tupF .nil) (.cons (.tupF (.cons (.v 1) (.cons (.v 2) .nil))) .nil)))) .nil)))))
    (.cons (.asg (.n 9) (.bin .add (.v 9) (.lst (.cons (.tupF (.cons (.f 44) (.cons (.tupF (.cons (.v 2) .nil)) (.cons (.v 3) .nil)))) (.cons (.tupF (.cons (.f 119) (.cons (.tupF (.cons (.v 2) (.cons (.int 0) (.cons (.int 2) .nil)))) (.cons (.int 0) .nil)))) .nil)))))
    (.cons (.asg (.n 9) (.bin .add (.v 9) (.lst (.cons (.tupF (.cons (.f 119) (.cons (.tupF (.cons (.v 2) (.cons (.int 0) (.cons (.int 2) .nil)))) (.cons (.int 1) .nil)))) (.cons (.tupF (.cons (.f 120) (.cons (.tupF (.cons (.v 1) (.cons (.int 1) (.cons (.int 1) .nil)))) (.cons (.int 0) .nil)))) .nil)))))
    (.cons (.asg (.n 9) (.bin .add (.v 9) (.lst (.cons (.tupF (.cons (.f 54) (.cons (.tupF .nil) (.cons (.tupF (.cons (.int 0) (.cons (.int 1) (.cons (.int 1) .nil)))) .nil)))) (.cons (.tupF (.cons (.f 54) (.cons (.tupF .nil) (.cons (.tupF (.cons (.int 0) .nil)) .nil)))) (.cons (.tupF (.cons (.f 111) (.cons (.tupF .nil) (.cons (.tupF (.cons (.int 2) (.cons (.int 1) (.cons (.tupF (.cons (.v 1) .nil)) .nil)))) .nil)))) .nil))))))
    (.cons (.asg (.n 9) (.bin .add (.v 9) (.lst (.cons (.tupF (.cons (.f 111) (.cons (.tupF .nil) (.cons (.tupF (.cons (.int 1) (.cons (.int 0) (.cons (.tupF .nil) .nil)))) .nil)))) .nil))))
    (.cons (.asg (.n 9) (.bin .add (.v 9) (.lst (.cons (.tupF (.cons (.f 116) (.cons (.tupF (.cons (.tupF (.cons (.v 2) .nil)) .nil)) (.cons (.tupF (.cons (.tupF (.cons (.int 2) (.cons (.int 1) (.cons (.tupF .nil) .nil)))) .nil)) .nil)))) (.cons (.tupF (.cons (.f 49) (.cons (.tupF (.cons (.v 1) (.cons (.tupF (.cons (.int 0) (.cons (.int 1) .nil))) .nil))) (.cons (.tupF (.cons (.v 1) (.cons (.int 1) .nil))) .nil)))) .nil)))))
    (.cons (.asg (.n 9) (.bin .add (.v 9) (.lst (.cons (.tupF (.cons (.f 50) (.cons (.tupF (.cons (.v 1) (.cons (.tupF (.cons (.int 0) (.cons (.int 1) .nil))) .nil))) (.cons (.tupF (.cons (.v 1) (.cons (.int 1) .nil))) .nil)))) .nil))))
    (.cons (.asg (.n 9) (.bin .add (.v 9) (.lst (.cons (.tupF (.cons (.f 52) (.cons (.tupF (.cons (.v 8) .nil)) (.cons (.tupF (.cons (.v 2) .nil)) .nil)))) (.cons (.tupF (.cons (.f 53) (.cons (.tupF (.cons (.v 8) .nil)) (.cons (.tupF (.cons (.v 2) .nil)) .nil)))) .nil)))))
    (.cons (.ret (.bin .add (.v 9) (.lst (.cons (.tupF (.cons (.f 62) (.cons (.tupF .nil) (.cons (.tupF (.cons (.int 0) (.cons (.int 1) (.cons (.int 0) .nil)))) .nil)))) .nil))))
    .nil)))))))))) .nil)
    (.cons (.ifs (.cmp .eq (.v 0) (.int 1)) (.cons (.asg (.n 9) (.lst (.cons (.tupF (.cons (.f 77) (.cons (.tupF (.cons (.tupF (.cons (.int 0) .nil)) (.cons (.v 8) (.cons (.tupF (.cons (.int 1) (.cons (.int 1) .nil))) .nil)))) (.cons (.v 5) .nil)))) (.cons (.tupF (.cons (.f 135) (.cons (.tupF .nil) (.cons (.tupF (.cons (.tupF (.cons (.int 0) (.cons (.int 1) .nil))) (.cons (.tupF (.cons (.tupF (.cons (.int 1) (.cons (.int 2) .nil))) (.cons (.tupF (.cons (.int 0) (.cons (.int 1) .nil))) .nil))) (.cons (.tupF (.cons (.int 1) (.cons (.int 1) .nil))) .nil)))) .nil)))) .nil))))
    (.cons (.asg (.n 9) (.bin .add (.v 9) (.lst (.cons (.tupF (.cons (.f 138) (.cons (.tupF .nil) (.cons (.tupF (.cons (.tupF (.cons (.int 2) (.cons (.int 1) (.cons (.tupF (.cons (.v 1) .nil)) .nil)))) (.cons (.tupF (.cons (.int 1) (.cons (.int 0) (.cons (.tupF .nil) .nil)))) .nil))) .nil)))) .nil))))
    (.cons (.asg (.n 9) (.bin .add (.v 9) (.lst (.cons (.tupF (.cons (.f 88) (.cons (.tupF (.cons (.v 1) (.cons (.tupF (.cons (.int 0) (.cons (.int 2) .nil))) .nil))) (.cons (.tupF (.cons (.tupF (.cons (.int 1) (.cons (.int 1) .nil))) .nil)) .nil)))) (.cons (.tupF (.cons (.f 88) (.cons (.tupF (.cons (.v 1) (.cons (.v 1) .nil))) (.cons (.tupF .nil) .nil)))) .nil)))))
    (.cons (.asg (.n 9) (.bin .add (.v 9) (.lst (.cons (.tupF (.cons (.f 93) (.cons (.tupF (.cons (.tupF (.cons (.int 0) .nil)) (.cons (.tupF (.cons (.int 1) (.cons (.int 1) .nil))) .nil))) (.cons (.tupF (.cons (.tupF (.cons (.int 0) (.cons (.int 1) .nil))) .nil)) .nil)))) .nil))))
    (.cons (.asg (.n 9) (.bin .add (.v 9) (.lst (.cons (.tupF (.cons (.f 130) (.cons (.tupF (.cons (.v 4) (.cons (.tupF (.cons (.int 3) (.cons (.int 2) .nil))) .nil))) (.cons (.tupF (.cons (.tupF (.cons (.int 1) (.cons (.int 2) .nil))) (.cons (.tupF (.cons (.int 0) (.cons (.int 1) .nil))) .nil))) .nil)))) .nil))))
    (.cons (.asg (.n 9) (.bin .add (.v 9) (.lst (.cons (.tupF (.cons (.f 130) (.cons (.tupF (.cons (.v 4) (.cons (.tupF (.cons (.int 3) (.cons (.int 2) .nil))) .nil))) (.cons (.tupF (.cons (.tupF (.cons (.int 1) (.cons (.int 4) .nil))) (.cons (.tupF (.cons (.int 1) (.cons (.int 2) .nil))) .nil))) .nil)))) .nil))))
    (.cons (.asg (.n 9) (.bin .add (.v 9) (.lst (.cons (.tupF (.cons (.f 130) (.cons (.tupF (.cons (.tupF (.cons (.int 0) (.cons (.int 1) .nil))) (.cons (.tupF (.cons (.int 1) (.cons (.int 1) .nil))) .nil))) (.cons (.v 7) .nil)))) .nil))))
    (.cons (.asg (.n 9) (.bin .add (.v 9) (.lst (.cons (.tupF (.cons (.f 133) (.cons (.tupF (.cons (.tupF (.cons (.int 0) (.cons (.int 1) .nil))) (.cons (.tupF (.cons (.int 1) (.cons (.int 1) .nil))) (.cons (.v 7) .nil)))) (.cons (.tupF (.cons (.tupF (.cons (.int 0) (.cons (.int 1) .nil))) (.cons (.v 6) (.cons (.v 6) .nil)))) .nil)))) .nil))))
    (.cons (.asg (.n 9) (.bin .add (.v 9) (.lst (.cons (.tupF (.cons (.f 96) (.cons (.tupF .nil) (.cons (.tupF (.cons (.str "train") (.cons (.tupF (.cons (.v 2) .nil)) (.cons (.tupF (.cons (.int 1) (.cons (.int 2) .nil))) .nil)))) .nil)))) (.cons (.tupF (.cons (.f 96) (.cons (.tupF .nil) (.cons (.tupF (.cons (.str "most") (.cons (.v 8) (.cons (.tupF (.cons (.int 1) (.cons (.int 3) .nil))) .nil)))) .nil)))) .nil)))))
    (.cons (.asg (.n 9) (.bin .add (.v 9) (.lst (.cons (.tupF (.cons (.f 96) (.cons (.tupF .nil) (.cons (.tupF (.cons (.str "word") (.cons (.tupF (.cons (.int 0) (.cons (.int 1) .nil))) (.cons (.tupF (.cons (.tupF (.cons (.int 1) (.cons (.int 2) .nil))) (.cons (.tupF (.cons (.int 0) (.cons (.int 1) .nil))) .nil))) (.cons (.tupF (.cons (.int 1) (.cons (.int 1) .nil))) .nil))))) .nil)))) .nil))))
    (.cons (.ret (.bin .add (.v 9) (.lst (.cons (.tupF (.cons (.f 96) (.cons (.tupF .nil) (.cons (.tupF (.cons (.str "teeth") (.cons (.v 1) (.cons (.tupF (.cons (.int 0) (.cons (.int 2) .nil))) (.cons (.int 1) .nil))))) .nil)))) .nil))))
    .nil))))))))))) .nil)
    (.cons (.asg (.n 9) (.lst (.cons (.tupF (.cons (.f 105) (.cons (.tupF (.cons (.tupF (.cons (.str "train") (.cons (.tupF (.cons (.v 2) .nil)) (.cons (.tupF (.cons (.int 0) (.cons (.int 1) .nil))) .nil)))) .nil)) (.cons (.v 3) .nil)))) .nil)))
    (.cons (.asg (.n 9) (.bin .add (.v 9) (.lst (.cons (.tupF (.cons (.f 105) (.cons (.tupF (.cons (.tupF (.cons (.str "most") (.cons (.v 8) (.cons (.tupF (.cons (.int 1) (.cons (.int 3) .nil))) .nil)))) .nil)) (.cons (.tupF (.cons (.v 2) .nil)) .nil)))) .nil))))
    (.cons (.asg (.n 9) (.bin .add (.v 9) (.lst (.cons (.tupF (.cons (.f 105) (.cons (.tupF (.cons (.tupF (.cons (.str "word") (.cons (.tupF (.cons (.int 0) .nil)) (.cons (.v 8) (.cons (.tupF (.cons (.int 1) (.cons (.int 2) .nil))) .nil))))) .nil)) (.cons (.tupF (.cons (.v 2) .nil)) .nil)))) .nil))))
    (.cons (.asg (.n 9) (.bin .add (.v 9) (.lst (.cons (.tupF (.cons (.f 105) (.cons (.tupF (.cons (.tupF (.cons (.str "teeth") (.cons (.v 1) (.cons (.tupF (.cons (.int 0) (.cons (.int 2) .nil))) (.cons (.int 0) .nil))))) .nil)) (.cons (.tupF (.cons (.int 0) (.cons (.int 1) .nil))) .nil)))) .nil))))
    (.cons (.asg (.n 9) (.bin .add (.v 9) (.lst (.cons (.tupF (.cons (.f 108) (.cons (.tupF (.cons (.tupF (.cons (.str "train") (.cons (.tupF (.cons (.v 2) .nil)) (.cons (.tupF (.cons (.int 1) (.cons (.int 2) .nil))) .nil)))) .nil)) (.cons (.v 3) .nil)))) .nil))))
    (.cons (.asg (.n 9) (.bin .add (.v 9) (.lst (.cons (.tupF (.cons (.f 108) (.cons (.tupF (.cons (.tupF (.cons (.str "most") (.cons (.v 8) (.cons (.tupF (.cons (.int 1) (.cons (.int 2) .nil))) .nil)))) .nil)) (.cons (.tupF (.cons (.int 0) (.cons (.int 1) .nil))) .nil)))) .nil))))
    (.cons (.asg (.n 9) (.bin .add (.v 9) (.lst (.cons (.tupF (.cons (.f 108) (.cons (.tupF (.cons (.tupF (.cons (.str "word") (.cons (.tupF (.cons (.int 0) .nil)) (.cons (.v 8) (.cons (.tupF (.cons (.int 1) (.cons (.int 1) .nil))) .nil))))) .nil)) (.cons (.v 5) .nil)))) .nil))))
    (.cons (.ret (.bin .add (.v 9) (.lst (.cons (.tupF (.cons (.f 108) (.cons (.tupF (.cons (.tupF (.cons (.str "teeth") (.cons (.v 1) (.cons (.tupF (.cons (.int 0) (.cons (.int 2) .nil))) (.cons (.int 1) .nil))))) .nil)) (.cons (.tupF (.cons (.tupF (.cons (.int 1) (.cons (.int 1) .nil))) .nil)) .nil)))) .nil))))
    .nil)))))))))))))⟩
def d146 : Df := ⟨1, 7, (.cons (.for_ (.cons (.n 1) (.cons (.n 2) (.cons (.n 3) .nil))) (.e (.call 145 (.cons (.call 140 (.cons (.call 139 (.cons (.call 141 (.cons (.v 0) (.cons (.int 1) .nil))) (.cons (.int 0) .nil))) (.cons (.int 3) .nil))) .nil))) (.cons (.asg (.n 4) (.callS 143 (.cons (.v 3) .nil)))
    (.cons (.asg (.n 5) (.comp [6] (.n 6) (.e (.bin .add (.lst (.cons (.v 3) .nil)) (.v 4))) .none (.call 144 (.cons (.v 1) (.cons (.v 2) (.cons (.v 6) .nil))))))
    (.cons (.ifs (.not (.call 142 (.cons (.v 5) (.cons (.bin .add (.lst (.cons (.bl true) .nil)) (.bin .mul (.lst (.cons (.bl false) .nil)) (.bi .len (.cons (.v 4) .nil)))) .nil)))) (.cons (.ret (.bl false))
    .nil) .nil)
    .nil))))
    (.cons (.ret (.bl true))
    .nil))⟩
def n0 : List PySem.Str := ["thing"]
def n1 : List PySem.Str := ["thing", "least"]
def n2 : List PySem.Str := ["thing", "least", "most"]
def n3 : List PySem.Str := ["thing", "length"]
def n4 : List PySem.Str := ["value", "own"]
def n5 : List PySem.Str := ["thing", "own"]
def n6 : List PySem.Str := ["thing"]
def n7 : List PySem.Str := ["one", "own"]
def n8 : List PySem.Str := ["above", "below", "by"]
def n9 : List PySem.Str := ["one", "other"]
def n10 : List PySem.Str := ["one", "a", "b"]
def n11 : List PySem.Str := ["one", "other", "a", "b", "c", "d"]
def n12 : List PySem.Str := ["one", "other"]
def n13 : List PySem.Str := ["fraction", "number"]
def n14 : List PySem.Str := ["fraction", "number"]
def n15 : List PySem.Str := ["numbers", "found", "own"]
def n16 : List PySem.Str := ["fractions", "own", "one", "_", "below"]
def n17 : List PySem.Str := ["thing", "own", "near", "far"]
def n18 : List PySem.Str := ["wheel", "own"]
def n19 : List PySem.Str := ["thing", "own"]
def n20 : List PySem.Str := ["train", "own"]
def n21 : List PySem.Str := ["wheel", "number", "rounds", "place"]
def n22 : List PySem.Str := ["places", "steps", "place"]
def n23 : List PySem.Str := ["wheel", "own"]
def n24 : List PySem.Str := ["wheel", "other", "number"]
def n25 : List PySem.Str := ["train", "found", "own"]
def n26 : List PySem.Str := ["wheel", "beats", "own", "found", "left"]
def n27 : List PySem.Str := ["wheel", "number", "own", "place"]
def n28 : List PySem.Str := ["places", "ring", "number"]
def n29 : List PySem.Str := ["places", "ring", "number", "round_first", "own"]
def n30 : List PySem.Str := ["places", "ring", "number", "round_first", "own"]
def n31 : List PySem.Str := ["places", "number", "ring", "own"]
def n32 : List PySem.Str := ["thing", "own"]
def n33 : List PySem.Str := ["turns", "own"]
def n34 : List PySem.Str := ["turns", "own"]
def n35 : List PySem.Str := ["turns", "number", "own"]
def n36 : List PySem.Str := ["turns", "found", "best", "number", "value", "order"]
def n37 : List PySem.Str := ["turns"]
def n38 : List PySem.Str := ["turns"]
def n39 : List PySem.Str := ["number"]
def n40 : List PySem.Str := ["beats", "least"]
def n41 : List PySem.Str := ["wheel", "goals", "number", "many", "goal", "left", "place", "own"]
def n42 : List PySem.Str := ["wheel", "place", "number", "beats"]
def n43 : List PySem.Str := ["wheel"]
def n44 : List PySem.Str := ["wheel", "thing", "own", "part"]
def n45 : List PySem.Str := ["wheel", "_", "beats", "rounds", "most"]
def n46 : List PySem.Str := ["wheel"]
def n47 : List PySem.Str := ["wheel", "number", "beats", "_", "once", "rounds", "ahead"]
def n48 : List PySem.Str := ["wheel", "fraction", "thing", "way", "found", "many", "place", "own"]
def n49 : List PySem.Str := ["wheel", "fraction", "thing", "own"]
def n50 : List PySem.Str := ["wheel", "fraction", "thing", "own"]
def n51 : List PySem.Str := ["turns", "thing", "goal", "wheel", "own"]
def n52 : List PySem.Str := ["turns", "thing", "own"]
def n53 : List PySem.Str := ["turns", "thing", "own", "fraction"]
def n54 : List PySem.Str := ["thing", "own"]
def n55 : List PySem.Str := ["word", "own"]
def n56 : List PySem.Str := ["train", "word"]
def n57 : List PySem.Str := ["train", "word", "letter"]
def n58 : List PySem.Str := ["train", "word", "own", "told"]
def n59 : List PySem.Str := ["train", "word", "own", "told"]
def n60 : List PySem.Str := ["word", "number", "far"]
def n61 : List PySem.Str := ["word", "far"]
def n62 : List PySem.Str := ["thing"]
def n63 : List PySem.Str := ["numbers", "least", "own", "one"]
def n64 : List PySem.Str := ["row", "numbers", "own", "told"]
def n65 : List PySem.Str := ["numbers", "found", "own"]
def n66 : List PySem.Str := ["numbers", "found", "_", "longer", "own", "letter", "many"]
def n67 : List PySem.Str := ["row", "numbers", "found", "letter", "number", "places", "place", "own"]
def n68 : List PySem.Str := ["row", "numbers", "own", "told"]
def n69 : List PySem.Str := ["word", "row", "numbers"]
def n70 : List PySem.Str := ["word", "turns", "own", "told"]
def n71 : List PySem.Str := ["word", "turns", "tops", "above", "_", "row", "below"]
def n72 : List PySem.Str := ["word", "turns", "best", "found", "row", "wheel", "own"]
def n73 : List PySem.Str := ["word", "turns", "own", "told"]
def n74 : List PySem.Str := ["word", "turns", "fraction", "found", "row", "wheel"]
def n75 : List PySem.Str := ["word", "turns", "fraction", "own", "told", "one"]
def n76 : List PySem.Str := ["one", "other", "near", "far"]
def n77 : List PySem.Str := ["word", "turns", "fraction", "thing", "own", "told", "one", "found"]
def n78 : List PySem.Str := ["thing", "look", "own"]
def n79 : List PySem.Str := ["wheel", "other", "one", "two"]
def n80 : List PySem.Str := ["thing"]
def n81 : List PySem.Str := ["thing", "own"]
def n82 : List PySem.Str := ["wheel", "other", "one", "two", "near", "far"]
def n83 : List PySem.Str := ["wheel", "tooth", "place", "way"]
def n84 : List PySem.Str := ["wheel", "tooth", "place", "way"]
def n85 : List PySem.Str := ["wheel", "own", "place", "way"]
def n86 : List PySem.Str := ["one", "other", "near", "far"]
def n87 : List PySem.Str := ["wheel", "thing", "own", "tooth"]
def n88 : List PySem.Str := ["wheel", "other", "thing", "one", "two"]
def n89 : List PySem.Str := ["row", "above", "ring", "found", "below", "at", "place", "rounds", "rest"]
def n90 : List PySem.Str := ["bottom", "ring", "found", "_", "own", "place"]
def n91 : List PySem.Str := ["wheel", "goal", "own", "fraction"]
def n92 : List PySem.Str := ["wheel", "goal", "found", "row", "told", "many"]
def n93 : List PySem.Str := ["wheel", "goal", "thing", "own", "fraction", "told", "above", "below"]
def n94 : List PySem.Str := ["word", "turns", "fraction"]
def n95 : List PySem.Str := ["wheel", "other", "number"]
def n96 : List PySem.Str := ["thing", "word", "last"]
def n97 : List PySem.Str := ["demand", "kept"]
def n98 : List PySem.Str := ["wheel", "other", "own", "theirs"]
def n99 : List PySem.Str := ["wheel", "other", "own"]
def n100 : List PySem.Str := ["demand", "word", "last"]
def n101 : List PySem.Str := ["train", "thing", "own"]
def n102 : List PySem.Str := ["train", "triple", "wheel"]
def n103 : List PySem.Str := ["triple", "fraction"]
def n104 : List PySem.Str := ["train", "turns", "own", "turning"]
def n105 : List PySem.Str := ["demand", "thing", "word", "last", "own"]
def n106 : List PySem.Str := ["turns", "last", "own", "q"]
def n107 : List PySem.Str := ["wheel", "other", "number", "thing", "now", "tooth"]
def n108 : List PySem.Str := ["demand", "thing", "word", "last", "own"]
def n109 : List PySem.Str := ["wheel", "places", "own"]
def n110 : List PySem.Str := ["wheel", "places", "own"]
def n111 : List PySem.Str := ["thing", "own"]
def n112 : List PySem.Str := ["wheel", "place", "beats", "rounds", "found", "_"]
def n113 : List PySem.Str := ["train", "places", "steps", "own"]
def n114 : List PySem.Str := ["rung", "ring", "steps", "train", "numbers", "number", "own", "first", "places", "more", "row"]
def n115 : List PySem.Str := ["train", "found", "rung"]
def n116 : List PySem.Str := ["train", "thing", "due", "own"]
def n117 : List PySem.Str := ["wheel", "beats", "place", "goal"]
def n118 : List PySem.Str := ["wheel", "rounds", "beats", "own", "goal"]
def n119 : List PySem.Str := ["wheel", "rounds", "beats", "thing", "found", "goal"]
def n120 : List PySem.Str := ["wheel", "rounds", "beats", "thing", "found", "goal"]
def n121 : List PySem.Str := ["word", "own"]
def n122 : List PySem.Str := ["turns", "own", "one"]
def n123 : List PySem.Str := ["many"]
def n124 : List PySem.Str := ["word", "turns", "goal"]
def n125 : List PySem.Str := ["word", "goal"]
def n126 : List PySem.Str := ["own", "most", "found", "bottom", "one"]
def n127 : List PySem.Str := ["word", "fraction", "own", "goal"]
def n128 : List PySem.Str := ["one"]
def n129 : List PySem.Str := ["word", "goal", "pair", "most", "letter"]
def n130 : List PySem.Str := ["word", "fraction", "thing", "own", "goal", "one"]
def n131 : List PySem.Str := ["word", "goal", "pair", "most"]
def n132 : List PySem.Str := ["word", "goal", "pair", "row", "own", "wheel"]
def n133 : List PySem.Str := ["word", "fraction", "turns", "thing", "own", "goal", "pair", "most", "letter", "near", "far"]
def n134 : List PySem.Str := ["thing"]
def n135 : List PySem.Str := ["thing", "own"]
def n136 : List PySem.Str := ["thing", "ring", "own"]
def n137 : List PySem.Str := ["thing"]
def n138 : List PySem.Str := ["thing", "own"]
def n139 : List PySem.Str := ["script", "k", "bit_so"]
def n140 : List PySem.Str := ["tin", "below_so", "drawn", "once_so", "wide_so", "twice_so"]
def n141 : List PySem.Str := ["script", "most_so", "cells_so", "k", "bit_so", "at_so"]
def n142 : List PySem.Str := ["got", "due", "mine", "its"]
def n143 : List PySem.Str := ["matter", "found", "k", "own", "its"]
def n144 : List PySem.Str := ["call_so", "rest_so", "matter"]
def n145 : List PySem.Str := ["part_so", "still_so", "half_so", "once_so", "song_so", "bar_so", "none_so", "noughts_so", "turns_so_v", "found"]
def n146 : List PySem.Str := ["script", "call_so", "rest_so", "matter", "odds_so", "got", "own"]
def nms : List (List PySem.Str) := ([n0, n1, n2, n3, n4, n5, n6, n7, n8, n9, n10, n11, n12, n13, n14, n15, n16, n17, n18, n19, n20, n21, n22, n23, n24] : List (List PySem.Str)) ++
  ([n25, n26, n27, n28, n29, n30, n31, n32, n33, n34, n35, n36, n37, n38, n39, n40, n41, n42, n43, n44, n45, n46, n47, n48, n49] : List (List PySem.Str)) ++
  ([n50, n51, n52, n53, n54, n55, n56, n57, n58, n59, n60, n61, n62, n63, n64, n65, n66, n67, n68, n69, n70, n71, n72, n73, n74] : List (List PySem.Str)) ++
  ([n75, n76, n77, n78, n79, n80, n81, n82, n83, n84, n85, n86, n87, n88, n89, n90, n91, n92, n93, n94, n95, n96, n97, n98, n99] : List (List PySem.Str)) ++
  ([n100, n101, n102, n103, n104, n105, n106, n107, n108, n109, n110, n111, n112, n113, n114, n115, n116, n117, n118, n119, n120, n121, n122, n123, n124] : List (List PySem.Str)) ++
  ([n125, n126, n127, n128, n129, n130, n131, n132, n133, n134, n135, n136, n137, n138, n139, n140, n141, n142, n143, n144, n145, n146] : List (List PySem.Str))
def fnT : List PySem.Str := (["is_number", "is_from", "is_within", "is_long", "tupled", "are_numbers", "is_fraction", "sure_fraction", "made", "two", "negative", "compared", "less_than", "floor_in", "ceiling_in", "common_of", "common_bottom", "is_wheel", "sure_wheel", "is_train", "sure_train", "led_in", "shift", "is_shift", "behind"] : List PySem.Str) ++
  (["put_in", "power", "from_elsewhere", "name_in", "ahead_in", "behind_in", "greatest_in", "is_turns", "sure_turns", "sure_few_most", "value_in", "bottoms_in_most", "most_in", "most", "sure_number", "sure_beats", "own_in", "come_back_in", "come_back", "is_return", "turning_in", "turning", "after_in", "fits_in", "is_raised"] : List PySem.Str) ++
  (["is_lowered", "turns_so", "is_reached", "is_lowest", "is_word", "sure_word", "sure_fitting", "wheel_of", "both_sure", "word_wheel", "turned_in", "least_in_turn", "is_row", "sure_numbers", "sure_row", "all_rows_rows", "rows_in", "led_in_row", "led_train", "wheel_on", "sure_turned", "told_rows", "best_in", "most_of", "bar_in"] : List PySem.Str) ++
  (["sure_barred", "same", "is_bar", "sure_of", "sure_two", "is_tooth", "are_teeth", "greater", "can_be_put", "tooth_put_in", "teeth", "teeth_in", "end_of_plan", "is_plan", "row_wheel_in", "all_rows_teeth", "sure_goal", "nearest", "is_fewest_plan", "are_word_parts", "are_teeth_parts", "is_demand", "demand_parts", "unlike", "many_teeth"] : List PySem.Str) ++
  (["is_so", "is_triple", "come_to", "is_above", "is_turned", "is_paper_against", "sums_of", "is_leading_plan", "is_reason_for", "seen_in", "strictly_in", "is_rung", "leader", "first_in", "next_in", "ladder_in", "is_ladder", "gains_in", "asked", "is_gainer", "is_lagger", "sure_song", "sure_pair", "sure_few_stairs", "can_in"] : List PySem.Str) ++
  (["bottoms_in_stairs", "below_in", "sure_wish", "in_round", "is_corner_in", "is_corner", "barred_in", "is_row_in", "is_corner_paper", "is_told_word", "is_wish", "are_wheels", "is_told_rung", "is_rungs", "_law_box", "_law_take", "_law_cells", "_law_same", "_law_odds", "_law_asked", "_law_rows", "law"] : List PySem.Str)
def ixT : List Nat := ([5, 6, 7, 8, 9, 10, 12, 13, 14, 15, 16, 17, 18, 19, 20, 21, 22, 24, 25, 26, 27, 28, 29, 30, 31] : List Nat) ++
  ([32, 33, 34, 36, 37, 38, 39, 42, 43, 44, 46, 47, 49, 50, 52, 53, 54, 55, 56, 57, 58, 59, 60, 62, 63] : List Nat) ++
  ([64, 65, 66, 67, 69, 70, 71, 72, 73, 74, 75, 76, 79, 80, 81, 82, 84, 85, 86, 87, 88, 89, 90, 91, 92] : List Nat) ++
  ([93, 94, 95, 100, 101, 102, 103, 104, 105, 106, 107, 108, 109, 110, 111, 112, 114, 115, 116, 119, 120, 121, 122, 123, 124] : List Nat) ++
  ([125, 126, 127, 128, 129, 130, 131, 132, 133, 135, 136, 138, 139, 140, 141, 142, 143, 145, 146, 147, 148, 151, 152, 153, 155] : List Nat) ++
  ([156, 158, 159, 160, 161, 162, 163, 164, 165, 167, 168, 169, 170, 171, 173, 174, 175, 176, 177, 178, 179, 180] : List Nat)
def cnT : List PySem.Str := (["MANY_most", "MANY_rows", "WAYS", "MOST_RING", "MOST_BOTTOM", "MOST_LETTERS"] : List PySem.Str)
def dnT : List (Nat × PySem.Str) := ([(6, "SIZES")] : List (Nat × PySem.Str))
def tb : Tb := ⟨fnT, cnT, dnT, true, true⟩
def ds : List Df := ([d0, d1, d2, d3, d4, d5, d6, d7, d8, d9, d10, d11, d12, d13, d14, d15, d16, d17, d18, d19, d20, d21, d22, d23, d24] : List Df) ++
  ([d25, d26, d27, d28, d29, d30, d31, d32, d33, d34, d35, d36, d37, d38, d39, d40, d41, d42, d43, d44, d45, d46, d47, d48, d49] : List Df) ++
  ([d50, d51, d52, d53, d54, d55, d56, d57, d58, d59, d60, d61, d62, d63, d64, d65, d66, d67, d68, d69, d70, d71, d72, d73, d74] : List Df) ++
  ([d75, d76, d77, d78, d79, d80, d81, d82, d83, d84, d85, d86, d87, d88, d89, d90, d91, d92, d93, d94, d95, d96, d97, d98, d99] : List Df) ++
  ([d100, d101, d102, d103, d104, d105, d106, d107, d108, d109, d110, d111, d112, d113, d114, d115, d116, d117, d118, d119, d120, d121, d122, d123, d124] : List Df) ++
  ([d125, d126, d127, d128, d129, d130, d131, d132, d133, d134, d135, d136, d137, d138, d139, d140, d141, d142, d143, d144, d145, d146] : List Df)
def cs : List PV := ([.int 2000, .int 600, .tup false [.int 1, .int (-1)], .int 8, .int 6, .int 8, .tup false [.tup false [.str "train", .int 3], .tup false [.str "most", .int 3], .tup false [.str "word", .int 4], .tup false [.str "teeth", .int 4]]] : List PV)

theorem ck0 : (List.range' 0 40).all (chkK look tb ds nms 400) = true := by decide +kernel
theorem ck1 : (List.range' 40 40).all (chkK look tb ds nms 400) = true := by decide +kernel
theorem ck2 : (List.range' 80 40).all (chkK look tb ds nms 400) = true := by decide +kernel
theorem ck3 : (List.range' 120 27).all (chkK look tb ds nms 400) = true := by decide +kernel
theorem ckm : chkM look tb cs = true := by decide +kernel
theorem cks : ∀ j, j < tb.fn.length → chkK look tb ds nms 400 j = true := fun j hj => by
  have hj : j < 147 := hj
  have h : (0 ≤ j ∧ j < 40) ∨ (40 ≤ j ∧ j < 80) ∨ (80 ≤ j ∧ j < 120) ∨ (120 ≤ j ∧ j < 147) := by omega
  rcases h with h | h | h | h
  · exact List.all_eq_true.mp ck0 j (List.mem_range'_1.mpr ⟨by omega, by omega⟩)
  · exact List.all_eq_true.mp ck1 j (List.mem_range'_1.mpr ⟨by omega, by omega⟩)
  · exact List.all_eq_true.mp ck2 j (List.mem_range'_1.mpr ⟨by omega, by omega⟩)
  · exact List.all_eq_true.mp ck3 j (List.mem_range'_1.mpr ⟨by omega, by omega⟩)
end Pg

namespace Pg
open Ev PySem PySem.Spec PyProof.Rows L2
/-- the law, its draw given -/
def lawD (e : E) : Df := ⟨1, 7, (.cons (.for_ (.cons (.n 1) (.cons (.n 2) (.cons (.n 3) .nil))) (.e (.call 145 (.cons e .nil))) (.cons (.asg (.n 4) (.callS 143 (.cons (.v 3) .nil)))
    (.cons (.asg (.n 5) (.comp [6] (.n 6) (.e (.bin .add (.lst (.cons (.v 3) .nil)) (.v 4))) .none (.call 144 (.cons (.v 1) (.cons (.v 2) (.cons (.v 6) .nil))))))
    (.cons (.ifs (.not (.call 142 (.cons (.v 5) (.cons (.bin .add (.lst (.cons (.bl true) .nil)) (.bin .mul (.lst (.cons (.bl false) .nil)) (.bi .len (.cons (.v 4) .nil)))) .nil)))) (.cons (.ret (.bl false))
    .nil) .nil)
    .nil))))
    (.cons (.ret (.bl true))
    .nil))⟩
theorem law_is : nth ds 146 = some (lawD (.call 140 (.cons (boxE 139 141 1) (.cons (.int 3) .nil)))) := rfl
def isT : Ev.R PV → Bool
  | .ok (.bl true) _ => true
  | _ => false
theorem isT_ok {r : Ev.R PV} (h : isT r = true) : ∃ S, r = .ok (.bl true) S := by
  unfold isT at h
  split at h
  · exact ⟨_, rfl⟩
  · cases h
theorem part0 (A B : List PV) : isT (runD (fns ds cs 14) cs (lawD (.int 0)) [.ref 0] [.fro A, .lst B]) = true := by kernel_rfl
theorem part1 (A B : List PV) : isT (runD (fns ds cs 14) cs (lawD (.int 1)) [.ref 0] [.fro A, .lst B]) = true := by kernel_rfl
theorem part2 (A B : List PV) : isT (runD (fns ds cs 14) cs (lawD (.int 2)) [.ref 0] [.fro A, .lst B]) = true := by kernel_rfl
theorem same {F : Fn} {e e' : E} {S S' S1 : Store} {v : PV} (h : ev F cs e (some (.ref 0) :: repN none 6) S = .ok v S1) (h' : ev F cs e' (some (.ref 0) :: repN none 6) S' = .ok v S1) : runD F cs (lawD e) [.ref 0] S = runD F cs (lawD e') [.ref 0] S' := by
  have e1 : evi F cs (.e (.call 145 (.cons e .nil))) (List.map some [PV.ref 0] ++ repN none (7 - 1)) S = evi F cs (.e (.call 145 (.cons e' .nil))) (List.map some [PV.ref 0] ++ repN none (7 - 1)) S' := by
    show evi F cs (.e (.call 145 (.cons e .nil))) (some (.ref 0) :: repN none 6) S = evi F cs (.e (.call 145 (.cons e' .nil))) (some (.ref 0) :: repN none 6) S'
    simp only [evi, ev, evs, h, h', R.bnd]
  unfold runD lawD
  simp only [Ev.execs, Ev.exec, e1]
def depth : Nat := 14
theorem plain (ns : List Int) (hn : ns.length ≤ 63) : ∃ S', fns ds cs (depth + 1) 146 [.ref 0] [.fro (ns.map .int)] = .ok (.bl true) S' := by
  show ∃ S', fns ds cs (14 + 1) 146 [.ref 0] [.fro (ns.map .int)] = .ok (.bl true) S'
  rw [fns, law_is]
  dsimp only
  obtain ⟨c, p, h1, h2, h⟩ := drawE_ok (n := 13) (C := cs) (ds := ds) (kt := 140) (kb := 139) (kc := 141) (m := 1) (w := 3) rfl rfl rfl (by omega) (by omega) (by omega) (by omega) hn (fr := repN none 6)
  have lit : ∀ q : Int, p = q → runD (fns ds cs 14) cs (lawD (.call 140 (.cons (boxE 139 141 1) (.cons (.int 3) .nil)))) [.ref 0] [.fro (ns.map .int)] = runD (fns ds cs 14) cs (lawD (.int q)) [.ref 0] [.fro (ns.map .int), .lst (c.map .int)] := fun q e => by
    subst e
    exact same h rfl
  have hp : p = 0 ∨ p = 1 ∨ p = 2 := by omega
  rcases hp with hp | hp | hp
  · rw [lit 0 hp]; exact isT_ok (part0 _ _)
  · rw [lit 1 hp]; exact isT_ok (part1 _ _)
  · rw [lit 2 hp]; exact isT_ok (part2 _ _)
end Pg

namespace Pg
open PySem PySem.W PySem.Calls PyProof.Rows
end Pg
open PySem PySem.W PySem.Calls PyProof.Rows
theorem PySem.Challenge.cw_bothwheels_k65_judges_of_things_bent_holds : PySem.Challenge.rw_bothwheels_k65_judges_of_things_bent.Holds := by
  w_on; o_law
  refine EvHead.head_imp (r := OpenLaw.row PySem.Challenge.rw_bothwheels_k65_judges_of_things_bent) (q := view (OpenLaw.row PySem.Challenge.rw_bothwheels_k65_judges_of_things_bent).prog [180]) (H := Pg.look.hook) (ob := Pg.ob) (M := 20000) (loose := Pg.names) (d := HandSHeadRun.topDef (OpenLaw.row PySem.Challenge.rw_bothwheels_k65_judges_of_things_bent).prog 180) (kwd := []) Pg.ob_eq Pg.run
    (by kernel_rfl) (by kernel_rfl) (by kernel_rfl) (by rfl) (by first | assumption | decide +kernel) (by decide +kernel) ⟨rfl, rfl, rfl, rfl, rfl, by decide +kernel⟩ ?hw ?hc
  case hw => w_witness2
  case hc =>
    exact Ev.law_end (l := PySem.Challenge.rw_bothwheels_k65_judges_of_things_bent) (L := Pg.look) (T := Pg.tb) (ds := Pg.ds) (nms := Pg.nms) (C := Pg.cs) (fuel := 400) (n := Pg.depth) (k := 146) (y := "script") (a := ⟨987, 986, Pg.top 180⟩)
      Pg.cks Pg.ckm rfl (by kernel_rfl) ⟨rfl, by decide, by decide⟩ (by kernel_rfl) (by kernel_rfl) (by kernel_rfl) Pg.plain
