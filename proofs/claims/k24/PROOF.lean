import PyProof.Rows.All
import Wide.All
import OpenK.AllK
import Wide.FinOn
import PySem.Str
import HandS.ForMost
import HandS.Deep
import HandS.Exc
import HandS.CallSlots
import HandS.TryOnly
import KE.KDictWalk
import KE.KDictKeyed
import HandS.TupAny
import HandS.TupMul
import HandS.TupLe
import HandS.Style
import HandS.Dict
import HandS.Steps
import HandS.IsInst
import KE.GoesMore
import KE.GoesEnum
import HandS.ExcOwn
import KE.SortData
import HandS.SortRule
import HandS.Defaults
import HandS.HeadHook2
import HandS.Head0
import HandS.Head1
import HandS.Head2
import HandS.HeadEnd
import HandS.HeadHook1
import HandS.HeadWalk
import KE.KStateDown
import PySem.Challenge.RW_passlights_k24_whole_long_numbers_of_row
set_option Elab.async false
set_option linter.all false
set_option maxRecDepth 100000
set_option maxHeartbeats 4000000
section
set_option autoImplicit false
/-! Core: values, an AST for the subset of Python that the program uses, and its interpreter. -/
namespace G
open PySem (Str)

inductive Tag where | own | val | bor
  deriving DecidableEq

/-- values: lists and dicts are values, too; ref n: the n-th cell of the store (a shared list or dict) -/
inductive PV where
  | non | bl (b : Bool) | int (i : Int) | str (s : Str)
  | tup (xs : List PV) | lst (xs : List PV) | dct (ks vs : List PV)
  | ref (n : Nat) | fn (f : Nat) | exc (c : Nat) (fs : List PV)

abbrev Slots := List (Option (Tag × PV))
abbrev St := List PV

inductive R (α : Type) where
  | ok (a : α) (S : St) | ex (e : PV) (S : St) | no

def R.bind {α β : Type} : R α → (α → St → R β) → R β
  | .ok a S, f => f a S
  | .ex e S, _ => .ex e S
  | .no, _ => .no

inductive SR where
  | nx (σ : Slots) (S : St) | rt (v : PV) (S : St) | bk (σ : Slots) (S : St) | ex (e : PV) (σ : Slots) (S : St) | no

inductive Bop where | add | sub | mul | fdiv | mod | pow
  deriving DecidableEq
inductive Cop where | eq | ne | lt | le | gt | ge | in_ | notIn
  deriving DecidableEq
inductive Bi where | len | abs | int | str | max2 | min2 | bool
  deriving DecidableEq
inductive Bt where | sorted | sortset | lenset | tuple | list | sum | max | min | dict
  deriving DecidableEq
inductive Mt where | get | count | index | join | replace | split
  deriving DecidableEq
inductive Ty where | int | bool | tuple | list | str | exc (c : Nat)
  deriving DecidableEq
inductive Tg where | nm (i : Nat) | tp (is : List Nat)
  deriving DecidableEq

inductive E where
  | var (i : Nat) | k (v : PV) | glob (g : Nat) | fnv (f : Nat)
  | tup (es : List E) | lst (es : List E) | dct (ks vs : List E) | box (e : E)
  | bin (o : Bop) (a b : E) | neg (a : E)
  | and_ (es : List E) | or_ (es : List E) | not_ (a : E)
  | cmp (o : Cop) (a b : E) | chain (o o' : Cop) (a b c : E)
  | deq (a : E) | dne (a : E)   -- a == {}, a != {}
  | isN (a : E) | notN (a : E) | isT (a : E) | notT (a : E)
  | ife (c a b : E)
  | idx (a i : E) | slice (a : E) (lo hi : List E) | rev (a : E)
  | call (f : Nat) (es : List E) | calld (a : E) (es : List E)
  | bi (b : Bi) (es : List E) | bit (b : Bt) (a : E) | meth (m : Mt) (a : E) (es : List E)
  | isin (a : E) (ts : List Ty) | attr (a : E)
  | comp (elt : E) (tg : Tg) (it : E) (cs : List E)
  | comp2 (elt : E) (tg : Tg) (it : E) (cs : List E) (tg1 : Tg) (it1 : E) (cs1 : List E)
  | range (es : List E) | enum (a : E) | zip (a b : E) | keys (a : E) | values (a : E)

inductive Sm where
  | asg (i : Nat) (e : E) | asgT (is : List Nat) (e : E) | par (is : List Nat) (es : List E)
  | setI (x : Nat) (i e : E) | app (x : Nat) (e : E) | pop (y : Option Nat) (x : Nat) (es : List E)
  | aug (i : Nat) (o : Bop) (e : E) | expr (e : E) | frz (i : Nat)
  | iff (c : E) (a b : List Sm) | whl (c : E) (b : List Sm) | for_ (tg : Tg) (it : E) (b : List Sm)
  | ret (e : E) | retN | rse (c : Nat) (es : List E) | try_ (b : List Sm) (i : Nat) (h : List Sm)
  | brk | pass_ | never

structure Fd where
  np : Nat          -- number of parameters
  n : Nat           -- number of slots
  pv : Bool := false  -- parameters enter as values that may escape
  body : List Sm

/-! ### data: equality, order -/
mutual
/-- plain data of depth at most n -/
def dat : PV → Nat → Bool
  | .non, _ => true
  | .bl _, _ => true
  | .int _, _ => true
  | .str s, _ => s.cps.all fun c => decide (c < 0x110000)
  | .tup xs, n => match n with | 0 => false | n + 1 => datL xs n
  | .lst xs, n => match n with | 0 => false | n + 1 => datL xs n
  | .dct _ _, _ => false
  | .ref _, _ => false
  | .fn _, _ => false
  | .exc _ _, _ => false
def datL : List PV → Nat → Bool
  | [], _ => true
  | x :: xs, n => dat x n && datL xs n
end

def b2i (b : Bool) : Int := if b then 1 else 0
mutual
def eqP : PV → PV → Bool
  | .non, y => (match y with | .non => true | _ => false)
  | .bl a, y => (match y with | .bl b => a == b | .int j => b2i a == j | _ => false)
  | .int i, y => (match y with | .bl b => i == b2i b | .int j => i == j | _ => false)
  | .str s, y => (match y with | .str t => decide (s = t) | _ => false)
  | .tup xs, y => (match y with | .tup ys => eqL xs ys | _ => false)
  | .lst xs, y => (match y with | .lst ys => eqL xs ys | _ => false)
  | .dct _ _, _ => false
  | .ref _, _ => false
  | .fn _, _ => false
  | .exc _ _, _ => false
def eqL : List PV → List PV → Bool
  | [], ys => (match ys with | [] => true | _ => false)
  | x :: xs, ys => (match ys with | y :: ys => eqP x y && eqL xs ys | [] => false)
end

/-- the ints of a tuple or list of ints -/
def intsOf : List PV → Option (List Int)
  | [] => some []
  | .int i :: xs => (match intsOf xs with | some r => some (i :: r) | none => none)
  | _ :: _ => none
def lexLt : List Int → List Int → Bool
  | [], [] => false
  | [], _ :: _ => true
  | _ :: _, [] => false
  | x :: xs, y :: ys => if x = y then lexLt xs ys else decide (x < y)
/-- x < y: ints, or tuples of ints -/
def ltP : PV → PV → Option Bool
  | .int i, .int j => some (decide (i < j))
  | .tup xs, .tup ys => (match intsOf xs, intsOf ys with | some a, some b => some (lexLt a b) | _, _ => none)
  | _, _ => none

def line : Nat := 16777216
def lineI : Int := 4611686018427387904

def cmpV (o : Cop) (a b : PV) : Option Bool :=
  match o with
  | .eq => if dat a 60 && dat b 60 then some (eqP a b) else none
  | .ne => if dat a 60 && dat b 60 then some (!eqP a b) else none
  | .lt => ltP a b
  | .gt => ltP b a
  | .le => (match ltP b a with | some r => some (!r) | none => none)
  | .ge => (match ltP a b with | some r => some (!r) | none => none)
  | .in_ => none
  | .notIn => none

/-! ### dicts: keys of one kind -/
mutual
def keyIn : PV → Nat → Bool
  | .non, _ => true
  | .bl _, _ => true
  | .int _, _ => true
  | .str _, _ => true
  | .tup xs, n => match n with | 0 => false | n + 1 => keyInL xs n
  | .lst _, _ => false
  | .dct _ _, _ => false
  | .ref _, _ => false
  | .fn _, _ => false
  | .exc _ _, _ => false
def keyInL : List PV → Nat → Bool
  | [], _ => true
  | x :: xs, n => keyIn x n && keyInL xs n
end
inductive Kd where | leaf | tup | bad
  deriving DecidableEq
def kd : PV → Kd
  | .int _ => .leaf
  | .str _ => .leaf
  | .tup xs => if keyInL xs 7 then .tup else .bad
  | _ => .bad
def kOk (k : PV) (ks : List PV) : Bool := kd k ≠ .bad && ks.all fun x => kd x = kd k
def look (k : PV) : List PV → List PV → Option PV
  | x :: ks, v :: vs => if eqP x k then some v else look k ks vs
  | _, _ => none
def hasK (k : PV) (ks : List PV) : Bool := ks.any fun x => eqP x k
def putV (k v : PV) : List PV → List PV → List PV
  | x :: ks, w :: vs => if eqP x k then v :: vs else w :: putV k v ks vs
  | _, _ => [v]
def putK (k : PV) (ks : List PV) : List PV := if hasK k ks then ks else ks ++ [k]
def delV (k : PV) : List PV → List PV → List PV
  | x :: ks, w :: vs => if eqP x k then vs else w :: delV k ks vs
  | _, _ => []
def delK (k : PV) : List PV → List PV
  | x :: ks => if eqP x k then ks else x :: delK k ks
  | [] => []

/-! ### values by the store -/
def deref (v : PV) (S : St) : PV := match v with
  | .ref n => (match S[n]? with | some w => w | none => .exc 0 [])
  | v => v
def chars (s : Str) : List PV := s.cps.toList.map fun c => .str ⟨#[c]⟩
def items (v : PV) : Option (List PV) := match v with
  | .tup xs => some xs
  | .lst xs => some xs
  | .str s => if s.cps.size ≤ line then some (chars s) else none
  | _ => none
def atP (xs : List PV) (i : Int) : Option PV :=
  if 0 ≤ i then xs[i.toNat]? else if -(xs.length : Int) ≤ i then xs[(i + xs.length).toNat]? else none
def seqs (v : PV) : Option (List PV) := match v with
  | .tup xs => some xs
  | .lst xs => some xs
  | _ => none
def idxV (a i : PV) (S : St) : Option PV := match deref a S with
  | .tup xs => (match i with | .int j => atP xs j | _ => none)
  | .lst xs => (match i with | .int j => atP xs j | _ => none)
  | .dct ks vs => if kOk i ks then look i ks vs else none
  | .str s => (match i with | .int j => if s.cps.size ≤ line then atP (chars s) j else none | _ => none)
  | .exc c xs => if c = 1000 then (match i with | .int j => atP xs j | _ => none) else none
  | _ => none
def inV (a b : PV) (S : St) : Option Bool := match deref b S with
  | .tup xs => if dat a 60 && datL xs 60 then some (xs.any fun x => eqP x a) else none
  | .lst xs => if dat a 60 && datL xs 60 then some (xs.any fun x => eqP x a) else none
  | .dct ks _ => if kOk a ks then some (hasK a ks) else none
  | .str s => (match a with | .str t => (match t.cps.toList with | [c] => some (s.cps.toList.any fun d => d == c) | _ => none) | _ => none)
  | _ => none
def cmpS (o : Cop) (a b : PV) (S : St) : Option Bool := match o with
  | .in_ => inV a b S
  | .notIn => (match inV a b S with | some r => some (!r) | none => none)
  | o => cmpV o a b
def small (i : Int) : Bool := i.natAbs < 18446744073709551616
def rep (xs : List PV) : Nat → List PV
  | 0 => []
  | n + 1 => xs ++ rep xs n
def binV (o : Bop) (a b : PV) : Option PV := match a, b with
  | .int i, .int j => (match o with
    | .add => some (.int (i + j))
    | .sub => some (.int (i - j))
    | .mul => if small i || small j then some (.int (i * j)) else none
    | .fdiv => if j ≠ 0 ∧ j.natAbs.log2 < 8000 then some (.int (i.fdiv j)) else none
    | .mod => if j ≠ 0 then some (.int (i.fmod j)) else none
    | .pow => if 0 ≤ j ∧ j ≤ 1000000 ∧ small i then some (.int (i ^ j.toNat)) else none)
  | .lst xs, .lst ys => (match o with | .add => if xs.length ≤ line ∧ ys.length ≤ line ∧ xs.length + ys.length ≤ line then some (.lst (xs ++ ys)) else none | _ => none)
  | .tup xs, .tup ys => (match o with | .add => if xs.length + ys.length ≤ line then some (.tup (xs ++ ys)) else none | _ => none)
  | .str s, .str t => (match o with | .add => if s.cps.size + t.cps.size ≤ line then some (.str ⟨s.cps ++ t.cps⟩) else none | _ => none)
  | .lst xs, .int j => (match o with | .mul => if j.natAbs ≤ line ∧ xs.length * j.toNat ≤ line then some (.lst (rep xs j.toNat)) else none | _ => none)
  | .tup xs, .int j => (match o with | .mul => if !xs.isEmpty ∧ 2 ≤ j ∧ j ≤ 1000 ∧ xs.length ≤ 1000 then some (.tup (rep xs j.toNat)) else none | _ => none)
  | _, _ => none
def augV (o : Bop) (i j : Int) : Option Int := match o with
  | .add => some (i + j)
  | .sub => some (i - j)
  | .mul => if small i || small j then some (i * j) else none
  | .fdiv => if 0 < j ∧ j < 1073741824 then some (i / j) else none
  | .mod => if 0 < j then some (i % j) else none
  | .pow => none
/-- a slice's bounds, brought into the length -/
def cut (n : Nat) (i : Int) : Nat := if i < 0 then (i + n).toNat else min i.toNat n
def sIxG (n d : Nat) : Option Int → Nat
  | none => d
  | some i => cut n i
def sliceL (xs : List PV) (lo hi : Option Int) : List PV := (xs.take (sIxG xs.length xs.length hi)).drop (sIxG xs.length 0 lo)
def optInt : Option PV → Option (Option Int)
  | none => some none
  | some (.int i) => some (some i)
  | _ => none
def sliceV (a : PV) (lo hi : Option Int) : Option PV := match a with
  | .lst xs => some (.lst (sliceL xs lo hi))
  | .tup xs => some (.tup (sliceL xs lo hi))
  | _ => none
def leP (a b : PV) : Bool := match ltP b a with | some r => !r | none => true
def ins (le : PV → PV → Bool) (x : PV) : List PV → List PV
  | [] => [x]
  | y :: ys => if le x y then x :: y :: ys else y :: ins le x ys
def isort (le : PV → PV → Bool) : List PV → List PV
  | [] => []
  | x :: xs => ins le x (isort le xs)
def allInt (xs : List PV) : Bool := xs.all fun x => match x with | .int _ => true | _ => false
def allTup (xs : List PV) : Bool := xs.all fun x => match x with | .tup ys => !ys.isEmpty && (intsOf ys).isSome | _ => false
def nub : List PV → List PV
  | [] => []
  | x :: xs => if (nub xs).any fun y => eqP y x then nub xs else x :: nub xs
def sortOk (xs : List PV) : Bool := allInt xs || allTup xs
def sumV : List PV → Option Int
  | [] => some 0
  | .int i :: xs => (match sumV xs with | some r => some (i + r) | none => none)
  | _ :: _ => none
def maxP (x : PV) : List PV → PV
  | [] => x
  | y :: ys => maxP (if ltP x y = some true then y else x) ys
def minP (x : PV) : List PV → PV
  | [] => x
  | y :: ys => minP (if ltP y x = some true then y else x) ys
def pairs : List PV → Option (List PV × List PV)
  | [] => some ([], [])
  | .tup [k, v] :: xs => (match pairs xs with | some (ks, vs) => some (k :: ks, v :: vs) | none => none)
  | _ :: _ => none
def putAll : List PV → List PV → List PV → List PV → Option (List PV × List PV)
  | [], [], ks, vs => some (ks, vs)
  | k :: r, v :: w, ks, vs => if kOk k ks then putAll r w (putK k ks) (putV k v ks vs) else none
  | _, _, _, _ => none
def bitV (b : Bt) (xs : List PV) : Option PV := match b with
  | .sorted => if sortOk xs then some (.lst (isort leP xs)) else none
  | .sortset => if sortOk xs ∧ xs.length < 64 then some (.lst (isort leP (nub xs))) else none
  | .lenset => if sortOk xs ∧ xs.length < 64 then some (.int (nub xs).length) else none
  | .tuple => some (.tup xs)
  | .list => some (.lst xs)
  | .sum => (match sumV xs with | some i => some (.int i) | none => none)
  | .max => (match xs with | x :: r => if sortOk xs then some (maxP x r) else none | [] => none)
  | .min => (match xs with | x :: r => if sortOk xs then some (minP x r) else none | [] => none)
  | .dict => (match pairs xs with
    | some (ks, vs) => (match putAll ks vs [] [] with | some (a, b) => some (.dct a b) | none => none)
    | none => none)
def bitIn (b : Bt) (x : PV) : Option (List PV) := match x with
  | .lst xs => some xs
  | .tup xs => (match b with | .tuple => some xs | .list => some xs | _ => none)
  | _ => none
def isOk : PV → Bool
  | .non => true
  | .bl _ => true
  | .int _ => true
  | .str _ => true
  | .tup _ => true
  | .lst _ => true
  | .dct _ _ => true
  | .ref _ => false
  | .fn _ => false
  | .exc _ _ => false
def lenV (v : PV) : Option Nat := match v with
  | .tup xs => some xs.length
  | .lst xs => some xs.length
  | .dct ks _ => some ks.length
  | .str s => if s.cps.size ≤ line then some s.cps.size else none
  | .exc c xs => if c = 1000 then some xs.length else none
  | _ => none
def biV (b : Bi) (vs : List PV) (S : St) : Option PV := match b, vs with
  | .len, [v] => (match lenV (deref v S) with | some n => some (.int n) | none => none)
  | .abs, [.int i] => some (.int (if i < 0 then -i else i))
  | .int, [.int i] => some (.int i)
  | .int, [.bl b] => some (.int (b2i b))
  | .bool, [.int i] => some (.bl (i != 0))
  | .bool, [.bl b] => some (.bl b)
  | .str, [.int i] => if i.natAbs.log2 < 1920 then some (.str (Str.ofString (toString i))) else none
  | .max2, [.int i, .int j] => some (.int (if j > i then j else i))
  | .min2, [.int i, .int j] => some (.int (if j < i then j else i))
  | _, _ => none
def countV (x : PV) (xs : List PV) : Nat := (xs.filter fun y => eqP y x).length
def findV (x : PV) : List PV → Nat → Option Nat
  | [], _ => none
  | y :: ys, n => if eqP y x then some n else findV x ys (n + 1)
def methV (m : Mt) (a : PV) (vs : List PV) : Option PV := match m, a, vs with
  | .get, .dct ks ws, [k] => if kOk k ks then some ((look k ks ws).getD .non) else none
  | .get, .dct ks ws, [k, d] => if kOk k ks then some ((look k ks ws).getD d) else none
  | .count, .lst xs, [x] => if dat x 60 && datL xs 60 then some (.int (countV x xs)) else none
  | .count, .tup xs, [x] => if dat x 60 && datL xs 60 then some (.int (countV x xs)) else none
  | .index, .lst xs, [x] => if dat x 60 && datL xs 60 then (match findV x xs 0 with | some n => some (.int n) | none => none) else none
  | .index, .tup xs, [x] => if dat x 60 && datL xs 60 then (match findV x xs 0 with | some n => some (.int n) | none => none) else none
  | _, _, _ => none
def isinV (v : PV) : Ty → Bool
  | .int => (match v with | .int _ => true | .bl _ => true | _ => false)
  | .bool => (match v with | .bl _ => true | _ => false)
  | .tuple => (match v with | .tup _ => true | _ => false)
  | .list => (match v with | .lst _ => true | _ => false)
  | .str => (match v with | .str _ => true | _ => false)
  | .exc c => (match v with | .exc d _ => decide (c = 0 ∨ c = d) | _ => false)
def rangeL (lo : Int) : Nat → List PV
  | 0 => []
  | n + 1 => .int lo :: rangeL (lo + 1) n
def rangeC (lo c : Int) : Nat → List PV
  | 0 => []
  | n + 1 => .int lo :: rangeC (lo + c) c n
def rangeN (lo hi c : Int) : Nat := if c > 0 then ((hi - lo + c - 1) / c).toNat else if c < 0 then ((lo - hi - c - 1) / (-c)).toNat else 0
def rangeV : List PV → Option (List PV)
  | [.int n] => if -lineI ≤ n ∧ n < line then some (rangeL 0 n.toNat) else none
  | [.int a, .int b] => if -lineI ≤ a ∧ a < lineI ∧ b < lineI ∧ -lineI ≤ b ∧ b - a < line then some (rangeL a (b - a).toNat) else none
  | [.int a, .int b, .int c] => if -lineI ≤ a ∧ a < lineI ∧ b < lineI ∧ -lineI ≤ b ∧ c.natAbs < 1073741824 ∧ c ≠ 0 ∧ rangeN a b c < line then some (rangeC a c (rangeN a b c)) else none
  | _ => none
def enumL : List PV → Nat → List PV
  | [], _ => []
  | x :: xs, n => .tup [.int n, x] :: enumL xs (n + 1)
def zipL : List PV → List PV → List PV
  | x :: xs, y :: ys => .tup [x, y] :: zipL xs ys
  | _, _ => []

/-! ### slots -/
def cont : PV → Bool
  | .lst _ => true
  | .dct _ _ => true
  | _ => false
def getS (σ : Slots) (i : Nat) : Option (Tag × PV) := match σ[i]? with
  | some x => x
  | none => none
def readV (br : Bool) (σ : Slots) (i : Nat) : Option PV := match getS σ i with
  | some (t, v) => if br || t = .val || !cont v then some v else none
  | none => none
def setS (σ : Slots) (i : Nat) (t : Tag) (v : PV) : Slots := σ.set i (some (t, v))
def setAll (σ : Slots) : List Nat → List PV → Option Slots
  | [], [] => some σ
  | i :: is, v :: vs => setAll (setS σ i .val v) is vs
  | _, _ => none
def bindT (σ : Slots) (v : PV) : Tg → Option Slots
  | .nm i => some (setS σ i .val v)
  | .tp is => (match v with | .tup xs => setAll σ is xs | _ => none)
def op1 {α : Type} (o : Option α) (S : St) : R α := match o with | some a => .ok a S | none => .no

structure Ctx where
  call : Nat → List PV → St → R PV
  glob : Nat → PV

/-! ### expressions -/
def R.noEx {α : Type} : R α → R α
  | .ok a S => .ok a S
  | _ => .no
def compGo (f : PV → St → R (Option PV)) : List PV → List PV → St → R PV
  | [], acc, S => .ok (.lst acc) S
  | x :: xs, acc, S => (f x S).noEx.bind fun r S => match r with
    | some v => compGo f xs (acc ++ [v]) S
    | none => compGo f xs acc S
def compGo2 (f : PV → List PV → St → R (List PV)) : List PV → List PV → St → R PV
  | [], acc, S => .ok (.lst acc) S
  | x :: xs, acc, S => (f x acc S).noEx.bind fun acc S => compGo2 f xs acc S
def compIn (f : PV → St → R (Option PV)) : List PV → List PV → St → R (List PV)
  | [], acc, S => .ok acc S
  | x :: xs, acc, S => (f x S).bind fun r S => match r with
    | some v => if acc.length < line then compIn f xs (acc ++ [v]) S else .no
    | none => compIn f xs acc S
def isNonB : PV → Bool
  | .non => true
  | _ => false
def isTrB : PV → Bool
  | .bl b => b
  | _ => false
def asB (v : PV) (S : St) : R Bool := match v with | .bl b => .ok b S | _ => .no

mutual
def evE (C : Ctx) : E → Bool → Slots → St → R PV
  | .var i, br, σ, S => op1 (readV br σ i) S
  | .k v, _, _, S => .ok v S
  | .glob g, _, _, S => .ok (C.glob g) S
  | .fnv f, _, _, S => .ok (.fn f) S
  | .tup es, _, σ, S => (evEs C es false σ S).bind fun vs S => .ok (.tup vs) S
  | .lst es, _, σ, S => (evEs C es false σ S).bind fun vs S => .ok (.lst vs) S
  | .dct ks vs, _, σ, S => (evEs C ks false σ S).bind fun a S => (evEs C vs false σ S).bind fun b S =>
      op1 (match putAll a b [] [] with | some (x, y) => some (.dct x y) | none => none) S
  | .box e, _, σ, S => (evE C e false σ S).bind fun v S => if cont v = true then .ok (.ref S.length) (S ++ [v]) else .no
  | .bin o a b, _, σ, S => (evE C a true σ S).bind fun x S => (evE C b true σ S).bind fun y S => op1 (binV o x y) S
  | .neg a, _, σ, S => (evE C a true σ S).bind fun x S => (match x with | .int i => .ok (.int (-i)) S | _ => .no)
  | .and_ es, _, σ, S => (evAnd C es σ S).bind fun b S => .ok (.bl b) S
  | .or_ es, _, σ, S => (evOr C es σ S).bind fun b S => .ok (.bl b) S
  | .not_ a, _, σ, S => ((evE C a true σ S).bind asB).bind fun b S => .ok (.bl (!b)) S
  | .cmp o a b, _, σ, S => (evE C a true σ S).bind fun x S => (evE C b true σ S).bind fun y S => (op1 (cmpS o x y S) S).bind fun b S => .ok (.bl b) S
  | .chain o o' a b c, _, σ, S => (evE C a true σ S).bind fun x S => (evE C b true σ S).bind fun y S => (op1 (cmpS o x y S) S).bind fun r S =>
      if r = true then (evE C c true σ S).bind fun z S => (op1 (cmpS o' y z S) S).bind fun b S => .ok (.bl b) S else .ok (.bl false) S
  | .deq a, _, σ, S => (evE C a true σ S).bind fun x S => (match deref x S with | .dct ks _ => .ok (.bl ks.isEmpty) S | _ => .no)
  | .dne a, _, σ, S => (evE C a true σ S).bind fun x S => (match deref x S with | .dct ks _ => .ok (.bl (!ks.isEmpty)) S | _ => .no)
  | .isN a, _, σ, S => (evE C a true σ S).bind fun x S => .ok (.bl (isNonB x)) S
  | .notN a, _, σ, S => (evE C a true σ S).bind fun x S => .ok (.bl (!isNonB x)) S
  | .isT a, _, σ, S => (evE C a true σ S).bind fun x S => .ok (.bl (isTrB x)) S
  | .notT a, _, σ, S => (evE C a true σ S).bind fun x S => .ok (.bl (!isTrB x)) S
  | .ife c a b, _, σ, S => ((evE C c true σ S).bind asB).bind fun t S => if t = true then evE C a false σ S else evE C b false σ S
  | .idx a i, _, σ, S => (evE C a true σ S).bind fun x S => (evE C i true σ S).bind fun y S => op1 (idxV x y S) S
  | .slice a lo hi, _, σ, S => (evE C a true σ S).bind fun x S => ((evEs C lo true σ S).bind fun l S => op1 (optInt l.head?) S).bind fun l S => ((evEs C hi true σ S).bind fun h S => op1 (optInt h.head?) S).bind fun h S => op1 (sliceV x l h) S
  | .rev a, _, σ, S => (evE C a true σ S).bind fun x S => (match x with | .lst xs => .ok (.lst xs.reverse) S | .tup xs => .ok (.tup xs.reverse) S | _ => .no)
  | .call f es, _, σ, S => (evEs C es true σ S).bind fun vs S => C.call f vs S
  | .calld a es, _, σ, S => (evE C a true σ S).bind fun f S => (evEs C es true σ S).bind fun vs S => (match f with | .fn n => C.call n vs S | _ => .no)
  | .bi b es, _, σ, S => (evEs C es true σ S).bind fun vs S => op1 (biV b vs S) S
  | .bit b a, _, σ, S => (evE C a true σ S).bind fun x S => (op1 (bitIn b (deref x S)) S).bind fun xs S => op1 (bitV b xs) S
  | .meth m a es, _, σ, S => (evE C a true σ S).bind fun x S => (evEs C es false σ S).bind fun vs S => op1 (methV m (deref x S) vs) S
  | .isin a ts, _, σ, S => (evE C a true σ S).bind fun x S => if isOk (deref x S) then .ok (.bl (ts.any fun t => isinV (deref x S) t)) S else .no
  | .attr a, _, σ, S => (evE C a true σ S).bind fun x S => (match x with | .exc _ [v] => .ok v S | _ => .no)
  | .comp elt tg it cs, _, σ, S => ((evE C it true σ S).bind fun x S => op1 (items x) S).bind fun xs S => compGo (fun x S => match bindT σ x tg with
      | some σ' => (evAnd C cs σ' S).bind fun b S => if b = true then (evE C elt false σ' S).bind fun v S => .ok (some v) S else .ok none S
      | none => .no) xs [] S
  | .comp2 elt tg it cs tg1 it1 cs1, _, σ, S => ((evE C it true σ S).bind fun x S => op1 (items x) S).bind fun xs S => compGo2 (fun x acc S => match bindT σ x tg with
      | some σ' => (evAnd C cs σ' S).bind fun b S => if b = true then ((evE C it1 true σ' S).bind fun x S => op1 (items x) S).bind fun ys S => compIn (fun y S => match bindT σ' y tg1 with
          | some σ2 => (evAnd C cs1 σ2 S).bind fun b S => if b = true then (evE C elt false σ2 S).bind fun v S => .ok (some v) S else .ok none S
          | none => .no) ys acc S else .ok acc S
      | none => .no) xs [] S
  | .range es, _, σ, S => (evEs C es true σ S).bind fun vs S => (op1 (rangeV vs) S).bind fun xs S => .ok (.lst xs) S
  | .enum a, _, σ, S => (evE C a true σ S).bind fun x S => (op1 (seqs x) S).bind fun xs S => .ok (.lst (enumL xs 0)) S
  | .zip a b, _, σ, S => (evE C a true σ S).bind fun x S => (evE C b true σ S).bind fun y S => (op1 (items x) S).bind fun xs S => (op1 (items y) S).bind fun ys S => .ok (.lst (zipL xs ys)) S
  | .keys a, _, σ, S => (evE C a true σ S).bind fun x S => (match deref x S with | .dct ks _ => .ok (.lst ks) S | _ => .no)
  | .values a, _, σ, S => (evE C a true σ S).bind fun x S => (match deref x S with | .dct _ vs => .ok (.lst vs) S | _ => .no)
def evEs (C : Ctx) : List E → Bool → Slots → St → R (List PV)
  | [], _, _, S => .ok [] S
  | e :: es, br, σ, S => (evE C e br σ S).bind fun v S => (evEs C es br σ S).bind fun vs S => .ok (v :: vs) S
def evAnd (C : Ctx) : List E → Slots → St → R Bool
  | [], _, S => .ok true S
  | e :: es, σ, S => ((evE C e true σ S).bind asB).bind fun b S => if b = true then evAnd C es σ S else .ok false S
def evOr (C : Ctx) : List E → Slots → St → R Bool
  | [], _, S => .ok false S
  | e :: es, σ, S => ((evE C e true σ S).bind asB).bind fun b S => if b = true then .ok true S else evOr C es σ S
end
/-! ### statements -/
def frE : E → Bool
  | .lst _ => true
  | .dct _ _ => true
  | .comp _ _ _ _ => true
  | .comp2 _ _ _ _ _ _ _ => true
  | .slice _ _ _ => true
  | .rev _ => true
  | .bin _ _ _ => true
  | .bit b _ => (match b with | .sorted => true | .sortset => true | .list => true | .dict => true | _ => false)
  | _ => false
/-- the value to be stored, its tag; an own list or dict of a plain name moves -/
def rhs (C : Ctx) (e : E) (σ : Slots) (S : St) : R (Slots × Tag × PV) := match e with
  | .var i => (match getS σ i with
    | some (t, v) => if t = .own ∧ cont v = true then .ok (σ.set i none, .own, v) S else (op1 (readV false σ i) S).bind fun v S => .ok (σ, .val, v) S
    | none => .no)
  | e => (evE C e false σ S).bind fun v S => .ok (σ, (if frE e then .own else .val), v) S
def rhss (C : Ctx) : List E → Slots → St → R (Slots × List (Tag × PV))
  | [], σ, S => .ok (σ, []) S
  | e :: es, σ, S => (rhs C e σ S).bind fun r S => (rhss C es r.1 S).bind fun q S => .ok (q.1, r.2 :: q.2) S
def putAllS (σ : Slots) : List Nat → List (Tag × PV) → Option Slots
  | [], [] => some σ
  | i :: is, v :: vs => putAllS (setS σ i v.1 v.2) is vs
  | _, _ => none
def liftS {α : Type} (σ : Slots) (r : R α) (f : α → St → SR) : SR := match r with
  | .ok a S => f a S
  | .ex e S => .ex e σ S
  | .no => .no
def SR.andThen (r : SR) (f : Slots → St → SR) : SR := match r with
  | .nx σ S => f σ S
  | r => r
def setItem (a i v : PV) : Option PV := match a with
  | .lst xs => (match i with
    | .int j => if 0 ≤ j ∧ j < xs.length then some (.lst (xs.set j.toNat v)) else if j < 0 ∧ -(xs.length : Int) ≤ j then some (.lst (xs.set (j + xs.length).toNat v)) else none
    | _ => none)
  | .dct ks vs => if kOk i ks ∧ ks.length < line then some (.dct (putK i ks) (putV i v ks vs)) else none
  | _ => none
def popV (a : PV) (vs : List PV) : Option (PV × PV) := match a, vs with
  | .lst xs, [] => (match xs.getLast? with | some x => some (x, .lst xs.dropLast) | none => none)
  | .dct ks ws, [k] => if kOk k ks then (match look k ks ws with | some v => some (v, .dct (delK k ks) (delV k ks ws)) | none => none) else none
  | _, _ => none
def whileGo (c : Slots → St → R Bool) (b : Slots → St → SR) : Nat → Slots → St → SR
  | 0, _, _ => .no
  | n + 1, σ, S => liftS σ (c σ S) fun t S => if t = true then (match b σ S with
      | .nx σ S => whileGo c b n σ S
      | .bk σ S => .nx σ S
      | r => r) else .nx σ S
def forGo (b : PV → Slots → St → SR) : List PV → Slots → St → SR
  | [], σ, S => .nx σ S
  | x :: xs, σ, S => match b x σ S with
      | .nx σ S => forGo b xs σ S
      | .bk σ S => .nx σ S
      | r => r
def freeze (σ : Slots) (i : Nat) : Option Slots := match getS σ i with
  | some (.own, v) => some (setS σ i .val v)
  | _ => none
/-- the list or dict that a loop walks is held -/
def held (e : E) (σ : Slots) : Slots := match e with
  | .var i => (match freeze σ i with | some σ' => σ' | none => σ)
  | .enum a => held a σ
  | .keys a => held a σ
  | .values a => held a σ
  | _ => σ
def WF : Nat := 18446744073709551616

mutual
def exS (C : Ctx) : Sm → Slots → St → SR
  | .asg i e, σ, S => liftS σ (rhs C e σ S) fun r S => .nx (setS r.1 i r.2.1 r.2.2) S
  | .asgT is e, σ, S => liftS σ (evE C e false σ S) fun v S => (match bindT σ v (.tp is) with | some σ' => .nx σ' S | none => .no)
  | .par is es, σ, S => liftS σ (rhss C es σ S) fun r S => (match putAllS r.1 is r.2 with | some σ' => .nx σ' S | none => .no)
  | .setI x i e, σ, S => liftS σ (evE C e false σ S) fun v S => (match getS σ x with
      | some (t, a) => liftS σ (evE C i false σ S) fun j S => (match a with
        | .ref n => (match S[n]? with | some b => (match setItem b j v with | some b' => .nx σ (S.set n b') | none => .no) | none => .no)
        | a => if t = .own ∧ cont a = true then (match setItem a j v with | some a' => .nx (setS σ x .own a') S | none => .no) else .no)
      | none => .no)
  | .app x e, σ, S => (match getS σ x with
      | some (.own, .lst xs) => liftS σ (evE C e false σ S) fun v S => if xs.length < line then .nx (setS σ x .own (.lst (xs ++ [v]))) S else .no
      | _ => .no)
  | .pop y x es, σ, S => (match y, getS σ x, es with
      | some j, some (.own, .lst xs), [] => (match xs.getLast? with
        | some v => .nx (setS (setS σ x .own (.lst xs.dropLast)) j .val v) S
        | none => .no)
      | _, _, _ => .no)
  | .aug i o e, σ, S => (match getS σ i with
      | some (_, .int p) => liftS σ (evE C e false σ S) fun v S => (match v with
        | .int q => (match augV o p q with | some r => .nx (setS σ i .val (.int r)) S | none => .no)
        | _ => .no)
      | _ => .no)
  | .expr e, σ, S => liftS σ (evE C e false σ S) fun _ S => .nx σ S
  | .frz i, σ, S => (match freeze σ i with | some σ' => .nx σ' S | none => .no)
  | .iff c a b, σ, S => liftS σ ((evE C c true σ S).bind asB) fun t S => if t = true then exSs C a σ S else exSs C b σ S
  | .whl c b, σ, S => whileGo (fun σ S => (evE C c true σ S).bind asB) (fun σ S => exSs C b σ S) WF σ S
  | .for_ tg it b, σ, S => liftS σ ((evE C it true σ S).bind fun x S => op1 (items x) S) fun xs S =>
      forGo (fun x σ S => match bindT σ x tg with | some σ' => exSs C b σ' S | none => .no) xs (held it σ) S
  | .ret e, σ, S => liftS σ (rhs C e σ S) fun r S => .rt r.2.2 S
  | .retN, _, S => .rt .non S
  | .rse c es, σ, S => liftS σ (evEs C es false σ S) fun vs S => .ex (.exc c vs) σ S
  | .try_ b i h, σ, S => (match exSs C b σ S with
      | .ex e σ S => (match exSs C h (setS σ i .val e) S with
        | .nx σ S => .nx (σ.set i none) S
        | .bk σ S => .bk (σ.set i none) S
        | r => r)
      | r => r)
  | .brk, σ, S => .bk σ S
  | .pass_, σ, S => .nx σ S
  | .never, _, _ => .no
def exSs (C : Ctx) : List Sm → Slots → St → SR
  | [], σ, S => .nx σ S
  | s :: ss, σ, S => (exS C s σ S).andThen fun σ S => exSs C ss σ S
end

def fin (r : SR) : R PV := match r with
  | .nx _ S => .ok .non S
  | .rt v S => .ok v S
  | .ex e _ S => .ex e S
  | _ => .no
def startS (d : Fd) (vs : List PV) : Slots := vs.map (fun v => some ((if d.pv then Tag.val else Tag.bor), v)) ++ List.replicate (d.n - vs.length) none
/-- a call at depth at most k -/
def callF (T : Nat → Option Fd) (g : Nat → PV) : Nat → Nat → List PV → St → R PV
  | 0, _, _, _ => .no
  | k + 1, f, vs, S => match T f with
    | some d => if vs.length = d.np then fin (exSs ⟨callF T g k, g⟩ d.body (startS d vs) S) else .no
    | none => .no

example (C : Ctx) (σ : Slots) (s : St) : evE C (.tup [.k .non, .lst []]) true σ s = .ok (.tup [.non, .lst []]) s := rfl
example (C : Ctx) (σ : Slots) (s : St) : exSs C [.pass_, .ret (.k (.int 3))] σ s = .rt (.int 3) s := rfl
end G
end

section
/-! Sd0: what a value stands for in the heap. -/
namespace G
open PySem PySem.Spec PyProof.Rows L2

/-- a list that is never changed any more -/
def FzL (K : PySem.W.Frag) (H : Hp) (a : Addr) (vs : List V) : Prop := ∃ o, H a = some (.frz o (.lst vs))
theorem FzL.sq {K : PySem.W.Frag} {H : Hp} {a : Addr} {vs : List V} (h : FzL K H a vs) : SqL K H a vs := by
  obtain ⟨o, h⟩ := h
  exact .inl (.inr ⟨o, h⟩)
/-- the entries of a dict, as the heap has them -/
def DX (a : Addr) (es : Array DictEntry) : HO := .ext fun h => (a == sysModules) = false ∧ es.size ≤ sizeLine ∧ ∃ ep, h.DictRaw a es ep
def FzD (H : Hp) (a : Addr) (es : Array DictEntry) : Prop := ∃ o, H a = some (.frz o (DX a es))

mutual
def toKey : PV → NestedKey
  | .non => .none
  | .bl b => .num (b2i b)
  | .int i => .num i
  | .str s => .text s
  | .tup xs => .tup (toKeys xs)
  | .lst _ => .none
  | .dct _ _ => .none
  | .ref _ => .none
  | .fn _ => .none
  | .exc _ _ => .none
def toKeys : List PV → List NestedKey
  | [] => []
  | x :: xs => toKey x :: toKeys xs
end
structure DEnt (w : World) (es : Array DictEntry) (ks : List PV) (kv vv : List V) : Prop where
  key : Vals kv (es.toList.map (·.key))
  val : Vals vv (es.toList.map (·.val))
  hash : es.toList.map (·.hash) = ks.map fun k => (toKey k).hash w
  nd : (ks.map toKey).Nodup
  kind : ∀ k ∈ ks, ∀ k' ∈ ks, kd k = kd k'
  good : ∀ k ∈ ks, kd k ≠ .bad

structure Wd where
  P : Program
  w : World
  K : PySem.W.Frag
  fa : Nat → Addr
  ca : Nat → Value

/-- the law's script -/
def FzS (K : PySem.W.Frag) (H : Hp) (a : Addr) (vs : List V) : Prop := (∃ o, H a = some (.frz o (.lst vs))) ∨ ∃ (o : Obj) (its : Array Value) (n : Nat), K.lookup a = some o ∧ o.cls = .type "list" ∧ o.dict = none ∧ o.data = .seq its n ∧ its.size ≤ sizeLine ∧ Vals vs its.toList
theorem FzS.sq {K : PySem.W.Frag} {H : Hp} {a : Addr} {vs : List V} (h : FzS K H a vs) : SqL K H a vs := by
  rcases h with h | h
  · exact .inl (.inr h)
  · exact .inr h
mutual
def Rep (W : Wd) (β : List Addr) (H : Hp) : PV → V → Prop
  | .non, v => v = .non
  | .bl b, v => v = .bl b
  | .int i, v => v = .int i
  | .str s, v => v = .str s
  | .tup xs, v => ∃ a vs, v = .ref a ∧ SqT W.K H a vs ∧ RepL W β H xs vs
  | .lst xs, v => ∃ a vs, v = .ref a ∧ FzL W.K H a vs ∧ RepL W β H xs vs
  | .dct ks ws, v => ∃ a es kv vv, v = .ref a ∧ FzD H a es ∧ DEnt W.w es ks kv vv ∧ RepL W β H ks kv ∧ RepL W β H ws vv
  | .ref n, v => ∃ a, v = .ref a ∧ β[n]? = some a
  | .fn f, v => v = .ref (W.fa f)
  | .exc c xs, v => c = 1000 ∧ ∃ a vs, v = .ref a ∧ FzS W.K H a vs ∧ RepL W β H xs vs
def RepL (W : Wd) (β : List Addr) (H : Hp) : List PV → List V → Prop
  | [], vs => vs = []
  | p :: ps, vs => ∃ v r, vs = v :: r ∧ Rep W β H p v ∧ RepL W β H ps r
end

/-- the root of a list or dict that may still change, at a -/
def Raw (W : Wd) (β : List Addr) (H : Hp) (a : Addr) : PV → Prop
  | .lst xs => ∃ vs, H a = some (.lst vs) ∧ RepL W β H xs vs
  | .dct ks ws => ∃ es kv vv, H a = some (DX a es) ∧ DEnt W.w es ks kv vv ∧ RepL W β H ks kv ∧ RepL W β H ws vv
  | _ => False
/-- what may be read -/
def RdP (W : Wd) (β : List Addr) (H : Hp) (p : PV) (v : V) : Prop := Rep W β H p v ∨ ∃ a, v = .ref a ∧ Raw W β H a p ∧ a ∉ β

/-- what stays of a heap for values: tuples, frozen things; the boxes are more -/
structure Up (β β' : List Addr) (H H' : Hp) : Prop where
  tup : ∀ a xs, H a = some (.tup xs) → H' a = some (.tup xs)
  frz : ∀ a o u, H a = some (.frz o u) → H' a = some (.frz o u)
  pre : β <+: β'
theorem Up.refl {β : List Addr} {H : Hp} : Up β β H H := ⟨fun _ _ h => h, fun _ _ _ h => h, List.prefix_rfl⟩
theorem Up.trans {β β' β'' : List Addr} {H H' H'' : Hp} (a : Up β β' H H') (b : Up β' β'' H' H'') : Up β β'' H H'' :=
  ⟨fun x xs h => b.tup x xs (a.tup x xs h), fun x o u h => b.frz x o u (a.frz x o u h), a.pre.trans b.pre⟩
section
variable {W : Wd} {β β' : List Addr} {H H' : Hp}
theorem Up.sqT {K : PySem.W.Frag} (u : Up β β' H H') {a : Addr} {xs : List V} (h : SqT K H a xs) : SqT K H' a xs := by
  rcases h with (h | ⟨o, h⟩) | h
  · exact .inl (.inl (u.tup _ _ h))
  · exact .inl (.inr ⟨o, u.frz _ _ _ h⟩)
  · exact .inr h
theorem Up.fzL {K : PySem.W.Frag} (u : Up β β' H H') {a : Addr} {xs : List V} (h : FzL K H a xs) : FzL K H' a xs := by
  obtain ⟨o, h⟩ := h
  exact ⟨o, u.frz _ _ _ h⟩
mutual
theorem Rep.up (u : Up β β' H H') : ∀ (p : PV) {v : V}, Rep W β H p v → Rep W β' H' p v
  | .non, _, h => by simpa only [Rep] using h
  | .bl _, _, h => by simpa only [Rep] using h
  | .int _, _, h => by simpa only [Rep] using h
  | .str _, _, h => by simpa only [Rep] using h
  | .tup xs, _, h => by
    simp only [Rep] at h ⊢
    obtain ⟨a, vs, e, s, r⟩ := h
    exact ⟨a, vs, e, u.sqT s, RepL.up u xs r⟩
  | .lst xs, _, h => by
    simp only [Rep] at h ⊢
    obtain ⟨a, vs, e, s, r⟩ := h
    exact ⟨a, vs, e, u.fzL s, RepL.up u xs r⟩
  | .dct ks ws, _, h => by
    simp only [Rep] at h ⊢
    obtain ⟨a, es, kv, vv, e, ⟨o, s⟩, h1, r1, r2⟩ := h
    exact ⟨a, es, kv, vv, e, ⟨o, u.frz _ _ _ s⟩, h1, RepL.up u ks r1, RepL.up u ws r2⟩
  | .ref n, _, h => by
    simp only [Rep] at h ⊢
    obtain ⟨a, e, s⟩ := h
    obtain ⟨t, rfl⟩ := u.pre
    refine ⟨a, e, ?_⟩
    rw [List.getElem?_append_left (List.getElem?_eq_some_iff.mp s).1]
    exact s
  | .fn _, _, h => by simpa only [Rep] using h
  | .exc c xs, _, h => by
    simp only [Rep] at h ⊢
    obtain ⟨e0, a, vs, e, s, r⟩ := h
    refine ⟨e0, a, vs, e, ?_, RepL.up u xs r⟩
    rcases s with ⟨o, s⟩ | s
    · exact .inl ⟨o, u.frz _ _ _ s⟩
    · exact .inr s
theorem RepL.up (u : Up β β' H H') : ∀ (ps : List PV) {vs : List V}, RepL W β H ps vs → RepL W β' H' ps vs
  | [], _, h => by simpa only [RepL] using h
  | p :: ps, _, h => by
    simp only [RepL] at h ⊢
    obtain ⟨v, r, e, h1, h2⟩ := h
    exact ⟨v, r, e, Rep.up u p h1, RepL.up u ps h2⟩
end
theorem RepL.length : ∀ {ps : List PV} {vs : List V}, RepL W β H ps vs → vs.length = ps.length
  | [], _, h => by simp only [RepL] at h; subst h; rfl
  | p :: ps, _, h => by
    simp only [RepL] at h
    obtain ⟨v, r, rfl, _, h2⟩ := h
    simp [RepL.length h2]
theorem RepL.get : ∀ {ps : List PV} {vs : List V} {i : Nat} {p : PV}, RepL W β H ps vs → ps[i]? = some p → ∃ v, vs[i]? = some v ∧ Rep W β H p v
  | [], _, _, _, _, e => by simp at e
  | q :: ps, _, 0, p, h, e => by
    simp only [RepL] at h
    obtain ⟨v, r, rfl, h1, _⟩ := h
    simp at e; subst e
    exact ⟨v, rfl, h1⟩
  | q :: ps, _, i + 1, p, h, e => by
    simp only [RepL] at h
    obtain ⟨v, r, rfl, _, h2⟩ := h
    obtain ⟨w, e1, e2⟩ := RepL.get (i := i) h2 (by simpa using e)
    exact ⟨w, by simpa using e1, e2⟩
theorem RepL.get' : ∀ {ps : List PV} {vs : List V} {i : Nat} {v : V}, RepL W β H ps vs → vs[i]? = some v → ∃ p, ps[i]? = some p ∧ Rep W β H p v := by
  intro ps vs i v h e
  have hl := h.length
  have hi := (List.getElem?_eq_some_iff.mp e).1
  have e2 : ps[i]? = some (ps[i]'(by omega)) := List.getElem?_eq_getElem (by omega)
  obtain ⟨w, e3, r⟩ := h.get e2
  rw [e] at e3; cases e3
  exact ⟨_, e2, r⟩
theorem RepL.append : ∀ {ps qs : List PV} {vs ws : List V}, RepL W β H ps vs → RepL W β H qs ws → RepL W β H (ps ++ qs) (vs ++ ws)
  | [], _, _, _, h, g => by simp only [RepL] at h; subst h; exact g
  | p :: ps, qs, _, ws, h, g => by
    simp only [RepL] at h
    obtain ⟨v, r, rfl, h1, h2⟩ := h
    simp only [List.cons_append, RepL]
    exact ⟨v, r ++ ws, rfl, h1, RepL.append h2 g⟩
theorem RepL.one {p : PV} {v : V} (h : Rep W β H p v) : RepL W β H [p] [v] := by
  simp only [RepL]; exact ⟨v, [], rfl, h, rfl⟩
theorem RepL.set : ∀ {ps : List PV} {vs : List V} (i : Nat) {p : PV} {v : V}, RepL W β H ps vs → Rep W β H p v → RepL W β H (ps.set i p) (vs.set i v)
  | [], _, _, _, _, h, _ => by simp only [RepL] at h; subst h; simp [RepL]
  | q :: ps, _, 0, p, v, h, g => by
    simp only [RepL] at h
    obtain ⟨w, r, rfl, _, h2⟩ := h
    simp only [List.set_cons_zero, RepL]
    exact ⟨v, r, rfl, g, h2⟩
  | q :: ps, _, i + 1, p, v, h, g => by
    simp only [RepL] at h
    obtain ⟨w, r, rfl, h1, h2⟩ := h
    simp only [List.set_cons_succ, RepL]
    exact ⟨w, r.set i v, rfl, h1, RepL.set i h2 g⟩
theorem RepL.take : ∀ {ps : List PV} {vs : List V} (n : Nat), RepL W β H ps vs → RepL W β H (ps.take n) (vs.take n)
  | [], _, n, h => by simp only [RepL] at h; subst h; simp [RepL]
  | q :: ps, _, 0, h => by simp [RepL]
  | q :: ps, _, n + 1, h => by
    simp only [RepL] at h
    obtain ⟨w, r, rfl, h1, h2⟩ := h
    simp only [List.take_succ_cons, RepL]
    exact ⟨w, r.take n, rfl, h1, RepL.take n h2⟩
theorem RepL.drop : ∀ {ps : List PV} {vs : List V} (n : Nat), RepL W β H ps vs → RepL W β H (ps.drop n) (vs.drop n)
  | [], _, n, h => by simp only [RepL] at h; subst h; simp [RepL]
  | q :: ps, _, 0, h => h
  | q :: ps, _, n + 1, h => by
    simp only [RepL] at h
    obtain ⟨w, r, rfl, h1, h2⟩ := h
    simp only [List.drop_succ_cons]
    exact RepL.drop n h2
theorem RepL.reverse : ∀ {ps : List PV} {vs : List V}, RepL W β H ps vs → RepL W β H ps.reverse vs.reverse
  | [], _, h => by simp only [RepL] at h; subst h; simp [RepL]
  | q :: ps, _, h => by
    simp only [RepL] at h
    obtain ⟨w, r, rfl, h1, h2⟩ := h
    simp only [List.reverse_cons]
    exact (RepL.reverse h2).append (RepL.one h1)
theorem Raw.up (u : Up β β' H H') {a : Addr} (ha : ∀ o, H a = some o → H' a = some o) : ∀ {p : PV}, Raw W β H a p → Raw W β' H' a p
  | .lst xs, ⟨vs, h, r⟩ => ⟨vs, ha _ h, RepL.up u xs r⟩
  | .dct ks ws, ⟨es, kv, vv, h, h1, r1, r2⟩ => ⟨es, kv, vv, ha _ h, h1, RepL.up u ks r1, RepL.up u ws r2⟩
  | .non, h => h.elim
  | .bl _, h => h.elim
  | .int _, h => h.elim
  | .str _, h => h.elim
  | .tup _, h => h.elim
  | .ref _, h => h.elim
  | .fn _, h => h.elim
  | .exc _ _, h => h.elim
theorem Raw.tracked {a : Addr} {p : PV} (h : Raw W β H a p) : ∃ u, H a = some u ∧ Mut (some u) := by
  cases p with
  | lst xs => obtain ⟨vs, h, _⟩ := h; exact ⟨_, h, trivial⟩
  | dct ks ws => obtain ⟨es, _, _, h, _⟩ := h; exact ⟨_, h, trivial⟩
  | _ => exact h.elim
theorem Raw.cont {a : Addr} {p : PV} (h : Raw W β H a p) : cont p = true := by
  cases p with
  | lst xs => rfl
  | dct ks ws => rfl
  | _ => exact h.elim
end

/-! ### freezing: a step of the abstract heap alone -/
section
variable {X : Cx} {pins : List (Addr × Obj)} {σ : L2.St} {H : Hp} {s : Shared}
theorem Inv.frz (I : Inv X pins σ H s) {a : Addr} {u : HO} {o : Obj} (h : H a = some u) (mu : Mut (some u)) (ho : s.heap.get? a = some o) (ok : ObjOk X.prog X.w (upd H a (.frz o u)) s.heap a u) : Inv X pins σ (upd H a (.frz o u)) s := by
  have ne : ∀ b, H b = none → b ≠ a := fun b n z => by rw [z, h] at n; cases n
  have nm : ∀ b w, H b = some w → ¬ Mut (some w) → b ≠ a := fun b w q n z => by rw [z, h] at q; cases q; exact n mu
  refine ⟨I.ok, I.os, I.bare, ⟨I.base.keep, I.base.slot, fun b ob q n x => ?_, I.base.there, fun b xs q => ?_, fun b ob w q => ?_, fun b ps q => ?_⟩, I.loc, I.cell, ?_, fun x c q => ?_, fun p hp => ?_, ?_, I.len⟩
  · have := I.base.free b ob q n x
    rw [upd_ne (ne b this)]; exact this
  · have z := I.base.tups b xs q
    rw [upd_ne (nm b _ z fun z => z)]; exact z
  · have z := I.base.frzs b ob w q
    rw [upd_ne (nm b _ z fun z => z)]; exact z
  · obtain ⟨more, z⟩ := I.base.tbls b ps q
    exact ⟨more, by rw [upd_ne (nm b _ z fun z => z)]; exact z⟩
  · rw [upd_ne (ne _ I.free)]; exact I.free
  · have := I.freeC x c q
    rw [upd_ne (ne c this)]; exact this
  · obtain ⟨e, n, r⟩ := I.pin p hp
    exact ⟨e, by rw [upd_ne (ne _ n)]; exact n, r⟩
  · intro b w q
    by_cases hb : b = a
    · subst hb; rw [upd_same] at q; cases q
      exact ⟨ho, ok⟩
    · rw [upd_ne hb] at q
      exact (I.hok b w q).stay (fun c v hc r => r) (fun c r => by rw [upd_ne (nm c _ r fun z => z)]; exact r) fun c xs r => by rw [upd_ne (nm c _ r fun z => z)]; exact r
theorem Inv.frzL (I : Inv X pins σ H s) {a : Addr} {vs : List V} (h : H a = some (.lst vs)) : ∃ o, Inv X pins σ (upd H a (.frz o (.lst vs))) s := by
  obtain ⟨z, its, n, r, e⟩ := I.hok a _ h
  exact ⟨_, Inv.frz I h trivial e ⟨z, its, n, r, e⟩⟩
theorem Inv.frzD (I : Inv X pins σ H s) {a : Addr} {es : Array DictEntry} (h : H a = some (DX a es)) : ∃ o, Inv X pins σ (upd H a (.frz o (DX a es))) s := by
  obtain ⟨z, ⟨o, e⟩, st⟩ := I.hok a _ h
  exact ⟨_, Inv.frz I h trivial e ⟨z, ⟨o, e⟩, st⟩⟩
end
theorem Up.frz1 {β : List Addr} {H : Hp} {a : Addr} {u w : HO} (h : H a = some u) (mu : Mut (some u)) : Up β β H (upd H a w) := by
  have nm : ∀ b v, H b = some v → ¬ Mut (some v) → b ≠ a := fun b v q n z => by rw [z, h] at q; cases q; exact n mu
  exact ⟨fun b xs q => by rw [upd_ne (nm b _ q fun z => z)]; exact q, fun b o v q => by rw [upd_ne (nm b _ q fun z => z)]; exact q, List.prefix_rfl⟩
theorem Up.new {β : List Addr} {H : Hp} {a : Addr} {w : HO} (h : H a = none) : Up β β H (upd H a w) :=
  ⟨fun b xs q => by rw [upd_ne (ne_of_none q h)]; exact q, fun b o v q => by rw [upd_ne (ne_of_none q h)]; exact q, List.prefix_rfl⟩
/-- a raw thing, frozen -/
theorem Raw.freeze {W : Wd} {β : List Addr} {X : Cx} {pins : List (Addr × Obj)} {σ : L2.St} {H : Hp} {s : Shared} {a : Addr} {p : PV} (h : Raw W β H a p) (I : Inv X pins σ H s) :
    ∃ w, Inv X pins σ (upd H a w) s ∧ Rep W β (upd H a w) p (.ref a) ∧ Up β β H (upd H a w) := by
  cases p with
  | lst xs =>
    obtain ⟨vs, h, r⟩ := h
    obtain ⟨o, J⟩ := Inv.frzL I h
    have u : Up β β H (upd H a (.frz o (.lst vs))) := Up.frz1 h trivial
    refine ⟨_, J, ?_, u⟩
    simp only [Rep]
    exact ⟨a, vs, rfl, ⟨o, upd_same⟩, RepL.up u xs r⟩
  | dct ks ws =>
    obtain ⟨es, kv, vv, h, h1, r1, r2⟩ := h
    obtain ⟨o, J⟩ := Inv.frzD I h
    have u : Up β β H (upd H a (.frz o (DX a es))) := Up.frz1 h trivial
    refine ⟨_, J, ?_, u⟩
    simp only [Rep]
    exact ⟨a, es, kv, vv, rfl, ⟨o, upd_same⟩, h1, RepL.up u ks r1, RepL.up u ws r2⟩
  | _ => exact h.elim

/-! ### steps, frames -/
/-- what an expression does to the heap: all that stood stands, but the boxes; new boxes are new -/
structure Stp (β β' : List Addr) (H H' : Hp) : Prop where
  up : Up β β' H H'
  keep : ∀ a o, H a = some o → a ∉ β → H' a = some o
  new : ∀ a, a ∈ β' → a ∈ β ∨ H a = none
theorem Stp.refl {β : List Addr} {H : Hp} : Stp β β H H := ⟨Up.refl, fun _ _ h _ => h, fun _ h => .inl h⟩
theorem Stp.trans {β β' β'' : List Addr} {H H' H'' : Hp} (a : Stp β β' H H') (b : Stp β' β'' H' H'') : Stp β β'' H H'' := by
  refine ⟨a.up.trans b.up, fun x o h n => b.keep x o (a.keep x o h n) fun z => ?_, fun x h => ?_⟩
  · rcases a.new x z with z | z
    · exact n z
    · rw [h] at z; cases z
  · rcases b.new x h with z | z
    · exact a.new x z
    · by_cases hx : x ∈ β
      · exact .inl hx
      · refine .inr ?_
        cases e : H x with
        | none => rfl
        | some o => rw [a.keep x o e hx] at z; cases z
theorem Stp.add {β : List Addr} {H : Hp} {a : Addr} {w : HO} (h : H a = none) : Stp β β H (upd H a w) :=
  ⟨Up.new h, fun b o q _ => by rw [upd_ne (ne_of_none q h)]; exact q, fun _ z => .inl z⟩
/-- a thing that came behind H is changed -/
theorem Stp.chg {β β' : List Addr} {H H1 : Hp} {a : Addr} {u w : HO} (s : Stp β β' H H1) (h : H a = none) (h1 : H1 a = some u) (mu : Mut (some u)) : Stp β β' H (upd H1 a w) :=
  ⟨s.up.trans (Up.frz1 h1 mu), fun b o q n => by rw [upd_ne (ne_of_none q h)]; exact s.keep b o q n, s.new⟩
section
variable {W : Wd} {β β' : List Addr} {H H' : Hp} {p : PV} {v : V}
theorem Stp.mem (s : Stp β β' H H') {a : Addr} {o : HO} (h : H a = some o) (n : a ∉ β) : a ∉ β' := fun z => by
  rcases s.new a z with z | z
  · exact n z
  · rw [h] at z; cases z
theorem Raw.stp {a : Addr} (r : Raw W β H a p) (s : Stp β β' H H') (n : a ∉ β) : Raw W β' H' a p ∧ a ∉ β' := by
  obtain ⟨u, h, _⟩ := r.tracked
  exact ⟨r.up s.up fun o q => s.keep a o q n, s.mem h n⟩
theorem RdP.stp (r : RdP W β H p v) (s : Stp β β' H H') : RdP W β' H' p v := by
  rcases r with r | ⟨a, e, r, n⟩
  · exact .inl (Rep.up s.up p r)
  · obtain ⟨h1, h2⟩ := r.stp s n
    exact .inr ⟨a, e, h1, h2⟩
end
/-- the boxes -/
structure BR (W : Wd) (β : List Addr) (S : G.St) (H : Hp) : Prop where
  len : β.length = S.length
  nd : β.Nodup
  cell : ∀ (n : Nat) p, S[n]? = some p → ∃ a, β[n]? = some a ∧ Raw W β H a p
/-- a def's frame: β0, H0 at its entry -/
structure Rel (W : Wd) (β0 : List Addr) (H0 : Hp) (β : List Addr) (S : G.St) (H : Hp) (σs : Slots) (σ : L2.St) : Prop where
  len : σs.length = σ.length
  val : ∀ i p, getS σs i = some (.val, p) → ∃ v, σ[i]? = some (some v) ∧ Rep W β H p v
  bor : ∀ i p, getS σs i = some (.bor, p) → ∃ v, σ[i]? = some (some v) ∧ (Rep W β H p v ∨ ∃ a, v = .ref a ∧ Raw W β H a p ∧ a ∉ β ∧ H0 a ≠ none)
  own : ∀ i p, getS σs i = some (.own, p) → ∃ v, σ[i]? = some (some v) ∧ ((cont p = false ∧ Rep W β H p v) ∨ ∃ a, v = .ref a ∧ Raw W β H a p ∧ a ∉ β ∧ H0 a = none)
  sep : ∀ i j p q a, i ≠ j → getS σs i = some (.own, p) → getS σs j = some (.own, q) → cont p = true → cont q = true → σ[i]? = some (some (.ref a)) → σ[j]? = some (some (.ref a)) → False
  br : BR W β S H
  stp : Stp β0 β H0 H
section
variable {W : Wd} {β0 β β' : List Addr} {H0 H H' : Hp} {S S' : G.St} {σs : Slots} {σ : L2.St}
theorem Rel.step (r : Rel W β0 H0 β S H σs σ) (s : Stp β β' H H') (b : BR W β' S' H') : Rel W β0 H0 β' S' H' σs σ where
  len := r.len
  val := fun i p h => let ⟨v, e, q⟩ := r.val i p h; ⟨v, e, Rep.up s.up p q⟩
  bor := fun i p h => by
    obtain ⟨v, e, q | ⟨a, e1, q, n, z⟩⟩ := r.bor i p h
    · exact ⟨v, e, .inl (Rep.up s.up p q)⟩
    · obtain ⟨h1, h2⟩ := q.stp s n
      exact ⟨v, e, .inr ⟨a, e1, h1, h2, z⟩⟩
  own := fun i p h => by
    obtain ⟨v, e, ⟨c, q⟩ | ⟨a, e1, q, n, z⟩⟩ := r.own i p h
    · exact ⟨v, e, .inl ⟨c, Rep.up s.up p q⟩⟩
    · obtain ⟨h1, h2⟩ := q.stp s n
      exact ⟨v, e, .inr ⟨a, e1, h1, h2, z⟩⟩
  sep := r.sep
  br := b
  stp := r.stp.trans s
/-- reading a slot -/
theorem Rel.read (r : Rel W β0 H0 β S H σs σ) {i : Nat} {t : Tag} {p : PV} (h : getS σs i = some (t, p)) : ∃ v, σ[i]? = some (some v) ∧ RdP W β H p v := by
  cases t with
  | val => obtain ⟨v, e, q⟩ := r.val i p h; exact ⟨v, e, .inl q⟩
  | bor =>
    obtain ⟨v, e, q | ⟨a, e1, q, n, z⟩⟩ := r.bor i p h
    · exact ⟨v, e, .inl q⟩
    · exact ⟨v, e, .inr ⟨a, e1, q, n⟩⟩
  | own =>
    obtain ⟨v, e, ⟨c, q⟩ | ⟨a, e1, q, n, z⟩⟩ := r.own i p h
    · exact ⟨v, e, .inl q⟩
    · exact ⟨v, e, .inr ⟨a, e1, q, n⟩⟩
theorem Rel.readV (r : Rel W β0 H0 β S H σs σ) {br : Bool} {i : Nat} {p : PV} (h : G.readV br σs i = some p) : ∃ v, σ[i]? = some (some v) ∧ (if br = true then RdP W β H p v else Rep W β H p v) := by
  unfold G.readV at h
  split at h
  · rename_i t w e
    split at h
    · rename_i c
      cases h
      cases br with
      | true => exact r.read e
      | false =>
        by_cases ht : t = .val
        · subst ht; exact r.val i p e
        · obtain ⟨v, e1, q⟩ := r.read e
          refine ⟨v, e1, ?_⟩
          rcases q with q | ⟨a, e2, q, n⟩
          · exact q
          · have ct := q.cont
            simp [ht, ct] at c
    · cases h
  · cases h
end

/-! ### readings of the interpreter -/
/-- what an exception is -/
def ExR (W : Wd) (β : List Addr) (H : Hp) (e : PV) (cls : Value) (d : Option Addr) : Prop := match e with
  | .exc c [] => cls = W.ca c ∧ d = none
  | .exc c [p] => cls = W.ca c ∧ ∃ a f v, d = some a ∧ H a = some (.xd [(f, v)]) ∧ Rep W β H p v
  | _ => False
/-- how a value comes: own: new and not yet shared -/
inductive Kn where | own | val | rd
  deriving DecidableEq
def Res (W : Wd) (k : Kn) (β : List Addr) (H : Hp) (β' : List Addr) (H' : Hp) (p : PV) (v : V) : Prop := match k with
  | .own => Rep W β' H' p v ∧ cont p = false ∨ ∃ a, v = .ref a ∧ Raw W β' H' a p ∧ a ∉ β' ∧ H a = none
  | .val => Rep W β' H' p v
  | .rd => RdP W β' H' p v
structure Pm where
  W : Wd
  C : Ctx
  β0 : List Addr
  H0 : Hp
  Wx : WX
/-- what follows an expression -/
def EK {α γ : Type} (M : Pm) (r : R α) (β : List Addr) (H : Hp) (σ : L2.St) (R : List Addr → Hp → α → γ → Prop) (Q : γ → Hp → Prop) : Prop := match r with
  | .ok p S' => ∀ v H' β', Stp β β' H H' → BR M.W β' S' H' → R β' H' p v → Q v H'
  | .ex e S' => ∀ cls d H' β', Stp β β' H H' → BR M.W β' S' H' → ExR M.W β' H' e cls d → M.Wx cls d σ H'
  | .no => False
def tE (M : Pm) (k : Kn) (br : Bool) (m : E) : TE := fun σ H Q => ∃ σs S β, Rel M.W M.β0 M.H0 β S H σs σ ∧ EK M (evE M.C m br σs S) β H σ (fun β' H' p v => Res M.W k β H β' H' p v) Q
def tEs (M : Pm) (k : Kn) (br : Bool) (ms : List E) : TA := fun σ H Q => ∃ σs S β, Rel M.W M.β0 M.H0 β S H σs σ ∧ EK M (evEs M.C ms br σs S) β H σ (fun β' H' ps vs => Paired (fun v p => Res M.W k β' H' β' H' p v) vs ps) Q
/-- the result's kind of a form -/
def isVar : E → Bool
  | .var _ => true
  | _ => false
def kn (br : Bool) (m : E) : Kn := if frE m then .own else if br && isVar m then .rd else .val
theorem impE {X : Cx} {e : Expr} {t t' : TE} (h : PE X e t) (g : ∀ σ H Q, t' σ H Q → t σ H Q) : PE X e t' := ⟨fun pins s σ H Q I w => h.run pins s σ H Q I (g σ H Q w)⟩
theorem impA {X : Cx} {e : List Expr} {t t' : TA} (h : PA X e t) (g : ∀ σ H Q, t' σ H Q → t σ H Q) : PA X e t' := ⟨fun pos pins s σ H Q I w => h.run pos pins s σ H Q I (g σ H Q w)⟩
theorem impT {X : Cx} {e : Expr} {t t' : TT} (h : PT X e t) (g : ∀ σ H Q, t' σ H Q → t σ H Q) : PT X e t' := ⟨fun pins s σ H Q I w => h.run pins s σ H Q I (g σ H Q w)⟩
theorem impS {X : Cx} {e : Stmt} {t t' : TS} (h : PS X e t) (g : ∀ D σ H, t' D σ H → t D σ H) : PS X e t' := ⟨fun pins s σ H D I w => h.run pins s σ H D I (g D σ H w)⟩
theorem impSs {X : Cx} {e : List Stmt} {t t' : TS} (h : PSs X e t) (g : ∀ D σ H, t' D σ H → t D σ H) : PSs X e t' := ⟨fun pins s σ H D I w => h.run pins s σ H D I (g D σ H w)⟩
/-- a step of the abstract heap alone behind an expression -/
def Gh (X : Cx) (Q : VK) : VK := fun v H1 => ∀ pins σ s, Inv X pins σ H1 s → ∃ H2, Inv X pins σ H2 s ∧ Q v H2
theorem ghostE {X : Cx} {e : Expr} {t t' : TE} (h : PE X e t) (g : ∀ σ H Q, t' σ H Q → t σ H (Gh X Q)) : PE X e t' := ⟨fun pins s σ H Q I w =>
  thn (h.run pins s σ H (Gh X Q) I (g σ H Q w)) fun u s' ⟨v, H1, I1, r, q⟩ => let ⟨H2, I2, q2⟩ := q pins σ s' I1; ⟨v, H2, I2, r, q2⟩⟩
section
variable {X : Cx} {M : Pm} {e : Expr} {m : E}
theorem EK.imp {α γ : Type} {r : R α} {β : List Addr} {H : Hp} {σ : L2.St} {R R' : List Addr → Hp → α → γ → Prop} {Q Q' : γ → Hp → Prop} (h : EK M r β H σ R Q) (g : ∀ v H' β' p, Stp β β' H H' → R' β' H' p v → (R β' H' p v → Q v H') → Q' v H') : EK M r β H σ R' Q' := by
  cases r with
  | ok p S' => exact fun v H' β' s b q => g v H' β' p s q fun q' => h v H' β' s b q'
  | ex e S' => exact h
  | no => exact h
/-- a new thing is frozen -/
theorem Res.frz {W : Wd} {β β' : List Addr} {H H' : Hp} {p : PV} {v : V} (r : Res W .own β H β' H' p v) (s : Stp β β' H H') {Q : VK} (q : ∀ H'', Stp β β' H H'' → (∀ S, BR W β' S H' → BR W β' S H'') → Rep W β' H'' p v → Q v H'') : Gh X Q v H' := fun pins σ sh I => by
  rcases r with ⟨r, _⟩ | ⟨a, rfl, r, n, z⟩
  · exact ⟨H', I, q H' s (fun _ b => b) r⟩
  · obtain ⟨w, J, r2, u⟩ := r.freeze I
    obtain ⟨o, ho, mu⟩ := r.tracked
    refine ⟨_, J, q _ (s.chg z ho mu) (fun S b => ⟨b.len, b.nd, fun i p h => ?_⟩) r2⟩
    obtain ⟨c, h1, h2⟩ := b.cell i p h
    refine ⟨c, h1, h2.up u fun o q => ?_⟩
    rw [upd_ne]
    · exact q
    · rintro rfl
      exact n (List.mem_of_getElem? h1)
end
end G
end

section
/-! Sd1: reading values; data; tools for readings. -/
namespace G
open PySem PySem.Spec PyProof.Rows L2

/-- what may be read, through a box -/
def RdB (W : Wd) (β : List Addr) (H : Hp) (p : PV) (v : V) : Prop := Rep W β H p v ∨ ∃ a, v = .ref a ∧ Raw W β H a p
section
variable {W : Wd} {β β' : List Addr} {H H' : Hp} {p : PV} {v : V} {S : G.St} {xs : List PV}
theorem RdP.b (h : RdP W β H p v) : RdB W β H p v := by
  rcases h with h | ⟨a, e, h, _⟩
  · exact .inl h
  · exact .inr ⟨a, e, h⟩
theorem RdP.deref (h : RdP W β H p v) (b : BR W β S H) : RdB W β H (deref p S) v := by
  cases p with
  | ref n =>
    rcases h with h | ⟨a, _, h, _⟩
    · simp only [Rep] at h
      obtain ⟨a, rfl, e⟩ := h
      have hn : n < S.length := by rw [← b.len]; exact (List.getElem?_eq_some_iff.mp e).1
      have es : S[n]? = some S[n] := List.getElem?_eq_getElem hn
      obtain ⟨c, e1, r⟩ := b.cell n _ es
      rw [e] at e1; cases e1
      simp only [G.deref, es]
      exact .inr ⟨a, rfl, r⟩
    · exact h.elim
  | _ => exact h.b
theorem RdB.lst (h : RdB W β H (.lst xs) v) : ∃ a vs, v = .ref a ∧ Rd H a (.lst vs) ∧ RepL W β H xs vs := by
  rcases h with h | ⟨a, rfl, vs, h, r⟩
  · simp only [Rep] at h
    obtain ⟨a, vs, e, f, r⟩ := h
    exact ⟨a, vs, e, .inr f, r⟩
  · exact ⟨a, vs, rfl, .inl h, r⟩
theorem RdB.scr {c : Nat} (h : RdB W β H (.exc c xs) v) : c = 1000 ∧ ∃ a vs, v = .ref a ∧ FzS W.K H a vs ∧ RepL W β H xs vs := by
  rcases h with h | ⟨a, rfl, h⟩
  · simpa only [Rep] using h
  · exact h.elim
theorem RdB.tup (h : RdB W β H (.tup xs) v) : ∃ a vs, v = .ref a ∧ SqT W.K H a vs ∧ RepL W β H xs vs := by
  rcases h with h | ⟨a, rfl, h⟩
  · simpa only [Rep] using h
  · exact h.elim
theorem RdB.int {i : Int} (h : RdB W β H (.int i) v) : v = .int i := by
  rcases h with h | ⟨a, rfl, h⟩
  · simpa only [Rep] using h
  · exact h.elim
theorem RdB.bl {i : Bool} (h : RdB W β H (.bl i) v) : v = .bl i := by
  rcases h with h | ⟨a, rfl, h⟩
  · simpa only [Rep] using h
  · exact h.elim
theorem RdB.str {i : Str} (h : RdB W β H (.str i) v) : v = .str i := by
  rcases h with h | ⟨a, rfl, h⟩
  · simpa only [Rep] using h
  · exact h.elim
theorem RdB.non (h : RdB W β H .non v) : v = .non := by
  rcases h with h | ⟨a, rfl, h⟩
  · simpa only [Rep] using h
  · exact h.elim
theorem Res.rd {k : Kn} (h : Res W k β H β' H' p v) : RdP W β' H' p v := by
  cases k with
  | own =>
    rcases h with ⟨h, _⟩ | ⟨a, e, h, n, _⟩
    · exact .inl h
    · exact .inr ⟨a, e, h, n⟩
  | val => exact .inl h
  | rd => exact h
theorem BR.tracked (b : BR W β S H) {a : Addr} (h : a ∈ β) : ∃ u, H a = some u ∧ Mut (some u) := by
  obtain ⟨n, hn, e⟩ := List.mem_iff_getElem.mp h
  have hs : S[n]? = some (S[n]'(by rw [← b.len]; exact hn)) := List.getElem?_eq_getElem _
  obtain ⟨c, e1, r⟩ := b.cell n _ hs
  rw [List.getElem?_eq_getElem hn] at e1
  cases e1
  rw [← e]
  exact r.tracked
theorem BR.up {H' : Hp} (b : BR W β S H) (u : Up β β H H') (k : ∀ a, a ∈ β → H' a = H a) : BR W β S H' := ⟨b.len, b.nd, fun n p h => by
  obtain ⟨a, e, r⟩ := b.cell n p h
  exact ⟨a, e, r.up u fun o q => by rw [k a (List.mem_of_getElem? e)]; exact q⟩⟩
theorem BR.add {a : Addr} {w : HO} (b : BR W β S H) (h : H a = none) : BR W β S (upd H a w) := b.up (.new h) fun c hc => by
  obtain ⟨u, e, _⟩ := b.tracked hc
  exact upd_ne (ne_of_none e h)
/-- what is new now was new -/
theorem Stp.back (s : Stp β β' H H') (b : BR W β' S H') {a : Addr} (h : H' a = none) : H a = none := by
  cases e : H a with
  | none => rfl
  | some o =>
    by_cases hb : a ∈ β
    · obtain ⟨t, rfl⟩ := s.up.pre
      obtain ⟨u, hu, _⟩ := b.tracked (List.mem_append_left _ hb)
      rw [h] at hu; cases hu
    · rw [s.keep a o e hb] at h; cases h
theorem BR.notin (b : BR W β S H) {a : Addr} (h : H a = none) : a ∉ β := fun z => by
  obtain ⟨u, e, _⟩ := b.tracked z
  rw [h] at e; cases e
end

/-! ### tools -/
section
variable {M : Pm} {α γ δ ε : Type} {β β' : List Addr} {H H' : Hp} {σ : L2.St} {S : G.St}
theorem EK.from {r : R α} {R : List Addr → Hp → α → γ → Prop} {Q : γ → Hp → Prop} (h : EK M r β H σ R Q) (s : Stp β β' H H') : EK M r β' H' σ R Q := by
  cases r with
  | ok p S' => exact fun v H2 β2 t b q => h v H2 β2 (s.trans t) b q
  | ex e S' => exact fun cls d H2 β2 t b q => h cls d H2 β2 (s.trans t) b q
  | no => exact h
theorem EK.bind {r : R α} {f : α → G.St → R δ} {R : List Addr → Hp → δ → ε → Prop} {Q : ε → Hp → Prop} {R1 : List Addr → Hp → α → γ → Prop} {Q1 : γ → Hp → Prop}
    (h : EK M (r.bind f) β H σ R Q) (g : ∀ p S' v H' β', r = .ok p S' → Stp β β' H H' → BR M.W β' S' H' → R1 β' H' p v → EK M (f p S') β' H' σ R Q → Q1 v H') : EK M r β H σ R1 Q1 := by
  cases r with
  | ok p S' => exact fun v H2 β2 t b q => g p S' v H2 β2 rfl t b q (EK.from h t)
  | ex e S' => exact h
  | no => exact h
/-- the end -/
theorem EK.done {p : α} {R : List Addr → Hp → α → γ → Prop} {Q : γ → Hp → Prop} {v : γ} (h : EK M (.ok p S) β H σ R Q) (b : BR M.W β S H) (q : R β H p v) : Q v H := h v H β .refl b q
theorem EK.fresh {p : α} {R : List Addr → Hp → α → γ → Prop} {Q : γ → Hp → Prop} {v : γ} {a : Addr} {w : HO} (h : EK M (.ok p S) β H σ R Q) (b : BR M.W β S H) (n : H a = none) (q : R β (upd H a w) p v) : Q v (upd H a w) := h v _ β (.add n) (b.add n) q
theorem EK.op1 {o : Option α} {R : List Addr → Hp → α → γ → Prop} {Q : γ → Hp → Prop} (h : EK M (op1 o S) β H σ R Q) : ∃ a, o = some a ∧ EK M (.ok a S) β H σ R Q := by
  cases o with
  | some a => exact ⟨a, rfl, h⟩
  | none => exact h.elim
end

/-- the three ways to take a form's value -/
structure SE (X : Cx) (M : Pm) (e : Expr) (m : E) : Prop where
  o : PE X e (tE M (kn false m) false m)
  v : PE X e (tE M .val false m)
  r : PE X e (tE M .rd true m)
theorem SE.of {X : Cx} {M : Pm} {e : Expr} {m : E} (h : ∀ br, PE X e (tE M (kn br m) br m)) : SE X M e m := by
  refine ⟨h false, ?_, ?_⟩
  · by_cases f : frE m = true
    · have hk : kn false m = .own := by simp [kn, f]
      have h0 := h false
      rw [hk] at h0
      refine ghostE h0 fun σ H Q ⟨σs, S, β, rel, ek⟩ => ⟨σs, S, β, rel, ?_⟩
      revert ek
      cases evE M.C m false σs S with
      | ok p S' => exact fun ek v H' β' s b q => q.frz s fun H2 s2 b2 r2 => ek v H2 β' s2 (b2 _ b) r2
      | ex e S' => exact fun ek => ek
      | no => exact fun ek => ek
    · have hk : kn false m = .val := by simp [kn, f]
      have h0 := h false
      rw [hk] at h0
      exact h0
  · refine impE (h true) fun σ H Q ⟨σs, S, β, rel, ek⟩ => ⟨σs, S, β, rel, ek.imp fun v H' β' p s q g => g q.rd⟩

theorem res_rep {W : Wd} {k : Kn} {β β' : List Addr} {H H' : Hp} {p : PV} {v : V} (hk : k ≠ .own) (h : Rep W β' H' p v) : Res W k β H β' H' p v := by
  cases k with
  | own => exact absurd rfl hk
  | val => exact h
  | rd => exact .inl h
theorem kn_ne {br : Bool} {m : E} (h : frE m = false) : kn br m ≠ .own := by
  unfold kn
  rw [h]
  cases br <;> cases isVar m <;> decide
theorem bl_rep {W : Wd} {β : List Addr} {H : Hp} {t : Bool} : Rep W β H (.bl t) (.bl t) := by simp only [Rep]
theorem int_rep {W : Wd} {β : List Addr} {H : Hp} {t : Int} : Rep W β H (.int t) (.int t) := by simp only [Rep]

/-! ### data -/
mutual
def toD : PV → PyData
  | .non => .none
  | .bl b => .bool b
  | .int i => .int i
  | .str s => .str s
  | .tup xs => .tuple (toDs xs)
  | .lst xs => .list (toDs xs)
  | .dct _ _ => .none
  | .ref _ => .none
  | .fn _ => .none
  | .exc _ _ => .none
def toDs : List PV → List PyData
  | [] => []
  | x :: xs => toD x :: toDs xs
end
mutual
theorem dat_lay : ∀ (p : PV) (n : Nat), dat p n = true → (toD p).canLay0 = true ∧ (toD p).depth ≤ n
  | .non, n, h => by simp [toD, PyData.canLay0, PyData.depth]
  | .bl _, n, h => by simp [toD, PyData.canLay0, PyData.depth]
  | .int _, n, h => by simp [toD, PyData.canLay0, PyData.depth]
  | .str s, n, h => by
    simp only [dat] at h
    simp only [toD, PyData.canLay0, PyData.depth, PyData.strOk]
    exact ⟨h, Nat.zero_le _⟩
  | .tup xs, 0, h => by simp [dat] at h
  | .tup xs, n + 1, h => by
    simp only [dat] at h
    obtain ⟨a, b⟩ := datL_lay xs n h
    simp only [toD, PyData.canLay0, PyData.depth]
    exact ⟨a, by omega⟩
  | .lst xs, 0, h => by simp [dat] at h
  | .lst xs, n + 1, h => by
    simp only [dat] at h
    obtain ⟨a, b⟩ := datL_lay xs n h
    simp only [toD, PyData.canLay0, PyData.depth]
    exact ⟨a, by omega⟩
  | .dct _ _, n, h => by simp [dat] at h
  | .ref _, n, h => by simp [dat] at h
  | .fn _, n, h => by simp [dat] at h
  | .exc _ _, n, h => by simp [dat] at h
theorem datL_lay : ∀ (ps : List PV) (n : Nat), datL ps n = true → PyData.canLayAll0 (toDs ps) = true ∧ PyData.depthAll (toDs ps) ≤ n
  | [], n, h => by simp [toDs, PyData.canLayAll0, PyData.depthAll]
  | p :: ps, n, h => by
    simp only [datL, Bool.and_eq_true] at h
    obtain ⟨a, b⟩ := dat_lay p n h.1
    obtain ⟨c, d⟩ := datL_lay ps n h.2
    simp only [toDs, PyData.canLayAll0, PyData.depthAll, Bool.and_eq_true]
    exact ⟨⟨a, c⟩, by omega⟩
end
theorem dat_shaped {p : PV} {n : Nat} (h : dat p n = true) (hn : n ≤ 64) : SeqAt.shaped (toD p) = true := by
  obtain ⟨a, b⟩ := dat_lay p n h
  simp only [SeqAt.shaped, Bool.and_eq_true, decide_eq_true_eq]
  exact ⟨a, by omega⟩
section
variable {W : Wd} {β : List Addr} {H : Hp}
mutual
theorem Rep.dp : ∀ (p : PV) (n : Nat) {v : V}, dat p n = true → Rep W β H p v → Dp W.K H v (toD p)
  | .non, _, _, _, h => by simp only [Rep] at h; subst h; exact .non
  | .bl _, _, _, _, h => by simp only [Rep] at h; subst h; exact .bl _
  | .int _, _, _, _, h => by simp only [Rep] at h; subst h; exact .int _
  | .str _, _, _, _, h => by simp only [Rep] at h; subst h; exact .str _
  | .tup xs, 0, _, d, _ => by simp [dat] at d
  | .tup xs, n + 1, _, d, h => by
    simp only [dat] at d
    simp only [Rep] at h
    obtain ⟨a, vs, rfl, s, r⟩ := h
    exact .tup s (RepL.dp xs n d r)
  | .lst xs, 0, _, d, _ => by simp [dat] at d
  | .lst xs, n + 1, _, d, h => by
    simp only [dat] at d
    simp only [Rep] at h
    obtain ⟨a, vs, rfl, s, r⟩ := h
    exact .lst s.sq (RepL.dp xs n d r)
  | .dct _ _, _, _, d, _ => by simp [dat] at d
  | .ref _, _, _, d, _ => by simp [dat] at d
  | .fn _, _, _, d, _ => by simp [dat] at d
  | .exc _ _, _, _, d, _ => by simp [dat] at d
theorem RepL.dp : ∀ (ps : List PV) (n : Nat) {vs : List V}, datL ps n = true → RepL W β H ps vs → DpAll W.K H vs (toDs ps)
  | [], _, _, _, h => by simp only [RepL] at h; subst h; exact .nil
  | p :: ps, n, _, d, h => by
    simp only [datL, Bool.and_eq_true] at d
    simp only [RepL] at h
    obtain ⟨v, r, rfl, h1, h2⟩ := h
    exact .cons (Rep.dp p n d.1 h1) (RepL.dp ps n d.2 h2)
end
theorem RdB.dp {p : PV} {n : Nat} {v : V} (d : dat p n = true) (h : RdB W β H p v) : Dp W.K H v (toD p) := by
  rcases h with h | ⟨a, rfl, h⟩
  · exact Rep.dp p n d h
  · cases p with
    | lst xs =>
      obtain ⟨vs, h, r⟩ := h
      cases n with
      | zero => simp [dat] at d
      | succ n =>
        simp only [dat] at d
        exact .lst (.of h) (RepL.dp xs n d r)
    | dct ks ws => simp [dat] at d
    | _ => exact h.elim
end
mutual
theorem eqv_eq : ∀ (p q : PV) (n m : Nat), dat p n = true → dat q m = true → PyData.eqv (toD p) (toD q) = eqP p q
  | .non, q, n, m, h, g => by cases q <;> simp [toD, PyData.eqv, eqP, dat] at *
  | .bl b, q, n, m, h, g => by cases q <;> simp [toD, PyData.eqv, eqP, dat, b2i] at *
  | .int b, q, n, m, h, g => by cases q <;> simp [toD, PyData.eqv, eqP, dat, b2i] at *
  | .str b, q, n, m, h, g => by
    cases q <;> simp [toD, PyData.eqv, eqP, dat] at *
    exact Bool.beq_eq_decide_eq _ _
  | .tup xs, q, 0, m, h, g => by simp [dat] at h
  | .tup xs, q, n + 1, m, h, g => by
    cases q with
    | tup ys =>
      cases m with
      | zero => simp [dat] at g
      | succ m =>
        simp only [dat] at h g
        simp only [toD, PyData.eqv, eqP]
        exact eqvL_eq xs ys n m h g
    | _ => first | (simp [dat] at g; done) | simp [toD, PyData.eqv, eqP]
  | .lst xs, q, 0, m, h, g => by simp [dat] at h
  | .lst xs, q, n + 1, m, h, g => by
    cases q with
    | lst ys =>
      cases m with
      | zero => simp [dat] at g
      | succ m =>
        simp only [dat] at h g
        simp only [toD, PyData.eqv, eqP]
        exact eqvL_eq xs ys n m h g
    | _ => first | (simp [dat] at g; done) | simp [toD, PyData.eqv, eqP]
  | .dct _ _, q, n, m, h, g => by simp [dat] at h
  | .ref _, q, n, m, h, g => by simp [dat] at h
  | .fn _, q, n, m, h, g => by simp [dat] at h
  | .exc _ _, q, n, m, h, g => by simp [dat] at h
theorem eqvL_eq : ∀ (ps qs : List PV) (n m : Nat), datL ps n = true → datL qs m = true → PyData.eqvAll (toDs ps) (toDs qs) = eqL ps qs
  | [], qs, n, m, h, g => by cases qs <;> simp [toDs, PyData.eqvAll, eqL]
  | p :: ps, qs, n, m, h, g => by
    cases qs with
    | nil => simp [toDs, PyData.eqvAll, eqL]
    | cons q qs =>
      simp only [datL, Bool.and_eq_true] at h g
      simp only [toDs, PyData.eqvAll, eqL]
      rw [eqv_eq p q n m h.1 g.1, eqvL_eq ps qs n m h.2 g.2]
end
theorem toDs_any (xs : List PV) (x : PV) (n m : Nat) (h : datL xs n = true) (g : dat x m = true) : (toDs xs).any (fun z => PyData.eqv z (toD x)) = xs.any fun y => eqP y x := by
  induction xs with
  | nil => rfl
  | cons y ys ih =>
    simp only [datL, Bool.and_eq_true] at h
    simp only [toDs, List.any_cons]
    rw [eqv_eq y x n m h.1 g, ih h.2]
end G
end

section
/-! Sd2: expressions: names, constants, displays, operators. -/
namespace G
open PySem PySem.Spec PyProof.Rows L2
section
variable {X : Cx} {M : Pm} {e a b : Expr} {m ma mb : E} {pos : Pos}

theorem s_var {i : Nat} {x : Str} (hN : X.N[i]? = some x) (hv : Vis X.env.scope x) (hd : (x == ("__debug__" : Str)) = false) (hcd : (x == ("__classdict__" : Str)) = false) (br : Bool) : PE X (.Name x pos) (tE M (kn br (.var i)) br (.var i)) := by
  refine impE (pe_var hN hv hd hcd) fun σ H Q ⟨σs, S, β, rel, ek⟩ => ?_
  simp only [evE] at ek
  obtain ⟨p, e, ek⟩ := ek.op1
  obtain ⟨v, h1, h2⟩ := rel.readV e
  refine ⟨v, h1, ek.done rel.br ?_⟩
  cases br with
  | true => exact h2
  | false => exact h2
/-- a constant -/
theorem s_k {v : PV} {x : V} (h : PE X e (tC x)) (r : ∀ β H, Rep M.W β H v x) (br : Bool) : PE X e (tE M (kn br (.k v)) br (.k v)) := by
  refine impE h fun σ H Q ⟨σs, S, β, rel, ek⟩ => ?_
  simp only [evE] at ek
  refine ek.done (v := x) rel.br ?_
  exact res_rep (kn_ne rfl) (r _ _)
theorem s_glob {c : Nat} {x : V} (h : PE X e (tC x)) (r : ∀ β H, Rep M.W β H (M.C.glob c) x) (br : Bool) : PE X e (tE M (kn br (.glob c)) br (.glob c)) := by
  refine impE h fun σ H Q ⟨σs, S, β, rel, ek⟩ => ?_
  simp only [evE] at ek
  refine ek.done (v := x) rel.br ?_
  exact res_rep (kn_ne rfl) (r _ _)
theorem s_fnv {f : Nat} (h : PE X e (tC (.ref (M.W.fa f)))) (br : Bool) : PE X e (tE M (kn br (.fnv f)) br (.fnv f)) := by
  refine impE h fun σ H Q ⟨σs, S, β, rel, ek⟩ => ?_
  simp only [evE] at ek
  refine ek.done (v := .ref (M.W.fa f)) rel.br ?_
  exact res_rep (kn_ne rfl) (by simp only [Rep])

/-! ### argument lists -/
/-- the values of a list of forms -/
structure SEs (X : Cx) (M : Pm) (es : List Expr) (ms : List E) : Prop where
  v : PA X es (tEs M .val false ms)
  r : PA X es (tEs M .rd true ms)
theorem Paired.stp {W : Wd} {β β' : List Addr} {H H' : Hp} {k : Kn} (hk : k ≠ .own) (s : Stp β β' H H') {v : V} {p : PV} (h : Res W k β H β H p v) : Res W k β' H' β' H' p v := by
  cases k with
  | own => exact absurd rfl hk
  | val => exact Rep.up s.up p h
  | rd => exact RdP.stp h s
theorem Res.same {W : Wd} {k : Kn} (hk : k ≠ .own) {β1 β2 : List Addr} {H1 H2 : Hp} {β : List Addr} {H : Hp} {p : PV} {v : V} (h : Res W k β1 H1 β H p v) : Res W k β2 H2 β H p v := by
  cases k with
  | own => exact absurd rfl hk
  | val => exact h
  | rd => exact h
theorem ses_nil {k : Kn} {br : Bool} : PA X [] (tEs M k br []) := by
  refine impA pa_nil fun σ H Q ⟨σs, S, β, rel, ek⟩ => ?_
  simp only [evEs] at ek
  exact ek.done rel.br .nil
theorem ses_cons {k : Kn} {br : Bool} {es : List Expr} {ms : List E} (hk : k ≠ .own) (h : PE X e (tE M k br m)) (hs : PA X es (tEs M k br ms)) (hst : starEach (e :: es) X.env = (false, eval e X.env) :: starEach es X.env) : PA X (e :: es) (tEs M k br (m :: ms)) := by
  refine impA (pa_cons h hs hst) fun σ H Q ⟨σs, S, β, rel, ek⟩ => ?_
  simp only [evEs] at ek
  refine ⟨σs, S, β, rel, ek.bind fun p S1 v H1 β1 _ s1 b1 q1 ek1 => ⟨σs, S1, β1, rel.step s1 b1, ek1.bind fun ps S2 vs H2 β2 _ s2 b2 q2 ek2 => ?_⟩⟩
  exact ek2.done b2 (.cons (Paired.stp hk s2 (Res.same hk q1)) q2)
theorem SEs.nil : SEs X M [] [] := ⟨ses_nil, ses_nil⟩
theorem SEs.cons {es : List Expr} {ms : List E} (h : SE X M e m) (hs : SEs X M es ms) (hst : starEach (e :: es) X.env = (false, eval e X.env) :: starEach es X.env) : SEs X M (e :: es) (m :: ms) :=
  ⟨ses_cons (by decide) h.v hs.v hst, ses_cons (by decide) h.r hs.r hst⟩
theorem repL_of {W : Wd} {β : List Addr} {H : Hp} : ∀ {vs : List V} {ps : List PV}, Paired (fun v p => Res W .val β H β H p v) vs ps → RepL W β H ps vs
  | _, _, .nil => by simp only [RepL]
  | _, _, .cons h t => by simp only [RepL]; exact ⟨_, _, rfl, h, repL_of t⟩
theorem s_tup {es : List Expr} {ms : List E} {x1 : Nat} (h : SEs X M es ms) (hz : ms.length ≤ sizeLine) (br : Bool) : PE X (.Tuple es x1 pos) (tE M (kn br (.tup ms)) br (.tup ms)) := by
  refine impE (pe_tup h.v) fun σ H Q ⟨σs, S, β, rel, ek⟩ => ?_
  simp only [evE] at ek
  refine ⟨σs, S, β, rel, ek.bind fun ps S1 vs H1 β1 hv s1 b1 q1 ek1 => ?_⟩
  have q1 := repL_of q1
  have hl : ps.length = ms.length := by
    clear ek q1 ek1 s1 b1
    have : ∀ (ms : List E) (S : G.St) (ps : List PV) (S1 : G.St), evEs M.C ms false σs S = .ok ps S1 → ps.length = ms.length := by
      intro ms
      induction ms with
      | nil => intro S ps S1 h; simp only [evEs] at h; cases h; rfl
      | cons m ms ih =>
        intro S ps S1 h
        simp only [evEs] at h
        cases h1 : evE M.C m false σs S with
        | ok p T =>
          rw [h1] at h
          simp only [R.bind] at h
          cases h2 : evEs M.C ms false σs T with
          | ok qs T2 =>
            rw [h2] at h
            simp only [R.bind] at h
            cases h
            simp [ih _ _ _ h2]
          | ex _ _ => rw [h2] at h; cases h
          | no => rw [h2] at h; cases h
        | ex _ _ => rw [h1] at h; cases h
        | no => rw [h1] at h; cases h
    exact this ms S ps S1 hv
  refine ⟨by rw [q1.length, hl]; exact hz, fun n hn => ek1.fresh b1 hn ?_⟩
  have : Rep M.W β1 (upd H1 n (.tup vs)) (.tup ps) (.ref n) := by
    simp only [Rep]
    exact ⟨n, vs, rfl, .of upd_same, RepL.up (.new hn) ps q1⟩
  exact res_rep (kn_ne rfl) this
theorem len_evEs {C : Ctx} {br : Bool} {σs : Slots} : ∀ (ms : List E) (S : G.St) (ps : List PV) (S1 : G.St), evEs C ms br σs S = .ok ps S1 → ps.length = ms.length := by
  intro ms
  induction ms with
  | nil => intro S ps S1 h; simp only [evEs] at h; cases h; rfl
  | cons m ms ih =>
    intro S ps S1 h
    simp only [evEs] at h
    cases h1 : evE C m br σs S with
    | ok p T =>
      rw [h1] at h
      simp only [R.bind] at h
      cases h2 : evEs C ms br σs T with
      | ok qs T2 =>
        rw [h2] at h
        simp only [R.bind] at h
        cases h
        simp [ih _ _ _ h2]
      | ex _ _ => rw [h2] at h; cases h
      | no => rw [h2] at h; cases h
    | ex _ _ => rw [h1] at h; cases h
    | no => rw [h1] at h; cases h
theorem s_lst {es : List Expr} {ms : List E} (h : SEs X M es ms) (hz : ms.length ≤ sizeLine) (br : Bool) : PE X (.List es pos) (tE M (kn br (.lst ms)) br (.lst ms)) := by
  refine impE (pe_lst h.v) fun σ H Q ⟨σs, S, β, rel, ek⟩ => ?_
  simp only [evE] at ek
  refine ⟨σs, S, β, rel, ek.bind fun ps S1 vs H1 β1 hv s1 b1 q1 ek1 => ?_⟩
  have q1 := repL_of q1
  have hl : ps.length = ms.length := len_evEs ms S ps S1 hv
  refine ⟨by rw [q1.length, hl]; exact hz, fun n hn => ek1.fresh b1 hn ?_⟩
  exact .inr ⟨n, rfl, ⟨vs, upd_same, RepL.up (.new hn) ps q1⟩, b1.notin hn, s1.back b1 hn⟩

/-! ### operators -/
theorem lt_line {n : Nat} : n ≤ line ↔ n ≤ sizeLine := by rw [sizeLine_eq]; rfl
def rCatF : R2 := fun x y H Q => ∃ l b xs zs, x = .ref l ∧ y = .ref b ∧ Rd H l (.lst xs) ∧ Rd H b (.lst zs) ∧ xs.length + zs.length ≤ sizeLine ∧ ∀ p, H p = none → Q (.ref p) (upd H p (.lst (xs ++ zs)))
theorem op_catF : OpR X (binaryOp .Add) rCatF := by
  intro pins s σ H x y v u Q I rx ry h
  obtain ⟨l, b, xs, zs, rfl, rfl, hH, hB, hz, q⟩ := h
  cases rx
  cases ry
  obtain ⟨z, its, n, r, e⟩ := hH.ok I.hok
  obtain ⟨z2, its2, n2, r2, e2⟩ := hB.ok I.hok
  have hl := r.length
  have hl2 := r2.length
  refine PySem.P.add_list e e2 ?_ (by rw [List.size_toArray, List.size_toArray]; omega)
  have ea : its.toArray ++ its2.toArray = (its ++ its2).toArray := by simp
  rw [ea]
  exact ⟨.ref _, _, I.lnew (t' := s.toks) (r.append r2) (by rw [List.length_append]; omega), rfl, q _ I.fresh⟩
def rRepF : R2 := fun x y H Q => ∃ l k xs, x = .ref l ∧ y = .int k ∧ Rd H l (.lst xs) ∧ -(2 ^ 63) ≤ k ∧ k < 2 ^ 63 ∧ xs.length * k.toNat ≤ sizeLine ∧
  ∀ p, H p = none → Q (.ref p) (upd H p (.lst (List.replicate k.toNat xs).flatten))
theorem op_repF : OpR X (binaryOp .Mult) rRepF := by
  intro pins s σ H x y v u Q I rx ry h
  obtain ⟨l, k, xs, rfl, rfl, hH, h1, h2, hz, q⟩ := h
  cases rx
  obtain ⟨t, rfl⟩ := ry
  obtain ⟨z, its, n, r, e⟩ := hH.ok I.hok
  have hl := r.length
  have hlen : its.toArray.size * k.toNat ≤ sizeLine := by rw [List.size_toArray, ← hl]; exact hz
  have hcap : ¬ its.toArray.size * k.toNat > (2 ^ 63 - 1) / 8 := by
    have : (sizeLine : Nat) ≤ (2 ^ 63 - 1) / 8 := by decide
    omega
  have hfit : ¬ (!Builtin.List.listFitsIndex k) = true := by
    rw [fitsIndex_both h1 h2]
    exact Bool.false_ne_true
  have hlong : ¬ Builtin.List.listTooLong (its.toArray.size * k.toNat) = true := by
    rw [notLongL hlen]
    exact Bool.false_ne_true
  have hnew : List.foldl (fun x1 x2 => x1 ++ x2) #[] (List.replicate (if its.toArray.isEmpty = true then 0 else k.toNat) its.toArray) = (List.replicate k.toNat its).flatten.toArray := by
    have f0 : ∀ m : Nat, List.foldl (fun x1 x2 => x1 ++ x2) #[] (List.replicate m its.toArray) = (List.replicate m its).flatten.toArray := fun m => by
      have := foldl_rep its m []
      rw [List.nil_append] at this
      exact this
    rw [f0]
    cases its with
    | nil => simp
    | cons a r' => rw [if_neg (by simp)]
  refine wpAny_binaryOp_repeat_ref (T := "list") (U := "int") (by decide) ⟨_, e, rfl⟩ (fun s' => typeIs_int s' k t) noFill_list_mul F.fills_int_mul F.slot_int_rmul repeat_list F.slot_int_index.lookup
    (call_meets F.slot_int_rmul (typeIs_int s k t) F.entry_int_rmul (F.args_int_rmul_2 _ _) (int___rmul___int_list k t l its.toArray n)
      ⟨e, rfl, ⟨_, e, rfl⟩, call_meets F.slot_list_mul ⟨_, e, rfl⟩ F.entry_list_mul (F.args_list_mul_2 _ _) (AutoListH.list___mul___list_int_3 l its.toArray n k t hfit hcap hlong) ⟨e, ?_⟩⟩)
  rw [hnew]
  exact ⟨.ref _, _, I.lnew (t' := s.toks) (r.rep k.toNat) (by rw [PyProof.Rows.lm_len_rep_flat, Nat.mul_comm]; exact hz), rfl, q _ I.fresh⟩
def CDivB (i j : Int) : Prop := j ≠ 0 ∧ j.natAbs.log2 < 8000
theorem op_fdivB : OpR X (binaryOp .FloorDiv) (rI CDivB fun i j => .int (i.fdiv j)) := opI fun _ _ _ _ _ _ _ hc q => floordiv_int hc.1 q (.inl (PyProof.noPylong_of_log2 (by have := hc.2; omega)))
def opOf : Bop → Operator
  | .add => .Add
  | .sub => .Sub
  | .mul => .Mult
  | .fdiv => .FloorDiv
  | .mod => .Mod
  | .pow => .Pow
def rBin (K : PySem.W.Frag) : Bop → R2
  | .add => fun x y H Q => (rI0 fun i j => .int (i + j)) x y H Q ∨ rCatF x y H Q ∨ rCatA K x y H Q ∨ (∃ i j, x = .str i ∧ y = .str j ∧ i.length + j.length ≤ sizeLine ∧ Q (.str (i ++ j)) H)
  | .sub => rI0 fun i j => .int (i - j)
  | .mul => fun x y H Q => (rI CMul fun i j => .int (i * j)) x y H Q ∨ rRepF x y H Q ∨ rRepT K x y H Q
  | .fdiv => rI CDivB fun i j => .int (i.fdiv j)
  | .mod => rI (fun _ j => j ≠ 0) fun i j => .int (i.fmod j)
  | .pow => rI CPow fun i j => .int (i ^ j.toNat)
theorem op_bin (o : Bop) : OpR X (binaryOp (opOf o)) (rBin X.K o) := by
  cases o with
  | add => exact op_add.or (op_catF.or (op_catA.or op_add_str))
  | sub => exact op_sub
  | mul => exact op_mul.or (op_repF.or op_repT)
  | fdiv => exact op_fdivB
  | mod => exact op_modN
  | pow => exact op_pow
theorem small_ok {i : Int} (h : small i = true) : -(2 ^ 64) < i ∧ i < 2 ^ 64 := by
  simp only [small, decide_eq_true_eq] at h
  omega

theorem rep_flat (xs : List PV) (n : Nat) : rep xs n = (List.replicate n xs).flatten := by
  induction n with
  | zero => simp [rep]
  | succ n ih => simp [rep, ih, List.replicate_succ]
theorem RepL.rep {W : Wd} {β : List Addr} {H : Hp} {xs : List PV} {vs : List V} (h : RepL W β H xs vs) (n : Nat) : RepL W β H (rep xs n) (List.replicate n vs).flatten := by
  induction n with
  | zero => simp [G.rep, RepL]
  | succ n ih => simp only [G.rep, List.replicate_succ, List.flatten_cons]; exact h.append ih
/-- what the interpreter says of an operator, the model says -/
theorem bin_ok {W : Wd} {C : Ctx} {o : Bop} {p q r : PV} {x y : V} {β : List Addr} {H Hs : Hp} {S : G.St} {Q : VK} (e : binV o p q = some r) (hp : RdP W β H p x) (hq : RdP W β H q y) (b : BR W β S H)
    (back : ∀ a, H a = none → Hs a = none) (done : ∀ v, Res W .own β Hs β H r v → Q v H) (fresh : ∀ a w v, H a = none → Res W .own β Hs β (upd H a w) r v → Q v (upd H a w)) : rBin W.K o x y H Q := by
  have int1 : ∀ {i : Int}, r = .int i → Q (.int i) H := fun {i} h => by subst h; exact done _ (.inl ⟨by simp only [Rep], rfl⟩)
  cases p with
  | int i =>
    have hx := hp.b.int
    subst hx
    cases q with
    | int j =>
      have hy := hq.b.int
      subst hy
      cases o with
      | add => simp only [binV, Option.some.injEq] at e; exact .inl ⟨i, j, rfl, rfl, int1 e.symm⟩
      | sub => simp only [binV, Option.some.injEq] at e; exact ⟨i, j, rfl, rfl, int1 e.symm⟩
      | mul =>
        simp only [binV] at e
        split at e
        · rename_i c
          simp only [Option.some.injEq] at e
          rw [Bool.or_eq_true] at c
          exact .inl ⟨i, j, rfl, rfl, c.elim (fun c => .inl (small_ok c)) (fun c => .inr (small_ok c)), int1 e.symm⟩
        · cases e
      | fdiv =>
        simp only [binV] at e
        split at e
        · rename_i c
          simp only [Option.some.injEq] at e
          exact ⟨i, j, rfl, rfl, c, int1 e.symm⟩
        · cases e
      | mod =>
        simp only [binV] at e
        split at e
        · rename_i c
          simp only [Option.some.injEq] at e
          exact ⟨i, j, rfl, rfl, c, int1 e.symm⟩
        · cases e
      | pow =>
        simp only [binV] at e
        split at e
        · rename_i c
          simp only [Option.some.injEq] at e
          refine ⟨i, j, rfl, rfl, ⟨c.1, c.2.1, ?_⟩, int1 e.symm⟩
          have := c.2.2
          simp only [small, decide_eq_true_eq] at this
          omega
        · cases e
    | _ => cases o <;> simp [binV] at e
  | str i =>
    have hx := hp.b.str
    subst hx
    cases q with
    | str j =>
      have hy := hq.b.str
      subst hy
      cases o with
      | add =>
        simp only [binV] at e
        split at e
        · rename_i c
          simp only [Option.some.injEq] at e
          subst e
          refine .inr (.inr (.inr ⟨i, j, rfl, rfl, ?_, done _ (.inl ⟨?_, rfl⟩)⟩))
          · rw [lt_line] at c; exact c
          · simp only [Rep]; rfl
        · cases e
      | _ => simp [binV] at e
    | _ => cases o <;> simp [binV] at e
  | lst xs =>
    obtain ⟨a, vs, rfl, ha, ra⟩ := hp.b.lst
    cases q with
    | lst ys =>
      obtain ⟨c, ws, rfl, hc, rc⟩ := hq.b.lst
      cases o with
      | add =>
        simp only [binV] at e
        split at e
        · rename_i z
          simp only [Option.some.injEq] at e
          subst e
          refine .inr (.inl ⟨a, c, vs, ws, rfl, rfl, ha, hc, ?_, fun n hn => fresh n _ _ hn (.inr ⟨n, rfl, ⟨_, upd_same, RepL.up (.new hn) _ (ra.append rc)⟩, b.notin hn, back n hn⟩)⟩)
          rw [ra.length, rc.length, ← lt_line]
          exact z.2.2
        · cases e
      | _ => simp [binV] at e
    | int j =>
      have hy := hq.b.int
      subst hy
      cases o with
      | mul =>
        simp only [binV] at e
        split at e
        · rename_i z
          simp only [Option.some.injEq] at e
          subst e
          have hl : line < 2 ^ 63 := by decide
          refine .inr (.inl ⟨a, j, vs, rfl, rfl, ha, by omega, by omega, ?_, fun n hn => fresh n _ _ hn (.inr ⟨n, rfl, ⟨_, upd_same, RepL.up (.new hn) _ (ra.rep _)⟩, b.notin hn, back n hn⟩)⟩)
          rw [ra.length, ← lt_line]
          exact z.2
        · cases e
      | _ => simp [binV] at e
    | _ => cases o <;> simp [binV] at e
  | tup xs =>
    obtain ⟨a, vs, rfl, ha, ra⟩ := hp.b.tup
    cases q with
    | tup ys =>
      obtain ⟨c, ws, rfl, hc, rc⟩ := hq.b.tup
      cases o with
      | add =>
        simp only [binV] at e
        split at e
        · rename_i z
          simp only [Option.some.injEq] at e
          subst e
          refine .inr (.inr (.inl ⟨a, c, vs, ws, rfl, rfl, ha, hc, ?_, fun h => ?_, fun _ h => ?_, fun _ _ n hn => ?_⟩))
          · rw [ra.length, rc.length, ← lt_line]; exact z
          · subst h
            have h0 : xs = [] := List.eq_nil_of_length_eq_zero (by rw [← ra.length]; rfl)
            subst h0
            exact done _ (.inl ⟨by simp only [List.nil_append, Rep]; exact ⟨c, ws, rfl, hc, rc⟩, rfl⟩)
          · subst h
            have h0 : ys = [] := List.eq_nil_of_length_eq_zero (by rw [← rc.length]; rfl)
            subst h0
            exact done _ (.inl ⟨by simp only [List.append_nil, Rep]; exact ⟨a, vs, rfl, ha, ra⟩, rfl⟩)
          · exact fresh n _ _ hn (.inl ⟨by simp only [Rep]; exact ⟨n, _, rfl, .of upd_same, RepL.up (.new hn) _ (ra.append rc)⟩, rfl⟩)
        · cases e
      | _ => simp [binV] at e
    | int j =>
      have hy := hq.b.int
      subst hy
      cases o with
      | mul =>
        simp only [binV] at e
        split at e
        · rename_i z
          simp only [Option.some.injEq] at e
          subst e
          have hne : vs ≠ [] := by
            rintro rfl
            have h0 : xs = [] := List.eq_nil_of_length_eq_zero (by rw [← ra.length]; rfl)
            subst h0
            simp at z
          refine .inr (.inr ⟨a, j, vs, rfl, rfl, ha, hne, z.2.1, z.2.2.1, by rw [ra.length]; exact z.2.2.2, fun n hn => fresh n _ _ hn (.inl ⟨?_, rfl⟩)⟩)
          simp only [Rep]
          exact ⟨n, _, rfl, .of upd_same, RepL.up (.new hn) _ (ra.rep _)⟩
        · cases e
      | _ => simp [binV] at e
    | _ => cases o <;> simp [binV] at e
  | _ => cases q <;> cases o <;> simp [binV] at e
theorem s_bin {o : Bop} (hK : M.W.K = X.K) (ha : SE X M a ma) (hb : SE X M b mb) (br : Bool) : PE X (.BinOp a (opOf o) b pos) (tE M (kn br (.bin o ma mb)) br (.bin o ma mb)) := by
  refine impE (pe_op (op_bin o) ha.r hb.r) fun σ H Q ⟨σs, S, β, rel, ek⟩ => ?_
  simp only [evE] at ek
  refine ⟨σs, S, β, rel, ek.bind fun p S1 v H1 β1 _ s1 b1 q1 ek1 => ⟨σs, S1, β1, rel.step s1 b1, ek1.bind fun p2 S2 v2 H2 β2 _ s2 b2 q2 ek2 => ?_⟩⟩
  obtain ⟨r, hr, ek3⟩ := ek2.op1
  rw [← hK]
  exact bin_ok (C := M.C) hr (q1.stp s2) q2 b2 (fun n hn => (s1.trans s2).back b2 hn) (fun v q => ek3.done b2 q) fun n w v hn q => ek3.fresh b2 hn q
theorem s_neg (ha : SE X M a ma) (br : Bool) : PE X (.UnaryOp .USub a pos) (tE M (kn br (.neg ma)) br (.neg ma)) := by
  refine impE (pe_un un_neg ha.r) fun σ H Q ⟨σs, S, β, rel, ek⟩ => ?_
  simp only [evE] at ek
  refine ⟨σs, S, β, rel, ek.bind fun p S1 v H1 β1 _ s1 b1 q1 ek1 => ?_⟩
  cases p with
  | int i =>
    have hv := q1.b.int
    subst hv
    refine ⟨i, rfl, ek1.done b1 ?_⟩
    have : Rep M.W β1 H1 (.int (-i)) (.int (-i)) := by simp only [Rep]
    exact res_rep (kn_ne rfl) this
  | _ => exact ek1.elim
end
end G
end

section
/-! Dd: dicts: keys, entries, the kit's two ways to tell a dict. -/
namespace G
open PySem PySem.Spec PyProof.Rows L2

/-! ### keys -/
theorem eqI' {x y : Int} : (x == y) = decide (x = y) := by
  by_cases q : x = y
  · rw [decide_eq_true q]; exact beq_iff_eq.mpr q
  · rw [decide_eq_false q]; exact beq_eq_false_iff_ne.mpr q
def toK : PV → Key
  | .int i => .inl i
  | .str s => .inr s
  | _ => .inl 0
def toV : PV → V
  | .int i => .int i
  | .str s => .str s
  | _ => .non
theorem kd_leaf {k : PV} (h : kd k = .leaf) : (∃ i, k = .int i) ∨ ∃ s, k = .str s := by
  cases k with
  | int i => exact .inl ⟨i, rfl⟩
  | str s => exact .inr ⟨s, rfl⟩
  | tup xs => simp only [kd] at h; split at h <;> cases h
  | _ => simp [kd] at h
theorem kd_tup {k : PV} (h : kd k = .tup) : ∃ xs, k = .tup xs ∧ keyInL xs 7 = true := by
  cases k with
  | tup xs =>
    simp only [kd] at h
    split at h
    · rename_i c; exact ⟨xs, rfl, c⟩
    · cases h
  | _ => simp [kd] at h
theorem eq_leaf {x k : PV} (hx : kd x = .leaf) (hk : kd k = .leaf) : eqP x k = decide (toK x = toK k) := by
  rcases kd_leaf hx with ⟨i, rfl⟩ | ⟨s, rfl⟩ <;> rcases kd_leaf hk with ⟨j, rfl⟩ | ⟨t, rfl⟩
  · exact (key_ll i j).symm
  · simp [eqP, toK]
  · simp [eqP, toK]
  · exact (key_rr s t).symm
theorem b2i_inj {a b : Bool} : (a == b) = decide (b2i a = b2i b) := by cases a <;> cases b <;> decide
mutual
theorem eqP_key : ∀ (p q : PV) (n m : Nat), keyIn p n = true → keyIn q m = true → eqP p q = decide (toKey p = toKey q)
  | .non, q, n, m, h, g => by cases q <;> simp [keyIn] at g <;> simp [eqP, toKey]
  | .bl a, q, n, m, h, g => by
    cases q <;> simp [keyIn] at g <;> simp [eqP, toKey, b2i_inj]
    exact eqI'
  | .int i, q, n, m, h, g => by cases q <;> simp [keyIn] at g <;> simp [eqP, toKey] <;> exact eqI'
  | .str s, q, n, m, h, g => by cases q <;> simp [keyIn] at g <;> simp [eqP, toKey]
  | .tup xs, q, 0, m, h, g => by simp [keyIn] at h
  | .tup xs, q, n + 1, m, h, g => by
    cases q with
    | tup ys =>
      cases m with
      | zero => simp [keyIn] at g
      | succ m =>
        simp only [keyIn] at h g
        simp only [eqP, toKey, NestedKey.tup.injEq]
        exact eqL_key xs ys n m h g
    | _ => first | (simp [keyIn] at g; done) | simp [eqP, toKey]
  | .lst _, _, _, _, h, _ => by simp [keyIn] at h
  | .dct _ _, _, _, _, h, _ => by simp [keyIn] at h
  | .ref _, _, _, _, h, _ => by simp [keyIn] at h
  | .fn _, _, _, _, h, _ => by simp [keyIn] at h
  | .exc _ _, _, _, _, h, _ => by simp [keyIn] at h
theorem eqL_key : ∀ (ps qs : List PV) (n m : Nat), keyInL ps n = true → keyInL qs m = true → eqL ps qs = decide (toKeys ps = toKeys qs)
  | [], qs, n, m, h, g => by cases qs <;> simp [eqL, toKeys]
  | p :: ps, qs, n, m, h, g => by
    cases qs with
    | nil => simp [eqL, toKeys]
    | cons q qs =>
      simp only [keyInL, Bool.and_eq_true] at h g
      simp only [eqL, toKeys, List.cons.injEq]
      rw [eqP_key p q n m h.1 g.1, eqL_key ps qs n m h.2 g.2]
      by_cases c : toKey p = toKey q <;> simp [c]
end
theorem eq_tup {x k : PV} (hx : kd x = .tup) (hk : kd k = .tup) : eqP x k = decide (toKey x = toKey k) := by
  obtain ⟨xs, rfl, h1⟩ := kd_tup hx
  obtain ⟨ys, rfl, h2⟩ := kd_tup hk
  exact eqP_key (.tup xs) (.tup ys) 8 8 (by simpa only [keyIn] using h1) (by simpa only [keyIn] using h2)

/-! ### lists of keys and what stands at them -/
section
variable {κ β : Type} [DecidableEq κ] (f : PV → κ) {k : PV}
def lookU (k : PV) : List PV → List β → Option β
  | x :: ks, u :: us => if eqP x k then some u else lookU k ks us
  | _, _ => none
def putU (k : PV) (g : β → β) (new : β) : List PV → List β → List β
  | x :: ks, u :: us => if eqP x k then g u :: us else u :: putU k g new ks us
  | _, _ => [new]
def delU (k : PV) : List PV → List β → List β
  | x :: ks, u :: us => if eqP x k then us else u :: delU k ks us
  | _, _ => []
def zipK (ks : List PV) (us : List β) : List (κ × β) := (ks.map f).zip us
variable {f}
theorem zipK_cons {x : PV} {u : β} {ks : List PV} {us : List β} : zipK f (x :: ks) (u :: us) = (f x, u) :: zipK f ks us := rfl
theorem zipK_fst : ∀ {ks : List PV} {us : List β}, ks.length = us.length → (zipK f ks us).map (·.1) = ks.map f
  | [], [], _ => rfl
  | _ :: ks, _ :: us, h => by rw [zipK_cons, List.map_cons, List.map_cons, zipK_fst (by simpa using h)]
  | [], _ :: _, h => by simp at h
  | _ :: _, [], h => by simp at h
theorem find_zipK : ∀ {ks : List PV} {us : List β}, (∀ x ∈ ks, eqP x k = decide (f x = f k)) → ((zipK f ks us).find? fun y => decide (y.1 = f k)).map (·.2) = lookU k ks us
  | [], _, _ => rfl
  | _ :: _, [], _ => rfl
  | x :: ks, u :: us, E => by
    have h := E x List.mem_cons_self
    rw [zipK_cons, List.find?_cons]
    simp only [lookU, h]
    by_cases c : f x = f k
    · simp [c]
    · simp only [c, decide_false, Bool.false_eq_true, if_false]
      exact find_zipK fun y hy => E y (List.mem_cons_of_mem _ hy)
theorem hasK_lookU : ∀ {ks : List PV} {us : List β}, ks.length = us.length → (lookU k ks us).isSome = hasK k ks
  | [], [], _ => rfl
  | x :: ks, u :: us, h => by
    simp only [lookU, hasK, List.any_cons]
    by_cases c : eqP x k = true
    · simp [c]
    · have c : eqP x k = false := Bool.not_eq_true _ ▸ c
      simp only [c, Bool.false_eq_true, if_false, Bool.false_or]
      exact hasK_lookU (by simpa using h)
  | [], _ :: _, h => by simp at h
  | _ :: _, [], h => by simp at h
theorem hasK_mem {ks : List PV} (E : ∀ x ∈ ks, eqP x k = decide (f x = f k)) : hasK k ks = decide (f k ∈ ks.map f) := by
  induction ks with
  | nil => rfl
  | cons x ks ih =>
    have ih := ih fun y hy => E y (List.mem_cons_of_mem _ hy)
    simp only [hasK, List.any_cons, List.map_cons, List.mem_cons] at ih ⊢
    rw [ih, E x List.mem_cons_self]
    by_cases c : f x = f k
    · simp [c]
    · have c2 : ¬ f k = f x := fun z => c z.symm
      simp [c, c2]
theorem put_new {g : β → β} {new : β} : ∀ {ks : List PV} {us : List β}, ks.length = us.length → hasK k ks = false → zipK f ks us ++ [(f k, new)] = zipK f (ks ++ [k]) (putU k g new ks us)
  | [], [], _, _ => rfl
  | x :: ks, u :: us, hl, h => by
    simp only [hasK, List.any_cons, Bool.or_eq_false_iff] at h
    simp only [putU, h.1, Bool.false_eq_true, if_false, List.cons_append, zipK_cons]
    rw [put_new (g := g) (by simpa using hl) h.2]
  | [], _ :: _, h, _ => by simp at h
  | _ :: _, [], h, _ => by simp at h
theorem map_same {g : β → β} : ∀ {ks : List PV} {us : List β}, f k ∉ ks.map f → (zipK f ks us).map (fun y => if y.1 = f k then (y.1, g y.2) else y) = zipK f ks us
  | [], _, _ => rfl
  | _ :: _, [], _ => rfl
  | x :: ks, u :: us, h => by
    simp only [List.map_cons, List.mem_cons, not_or] at h
    rw [zipK_cons, List.map_cons, map_same h.2, if_neg fun z => h.1 z.symm]
theorem put_old {g : β → β} {new : β} : ∀ {ks : List PV} {us : List β}, (ks.map f).Nodup → (∀ x ∈ ks, eqP x k = decide (f x = f k)) → ks.length = us.length → hasK k ks = true →
    (zipK f ks us).map (fun y => if y.1 = f k then (y.1, g y.2) else y) = zipK f ks (putU k g new ks us)
  | [], _, _, _, _, h => by simp [hasK] at h
  | _ :: _, [], _, _, hl, _ => by simp at hl
  | x :: ks, u :: us, hn, E, hl, h => by
    rw [List.map_cons, List.nodup_cons] at hn
    have e := E x List.mem_cons_self
    simp only [hasK, List.any_cons] at h
    rw [zipK_cons, List.map_cons]
    simp only [putU, e]
    by_cases c : f x = f k
    · simp only [c, decide_true, if_true, zipK_cons]
      rw [map_same (by rw [← c]; exact hn.1)]
    · rw [e] at h
      simp only [c, decide_false, Bool.false_or] at h
      simp only [c, decide_false, Bool.false_eq_true, if_false, zipK_cons]
      rw [put_old (new := new) hn.2 (fun y hy => E y (List.mem_cons_of_mem _ hy)) (by simpa using hl) h]
theorem filter_same : ∀ {ks : List PV} {us : List β}, f k ∉ ks.map f → (zipK f ks us).filter (fun y => decide (y.1 ≠ f k)) = zipK f ks us
  | [], _, _ => rfl
  | _ :: _, [], _ => rfl
  | x :: ks, u :: us, h => by
    simp only [List.map_cons, List.mem_cons, not_or] at h
    rw [zipK_cons, List.filter_cons, filter_same h.2, if_pos]
    exact decide_eq_true fun z => h.1 z.symm
theorem del_zipK : ∀ {ks : List PV} {us : List β}, (ks.map f).Nodup → (∀ x ∈ ks, eqP x k = decide (f x = f k)) → (zipK f ks us).filter (fun y => decide (y.1 ≠ f k)) = zipK f (delK k ks) (delU k ks us)
  | [], _, _, _ => rfl
  | x :: ks, [], _, _ => by
    simp only [delU]
    cases delK k (x :: ks) <;> rfl
  | x :: ks, u :: us, hn, E => by
    rw [List.map_cons, List.nodup_cons] at hn
    have e := E x List.mem_cons_self
    rw [zipK_cons, List.filter_cons]
    simp only [delK, delU, e]
    by_cases c : f x = f k
    · simp only [c, decide_true, if_true, ne_eq, not_true_eq_false, decide_false, Bool.false_eq_true, if_false]
      exact filter_same (by rw [← c]; exact hn.1)
    · simp only [c, decide_false, Bool.false_eq_true, if_false, ne_eq, not_false_eq_true, decide_true, if_true, zipK_cons]
      rw [del_zipK hn.2 fun y hy => E y (List.mem_cons_of_mem _ hy)]
theorem hasK_cons (k x : PV) (ks : List PV) : hasK k (x :: ks) = (eqP x k || hasK k ks) := rfl
theorem putK_cons (k x : PV) (ks : List PV) (h : eqP x k = false) : putK k (x :: ks) = x :: putK k ks := by
  unfold putK
  rw [hasK_cons, h, Bool.false_or]
  cases hasK k ks <;> rfl
theorem putK_hit (k x : PV) (ks : List PV) (h : eqP x k = true) : putK k (x :: ks) = x :: ks := by
  unfold putK
  rw [hasK_cons, h, Bool.true_or]
  rfl
theorem putU_length {g : β → β} {new : β} : ∀ {ks : List PV} {us : List β}, ks.length = us.length → (putU k g new ks us).length = (putK k ks).length
  | [], [], _ => by simp [putU, putK, hasK]
  | x :: ks, u :: us, hl => by
    have ih := putU_length (g := g) (new := new) (ks := ks) (us := us) (by simpa using hl)
    by_cases c : eqP x k = true
    · simp only [putU, c, if_true]
      rw [putK_hit k x ks c]
      simpa using hl.symm
    · have c : eqP x k = false := Bool.not_eq_true _ ▸ c
      simp only [putU, c, Bool.false_eq_true, if_false]
      rw [putK_cons k x ks c, List.length_cons, List.length_cons, ih]
  | [], _ :: _, h => by simp at h
  | _ :: _, [], h => by simp at h
end
theorem paired_putU {α β : Type} {R : α → β → Prop} {k : PV} {a : α} {b : β} (r : R a b) : ∀ {ks : List PV} {xs : List α} {ys : List β}, Paired R xs ys → Paired R (putU k (fun _ => a) a ks xs) (putU k (fun _ => b) b ks ys)
  | [], _, _, h => by cases h <;> exact .cons r .nil
  | _ :: _, _, _, .nil => .cons r .nil
  | x :: ks, _, _, .cons h t => by
    simp only [putU]
    split
    · exact .cons r t
    · exact .cons h (paired_putU r t)
theorem paired_delU {α β : Type} {R : α → β → Prop} {k : PV} : ∀ {ks : List PV} {xs : List α} {ys : List β}, Paired R xs ys → Paired R (delU k ks xs) (delU k ks ys)
  | [], _, _, h => by cases h <;> exact .nil
  | _ :: _, _, _, .nil => .nil
  | x :: ks, _, _, .cons h t => by
    simp only [delU]
    split
    · exact t
    · exact .cons h (paired_delU t)
theorem paired_lookU {α β : Type} {R : α → β → Prop} {k : PV} : ∀ {ks : List PV} {xs : List α} {ys : List β}, Paired R xs ys → (∀ a, lookU k ks xs = some a → ∃ b, lookU k ks ys = some b ∧ R a b) ∧ (lookU k ks xs = none → lookU k ks ys = none)
  | [], _, _, h => ⟨fun a e => by simp [lookU] at e, fun _ => rfl⟩
  | _ :: _, _, _, .nil => ⟨fun a e => by simp [lookU] at e, fun _ => rfl⟩
  | x :: ks, _, _, .cons h t => by
    simp only [lookU]
    split
    · exact ⟨fun a e => by cases e; exact ⟨_, rfl, h⟩, fun e => by cases e⟩
    · exact paired_lookU t
theorem look_U (k : PV) : ∀ (ks vs : List PV), look k ks vs = lookU k ks vs
  | [], _ => by simp [look, lookU]
  | _ :: _, [] => by simp [look, lookU]
  | x :: ks, v :: vs => by simp only [look, lookU, look_U k ks vs]
theorem putV_U (k v : PV) : ∀ (ks vs : List PV), putV k v ks vs = putU k (fun _ => v) v ks vs
  | [], _ => by simp [putV, putU]
  | _ :: _, [] => by simp [putV, putU]
  | x :: ks, w :: vs => by simp only [putV, putU, putV_U k v ks vs]
theorem delV_U (k : PV) : ∀ (ks vs : List PV), delV k ks vs = delU k ks vs
  | [], _ => by simp [delV, delU]
  | _ :: _, [] => by simp [delV, delU]
  | x :: ks, w :: vs => by simp only [delV, delU, delV_U k ks vs]
section
variable {W : Wd} {β : List Addr} {H : Hp}
theorem repL_pair : ∀ {ps : List PV} {vs : List V}, RepL W β H ps vs ↔ Paired (Rep W β H) ps vs
  | [], vs => by
    simp only [RepL]
    constructor
    · rintro rfl; exact .nil
    · intro h; cases h; rfl
  | p :: ps, vs => by
    simp only [RepL]
    constructor
    · rintro ⟨v, r, rfl, h1, h2⟩; exact .cons h1 (repL_pair.mp h2)
    · intro h; cases h with
      | cons h t => exact ⟨_, _, rfl, h, repL_pair.mpr t⟩
end
end G
end

section
/-! Dd2: a dict of the interpreter, as the kit tells it. -/
namespace G
open PySem PySem.Spec PyProof.Rows L2
section
variable {W : Wd} {β : List Addr} {H : Hp} {p : PV} {v : V} {ks ws : List PV}
theorem RdB.dct (h : RdB W β H (.dct ks ws) v) : ∃ a es kv vv, v = .ref a ∧ L2.Rd H a (DX a es) ∧ DEnt W.w es ks kv vv ∧ RepL W β H ks kv ∧ RepL W β H ws vv := by
  rcases h with h | ⟨a, rfl, es, kv, vv, h1, h2, h3, h4⟩
  · simp only [Rep] at h
    obtain ⟨a, es, kv, vv, rfl, ⟨o, f⟩, h2, h3, h4⟩ := h
    exact ⟨a, es, kv, vv, rfl, .inr ⟨o, f⟩, h2, h3, h4⟩
  · exact ⟨a, es, kv, vv, rfl, .inl h1, h2, h3, h4⟩
end
theorem kOk_spec {k : PV} {ks : List PV} (h : kOk k ks = true) : kd k ≠ .bad ∧ ∀ x ∈ ks, kd x = kd k := by
  simp only [kOk, Bool.and_eq_true, decide_eq_true_eq, List.all_eq_true] at h
  exact h
/-! ### keys that are ints or texts -/
theorem key_hash_leaf {w : World} {k : PV} (h : kd k = .leaf) : (toKey k).hash w = keyH w (toK k) := by
  rcases kd_leaf h with ⟨i, rfl⟩ | ⟨s, rfl⟩ <;> simp [toKey, toK, NestedKey.hash, keyH]
section
variable {W : Wd} {β : List Addr} {H : Hp} {P : Program} {w : World}
theorem leaf_is {k : PV} {v : V} {u : Value} (h : kd k = .leaf) (r : Rep W β H k v) (ru : RelV v u) : keyIs (toK k) u = true := by
  rcases kd_leaf h with ⟨i, rfl⟩ | ⟨s, rfl⟩
  · simp only [Rep] at r; subst r
    obtain ⟨t, rfl⟩ := (show ∃ t, u = Value.int i t from ru)
    exact keyIs_int i t
  · simp only [Rep] at r; subst r
    obtain ⟨t, rfl⟩ := (show ∃ t, u = Value.str s t from ru)
    exact keyIs_str s t
theorem is_leaf {k : PV} {u : Value} (h : kd k = .leaf) (g : keyIs (toK k) u = true) : RelV (toV k) u ∧ ∀ β H, Rep W β H k (toV k) := by
  rcases kd_leaf h with ⟨i, rfl⟩ | ⟨s, rfl⟩
  · rcases keyIs_shape g with ⟨j, t, e, rfl⟩ | ⟨x, t, e, rfl⟩
    · cases e; exact ⟨⟨t, rfl⟩, fun β H => by simp only [Rep, toV]⟩
    · cases e
  · rcases keyIs_shape g with ⟨j, t, e, rfl⟩ | ⟨x, t, e, rfl⟩
    · cases e
    · cases e; exact ⟨⟨t, rfl⟩, fun β H => by simp only [Rep, toV]⟩
theorem pairs_of' : ∀ {l : List DictEntry} {ks : List PV} {kv : List V}, Vals kv (l.map (·.key)) → Paired (Rep W β H) ks kv → (∀ k ∈ ks, kd k = .leaf) → l.map (·.hash) = ks.map (fun k => (toKey k).hash w) →
    PySem.Pairs (mixKind P w) l (zipK toK ks (l.map (·.val))) ∧ ∀ e ∈ l, ∃ k, (mixKind P w).is k e.key = true ∧ e.hash = (mixKind P w).hash k
  | [], ks, kv, h, r, hk, hh => by
    cases h; cases r
    exact ⟨.nil, fun e he => by cases he⟩
  | e :: l, ks, kv, h, r, hk, hh => by
    cases h with
    | cons h1 t => cases r with
      | @cons k v ks vs r1 rt =>
        simp only [List.map_cons, List.cons.injEq] at hh
        obtain ⟨i1, i2⟩ := pairs_of' t rt (fun x hx => hk x (List.mem_cons_of_mem _ hx)) hh.2
        have q := leaf_is (hk _ List.mem_cons_self) r1 h1
        refine ⟨.cons q rfl i1, fun e' he => ?_⟩
        rcases List.mem_cons.mp he with rfl | he
        · exact ⟨toK k, q, by rw [hh.1]; exact key_hash_leaf (hk _ List.mem_cons_self)⟩
        · exact i2 e' he
theorem of_pairs' : ∀ {l : List DictEntry} {ks : List PV} {us : List Value}, PySem.Pairs (mixKind P w) l (zipK toK ks us) → ks.length = us.length → (∀ k ∈ ks, kd k = .leaf) → (∀ e ∈ l, ∃ k, (mixKind P w).is k e.key = true ∧ e.hash = (mixKind P w).hash k) →
    l.map (·.val) = us ∧ Vals (ks.map toV) (l.map (·.key)) ∧ l.map (·.hash) = ks.map (fun k => (toKey k).hash w) ∧ Paired (Rep W β H) ks (ks.map toV)
  | l, [], [], h, _, hk, hh => by
    cases h
    exact ⟨rfl, .nil, rfl, .nil⟩
  | l, k :: ks, u :: us, h, hl, hk, hh => by
    rw [zipK_cons] at h
    cases h with
    | @cons e _ l' _ h1 h2 t =>
      obtain ⟨i1, i2, i3, i4⟩ := of_pairs' t (by simpa using hl) (fun x hx => hk x (List.mem_cons_of_mem _ hx)) (fun e he => hh e (List.mem_cons_of_mem _ he))
      have h1' : keyIs (toK k) e.key = true := h1
      obtain ⟨q1, q2⟩ := is_leaf (W := W) (hk _ List.mem_cons_self) h1'
      obtain ⟨j, hj, hs⟩ := hh e List.mem_cons_self
      have ej : j = toK k := (mixKind P w).inj e.key j (toK k) hj h1
      refine ⟨by rw [List.map_cons, i1, h2], .cons q1 i2, ?_, .cons (q2 β H) i4⟩
      rw [List.map_cons, List.map_cons, i3, hs, ej]
      congr 1
      exact (key_hash_leaf (hk _ List.mem_cons_self)).symm
  | _, [], _ :: _, _, h, _, _ => by simp at h
  | _, _ :: _, [], _, h, _, _ => by simp at h
theorem leaf_nodup {ks : List PV} (hk : ∀ k ∈ ks, kd k = .leaf) (hn : (ks.map toKey).Nodup) : (ks.map toK).Nodup := by
  induction ks with
  | nil => exact List.nodup_nil
  | cons k ks ih =>
    rw [List.map_cons, List.nodup_cons] at hn ⊢
    refine ⟨fun z => hn.1 ?_, ih (fun x hx => hk x (List.mem_cons_of_mem _ hx)) hn.2⟩
    obtain ⟨j, hj, e⟩ := List.mem_map.mp z
    refine List.mem_map.mpr ⟨j, hj, ?_⟩
    rcases kd_leaf (hk k List.mem_cons_self) with ⟨i, rfl⟩ | ⟨s, rfl⟩ <;> rcases kd_leaf (hk j (List.mem_cons_of_mem _ hj)) with ⟨i', rfl⟩ | ⟨s', rfl⟩ <;> simp [toK] at e <;> simp [toKey, e]
theorem nodup_leaf {ks : List PV} (hk : ∀ k ∈ ks, kd k = .leaf) (hn : (ks.map toK).Nodup) : (ks.map toKey).Nodup := by
  induction ks with
  | nil => exact List.nodup_nil
  | cons k ks ih =>
    rw [List.map_cons, List.nodup_cons] at hn ⊢
    refine ⟨fun z => hn.1 ?_, ih (fun x hx => hk x (List.mem_cons_of_mem _ hx)) hn.2⟩
    obtain ⟨j, hj, e⟩ := List.mem_map.mp z
    refine List.mem_map.mpr ⟨j, hj, ?_⟩
    rcases kd_leaf (hk k List.mem_cons_self) with ⟨i, rfl⟩ | ⟨s, rfl⟩ <;> rcases kd_leaf (hk j (List.mem_cons_of_mem _ hj)) with ⟨i', rfl⟩ | ⟨s', rfl⟩ <;> simp [toKey] at e <;> simp [toK, e]
theorem DEnt.len {es : Array DictEntry} {ks : List PV} {kv vv : List V} (D : DEnt w es ks kv vv) (r : RepL W β H ks kv) : ks.length = (es.toList.map (·.val)).length ∧ es.size = ks.length := by
  have h1 := D.key.length
  have h2 := r.length
  simp only [List.length_map, Array.length_toList] at h1 ⊢
  omega
/-- the kit's dict of ints and texts -/
theorem leaf_dictOf {h : Heap} {a : Addr} {es : Array DictEntry} {ep : Nat} {ks : List PV} {kv vv : List V} (D : DEnt w es ks kv vv) (r : RepL W β H ks kv) (hk : ∀ k ∈ ks, kd k = .leaf) (hr : h.DictRaw a es ep) : h.DictOf (mixKind P w) a (zipK toK ks (es.toList.map (·.val))) := by
  obtain ⟨o, ho, hc, hd⟩ := hr
  obtain ⟨p1, p2⟩ := pairs_of' (P := P) D.key (repL_pair.mp r) hk D.hash
  refine ⟨o, es, ep, ho, hc, hd, fun e he => p2 e (by simpa using he), p1, ?_⟩
  rw [zipK_fst (D.len r).1]
  exact leaf_nodup hk D.nd
theorem dictOf_leaf {h : Heap} {a : Addr} {ks : List PV} {us : List Value} {vv : List V} (hl : ks.length = us.length) (hk : ∀ k ∈ ks, kd k = .leaf) (hv : Vals vv us) (hd : h.DictOf (mixKind P w) a (zipK toK ks us)) :
    ∃ es ep, h.DictRaw a es ep ∧ DEnt w es ks (ks.map toV) vv ∧ es.toList.map (·.val) = us ∧ RepL W β H ks (ks.map toV) := by
  obtain ⟨o, es, ep, ho, hc, hdat, hko, hp, hn⟩ := hd
  obtain ⟨h1, h2, h3, h4⟩ := of_pairs' (W := W) (β := β) (H := H) hp hl hk fun e he => hko e (by simpa using he)
  rw [zipK_fst hl] at hn
  refine ⟨es, ep, ⟨o, ho, hc, hdat⟩, ⟨h2, by rw [h1]; exact hv, h3, nodup_leaf hk hn, fun k hk1 k' hk2 => (hk k hk1).trans (hk k' hk2).symm, fun k hk1 => by rw [hk k hk1]; decide⟩, h1, repL_pair.mpr h4⟩
end
/-! ### keys that are tuples -/
section
variable {X : Cx} {pins : List (Addr × Obj)} {σ : L2.St} {H : Hp} {s : Shared} {W : Wd} {β : List Addr}
mutual
theorem key_depth : ∀ (p : PV) (n : Nat), keyIn p n = true → (toKey p).depth ≤ n
  | .non, n, h => by simp [toKey, NestedKey.depth]
  | .bl _, n, h => by simp [toKey, NestedKey.depth]
  | .int _, n, h => by simp [toKey, NestedKey.depth]
  | .str _, n, h => by simp [toKey, NestedKey.depth]
  | .tup xs, 0, h => by simp [keyIn] at h
  | .tup xs, n + 1, h => by
    simp only [keyIn] at h
    have := key_depthL xs n h
    simp only [toKey, NestedKey.depth]
    omega
  | .lst _, _, h => by simp [keyIn] at h
  | .dct _ _, _, h => by simp [keyIn] at h
  | .ref _, _, h => by simp [keyIn] at h
  | .fn _, _, h => by simp [keyIn] at h
  | .exc _ _, _, h => by simp [keyIn] at h
theorem key_depthL : ∀ (ps : List PV) (n : Nat), keyInL ps n = true → NestedKey.depthAll (toKeys ps) ≤ n
  | [], n, h => by simp [toKeys, NestedKey.depthAll]
  | p :: ps, n, h => by
    simp only [keyInL, Bool.and_eq_true] at h
    have h1 := key_depth p n h.1
    have h2 := key_depthL ps n h.2
    simp only [toKeys, NestedKey.depthAll]
    omega
end
mutual
theorem Rep.nested (hK : W.K = X.K) (I : Inv X pins σ H s) : ∀ (p : PV) (n : Nat) {v : V} {u : Value}, keyIn p n = true → Rep W β H p v → RelV v u → NestedIs s.heap (toKey p) u
  | .non, n, v, u, h, r, ru => by
    simp only [Rep] at r; subst r
    obtain rfl : u = Value.none := ru
    simp only [toKey]; exact .none
  | .bl b, n, v, u, h, r, ru => by
    simp only [Rep] at r; subst r
    obtain rfl : u = Value.bool b := ru
    simp only [toKey]; exact .bool rfl
  | .int i, n, v, u, h, r, ru => by
    simp only [Rep] at r; subst r
    obtain ⟨t, rfl⟩ := (show ∃ t, u = Value.int i t from ru)
    simp only [toKey]; exact .int i t
  | .str x, n, v, u, h, r, ru => by
    simp only [Rep] at r; subst r
    obtain ⟨t, rfl⟩ := (show ∃ t, u = Value.str x t from ru)
    simp only [toKey]; exact .text x t
  | .tup xs, 0, _, _, h, _, _ => by simp [keyIn] at h
  | .tup xs, n + 1, v, u, h, r, ru => by
    simp only [keyIn] at h
    simp only [Rep] at r
    obtain ⟨a, vs, rfl, ha, ra⟩ := r
    obtain rfl : u = Value.ref a := ru
    rw [hK] at ha
    obtain ⟨its, rv, p, hz⟩ := I.tuple ha
    obtain ⟨o, ho, hc, n', hd⟩ := p
    simp only [toKey]
    refine .tup ho hc hd ?_
    exact RepL.nested hK I xs n h ra (by simpa using rv)
  | .lst _, _, _, _, h, _, _ => by simp [keyIn] at h
  | .dct _ _, _, _, _, h, _, _ => by simp [keyIn] at h
  | .ref _, _, _, _, h, _, _ => by simp [keyIn] at h
  | .fn _, _, _, _, h, _, _ => by simp [keyIn] at h
  | .exc _ _, _, _, _, h, _, _ => by simp [keyIn] at h
theorem RepL.nested (hK : W.K = X.K) (I : Inv X pins σ H s) : ∀ (ps : List PV) (n : Nat) {vs : List V} {us : List Value}, keyInL ps n = true → RepL W β H ps vs → Vals vs us → NestedAll s.heap (toKeys ps) us
  | [], n, vs, us, h, r, rv => by
    simp only [RepL] at r; subst r
    cases rv
    simp only [toKeys]; exact .nil
  | p :: ps, n, vs, us, h, r, rv => by
    simp only [keyInL, Bool.and_eq_true] at h
    simp only [RepL] at r
    obtain ⟨v, r', rfl, h1, h2⟩ := r
    cases rv with
    | cons q1 q2 =>
      simp only [toKeys]
      exact .cons (Rep.nested hK I p n h.1 h1 q1) (RepL.nested hK I ps n h.2 h2 q2)
end
theorem tup_is (hK : W.K = X.K) (I : Inv X pins σ H s) {k : PV} {v : V} {u : Value} (h : kd k = .tup) (r : Rep W β H k v) (ru : RelV v u) : ∃ b, u = .ref b ∧ v = .ref b ∧ (nestedKind X.prog X.w).is s.heap (toKey k) b := by
  obtain ⟨xs, rfl, hx⟩ := kd_tup h
  have h8 : keyIn (.tup xs) 8 = true := by simpa only [keyIn] using hx
  have hn := Rep.nested hK I (.tup xs) 8 h8 r ru
  simp only [Rep] at r
  obtain ⟨a, vs, rfl, ha, ra⟩ := r
  obtain rfl : u = Value.ref a := ru
  exact ⟨a, rfl, rfl, hn, key_depth _ 8 h8⟩
/-- entries with tuples for keys -/
theorem entries_of (hK : W.K = X.K) (I : Inv X pins σ H s) {w : World} : ∀ {l : List DictEntry} {ks : List PV} {kv : List V}, Vals kv (l.map (·.key)) → Paired (Rep W β H) ks kv → (∀ k ∈ ks, kd k = .tup) → l.map (·.hash) = ks.map (fun k => (toKey k).hash X.w) →
    ∃ as : List Addr, kv = as.map V.ref ∧ l = (zipK toKey ks (as.zip (l.map (·.val)))).map (entryOfKey (nestedKind X.prog X.w)) ∧ (∀ x ∈ zipK toKey ks (as.zip (l.map (·.val))), (nestedKind X.prog X.w).is s.heap x.1 x.2.1)
  | [], ks, kv, h, r, hk, hh => by
    cases h; cases r
    exact ⟨[], rfl, rfl, fun x hx => by cases hx⟩
  | e :: l, ks, kv, h, r, hk, hh => by
    cases h with
    | cons h1 t => cases r with
      | @cons k v ks vs r1 rt =>
        simp only [List.map_cons, List.cons.injEq] at hh
        obtain ⟨as, i1, i2, i3⟩ := entries_of hK I (w := w) t rt (fun x hx => hk x (List.mem_cons_of_mem _ hx)) hh.2
        obtain ⟨b, eb, ev, hb⟩ := tup_is hK I (hk _ List.mem_cons_self) r1 h1
        refine ⟨b :: as, by rw [ev, i1]; rfl, ?_, fun x hx => ?_⟩
        · rw [List.map_cons, List.zip_cons_cons, zipK_cons, List.map_cons, ← i2]
          congr 1
          obtain ⟨eh, ek, ev'⟩ := e
          simp only at hh eb
          simp only [entryOfKey, hh.1, eb]
          rfl
        · rw [List.map_cons, List.zip_cons_cons, zipK_cons] at hx
          rcases List.mem_cons.mp hx with rfl | hx
          · exact hb
          · exact i3 x hx
theorem tup_dictOf (hK : W.K = X.K) (I : Inv X pins σ H s) {a : Addr} {es : Array DictEntry} {ep : Nat} {ks : List PV} {kv vv : List V} (D : DEnt X.w es ks kv vv) (r : RepL W β H ks kv) (hk : ∀ k ∈ ks, kd k = .tup) (hr : s.heap.DictRaw a es ep) :
    ∃ as : List Addr, kv = as.map V.ref ∧ as.length = ks.length ∧ s.heap.DictOfH (nestedKind X.prog X.w) a (zipK toKey ks (as.zip (es.toList.map (·.val)))) := by
  obtain ⟨o, ho, hc, hd⟩ := hr
  obtain ⟨as, h1, h2, h3⟩ := entries_of hK I (w := X.w) D.key (repL_pair.mp r) hk D.hash
  have hl := (D.len r).1
  have hal : as.length = ks.length := by
    have := r.length
    rw [h1, List.length_map] at this
    exact this
  refine ⟨as, h1, hal, o, es, ep, ho, hc, hd, h2, h3, ?_⟩
  rw [zipK_fst]
  · exact D.nd
  · rw [List.length_zip, hal, ← hl, Nat.min_self]
theorem dictOf_tup {h : Heap} {a : Addr} {ks : List PV} {as : List Addr} {us : List Value} {vv : List V} {P : Program} {w : World} (hl : ks.length = us.length) (hal : as.length = ks.length) (hk : ∀ k ∈ ks, kd k = .tup) (hv : Vals vv us) (hd : h.DictOfH (nestedKind P w) a (zipK toKey ks (as.zip us))) :
    ∃ es ep, h.DictRaw a es ep ∧ DEnt w es ks (as.map V.ref) vv ∧ es.toList.map (·.val) = us := by
  obtain ⟨o, es, ep, ho, hc, hdat, he, his, hn⟩ := hd
  rw [zipK_fst (by rw [List.length_zip, hal, ← hl, Nat.min_self])] at hn
  have gen : ∀ {ks : List PV} {as : List Addr} {us : List Value}, ks.length = us.length → as.length = ks.length → ((zipK toKey ks (as.zip us)).map (entryOfKey (nestedKind P w))).map (·.val) = us ∧ Vals (as.map V.ref) (((zipK toKey ks (as.zip us)).map (entryOfKey (nestedKind P w))).map (·.key)) ∧ ((zipK toKey ks (as.zip us)).map (entryOfKey (nestedKind P w))).map (·.hash) = ks.map fun k => (toKey k).hash w := by
    intro ks
    induction ks with
    | nil =>
      intro as us h1 h2
      cases us with
      | nil => cases as with
        | nil => exact ⟨rfl, .nil, rfl⟩
        | cons _ _ => simp at h2
      | cons _ _ => simp at h1
    | cons k ks ih =>
      intro as us h1 h2
      cases us with
      | nil => simp at h1
      | cons u us => cases as with
        | nil => simp at h2
        | cons b as =>
          obtain ⟨i1, i2, i3⟩ := ih (as := as) (us := us) (by simpa using h1) (by simpa using h2)
          simp only [List.zip_cons_cons, zipK_cons, List.map_cons]
          exact ⟨by rw [i1]; rfl, .cons rfl i2, by rw [i3]; rfl⟩
  obtain ⟨g1, g2, g3⟩ := gen hl hal
  rw [← he] at g1 g2 g3
  exact ⟨es, ep, ⟨o, ho, hc, hdat⟩, ⟨g2, by rw [g1]; exact hv, g3, hn, fun k hk1 k' hk2 => (hk k hk1).trans (hk k' hk2).symm, fun k hk1 => by rw [hk k hk1]; decide⟩, g1⟩
end
end G
end

section
/-! Dd3: what is asked of a dict, what is stored in it. -/
namespace G
open PySem PySem.Spec PyProof.Rows L2
section
variable {X : Cx} {pins : List (Addr × Obj)} {σ : L2.St} {H : Hp} {s : Shared} {W : Wd} {β : List Addr} {A : Around} {E : Value → Shared → Prop} {ks ws : List PV} {k : PV} {a : Addr} {y : V} {u : Value}
/-- a dict that may be read -/
structure DAt (W : Wd) (β : List Addr) (H : Hp) (ks ws : List PV) (a : Addr) (es : Array DictEntry) (kv vv : List V) : Prop where
  at_ : L2.Rd H a (DX a es)
  ent : DEnt W.w es ks kv vv
  rk : RepL W β H ks kv
  rw : RepL W β H ws vv
theorem RdB.dat_ (h : RdB W β H (.dct ks ws) (.ref a)) : ∃ es kv vv, DAt W β H ks ws a es kv vv := by
  obtain ⟨b, es, kv, vv, e, h1, h2, h3, h4⟩ := h.dct
  cases e
  exact ⟨es, kv, vv, h1, h2, h3, h4⟩
theorem dx_raw (I : Inv X pins σ H s) {es : Array DictEntry} (h : L2.Rd H a (DX a es)) : (a == sysModules) = false ∧ es.size ≤ sizeLine ∧ ∃ ep, s.heap.DictRaw a es ep := by
  have q := h.ok I.hok
  exact q.1
theorem DAt.lens {es : Array DictEntry} {kv vv : List V} (d : DAt W β H ks ws a es kv vv) : ks.length = (es.toList.map (·.val)).length ∧ ks.length = ws.length ∧ es.size = ks.length := by
  obtain ⟨h1, h2⟩ := d.ent.len d.rk
  refine ⟨h1, ?_, h2⟩
  have := d.rw.length
  have h3 := d.ent.val.length
  omega
theorem kind_of (ok : kOk k ks = true) : (kd k = .leaf ∧ ∀ x ∈ ks, kd x = .leaf) ∨ (kd k = .tup ∧ ∀ x ∈ ks, kd x = .tup) := by
  obtain ⟨h1, h2⟩ := kOk_spec ok
  cases h : kd k with
  | leaf => exact .inl ⟨rfl, fun x hx => by rw [h2 x hx, h]⟩
  | tup => exact .inr ⟨rfl, fun x hx => by rw [h2 x hx, h]⟩
  | bad => exact absurd h h1
theorem E_leaf (h : kd k = .leaf) (hs : ∀ x ∈ ks, kd x = .leaf) : ∀ x ∈ ks, eqP x k = decide (toK x = toK k) := fun x hx => eq_leaf (hs x hx) h
theorem E_tup (h : kd k = .tup) (hs : ∀ x ∈ ks, kd x = .tup) : ∀ x ∈ ks, eqP x k = decide (toKey x = toKey k) := fun x hx => eq_tup (hs x hx) h
theorem val_leaf {us : List Value} (h : kd k = .leaf) (hs : ∀ x ∈ ks, kd x = .leaf) : valueAt (zipK toK ks us) (toK k) = lookU k ks us := find_zipK (E_leaf h hs)
theorem val_tup {us : List (Addr × Value)} (h : kd k = .tup) (hs : ∀ x ∈ ks, kd x = .tup) : atKey (zipK toKey ks us) (toKey k) = lookU k ks us := find_zipK (E_tup h hs)
theorem lookU_zip : ∀ {ks : List PV} {as : List Addr} {us : List Value}, as.length = ks.length → (lookU k ks (as.zip us)).map (·.2) = lookU k ks us
  | [], _, _, _ => by simp [lookU]
  | x :: ks, a :: as, [], h => by simp [lookU]
  | x :: ks, a :: as, u :: us, h => by
    simp only [List.zip_cons_cons, lookU]
    split
    · rfl
    · exact lookU_zip (by simpa using h)
  | _ :: _, [], _, h => by simp at h
variable (hK : W.K = X.K) (hw : W.w = X.w) (hu : A.units + 65 < cLine) (I : Inv X pins σ H s)
include hK hw I
theorem room_k (hu : A.units + 65 < cLine) : (nestedKind X.prog X.w).room A.in1 := by
  show A.units + 1 + 8 < cLine
  omega
theorem dd_contains (hu : A.units + 65 < cLine) (d : RdB W β H (.dct ks ws) (.ref a)) (rk : Rep W β H k y) (ok : kOk k ks = true) (ry : RelV y u) (neg : Bool) {Q : Value → Shared → Prop} (h : ∀ s', Inv X pins σ H s' → Q (.bool (if neg then !hasK k ks else hasK k ks)) s') :
    wpAny (model X.prog X.w) A (compareOp (if neg then .NotIn else .In) u (.ref a)) Q E s := by
  obtain ⟨es, kv, vv, d⟩ := d.dat_
  obtain ⟨hs, hz, ep, hr⟩ := dx_raw I d.at_
  have D := d.ent
  rw [hw] at D
  obtain ⟨l1, l2, l3⟩ := d.lens
  rcases kind_of ok with ⟨hk, hks⟩ | ⟨hk, hks⟩
  · have dd := leaf_dictOf (P := X.prog) D d.rk hks hr
    have hv := val_leaf (us := es.toList.map (·.val)) hk hks
    have hb : (valueAt (zipK toK ks (es.toList.map (·.val))) (toK k)).isSome = hasK k ks := by rw [hv, hasK_lookU l1]
    cases neg with
    | false =>
      refine wpAny_in_of (leaf_is hk rk ry) hs dd.mapOf ?_
      rw [hb]
      exact h _ (I.tok _)
    | true =>
      refine wpAny_notIn_of (leaf_is hk rk ry) hs dd.mapOf ?_
      rw [hb]
      exact h _ (I.tok _)
  · obtain ⟨as, e1, hal, dd⟩ := tup_dictOf hK I D d.rk hks hr
    obtain ⟨b, rfl, rfl, hb⟩ := tup_is hK I hk rk ry
    have hv : (atKey (zipK toKey ks (as.zip (es.toList.map (·.val)))) (toKey k)).isSome = hasK k ks := by
      rw [val_tup hk hks, hasK_lookU]
      rw [List.length_zip, hal, ← l1, Nat.min_self]
    cases neg with
    | false =>
      refine wpAny_in_heap (room_k hK hw I hu) hb hs dd ?_
      rw [hv]
      exact h _ (I.tok _)
    | true =>
      refine wpAny_notIn_heap (room_k hK hw I hu) hb hs dd ?_
      rw [hv]
      exact h _ (I.tok _)
/-- what stands at a key -/
theorem DAt.at_key {es : Array DictEntry} {kv vv : List V} (d : DAt W β H ks ws a es kv vv) {p : PV} (l : look k ks ws = some p) : ∃ v u, lookU k ks (es.toList.map (·.val)) = some u ∧ RelV v u ∧ Rep W β H p v := by
  rw [look_U] at l
  obtain ⟨v, e1, r⟩ := (paired_lookU (k := k) (ks := ks) (repL_pair.mp d.rw)).1 p l
  obtain ⟨u, e2, ru⟩ := (paired_lookU (k := k) (ks := ks) (show Paired RelV vv _ from d.ent.val)).1 v e1
  exact ⟨v, u, e2, ru, r⟩
theorem DAt.no_key {es : Array DictEntry} {kv vv : List V} (d : DAt W β H ks ws a es kv vv) (l : look k ks ws = none) : lookU k ks (es.toList.map (·.val)) = none := by
  rw [look_U] at l
  have e1 := (paired_lookU (k := k) (ks := ks) (repL_pair.mp d.rw)).2 l
  exact (paired_lookU (k := k) (ks := ks) (show Paired RelV vv _ from d.ent.val)).2 e1
theorem dd_getItem (hu : A.units + 65 < cLine) (d : RdB W β H (.dct ks ws) (.ref a)) (rk : Rep W β H k y) (ok : kOk k ks = true) (ry : RelV y u) {p : PV} (l : look k ks ws = some p) {Q : Value → Shared → Prop} (h : ∀ v w' s', Inv X pins σ H s' → RelV v w' → Rep W β H p v → Q w' s') :
    wpAny (model X.prog X.w) A (getItem (.ref a) u) Q E s := by
  obtain ⟨es, kv, vv, d⟩ := d.dat_
  obtain ⟨hs, hz, ep, hr⟩ := dx_raw I d.at_
  have D := d.ent
  rw [hw] at D
  obtain ⟨v, w', e1, ru, rp⟩ := d.at_key hK hw I l
  rcases kind_of ok with ⟨hk, hks⟩ | ⟨hk, hks⟩
  · have dd := leaf_dictOf (P := X.prog) D d.rk hks hr
    have hv := val_leaf (us := es.toList.map (·.val)) hk hks
    exact wpAny_getItem_of (leaf_is hk rk ry) dd.mapOf (hv.trans e1) (h v w' _ (I.tok _) ru rp)
  · obtain ⟨as, _, hal, dd⟩ := tup_dictOf hK I D d.rk hks hr
    obtain ⟨b, rfl, rfl, hb⟩ := tup_is hK I hk rk ry
    have e2 := lookU_zip (k := k) (us := es.toList.map (·.val)) hal
    rw [e1] at e2
    obtain ⟨q, hq, hq2⟩ := Option.map_eq_some_iff.mp e2
    refine wpAny_getItem_heap (room_k hK hw I hu) hb dd ((val_tup hk hks).trans hq) ?_
    rw [hq2]
    exact h v w' _ (I.tok _) ru rp
/-- d.get(k), d.get(k, x) -/
theorem dd_get1 (hu : A.units + 65 < cLine) (d : RdB W β H (.dct ks ws) (.ref a)) (rk : Rep W β H k y) (ok : kOk k ks = true) (ry : RelV y u) {Q : Value → Shared → Prop} (h : ∀ v w' s', Inv X pins σ H s' → RelV v w' → Rep W β H ((look k ks ws).getD .non) v → Q w' s') :
    wpAny (model X.prog X.w) A (call (.builtin "dict.get") [.ref a, u]) Q E s := by
  obtain ⟨es, kv, vv, d⟩ := d.dat_
  obtain ⟨hs, hz, ep, hr⟩ := dx_raw I d.at_
  have D := d.ent
  rw [hw] at D
  obtain ⟨v, w', e1, ru, rp⟩ : ∃ v w', (lookU k ks (es.toList.map (·.val))).getD .none = w' ∧ RelV v w' ∧ Rep W β H ((look k ks ws).getD .non) v := by
    cases l : look k ks ws with
    | some p =>
      obtain ⟨v, u', e1, ru, rp⟩ := d.at_key hK hw I l
      exact ⟨v, u', by rw [e1]; rfl, ru, rp⟩
    | none => exact ⟨.non, .none, by rw [d.no_key hK hw I l]; rfl, rfl, by simp only [Option.getD_none, Rep]⟩
  rcases kind_of ok with ⟨hk, hks⟩ | ⟨hk, hks⟩
  · have dd := leaf_dictOf (P := X.prog) D d.rk hks hr
    have hv := val_leaf (us := es.toList.map (·.val)) hk hks
    refine call_meetsIn PySem.F.slot_dict_get dd.typeIs PySem.F.entry_dict_get (PySem.F.args_dict_get_2 _ _) (meets_dict_get (mixKind X.prog X.w) a (leaf_is hk rk ry) hs) ⟨_, dd.mapOf, ?_⟩
    rw [hv, e1]
    exact h v w' _ (I.tok _) ru rp
  · obtain ⟨as, _, hal, dd⟩ := tup_dictOf hK I D d.rk hks hr
    obtain ⟨b, rfl, rfl, hb⟩ := tup_is hK I hk rk ry
    refine call_meetsIn PySem.F.slot_dict_get dd.typeIs PySem.F.entry_dict_get (PySem.F.args_dict_get_2 _ _) (meetsH_dict_get (nestedKind X.prog X.w) a b hs) ⟨room_k hK hw I hu, toKey k, _, hb, dd, ?_⟩
    rw [val_tup hk hks, lookU_zip hal, e1]
    exact h v w' _ (I.tok _) ru rp
theorem dd_get2 (hu : A.units + 65 < cLine) (d : RdB W β H (.dct ks ws) (.ref a)) (rk : Rep W β H k y) (ok : kOk k ks = true) (ry : RelV y u) {q : PV} {z : V} {r : Value} (rq : Rep W β H q z) (rz : RelV z r) {Q : Value → Shared → Prop} (h : ∀ v w' s', Inv X pins σ H s' → RelV v w' → Rep W β H ((look k ks ws).getD q) v → Q w' s') :
    wpAny (model X.prog X.w) A (call (.builtin "dict.get") [.ref a, u, r]) Q E s := by
  obtain ⟨es, kv, vv, d⟩ := d.dat_
  obtain ⟨hs, hz, ep, hr⟩ := dx_raw I d.at_
  have D := d.ent
  rw [hw] at D
  obtain ⟨v, w', e1, ru, rp⟩ : ∃ v w', (lookU k ks (es.toList.map (·.val))).getD r = w' ∧ RelV v w' ∧ Rep W β H ((look k ks ws).getD q) v := by
    cases l : look k ks ws with
    | some p =>
      obtain ⟨v, u', e1, ru, rp⟩ := d.at_key hK hw I l
      exact ⟨v, u', by rw [e1]; rfl, ru, rp⟩
    | none => exact ⟨z, r, by rw [d.no_key hK hw I l]; rfl, rz, rq⟩
  rcases kind_of ok with ⟨hk, hks⟩ | ⟨hk, hks⟩
  · have dd := leaf_dictOf (P := X.prog) D d.rk hks hr
    have hv := val_leaf (us := es.toList.map (·.val)) hk hks
    refine call_meetsIn PySem.F.slot_dict_get dd.typeIs PySem.F.entry_dict_get (PySem.F.args_dict_get_3 _ _ _) (meets_dict_get_default (mixKind X.prog X.w) a (leaf_is hk rk ry) hs r) ⟨_, dd.mapOf, ?_⟩
    rw [hv, e1]
    exact h v w' _ (I.tok _) ru rp
  · obtain ⟨as, _, hal, dd⟩ := tup_dictOf hK I D d.rk hks hr
    obtain ⟨b, rfl, rfl, hb⟩ := tup_is hK I hk rk ry
    refine call_meetsIn PySem.F.slot_dict_get dd.typeIs PySem.F.entry_dict_get (PySem.F.args_dict_get_3 _ _ _) (meetsH_dict_get_default (nestedKind X.prog X.w) a b hs r) ⟨room_k hK hw I hu, toKey k, _, hb, dd, ?_⟩
    rw [val_tup hk hks, lookU_zip hal, e1]
    exact h v w' _ (I.tok _) ru rp
end
/-! ### stores -/
theorem stored_zipK {κ : Type} [DecidableEq κ] {f : PV → κ} {k : PV} {ks : List PV} {us : List Value} {u : Value} (E : ∀ x ∈ ks, eqP x k = decide (f x = f k)) (hl : ks.length = us.length) (hn : (ks.map f).Nodup) :
    stored (zipK f ks us) (f k) u = zipK f (putK k ks) (putU k (fun _ => u) u ks us) := by
  have ha : ((zipK f ks us).any fun kv => decide (kv.1 = f k)) = hasK k ks := by
    have h1 := find_zipK (us := us) E
    rw [← hasK_lookU (k := k) hl, ← h1, Option.isSome_map]
    induction zipK f ks us with
    | nil => rfl
    | cons x xs ih =>
      rw [List.any_cons, List.find?_cons]
      cases decide (x.1 = f k) with
      | true => rfl
      | false => simpa using ih
  unfold stored
  rw [ha]
  cases h : hasK k ks with
  | true =>
    simp only [if_true]
    rw [put_old (g := fun _ => u) (new := u) hn E hl h]
    unfold putK
    rw [h]; rfl
  | false =>
    simp only [Bool.false_eq_true, if_false]
    rw [put_new (g := fun _ => u) hl h]
    unfold putK
    rw [h]; rfl
theorem storedH_zipK {κ : Type} [DecidableEq κ] {f : PV → κ} {k : PV} {ks : List PV} {us : List (Addr × Value)} {b : Addr} {u : Value} (E : ∀ x ∈ ks, eqP x k = decide (f x = f k)) (hl : ks.length = us.length) (hn : (ks.map f).Nodup) :
    storedH (zipK f ks us) (f k) b u = zipK f (putK k ks) (putU k (fun q => (q.1, u)) (b, u) ks us) := by
  have ha : (atKey (zipK f ks us) (f k)).isSome = hasK k ks := by
    rw [show atKey (zipK f ks us) (f k) = lookU k ks us from find_zipK E, hasK_lookU hl]
  unfold storedH
  rw [ha]
  cases h : hasK k ks with
  | true =>
    simp only [if_true]
    have := put_old (k := k) (g := fun q : Addr × Value => (q.1, u)) (new := (b, u)) hn E hl h
    unfold putK
    rw [h]
    exact this
  | false =>
    simp only [Bool.false_eq_true, if_false]
    rw [put_new (g := fun q : Addr × Value => (q.1, u)) hl h]
    unfold putK
    rw [h]; rfl
theorem putU_zip {k : PV} {b : Addr} {u : Value} : ∀ {ks : List PV} {as : List Addr} {us : List Value}, as.length = ks.length → us.length = ks.length → putU k (fun q : Addr × Value => (q.1, u)) (b, u) ks (as.zip us) = (putU k id b ks as).zip (putU k (fun _ => u) u ks us)
  | [], [], [], _, _ => rfl
  | x :: ks, a :: as, w :: us, h1, h2 => by
    simp only [List.zip_cons_cons, putU]
    by_cases c : eqP x k = true
    · simp [c]
    · have c : eqP x k = false := Bool.not_eq_true _ ▸ c
      simp only [c, Bool.false_eq_true, if_false, List.zip_cons_cons]
      rw [putU_zip (by simpa using h1) (by simpa using h2)]
  | [], _ :: _, _, h, _ => by simp at h
  | [], _, _ :: _, _, h => by simp at h
  | _ :: _, [], _, h, _ => by simp at h
  | _ :: _, _, [], _, h => by simp at h
theorem delU_zip {k : PV} : ∀ {ks : List PV} {as : List Addr} {us : List Value}, as.length = ks.length → us.length = ks.length → delU k ks (as.zip us) = (delU k ks as).zip (delU k ks us)
  | [], [], [], _, _ => rfl
  | x :: ks, a :: as, w :: us, h1, h2 => by
    simp only [List.zip_cons_cons, delU]
    by_cases c : eqP x k = true
    · simp [c]
    · have c : eqP x k = false := Bool.not_eq_true _ ▸ c
      simp only [c, Bool.false_eq_true, if_false, List.zip_cons_cons]
      rw [delU_zip (by simpa using h1) (by simpa using h2)]
  | [], _ :: _, _, h, _ => by simp at h
  | [], _, _ :: _, _, h => by simp at h
  | _ :: _, [], _, h, _ => by simp at h
  | _ :: _, _, [], _, h => by simp at h
theorem delU_length {β : Type} {k : PV} : ∀ {ks : List PV} {us : List β}, ks.length = us.length → (delU k ks us).length = (delK k ks).length
  | [], [], _ => rfl
  | x :: ks, u :: us, h => by
    simp only [delU, delK]
    split
    · simpa using h.symm
    · simp only [List.length_cons, delU_length (k := k) (ks := ks) (us := us) (by simpa using h)]
  | [], _ :: _, h => by simp at h
  | _ :: _, [], h => by simp at h
theorem paired_putK {α : Type} {R : PV → α → Prop} {k : PV} {v : α} (r : R k v) : ∀ {ks : List PV} {vs : List α}, Paired R ks vs → Paired R (putK k ks) (putU k id v ks vs)
  | _, _, .nil => .cons r .nil
  | _, _, .cons (a := x) (l₁ := ks) h t => by
    by_cases c : eqP x k = true
    · rw [putK_hit k x ks c]
      simp only [putU, c, if_true, id]
      exact .cons h t
    · have c : eqP x k = false := Bool.not_eq_true _ ▸ c
      rw [putK_cons k x ks c]
      simp only [putU, c, Bool.false_eq_true, if_false]
      exact .cons h (paired_putK r t)
theorem paired_delK {α : Type} {R : PV → α → Prop} {k : PV} : ∀ {ks : List PV} {vs : List α}, Paired R ks vs → Paired R (delK k ks) (delU k ks vs)
  | _, _, .nil => .nil
  | _, _, .cons (a := x) (l₁ := ks) h t => by
    simp only [delK, delU]
    split
    · exact t
    · exact .cons h (paired_delK t)
theorem mem_putK {k x : PV} {ks : List PV} (h : x ∈ putK k ks) : x ∈ ks ∨ x = k := by
  unfold putK at h
  split at h
  · exact .inl h
  · simpa using h
theorem mem_delK {k x : PV} : ∀ {ks : List PV}, x ∈ delK k ks → x ∈ ks
  | [], h => by simp [delK] at h
  | y :: ks, h => by
    simp only [delK] at h
    split at h
    · exact List.mem_cons_of_mem _ h
    · rcases List.mem_cons.mp h with rfl | h
      · exact List.mem_cons_self
      · exact List.mem_cons_of_mem _ (mem_delK h)
theorem putK_le (k : PV) (ks : List PV) : (putK k ks).length ≤ ks.length + 1 := by
  unfold putK
  split
  · omega
  · simp
theorem delK_le (k : PV) : ∀ ks : List PV, (delK k ks).length ≤ ks.length
  | [] => by simp [delK]
  | x :: ks => by
    simp only [delK]
    split
    · simp
    · simp only [List.length_cons]; have := delK_le k ks; omega
theorem dx_ok {P : Program} {w : World} {H : Hp} {h : Heap} {a : Addr} {es : Array DictEntry} {ep : Nat} (hs : (a == sysModules) = false) (hz : es.size ≤ sizeLine) (hr : h.DictRaw a es ep) : ObjOk P w H h a (DX a es) :=
  ⟨⟨hs, hz, ep, hr⟩, let ⟨o, ho, _⟩ := hr; ⟨o, ho⟩, fun h1 h2 ⟨a1, a2, ep', a3⟩ k => ⟨a1, a2, ep', a3.at k⟩⟩
section
variable {X : Cx} {pins : List (Addr × Obj)} {σ : L2.St} {H : Hp} {s : Shared} {W : Wd} {β : List Addr} {A : Around} {E : Value → Shared → Prop} {ks ws : List PV} {k : PV} {a : Addr} {y : V} {u : Value}
variable (hK : W.K = X.K) (hw : W.w = X.w)
include hK hw
/-- d[k] = v -/
theorem dd_setItem (I : Inv X pins σ H s) (hu : A.units + 65 < cLine) (d : Raw W β H a (.dct ks ws)) (rk : Rep W β H k y) (ok : kOk k ks = true) (hz : ks.length < line) (ry : RelV y u) {p : PV} {v : V} {r : Value} (rp : Rep W β H p v) (rv : RelV v r) {Q : Unit → Shared → Prop}
    (h : ∀ w' s', Inv X pins σ (upd H a w') s' → Raw W β (upd H a w') a (.dct (putK k ks) (putV k p ks ws)) → Q () s') : wpAny (model X.prog X.w) A (PySem.setItem (.ref a) u r) Q E s := by
  obtain ⟨es, kv, vv, hH, D, rks, rws⟩ := d
  have d : DAt W β H ks ws a es kv vv := ⟨.inl hH, D, rks, rws⟩
  obtain ⟨hs, hz0, ep, hr⟩ := dx_raw I d.at_
  rw [hw] at D
  obtain ⟨l1, l2, l3⟩ := d.lens
  have hzz : ks.length ≤ sizeLine := by rw [← lt_line]; omega
  have hput : (putK k ks).length ≤ sizeLine := by have := putK_le k ks; rw [← lt_line]; omega
  have mu : Mut (H a) := by rw [hH]; exact trivial
  have hv2 : Vals (putU k (fun _ => v) v ks vv) (putU k (fun _ => r) r ks (es.toList.map (·.val))) := paired_putU rv D.val
  have hr2 : Paired (Rep W β H) (putV k p ks ws) (putU k (fun _ => v) v ks vv) := by rw [putV_U]; exact paired_putU rp (repL_pair.mp rws)
  rcases kind_of ok with ⟨hk, hks⟩ | ⟨hk, hks⟩
  · have dd := leaf_dictOf (P := X.prog) D rks hks hr
    have hzl : (zipK toK ks (es.toList.map (·.val))).length ≤ sizeLine := by
      unfold zipK
      rw [List.length_zip, List.length_map, ← l1, Nat.min_self]; exact hzz
    refine wpAny_setItem_pairs (hsz := hzl) (leaf_is hk rk ry) dd fun h' dd' hsb => ?_
    rw [stored_zipK (E_leaf hk hks) l1 (leaf_nodup hks D.nd)] at dd'
    have hks2 : ∀ x ∈ putK k ks, kd x = .leaf := fun x hx => (mem_putK hx).elim (hks x) fun e => by rw [e]; exact hk
    have hl2 : (putK k ks).length = (putU k (fun _ => r) r ks (es.toList.map (·.val))).length := (putU_length l1).symm
    obtain ⟨es', ep', hr', D', _, rk'⟩ := dictOf_leaf (W := W) (β := β) (H := upd H a (DX a es)) hl2 hks2 hv2 dd'
    have hsz : es'.size ≤ sizeLine := by rw [(D'.len rk').2]; exact hput
    have up : Up β β H (upd H a (DX a es')) := Up.frz1 hH trivial
    obtain ⟨o, ho, _⟩ := id hr'
    refine h (DX a es') _ (d_write I mu hsb ⟨o, ho⟩ (dx_ok hs hsz hr')) ⟨es', _, _, upd_same, by rw [hw]; exact D', ?_, RepL.up up _ (repL_pair.mpr hr2)⟩
    exact (dictOf_leaf (W := W) (β := β) (H := upd H a (DX a es')) hl2 hks2 hv2 dd').choose_spec.choose_spec.2.2.2
  · obtain ⟨as, hkv, hal, dd⟩ := tup_dictOf hK I D rks hks hr
    obtain ⟨b, rfl, rfl, hb⟩ := tup_is hK I hk rk ry
    have hzip : (as.zip (es.toList.map (·.val))).length = ks.length := by rw [List.length_zip, hal, ← l1, Nat.min_self]
    have hzl : (zipK toKey ks (as.zip (es.toList.map (·.val)))).length ≤ sizeLine := by
      unfold zipK
      rw [List.length_zip, List.length_map, hzip, Nat.min_self]; exact hzz
    have ru : (nestedKind X.prog X.w).room A.in1 := by
      show A.units + 1 + 8 < cLine
      omega
    refine wpAny_setItem_heap (hsz := hzl) ru hb dd fun h' dd' hsb => ?_
    rw [storedH_zipK (E_tup hk hks) hzip.symm D.nd, putU_zip hal l1.symm] at dd'
    have hks2 : ∀ x ∈ putK k ks, kd x = .tup := fun x hx => (mem_putK hx).elim (hks x) fun e => by rw [e]; exact hk
    have hl2 : (putK k ks).length = (putU k (fun _ => r) r ks (es.toList.map (·.val))).length := (putU_length l1).symm
    have hal2 : (putU k id b ks as).length = (putK k ks).length := putU_length hal.symm
    obtain ⟨es', ep', hr', D', _⟩ := dictOf_tup hl2 hal2 hks2 hv2 dd'
    have hmap : (putU k id b ks as).map V.ref = putU k id (V.ref b) ks (as.map V.ref) := by
      have gen : ∀ (ks : List PV) (as : List Addr), (putU k id b ks as).map V.ref = putU k id (V.ref b) ks (as.map V.ref) := by
        intro ks
        induction ks with
        | nil => intro as; cases as <;> rfl
        | cons x ks ih =>
          intro as
          cases as with
          | nil => rfl
          | cons c as =>
            simp only [putU, List.map_cons]
            split
            · rfl
            · simp only [List.map_cons, ih]
      exact gen ks as
    have up : Up β β H (upd H a (DX a es')) := Up.frz1 hH trivial
    have rk' : RepL W β H (putK k ks) ((putU k id b ks as).map V.ref) := by
      rw [hmap, ← hkv]
      exact repL_pair.mpr (paired_putK rk (repL_pair.mp rks))
    have hsz : es'.size ≤ sizeLine := by rw [(D'.len rk').2]; exact hput
    obtain ⟨o, ho, _⟩ := id hr'
    exact h (DX a es') _ (d_write I mu hsb ⟨o, ho⟩ (dx_ok hs hsz hr')) ⟨es', _, _, upd_same, by rw [hw]; exact D', RepL.up up _ rk', RepL.up up _ (repL_pair.mpr hr2)⟩
end
end G
end

section
/-! Sd3: comparisons, in, tests, subscripts, lengths. -/
namespace G
open PySem PySem.Spec PyProof.Rows L2

/-! ### order of tuples of ints -/
theorem lex_same : ∀ a b : List Int, G.lexLt a b = HT.lexLt a b
  | [], [] => rfl
  | [], _ :: _ => rfl
  | _ :: _, [] => rfl
  | x :: xs, y :: ys => by simp only [G.lexLt, HT.lexLt, lex_same xs ys]
theorem lexAt_shift (e r : Nat → Bool) (z : Bool) : ∀ k i, Ob.lexAt e r z (i + 1) k = Ob.lexAt (fun j => e (j + 1)) (fun j => r (j + 1)) z i k
  | 0, i => rfl
  | k + 1, i => by
    rw [Ob.lexAt_succ, Ob.lexAt_succ, lexAt_shift e r z k (i + 1)]
theorem lexAt_le : ∀ ns ms : List Int, Ob.lexAt (fun j => decide (ns.getD j 0 = ms.getD j 0)) (fun j => decide (ns.getD j 0 ≤ ms.getD j 0)) (decide (ns.length ≤ ms.length)) 0 (min ns.length ms.length) = !G.lexLt ms ns
  | [], ms => by cases ms <;> simp [Ob.lexAt_zero, G.lexLt]
  | _ :: _, [] => by simp [Ob.lexAt_zero, G.lexLt]
  | x :: xs, y :: ys => by
    have h := lexAt_le xs ys
    have e : min (x :: xs).length (y :: ys).length = min xs.length ys.length + 1 := by simp only [List.length_cons]; omega
    rw [e, Ob.lexAt_succ, lexAt_shift]
    simp only [List.getD_cons_zero, List.getD_cons_succ, List.length_cons, Nat.add_le_add_iff_right]
    rw [h]
    simp only [G.lexLt]
    by_cases q : x = y
    · subst q; simp
    · have q' : ¬ y = x := fun z => q z.symm
      simp only [q, q', decide_false, if_false, Bool.false_eq_true]
      by_cases h1 : x ≤ y
      · have : ¬ y < x := by omega
        simp [h1, this]
      · have : y < x := by omega
        simp [h1, this]
theorem lexAt_gt : ∀ ns ms : List Int, Ob.lexAt (fun j => decide (ns.getD j 0 = ms.getD j 0)) (fun j => decide (ms.getD j 0 < ns.getD j 0)) (decide (ns.length > ms.length)) 0 (min ns.length ms.length) = G.lexLt ms ns
  | [], ms => by cases ms <;> simp [Ob.lexAt_zero, G.lexLt]
  | _ :: _, [] => by simp [Ob.lexAt_zero, G.lexLt]
  | x :: xs, y :: ys => by
    have h := lexAt_gt xs ys
    have e : min (x :: xs).length (y :: ys).length = min xs.length ys.length + 1 := by simp only [List.length_cons]; omega
    rw [e, Ob.lexAt_succ, lexAt_shift]
    simp only [List.getD_cons_zero, List.getD_cons_succ, List.length_cons, gt_iff_lt, Nat.add_lt_add_iff_right]
    simp only [gt_iff_lt] at h
    rw [h]
    simp only [G.lexLt]
    by_cases q : x = y
    · subst q; simp
    · have q' : ¬ y = x := fun z => q z.symm
      simp only [q, q', decide_false, if_false, Bool.false_eq_true]
theorem lexAt_ge : ∀ ns ms : List Int, Ob.lexAt (fun j => decide (ns.getD j 0 = ms.getD j 0)) (fun j => decide (ms.getD j 0 ≤ ns.getD j 0)) (decide (ns.length ≥ ms.length)) 0 (min ns.length ms.length) = !G.lexLt ns ms
  | [], ms => by cases ms <;> simp [Ob.lexAt_zero, G.lexLt]
  | _ :: _, [] => by simp [Ob.lexAt_zero, G.lexLt]
  | x :: xs, y :: ys => by
    have h := lexAt_ge xs ys
    have e : min (x :: xs).length (y :: ys).length = min xs.length ys.length + 1 := by simp only [List.length_cons]; omega
    rw [e, Ob.lexAt_succ, lexAt_shift]
    simp only [List.getD_cons_zero, List.getD_cons_succ, List.length_cons, ge_iff_le, Nat.add_le_add_iff_right]
    simp only [ge_iff_le] at h
    rw [h]
    simp only [G.lexLt]
    by_cases q : x = y
    · subst q; simp
    · have q' : ¬ y = x := fun z => q z.symm
      simp only [q, q', decide_false, if_false, Bool.false_eq_true]
      by_cases h1 : y ≤ x
      · have : ¬ x < y := by omega
        simp [h1, this]
      · have : x < y := by omega
        simp [h1, this]
section
variable {X : Cx}
def rTup (K : PySem.W.Frag) (f : List Int → List Int → Bool) : R2 := fun x y H Q => ∃ (a b : Addr) (ns ms : List Int), x = .ref a ∧ y = .ref b ∧ SqT K H a (ns.map V.int) ∧ SqT K H b (ms.map V.int) ∧ Q (.bl (f ns ms)) H
theorem tup_core {op : CmpOp} {f : List Int → List Int → Bool}
    (R : ∀ (s : Shared) (a b : Addr) (its its2 : Array Value) (ns ms : List Int), s.heap.IsTuple a its → s.heap.IsTuple b its2 → its.size = ns.length → its2.size = ms.length →
      (∀ j (h1 : j < its.size), ∃ t, its[j] = .int (ns.getD j 0) t) → (∀ j (h1 : j < its2.size), ∃ t, its2[j] = .int (ms.getD j 0) t) → Ob.RcOp op X.A s (.ref a) (.ref b) (f ns ms))
    (hop : ∀ x y, compareOp op x y = richCompare op x y) : OpR X (compareOp op) (rTup X.K f) := by
  intro pins s σ H x y v u Q I rx ry h
  obtain ⟨a, b, ns, ms, rfl, rfl, ha, hb, q⟩ := h
  cases rx
  cases ry
  obtain ⟨its, r1, p1, _⟩ := I.tuple ha
  obtain ⟨its2, r2, p2, _⟩ := I.tuple hb
  have i1 : IntsAre its ns := Vals.ints r1
  have i2 : IntsAre its2 ms := Vals.ints r2
  have e1 : its.toArray.size = ns.length := by rw [List.size_toArray]; exact i1.length
  have e2 : its2.toArray.size = ms.length := by rw [List.size_toArray]; exact i2.length
  have at1 : ∀ j (h1 : j < its.toArray.size), ∃ t, its.toArray[j] = .int (ns.getD j 0) t := fun j h1 => PyProof.Rows.IntsAre.int_at i1 _ _ (by simp at h1; simp [h1])
  have at2 : ∀ j (h1 : j < its2.toArray.size), ∃ t, its2.toArray[j] = .int (ms.getD j 0) t := fun j h1 => PyProof.Rows.IntsAre.int_at i2 _ _ (by simp at h1; simp [h1])
  rw [hop]
  exact R s a b _ _ ns ms p1 p2 e1 e2 at1 at2 X.prog X.w X.xe (EP X pins σ Q) ⟨.bl _, H, I, rfl, q⟩
theorem eqI {x y : Int} : (x == y) = decide (x = y) := by
  by_cases q : x = y
  · rw [decide_eq_true q]; exact beq_iff_eq.mpr q
  · rw [decide_eq_false q]; exact beq_eq_false_iff_ne.mpr q
theorem op_tup_le (hu : X.A.units < cLine) : OpR X (compareOp .LtE) (rTup X.K fun ns ms => !G.lexLt ms ns) := tup_core (fun s a b its its2 ns ms p1 p2 e1 e2 at1 at2 => by
  have R := Ob.RcOp.tuples_le (A := X.A) (s := s) (e := fun j => decide (ns.getD j 0 = ms.getD j 0)) (r := fun j => decide (ns.getD j 0 ≤ ms.getD j 0)) p1 p2 hu (fun j h1 h2 => by
    obtain ⟨t, et⟩ := at1 j h1
    obtain ⟨t', et'⟩ := at2 j h2
    rw [et, et', ← eqI]
    exact SeqAt.EqAt.int_int _ _ _ _) (fun j h1 h2 _ => by
    obtain ⟨t, et⟩ := at1 j h1
    obtain ⟨t', et'⟩ := at2 j h2
    rw [et, et']
    exact Ob.RcOp.le_int _ _ _ _)
  rw [e1, e2, lexAt_le] at R
  exact R) fun _ _ => rfl
theorem op_tup_gt (hu : X.A.units < cLine) : OpR X (compareOp .Gt) (rTup X.K fun ns ms => G.lexLt ms ns) := tup_core (fun s a b its its2 ns ms p1 p2 e1 e2 at1 at2 => by
  have R := Ob.RcOp.tuples_gt (A := X.A) (s := s) (e := fun j => decide (ns.getD j 0 = ms.getD j 0)) (r := fun j => decide (ms.getD j 0 < ns.getD j 0)) p1 p2 hu (fun j h1 h2 => by
    obtain ⟨t, et⟩ := at1 j h1
    obtain ⟨t', et'⟩ := at2 j h2
    rw [et, et', ← eqI]
    exact SeqAt.EqAt.int_int _ _ _ _) (fun j h1 h2 _ => by
    obtain ⟨t, et⟩ := at1 j h1
    obtain ⟨t', et'⟩ := at2 j h2
    rw [et, et']
    exact Ob.RcOp.gt_int _ _ _ _)
  rw [e1, e2, lexAt_gt] at R
  exact R) fun _ _ => rfl
theorem op_tup_ge (hu : X.A.units < cLine) : OpR X (compareOp .GtE) (rTup X.K fun ns ms => !G.lexLt ns ms) := tup_core (fun s a b its its2 ns ms p1 p2 e1 e2 at1 at2 => by
  have R := Ob.RcOp.tuples_ge (A := X.A) (s := s) (e := fun j => decide (ns.getD j 0 = ms.getD j 0)) (r := fun j => decide (ms.getD j 0 ≤ ns.getD j 0)) p1 p2 hu (fun j h1 h2 => by
    obtain ⟨t, et⟩ := at1 j h1
    obtain ⟨t', et'⟩ := at2 j h2
    rw [et, et', ← eqI]
    exact SeqAt.EqAt.int_int _ _ _ _) (fun j h1 h2 _ => by
    obtain ⟨t, et⟩ := at1 j h1
    obtain ⟨t', et'⟩ := at2 j h2
    rw [et, et']
    exact Ob.RcOp.ge_int _ _ _ _)
  rw [e1, e2, lexAt_ge] at R
  exact R) fun _ _ => rfl
theorem op_tup_lt (hu : X.A.units < cLine) : OpR X (compareOp .Lt) (rTup X.K fun ns ms => G.lexLt ns ms) := by
  intro pins s σ H x y v u Q I rx ry h
  obtain ⟨a, b, ns, ms, e1, e2, ha, hb, q⟩ := h
  exact op_ltT hu pins s σ H x y v u Q I rx ry ⟨a, b, ns, ms, e1, e2, ha, hb, by rw [← lex_same]; exact q⟩

/-! ### in -/
def rInL (K : PySem.W.Frag) (neg : Bool) : R2 := fun x y H Q => ∃ d ds, Dp K H x d ∧ (Dp K H y (.list ds) ∨ Dp K H y (.tuple ds)) ∧ SeqAt.shaped d = true ∧ SeqAt.shaped (.list ds) = true ∧ Q (.bl (if neg then !ds.any fun z => PyData.eqv z d else ds.any fun z => PyData.eqv z d)) H
theorem op_inL (hu : X.A.units + 65 < cLine) : OpR X (compareOp .In) (rInL X.K false) := by
  intro pins s σ H x y v u Q I rx ry h
  obtain ⟨d, ds, hd, he, sd, se, q⟩ := h
  rcases he with he | he
  · exact op_inD hu pins s σ H x y v u Q I rx ry ⟨d, ds, hd, he, sd, se, q⟩
  · obtain ⟨as, r1⟩ := Dp.reads I d x v hd rx
    obtain ⟨bs, r2⟩ := Dp.reads I (.tuple ds) y u he ry
    exact SeqAt.in_tuple_reads r2 r1 (SeqAt.canLay_of_shaped se) (SeqAt.canLay_of_shaped sd) (room_in_shaped sd hu) ⟨.bl _, H, I, rfl, q⟩
theorem op_notInL (hu : X.A.units + 65 < cLine) : OpR X (compareOp .NotIn) (rInL X.K true) := by
  intro pins s σ H x y v u Q I rx ry h
  obtain ⟨d, ds, hd, he, sd, se, q⟩ := h
  rcases he with he | he
  · exact op_notInD hu pins s σ H x y v u Q I rx ry ⟨d, ds, hd, he, sd, se, q⟩
  · obtain ⟨as, r1⟩ := Dp.reads I d x v hd rx
    obtain ⟨bs, r2⟩ := Dp.reads I (.tuple ds) y u he ry
    exact SeqAt.notIn_tuple_reads r2 r1 (SeqAt.canLay_of_shaped se) (SeqAt.canLay_of_shaped sd) (room_in_shaped sd hu) ⟨.bl _, H, I, rfl, q⟩

/-- in a dict -/
def rInDx (W : Wd) (neg : Bool) : R2 := fun x y H Q => ∃ β ks ws k a, y = .ref a ∧ RdB W β H (.dct ks ws) (.ref a) ∧ Rep W β H k x ∧ kOk k ks = true ∧ Q (.bl (if neg then !hasK k ks else hasK k ks)) H
/-- the model's heap, world -/
structure SameW (W : Wd) (X : Cx) : Prop where
  k : W.K = X.K
  w : W.w = X.w
theorem op_inDx {W : Wd} (hK : SameW W X) (hu : X.A.units + 65 < cLine) (neg : Bool) : OpR X (compareOp (if neg then .NotIn else .In)) (rInDx W neg) := by
  intro pins s σ H x y v u Q I rx ry h
  obtain ⟨β, ks, ws, k, a, rfl, d, rk, ok, q⟩ := h
  obtain rfl : u = Value.ref a := ry
  exact dd_contains hK.k hK.w I hu d rk ok rx neg fun s' I' => ⟨.bl _, H, I', rfl, q⟩
def copOf : Cop → CmpOp
  | .eq => .Eq
  | .ne => .NotEq
  | .lt => .Lt
  | .le => .LtE
  | .gt => .Gt
  | .ge => .GtE
  | .in_ => .In
  | .notIn => .NotIn
def rCmp (W : Wd) : Cop → R2
  | .eq => rEqD W.K
  | .ne => rNeD W.K
  | .lt => fun x y H Q => (rI0 fun i j => .bl (decide (i < j))) x y H Q ∨ (rTup W.K fun ns ms => G.lexLt ns ms) x y H Q
  | .le => fun x y H Q => (rI0 fun i j => .bl (decide (i ≤ j))) x y H Q ∨ (rTup W.K fun ns ms => !G.lexLt ms ns) x y H Q
  | .gt => fun x y H Q => (rI0 fun i j => .bl (decide (j < i))) x y H Q ∨ (rTup W.K fun ns ms => G.lexLt ms ns) x y H Q
  | .ge => fun x y H Q => (rI0 fun i j => .bl (decide (j ≤ i))) x y H Q ∨ (rTup W.K fun ns ms => !G.lexLt ns ms) x y H Q
  | .in_ => fun x y H Q => rInL W.K false x y H Q ∨ rInDx W false x y H Q ∨ rInS x y H Q
  | .notIn => fun x y H Q => rInL W.K true x y H Q ∨ rInDx W true x y H Q ∨ rNotInS x y H Q
theorem op_cmp {W : Wd} (hK : SameW W X) (hu : X.A.units + 65 < cLine) (o : Cop) : OpR X (compareOp (copOf o)) (rCmp W o) := by
  unfold rCmp
  simp only [hK.k]
  cases o with
  | eq => exact op_eqD (by omega)
  | ne => exact op_neD (by omega)
  | lt => exact op_lt.or (op_tup_lt (by omega))
  | le => exact op_le.or (op_tup_le (by omega))
  | gt => exact op_gt.or (op_tup_gt (by omega))
  | ge => exact op_ge.or (op_tup_ge (by omega))
  | in_ => exact (op_inL hu).or ((op_inDx hK hu false).or op_inS)
  | notIn => exact (op_notInL hu).or ((op_inDx hK hu true).or op_notInS)
theorem intsOf_map : ∀ {xs : List PV} {ns : List Int}, intsOf xs = some ns → xs = ns.map .int
  | [], ns, h => by simp only [intsOf, Option.some.injEq] at h; subst h; rfl
  | .int i :: xs, ns, h => by
    simp only [intsOf] at h
    split at h
    · rename_i r e
      simp only [Option.some.injEq] at h
      subst h
      rw [List.map_cons, ← intsOf_map e]
    · cases h
  | .non :: _, _, h => by simp [intsOf] at h
  | .bl _ :: _, _, h => by simp [intsOf] at h
  | .str _ :: _, _, h => by simp [intsOf] at h
  | .tup _ :: _, _, h => by simp [intsOf] at h
  | .lst _ :: _, _, h => by simp [intsOf] at h
  | .dct _ _ :: _, _, h => by simp [intsOf] at h
  | .ref _ :: _, _, h => by simp [intsOf] at h
  | .fn _ :: _, _, h => by simp [intsOf] at h
  | .exc _ _ :: _, _, h => by simp [intsOf] at h
theorem repL_ints {W : Wd} {β : List Addr} {H : Hp} : ∀ {ns : List Int} {vs : List V}, RepL W β H (ns.map .int) vs → vs = ns.map V.int
  | [], _, h => by simpa only [List.map_nil, RepL] using h
  | n :: ns, _, h => by
    simp only [List.map_cons, RepL] at h
    obtain ⟨v, r, rfl, h1, h2⟩ := h
    simp only [Rep] at h1
    subst h1
    rw [repL_ints h2, List.map_cons]
theorem lt_ok {W : Wd} {β : List Addr} {H : Hp} {p q : PV} {x y : V} {r : Bool} (e : ltP p q = some r) (hp : RdP W β H p x) (hq : RdP W β H q y) :
    (∃ i j, x = .int i ∧ y = .int j ∧ r = decide (i < j)) ∨ (∃ (a b : Addr) (ns ms : List Int), x = .ref a ∧ y = .ref b ∧ SqT W.K H a (ns.map V.int) ∧ SqT W.K H b (ms.map V.int) ∧ r = G.lexLt ns ms) := by
  cases p with
  | int i =>
    cases q with
    | int j =>
      simp only [ltP, Option.some.injEq] at e
      exact .inl ⟨i, j, hp.b.int, hq.b.int, e.symm⟩
    | _ => simp [ltP] at e
  | tup xs =>
    cases q with
    | tup ys =>
      simp only [ltP] at e
      split at e
      · rename_i ns ms h1 h2
        simp only [Option.some.injEq] at e
        obtain ⟨a, vs, rfl, ha, ra⟩ := hp.b.tup
        obtain ⟨b, ws, rfl, hb, rb⟩ := hq.b.tup
        rw [intsOf_map h1] at ra
        rw [intsOf_map h2] at rb
        rw [repL_ints ra] at ha
        rw [repL_ints rb] at hb
        exact .inr ⟨a, b, ns, ms, rfl, rfl, ha, hb, e.symm⟩
      · cases e
    | _ => simp [ltP] at e
  | _ => cases q <;> simp [ltP] at e
theorem in_ok {W : Wd} {β : List Addr} {H : Hp} {p q : PV} {x y : V} {r : Bool} {S : G.St} (e : inV p q S = some r) (hp : RdP W β H p x) (hq : RdP W β H q y) (b : BR W β S H) (neg : Bool) {Q : VK} (h : Q (.bl (if neg then !r else r)) H) : rInL W.K neg x y H Q ∨ rInDx W neg x y H Q ∨ (if neg then rNotInS x y H Q else rInS x y H Q) := by
  have hd := hq.deref b
  unfold inV at e
  generalize deref q S = q' at e hd
  have list : ∀ {xs : List PV} {d : PyData}, Dp W.K H y d → (d = .list (toDs xs) ∨ d = .tuple (toDs xs)) → (if dat p 60 && datL xs 60 then some (xs.any fun x => eqP x p) else none) = some r → rInL W.K neg x y H Q := fun {xs d} hy hd e => by
    split at e
    · rename_i c
      simp only [Bool.and_eq_true] at c
      simp only [Option.some.injEq] at e
      refine ⟨toD p, toDs xs, hp.b.dp c.1, ?_, dat_shaped c.1 (by omega), ?_, ?_⟩
      · rcases hd with rfl | rfl
        · exact .inl hy
        · exact .inr hy
      · exact dat_shaped (p := .lst xs) (n := 61) (by simpa only [dat] using c.2) (by omega)
      · rw [toDs_any xs p 60 60 c.2 c.1, e]
        exact h
    · cases e
  cases q' with
  | lst xs =>
    obtain ⟨a, vs, rfl, ha, ra⟩ := hd.lst
    refine .inl (list (xs := xs) (d := .list (toDs xs)) ?_ (.inl rfl) e)
    simp only at e
    split at e
    · rename_i c
      simp only [Bool.and_eq_true] at c
      exact .lst (.inl ha) (RepL.dp xs 60 c.2 ra)
    · cases e
  | tup xs =>
    obtain ⟨a, vs, rfl, ha, ra⟩ := hd.tup
    refine .inl (list (xs := xs) (d := .tuple (toDs xs)) ?_ (.inr rfl) e)
    simp only at e
    split at e
    · rename_i c
      simp only [Bool.and_eq_true] at c
      exact .tup ha (RepL.dp xs 60 c.2 ra)
    · cases e
  | dct ks ws =>
    simp only at e
    split at e
    · rename_i c
      simp only [Option.some.injEq] at e
      subst e
      obtain ⟨a, es, kv, vv, rfl, _⟩ := hd.dct
      have rp : Rep W β H p x := by
        obtain ⟨h1, _⟩ := kOk_spec c
        rcases hp with hp | ⟨_, _, hr, _⟩
        · exact hp
        · cases p with
          | lst _ => exact absurd rfl h1
          | dct _ _ => exact absurd rfl h1
          | _ => exact hr.elim
      exact .inr (.inl ⟨β, ks, ws, p, a, rfl, hd, rp, c, h⟩)
    · cases e
  | str s =>
    simp only at e
    split at e
    · rename_i t
      split at e
      · rename_i c ec
        simp only [Option.some.injEq] at e
        have et : t = ⟨#[c]⟩ := by
          obtain ⟨cs⟩ := t
          congr 1
          exact Array.toList_inj.mp ec
        subst et
        have hx := hp.b.str
        have hy := hd.str
        have hr : decide (c ∈ s.cps.toList) = r := by
          rw [← e]
          induction s.cps.toList with
          | nil => rfl
          | cons d ds ih =>
            rw [List.any_cons, ← ih]
            by_cases q : d = c
            · subst q; simp
            · have q2 : ¬ c = d := fun z => q z.symm
              simp [q, q2]
        refine .inr (.inr ?_)
        cases neg with
        | false => exact ⟨c, s, hx, hy, by rw [hr]; exact h⟩
        | true => exact ⟨c, s, hx, hy, by rw [hr]; exact h⟩
      · cases e
    · cases e
  | _ => simp at e
theorem cmp_ok {W : Wd} {β : List Addr} {H : Hp} {o : Cop} {p q : PV} {x y : V} {r : Bool} {S : G.St} (e : cmpS o p q S = some r) (hp : RdP W β H p x) (hq : RdP W β H q y) (b : BR W β S H) {Q : VK} (h : Q (.bl r) H) : rCmp W o x y H Q := by
  cases o with
  | eq =>
    simp only [cmpS, cmpV] at e
    split at e
    · rename_i c
      simp only [Bool.and_eq_true] at c
      simp only [Option.some.injEq] at e
      exact ⟨toD p, toD q, hp.b.dp c.1, hq.b.dp c.2, dat_shaped c.1 (by omega), dat_shaped c.2 (by omega), by rw [eqv_eq p q 60 60 c.1 c.2, e]; exact h⟩
    · cases e
  | ne =>
    simp only [cmpS, cmpV] at e
    split at e
    · rename_i c
      simp only [Bool.and_eq_true] at c
      simp only [Option.some.injEq] at e
      exact ⟨toD p, toD q, hp.b.dp c.1, hq.b.dp c.2, dat_shaped c.1 (by omega), dat_shaped c.2 (by omega), by rw [eqv_eq p q 60 60 c.1 c.2, e]; exact h⟩
    · cases e
  | lt =>
    simp only [cmpS, cmpV] at e
    rcases lt_ok e hp hq with ⟨i, j, rfl, rfl, rfl⟩ | ⟨a, c, ns, ms, rfl, rfl, h1, h2, rfl⟩
    · exact .inl ⟨i, j, rfl, rfl, h⟩
    · exact .inr ⟨a, c, ns, ms, rfl, rfl, h1, h2, h⟩
  | gt =>
    simp only [cmpS, cmpV] at e
    rcases lt_ok e hq hp with ⟨i, j, rfl, rfl, rfl⟩ | ⟨a, c, ns, ms, rfl, rfl, h1, h2, rfl⟩
    · exact .inl ⟨j, i, rfl, rfl, h⟩
    · exact .inr ⟨c, a, ms, ns, rfl, rfl, h2, h1, h⟩
  | le =>
    simp only [cmpS, cmpV] at e
    split at e
    · rename_i t e1
      simp only [Option.some.injEq] at e
      subst e
      rcases lt_ok e1 hq hp with ⟨i, j, rfl, rfl, rfl⟩ | ⟨a, c, ns, ms, rfl, rfl, h1, h2, rfl⟩
      · refine .inl ⟨j, i, rfl, rfl, ?_⟩
        have z : (!decide (i < j)) = decide (j ≤ i) := by
          by_cases w : i < j
          · simp [w, show ¬ j ≤ i by omega]
          · simp [w, show j ≤ i by omega]
        show Q (.bl (decide (j ≤ i))) H
        rw [← z]; exact h
      · exact .inr ⟨c, a, ms, ns, rfl, rfl, h2, h1, h⟩
    · cases e
  | ge =>
    simp only [cmpS, cmpV] at e
    split at e
    · rename_i t e1
      simp only [Option.some.injEq] at e
      subst e
      rcases lt_ok e1 hp hq with ⟨i, j, rfl, rfl, rfl⟩ | ⟨a, c, ns, ms, rfl, rfl, h1, h2, rfl⟩
      · refine .inl ⟨i, j, rfl, rfl, ?_⟩
        have z : (!decide (i < j)) = decide (j ≤ i) := by
          by_cases w : i < j
          · simp [w, show ¬ j ≤ i by omega]
          · simp [w, show j ≤ i by omega]
        show Q (.bl (decide (j ≤ i))) H
        rw [← z]; exact h
      · exact .inr ⟨a, c, ns, ms, rfl, rfl, h1, h2, h⟩
    · cases e
  | in_ =>
    simp only [cmpS] at e
    exact in_ok e hp hq b false h
  | notIn =>
    simp only [cmpS] at e
    split at e
    · rename_i t e1
      simp only [Option.some.injEq] at e
      subst e
      exact in_ok e1 hp hq b true h
    · cases e
variable {M : Pm} {e a b c : Expr} {m ma mb mc : E} {pos : Pos}
theorem s_cmp {o : Cop} (hK : SameW M.W X) (hu : X.A.units + 65 < cLine) (ha : SE X M a ma) (hb : SE X M b mb) (hm : behindInMarks (copOf o) b = false) (br : Bool) : PE X (.Compare a [copOf o] [b] pos) (tE M (kn br (.cmp o ma mb)) br (.cmp o ma mb)) := by
  refine impE (pe_cmpR (op_cmp hK hu o) ha.r hb.r hm) fun σ H Q ⟨σs, S, β, rel, ek⟩ => ?_
  simp only [evE] at ek
  refine ⟨σs, S, β, rel, ek.bind fun p S1 v H1 β1 _ s1 b1 q1 ek1 => ⟨σs, S1, β1, rel.step s1 b1, ek1.bind fun p2 S2 v2 H2 β2 _ s2 b2 q2 ek2 => ?_⟩⟩
  cases h : cmpS o p p2 S2 with
  | none => rw [h] at ek2; exact ek2.elim
  | some r =>
    rw [h] at ek2
    exact cmp_ok h (q1.stp s2) q2 b2 (ek2.done b2 (res_rep (kn_ne rfl) bl_rep))
theorem bind_assoc {α β γ : Type} (r : R α) (f : α → G.St → R β) (g : β → G.St → R γ) : (r.bind f).bind g = r.bind fun a S => (f a S).bind g := by
  cases r <;> rfl
/-- as a test -/
def tT (M : Pm) (m : E) : TT := fun σ H Q => ∃ σs S β, Rel M.W M.β0 M.H0 β S H σs σ ∧ EK M ((evE M.C m true σs S).bind asB) β H σ (fun _ _ t u => u = t) Q
theorem t_cmp {o : Cop} (hK : SameW M.W X) (hu : X.A.units + 65 < cLine) (ha : SE X M a ma) (hb : SE X M b mb) (hm : behindInMarks (copOf o) b = false) : PT X (.Compare a [copOf o] [b] pos) (tT M (.cmp o ma mb)) := by
  refine impT (pt_cmpR (op_cmp hK hu o) ha.r hb.r hm) fun σ H Q ⟨σs, S, β, rel, ek⟩ => ?_
  simp only [evE] at ek
  refine ⟨σs, S, β, rel, ?_⟩
  simp only [bind_assoc] at ek
  refine ek.bind fun p S1 v H1 β1 _ s1 b1 q1 ek1 => ⟨σs, S1, β1, rel.step s1 b1, ek1.bind fun p2 S2 v2 H2 β2 _ s2 b2 q2 ek2 => ?_⟩
  cases h : cmpS o p p2 S2 with
  | none => rw [h] at ek2; exact ek2.elim
  | some r =>
    rw [h] at ek2
    exact cmp_ok h (q1.stp s2) q2 b2 ⟨r, rfl, ek2.done b2 rfl⟩
end
end G
end

section
/-! Sd4: truth, conditions. -/
namespace G
open PySem PySem.Spec PyProof.Rows L2
section
variable {X : Cx} {M : Pm} {e a b c : Expr} {m ma mb mc : E} {pos : Pos}
theorem asB_ok {v : PV} {S : G.St} {M : Pm} {β : List Addr} {H : Hp} {σ : L2.St} {γ : Type} {R : List Addr → Hp → Bool → γ → Prop} {Q : γ → Hp → Prop} (h : EK M (asB v S) β H σ R Q) : ∃ t, v = .bl t ∧ EK M (.ok t S) β H σ R Q := by
  cases v with
  | bl t => exact ⟨t, rfl, h⟩
  | _ => exact h.elim
/-- any form as a test -/
theorem t_val (h : SE X M e m) (he : ∀ whole, isTrue e X.env whole = (do let v ← whole; standAt e.pos; holding [v] (truthy v))) : PT X e (tT M m) := by
  refine impT (pt_val h.r he) fun σ H Q ⟨σs, S, β, rel, ek⟩ => ?_
  refine ⟨σs, S, β, rel, ek.bind fun p S1 v H1 β1 _ s1 b1 q1 ek1 => ?_⟩
  obtain ⟨t, rfl, ek2⟩ := asB_ok ek1
  exact ⟨t, q1.b.bl, ek2.done b1 rfl⟩
/-- a test's value -/
theorem bl_end {br : Bool} {mm : E} (hf : frE mm = false) {t : Bool} {S : G.St} {β0 β : List Addr} {H0 H : Hp} {σ : L2.St} {Q : VK} (ek : EK M (.ok (.bl t) S) β H σ (fun β' H' p v => Res M.W (kn br mm) β0 H0 β' H' p v) Q) (b : BR M.W β S H) : Q (.bl t) H :=
  ek.done b (res_rep (kn_ne hf) bl_rep)
theorem s_chain {o o' : Cop} (hK : SameW M.W X) (hu : X.A.units + 65 < cLine) (ha : SE X M a ma) (hb : SE X M b mb) (hc : SE X M c mc) (hm : behindInMarks (copOf o) b = false ∧ behindInMarks (copOf o') c = false)
    (pe : ∀ {r r' : R2} {ta tb tc : TE}, OpR X (compareOp (copOf o)) r → OpR X (compareOp (copOf o')) r' → PE X a ta → PE X b tb → PE X c tc → PE X (.Compare a [copOf o, copOf o'] [b, c] pos) (tChain r r' ta tb tc)) (br : Bool) :
    PE X (.Compare a [copOf o, copOf o'] [b, c] pos) (tE M (kn br (.chain o o' ma mb mc)) br (.chain o o' ma mb mc)) := by
  refine impE (pe (op_cmp hK hu o) (op_cmp hK hu o') ha.r hb.r hc.r) fun σ H Q ⟨σs, S, β, rel, ek⟩ => ?_
  simp only [evE] at ek
  refine ⟨σs, S, β, rel, ek.bind fun p S1 v H1 β1 _ s1 b1 q1 ek1 => ⟨σs, S1, β1, rel.step s1 b1, ek1.bind fun p2 S2 v2 H2 β2 _ s2 b2 q2 ek2 => ?_⟩⟩
  cases h : cmpS o p p2 S2 with
  | none => rw [h] at ek2; exact ek2.elim
  | some r =>
    rw [h] at ek2
    refine cmp_ok h (q1.stp s2) q2 b2 ⟨r, rfl, ?_⟩
    simp only [op1, R.bind] at ek2
    cases r with
    | true =>
      simp only [if_true] at ek2 ⊢
      refine ⟨σs, S2, β2, (rel.step s1 b1).step s2 b2, ek2.bind fun p3 S3 v3 H3 β3 _ s3 b3 q3 ek3 => ?_⟩
      cases h' : cmpS o' p2 p3 S3 with
      | none => rw [h'] at ek3; exact ek3.elim
      | some r' =>
        rw [h'] at ek3
        exact cmp_ok h' (q2.stp s3) q3 b3 (bl_end rfl ek3 b3)
    | false =>
      simp only [Bool.false_eq_true, if_false] at ek2 ⊢
      exact bl_end rfl ek2 b2
theorem RdB.isNon {W : Wd} {β : List Addr} {H : Hp} {p : PV} {v : V} (z : RdB W β H p v) : isNonB p = decide (v = .non) := by
  cases p with
  | non => rw [z.non]; rfl
  | bl t => rw [z.bl]; rfl
  | int t => rw [z.int]; rfl
  | str t => rw [z.str]; rfl
  | tup xs => obtain ⟨_, _, rfl, _⟩ := z.tup; rfl
  | lst xs => obtain ⟨_, _, rfl, _⟩ := z.lst; rfl
  | dct ks ws =>
    rcases z with z | ⟨_, rfl, _⟩
    · simp only [Rep] at z; obtain ⟨_, _, _, _, rfl, _⟩ := z; rfl
    · rfl
  | ref n =>
    rcases z with z | ⟨_, rfl, _⟩
    · simp only [Rep] at z; obtain ⟨_, rfl, _⟩ := z; rfl
    · rfl
  | fn n =>
    rcases z with z | ⟨_, rfl, _⟩
    · simp only [Rep] at z; subst z; rfl
    · rfl
  | exc c fs =>
    rcases z with z | ⟨_, rfl, _⟩
    · simp only [Rep] at z; obtain ⟨_, _, _, rfl, _⟩ := z; rfl
    · rfl
theorem s_isN {j pos'} (ha : SE X M a ma) (br : Bool) : PE X (.Compare a [.Is] [.Constant .none j pos'] pos) (tE M (kn br (.isN ma)) br (.isN ma)) := by
  refine impE (pe_cmp (pc_isN ha.r)) fun σ H Q ⟨σs, S, β, rel, ek⟩ => ?_
  simp only [evE] at ek
  refine ⟨σs, S, β, rel, ek.bind fun p S1 v H1 β1 _ s1 b1 q1 ek1 => ?_⟩
  rw [q1.b.isNon] at ek1
  exact bl_end rfl ek1 b1
theorem s_notN {j pos'} (ha : SE X M a ma) (br : Bool) : PE X (.Compare a [.IsNot] [.Constant .none j pos'] pos) (tE M (kn br (.notN ma)) br (.notN ma)) := by
  refine impE (pe_cmp (pc_notN ha.r)) fun σ H Q ⟨σs, S, β, rel, ek⟩ => ?_
  simp only [evE] at ek
  refine ⟨σs, S, β, rel, ek.bind fun p S1 v H1 β1 _ s1 b1 q1 ek1 => ?_⟩
  rw [q1.b.isNon] at ek1
  exact bl_end rfl ek1 b1
theorem s_not (ha : SE X M a ma) (br : Bool) : PE X (.UnaryOp .Not a pos) (tE M (kn br (.not_ ma)) br (.not_ ma)) := by
  refine impE (pe_not ha.r) fun σ H Q ⟨σs, S, β, rel, ek⟩ => ?_
  simp only [evE, bind_assoc] at ek
  refine ⟨σs, S, β, rel, ek.bind fun p S1 v H1 β1 _ s1 b1 q1 ek1 => ?_⟩
  cases p with
  | bl t => exact ⟨t, q1.b.bl, bl_end rfl ek1 b1⟩
  | _ => exact ek1.elim
theorem t_not (ha : PT X a (tT M ma)) : PT X (.UnaryOp .Not a pos) (tT M (.not_ ma)) := by
  refine impT (pt_not ha) fun σ H Q ⟨σs, S, β, rel, ek⟩ => ?_
  simp only [evE, bind_assoc] at ek
  refine ⟨σs, S, β, rel, ?_⟩
  rw [← bind_assoc] at ek
  refine ek.bind fun t S1 v H1 β1 _ s1 b1 q1 ek1 => ?_
  subst q1
  exact EK.done ek1 b1 rfl

/-- and, or: lists of tests -/
def tAnds (M : Pm) (ms : List E) : TT := fun σ H Q => ∃ σs S β, Rel M.W M.β0 M.H0 β S H σs σ ∧ EK M (evAnd M.C ms σs S) β H σ (fun _ _ t u => u = t) Q
def tOrs (M : Pm) (ms : List E) : TT := fun σ H Q => ∃ σs S β, Rel M.W M.β0 M.H0 β S H σs σ ∧ EK M (evOr M.C ms σs S) β H σ (fun _ _ t u => u = t) Q
theorem w_and1 (ha : PT X a (tT M ma)) : PW X (.BoolOp .And [a] pos) (tAnds M [ma]) := ⟨fun wh pins s σ H Q I ⟨σs, S, β, rel, ek⟩ => (pw_and1 ha).run wh pins s σ H Q I ⟨σs, S, β, rel, by
  simp only [evAnd] at ek
  refine ek.bind fun t S1 v H1 β1 _ s1 b1 q1 ek1 => ?_
  subst q1
  cases v with
  | true => exact EK.done ek1 b1 rfl
  | false => exact EK.done ek1 b1 rfl⟩⟩
theorem w_and {rest : List Expr} {ms : List E} (ha : PT X a (tT M ma)) (hb : PW X (.BoolOp .And (b :: rest) pos) (tAnds M ms)) : PW X (.BoolOp .And (a :: b :: rest) pos) (tAnds M (ma :: ms)) := ⟨fun wh pins s σ H Q I ⟨σs, S, β, rel, ek⟩ => (pw_and ha hb).run wh pins s σ H Q I ⟨σs, S, β, rel, by
  simp only [evAnd] at ek
  refine ek.bind fun t S1 v H1 β1 _ s1 b1 q1 ek1 => ?_
  subst q1
  cases v with
  | true =>
    simp only [if_true] at ek1 ⊢
    exact ⟨σs, S1, β1, rel.step s1 b1, ek1⟩
  | false =>
    simp only [Bool.false_eq_true, if_false] at ek1 ⊢
    exact EK.done ek1 b1 rfl⟩⟩
theorem w_or1 (ha : PT X a (tT M ma)) : PW X (.BoolOp .Or [a] pos) (tOrs M [ma]) := ⟨fun wh pins s σ H Q I ⟨σs, S, β, rel, ek⟩ => (pw_or1 ha).run wh pins s σ H Q I ⟨σs, S, β, rel, by
  simp only [evOr] at ek
  refine ek.bind fun t S1 v H1 β1 _ s1 b1 q1 ek1 => ?_
  subst q1
  cases v with
  | true => exact EK.done ek1 b1 rfl
  | false => exact EK.done ek1 b1 rfl⟩⟩
theorem w_or {rest : List Expr} {ms : List E} (ha : PT X a (tT M ma)) (hb : PW X (.BoolOp .Or (b :: rest) pos) (tOrs M ms)) : PW X (.BoolOp .Or (a :: b :: rest) pos) (tOrs M (ma :: ms)) := ⟨fun wh pins s σ H Q I ⟨σs, S, β, rel, ek⟩ => (pw_or ha hb).run wh pins s σ H Q I ⟨σs, S, β, rel, by
  simp only [evOr] at ek
  refine ek.bind fun t S1 v H1 β1 _ s1 b1 q1 ek1 => ?_
  subst q1
  cases v with
  | true =>
    simp only [if_true] at ek1 ⊢
    exact EK.done ek1 b1 rfl
  | false =>
    simp only [Bool.false_eq_true, if_false] at ek1 ⊢
    exact ⟨σs, S1, β1, rel.step s1 b1, ek1⟩⟩⟩
theorem bindB {r : R Bool} : (r.bind fun b S => (R.ok (PV.bl b) S)).bind asB = r := by
  cases r <;> rfl
theorem t_and {ms : List E} {es : List Expr} (hw : PW X (.BoolOp .And es pos) (tAnds M ms)) : PT X (.BoolOp .And es pos) (tT M (.and_ ms)) := by
  refine impT hw.pt fun σ H Q ⟨σs, S, β, rel, ek⟩ => ⟨σs, S, β, rel, ?_⟩
  simp only [evE, bindB] at ek
  exact ek
theorem t_or {ms : List E} {es : List Expr} (hw : PW X (.BoolOp .Or es pos) (tOrs M ms)) : PT X (.BoolOp .Or es pos) (tT M (.or_ ms)) := by
  refine impT hw.pt fun σ H Q ⟨σs, S, β, rel, ek⟩ => ⟨σs, S, β, rel, ?_⟩
  simp only [evE, bindB] at ek
  exact ek
/-- .. as values -/
def tAndsV (M : Pm) (ms : List E) : TE := fun σ H Q => ∃ σs S β, Rel M.W M.β0 M.H0 β S H σs σ ∧ EK M (evAnd M.C ms σs S) β H σ (fun _ _ t u => u = V.bl t) Q
def tOrsV (M : Pm) (ms : List E) : TE := fun σ H Q => ∃ σs S β, Rel M.W M.β0 M.H0 β S H σs σ ∧ EK M (evOr M.C ms σs S) β H σ (fun _ _ t u => u = V.bl t) Q
theorem v_and1 (ha : SE X M a ma) : PE X (.BoolOp .And [a] pos) (tAndsV M [ma]) := by
  refine impE (pe_one ha.r) fun σ H Q ⟨σs, S, β, rel, ek⟩ => ⟨σs, S, β, rel, ?_⟩
  simp only [evAnd, bind_assoc] at ek
  refine ek.bind fun p S1 v H1 β1 _ s1 b1 q1 ek1 => ?_
  cases p with
  | bl t =>
    rw [q1.b.bl]
    cases t with
    | true => exact EK.done ek1 b1 rfl
    | false => exact EK.done ek1 b1 rfl
  | _ => exact ek1.elim
theorem v_or1 (ha : SE X M a ma) : PE X (.BoolOp .Or [a] pos) (tOrsV M [ma]) := by
  refine impE (pe_one ha.r) fun σ H Q ⟨σs, S, β, rel, ek⟩ => ⟨σs, S, β, rel, ?_⟩
  simp only [evOr, bind_assoc] at ek
  refine ek.bind fun p S1 v H1 β1 _ s1 b1 q1 ek1 => ?_
  cases p with
  | bl t =>
    rw [q1.b.bl]
    cases t with
    | true => exact EK.done ek1 b1 rfl
    | false => exact EK.done ek1 b1 rfl
  | _ => exact ek1.elim
theorem v_and {rest : List Expr} {ms : List E} (ha : SE X M a ma) (hb : PE X (.BoolOp .And (b :: rest) pos) (tAndsV M ms)) : PE X (.BoolOp .And (a :: b :: rest) pos) (tAndsV M (ma :: ms)) := by
  refine impE (pe_and ha.r hb) fun σ H Q ⟨σs, S, β, rel, ek⟩ => ⟨σs, S, β, rel, ?_⟩
  simp only [evAnd, bind_assoc] at ek
  refine ek.bind fun p S1 v H1 β1 _ s1 b1 q1 ek1 => ?_
  cases p with
  | bl t =>
    refine ⟨t, q1.b.bl, ?_⟩
    cases t with
    | true => exact ⟨σs, S1, β1, rel.step s1 b1, ek1⟩
    | false => exact EK.done ek1 b1 rfl
  | _ => exact ek1.elim
theorem v_or {rest : List Expr} {ms : List E} (ha : SE X M a ma) (hb : PE X (.BoolOp .Or (b :: rest) pos) (tOrsV M ms)) : PE X (.BoolOp .Or (a :: b :: rest) pos) (tOrsV M (ma :: ms)) := by
  refine impE (pe_or ha.r hb) fun σ H Q ⟨σs, S, β, rel, ek⟩ => ⟨σs, S, β, rel, ?_⟩
  simp only [evOr, bind_assoc] at ek
  refine ek.bind fun p S1 v H1 β1 _ s1 b1 q1 ek1 => ?_
  cases p with
  | bl t =>
    refine ⟨t, q1.b.bl, ?_⟩
    cases t with
    | true => exact EK.done ek1 b1 rfl
    | false => exact ⟨σs, S1, β1, rel.step s1 b1, ek1⟩
  | _ => exact ek1.elim
theorem s_and {ms : List E} {es : List Expr} (h : PE X (.BoolOp .And es pos) (tAndsV M ms)) (br : Bool) : PE X (.BoolOp .And es pos) (tE M (kn br (.and_ ms)) br (.and_ ms)) := by
  refine impE h fun σ H Q ⟨σs, S, β, rel, ek⟩ => ⟨σs, S, β, rel, ?_⟩
  simp only [evE] at ek
  refine ek.bind fun t S1 v H1 β1 _ s1 b1 q1 ek1 => ?_
  subst q1
  exact bl_end rfl ek1 b1
theorem s_or {ms : List E} {es : List Expr} (h : PE X (.BoolOp .Or es pos) (tOrsV M ms)) (br : Bool) : PE X (.BoolOp .Or es pos) (tE M (kn br (.or_ ms)) br (.or_ ms)) := by
  refine impE h fun σ H Q ⟨σs, S, β, rel, ek⟩ => ⟨σs, S, β, rel, ?_⟩
  simp only [evE] at ek
  refine ek.bind fun t S1 v H1 β1 _ s1 b1 q1 ek1 => ?_
  subst q1
  exact bl_end rfl ek1 b1
theorem s_ife (hc : PT X c (tT M mc)) (ha : SE X M a ma) (hb : SE X M b mb) (br : Bool) : PE X (.IfExp c a b pos) (tE M (kn br (.ife mc ma mb)) br (.ife mc ma mb)) := by
  refine impE (pe_ifExp hc ha.v hb.v) fun σ H Q ⟨σs, S, β, rel, ek⟩ => ⟨σs, S, β, rel, ?_⟩
  simp only [evE] at ek
  have same : ∀ {β1 : List Addr} {H1 : Hp} {r : R PV}, EK M r β1 H1 σ (fun β' H' p v => Res M.W (kn br (.ife mc ma mb)) β H β' H' p v) Q → EK M r β1 H1 σ (fun β' H' p v => Res M.W .val β1 H1 β' H' p v) Q := fun h =>
    h.imp fun v H' β' p s q g => g (res_rep (kn_ne rfl) q)
  refine ek.bind fun t S1 v H1 β1 _ s1 b1 q1 ek1 => ?_
  subst q1
  cases v with
  | true => exact ⟨σs, S1, β1, rel.step s1 b1, same ek1⟩
  | false => exact ⟨σs, S1, β1, rel.step s1 b1, same ek1⟩
end
end G
end

section
/-! Sd5: subscripts, slices, built-in functions, isinstance. -/
namespace G
open PySem PySem.Spec PyProof.Rows L2
section
variable {X : Cx} {M : Pm} {e a b c : Expr} {m ma mb mc : E} {pos : Pos}
theorem CallR.or {f : Value} {r r' : List V → Hp → VK → Prop} (h : CallR X f r) (h' : CallR X f r') : CallR X f (fun xs H Q => r xs H Q ∨ r' xs H Q) := by
  intro pins s σ H xs us Q I rx q
  rcases q with q | q
  · exact h pins s σ H xs us Q I rx q
  · exact h' pins s σ H xs us Q I rx q

/-! ### a[i] -/
theorem atP_ok {W : Wd} {β : List Addr} {H : Hp} {xs : List PV} {vs : List V} {i : Int} {p : PV} (r : RepL W β H xs vs) (h : atP xs i = some p) : ∃ v, atI vs i = some v ∧ Rep W β H p v := by
  have hl := r.length
  unfold atP at h
  unfold atI ixN
  rw [hl]
  split at h
  · rename_i c
    obtain ⟨v, h1, h2⟩ := r.get h
    have := (List.getElem?_eq_some_iff.mp h).1
    refine ⟨v, ?_, h2⟩
    rw [if_pos c, if_pos (by omega)]
    exact h1
  · rename_i c
    split at h
    · rename_i c2
      obtain ⟨v, h1, h2⟩ := r.get h
      refine ⟨v, ?_, h2⟩
      rw [if_neg c, if_pos c2]
      exact h1
    · cases h
theorem chars_get {s : Str} {i : Int} {p : PV} (h : atP (chars s) i = some p) : ∃ c, atI s.cps.toList i = some c ∧ p = .str ⟨#[c]⟩ := by
  unfold atP at h
  unfold atI ixN
  have hl : (chars s).length = s.cps.toList.length := by simp [chars]
  rw [hl] at h
  split at h
  · rename_i c
    have hlt := (List.getElem?_eq_some_iff.mp h).1
    rw [hl] at hlt
    simp only [chars, List.getElem?_map, Option.map_eq_some_iff] at h
    obtain ⟨k, h1, h2⟩ := h
    refine ⟨k, ?_, h2.symm⟩
    rw [if_pos c, if_pos (by omega)]
    exact h1
  · rename_i c
    split at h
    · rename_i c2
      simp only [chars, List.getElem?_map, Option.map_eq_some_iff] at h
      obtain ⟨k, h1, h2⟩ := h
      refine ⟨k, ?_, h2.symm⟩
      rw [if_neg c, if_pos c2]
      exact h1
    · cases h
/-- d[k] -/
def rIxDx (W : Wd) : R2 := fun x y H Q => ∃ β ks ws k a p, x = .ref a ∧ RdB W β H (.dct ks ws) (.ref a) ∧ Rep W β H k y ∧ kOk k ks = true ∧ look k ks ws = some p ∧ ∀ v, Rep W β H p v → Q v H
theorem ix_dx {W : Wd} (hK : SameW W X) (hu : X.A.units + 65 < cLine) : IxR X (rIxDx W) := by
  intro value slice pins s σ H x y v u Q I rx ry h hs
  obtain ⟨β, ks, ws, k, a, p, rfl, d, rk, ok, l, q⟩ := h
  obtain rfl : v = Value.ref a := rx
  have hT : s.TypeIs (.ref a) "dict" := by
    obtain ⟨es, kv, vv, d'⟩ := d.dat_
    obtain ⟨_, _, ep, hr⟩ := dx_raw I d'.at_
    exact hr.typeIs
  exact tail_any hT slot_dict_getitem.lookup (dd_getItem hK.k hK.w I hu d rk ok ry l fun v w' s' I' rv rp => ⟨v, H, I', rv, q v rp⟩) hs
theorem key_rep {W : Wd} {β : List Addr} {H : Hp} {k : PV} {y : V} {ks : List PV} (ok : kOk k ks = true) (h : RdP W β H k y) : Rep W β H k y := by
  obtain ⟨h1, _⟩ := kOk_spec ok
  rcases h with h | ⟨_, _, hr, _⟩
  · exact h
  · cases k with
    | lst _ => exact absurd rfl h1
    | dct _ _ => exact absurd rfl h1
    | _ => exact hr.elim
theorem idx_ok {W : Wd} {β : List Addr} {H : Hp} {p q r : PV} {x y : V} {S : G.St} {Q : VK} (e : idxV p q S = some r) (hp : RdP W β H p x) (hq : RdP W β H q y) (b : BR W β S H) (h : ∀ v, Rep W β H r v → Q v H) : rIx W.K x y H Q ∨ rIxDx W x y H Q := by
  have hd := hp.deref b
  unfold idxV at e
  generalize deref p S = p' at e hd
  cases p' with
  | lst xs =>
    obtain ⟨a, vs, rfl, ha, ra⟩ := hd.lst
    cases q with
    | int j =>
      obtain ⟨v, h1, h2⟩ := atP_ok ra e
      exact .inl (.inl ⟨a, vs, j, v, rfl, hq.b.int, .inl ha, h1, h v h2⟩)
    | _ => simp at e
  | tup xs =>
    obtain ⟨a, vs, rfl, ha, ra⟩ := hd.tup
    cases q with
    | int j =>
      obtain ⟨v, h1, h2⟩ := atP_ok ra e
      exact .inl (.inr (.inl ⟨a, vs, j, v, rfl, hq.b.int, ha, h1, h v h2⟩))
    | _ => simp at e
  | str s =>
    cases q with
    | int j =>
      simp only at e
      split at e
      · rename_i c
        obtain ⟨k, h1, rfl⟩ := chars_get e
        exact .inl (.inr (.inr ⟨s, j, k, hd.str, hq.b.int, lt_line.mp c, h1, h _ (by simp only [Rep])⟩))
      · cases e
    | _ => simp at e
  | dct ks ws =>
    simp only at e
    split at e
    · rename_i c
      obtain ⟨a, es, kv, vv, rfl, _⟩ := hd.dct
      exact .inr ⟨β, ks, ws, q, a, r, rfl, hd, key_rep c hq, c, e, h⟩
    · cases e
  | exc c xs =>
    obtain ⟨rfl, a, vs, rfl, ha, ra⟩ := hd.scr
    simp only [if_true] at e
    cases q with
    | int j =>
      obtain ⟨v, h1, h2⟩ := atP_ok ra e
      exact .inl (.inl ⟨a, vs, j, v, rfl, hq.b.int, ha.sq, h1, h v h2⟩)
    | _ => simp at e
  | _ => simp at e
/-- an index that is no slice -/
def plainIxB : Expr → Bool
  | .Name _ _ => true
  | .Constant _ _ _ => true
  | .BinOp _ _ _ _ => true
  | .UnaryOp _ _ _ => true
  | .Call _ _ _ _ => true
  | .Subscript _ _ _ => true
  | .Tuple _ _ _ => true
  | .Attribute _ _ _ => true
  | _ => false
theorem plainIx_of {e : Expr} (h : plainIxB e = true) : PlainIx e := by
  cases e <;> first | (exact fun _ _ => rfl) | (simp [plainIxB] at h)
theorem s_idx (hK : SameW M.W X) (hu : X.A.units + 65 < cLine) (ha : SE X M a ma) (hb : SE X M b mb) (hs : plainIxB b = true) (br : Bool) : PE X (.Subscript a b pos) (tE M (kn br (.idx ma mb)) br (.idx ma mb)) := by
  refine impE (pe_ix (ix_seq.or (ix_dx hK hu)) ha.r hb.r (plainIx_of hs)) fun σ H Q ⟨σs, S, β, rel, ek⟩ => ?_
  simp only [evE] at ek
  refine ⟨σs, S, β, rel, ek.bind fun p S1 v H1 β1 _ s1 b1 q1 ek1 => ⟨σs, S1, β1, rel.step s1 b1, ek1.bind fun p2 S2 v2 H2 β2 _ s2 b2 q2 ek2 => ?_⟩⟩
  obtain ⟨r, hr, ek3⟩ := ek2.op1
  rw [← hK.k]
  exact idx_ok hr (q1.stp s2) q2 b2 fun v q => ek3.done b2 (res_rep (kn_ne rfl) q)

/-! ### slices -/
def tPo (M : Pm) (ms : List E) : TO := fun σ H Q => ∃ σs S β, Rel M.W M.β0 M.H0 β S H σs σ ∧ EK M ((evEs M.C ms true σs S).bind fun ps S => op1 (optInt ps.head?) S) β H σ (fun _ _ o' o => o' = o) Q
theorem po_0 : PO X none (tPo M []) := ⟨fun pins s σ H Q I ⟨σs, S, β, rel, ek⟩ => po_none.run pins s σ H Q I (by
  simp only [evEs] at ek
  exact EK.done ek rel.br rfl)⟩
theorem po_1 (h : SE X M e m) : PO X (some e) (tPo M [m]) := ⟨fun pins s σ H Q I ⟨σs, S, β, rel, ek⟩ => (po_some h.r).run pins s σ H Q I (by
  simp only [evEs, bind_assoc] at ek
  refine ⟨σs, S, β, rel, ek.bind fun p S1 v H1 β1 _ s1 b1 q1 ek1 => ?_⟩
  cases p with
  | int i => exact ⟨i, q1.b.int, EK.done (p := some i) (by exact ek1) b1 rfl⟩
  | _ => exact ek1.elim)⟩
theorem cut_sIx (n d : Nat) (o : Option Int) : sIxG n d o = HT.sIx n d o := by cases o <;> rfl
theorem cutV_eq {W : Wd} {β : List Addr} {H : Hp} {xs : List PV} {vs : List V} (r : RepL W β H xs vs) (lo hi : Option Int) : RepL W β H (sliceL xs lo hi) (cutV vs lo hi) := by
  have hl := r.length
  unfold sliceL cutV
  rw [hl]
  rw [cut_sIx, cut_sIx, List.drop_take]
  exact (r.drop _).take _
theorem slice_ok {W : Wd} {β : List Addr} {H Hs : Hp} {p r : PV} {x : V} {lo hi : Option Int} {S : G.St} {Q : VK} (e : sliceV p lo hi = some r) (hp : RdP W β H p x) (b : BR W β S H)
    (back : ∀ a, H a = none → Hs a = none) (done : ∀ v, Res W .own β Hs β H r v → Q v H) (fresh : ∀ a w v, H a = none → Res W .own β Hs β (upd H a w) r v → Q v (upd H a w)) : rSlL W.K x lo hi H Q ∨ rSlA W.K x lo hi H Q := by
  unfold sliceV at e
  cases p with
  | lst xs =>
    obtain ⟨a, vs, rfl, ha, ra⟩ := hp.b.lst
    simp only [Option.some.injEq] at e
    subst e
    exact .inl ⟨a, vs, rfl, .inl ha, fun n hn => fresh n _ _ hn (.inr ⟨n, rfl, ⟨_, upd_same, RepL.up (.new hn) _ (cutV_eq ra lo hi)⟩, b.notin hn, back n hn⟩)⟩
  | tup xs =>
    obtain ⟨a, vs, rfl, ha, ra⟩ := hp.b.tup
    simp only [Option.some.injEq] at e
    subst e
    refine .inr ⟨a, vs, rfl, ha, fun hw => done _ (.inl ⟨?_, rfl⟩), fun _ n hn => fresh n _ _ hn (.inl ⟨?_, rfl⟩)⟩
    · have z := cutV_eq ra lo hi
      have zc : cutV vs lo hi = vs := by
        unfold cutV
        rw [hw.1, hw.2]
        simp
      rw [zc] at z
      simp only [Rep]
      exact ⟨a, vs, rfl, ha, z⟩
    · simp only [Rep]
      exact ⟨n, _, rfl, .of upd_same, RepL.up (.new hn) _ (cutV_eq ra lo hi)⟩
  | _ => simp at e
theorem s_slice {lo hi : Option Expr} {ml mh : List E} {p2 : Pos} (hK : M.W.K = X.K) (ha : SE X M a ma) (hl : PO X lo (tPo M ml)) (hh : PO X hi (tPo M mh)) (br : Bool) : PE X (.Subscript a (.Slice lo hi none p2) pos) (tE M (kn br (.slice ma ml mh)) br (.slice ma ml mh)) := by
  refine impE (pe_slice (sl_list.or sl_tupA) ha.r hl hh) fun σ H Q ⟨σs, S, β, rel, ek⟩ => ?_
  simp only [evE] at ek
  refine ⟨σs, S, β, rel, ek.bind fun p S1 v H1 β1 _ s1 b1 q1 ek1 => ⟨σs, S1, β1, rel.step s1 b1, ek1.bind fun l S2 lo' H2 β2 _ s2 b2 q2 ek2 => ⟨σs, S2, β2, (rel.step s1 b1).step s2 b2, ek2.bind fun h S3 hi' H3 β3 _ s3 b3 q3 ek3 => ?_⟩⟩⟩
  subst q2 q3
  obtain ⟨r, hr, ek4⟩ := ek3.op1
  rw [← hK]
  exact slice_ok hr ((q1.stp s2).stp s3) b3 (fun n hn => ((s1.trans s2).trans s3).back b3 hn) (fun v q => ek4.done b3 q) fun n w v hn q => ek4.fresh b3 hn q
end
end G
end

section
/-! Sd6: built-in functions by their names. -/
namespace G
open PySem PySem.Spec PyProof.Rows L2
section
variable {X : Cx} {M : Pm} {e a b c : Expr} {m ma mb mc : E} {pos p : Pos}
/-- the readable values of a list of forms -/
theorem paired_rd {W : Wd} {β : List Addr} {H : Hp} {vs : List V} {ps : List PV} (h : Paired (fun v p => Res W .rd β H β H p v) vs ps) : Paired (fun v p => RdP W β H p v) vs ps := h
/-- a built-in's call -/
def rLenD (W : Wd) : List V → Hp → VK → Prop := fun xs H Q => ∃ β ks ws a, xs = [.ref a] ∧ RdB W β H (.dct ks ws) (.ref a) ∧ Q (.int ks.length) H
theorem call_lenD {X : Cx} {W : Wd} : CallR X (.builtin "len") (rLenD W) := by
  intro pins s σ H xs us Q I r h
  obtain ⟨β, ks, ws, a, rfl, d, q⟩ := h
  obtain rfl := r.ref1
  obtain ⟨es, kv, vv, d'⟩ := d.dat_
  obtain ⟨hs, hz, ep, hr⟩ := dx_raw I d'.at_
  obtain ⟨_, _, hl⟩ := d'.lens
  refine PyProof.Rows.call_len_slot (n := es.size) hr.typeIs PySem.F.slot_dict_len (fun Q' hq => call_len_raw hs hr hq) (by omega) (by rw [sizeLine_eq] at hz; omega) ?_
  rw [hl]
  exact ⟨.int ks.length, H, I.tok _, ⟨_, rfl⟩, q⟩
def rBi (W : Wd) : Bi → List V → Hp → VK → Prop
  | .len => fun xs H Q => (∃ x n, xs = [x] ∧ LenV W.K x H n ∧ Q (.int n) H) ∨ rLenD W xs H Q
  | .abs => fun xs H Q => ∃ i, xs = [.int i] ∧ Q (.int (if i < 0 then -i else i)) H
  | .int => fun xs H Q => (∃ i, xs = [.int i] ∧ Q (.int i) H) ∨ ∃ k, xs = [.bl k] ∧ Q (.int (if k then 1 else 0)) H
  | .bool => fun xs H Q => (∃ i, xs = [.int i] ∧ Q (.bl (i != 0)) H) ∨ ∃ k, xs = [.bl k] ∧ Q (.bl k) H
  | .str => fun xs H Q => ∃ i : Int, xs = [.int i] ∧ i.natAbs.log2 < 1920 ∧ Q (.str (toString i)) H
  | .max2 => fun xs H Q => ∃ i j, xs = [.int i, .int j] ∧ Q (.int (if j > i then j else i)) H
  | .min2 => fun xs H Q => ∃ i j, xs = [.int i, .int j] ∧ Q (.int (if j < i then j else i)) H
def biId : Bi → Value
  | .len => .builtin "len"
  | .abs => .builtin "abs"
  | .int => .type "int"
  | .bool => .type "bool"
  | .str => .type "str"
  | .max2 => .builtin "max"
  | .min2 => .builtin "min"
def biNm : Bi → Str
  | .len => "len"
  | .abs => "abs"
  | .int => "int"
  | .bool => "bool"
  | .str => "str"
  | .max2 => "max"
  | .min2 => "min"
theorem call_bi {W : Wd} (hK : W.K = X.K) (hc : X.calm = true) (b : Bi) : CallR X (biId b) (rBi W b) := by
  cases b with
  | len => unfold rBi; simp only [hK]; exact call_len.or call_lenD
  | abs => exact call_abs
  | int => exact call_int1
  | bool => exact call_bool1
  | str => exact call_str_int
  | max2 => exact call_max2 hc
  | min2 => exact call_min2 hc
/-- a name of the built-ins that the module leaves alone -/
structure Free (X : Cx) (x : Str) : Prop where
  gl : Gl X x
  mg : X.mg x = none
theorem pe_bi {es : List Expr} {t : TA} {W : Wd} (hK : W.K = X.K) (hc : X.calm = true) (b : Bi) (f : Free X (biNm b)) (ha : PA X (e :: es) t) (he : starEach (e :: es) X.env = (false, eval e X.env) :: starEach es X.env) (hpl : (backTo pos (starEach es X.env)).any (·.1) = false) :
    PE X (.Call (.Name (biNm b) p) (e :: es) [] pos) (tCB (rBi W b) t) := by
  cases b with
  | len => exact pe_callB (call_bi hK hc .len) f.gl f.mg (by decide +kernel) ha (by decide) (by decide) he hpl
  | abs => exact pe_callB (call_bi hK hc .abs) f.gl f.mg (by decide +kernel) ha (by decide) (by decide) he hpl
  | int => exact pe_callTy (call_bi hK hc .int) f.gl f.mg (by decide +kernel) ha (by decide) (by decide) he hpl
  | bool => exact pe_callTy (call_bi hK hc .bool) f.gl f.mg (by decide +kernel) ha (by decide) (by decide) he hpl
  | str => exact pe_callTy (call_bi hK hc .str) f.gl f.mg (by decide +kernel) ha (by decide) (by decide) he hpl
  | max2 => exact pe_callB (call_bi hK hc .max2) f.gl f.mg (by decide +kernel) ha (by decide) (by decide) he hpl
  | min2 => exact pe_callB (call_bi hK hc .min2) f.gl f.mg (by decide +kernel) ha (by decide) (by decide) he hpl
theorem pInv1 {α γ : Type} {R : α → γ → Prop} {p : γ} {vs : List α} (h : Paired R vs [p]) : ∃ v, vs = [v] ∧ R v p := by
  cases h with
  | cons h t => cases t; exact ⟨_, rfl, h⟩
theorem pInv2 {α γ : Type} {R : α → γ → Prop} {p q : γ} {vs : List α} (h : Paired R vs [p, q]) : ∃ v w, vs = [v, w] ∧ R v p ∧ R w q := by
  cases h with
  | cons h t => cases t with
    | cons h2 t2 => cases t2; exact ⟨_, _, rfl, h, h2⟩
theorem len_ok {W : Wd} {β : List Addr} {H : Hp} {q : PV} {v : V} {n : Nat} {Q : VK} (e : lenV q = some n) (h : RdB W β H q v) (hQ : Q (.int n) H) : (∃ x n, [v] = [x] ∧ LenV W.K x H n ∧ Q (.int n) H) ∨ rLenD W [v] H Q := by
  cases q with
  | lst xs =>
    obtain ⟨a, vs, rfl, ha, ra⟩ := h.lst
    simp only [lenV, Option.some.injEq] at e
    exact .inl ⟨_, n, rfl, .inl ⟨vs, .inl ha, by rw [ra.length, e]⟩, hQ⟩
  | tup xs =>
    obtain ⟨a, vs, rfl, ha, ra⟩ := h.tup
    simp only [lenV, Option.some.injEq] at e
    exact .inl ⟨_, n, rfl, .inr ⟨vs, ha, by rw [ra.length, e]⟩, hQ⟩
  | dct ks ws =>
    obtain ⟨a, es, kv, vv, rfl, _⟩ := h.dct
    simp only [lenV, Option.some.injEq] at e
    subst e
    exact .inr ⟨β, ks, ws, a, rfl, h, hQ⟩
  | str s =>
    simp only [lenV] at e
    split at e
    · rename_i c
      simp only [Option.some.injEq] at e
      subst e
      exact .inl ⟨v, _, rfl, by rw [h.str]; exact ⟨lt_line.mp c, rfl⟩, hQ⟩
    · cases e
  | exc c xs =>
    obtain ⟨rfl, a, vs, rfl, ha, ra⟩ := h.scr
    simp only [lenV, if_true, Option.some.injEq] at e
    exact .inl ⟨_, n, rfl, .inl ⟨vs, ha.sq, by rw [ra.length, e]⟩, hQ⟩
  | _ => simp [lenV] at e
theorem bi_ok {W : Wd} {β : List Addr} {H : Hp} {b : Bi} {ps : List PV} {vs : List V} {r : PV} {S : G.St} {Q : VK} (e : biV b ps S = some r) (h : Paired (fun v p => RdP W β H p v) vs ps) (br : BR W β S H) (q : ∀ v, Rep W β H r v → Q v H) : rBi W b vs H Q := by
  cases ps with
  | nil => cases b <;> simp [biV] at e
  | cons p1 ps =>
    cases ps with
    | nil =>
      obtain ⟨v, rfl, h1⟩ := pInv1 h
      cases b with
      | len =>
        simp only [biV] at e
        split at e
        · rename_i n e1
          simp only [Option.some.injEq] at e
          subst e
          exact len_ok e1 (h1.deref br) (q _ int_rep)
        · cases e
      | abs =>
        cases p1 with
        | int i => simp only [biV, Option.some.injEq] at e; subst e; rw [h1.b.int]; exact ⟨i, rfl, q _ int_rep⟩
        | _ => simp [biV] at e
      | int =>
        cases p1 with
        | int i => simp only [biV, Option.some.injEq] at e; subst e; rw [h1.b.int]; exact .inl ⟨i, rfl, q _ int_rep⟩
        | bl i => simp only [biV, Option.some.injEq] at e; subst e; rw [h1.b.bl]; exact .inr ⟨i, rfl, q _ int_rep⟩
        | _ => simp [biV] at e
      | bool =>
        cases p1 with
        | int i => simp only [biV, Option.some.injEq] at e; subst e; rw [h1.b.int]; exact .inl ⟨i, rfl, q _ bl_rep⟩
        | bl i => simp only [biV, Option.some.injEq] at e; subst e; rw [h1.b.bl]; exact .inr ⟨i, rfl, q _ bl_rep⟩
        | _ => simp [biV] at e
      | str =>
        cases p1 with
        | int i =>
          simp only [biV] at e
          split at e
          · rename_i c
            simp only [Option.some.injEq] at e
            subst e
            rw [h1.b.int]
            exact ⟨i, rfl, c, q _ (by simp only [Rep]; try rfl)⟩
          · cases e
        | _ => simp [biV] at e
      | _ => simp [biV] at e
    | cons p2 ps =>
      cases ps with
      | nil =>
        obtain ⟨v, w, rfl, h1, h2⟩ := pInv2 h
        cases b with
        | max2 =>
          cases p1 with
          | int i =>
            cases p2 with
            | int j => simp only [biV, Option.some.injEq] at e; subst e; rw [h1.b.int, h2.b.int]; exact ⟨i, j, rfl, q _ int_rep⟩
            | _ => simp [biV] at e
          | _ => simp [biV] at e
        | min2 =>
          cases p1 with
          | int i =>
            cases p2 with
            | int j => simp only [biV, Option.some.injEq] at e; subst e; rw [h1.b.int, h2.b.int]; exact ⟨i, j, rfl, q _ int_rep⟩
            | _ => simp [biV] at e
          | _ => simp [biV] at e
        | _ => simp [biV] at e
      | cons p3 ps => cases b <;> simp [biV] at e
theorem s_bi {b : Bi} {es : List Expr} {ms : List E} (hK : SameW M.W X) (hc : X.calm = true) (f : Free X (biNm b)) (h : SEs X M (e :: es) ms) (he : starEach (e :: es) X.env = (false, eval e X.env) :: starEach es X.env) (hpl : (backTo pos (starEach es X.env)).any (·.1) = false) (br : Bool) :
    PE X (.Call (.Name (biNm b) p) (e :: es) [] pos) (tE M (kn br (.bi b ms)) br (.bi b ms)) := by
  refine impE (pe_bi hK.k hc b f h.r he hpl) fun σ H Q ⟨σs, S, β, rel, ek⟩ => ?_
  simp only [evE] at ek
  refine ⟨σs, S, β, rel, ek.bind fun ps S1 vs H1 β1 hv s1 b1 q1 ek1 => ?_⟩
  obtain ⟨r, hr, ek2⟩ := ek1.op1
  exact bi_ok hr q1 b1 fun v q => ek2.done b1 (res_rep (kn_ne rfl) q)
end
end G
end

section
/-! Sd7: what is walked. -/
namespace G
open PySem PySem.Spec PyProof.Rows L2

theorem impI {X : Cx} {tg e : Expr} {t t' : TI} (h : PI X tg e t) (g : ∀ σ H R, t' σ H R → t σ H R) : PI X tg e t' := ⟨fun pins s σ H Q I w => h.run pins s σ H Q I (g σ H Q w)⟩
/-- J walks the items xs, in every heap of L -/
structure ItOk (W : Wd) (L : List Addr → Hp → Prop) (J : It) (xs : List PV) : Prop where
  len : xs.length ≤ line
  go : ∀ i β H, L β H → i < xs.length → J.go i H
  stop : ∀ i β H, L β H → xs.length ≤ i → J.stop i H
  yld : ∀ i β H x H', L β H → i < xs.length → J.yld i H x H' → ∃ p, xs[i]? = some p ∧ (H' = H ∨ ∃ n w, H n = none ∧ H' = upd H n w) ∧ Rep W β H' p x
section
variable {W : Wd} {L : List Addr → Hp → Prop} {xs : List PV}
theorem itl_ok {a : Addr} {vs : List V} (hz : vs.length ≤ sizeLine) (hlen : vs.length = xs.length) (h : ∀ β H, L β H → SqL W.K H a vs ∧ RepL W β H xs vs) : ItOk W L (Itl W.K a) xs where
  len := by rw [← hlen]; exact lt_line.mpr hz
  go := fun i β H l hi => by
    obtain ⟨s, r⟩ := h β H l
    exact ⟨vs, vs[i]'(by omega), s, List.getElem?_eq_getElem _⟩
  stop := fun i β H l hi => by
    obtain ⟨s, r⟩ := h β H l
    exact ⟨vs, s, by omega⟩
  yld := fun i β H x H' l hi y => by
    obtain ⟨s, r⟩ := h β H l
    obtain ⟨rfl, y⟩ := y
    obtain ⟨p, e, q⟩ := r.get' (y vs s)
    exact ⟨p, e, .inl rfl, q⟩
theorem itt_ok {a : Addr} {vs : List V} (hz : vs.length ≤ sizeLine) (hlen : vs.length = xs.length) (h : ∀ β H, L β H → SqT W.K H a vs ∧ RepL W β H xs vs) : ItOk W L (Itt W.K a) xs where
  len := by rw [← hlen]; exact lt_line.mpr hz
  go := fun i β H l hi => by
    obtain ⟨s, r⟩ := h β H l
    exact ⟨vs, vs[i]'(by omega), s, List.getElem?_eq_getElem _⟩
  stop := fun i β H l hi => by
    obtain ⟨s, r⟩ := h β H l
    exact ⟨vs, s, by omega⟩
  yld := fun i β H x H' l hi y => by
    obtain ⟨s, r⟩ := h β H l
    obtain ⟨rfl, y⟩ := y
    obtain ⟨p, e, q⟩ := r.get' (y vs s)
    exact ⟨p, e, .inl rfl, q⟩
theorem rangeL_get : ∀ (n : Nat) (lo : Int) (i : Nat), i < n → (rangeL lo n)[i]? = some (.int (lo + i))
  | 0, _, _, h => by omega
  | n + 1, lo, 0, _ => by simp [rangeL]
  | n + 1, lo, i + 1, h => by
    simp only [rangeL, List.getElem?_cons_succ]
    rw [rangeL_get n (lo + 1) i (by omega)]
    congr 2
    omega
theorem rangeL_length : ∀ (n : Nat) (lo : Int), (rangeL lo n).length = n
  | 0, _ => rfl
  | n + 1, lo => by simp [rangeL, rangeL_length n]
theorem itr_ok {lo : Int} {n : Nat} (hn : n ≤ line) : ItOk W L (Itr lo n) (rangeL lo n) where
  len := by rw [rangeL_length]; exact hn
  go := fun i β H l hi => by rw [rangeL_length] at hi; exact hi
  stop := fun i β H l hi => by rw [rangeL_length] at hi; exact hi
  yld := fun i β H x H' l hi y => by
    obtain ⟨rfl, rfl⟩ := y
    rw [rangeL_length] at hi
    exact ⟨_, rangeL_get n lo i hi, .inl rfl, int_rep⟩
theorem its_ok {s : Str} (hn : s.cps.size ≤ line) : ItOk W L (Its s) (chars s) where
  len := by simpa [chars] using hn
  go := fun i β H l hi => by
    have h : i < s.cps.size := by simpa [chars] using hi
    exact h
  stop := fun i β H l hi => by
    have h : s.cps.size ≤ i := by simpa [chars] using hi
    exact h
  yld := fun i β H x H' l hi y => by
    obtain ⟨rfl, c, h1, rfl⟩ := y
    refine ⟨.str ⟨#[c]⟩, ?_, .inl rfl, by simp only [Rep]⟩
    simp only [chars, List.getElem?_map, Array.getElem?_toList, h1, Option.map_some]
end
section
variable {X : Cx} {M : Pm} {e a b c tg : Expr} {m ma mb mc : E} {pos p : Pos}
/-- walked within an expression: all that stood stands -/
def tIc (M : Pm) (m : E) : TI := fun σ H R => ∃ σs S β, Rel M.W M.β0 M.H0 β S H σs σ ∧
  EK M ((evE M.C m true σs S).bind fun x S => op1 (items x) S) β H σ (fun β' H' xs J => ItOk M.W (fun β'' H'' => Stp β' β'' H' H'') J xs) R
/-- walked by a loop: tuples and frozen things stand, and what the caller had -/
def tIt (M : Pm) (m : E) : TI := fun σ H R => ∃ σs S β, Rel M.W M.β0 M.H0 β S H σs σ ∧
  match (evE M.C m true σs S).bind fun x S => op1 (items x) S with
  | .ok xs S' => ∀ J H' β', Up β β' H H' → Rel M.W M.β0 M.H0 β' S' H' (held m σs) σ → ItOk M.W (fun β'' H'' => Up β' β'' H' H'' ∧ Stp M.β0 β'' M.H0 H'') J xs → R J H'
  | .ex e S' => ∀ cls d H' β', Stp β β' H H' → BR M.W β' S' H' → ExR M.W β' H' e cls d → M.Wx cls d σ H'
  | .no => False
/-- a list, a tuple, a text -/
def iAny (K : PySem.W.Frag) (tl : TE) : TI := fun σ H R => tl σ H fun x H1 => (∃ a, x = .ref a ∧ ∃ xs, SqL K H1 a xs ∧ (xs.length ≤ sizeLine → R (Itl K a) H1)) ∨ (∃ a, x = .ref a ∧ ∃ xs, SqT K H1 a xs ∧ (xs.length ≤ sizeLine → R (Itt K a) H1)) ∨ (∃ s, x = .str s ∧ R (Its s) H1)
theorem pi_any {l : Expr} {tl : TE} (hl : PE X l tl) : PI X tg l (iAny X.K tl) := by
  refine ⟨fun pins s σ H R I h => ?_⟩
  refine thn (hl.run pins s σ H _ I h) fun v s1 ⟨x, H1, I1, r1, q1⟩ => ?_
  have run : ∀ {wi : TI} {w' : TE}, (∀ σ H R, w' σ H R → True) → True := fun _ => trivial
  have pe : PE X (.Constant .none 0 default) (tC x) → True := fun _ => trivial
  rcases q1 with q1 | q1 | q1
  · obtain ⟨a, e, xs, hq, q⟩ := q1
    subst e
    cases r1
    obtain ⟨its, rv, p, hz⟩ := I1.list hq
    refine wpAny_pyIter_list p.isList ?_
    refine ⟨s1.heap.objs.size, [s1.heap.objs.size], _, _, H1, rfl, I1.kept (t' := s1.toks) fun b o e => Heap.get?_push_of_some _ e, turn_list a _, ⟨_, Heap.get?_push_size _ rfl, rfl, rfl⟩, fun b hb => ?_, q hz⟩
    have e : b = s1.heap.objs.size := by simpa using hb
    subst e
    exact I1.fpOk (Nat.le_refl _) (I1.hok.fresh (Nat.le_refl _))
  · obtain ⟨a, e, xs, hq, q⟩ := q1
    subst e
    cases r1
    obtain ⟨its, rv, p, hz⟩ := I1.tuple hq
    refine wpAny_pyIter_tuple (show s1.heap.IsTuple a its.toArray from p) ?_
    refine ⟨s1.heap.objs.size, [s1.heap.objs.size], _, _, H1, rfl, I1.kept (t' := s1.toks) fun b o e => Heap.get?_push_of_some _ e, turn_tuple a _, ⟨_, Heap.get?_push_size _ rfl, rfl, rfl⟩, fun b hb => ?_, q hz⟩
    have e : b = s1.heap.objs.size := by simpa using hb
    subst e
    exact I1.fpOk (Nat.le_refl _) (I1.hok.fresh (Nat.le_refl _))
  · obtain ⟨z, e, q⟩ := q1
    subst e
    obtain ⟨t, rfl⟩ := r1
    cases ha : z.cps.all (· < 128)
    · exact wpAny_pyIter_wide ha (pi_one (tk := s1.toks) I1 _ (turn_str _ z t "str_iterator" (.inr rfl)) ⟨_, Heap.get?_push_size _ rfl, rfl, rfl⟩ q)
    · exact wpAny_pyIter_ascii ha (pi_one (tk := s1.toks) I1 _ (turn_str _ z t "str_ascii_iterator" (.inl rfl)) ⟨_, Heap.get?_push_size _ rfl, rfl, rfl⟩ q)
theorem any_ok {W : Wd} {β : List Addr} {H : Hp} {p : PV} {v : V} {xs : List PV} {L : List Addr → Hp → Prop} {R : It → Hp → Prop} (e : items p = some xs) (h : RdP W β H p v)
    (hL : ∀ β' H', L β' H' → Up β β' H H' ∧ ∀ a, v = .ref a → Raw W β H a p → ∀ o, H a = some o → H' a = some o) (hR : ∀ J, ItOk W L J xs → R J H) :
    (∃ a, v = .ref a ∧ ∃ xs, SqL W.K H a xs ∧ (xs.length ≤ sizeLine → R (Itl W.K a) H)) ∨ (∃ a, v = .ref a ∧ ∃ xs, SqT W.K H a xs ∧ (xs.length ≤ sizeLine → R (Itt W.K a) H)) ∨ (∃ s, v = .str s ∧ R (Its s) H) := by
  unfold items at e
  cases p with
  | tup ys =>
    simp only [Option.some.injEq] at e
    subst e
    obtain ⟨a, vs, rfl, ha, ra⟩ := h.b.tup
    exact .inr (.inl ⟨a, rfl, vs, ha, fun hz => hR _ (itt_ok hz ra.length fun β' H' l => ⟨(hL β' H' l).1.sqT ha, RepL.up (hL β' H' l).1 _ ra⟩)⟩)
  | lst ys =>
    simp only [Option.some.injEq] at e
    subst e
    rcases h with h | ⟨a, rfl, h, n⟩
    · simp only [Rep] at h
      obtain ⟨a, vs, rfl, ha, ra⟩ := h
      exact .inl ⟨a, rfl, vs, ha.sq, fun hz => hR _ (itl_ok hz ra.length fun β' H' l => ⟨((hL β' H' l).1.fzL (K := W.K) ha).sq, RepL.up (hL β' H' l).1 _ ra⟩)⟩
    · have h' := h
      obtain ⟨vs, ha, ra⟩ := h
      exact .inl ⟨a, rfl, vs, .of ha, fun hz => hR _ (itl_ok hz ra.length fun β' H' l => ⟨.of ((hL β' H' l).2 a rfl h' _ ha), RepL.up (hL β' H' l).1 _ ra⟩)⟩
  | str s =>
    simp only at e
    split at e
    · rename_i c
      simp only [Option.some.injEq] at e
      subst e
      exact .inr (.inr ⟨s, h.b.str, hR _ (its_ok c)⟩)
    · cases e
  | _ => simp at e
theorem ic_any (hK : M.W.K = X.K) (h : SE X M e m) : PI X tg e (tIc M m) := by
  refine impI (pi_any h.r) fun σ H R ⟨σs, S, β, rel, ek⟩ => ⟨σs, S, β, rel, ek.bind fun p S1 v H1 β1 _ s1 b1 q1 ek1 => ?_⟩
  obtain ⟨xs, e1, ek2⟩ := ek1.op1
  rw [← hK]
  refine any_ok e1 q1 (L := fun β'' H'' => Stp β1 β'' H1 H'') (fun β' H' s => ⟨s.up, fun a ea ra o ho => ?_⟩) fun J j => EK.done ek2 b1 j
  rcases q1 with q1 | ⟨a', e', r', n'⟩
  · subst ea
    obtain ⟨u, hu, mu⟩ := ra.tracked
    rw [ho] at hu; cases hu
    cases p with
    | lst ys =>
      simp only [Rep] at q1
      obtain ⟨a2, vs, e2, ⟨o2, f⟩, _⟩ := q1
      cases e2
      rw [ho] at f; cases f
      exact mu.elim
    | dct ks ws =>
      simp only [Rep] at q1
      obtain ⟨a2, _, _, _, e2, ⟨o2, f⟩, _⟩ := q1
      cases e2
      rw [ho] at f; cases f
      exact mu.elim
    | _ => exact ra.elim
  · rw [e'] at ea; cases ea
    exact s.keep a o ho n'
/-- freezing a slot's list -/
theorem Rel.freeze {W : Wd} {β0 β : List Addr} {H0 H : Hp} {S : G.St} {σs : Slots} {σ : L2.St} {i : Nat} {p : PV} {a : Addr} {w : HO} (r : Rel W β0 H0 β S H σs σ) (h : getS σs i = some (.own, p)) (hv : σ[i]? = some (some (.ref a))) (hr : Raw W β H a p) (n : a ∉ β) (z : H0 a = none)
    (u : Up β β H (upd H a w)) (q : Rep W β (upd H a w) p (.ref a)) : Rel W β0 H0 β S (upd H a w) (setS σs i .val p) σ := by
  have get : ∀ j t q', getS (setS σs i .val p) j = some (t, q') → (j = i ∧ t = .val ∧ q' = p) ∨ (j ≠ i ∧ getS σs j = some (t, q')) := fun j t q' e => by
    unfold getS setS at e
    by_cases hj : j = i
    · subst hj
      rw [List.getElem?_set] at e
      split at e
      · rename_i x e1
        split at e1
        · split at e1
          · cases e1; cases e; exact .inl ⟨rfl, rfl, rfl⟩
          · cases e1
        · rename_i hh; exact absurd rfl hh
      · cases e
    · rw [List.getElem?_set_ne (Ne.symm hj)] at e
      exact .inr ⟨hj, e⟩
  have cp := hr.cont
  obtain ⟨o, ho, mu⟩ := hr.tracked
  have keep : ∀ c, c ≠ a → ∀ o, H c = some o → upd H a w c = some o := fun c hc o e => by rw [upd_ne hc]; exact e
  refine ⟨by unfold setS; rw [List.length_set]; exact r.len, fun j q' e => ?_, fun j q' e => ?_, fun j q' e => ?_, fun j k q1 q2 c hjk e1 e2 c1 c2 v1 v2 => ?_, ⟨r.br.len, r.br.nd, fun k q' e => ?_⟩, r.stp.chg z ho mu⟩
  · rcases get j _ _ e with ⟨rfl, _, rfl⟩ | ⟨_, e'⟩
    · exact ⟨_, hv, q⟩
    · obtain ⟨v, e1, q1⟩ := r.val j q' e'
      exact ⟨v, e1, Rep.up u _ q1⟩
  · rcases get j _ _ e with ⟨_, h1, _⟩ | ⟨_, e'⟩
    · cases h1
    · obtain ⟨v, e1, q1 | ⟨c, e2, q1, n1, z1⟩⟩ := r.bor j q' e'
      · exact ⟨v, e1, .inl (Rep.up u _ q1)⟩
      · have hc : c ≠ a := fun hc => z1 (hc ▸ z)
        exact ⟨v, e1, .inr ⟨c, e2, q1.up u (keep c hc), n1, z1⟩⟩
  · rcases get j _ _ e with ⟨_, h1, _⟩ | ⟨hj, e'⟩
    · cases h1
    · obtain ⟨v, e1, ⟨c0, q1⟩ | ⟨c, e2, q1, n1, z1⟩⟩ := r.own j q' e'
      · exact ⟨v, e1, .inl ⟨c0, Rep.up u _ q1⟩⟩
      · have hc : c ≠ a := fun hc => by
          subst hc
          subst e2
          exact r.sep j i q' p c hj e' h q1.cont cp e1 hv
        exact ⟨v, e1, .inr ⟨c, e2, q1.up u (keep c hc), n1, z1⟩⟩
  · rcases get j _ _ e1 with ⟨_, h1, _⟩ | ⟨_, e1'⟩
    · cases h1
    · rcases get k _ _ e2 with ⟨_, h1, _⟩ | ⟨_, e2'⟩
      · cases h1
      · exact r.sep j k q1 q2 c hjk e1' e2' c1 c2 v1 v2
  · obtain ⟨c, e1, q1⟩ := r.br.cell k q' e
    exact ⟨c, e1, q1.up u (keep c fun hc => n (hc ▸ List.mem_of_getElem? e1))⟩
end
end G
end

section
/-! Sd8: loops' sources. -/
namespace G
open PySem PySem.Spec PyProof.Rows L2
section
variable {X : Cx} {M : Pm} {e a b c tg : Expr} {m ma mb mc : E} {pos p : Pos}
theorem evE_br {C : Ctx} {m : E} (h : isVar m = false) : evE C m true = evE C m false := by
  cases m <;> first | rfl | (simp [isVar] at h)
/-- what stands for a loop's source -/
def ItL (M : Pm) (β' : List Addr) (H' : Hp) : List Addr → Hp → Prop := fun β'' H'' => Up β' β'' H' H'' ∧ Stp M.β0 β'' M.H0 H''
/-- the value to be walked; the slots behind it -/
def RdI (M : Pm) (β : List Addr) (H : Hp) (p : PV) (v : V) : Prop := Rep M.W β H p v ∨ ∃ a, v = .ref a ∧ Raw M.W β H a p ∧ a ∉ β ∧ M.H0 a ≠ none
def EI {α γ : Type} (M : Pm) (r : R α) (β : List Addr) (H : Hp) (σ : L2.St) (σs' : Slots) (R : List Addr → Hp → α → γ → Prop) (Q : γ → Hp → Prop) : Prop := match r with
  | .ok p S' => ∀ v H' β', Up β β' H H' → Rel M.W M.β0 M.H0 β' S' H' σs' σ → R β' H' p v → Q v H'
  | .ex e S' => ∀ cls d H' β', Stp β β' H H' → BR M.W β' S' H' → ExR M.W β' H' e cls d → M.Wx cls d σ H'
  | .no => False
def tIv (M : Pm) (m : E) : TE := fun σ H Q => ∃ σs S β, Rel M.W M.β0 M.H0 β S H σs σ ∧ EI M (evE M.C m true σs S) β H σ (held m σs) (RdI M) Q
theorem EI.ofEK {α γ : Type} {r : R α} {β : List Addr} {H : Hp} {σ : L2.St} {σs : Slots} {S : G.St} {R : List Addr → Hp → α → γ → Prop} {Q : γ → Hp → Prop} (rel : Rel M.W M.β0 M.H0 β S H σs σ) (h : EI M r β H σ σs R Q) : EK M r β H σ R Q := by
  cases r with
  | ok p S' => exact fun v H' β' s b q => h v H' β' s.up (rel.step s b) q
  | ex e S' => exact h
  | no => exact h
theorem held_get {σs : Slots} {i : Nat} : held (.var i) σs = match getS σs i with | some (.own, v) => setS σs i .val v | _ => σs := by
  unfold held freeze
  cases h : getS σs i with
  | none => rfl
  | some q =>
    obtain ⟨t, v⟩ := q
    cases t <;> rfl
theorem Rel.own2val {W : Wd} {β0 β : List Addr} {H0 H : Hp} {S : G.St} {σs : Slots} {σ : L2.St} {i : Nat} {p : PV} (r : Rel W β0 H0 β S H σs σ) (h : getS σs i = some (.own, p)) (hc : cont p = false) : Rel W β0 H0 β S H (setS σs i .val p) σ := by
  have get : ∀ j t q', getS (setS σs i .val p) j = some (t, q') → (j = i ∧ t = .val ∧ q' = p) ∨ (j ≠ i ∧ getS σs j = some (t, q')) := fun j t q' e => by
    unfold getS setS at e
    by_cases hj : j = i
    · subst hj
      rw [List.getElem?_set] at e
      split at e
      · rename_i x e1
        split at e1
        · split at e1
          · cases e1; cases e; exact .inl ⟨rfl, rfl, rfl⟩
          · cases e1
        · rename_i hh; exact absurd rfl hh
      · cases e
    · rw [List.getElem?_set_ne (Ne.symm hj)] at e
      exact .inr ⟨hj, e⟩
  refine ⟨by unfold setS; rw [List.length_set]; exact r.len, fun j q' e => ?_, fun j q' e => ?_, fun j q' e => ?_, fun j k q1 q2 c hjk e1 e2 c1 c2 v1 v2 => ?_, r.br, r.stp⟩
  · rcases get j _ _ e with ⟨rfl, _, rfl⟩ | ⟨_, e'⟩
    · obtain ⟨v, e1, ⟨_, q⟩ | ⟨a, _, q, _⟩⟩ := r.own j _ h
      · exact ⟨v, e1, q⟩
      · rw [q.cont] at hc; cases hc
    · exact r.val j q' e'
  · rcases get j _ _ e with ⟨_, h1, _⟩ | ⟨_, e'⟩
    · cases h1
    · exact r.bor j q' e'
  · rcases get j _ _ e with ⟨_, h1, _⟩ | ⟨hj, e'⟩
    · cases h1
    · exact r.own j q' e'
  · rcases get j _ _ e1 with ⟨_, h1, _⟩ | ⟨_, e1'⟩
    · cases h1
    · rcases get k _ _ e2 with ⟨_, h1, _⟩ | ⟨_, e2'⟩
      · cases h1
      · exact r.sep j k q1 q2 c hjk e1' e2' c1 c2 v1 v2
theorem iv_var {i : Nat} {x : Str} (hN : X.N[i]? = some x) (hv : Vis X.env.scope x) (hd : (x == ("__debug__" : Str)) = false) (hcd : (x == ("__classdict__" : Str)) = false) : PE X (.Name x pos) (tIv M (.var i)) := by
  refine ghostE (pe_var hN hv hd hcd) fun σ H Q ⟨σs, S, β, rel, ek⟩ => ?_
  simp only [evE, readV, Bool.true_or, if_true] at ek
  rw [held_get] at ek
  cases h : getS σs i with
  | none => rw [h] at ek; exact ek.elim
  | some q =>
    obtain ⟨t, w⟩ := q
    rw [h] at ek
    simp only [op1] at ek
    cases t with
    | val =>
      obtain ⟨v, e, q⟩ := rel.val i w h
      exact ⟨v, e, fun pins σ' s I => ⟨H, I, ek v H β .refl rel (.inl q)⟩⟩
    | bor =>
      obtain ⟨v, e, q⟩ := rel.bor i w h
      refine ⟨v, e, fun pins σ' s I => ⟨H, I, ek v H β .refl rel ?_⟩⟩
      rcases q with q | ⟨a, e1, q, n, z⟩
      · exact .inl q
      · exact .inr ⟨a, e1, q, n, z⟩
    | own =>
      obtain ⟨v, e, ⟨c0, q⟩ | ⟨a, rfl, q, n, z⟩⟩ := rel.own i w h
      · exact ⟨v, e, fun pins σ' s I => ⟨H, I, ek v H β .refl (rel.own2val h c0) (.inl q)⟩⟩
      · refine ⟨.ref a, e, fun pins σ' s I => ?_⟩
        obtain ⟨u, J, r2, up⟩ := q.freeze I
        exact ⟨_, J, ek (.ref a) _ β up (rel.freeze h e q n z up r2) (.inl r2)⟩
theorem iv_any (h : SE X M e m) (hm : isVar m = false) (hh : ∀ σs, held m σs = σs) : PE X e (tIv M m) := by
  refine impE h.v fun σ H Q ⟨σs, S, β, rel, ek⟩ => ⟨σs, S, β, rel, ?_⟩
  rw [hh, evE_br hm] at ek
  exact (EI.ofEK rel ek).imp fun v H' β' p s q g => g (.inl q)
theorem EI.bind {α γ δ ε : Type} {r : R α} {f : α → G.St → R δ} {β : List Addr} {H : Hp} {σ : L2.St} {σs' : Slots} {R : List Addr → Hp → δ → ε → Prop} {Q : ε → Hp → Prop} {R1 : List Addr → Hp → α → γ → Prop} {Q1 : γ → Hp → Prop}
    (h : EI M (r.bind f) β H σ σs' R Q) (g : ∀ p S' v H' β', r = .ok p S' → Up β β' H H' → Rel M.W M.β0 M.H0 β' S' H' σs' σ → R1 β' H' p v → ((∀ w, f p S' = .ok w S' → ∀ u, R β' H' w u → Q u H') ∧ (f p S' ≠ .no)) → Q1 v H')
    (pure : ∀ p S', (∃ w, f p S' = .ok w S') ∨ f p S' = .no) : EI M r β H σ σs' R1 Q1 := by
  cases r with
  | ok p S' =>
    refine fun v H' β' u rel q => g p S' v H' β' rfl u rel q ⟨fun w hw x hx => ?_, fun hn => ?_⟩
    · have h' : EI M (f p S') β H σ σs' R Q := h
      rw [hw] at h'
      exact h' x H' β' u rel hx
    · have h' : EI M (f p S') β H σ σs' R Q := h
      rw [hn] at h'
      exact h'
  | ex e S' => exact h
  | no => exact h
theorem it_any (hK : M.W.K = X.K) (h : PE X e (tIv M m)) : PI X tg e (tIt M m) := by
  refine impI (pi_any h) fun σ H R ⟨σs, S, β, rel, ek⟩ => ⟨σs, S, β, rel, ?_⟩
  have ek' : EI M ((evE M.C m true σs S).bind fun x S => op1 (items x) S) β H σ (held m σs) (fun β' H' xs J => ItOk M.W (ItL M β' H') J xs) R := by
    revert ek
    cases (evE M.C m true σs S).bind fun x S => op1 (items x) S with
    | ok p S' => exact fun ek J H' β' u r j => ek J H' β' u r j
    | ex e S' => exact fun ek => ek
    | no => exact fun ek => ek
  refine ek'.bind (fun p S1 v H1 β1 _ u1 r1 q1 ek1 => ?_) fun p S1 => ?_
  · obtain ⟨ek1, ek2⟩ := ek1
    cases hx : items p with
    | none => rw [hx] at ek2; exact absurd rfl ek2
    | some xs =>
      rw [← hK]
      have q1' : RdP M.W β1 H1 p v := by
        rcases q1 with q1 | ⟨a, e, q, n, z⟩
        · exact .inl q1
        · exact .inr ⟨a, e, q, n⟩
      refine any_ok hx q1' (L := ItL M β1 H1) (fun β' H' s => ⟨s.1, fun a ea ra o ho => ?_⟩) fun J j => ek1 xs (by rw [hx]; rfl) J j
      rcases q1 with q1 | ⟨a', e', r', n', z'⟩
      · subst ea
        obtain ⟨u, hu, mu⟩ := ra.tracked
        rw [ho] at hu; cases hu
        cases p with
        | lst ys =>
          simp only [Rep] at q1
          obtain ⟨a2, vs, e2, ⟨o2, f⟩, _⟩ := q1
          cases e2
          rw [ho] at f; cases f
          exact mu.elim
        | dct ks ws =>
          simp only [Rep] at q1
          obtain ⟨a2, _, _, _, e2, ⟨o2, f⟩, _⟩ := q1
          cases e2
          rw [ho] at f; cases f
          exact mu.elim
        | _ => exact ra.elim
      · rw [e'] at ea; cases ea
        cases h0 : M.H0 a with
        | none => exact absurd h0 z'
        | some o0 =>
          have n0 : a ∉ M.β0 := fun z => n' (r1.stp.up.pre.subset z)
          have e1 := r1.stp.keep a o0 h0 n0
          rw [ho] at e1; cases e1
          exact s.2.keep a o h0 n0
  · cases hx : items p with
    | none => exact .inr rfl
    | some xs => exact .inl ⟨xs, rfl⟩

/-! ### range -/
theorem items_lst (xs : List PV) : items (.lst xs) = some xs := rfl
theorem rng_items {r : R (List PV)} {f : List PV → Option (List PV)} : ((r.bind fun vs S => (op1 (f vs) S).bind fun xs S => R.ok (PV.lst xs) S).bind fun x S => op1 (items x) S) = r.bind fun vs S => op1 (f vs) S := by
  cases r with
  | ok vs S => simp only [R.bind]; cases f vs <;> rfl
  | ex e S => rfl
  | no => rfl
theorem toEK_it {β : List Addr} {H : Hp} {σ : L2.St} {σs : Slots} {S : G.St} {R : It → Hp → Prop} {es : List E} (rel : Rel M.W M.β0 M.H0 β S H σs σ)
    (ek : match (evE M.C (.range es) true σs S).bind fun x S => op1 (items x) S with
      | .ok xs S' => ∀ J H' β', Up β β' H H' → Rel M.W M.β0 M.H0 β' S' H' (held (.range es) σs) σ → ItOk M.W (fun β'' H'' => Up β' β'' H' H'' ∧ Stp M.β0 β'' M.H0 H'') J xs → R J H'
      | .ex e S' => ∀ cls d H' β', Stp β β' H H' → BR M.W β' S' H' → ExR M.W β' H' e cls d → M.Wx cls d σ H'
      | .no => False) : EK M ((evE M.C (.range es) true σs S).bind fun x S => op1 (items x) S) β H σ (fun β' H' xs J => ItOk M.W (ItL M β' H') J xs) R := by
  revert ek
  cases (evE M.C (.range es) true σs S).bind fun x S => op1 (items x) S with
  | ok p S' => exact fun ek J H' β' s b j => ek J H' β' s.up (rel.step s b) j
  | ex e S' => exact fun ek => ek
  | no => exact fun ek => ek
theorem line62 : (line : Int) ≤ 2 ^ 62 := by decide
theorem iI62 : (lineI : Int) = 2 ^ 62 := by decide
theorem rng1 {L : List Addr → Hp → List Addr → Hp → Prop} {β : List Addr} {H : Hp} {σ : L2.St} {σs : Slots} {S : G.St} {R : It → Hp → Prop}
    (rel : Rel M.W M.β0 M.H0 β S H σs σ) (ek : EK M ((evE M.C (.range [ma]) true σs S).bind fun x S => op1 (items x) S) β H σ (fun β' H' xs J => ItOk M.W (L β' H') J xs) R) : iRng1 (tEs M .rd true [ma]) σ H R := by
  simp only [evE, rng_items] at ek
  refine ⟨σs, S, β, rel, ek.bind fun ps S1 vs H1 β1 hv s1 b1 q1 ek1 => ?_⟩
  obtain ⟨xs, e1, ek2⟩ := ek1.op1
  have hl := len_evEs _ _ _ _ hv
  match ps, q1, e1, hl with
  | [p], q1, e1, _ =>
    obtain ⟨v, rfl, h1⟩ := pInv1 q1
    cases p with
    | int n =>
      simp only [rangeV] at e1
      split at e1
      · rename_i c
        simp only [Option.some.injEq] at e1
        subst e1
        have hv : v = .int n := RdB.int (RdP.b h1)
        subst hv
        have l62 := line62
        have i62 := iI62
        exact ⟨n, rfl, by omega, by omega, EK.done ek2 b1 (itr_ok (by omega))⟩
      · cases e1
    | _ => simp [rangeV] at e1
theorem rng2 {L : List Addr → Hp → List Addr → Hp → Prop} {β : List Addr} {H : Hp} {σ : L2.St} {σs : Slots} {S : G.St} {R : It → Hp → Prop}
    (rel : Rel M.W M.β0 M.H0 β S H σs σ) (ek : EK M ((evE M.C (.range [ma, mb]) true σs S).bind fun x S => op1 (items x) S) β H σ (fun β' H' xs J => ItOk M.W (L β' H') J xs) R) : iRng2 (tEs M .rd true [ma, mb]) σ H R := by
  simp only [evE, rng_items] at ek
  refine ⟨σs, S, β, rel, ek.bind fun ps S1 vs H1 β1 hv s1 b1 q1 ek1 => ?_⟩
  obtain ⟨xs, e1, ek2⟩ := ek1.op1
  have hl := len_evEs _ _ _ _ hv
  match ps, q1, e1, hl with
  | [p, q], q1, e1, _ =>
    obtain ⟨v, w, rfl, h1, h2⟩ := pInv2 q1
    cases p with
    | int n =>
      cases q with
      | int m =>
        simp only [rangeV] at e1
        split at e1
        · rename_i c
          simp only [Option.some.injEq] at e1
          subst e1
          have hv : v = .int n := RdB.int (RdP.b h1)
          have hw : w = .int m := RdB.int (RdP.b h2)
          subst hv hw
          have i62 := iI62
          exact ⟨n, m, rfl, by omega, EK.done ek2 b1 (itr_ok (by omega))⟩
        · cases e1
      | _ => simp [rangeV] at e1
    | _ => cases q <;> simp [rangeV] at e1
theorem ic_range1 {p : Pos} (f : Free X "range") (h : SEs X M [a] [ma]) (hs : starEach [a] X.env = [(false, eval a X.env)]) : PI X tg (.Call (.Name "range" p) [a] [] pos) (tIc M (.range [ma])) :=
  impI (pi_range1 f.gl f.mg h.r hs) fun σ H R ⟨σs, S, β, rel, ek⟩ => rng1 (L := fun β' H' β'' H'' => Stp β' β'' H' H'') rel ek
theorem it_range1 {p : Pos} (f : Free X "range") (h : SEs X M [a] [ma]) (hs : starEach [a] X.env = [(false, eval a X.env)]) : PI X tg (.Call (.Name "range" p) [a] [] pos) (tIt M (.range [ma])) :=
  impI (pi_range1 f.gl f.mg h.r hs) fun σ H R ⟨σs, S, β, rel, ek⟩ => rng1 (L := ItL M) rel (toEK_it rel ek)
theorem ic_range2 {p : Pos} (f : Free X "range") (h : SEs X M [a, b] [ma, mb]) (hs : starEach [a, b] X.env = [(false, eval a X.env), (false, eval b X.env)]) (hs2 : starEach [b] X.env = [(false, eval b X.env)]) : PI X tg (.Call (.Name "range" p) [a, b] [] pos) (tIc M (.range [ma, mb])) :=
  impI (pi_range2 f.gl f.mg h.r hs hs2) fun σ H R ⟨σs, S, β, rel, ek⟩ => rng2 (L := fun β' H' β'' H'' => Stp β' β'' H' H'') rel ek
theorem it_range2 {p : Pos} (f : Free X "range") (h : SEs X M [a, b] [ma, mb]) (hs : starEach [a, b] X.env = [(false, eval a X.env), (false, eval b X.env)]) (hs2 : starEach [b] X.env = [(false, eval b X.env)]) : PI X tg (.Call (.Name "range" p) [a, b] [] pos) (tIt M (.range [ma, mb])) :=
  impI (pi_range2 f.gl f.mg h.r hs hs2) fun σ H R ⟨σs, S, β, rel, ek⟩ => rng2 (L := ItL M) rel (toEK_it rel ek)
end
end G
end

section
/-! Sd9: enumerate of lists and tuples. -/
namespace PySem
theorem meets_enumerate_new1 {v : Value} {o : Obj} {H : Heap → Prop} (B : Begins v o H) :
    Meets (Builtin.«enumerate.__new__» ⟨[.type "enumerate", v], []⟩) (fun _ R s => H s.heap ∧
      R (.ok (.ret (.ref (s.heap.push o).objs.size))) { s with heap := (s.heap.push o).push { cls := .type "enumerate", data := .fields #[.none, .bool false, .ref s.heap.objs.size, rawInt 0, .none, .none] } }) :=
  .of_wp fun prog w A R s h => by
    obtain ⟨hp, g, d, tk, os⟩ := s; obtain ⟨h1, h⟩ := h
    have hsub := sub_enumerate
    have q1 : ∀ {A' : Around} {E : Value → Shared → Prop} {Q : Value → Shared → Prop}, Q (.ref hp.objs.size) ⟨hp.push o, g, d, tk, os⟩ → wpAny (model prog w) A' (pyIter v) Q E ⟨hp, g, d, tk, os⟩ :=
      fun q => B.iter prog w _ _ ⟨hp, g, d, tk, os⟩ _ h1 q
    wp_walk using q1
    refine wpAny_stack_any fun st => wpAny_pure ?_
    split
    · rename_i c _ _ _ _ _
      cases (c == Value.type "enumerate")
      · wp_walk using q1
        exact ⟨_, rfl, h⟩
      · wp_walk using q1
        exact ⟨_, rfl, h⟩
    · wp_walk using q1
      exact ⟨_, rfl, h⟩
theorem call_enumerate_B {prog : Program} {w : World} {A : Around} {E : Value → Shared → Prop} {s : Shared} {v : Value} {o : Obj} {H : Heap → Prop} {Q : Value → Shared → Prop} (B : Begins v o H) (h1 : H s.heap)
    (h : ∀ h', IsEnum h' (s.heap.objs.size + 1) s.heap.objs.size 0 .none → h'.get? s.heap.objs.size = some o → h'.objs.size = s.heap.objs.size + 2 →
      (∀ b o, s.heap.get? b = some o → h'.get? b = some o) → Q (.ref (s.heap.objs.size + 1)) { s with heap := h' }) :
    wpAny (model prog w) A (call (.type "enumerate") [v]) Q E s := by
  refine callType_new F.called_enumerate (by decide) (F.typeCall_enumerate_1 _) (F.newCall_enumerate_1 _) (fun obj => F.args_object_init_2 obj _) F.entry_enumerate_new
    (meets_enumerate_new1 B) ⟨h1, ?_⟩
  have hz : (s.heap.push o).objs.size = s.heap.objs.size + 1 := Heap.size_push ..
  show _ ∧ _
  rw [hz]
  have he : IsEnum ((s.heap.push o).push { cls := .type "enumerate", data := .fields #[.none, .bool false, .ref s.heap.objs.size, rawInt 0, .none, .none] }) (s.heap.objs.size + 1) s.heap.objs.size 0 .none := by
    have := Heap.get?_push_size (s.heap.push o) (o := { cls := .type "enumerate", data := .fields #[.none, .bool false, .ref s.heap.objs.size, rawInt 0, .none, .none] }) rfl
    rw [hz] at this; exact this
  refine ⟨⟨_, he, rfl⟩, h _ he (Heap.get?_push_of_some _ (Heap.get?_push_size _ B.free)) (by rw [Heap.size_push, hz]) fun b o x => Heap.get?_push_of_some _ (Heap.get?_push_of_some _ x)⟩
end PySem
namespace G
open PySem PySem.Spec PyProof.Rows L2
/-- the tuple at a, each item in a new pair -/
def Itet (K : PySem.W.Frag) (a : Addr) : It :=
  ⟨fun i H => ∃ (xs : List V) (x : V), SqT K H a xs ∧ xs[i]? = some x, fun i H v H' => ∃ T x, v = .ref T ∧ H T = none ∧ H' = upd H T (.tup [.int (i : Nat), x]) ∧ ∀ xs, SqT K H a xs → xs[i]? = some x, fun i H => ∃ xs : List V, SqT K H a xs ∧ xs.length ≤ i⟩
theorem turn_enumT {P : Program} {w : World} {K : PySem.W.Frag} {elts : List Expr} {kk : Nat} {tpos : Pos} (a e it : Addr) :
    Turn P w K (.Tuple elts kk tpos) (Itet K a) [e, it] e (fun i h => (∃ old, IsEnum h e it ((i : Nat) : Int) old) ∧ h.IsTupleIter it a i ∧ e ≠ it) where
  mem := by simp
  obj := fun i h st b hb => by
    obtain ⟨⟨old, he⟩, ⟨o, ho, hc, hd⟩, _⟩ := st
    have e' : b = e ∨ b = it := by simpa using hb
    rcases e' with z | z
    · rw [z]; exact ⟨_, he, fun v q => nomatch q⟩
    · rw [z]; exact ⟨o, ho, fun v q => by rw [hd] at q; cases q⟩
  keep := fun i h h' st k => let ⟨⟨old, he⟩, hi, hne⟩ := st; ⟨⟨old, k e (by simp) _ he⟩, hi.at fun o q => k it (by simp) o q, hne⟩
  item := by
    intro X hP hw hK hc i pins s σ H E I hf st hg
    subst hP hw hK
    obtain ⟨⟨old, he⟩, hit, hne⟩ := st
    obtain ⟨xs, x, hq, hx⟩ := hg
    obtain ⟨its, rv, p, hz⟩ := I.tuple hq
    obtain ⟨u, hu, ru⟩ := rv.get hx
    have hel : e < s.heap.objs.size := Heap.lt_size he
    have hil : it < s.heap.objs.size := by obtain ⟨_, q, _⟩ := hit; exact Heap.lt_size q
    have hia : a ≠ it := by
      rintro rfl
      obtain ⟨o, h1, h2, _⟩ := p
      obtain ⟨o', h3, h4, _⟩ := hit
      rw [h1] at h3; cases h3
      rw [h2] at h4
      exact absurd (Value.type.inj h4) (by decide)
    have hea : e ≠ a := by
      rintro rfl
      obtain ⟨o, h1, h2, _⟩ := p
      rw [show s.heap.get? e = _ from he] at h1; cases h1
      exact absurd (Value.type.inj h2) (by decide)
    have D := Draws.tuple (prog := X.prog) (w := X.w) (A := X.A.in1) (show X.A.in1.handled = none from I.ok.hd hc) it a hia its.toArray
    have hil2 : i < its.toArray.size := by
      have := (List.getElem?_eq_some_iff.mp hu).1
      simpa using this
    refine wpAny_pyNext_enum_itemD D he ⟨hit, p⟩ hil2 hne (by simp; exact ⟨hne, hea⟩) fun x' h' tk hP ho hst hT hsz hk => ?_
    have hxu : x' = u := by
      have h1 : its.toArray[i]? = some x' := hP
      have h2 : its.toArray[i]? = some u := by simpa using hu
      rw [h1] at h2
      exact Option.some.inj h2
    subst hxu
    refine ⟨_, rfl, wpAny_letOwnedTupleGo_enum (s := { s with heap := h', toks := tk + 1 }) ho fun h'' he' sb => ?_⟩
    have hT2 : h''.get? s.heap.objs.size = some { cls := .type "tuple", data := .seq #[.int i tk, x'] } := (sb.2 _ (Nat.ne_of_gt hel)).trans hT
    have new : ObjOk X.prog X.w (upd H s.heap.objs.size (.tup [.int (i : Nat), x])) h'' s.heap.objs.size (.tup [.int (i : Nat), x]) :=
      ⟨by show 2 ≤ sizeLine; decide, [.int i tk, x'], .cons ⟨_, rfl⟩ (.cons ru .nil), ⟨_, hT2, rfl, _, rfl⟩⟩
    have I1 : Inv X pins σ (upd H s.heap.objs.size (.tup [.int (i : Nat), x])) { s with heap := h'', toks := tk + 1 } :=
      I.turnedNew (ch := [e, it]) (fun b ob hb q => (sb.2 b (fun z => hb (by simp [z]))).trans (hk b ob (fun z => hb (by simp [z])) (fun z => hb (by simp [z])) q)) hf (Nat.le_refl _) new
    refine ⟨.ref s.heap.objs.size, _, I1, rfl, ⟨_, x, rfl, I.hok.fresh (Nat.le_refl _), rfl, fun ys hy => by rw [I.tuple_inj hy hq]; exact hx⟩, ⟨⟨x', ?_⟩, hst.1.at fun o q => (sb.2 it (Ne.symm hne)).trans q, hne⟩, fun b hb => ?_⟩
    · have e1 : ((i + 1 : Nat) : Int) = (i : Int) + 1 := by omega
      rw [e1]; exact he'
    · have hb' : b < s.heap.objs.size := by
        have e' : b = e ∨ b = it := by simpa using hb
        rcases e' with z | z
        · rw [z]; exact hel
        · rw [z]; exact hil
      rw [upd_ne (Nat.ne_of_lt hb')]
      exact (hf b hb).1
  done := by
    intro X hP hw hK hc i pins s σ H E I hf st hg
    subst hP hw hK
    obtain ⟨⟨old, he⟩, hit, hne⟩ := st
    obtain ⟨xs, hq, hx⟩ := hg
    obtain ⟨its, rv, p, hz⟩ := I.tuple hq
    obtain ⟨f0, f1, f2, f3, f4, f5⟩ := hf it (by simp)
    have hl := rv.length
    have hT : s.TypeIs (.ref e) "enumerate" := ⟨_, he, rfl⟩
    unfold pyNext
    refine wpAny_bind (wpAny_attempt (wpAny_callSpecial?_slot (name := Str.ofString "__next__") hT F.slot_enumerate_next
      (wpAny_call_entry F.slot_enumerate_next hT F.entry_enumerate_next ?_ (F.args_enumerate_next_1 _))))
    show wpAny _ _ (field (.ref e) 2 >>= _) _ _ _
    refine wpAny_bind (wpAny_field he rfl (x := .ref it) rfl ?_)
    refine wpAny_bind (wpAny_nextOf_tuple_end (show X.A.in1.handled = none from I.ok.hd hc) hit (show s.heap.IsTuple a its.toArray from p) (by simp; omega) fun h' x he' hx' => ?_)
    obtain ⟨o, ho, hc'⟩ := hx'
    refine wpAny_bind (wpAny_isInstance (T := "StopIteration") (b := true) ⟨o, ho, hc'⟩ isSubtype_stop ?_)
    exact wpAny_pure ⟨rfl, I.turned (t' := s.toks) (fun b o hb q => he' b o hb q) f0 f1 f3 f4 f5⟩
  self := fun A i s Q E st h => let ⟨⟨_, he⟩, _⟩ := st; wpAny_pyIter_enum he h
def iEnumX (K : PySem.W.Frag) (ta : TA) : TI := fun σ H R => ta σ H fun vs H1 => ∃ a, vs = [.ref a] ∧ ((∃ xs, SqL K H1 a xs ∧ (xs.length ≤ sizeLine → R (Ite K a) H1)) ∨ (∃ xs, SqT K H1 a xs ∧ (xs.length ≤ sizeLine → R (Itet K a) H1)))
theorem pi_enumX {X : Cx} {e : Expr} {ta : TA} {p pos tpos : Pos} {elts : List Expr} {kk : Nat} (hg : Gl X "enumerate") (hm : X.mg "enumerate" = none) (ha : PA X [e] ta) (hs : starEach [e] X.env = [(false, eval e X.env)]) :
    PI X (.Tuple elts kk tpos) (.Call (.Name "enumerate" p) [e] [] pos) (iEnumX X.K ta) := by
  refine ⟨fun pins s σ H R I h => ?_⟩
  refine Call_ (ld_blt I hg hm boot_enumerate (PyProof.Rows.callWith_type1 (thn (ha.run pos pins s σ H _ I h) fun us s1 ⟨vs, H1, I1, r1, q1⟩ => ?_) hs rfl))
  obtain ⟨a, ex, q⟩ := q1
  subst ex
  cases r1 with
  | cons r rr =>
    cases rr
    cases r
    have fp : ∀ b ∈ [s1.heap.objs.size + 1, s1.heap.objs.size], FpOk X pins H1 b := fun b hb => by
      have e' : b = s1.heap.objs.size + 1 ∨ b = s1.heap.objs.size := by simpa using hb
      have hle : s1.heap.objs.size ≤ b := by
        rcases e' with z | z
        · rw [z]; exact Nat.le_add_right _ _
        · rw [z]; exact Nat.le_refl _
      exact I1.fpOk hle (I1.hok.fresh hle)
    rcases q with ⟨xs, hq, q⟩ | ⟨xs, hq, q⟩
    · obtain ⟨its, rv, p', hz⟩ := I1.list hq
      refine call_enumerate_list p'.isList fun h' he hit hsz hk => wpAny_pyIter_enum he ?_
      have I2 : Inv X pins σ H1 { s1 with heap := h' } := I1.kept (t' := s1.toks) hk
      exact ⟨s1.heap.objs.size + 1, [s1.heap.objs.size + 1, s1.heap.objs.size], _, _, H1, rfl, I2, turn_enum a (s1.heap.objs.size + 1) s1.heap.objs.size, ⟨⟨.none, he⟩, hit, Nat.succ_ne_self _⟩, fp, q hz⟩
    · obtain ⟨its, rv, p', hz⟩ := I1.tuple hq
      refine call_enumerate_B (begins_tuple a its.toArray) p' fun h' he hit hsz hk => wpAny_pyIter_enum he ?_
      have I2 : Inv X pins σ H1 { s1 with heap := h' } := I1.kept (t' := s1.toks) hk
      exact ⟨s1.heap.objs.size + 1, [s1.heap.objs.size + 1, s1.heap.objs.size], _, _, H1, rfl, I2, turn_enumT a (s1.heap.objs.size + 1) s1.heap.objs.size, ⟨⟨.none, he⟩, ⟨_, hit, rfl, rfl⟩, Nat.succ_ne_self _⟩, fp, q hz⟩
theorem enumL_length : ∀ (xs : List PV) (n : Nat), (enumL xs n).length = xs.length
  | [], _ => rfl
  | x :: xs, n => by simp [enumL, enumL_length xs]
theorem enumL_get : ∀ (xs : List PV) (n i : Nat) (p : PV), xs[i]? = some p → (enumL xs n)[i]? = some (.tup [.int ((n + i : Nat) : Int), p])
  | [], _, _, _, h => by simp at h
  | x :: xs, n, 0, p, h => by simp at h; subst h; simp [enumL]
  | x :: xs, n, i + 1, p, h => by
    simp only [enumL, List.getElem?_cons_succ] at h ⊢
    rw [enumL_get xs (n + 1) i p h]
    congr 5
    omega
section
variable {W : Wd} {L : List Addr → Hp → Prop} {xs : List PV}
theorem pair_rep {β : List Addr} {H : Hp} {T : Addr} {i : Nat} {x : V} {p : PV} (hT : H T = none) (q : Rep W β H p x) : Rep W β (upd H T (.tup [.int (i : Nat), x])) (.tup [.int ((0 + i : Nat) : Int), p]) (.ref T) := by
  simp only [Rep, RepL]
  refine ⟨T, _, rfl, .of upd_same, _, _, rfl, by simp, _, _, rfl, Rep.up (.new hT) _ q, rfl⟩
theorem ite_ok {a : Addr} {vs : List V} (hz : vs.length ≤ sizeLine) (hlen : vs.length = xs.length) (h : ∀ β H, L β H → SqL W.K H a vs ∧ RepL W β H xs vs) : ItOk W L (Ite W.K a) (enumL xs 0) where
  len := by rw [enumL_length, ← hlen]; exact lt_line.mpr hz
  go := fun i β H l hi => by
    obtain ⟨s, r⟩ := h β H l
    rw [enumL_length] at hi
    exact ⟨vs, vs[i]'(by omega), s, List.getElem?_eq_getElem _⟩
  stop := fun i β H l hi => by
    obtain ⟨s, r⟩ := h β H l
    rw [enumL_length] at hi
    exact ⟨vs, s, by omega⟩
  yld := fun i β H x H' l hi y => by
    obtain ⟨s, r⟩ := h β H l
    obtain ⟨T, x, rfl, hT, rfl, y⟩ := y
    obtain ⟨p, e, q⟩ := r.get' (y vs s)
    exact ⟨_, enumL_get xs 0 i p e, .inr ⟨T, _, hT, rfl⟩, pair_rep hT q⟩
theorem itet_ok {a : Addr} {vs : List V} (hz : vs.length ≤ sizeLine) (hlen : vs.length = xs.length) (h : ∀ β H, L β H → SqT W.K H a vs ∧ RepL W β H xs vs) : ItOk W L (Itet W.K a) (enumL xs 0) where
  len := by rw [enumL_length, ← hlen]; exact lt_line.mpr hz
  go := fun i β H l hi => by
    obtain ⟨s, r⟩ := h β H l
    rw [enumL_length] at hi
    exact ⟨vs, vs[i]'(by omega), s, List.getElem?_eq_getElem _⟩
  stop := fun i β H l hi => by
    obtain ⟨s, r⟩ := h β H l
    rw [enumL_length] at hi
    exact ⟨vs, s, by omega⟩
  yld := fun i β H x H' l hi y => by
    obtain ⟨s, r⟩ := h β H l
    obtain ⟨T, x, rfl, hT, rfl, y⟩ := y
    obtain ⟨p, e, q⟩ := r.get' (y vs s)
    exact ⟨_, enumL_get xs 0 i p e, .inr ⟨T, _, hT, rfl⟩, pair_rep hT q⟩
theorem anyE_ok {β : List Addr} {H : Hp} {p : PV} {v : V} {R : It → Hp → Prop} (e : seqs p = some xs) (h : RdP W β H p v)
    (hL : ∀ β' H', L β' H' → Up β β' H H' ∧ ∀ a, v = .ref a → Raw W β H a p → ∀ o, H a = some o → H' a = some o) (hR : ∀ J, ItOk W L J (enumL xs 0) → R J H) :
    ∃ a, v = .ref a ∧ ((∃ xs, SqL W.K H a xs ∧ (xs.length ≤ sizeLine → R (Ite W.K a) H)) ∨ (∃ xs, SqT W.K H a xs ∧ (xs.length ≤ sizeLine → R (Itet W.K a) H))) := by
  unfold seqs at e
  cases p with
  | tup ys =>
    simp only [Option.some.injEq] at e
    subst e
    obtain ⟨a, vs, rfl, ha, ra⟩ := h.b.tup
    exact ⟨a, rfl, .inr ⟨vs, ha, fun hz => hR _ (itet_ok hz ra.length fun β' H' l => ⟨(hL β' H' l).1.sqT ha, RepL.up (hL β' H' l).1 _ ra⟩)⟩⟩
  | lst ys =>
    simp only [Option.some.injEq] at e
    subst e
    rcases h with h | ⟨a, rfl, h, n⟩
    · simp only [Rep] at h
      obtain ⟨a, vs, rfl, ha, ra⟩ := h
      exact ⟨a, rfl, .inl ⟨vs, ha.sq, fun hz => hR _ (ite_ok hz ra.length fun β' H' l => ⟨((hL β' H' l).1.fzL (K := W.K) ha).sq, RepL.up (hL β' H' l).1 _ ra⟩)⟩⟩
    · have h' := h
      obtain ⟨vs, ha, ra⟩ := h
      exact ⟨a, rfl, .inl ⟨vs, .of ha, fun hz => hR _ (ite_ok hz ra.length fun β' H' l => ⟨.of ((hL β' H' l).2 a rfl h' _ ha), RepL.up (hL β' H' l).1 _ ra⟩)⟩⟩
  | _ => simp at e
end
section
variable {X : Cx} {M : Pm} {e a : Expr} {m ma : E} {pos p tpos : Pos} {elts : List Expr} {kk : Nat}
theorem enum_items {r : R PV} : ((r.bind fun x S => (op1 (seqs x) S).bind fun xs S => R.ok (PV.lst (enumL xs 0)) S).bind fun x S => op1 (items x) S) = r.bind fun x S => (op1 (seqs x) S).bind fun xs S => R.ok (enumL xs 0) S := by
  cases r with
  | ok x S => simp only [R.bind]; cases seqs x <;> rfl
  | ex e S => rfl
  | no => rfl
theorem ic_enum (hK : M.W.K = X.K) (f : Free X "enumerate") (h : SE X M e m) (hs : starEach [e] X.env = [(false, eval e X.env)]) : PI X (.Tuple elts kk tpos) (.Call (.Name "enumerate" p) [e] [] pos) (tIc M (.enum m)) := by
  refine impI (pi_enumX f.gl f.mg (pa_cons h.r pa_nil hs) hs) fun σ H R ⟨σs, S, β, rel, ek⟩ => ⟨σs, S, β, rel, ?_⟩
  simp only [evE, enum_items] at ek
  refine ek.bind fun p S1 v H1 β1 _ s1 b1 q1 ek1 => ?_
  cases e1 : seqs p with
  | none => rw [e1] at ek1; exact ek1.elim
  | some xs =>
    rw [e1] at ek1
    obtain ⟨a, rfl, q⟩ : ∃ a, v = .ref a ∧ ((∃ xs, SqL M.W.K H1 a xs ∧ (xs.length ≤ sizeLine → R (Ite M.W.K a) H1)) ∨ (∃ xs, SqT M.W.K H1 a xs ∧ (xs.length ≤ sizeLine → R (Itet M.W.K a) H1))) := by
      refine anyE_ok e1 q1 (L := fun β'' H'' => Stp β1 β'' H1 H'') (fun β' H' s => ⟨s.up, fun a ea ra o ho => ?_⟩) fun J j => EK.done ek1 b1 j
      rcases q1 with q1 | ⟨a', e', r', n'⟩
      · subst ea
        obtain ⟨u, hu, mu⟩ := ra.tracked
        rw [ho] at hu; cases hu
        cases p with
        | lst ys =>
          simp only [Rep] at q1
          obtain ⟨a2, vs, e2, ⟨o2, f⟩, _⟩ := q1
          cases e2
          rw [ho] at f; cases f
          exact mu.elim
        | dct ks ws => simp [seqs] at e1
        | _ => exact ra.elim
      · rw [e'] at ea; cases ea
        exact s.keep a o ho n'
    rw [hK] at q
    exact ⟨a, rfl, q⟩
theorem it_enum (hK : M.W.K = X.K) (f : Free X "enumerate") (h : PE X e (tIv M m)) (hs : starEach [e] X.env = [(false, eval e X.env)]) : PI X (.Tuple elts kk tpos) (.Call (.Name "enumerate" p) [e] [] pos) (tIt M (.enum m)) := by
  refine impI (pi_enumX f.gl f.mg (pa_cons h pa_nil hs) hs) fun σ H R ⟨σs, S, β, rel, ek⟩ => ⟨σs, S, β, rel, ?_⟩
  rw [show evE M.C (.enum m) true σs S = (evE M.C m true σs S).bind fun x S => (op1 (seqs x) S).bind fun xs S => G.R.ok (PV.lst (enumL xs 0)) S from by simp only [evE], enum_items] at ek
  have ek' : EI M ((evE M.C m true σs S).bind fun x S => (op1 (seqs x) S).bind fun xs S => G.R.ok (enumL xs 0) S) β H σ (held m σs) (fun β' H' xs J => ItOk M.W (ItL M β' H') J xs) R := by
    revert ek
    cases (evE M.C m true σs S).bind fun x S => (op1 (seqs x) S).bind fun xs S => G.R.ok (enumL xs 0) S with
    | ok p S' => exact fun ek J H' β' u r j => ek J H' β' u r j
    | ex e S' => exact fun ek => ek
    | no => exact fun ek => ek
  refine ek'.bind (fun p S1 v H1 β1 _ u1 r1 q1 ek1 => ?_) fun p S1 => ?_
  · obtain ⟨ek1, ek2⟩ := ek1
    cases hx : seqs p with
    | none => rw [hx] at ek2; exact absurd rfl ek2
    | some xs =>
      have q1' : RdP M.W β1 H1 p v := by
        rcases q1 with q1 | ⟨a, e, q, n, z⟩
        · exact .inl q1
        · exact .inr ⟨a, e, q, n⟩
      obtain ⟨a, rfl, q⟩ : ∃ a, v = .ref a ∧ ((∃ xs, SqL M.W.K H1 a xs ∧ (xs.length ≤ sizeLine → R (Ite M.W.K a) H1)) ∨ (∃ xs, SqT M.W.K H1 a xs ∧ (xs.length ≤ sizeLine → R (Itet M.W.K a) H1))) := by
        refine anyE_ok hx q1' (L := ItL M β1 H1) (fun β' H' s => ⟨s.1, fun a ea ra o ho => ?_⟩) fun J j => ek1 (enumL xs 0) (by rw [hx]; rfl) J j
        rcases q1 with q1 | ⟨a', e', r', n', z'⟩
        · subst ea
          obtain ⟨u, hu, mu⟩ := ra.tracked
          rw [ho] at hu; cases hu
          cases p with
          | lst ys =>
            simp only [Rep] at q1
            obtain ⟨a2, vs, e2, ⟨o2, f⟩, _⟩ := q1
            cases e2
            rw [ho] at f; cases f
            exact mu.elim
          | dct ks ws => simp [seqs] at hx
          | _ => exact ra.elim
        · rw [e'] at ea; cases ea
          cases h0 : M.H0 a with
          | none => exact absurd h0 z'
          | some o0 =>
            have n0 : a ∉ M.β0 := fun z => n' (r1.stp.up.pre.subset z)
            have e1 := r1.stp.keep a o0 h0 n0
            rw [ho] at e1; cases e1
            exact s.2.keep a o h0 n0
      rw [hK] at q
      exact ⟨a, rfl, q⟩
  · cases hx : seqs p with
    | none => exact .inr rfl
    | some xs => exact .inl ⟨enumL xs 0, rfl⟩
end
end G
end

section
/-! Sd10: targets, comprehensions, calls. -/
namespace G
open PySem PySem.Spec PyProof.Rows L2
theorem getS_setS {σs : Slots} {j i : Nat} {t : Tag} {v : PV} : getS (setS σs j t v) i = if i = j then (if j < σs.length then some (t, v) else none) else getS σs i := by
  unfold getS setS
  rw [List.getElem?_set]
  by_cases h : j = i
  · subst h
    by_cases h2 : j < σs.length
    · simp [h2]
    · simp [h2]
  · have h' : ¬ i = j := fun z => h z.symm
    simp [h, h']
section
variable {W : Wd} {β0 β : List Addr} {H0 H : Hp} {S : G.St} {σs : Slots} {σ : L2.St}
theorem Rel.setVal (r : Rel W β0 H0 β S H σs σ) (j : Nat) {p : PV} {v : V} (q : Rep W β H p v) : Rel W β0 H0 β S H (setS σs j .val p) (σ.set j (some v)) := by
  have vg : ∀ i, i ≠ j → (σ.set j (some v))[i]? = σ[i]? := fun i h => List.getElem?_set_ne (Ne.symm h)
  refine ⟨by unfold setS; rw [List.length_set, List.length_set]; exact r.len, fun i p' h => ?_, fun i p' h => ?_, fun i p' h => ?_, fun i k p1 p2 a hik h1 h2 c1 c2 v1 v2 => ?_, r.br, r.stp⟩
  · rw [getS_setS] at h
    by_cases hi : i = j
    · subst hi
      rw [if_pos rfl] at h
      split at h
      · rename_i hl
        cases h
        exact ⟨v, by rw [List.getElem?_set_self (by rw [← r.len]; exact hl)], q⟩
      · cases h
    · rw [if_neg hi] at h
      rw [vg i hi]
      exact r.val i p' h
  · rw [getS_setS] at h
    by_cases hi : i = j
    · rw [if_pos hi] at h
      split at h <;> cases h
    · rw [if_neg hi] at h
      rw [vg i hi]
      exact r.bor i p' h
  · rw [getS_setS] at h
    by_cases hi : i = j
    · rw [if_pos hi] at h
      split at h <;> cases h
    · rw [if_neg hi] at h
      rw [vg i hi]
      exact r.own i p' h
  · rw [getS_setS] at h1 h2
    by_cases hi : i = j
    · rw [if_pos hi] at h1
      split at h1 <;> cases h1
    · by_cases hk : k = j
      · rw [if_pos hk] at h2
        split at h2 <;> cases h2
      · rw [if_neg hi] at h1
        rw [if_neg hk] at h2
        rw [vg i hi] at v1
        rw [vg k hk] at v2
        exact r.sep i k p1 p2 a hik h1 h2 c1 c2 v1 v2
/-- fewer slots are known -/
theorem Rel.sub {σs' : Slots} {σ' : L2.St} (r : Rel W β0 H0 β S H σs σ) (hl : σs'.length = σ'.length) (h : ∀ i t p, getS σs' i = some (t, p) → getS σs i = some (t, p) ∧ σ'[i]? = σ[i]?) : Rel W β0 H0 β S H σs' σ' := by
  refine ⟨hl, fun i p e => ?_, fun i p e => ?_, fun i p e => ?_, fun i k p1 p2 a hik h1 h2 c1 c2 v1 v2 => ?_, r.br, r.stp⟩
  · obtain ⟨e1, e2⟩ := h i _ _ e; rw [e2]; exact r.val i p e1
  · obtain ⟨e1, e2⟩ := h i _ _ e; rw [e2]; exact r.bor i p e1
  · obtain ⟨e1, e2⟩ := h i _ _ e; rw [e2]; exact r.own i p e1
  · obtain ⟨e1, e2⟩ := h i _ _ h1
    obtain ⟨e3, e4⟩ := h k _ _ h2
    rw [e2] at v1
    rw [e4] at v2
    exact r.sep i k p1 p2 a hik e1 e3 c1 c2 v1 v2
end
theorem setAll_len : ∀ {is : List Nat} {vs : List PV} {σs σs' : Slots}, setAll σs is vs = some σs' → is.length = vs.length
  | [], [], _, _, _ => rfl
  | [], _ :: _, _, _, h => by simp [setAll] at h
  | _ :: _, [], _, _, h => by simp [setAll] at h
  | i :: is, v :: vs, _, _, h => by simp only [setAll] at h; simp [setAll_len h]
theorem setAll_slen : ∀ {is : List Nat} {vs : List PV} {σs σs' : Slots}, setAll σs is vs = some σs' → σs'.length = σs.length
  | [], [], _, _, h => by simp only [setAll, Option.some.injEq] at h; rw [h]
  | [], _ :: _, _, _, h => by simp [setAll] at h
  | _ :: _, [], _, _, h => by simp [setAll] at h
  | i :: is, v :: vs, _, _, h => by simp only [setAll] at h; rw [setAll_slen h]; unfold setS; rw [List.length_set]
theorem setAll_other : ∀ {is : List Nat} {vs : List PV} {σs σs' : Slots} {i : Nat}, setAll σs is vs = some σs' → i ∉ is → getS σs' i = getS σs i
  | [], [], _, _, _, h, _ => by simp only [setAll, Option.some.injEq] at h; rw [h]
  | [], _ :: _, _, _, _, h, _ => by simp [setAll] at h
  | _ :: _, [], _, _, _, h, _ => by simp [setAll] at h
  | j :: is, v :: vs, _, _, i, h, hn => by
    simp only [setAll] at h
    simp only [List.mem_cons, not_or] at hn
    rw [setAll_other h hn.2, getS_setS, if_neg hn.1]
/-- the slots stored one by one -/
def setV (σ : L2.St) : List Nat → List V → L2.St
  | i :: is, v :: vs => setV (σ.set i (some v)) is vs
  | _, _ => σ
theorem setV_other : ∀ {is : List Nat} {vs : List V} {σ : L2.St} {i : Nat}, i ∉ is → (setV σ is vs)[i]? = σ[i]?
  | [], _, _, _, _ => by unfold setV; rfl
  | _ :: _, [], _, _, _ => by unfold setV; rfl
  | j :: is, v :: vs, σ, i, h => by
    simp only [List.mem_cons, not_or] at h
    unfold setV
    rw [setV_other h.2, List.getElem?_set_ne (Ne.symm h.1)]
theorem setV_len : ∀ {is : List Nat} {vs : List V} {σ : L2.St}, (setV σ is vs).length = σ.length
  | [], _, _ => by unfold setV; rfl
  | _ :: _, [], _ => by unfold setV; rfl
  | j :: is, v :: vs, σ => by unfold setV; rw [setV_len, List.length_set]
theorem Rel.setVals {W : Wd} {β0 β : List Addr} {H0 H : Hp} {S : G.St} : ∀ {is : List Nat} {ps : List PV} {vs : List V} {σs σs' : Slots} {σ : L2.St}, Rel W β0 H0 β S H σs σ → RepL W β H ps vs → setAll σs is ps = some σs' → Rel W β0 H0 β S H σs' (setV σ is vs)
  | [], [], vs, _, _, _, r, q, h => by
    simp only [setAll, Option.some.injEq] at h
    subst h
    unfold setV
    exact r
  | [], _ :: _, _, _, _, _, _, _, h => by simp [setAll] at h
  | _ :: _, [], _, _, _, _, _, _, h => by simp [setAll] at h
  | i :: is, p :: ps, vs, _, _, _, r, q, h => by
    simp only [setAll] at h
    simp only [RepL] at q
    obtain ⟨v, w, rfl, q1, q2⟩ := q
    unfold setV
    exact (r.setVal i q1).setVals q2 h
/-- a target's reading -/
def gNames : List Nat → TGs
  | [] => gNil
  | i :: is => gCons (gName i) (gNames is)
def gT (K : PySem.W.Frag) : Tg → TG
  | .nm i => gName i
  | .tp is => gTup K is.length (gNames is)
theorem gNames_ok : ∀ {is : List Nat} {vs : List V} {σ : L2.St} {H : Hp} {Q : L2.St → Hp → Prop}, is.length = vs.length → Q (setV σ is vs) H → gNames is vs σ H Q
  | [], [], _, _, _, _, h => ⟨rfl, by unfold setV at h; exact h⟩
  | [], _ :: _, _, _, _, l, _ => by simp at l
  | _ :: _, [], _, _, _, l, _ => by simp at l
  | i :: is, v :: vs, σ, H, Q, l, h => ⟨v, vs, rfl, gNames_ok (by simpa using l) (by unfold setV at h; exact h)⟩
def tgs : Tg → List Nat
  | .nm i => [i]
  | .tp is => is
/-- what a target makes of slots -/
theorem gT_ok {W : Wd} {β : List Addr} {H : Hp} {σs σs' : Slots} {tg : Tg} {p : PV} {x : V} (q : Rep W β H p x) (h : bindT σs p tg = some σs') :
    ∃ ps vs, setAll σs (tgs tg) ps = some σs' ∧ RepL W β H ps vs ∧ ∀ (σ : L2.St) (Q : L2.St → Hp → Prop), Q (setV σ (tgs tg) vs) H → gT W.K tg x σ H Q := by
  cases tg with
  | nm i =>
    simp only [bindT, Option.some.injEq] at h
    subst h
    exact ⟨[p], [x], by simp [tgs, setAll], RepL.one q, fun σ Q h => by simpa [tgs, setV, gT, gName] using h⟩
  | tp is =>
    simp only [bindT] at h
    split at h
    · rename_i xs
      simp only [Rep] at q
      obtain ⟨a, vs, rfl, ha, ra⟩ := q
      refine ⟨xs, vs, h, ra, fun σ Q hQ => ⟨a, vs, rfl, ha, ?_, ?_⟩⟩
      · rw [ra.length, setAll_len h]
      · exact gNames_ok (by rw [ra.length, setAll_len h]) hQ
    · cases h
/-- the wiped slots -/
theorem wipe_get (σ : L2.St) : ∀ (vs : List Nat) (i : Nat), (wipe σ vs)[i]? = if i ∈ vs ∧ i < σ.length then some none else σ[i]?
  | [], i => by simp [wipe]
  | v :: vs, i => by
    unfold wipe
    rw [List.getElem?_set]
    by_cases h : v = i
    · subst h
      rw [wipe_length]
      by_cases h2 : v < σ.length
      · simp [h2]
      · simp [h2]
    · rw [if_neg h, wipe_get σ vs i]
      have : ¬ i = v := fun z => h z.symm
      simp [this]
theorem wipe_setV {σ : L2.St} {vs is : List Nat} {ws : List V} (h : ∀ i ∈ is, i ∈ vs) : wipe (setV (wipe σ vs) is ws) vs = wipe σ vs := by
  apply List.ext_getElem?
  intro i
  rw [wipe_get, wipe_get, setV_len, wipe_length]
  by_cases hi : i ∈ vs
  · by_cases hl : i < σ.length
    · simp [hi, hl]
    · simp only [hi, hl, and_false, if_false]
      rw [List.getElem?_eq_none (by rw [setV_len, wipe_length]; omega), List.getElem?_eq_none (by omega)]
  · have : i ∉ is := fun z => hi (h i z)
    simp only [hi, false_and, if_false]
    rw [setV_other this, wipe_get]
    simp [hi]
/-- the frame within a comprehension's turn -/
theorem Rel.turn {W : Wd} {β0 β : List Addr} {H0 H : Hp} {S : G.St} {σs σs' : Slots} {σ : L2.St} {is vs : List Nat} {ps : List PV} {ws : List V} (r : Rel W β0 H0 β S H σs σ) (q : RepL W β H ps ws) (h : setAll σs is ps = some σs') (hv : ∀ i ∈ vs, i ∈ is) :
    Rel W β0 H0 β S H σs' (setV (wipe σ vs) is ws) := by
  have r2 := r.setVals q h
  refine r2.sub (by rw [setV_len, wipe_length, setAll_slen h]; exact r.len) fun i t p e => ⟨e, ?_⟩
  by_cases hi : i ∈ is
  · -- a target's slot: the last store tells it
    have same : ∀ (is : List Nat) (ws : List V) (σ1 σ2 : L2.St), is.length = ws.length → σ1.length = σ2.length → (∀ i : Nat, i ∈ is ∨ σ1[i]? = σ2[i]?) → ∀ i : Nat, (setV σ1 is ws)[i]? = (setV σ2 is ws)[i]? := by
      intro is
      induction is with
      | nil => intro ws σ1 σ2 _ _ h i; unfold setV; exact (h i).resolve_left (by simp)
      | cons j is ih =>
        intro ws σ1 σ2 hl hs h i
        cases ws with
        | nil => simp at hl
        | cons w ws =>
          unfold setV
          refine ih ws _ _ (by simpa using hl) (by simp [hs]) (fun k => ?_) i
          rcases h k with h | h
          · rcases List.mem_cons.mp h with rfl | h
            · refine .inr ?_
              rw [List.getElem?_set, List.getElem?_set, hs]
              simp
            · exact .inl h
          · refine .inr ?_
            rw [List.getElem?_set, List.getElem?_set, hs, h]
    exact same is ws _ _ (by rw [q.length, setAll_len h]) (wipe_length _ _) (fun k => by
      by_cases hk : k ∈ vs
      · exact .inl (hv k hk)
      · refine .inr ?_
        rw [wipe_get]; simp [hk]) i
  · have hvi : i ∉ vs := fun z => hi (hv i z)
    rw [setV_other hi, setV_other hi, wipe_get]
    simp [hvi]

section
variable {X : Cx} {M : Pm} {e elt tg iter c : Expr} {m me mi mc : E} {pos p : Pos}
/-- no exception leaves -/
def Pm.quiet (M : Pm) : Pm := { M with Wx := fun _ _ _ _ => False }
theorem noEx_bind {α γ δ ε : Type} {r : R α} {f : α → G.St → R δ} {β : List Addr} {H : Hp} {σ σ1 : L2.St} {R : List Addr → Hp → δ → ε → Prop} {Q : ε → Hp → Prop} {R1 : List Addr → Hp → α → γ → Prop} {Q1 : γ → Hp → Prop}
    (h : EK M (r.noEx.bind f) β H σ R Q) (g : ∀ p S' v H' β', r = .ok p S' → Stp β β' H H' → BR M.W β' S' H' → R1 β' H' p v → EK M (f p S') β' H' σ R Q → Q1 v H') : EK M.quiet r β H σ1 R1 Q1 := by
  cases r with
  | ok p S' => exact fun v H2 β2 t b q => g p S' v H2 β2 rfl t b q (EK.from h t)
  | ex e S' => exact h.elim
  | no => exact h
/-- the tests of a comprehension: none, or one -/
def tIfs (M : Pm) (ms : List E) : TT := fun σ H Q => ∃ σs S β, Rel M.W M.β0 M.H0 β S H σs σ ∧ EK M (evAnd M.C ms σs S) β H σ (fun _ _ t u => u = t) Q
theorem ifs_nil : PTs X [] (tIfs M []) := ⟨fun pins s σ H Q I ⟨σs, S, β, rel, ek⟩ => pts_nil.run pins s σ H Q I (by
  simp only [evAnd] at ek
  exact EK.done ek rel.br rfl)⟩
theorem ifs_one (h : PT X c (tT M mc)) : PTs X [c] (tIfs M [mc]) := ⟨fun pins s σ H Q I ⟨σs, S, β, rel, ek⟩ => (pts_one h).run pins s σ H Q I ⟨σs, S, β, rel, by
  simp only [evAnd] at ek
  refine ek.bind fun t S1 v H1 β1 _ s1 b1 q1 ek1 => ?_
  subst q1
  cases v with
  | true => exact EK.done ek1 b1 rfl
  | false => exact EK.done ek1 b1 rfl⟩⟩
def turnF (C : Ctx) (σs : Slots) (elt : E) (tg : Tg) (cs : List E) : PV → G.St → R (Option PV) := fun x S => match bindT σs x tg with
  | some σ' => (evAnd C cs σ' S).bind fun b S => if b = true then (evE C elt false σ' S).bind fun v S => .ok (some v) S else .ok none S
  | none => .no
theorem len_compGo {f : PV → G.St → R (Option PV)} : ∀ (xs acc : List PV) (S : G.St), True := fun _ _ _ => trivial
/-- the reading of a comprehension's walk: the new list stands at D -/
theorem comp_walk {gt : Tg} {ms : List E} {vs : List Nat} {J : It} {xs : List PV} {β1 : List Addr} {S1 : G.St} {H1 : Hp} {σs : Slots} {σ : L2.St} {Q : VK} {R : List Addr → Hp → PV → V → Prop}
    (rel : Rel M.W M.β0 M.H0 β1 S1 H1 σs σ) (j : ItOk M.W (fun β'' H'' => Stp β1 β'' H1 H'') J xs) (hv : ∀ i ∈ vs, i ∈ tgs gt) (hv2 : ∀ i ∈ tgs gt, i ∈ vs)
    (ek : EK M (compGo (turnF M.C σs me gt ms) xs [] S1) β1 H1 σ R Q) (hR : ∀ β' H' a acc vs, Stp β1 β' H1 H' → H1 a = none → H' a = some (.lst vs) → RepL M.W β' H' acc vs → a ∉ β' → R β' H' (.lst acc) (.ref a)) :
    ∀ D, H1 D = none → ∃ Wi : Nat → Nat → Hp → Prop, (∃ m, Wi 0 m (upd H1 D (.lst []))) ∧ ∀ i m H, Wi i m H →
  (J.stop i H ∧ Q (.ref D) H) ∨ (J.go i H ∧ ∃ Nx : Hp → Prop, (∀ H', Nx H' → ∃ m', m' < m ∧ Wi (i + 1) m' H') ∧ ∀ x H', J.yld i H x H' → gT M.W.K gt x (wipe σ vs) H' fun σ2 H2 => wipe σ2 vs = wipe σ vs ∧ tIfs M.quiet ms σ2 H2 fun b H3 =>
    if b = true then tE M.quiet .val false me σ2 H3 fun y H4 => ∃ acc, H4 D = some (.lst acc) ∧ acc.length < sizeLine ∧ Nx (upd H4 D (.lst (acc ++ [y]))) else Nx H3) := by
  have hx := j.len
  intro D hD
  let Inv0 : Nat → Hp → Prop := fun i H => ∃ β S acc av, Stp β1 β H1 H ∧ BR M.W β S H ∧ D ∉ β ∧ H D = some (.lst av) ∧ RepL M.W β H acc av ∧ acc.length ≤ i ∧ EK M (compGo (turnF M.C σs me gt ms) (xs.drop i) acc S) β1 H1 σ R Q
  refine ⟨fun i m H => m = xs.length - i ∧ i ≤ xs.length ∧ Inv0 i H, ⟨xs.length, by simp, Nat.zero_le _, β1, S1, [], [], .add hD, rel.br.add hD, rel.br.notin hD, upd_same, by simp only [RepL], Nat.le_refl _, by rw [List.drop_zero]; exact ek⟩, ?_⟩
  rintro i m H ⟨rfl, hi, β, S, acc, av, s, b, nD, hDl, ra, hacc, ek⟩
  by_cases hlt : i < xs.length
  · refine .inr ⟨j.go i β H s hlt, Inv0 (i + 1), fun H' q => ⟨xs.length - (i + 1), by omega, rfl, hlt, q⟩, fun x H' y => ?_⟩
    obtain ⟨p, ep, hH', qp⟩ := j.yld i β H x H' s hlt y
    have sH' : Stp β β H H' := by
      rcases hH' with rfl | ⟨n, w, hn, rfl⟩
      · exact .refl
      · exact .add hn
    have bH' : BR M.W β S H' := by
      rcases hH' with rfl | ⟨n, w, hn, rfl⟩
      · exact b
      · exact b.add hn
    have dr : xs.drop i = p :: xs.drop (i + 1) := by
      rw [List.drop_eq_getElem_cons hlt]
      rw [List.getElem?_eq_getElem hlt] at ep
      rw [Option.some.inj ep]
    rw [dr] at ek
    simp only [compGo] at ek
    cases hb : bindT σs p gt with
    | none =>
      have : turnF M.C σs me gt ms p S = .no := by unfold turnF; rw [hb]
      rw [this] at ek
      exact ek.elim
    | some σs' =>
      obtain ⟨ps, ws, h1, h2, h3⟩ := gT_ok qp hb
      refine h3 _ _ ⟨wipe_setV hv2, ?_⟩
      have relT : Rel M.W M.β0 M.H0 β S H' σs' (setV (wipe σ vs) (tgs gt) ws) := ((rel.step s b).step sH' bH').turn h2 h1 hv
      have ef : turnF M.C σs me gt ms p S = (evAnd M.C ms σs' S).bind fun b S => if b = true then (evE M.C me false σs' S).bind fun v S => .ok (some v) S else .ok none S := by unfold turnF; rw [hb]
      rw [ef] at ek
      refine ⟨σs', S, β, relT, ?_⟩
      cases h4 : evAnd M.C ms σs' S with
      | no => rw [h4] at ek; exact ek.elim
      | ex e' S' => rw [h4] at ek; exact ek.elim
      | ok t S2 =>
        rw [h4] at ek
        simp only [G.R.bind] at ek
        show EK M.quiet (evAnd M.C ms σs' S) _ _ _ _ _
        rw [h4]
        refine fun t' H2 β2 s2 b2 q2 => ?_
        subst q2
        cases t' with
        | false =>
          simp only [Bool.false_eq_true, if_false, G.R.noEx, G.R.bind] at ek ⊢
          have sA := sH'.trans s2
          have nD2 : D ∉ β2 := sA.mem hDl nD
          exact ⟨β2, S2, acc, av, s.trans sA, b2, nD2, sA.keep D _ hDl nD, RepL.up sA.up _ ra, by omega, ek⟩
        | true =>
          simp only [if_true] at ek ⊢
          refine ⟨σs', S2, β2, relT.step s2 b2, ?_⟩
          cases h5 : evE M.C me false σs' S2 with
          | no => rw [h5] at ek; exact ek.elim
          | ex e' S' => rw [h5] at ek; exact ek.elim
          | ok v S3 =>
            rw [h5] at ek
            simp only [G.R.bind, G.R.noEx] at ek
            show EK M.quiet (evE M.C me false σs' S2) _ _ _ _ _
            rw [h5]
            refine fun y H3 β3 s3 b3 q3 => ?_
            have sA := (sH'.trans s2).trans s3
            have nD3 : D ∉ β3 := sA.mem hDl nD
            have hD3 := sA.keep D _ hDl nD
            have q3 : Rep M.W β3 H3 v y := q3
            have u : Up β3 β3 H3 (upd H3 D (.lst (av ++ [y]))) := Up.frz1 hD3 trivial
            refine ⟨av, hD3, ?_, β3, S3, acc ++ [v], av ++ [y], (s.trans sA).chg hD hD3 trivial, ?_, nD3, upd_same, RepL.up u _ ((RepL.up sA.up _ ra).append (RepL.one q3)), ?_, ?_⟩
            · have := ra.length
              rw [this]
              have hl : line = sizeLine := by rw [sizeLine_eq]; rfl
              omega
            · exact b3.up u fun c hc => upd_ne fun z => nD3 (z ▸ hc)
            · rw [List.length_append]; simp; omega
            · exact ek
  · have e : i = xs.length := by omega
    subst e
    refine .inl ⟨j.stop _ β H s (Nat.le_refl _), ?_⟩
    rw [List.drop_length] at ek
    simp only [compGo] at ek
    exact ek _ H β s b (hR β H D acc av s hD hDl ra nD)

theorem s_comp {gt : Tg} {ms : List E} {ifs : List Expr} {scope : Scope} {own : List (Str × Nat)} (hK : M.W.K = X.K) (hc : X.calm = true) (hN : X.N.Nodup) (hi : PI X tg iter (tIc M mi)) (ok : BlkOk X.N X.env.scope scope own) (hv : ∀ i ∈ own.map (·.2), i ∈ tgs gt) (hv2 : ∀ i ∈ tgs gt, i ∈ own.map (·.2))
    (hg : ∀ (s : Shared) (H : Hp) (C : Addr) (cl : List (Str × Addr)) (fp : List Addr), PG (X.blk s H scope (compEnvC scope cl C X.env) fp) tg (gT X.K gt))
    (ht : ∀ (s : Shared) (H : Hp) (C : Addr) (cl : List (Str × Addr)) (fp : List Addr), PTs (X.blk s H scope (compEnvC scope cl C X.env) fp) ifs (tIfs M.quiet ms))
    (he : ∀ (s : Shared) (H : Hp) (C : Addr) (cl : List (Str × Addr)) (fp : List Addr), PE (X.blk s H scope (compEnvC scope cl C X.env) fp) elt (tE M.quiet .val false me)) (hs : ∀ x, foldedSetIterable iter X.env x = pure x) (br : Bool) :
    PE X (.ListComp elt [⟨tg, iter, ifs, 0⟩] scope pos) (tE M (kn br (.comp me gt mi ms)) br (.comp me gt mi ms)) := by
  refine impE (pe_lc hc hN hi ok hg ht he hs) fun σ H Q ⟨σs, S, β, rel, ek⟩ => ⟨σs, S, β, rel, ?_⟩
  simp only [evE] at ek
  refine ek.bind fun xs S1 J H1 β1 _ s1 b1 j ek1 => ?_
  have z := comp_walk (me := me) (Q := Q) (rel.step s1 b1) j hv hv2 (R := fun β' H' p v => Res M.W (kn br (.comp me gt mi ms)) β H β' H' p v) ek1 (fun β' H' a acc vs s h1 h2 r n => .inr ⟨a, rfl, ⟨vs, h2, r⟩, n, s1.back b1 h1⟩)
  rw [hK] at z
  exact z
end
end G
end

section
/-! Sd11: calls; statements. -/
namespace G
open PySem PySem.Spec PyProof.Rows L2
/-- what a def promises: what the interpreter says of its call -/
def spF (W : Wd) (call : List PV → G.St → R PV) (np : Nat) : Sp := fun vs H Q E => vs.length = np ∧ ∃ ps S β, BR W β S H ∧ Paired (fun v p => RdP W β H p v) vs ps ∧
  match call ps S with
  | .ok p S' => ∀ v H' β', Stp β β' H H' → BR W β' S' H' → Rep W β' H' p v → Q v H'
  | .ex e S' => ∀ cls d H' β', Stp β β' H H' → BR W β' S' H' → ExR W β' H' e cls d → E cls d H'
  | .no => False
/-- a def that may be called by the name x -/
structure FnX (X : Cx) (M : Pm) (x : Str) (f np : Nat) : Prop where
  gl : Gl X x
  mg : X.mg x = some (.ref (M.W.fa f))
  kp : PySem.W.keepIn X.K (.ref (M.W.fa f)) = true
  ok : ∃ k fd ps, FnOk X.prog X.w X.K X.mg X.base (L2.CX X.prog X.w) k (M.W.fa f) fd ps (spF M.W (M.C.call f) np) ∧ Room k X.A ∧ Binds X.K fd ps []
section
variable {X : Cx} {M : Pm} {e a b c : Expr} {m ma mb mc : E} {pos p : Pos}
theorem paired_len {α γ : Type} {R : α → γ → Prop} : ∀ {vs : List α} {ps : List γ}, Paired R vs ps → vs.length = ps.length
  | _, _, .nil => rfl
  | _, _, .cons _ t => by simp [paired_len t]
theorem s_call {x : Str} {f np : Nat} {es : List Expr} {ms : List E} (F : FnX X M x f np) (tk : Takes X M.Wx) (h : SEs X M (e :: es) ms) (hn : ms.length = np) (hdb : (x == ("__debug__" : Str)) = false) (he : starEach (e :: es) X.env = (false, eval e X.env) :: starEach es X.env) (hpl : (backTo pos (starEach es X.env)).any (·.1) = false) (br : Bool) :
    PE X (.Call (.Name x p) (e :: es) [] pos) (tE M (kn br (.call f ms)) br (.call f ms)) := by
  obtain ⟨k, fd, ps, hF, hr, hb⟩ := F.ok
  refine impE (pe_callSD (dvs := []) (ds := []) (E := WE M.Wx) hF hr F.gl F.mg F.kp hb .nil (fun σ => passAt tk σ) h.r hdb he hpl) fun σ H Q ⟨σs, S, β, rel, ek⟩ => ⟨σs, S, β, rel, ?_⟩
  simp only [evE] at ek
  refine ek.bind fun qs S1 vs H1 β1 hv s1 b1 q1 ek1 => ?_
  refine ⟨by rw [List.append_nil, paired_len q1, len_evEs _ _ _ _ hv, hn], qs, S1, β1, b1, by rw [List.append_nil]; exact q1, ?_⟩
  revert ek1
  cases M.C.call f qs S1 with
  | ok p S' => exact fun ek1 v H' β' s b r => ek1 v H' β' s b (res_rep (kn_ne rfl) r)
  | ex e S' => exact fun ek1 cls d H' β' s b r => ek1 cls d H' β' s b r
  | no => exact fun ek1 => ek1

/-! ### statements -/
/-- what follows a statement -/
def SK (M : Pm) (r : SR) (β : List Addr) (H : Hp) (D : Ends) : Prop := match r with
  | .nx σs' S' => ∀ σ' H' β', Up β β' H H' → Rel M.W M.β0 M.H0 β' S' H' σs' σ' → D.nx σ' H'
  | .rt p S' => ∀ v H' β', Up β β' H H' → Stp M.β0 β' M.H0 H' → BR M.W β' S' H' → Rep M.W β' H' p v → D.rt v H'
  | .bk σs' S' => ∀ σ' H' β', Up β β' H H' → Rel M.W M.β0 M.H0 β' S' H' σs' σ' → D.bk σ' H'
  | .ex e σs' S' => ∀ cls d σ' H' β', Up β β' H H' → Rel M.W M.β0 M.H0 β' S' H' σs' σ' → ExR M.W β' H' e cls d → M.Wx cls d σ' H'
  | .no => False
def tS (M : Pm) (m : Sm) : TS := fun D σ H => ∃ σs S β, Rel M.W M.β0 M.H0 β S H σs σ ∧ SK M (exS M.C m σs S) β H D
def tSs (M : Pm) (ms : List Sm) : TS := fun D σ H => ∃ σs S β, Rel M.W M.β0 M.H0 β S H σs σ ∧ SK M (exSs M.C ms σs S) β H D
theorem SK.from {r : SR} {β β' : List Addr} {H H' : Hp} {D : Ends} (h : SK M r β H D) (u : Up β β' H H') : SK M r β' H' D := by
  cases r with
  | nx σs' S' => exact fun σ' H2 β2 u2 r => h σ' H2 β2 (u.trans u2) r
  | rt p S' => exact fun v H2 β2 u2 s b r => h v H2 β2 (u.trans u2) s b r
  | bk σs' S' => exact fun σ' H2 β2 u2 r => h σ' H2 β2 (u.trans u2) r
  | ex e σs' S' => exact fun cls d σ' H2 β2 u2 r x => h cls d σ' H2 β2 (u.trans u2) r x
  | no => exact h
/-- an expression's value, then the rest of a statement -/
theorem SK.lift {α γ : Type} {r : R α} {σs : Slots} {f : α → G.St → SR} {β : List Addr} {H : Hp} {σ : L2.St} {S : G.St} {D : Ends} {R1 : List Addr → Hp → α → γ → Prop} {Q1 : γ → Hp → Prop} (rel : Rel M.W M.β0 M.H0 β S H σs σ) (h : SK M (liftS σs r f) β H D)
    (g : ∀ p S' v H' β', r = .ok p S' → Stp β β' H H' → Rel M.W M.β0 M.H0 β' S' H' σs σ → R1 β' H' p v → SK M (f p S') β' H' D → Q1 v H') : EK M r β H σ R1 Q1 := by
  cases r with
  | ok p S' => exact fun v H2 β2 t b q => g p S' v H2 β2 rfl t (rel.step t b) q (SK.from h t.up)
  | ex e S' => exact fun cls d H2 β2 t b x => h cls d σ H2 β2 t.up (rel.step t b) x
  | no => exact h
theorem sk_nx {σs : Slots} {S : G.St} {β : List Addr} {H : Hp} {σ : L2.St} {D : Ends} (h : SK M (.nx σs S) β H D) (rel : Rel M.W M.β0 M.H0 β S H σs σ) : D.nx σ H := h σ H β .refl rel
theorem ss_nil : PSs X [] (tSs M []) := by
  refine impSs pss_nil fun D σ H ⟨σs, S, β, rel, sk⟩ => ?_
  simp only [exSs] at sk
  exact sk_nx sk rel
theorem sk_then {st : Stmt} {rest : List Stmt} {m : Sm} {ms : List Sm} {D : Ends} {σs : Slots} {S : G.St} {β : List Addr} {H : Hp} {σ : L2.St} (sk : SK M ((exS M.C m σs S).andThen fun σ S => exSs M.C ms σ S) β H D) : SK M (exS M.C m σs S) β H { D with nx := tSs M ms D } := by
  revert sk
  cases exS M.C m σs S with
  | nx σs' S' => exact fun sk σ' H' β' u r => ⟨σs', S', β', r, SK.from sk u⟩
  | rt p S' => exact fun sk => sk
  | bk σs' S' => exact fun sk => sk
  | ex e σs' S' => exact fun sk => sk
  | no => exact fun sk => sk
theorem ss_cons {st : Stmt} {rest : List Stmt} {m : Sm} {ms : List Sm} (h1 : PS X st (tS M m)) (h2 : PSs X rest (tSs M ms)) : PSs X (st :: rest) (tSs M (m :: ms)) := by
  refine impSs (pss_cons h1 h2) fun D σ H ⟨σs, S, β, rel, sk⟩ => ⟨σs, S, β, rel, ?_⟩
  simp only [exSs] at sk
  exact sk_then (st := st) (rest := rest) (σ := σ) sk
theorem st_pass : PS X (.Pass pos) (tS M .pass_) := by
  refine impS ps_pass fun D σ H ⟨σs, S, β, rel, sk⟩ => ?_
  simp only [exS] at sk
  exact sk_nx sk rel
theorem st_brk : PS X (.Break pos) (tS M .brk) := by
  refine impS ps_break fun D σ H ⟨σs, S, β, rel, sk⟩ => ?_
  simp only [exS] at sk
  exact sk σ H β .refl rel
theorem st_expr (h : SE X M e m) (hs : swapsWith e none pos.line X.env = pure false) : PS X (.Expr e pos) (tS M (.expr m)) := by
  refine impS (ps_expr h.v hs) fun D σ H ⟨σs, S, β, rel, sk⟩ => ⟨σs, S, β, rel, ?_⟩
  simp only [exS] at sk
  exact SK.lift rel sk fun p S1 v H1 β1 _ s1 r1 q1 sk1 => sk_nx sk1 r1
theorem st_iff {a b : List Stmt} {ma mb : List Sm} (hc : PT X c (tT M mc)) (ha : PSs X a (tSs M ma)) (hb : PSs X b (tSs M mb)) : PS X (.If c a b pos) (tS M (.iff mc ma mb)) := by
  refine impS (ps_if hc ha hb) fun D σ H ⟨σs, S, β, rel, sk⟩ => ⟨σs, S, β, rel, ?_⟩
  simp only [exS] at sk
  refine SK.lift rel sk fun t S1 v H1 β1 _ s1 r1 q1 sk1 => ?_
  subst q1
  cases v with
  | true => exact ⟨σs, S1, β1, r1, sk1⟩
  | false => exact ⟨σs, S1, β1, r1, sk1⟩
theorem st_never {st : Stmt} : PS X st (tS M .never) := ⟨fun pins s σ H D I ⟨σs, S, β, rel, sk⟩ => by
  simp only [exS] at sk
  exact sk.elim⟩
theorem st_retN : PS X (.Return none pos) (tS M .retN) := by
  refine impS ps_retN fun D σ H ⟨σs, S, β, rel, sk⟩ => ?_
  simp only [exS] at sk
  exact sk .non H β .refl rel.stp rel.br (by simp only [Rep])
end
end G
end

section
/-! Sd12: assignments, loops. -/
namespace G
open PySem PySem.Spec PyProof.Rows L2
/-- a value to be stored -/
def OwnV (W : Wd) (β : List Addr) (H H0 : Hp) (σs : Slots) (σ : L2.St) (t : Tag) (p : PV) (v : V) : Prop := match t with
  | .val => Rep W β H p v
  | .own => (cont p = false ∧ Rep W β H p v) ∨ ∃ a, v = .ref a ∧ Raw W β H a p ∧ a ∉ β ∧ H0 a = none ∧ ∀ k q, getS σs k = some (.own, q) → cont q = true → σ[k]? ≠ some (some (.ref a))
  | .bor => False
section
variable {W : Wd} {β0 β : List Addr} {H0 H : Hp} {S : G.St} {σs : Slots} {σ : L2.St}
theorem Rel.setOwn (r : Rel W β0 H0 β S H σs σ) (j : Nat) {t : Tag} {p : PV} {v : V} (q : OwnV W β H H0 σs σ t p v) : Rel W β0 H0 β S H (setS σs j t p) (σ.set j (some v)) := by
  cases t with
  | val => exact r.setVal j q
  | bor => exact q.elim
  | own =>
    have vg : ∀ i, i ≠ j → (σ.set j (some v))[i]? = σ[i]? := fun i h => List.getElem?_set_ne (Ne.symm h)
    refine ⟨by unfold setS; rw [List.length_set, List.length_set]; exact r.len, fun i p' h => ?_, fun i p' h => ?_, fun i p' h => ?_, fun i k p1 p2 a hik h1 h2 c1 c2 v1 v2 => ?_, r.br, r.stp⟩
    · rw [getS_setS] at h
      by_cases hi : i = j
      · rw [if_pos hi] at h; split at h <;> cases h
      · rw [if_neg hi] at h; rw [vg i hi]; exact r.val i p' h
    · rw [getS_setS] at h
      by_cases hi : i = j
      · rw [if_pos hi] at h; split at h <;> cases h
      · rw [if_neg hi] at h; rw [vg i hi]; exact r.bor i p' h
    · rw [getS_setS] at h
      by_cases hi : i = j
      · subst hi
        rw [if_pos rfl] at h
        split at h
        · rename_i hl
          cases h
          refine ⟨v, by rw [List.getElem?_set_self (by rw [← r.len]; exact hl)], ?_⟩
          rcases q with q | ⟨a, e, q1, q2, q3, _⟩
          · exact .inl q
          · exact .inr ⟨a, e, q1, q2, q3⟩
        · cases h
      · rw [if_neg hi] at h; rw [vg i hi]; exact r.own i p' h
    · rw [getS_setS] at h1 h2
      have hit : ∀ k p2, k ≠ j → getS σs k = some (.own, p2) → cont p2 = true → cont p = true → v = .ref a → σ[k]? = some (some (.ref a)) → False := fun k p2 hk e c2 c1 ev e2 => by
        rcases q with ⟨q, _⟩ | ⟨a', e, q1, q2, q3, q4⟩
        · rw [q] at c1; cases c1
        · rw [ev] at e; cases e
          exact q4 k p2 ‹_› c2 e2
      by_cases hi : i = j
      · subst hi
        rw [if_pos rfl] at h1
        split at h1
        · rename_i hl
          cases h1
          have hk : k ≠ i := fun z => hik z.symm
          rw [if_neg hk] at h2
          rw [List.getElem?_set_self (by rw [← r.len]; exact hl)] at v1
          rw [vg k hk] at v2
          exact hit k p2 hk h2 c2 c1 (by simpa using v1) v2
        · cases h1
      · rw [if_neg hi] at h1
        by_cases hk : k = j
        · subst hk
          rw [if_pos rfl] at h2
          split at h2
          · rename_i hl
            cases h2
            rw [List.getElem?_set_self (by rw [← r.len]; exact hl)] at v2
            rw [vg i hi] at v1
            exact hit i p1 hi h1 c1 c2 (by simpa using v2) v1
          · cases h2
        · rw [if_neg hk] at h2
          rw [vg i hi] at v1
          rw [vg k hk] at v2
          exact r.sep i k p1 p2 a hik h1 h2 c1 c2 v1 v2
theorem getS_none {j i : Nat} : getS (σs.set j none) i = if i = j then none else getS σs i := by
  unfold getS
  rw [List.getElem?_set]
  by_cases h : j = i
  · subst h
    by_cases h2 : j < σs.length
    · simp [h2]
    · simp [h2]
  · have h' : ¬ i = j := fun z => h z.symm
    simp [h, h']
theorem Rel.drop1 (r : Rel W β0 H0 β S H σs σ) (j : Nat) : Rel W β0 H0 β S H (σs.set j none) σ := by
  refine r.sub (by rw [List.length_set]; exact r.len) fun i t p h => ?_
  rw [getS_none] at h
  split at h
  · cases h
  · exact ⟨h, rfl⟩
end
section
variable {X : Cx} {M : Pm} {e a b c : Expr} {m ma mb mc : E} {pos p : Pos}
/-- a value to be stored, taken -/
def EKR {α γ : Type} (M : Pm) (r : R (Slots × α)) (β : List Addr) (H : Hp) (σ : L2.St) (R : List Addr → Hp → Slots → α → γ → Prop) (Q : γ → Hp → Prop) : Prop := match r with
  | .ok q S' => ∀ v H' β', Stp β β' H H' → Rel M.W M.β0 M.H0 β' S' H' q.1 σ → R β' H' q.1 q.2 v → Q v H'
  | .ex e S' => ∀ cls d H' β', Stp β β' H H' → BR M.W β' S' H' → ExR M.W β' H' e cls d → M.Wx cls d σ H'
  | .no => False
/-- where a value to be stored comes from -/
def Prov (H : Hp) (σs : Slots) (σ : L2.St) (t : Tag) (p : PV) (v : V) : Prop := t = .own → cont p = true → ∀ a, v = .ref a → H a = none ∨ ∃ k q, getS σs k = some (.own, q) ∧ cont q = true ∧ σ[k]? = some (some (.ref a))
def tRhs (M : Pm) (m : E) : TE := fun σ H Q => ∃ σs S β, Rel M.W M.β0 M.H0 β S H σs σ ∧ EKR M (rhs M.C m σs S) β H σ (fun β' H' σs' q v => OwnV M.W β' H' M.H0 σs' σ q.1 q.2 v ∧ Prov H σs σ q.1 q.2 v) Q
theorem rhs_nonvar {C : Ctx} {m : E} (h : isVar m = false) (σs : Slots) (S : G.St) : rhs C m σs S = (evE C m false σs S).bind fun v S => .ok (σs, (if frE m then .own else .val), v) S := by
  cases m <;> first | rfl | (simp [isVar] at h)
theorem r_any (h : SE X M e m) (hm : isVar m = false) : PE X e (tRhs M m) := by
  refine impE h.o fun σ H Q ⟨σs, S, β, rel, ek⟩ => ⟨σs, S, β, rel, ?_⟩
  rw [rhs_nonvar hm] at ek
  revert ek
  cases evE M.C m false σs S with
  | no => exact fun ek => ek
  | ex e S' => exact fun ek => ek
  | ok p S' =>
    refine fun ek v H' β' s b q => ek v H' β' s (rel.step s b) ?_
    by_cases f : frE m = true
    · simp only [f, if_true]
      have q : Res M.W .own β H β' H' p v := by simpa [kn, f] using q
      rcases q with ⟨q1, q2⟩ | ⟨a, e, q1, q2, q3⟩
      · exact ⟨.inl ⟨q2, q1⟩, fun _ hc => by rw [q2] at hc; cases hc⟩
      · refine ⟨.inr ⟨a, e, q1, q2, rel.stp.back rel.br q3, fun k q hk hc z => ?_⟩, fun _ _ b eb => .inl (by rw [e] at eb; cases eb; exact q3)⟩
        obtain ⟨w, e1, ⟨c0, _⟩ | ⟨a', e2, r', _⟩⟩ := rel.own k q hk
        · rw [c0] at hc; cases hc
        · rw [z] at e1; cases e1; cases e2
          obtain ⟨u, hu, _⟩ := r'.tracked
          rw [q3] at hu; cases hu
    · simp only [f, Bool.false_eq_true, if_false]
      have q : Res M.W .val β H β' H' p v := by simpa [kn, f] using q
      exact ⟨q, fun z => nomatch z⟩
theorem r_var {i : Nat} {x : Str} (hN : X.N[i]? = some x) (hv : Vis X.env.scope x) (hd : (x == ("__debug__" : Str)) = false) (hcd : (x == ("__classdict__" : Str)) = false) : PE X (.Name x pos) (tRhs M (.var i)) := by
  refine impE (pe_var hN hv hd hcd) fun σ H Q ⟨σs, S, β, rel, ek⟩ => ?_
  simp only [rhs] at ek
  cases h : getS σs i with
  | none => rw [h] at ek; exact ek.elim
  | some q =>
    obtain ⟨t, w⟩ := q
    rw [h] at ek
    simp only at ek
    split at ek
    · rename_i c
      obtain ⟨ht, hc⟩ := c
      subst ht
      obtain ⟨v, e, ⟨c0, _⟩ | ⟨a, rfl, q, n, z⟩⟩ := rel.own i w h
      · rw [c0] at hc; cases hc
      · refine ⟨_, e, ek _ H β .refl (rel.drop1 i) ⟨.inr ⟨a, rfl, q, n, z, fun k q' hk hc' z' => ?_⟩, fun _ _ b eb => .inr ⟨i, w, h, hc, by rw [e, eb]⟩⟩⟩
        rw [getS_none] at hk
        split at hk
        · cases hk
        · rename_i hki
          exact rel.sep k i q' w a hki hk h hc' hc z' e
    · rename_i c
      cases hr : readV false σs i with
      | none => rw [hr] at ek; exact ek.elim
      | some p =>
        rw [hr] at ek
        obtain ⟨v, e, q⟩ := rel.readV hr
        exact ⟨v, e, ek v H β .refl rel ⟨q, fun z => nomatch z⟩⟩
theorem st_asg {i : Nat} {x : Str} {pos' : Pos} (hN : X.N.Nodup) (hi : X.N[i]? = some x) (hx : Loc X.env.scope x) (h : PE X e (tRhs M m)) (hs : swapsWith e (some (.Name x pos')) pos.line X.env = pure false) (hf : X.fn x = true ∨ X.env.scope.names.lookup x = some .local) :
    PS X (.Assign [.Name x pos'] e pos) (tS M (.asg i m)) := by
  refine impS (ps_set hN hi hx h hs hf) fun D σ H ⟨σs, S, β, rel, sk⟩ => ⟨σs, S, β, rel, ?_⟩
  simp only [exS] at sk
  revert sk
  cases rhs M.C m σs S with
  | no => exact fun sk => sk
  | ex e S' => exact fun sk cls d H' β' s b x => sk cls d σ H' β' s.up (rel.step s b) x
  | ok q S' =>
    obtain ⟨σs', t, p⟩ := q
    exact fun sk v H' β' s r q => sk _ H' β' s.up (r.setOwn i q.1)
theorem st_ret (h : PE X e (tRhs M m)) : PS X (.Return (some e) pos) (tS M (.ret m)) := by
  have h2 : PE X e (fun σ H Q => ∃ σs S β, Rel M.W M.β0 M.H0 β S H σs σ ∧ match rhs M.C m σs S with
      | .ok q S' => ∀ v H' β', Up β β' H H' → Stp M.β0 β' M.H0 H' → BR M.W β' S' H' → Rep M.W β' H' q.2.2 v → Q v H'
      | .ex e S' => ∀ cls d H' β', Stp β β' H H' → BR M.W β' S' H' → ExR M.W β' H' e cls d → M.Wx cls d σ H'
      | .no => False) := by
    refine ghostE h fun σ H Q ⟨σs, S, β, rel, ek⟩ => ⟨σs, S, β, rel, ?_⟩
    revert ek
    cases rhs M.C m σs S with
    | no => exact fun ek => ek
    | ex e S' => exact fun ek => ek
    | ok q S' =>
      obtain ⟨σs', t, p⟩ := q
      refine fun ek v H' β' s r q pins σ' sh I => ?_
      have q := q.1
      cases t with
      | val => exact ⟨H', I, ek v H' β' s.up r.stp r.br q⟩
      | bor => exact q.elim
      | own =>
        rcases q with ⟨_, q⟩ | ⟨a, rfl, q, n, z, _⟩
        · exact ⟨H', I, ek v H' β' s.up r.stp r.br q⟩
        · obtain ⟨w, J, r2, u⟩ := q.freeze I
          obtain ⟨o, ho, mu⟩ := q.tracked
          refine ⟨_, J, ek (.ref a) _ β' (s.up.trans u) (r.stp.chg z ho mu) (r.br.up u fun c hc => upd_ne fun z => n (z ▸ hc)) r2⟩
  refine impS (ps_ret h2) fun D σ H ⟨σs, S, β, rel, sk⟩ => ⟨σs, S, β, rel, ?_⟩
  simp only [exS] at sk
  revert sk
  cases rhs M.C m σs S with
  | no => exact fun sk => sk
  | ex e S' => exact fun sk cls d H' β' s b x => sk cls d σ H' β' s.up (rel.step s b) x
  | ok q S' => exact fun sk v H' β' u s b r => sk v H' β' u s b r

/-! ### loops -/
theorem st_whl {body : List Stmt} {ms : List Sm} (hp : PassesOwn (model X.prog X.w) X.A X.env X.xe) (hc : PT X c (tT M mc)) (hb : PSs X body (tSs M ms)) : PS X (.While c body [] pos) (tS M (.whl mc ms)) := by
  refine impS (ps_while hp hc hb) fun D σ H ⟨σs, S, β, rel, sk⟩ => ?_
  simp only [exS] at sk
  refine ⟨fun n σ H => ∃ σs S β, Rel M.W M.β0 M.H0 β S H σs σ ∧ SK M (whileGo (fun σ S => (evE M.C mc true σ S).bind asB) (fun σ S => exSs M.C ms σ S) n σs S) β H D, ⟨WF, σs, S, β, rel, sk⟩, ?_⟩
  rintro n σ H ⟨σs, S, β, rel, sk⟩
  cases n with
  | zero => exact sk.elim
  | succ n =>
    simp only [whileGo] at sk
    refine ⟨σs, S, β, rel, SK.lift rel sk fun t S1 v H1 β1 _ s1 r1 q1 sk1 => ?_⟩
    subst q1
    cases v with
    | false => exact sk_nx sk1 r1
    | true =>
      simp only [if_true] at sk1 ⊢
      refine ⟨fun σ H => ∃ σs S β, Rel M.W M.β0 M.H0 β S H σs σ ∧ SK M (whileGo (fun σ S => (evE M.C mc true σ S).bind asB) (fun σ S => exSs M.C ms σ S) n σs S) β H D, fun σ' H' h => ⟨n, Nat.lt_succ_self n, h⟩, σs, S1, β1, r1, ?_⟩
      revert sk1
      cases exSs M.C ms σs S1 with
      | nx σs' S' => exact fun sk1 σ' H' β' u r => ⟨σs', S', β', r, SK.from sk1 u⟩
      | bk σs' S' => exact fun sk1 σ' H' β' u r => sk1 σ' H' β' u r
      | rt p S' => exact fun sk1 => sk1
      | ex e σs' S' => exact fun sk1 => sk1
      | no => exact fun sk1 => sk1
theorem st_for {tg iter : Expr} {gt : Tg} {body : List Stmt} {ms : List Sm} (hK : M.W.K = X.K) (hp : PassesOwn (model X.prog X.w) X.A X.env X.xe) (hc : X.calm = true) (hi : PI X tg iter (tIt M m)) (hg : PG X tg (gT X.K gt)) (hb : PSs X body (tSs M ms)) (hs : ∀ x, foldedSetIterable iter X.env x = pure x) :
    PS X (.For tg iter body [] pos) (tS M (.for_ gt m ms)) := by
  refine impS (ps_for hp hc hi hg hb hs) fun D σ H ⟨σs, S, β, rel, sk⟩ => ⟨σs, S, β, rel, ?_⟩
  simp only [exS] at sk
  revert sk
  cases (evE M.C m true σs S).bind fun x S => op1 (items x) S with
  | no => exact fun sk => sk
  | ex e S' => exact fun sk cls d H' β' s b x => sk cls d σ H' β' s.up (rel.step s b) x
  | ok xs S' =>
    intro sk J H1 β1 u1 r1 j
    simp only [liftS] at sk
    have sk := SK.from sk u1
    let f : PV → Slots → G.St → SR := fun x σ S => match bindT σ x gt with | some σ' => exSs M.C ms σ' S | none => .no
    have sk : SK M (forGo f xs (held m σs) S') β1 H1 D := sk
    refine ⟨fun i n σ H => n = xs.length - i ∧ i ≤ xs.length ∧ ∃ σs S β, Rel M.W M.β0 M.H0 β S H σs σ ∧ Up β1 β H1 H ∧ SK M (forGo f (xs.drop i) σs S) β H D, ⟨xs.length, by simp, Nat.zero_le _, _, S', β1, r1, .refl, by rw [List.drop_zero]; exact sk⟩, ?_⟩
    rintro i n σ H ⟨rfl, hi, σs, S, β, rel, up, sk⟩
    by_cases hlt : i < xs.length
    · refine .inr ⟨j.go i β H ⟨up, rel.stp⟩ hlt, fun σ H => i + 1 ≤ xs.length ∧ ∃ σs S β, Rel M.W M.β0 M.H0 β S H σs σ ∧ Up β1 β H1 H ∧ SK M (forGo f (xs.drop (i + 1)) σs S) β H D, fun σ' H' h => ⟨xs.length - (i + 1), by omega, rfl, h⟩, fun x H' y => ?_⟩
      obtain ⟨p, ep, hH', qp⟩ := j.yld i β H x H' ⟨up, rel.stp⟩ hlt y
      have sH' : Stp β β H H' := by
        rcases hH' with rfl | ⟨n, w, hn, rfl⟩
        · exact .refl
        · exact .add hn
      have bH' : BR M.W β S H' := by
        rcases hH' with rfl | ⟨n, w, hn, rfl⟩
        · exact rel.br
        · exact rel.br.add hn
      have dr : xs.drop i = p :: xs.drop (i + 1) := by
        rw [List.drop_eq_getElem_cons hlt]
        rw [List.getElem?_eq_getElem hlt] at ep
        rw [Option.some.inj ep]
      rw [dr] at sk
      simp only [forGo] at sk
      cases hb : bindT σs p gt with
      | none =>
        have : f p σs S = .no := by simp only [f, hb]
        rw [this] at sk
        exact sk.elim
      | some σs' =>
        have ef : f p σs S = exSs M.C ms σs' S := by simp only [f, hb]
        rw [ef] at sk
        obtain ⟨ps, ws, h1, h2, h3⟩ := gT_ok qp hb
        rw [← hK]
        refine h3 _ _ ⟨σs', S, β, (rel.step sH' bH').setVals h2 h1, ?_⟩
        revert sk
        cases exSs M.C ms σs' S with
        | nx σs2 S2 => exact fun sk σ' H2 β2 u r => ⟨hlt, σs2, S2, β2, r, (up.trans sH'.up).trans u, SK.from sk (sH'.up.trans u)⟩
        | bk σs2 S2 => exact fun sk σ' H2 β2 u r => sk σ' H2 β2 (sH'.up.trans u) r
        | rt p S2 => exact fun sk v H2 β2 u s b r => sk v H2 β2 (sH'.up.trans u) s b r
        | ex e σs2 S2 => exact fun sk cls d σ' H2 β2 u r x => sk cls d σ' H2 β2 (sH'.up.trans u) r x
        | no => exact fun sk => sk
    · have e : i = xs.length := by omega
      subst e
      refine .inl ⟨j.stop _ β H ⟨up, rel.stp⟩ (Nat.le_refl _), ?_⟩
      rw [List.drop_length] at sk
      simp only [forGo] at sk
      exact sk_nx sk rel
end
end G
end

section
/-! Sd13: isinstance; tuple(x), list(x). -/
namespace G
open PySem PySem.Spec PyProof.Rows L2
def vT : PV → String
  | .non => "NoneType"
  | .bl _ => "bool"
  | .int _ => "int"
  | .str _ => "str"
  | .tup _ => "tuple"
  | .lst _ => "list"
  | .dct _ _ => "dict"
  | _ => "object"
def tyNm : Ty → String
  | .int => "int"
  | .bool => "bool"
  | .tuple => "tuple"
  | .list => "list"
  | .str => "str"
  | .exc _ => "object"
def plainTy : Ty → Bool
  | .exc _ => false
  | _ => true
theorem kit_all : ∀ (p : PV) (t : Ty), isOk p = true → (∀ c fs, p ≠ .exc c fs) → plainTy t = true → kitB (vT p) (tyNm t) = some (isinV p t) := by
  intro p t h1 h2 h3
  cases t <;> first | (cases h3; done) | skip
  all_goals (cases p <;> first | (cases h1; done) | (exact absurd rfl (h2 _ _)) | (simp only [vT, tyNm, isinV]; decide +kernel))
section
variable {X : Cx} {pins : List (Addr × Obj)} {σ : L2.St} {H : Hp} {s : Shared} {W : Wd} {β : List Addr}
theorem kitP {p : PV} {v : V} {u : Value} (I : Inv X pins σ H s) (hK : W.K = X.K) (r : RdB W β H p v) (rx : RelV v u) (h : isOk p = true) : (∀ c fs, p ≠ .exc c fs) ∧ ∃ P : Heap → Prop, PySem.W.KitX X.K u (.type (vT p)) P ∧ P s.heap ∧ u ≠ .builtin "__main__.__loader__#opaque" := by
  cases p with
  | non => rw [r.non] at rx; cases (show u = Value.none from rx); exact ⟨(fun _ _ z => nomatch z), _, PySem.W.kitx_none, True.intro, fun z => nomatch z⟩
  | bl b => rw [r.bl] at rx; cases (show u = Value.bool b from rx); exact ⟨(fun _ _ z => nomatch z), _, PySem.W.kitx_bool, True.intro, fun z => nomatch z⟩
  | int b => rw [r.int] at rx; obtain ⟨t, q⟩ := (show ∃ t, u = Value.int b t from rx); cases q; exact ⟨(fun _ _ z => nomatch z), _, PySem.W.kitx_int, True.intro, fun z => nomatch z⟩
  | str b => rw [r.str] at rx; obtain ⟨t, q⟩ := (show ∃ t, u = Value.str b t from rx); cases q; exact ⟨(fun _ _ z => nomatch z), _, PySem.W.kitx_str, True.intro, fun z => nomatch z⟩
  | tup xs =>
    obtain ⟨a, vs, rfl, ha, _⟩ := r.tup
    cases (show u = Value.ref a from rx)
    obtain ⟨its, _, ⟨o, h1, h2, _⟩, _⟩ := I.tuple (hK ▸ ha)
    exact ⟨(fun _ _ z => nomatch z), _, PySem.W.kitx_tuple, ⟨o, h1, h2⟩, fun z => nomatch z⟩
  | lst xs =>
    obtain ⟨a, vs, rfl, ha, _⟩ := r.lst
    cases (show u = Value.ref a from rx)
    rcases ha with ha | ⟨ob, ha⟩
    · obtain ⟨_, _, n, _, h1⟩ := (show ObjOk X.prog X.w H s.heap a (.lst vs) from I.hok a _ ha)
      exact ⟨(fun _ _ z => nomatch z), _, PySem.W.kitx_list, ⟨_, h1, rfl⟩, fun z => nomatch z⟩
    · obtain ⟨_, _, _, n, _, h1⟩ := (show ObjOk X.prog X.w H s.heap a (.frz ob (.lst vs)) from I.hok a _ ha)
      exact ⟨(fun _ _ z => nomatch z), _, PySem.W.kitx_list, ⟨_, h1, rfl⟩, fun z => nomatch z⟩
  | dct ks ws =>
    refine ⟨(fun _ _ z => nomatch z), ?_⟩
    rcases r with r | ⟨a, rfl, es, kv, vv, ha, _⟩
    · simp only [Rep] at r
      obtain ⟨a, es, kv, vv, rfl, ⟨o, ha⟩, _⟩ := r
      cases (show u = Value.ref a from rx)
      obtain ⟨_, ⟨_, _, ep, o', h1, h2, _⟩, _⟩ := (show ObjOk X.prog X.w H s.heap a (.frz o (DX a es)) from I.hok a _ ha)
      exact ⟨_, PySem.W.kitx_dict, ⟨o', h1, h2.1⟩, fun z => nomatch z⟩
    · cases (show u = Value.ref a from rx)
      obtain ⟨⟨_, _, ep, o', h1, h2, _⟩, _⟩ := (show ObjOk X.prog X.w H s.heap a (DX a es) from I.hok a _ ha)
      exact ⟨_, PySem.W.kitx_dict, ⟨o', h1, h2.1⟩, fun z => nomatch z⟩
  | ref n => cases h
  | fn n => cases h
  | exc c fs => cases h
/-- isinstance's answer -/
def rIs (W : Wd) (ts : List Ty) (sing : Bool) : List V → Hp → VK → Prop := fun xs H Q => ∃ β p v, RdB W β H p v ∧ isOk p = true ∧ (∀ t ∈ ts, plainTy t = true) ∧ Q (.bl (ts.any fun t => isinV p t)) H ∧
  if sing = true then ∃ t, ts = [t] ∧ xs = [v, .ty (tyNm t)] else ∃ tp, xs = [v, .ref tp] ∧ H tp = some (.tup (ts.map fun t => .ty (tyNm t)))
theorem kit_any {K : PySem.W.Frag} {p : PV} (h : isOk p = true) (h2 : ∀ c fs, p ≠ .exc c fs) : ∀ (ts : List Ty), (∀ t ∈ ts, plainTy t = true) → PySem.W.kitAny K (.type (vT p)) (ts.map fun t => Value.type (tyNm t)) = some (ts.any fun t => isinV p t)
  | [], _ => rfl
  | t :: ts, hp => by
    have a := kit_ty (K := K) (kit_all p t h h2 (hp t List.mem_cons_self))
    simp only [List.map_cons, List.any_cons]
    refine kitAny_cons a (fun e => ?_) fun e => ?_
    · rw [e, Bool.false_or]
      exact kit_any h h2 ts fun x hx => hp x (List.mem_cons_of_mem _ hx)
    · rw [e, Bool.true_or]
theorem vals_tys : ∀ {ts : List Ty} {us : List Value}, Vals (ts.map fun t => V.ty (tyNm t)) us → us = ts.map fun t => Value.type (tyNm t)
  | [], _, .nil => rfl
  | t :: ts, _, .cons r q => by
    rw [vals_tys q]
    cases (show _ = Value.type (tyNm t) from r)
    rfl
theorem call_is (hK : W.K = X.K) (ts : List Ty) (sing : Bool) : CallR X (.builtin "isinstance") (rIs W ts sing) := by
  intro pins s σ H xs us Q I r h
  obtain ⟨β, p, v, hr, ok, hp, q, h⟩ := h
  cases sing with
  | true =>
    simp only [if_true] at h
    obtain ⟨t, rfl, rfl⟩ := h
    obtain ⟨u1, u2, rfl, r1, r2⟩ := vals2 r
    cases (show u2 = Value.type (tyNm t) from r2)
    obtain ⟨h2, P, Z, hP, hx⟩ := kitP I hK hr r1 ok
    have a := kit_ty (K := X.K) (kit_all p t ok h2 (hp t List.mem_cons_self))
    simp only [List.any_cons, List.any_nil, Bool.or_false] at q
    exact PySem.W.kia_one Z I.kIn hP a hx fun tk => ⟨.bl (isinV p t), H, I.tok tk, rfl, q⟩
  | false =>
    simp only [Bool.false_eq_true, if_false] at h
    obtain ⟨tp, rfl, ht⟩ := h
    obtain ⟨u1, u2, rfl, r1, r2⟩ := vals2 r
    cases (show u2 = Value.ref tp from r2)
    obtain ⟨h2, P, Z, hP, hx⟩ := kitP I hK hr r1 ok
    obtain ⟨_, its, rv, o, h1, h2', n, h3⟩ := (show ObjOk X.prog X.w H s.heap tp (.tup (ts.map fun t => V.ty (tyNm t))) from I.hok tp _ ht)
    have e3 := vals_tys rv
    subst e3
    obtain ⟨oc, od, dt, sl⟩ := o
    simp only at h2' h3
    subst h2' h3
    exact PySem.W.kia_tup Z I.kIn hP h1 (kit_any ok h2 ts hp) hx fun tk => ⟨.bl _, H, I.tok tk, rfl, q⟩
end
section
variable {X : Cx} {M : Pm} {e a b c : Expr} {m ma mb mc : E} {pos p p2 : Pos}
def tyStr : Ty → Str
  | .int => "int"
  | .bool => "bool"
  | .tuple => "tuple"
  | .list => "list"
  | .str => "str"
  | .exc _ => "object"
theorem pe_ty {t : Ty} (ht : plainTy t = true) (f : Free X (tyStr t)) : PE X (.Name (tyStr t) p) (tC (.ty (tyNm t))) := by
  cases t with
  | int => exact pe_bltn f.gl f.mg (by decide +kernel) rfl (by decide) (by decide)
  | bool => exact pe_bltn f.gl f.mg (by decide +kernel) rfl (by decide) (by decide)
  | tuple => exact pe_bltn f.gl f.mg (by decide +kernel) rfl (by decide) (by decide)
  | list => exact pe_bltn f.gl f.mg (by decide +kernel) rfl (by decide) (by decide)
  | str => exact pe_bltn f.gl f.mg (by decide +kernel) rfl (by decide) (by decide)
  | exc c => cases ht
/-- a tuple of classes -/
def tTys (ts : List Ty) : TA := fun _ H Q => Q (ts.map fun t => V.ty (tyNm t)) H
theorem pa_tys0 : PA X [] (tTys []) := pa_nil
theorem pa_tys {t : Ty} {es : List Expr} {ts : List Ty} (ht : plainTy t = true) (f : Free X (tyStr t)) (h : PA X es (tTys ts)) (hs : starEach (.Name (tyStr t) p :: es) X.env = (false, eval (.Name (tyStr t) p) X.env) :: starEach es X.env) : PA X (.Name (tyStr t) p :: es) (tTys (t :: ts)) :=
  impA (pa_cons (pe_ty ht f) h hs) fun σ H Q q => q
theorem s_isin1 {t : Ty} (hK : M.W.K = X.K) (f : Free X "isinstance") (he : SE X M e m) (ht : plainTy t = true) (ft : Free X (tyStr t)) (h1 : starEach [e, .Name (tyStr t) p2] X.env = (false, eval e X.env) :: starEach [.Name (tyStr t) p2] X.env) (h2 : starEach [Expr.Name (tyStr t) p2] X.env = (false, eval (.Name (tyStr t) p2) X.env) :: starEach [] X.env)
    (hpl : (backTo pos (starEach [.Name (tyStr t) p2] X.env)).any (·.1) = false) (br : Bool) :
    PE X (.Call (.Name "isinstance" p) [e, .Name (tyStr t) p2] [] pos) (tE M (kn br (.isin m [t])) br (.isin m [t])) := by
  refine impE (pe_callB (call_is hK [t] true) f.gl f.mg (by decide +kernel) (pa_cons he.r (pa_cons (pe_ty ht ft) pa_nil h2) h1) (by decide) (by decide) h1 hpl) fun σ H Q ⟨σs, S, β, rel, ek⟩ => ⟨σs, S, β, rel, ?_⟩
  simp only [evE] at ek
  refine ek.bind fun q S1 v H1 β1 hv s1 b1 q1 ek1 => ?_
  by_cases ok : isOk (deref q S1) = true
  · rw [if_pos ok] at ek1
    refine ⟨β1, deref q S1, v, (Res.rd q1).deref b1, ok, fun x hx => ?_, ek1.done b1 (res_rep (kn_ne rfl) bl_rep), ?_⟩
    · rw [List.mem_singleton.mp hx]; exact ht
    · simp only [if_true]
      exact ⟨t, rfl, rfl⟩
  · rw [if_neg ok] at ek1
    exact ek1.elim
theorem s_isinT {ts : List Ty} {es : List Expr} {k : Nat} (hK : M.W.K = X.K) (f : Free X "isinstance") (he : SE X M e m) (hp : ∀ t ∈ ts, plainTy t = true) (hlt : ts.length < 100) (hts : PA X es (tTys ts)) (h1 : starEach [e, .Tuple es k p2] X.env = (false, eval e X.env) :: starEach [.Tuple es k p2] X.env) (h2 : starEach [Expr.Tuple es k p2] X.env = (false, eval (.Tuple es k p2) X.env) :: starEach [] X.env)
    (hpl : (backTo pos (starEach [.Tuple es k p2] X.env)).any (·.1) = false) (br : Bool) :
    PE X (.Call (.Name "isinstance" p) [e, .Tuple es k p2] [] pos) (tE M (kn br (.isin m ts)) br (.isin m ts)) := by
  refine impE (pe_callB (call_is hK ts false) f.gl f.mg (by decide +kernel) (pa_cons he.r (pa_cons (pe_tup hts) pa_nil h2) h1) (by decide) (by decide) h1 hpl) fun σ H Q ⟨σs, S, β, rel, ek⟩ => ⟨σs, S, β, rel, ?_⟩
  simp only [evE] at ek
  refine ek.bind fun q S1 v H1 β1 hv s1 b1 q1 ek1 => ?_
  by_cases ok : isOk (deref q S1) = true
  · rw [if_pos ok] at ek1
    refine ⟨?_, fun a ha => ?_⟩
    · rw [List.length_map, sizeLine_eq]; omega
    refine ⟨β1, deref q S1, v, ?_, ok, hp, ek1.fresh b1 ha (res_rep (kn_ne rfl) bl_rep), ?_⟩
    · have := (Res.rd q1).stp (Stp.add (w := .tup (ts.map fun t => V.ty (tyNm t))) ha)
      exact this.deref (b1.add ha)
    · simp only [Bool.false_eq_true, if_false]
      exact ⟨a, rfl, upd_same⟩
  · rw [if_neg ok] at ek1
    exact ek1.elim

/-! ### tuple(x), list(x) -/
theorem EK.op1b {α γ δ : Type} {o : Option α} {S : G.St} {f : α → G.St → R δ} {β : List Addr} {H : Hp} {σ : L2.St} {R : List Addr → Hp → δ → γ → Prop} {Q : γ → Hp → Prop} (h : EK M ((G.op1 o S).bind f) β H σ R Q) : ∃ a, o = some a ∧ EK M (f a S) β H σ R Q := by
  cases o with
  | some a => exact ⟨a, rfl, h⟩
  | none => exact h.elim
theorem Up.lst {W : Wd} {β : List Addr} {H : Hp} {a : Addr} {xs : List PV} {vs : List V} (h : H a = none) (r : RepL W β H xs vs) (n : a ∉ β) : Raw W β (upd H a (.lst vs)) a (.lst xs) := ⟨vs, upd_same, RepL.up (.new h) xs r⟩
theorem s_tupleOf {e : Expr} (hK : M.W.K = X.K) (f : Free X "tuple") (he : SE X M e m) (h1 : starEach [e] X.env = (false, eval e X.env) :: starEach [] X.env) (hpl : (backTo pos (starEach [] X.env)).any (·.1) = false) (br : Bool) :
    PE X (.Call (.Name "tuple" p) [e] [] pos) (tE M (kn br (.bit .tuple m)) br (.bit .tuple m)) := by
  refine impE (pe_callTy call_tuple_of f.gl f.mg (by decide +kernel) (pa_cons he.r pa_nil h1) (by decide) (by decide) h1 hpl) fun σ H Q ⟨σs, S, β, rel, ek⟩ => ⟨σs, S, β, rel, ?_⟩
  simp only [evE] at ek
  refine ek.bind fun q S1 v H1 β1 hv s1 b1 q1 ek1 => ?_
  have rd := (Res.rd q1).deref b1
  generalize deref q S1 = d at ek1 rd
  obtain ⟨xs, e1, ek1⟩ := ek1.op1b
  obtain ⟨r, e2, ek1⟩ := ek1.op1
  simp only [bitV, Option.some.injEq] at e2
  subst e2
  cases d with
  | lst ys =>
    simp only [bitIn, Option.some.injEq] at e1
    subst e1
    obtain ⟨a, vs, rfl, ha, ra⟩ := rd.lst
    refine ⟨a, vs, rfl, .inl ⟨?_, fun l hl => ek1.fresh b1 hl (res_rep (kn_ne rfl) ?_)⟩⟩
    · rcases ha with ha | ha
      · exact .of ha
      · exact .inl (.inr ha)
    · simp only [Rep]
      exact ⟨l, vs, rfl, .inl (.inl upd_same), RepL.up (.new hl) _ ra⟩
  | tup ys =>
    simp only [bitIn, Option.some.injEq] at e1
    subst e1
    obtain ⟨a, vs, rfl, ha, ra⟩ := rd.tup
    refine ⟨a, vs, rfl, .inr ⟨hK ▸ ha, ek1.done b1 (res_rep (kn_ne rfl) ?_)⟩⟩
    simp only [Rep]
    exact ⟨a, vs, rfl, ha, ra⟩
  | _ => simp [bitIn] at e1
theorem s_listOf {e : Expr} (hK : M.W.K = X.K) (f : Free X "list") (he : SE X M e m) (h1 : starEach [e] X.env = (false, eval e X.env) :: starEach [] X.env) (hpl : (backTo pos (starEach [] X.env)).any (·.1) = false) (br : Bool) :
    PE X (.Call (.Name "list" p) [e] [] pos) (tE M (kn br (.bit .list m)) br (.bit .list m)) := by
  refine impE (pe_callTy call_list_of f.gl f.mg (by decide +kernel) (pa_cons he.r pa_nil h1) (by decide) (by decide) h1 hpl) fun σ H Q ⟨σs, S, β, rel, ek⟩ => ⟨σs, S, β, rel, ?_⟩
  simp only [evE] at ek
  refine ek.bind fun q S1 v H1 β1 hv s1 b1 q1 ek1 => ?_
  have rd := (Res.rd q1).deref b1
  generalize deref q S1 = d at ek1 rd
  obtain ⟨xs, e1, ek1⟩ := ek1.op1b
  obtain ⟨r, e2, ek1⟩ := ek1.op1
  simp only [bitV, Option.some.injEq] at e2
  subst e2
  have fin : ∀ a vs, v = .ref a → RepL M.W β1 H1 xs vs → ∀ l, H1 l = none → Q (.ref l) (upd H1 l (.lst vs)) := fun a vs _ ra l hl =>
    ek1.fresh b1 hl (.inr ⟨l, rfl, ⟨vs, upd_same, RepL.up (.new hl) xs ra⟩, b1.notin hl, s1.back b1 hl⟩)
  cases d with
  | lst ys =>
    simp only [bitIn, Option.some.injEq] at e1
    subst e1
    obtain ⟨a, vs, rfl, ha, ra⟩ := rd.lst
    refine ⟨a, vs, rfl, .inl ?_, fin a vs rfl ra⟩
    rcases ha with ha | ha
    · exact .of ha
    · exact .inl (.inr ha)
  | tup ys =>
    simp only [bitIn, Option.some.injEq] at e1
    subst e1
    obtain ⟨a, vs, rfl, ha, ra⟩ := rd.tup
    exact ⟨a, vs, rfl, .inr (hK ▸ ha), fin a vs rfl ra⟩
  | _ => simp [bitIn] at e1

/-! ### sum, max, min of a list of ints -/
theorem repL_intsV {W : Wd} {β : List Addr} {H : Hp} : ∀ {xs : List PV} {vs : List V} {ns : List Int}, intsOf xs = some ns → RepL W β H xs vs → vs = ns.map V.int
  | [], vs, ns, e, h => by simp only [intsOf, Option.some.injEq] at e; subst e; simpa only [RepL, List.map_nil] using h
  | x :: xs, vs, ns, e, h => by
    cases x with
    | int i =>
      simp only [intsOf] at e
      split at e
      · rename_i r er
        simp only [Option.some.injEq] at e
        subst e
        simp only [RepL] at h
        obtain ⟨v, t, rfl, h1, h2⟩ := h
        simp only [Rep] at h1
        rw [h1, repL_intsV er h2]
        rfl
      · cases e
    | _ => simp [intsOf] at e
theorem sumV_ints : ∀ {xs : List PV} {i : Int}, sumV xs = some i → ∃ ns, intsOf xs = some ns ∧ ns.sum = i
  | [], i, e => by simp only [sumV, Option.some.injEq] at e; exact ⟨[], rfl, by simpa using e⟩
  | x :: xs, i, e => by
    cases x with
    | int j =>
      simp only [sumV] at e
      split at e
      · rename_i r er
        simp only [Option.some.injEq] at e
        obtain ⟨ns, h1, h2⟩ := sumV_ints er
        exact ⟨j :: ns, by simp only [intsOf, h1], by rw [List.sum_cons, h2]; exact e⟩
      · cases e
    | _ => simp [sumV] at e
theorem s_sum {e : Expr} (hK : M.W.K = X.K) (hc : X.calm = true) (f : Free X "sum") (he : SE X M e m) (h1 : starEach [e] X.env = (false, eval e X.env) :: starEach [] X.env) (hpl : (backTo pos (starEach [] X.env)).any (·.1) = false) (br : Bool) :
    PE X (.Call (.Name "sum" p) [e] [] pos) (tE M (kn br (.bit .sum m)) br (.bit .sum m)) := by
  refine impE (pe_callB (cr_sum hc) f.gl f.mg (by decide +kernel) (pa_cons he.r pa_nil h1) (by decide) (by decide) h1 hpl) fun σ H Q ⟨σs, S, β, rel, ek⟩ => ⟨σs, S, β, rel, ?_⟩
  simp only [evE] at ek
  refine ek.bind fun q S1 v H1 β1 hv s1 b1 q1 ek1 => ?_
  have rd := (Res.rd q1).deref b1
  generalize deref q S1 = d at ek1 rd
  obtain ⟨xs, e1, ek2⟩ := ek1.op1b
  obtain ⟨r, e2, ek3⟩ := ek2.op1
  simp only [bitV] at e2
  split at e2
  · rename_i i ei
    simp only [Option.some.injEq] at e2
    subst e2
    obtain ⟨ns, h3, h4⟩ := sumV_ints ei
    cases d with
    | lst ys =>
      simp only [bitIn, Option.some.injEq] at e1
      subst e1
      obtain ⟨a, vs, rfl, ha, ra⟩ := rd.lst
      have ev := repL_intsV h3 ra
      subst ev
      refine ⟨a, ns, rfl, ?_, ?_⟩
      · rw [← hK]
        rcases ha with ha | ha
        · exact .of ha
        · exact .inl (.inr ha)
      · rw [h4]
        exact ek3.done b1 (res_rep (kn_ne (m := .bit .sum m) rfl) int_rep)
    | _ => simp [bitIn] at e1
  · cases e2
end
end G
end

section
/-! Sd14: sorted(x) of a list of ints, or of int tuples. -/
namespace G
open PySem PySem.Spec PyProof.Rows L2
open PySem.W (dataLe TotalLe sameRank)
/-! ### insertion sort is the stable sort -/
section
variable {α : Type} {le : PV → PV → Bool}
theorem ins_mem (x y : PV) : ∀ (l : List PV), y ∈ ins le x l ↔ y = x ∨ y ∈ l
  | [] => by simp [ins]
  | z :: l => by
    unfold ins
    split
    · simp
    · simp only [List.mem_cons, ins_mem x y l]
      constructor
      · rintro (h | h | h)
        · exact .inr (.inl h)
        · exact .inl h
        · exact .inr (.inr h)
      · rintro (h | h | h)
        · exact .inr (.inl h)
        · exact .inl h
        · exact .inr (.inr h)
theorem isort_mem (y : PV) : ∀ (l : List PV), y ∈ isort le l ↔ y ∈ l
  | [] => by simp [isort]
  | x :: l => by
    unfold isort
    rw [ins_mem, isort_mem y l, List.mem_cons]
theorem ins_pw (h : TotalLe le) (x : PV) : ∀ {l : List PV}, l.Pairwise (fun a b => le a b = true) → (ins le x l).Pairwise (fun a b => le a b = true)
  | [], _ => List.pairwise_singleton _ _
  | z :: l, p => by
    have pz := List.pairwise_cons.mp p
    unfold ins
    split
    · rename_i c
      refine List.pairwise_cons.mpr ⟨fun y hy => ?_, p⟩
      rcases List.mem_cons.mp hy with rfl | hy
      · exact c
      · exact h.trans _ _ _ c (pz.1 y hy)
    · rename_i c
      refine List.pairwise_cons.mpr ⟨fun y hy => ?_, ins_pw h x pz.2⟩
      rcases (ins_mem x y l).mp hy with rfl | hy
      · rcases h.total z y with h1 | h1
        · exact h1
        · exact absurd h1 c
      · exact pz.1 y hy
theorem ins_filter (h : TotalLe le) (x c : PV) : ∀ (l : List PV), (ins le x l).filter (sameRank le c) = (x :: l).filter (sameRank le c)
  | [] => rfl
  | z :: l => by
    unfold ins
    split
    · rfl
    · rename_i q
      rw [List.filter_cons, ins_filter h x c l, List.filter_cons, List.filter_cons, List.filter_cons]
      by_cases hx : sameRank le c x = true
      · by_cases hz : sameRank le c z = true
        · exfalso
          unfold PySem.W.sameRank at hx hz
          rw [Bool.and_eq_true] at hx hz
          exact q (h.trans _ _ _ hx.2 hz.1)
        · rw [if_neg hz, if_neg hz]
      · rw [if_neg hx, if_neg hx]
theorem isort_is (h : TotalLe le) (l : List PV) : isort le l = l.mergeSort le := by
  refine PySem.W.sort_unique h ?_ ?_
  · induction l with
    | nil => exact List.Pairwise.nil
    | cons x l ih => exact ins_pw h x ih
  · intro c
    induction l with
    | nil => rfl
    | cons x l ih =>
      show (ins le x (isort le l)).filter _ = _
      rw [ins_filter h, List.filter_cons, ih, List.filter_cons]
theorem isort_congr {r : PV → PV → Bool} : ∀ {l : List PV}, (∀ a ∈ l, ∀ b ∈ l, r a b = le a b) → isort r l = isort le l
  | [], _ => rfl
  | x :: l, h => by
    have e := isort_congr (l := l) fun a ha b hb => h a (List.mem_cons_of_mem _ ha) b (List.mem_cons_of_mem _ hb)
    unfold isort
    rw [e]
    have : ∀ (m : List PV), (∀ y ∈ m, y ∈ l) → ins r x m = ins le x m := by
      intro m
      induction m with
      | nil => intro _; rfl
      | cons y m ih =>
        intro hm
        unfold ins
        rw [h x List.mem_cons_self y (List.mem_cons_of_mem _ (hm y List.mem_cons_self)), ih fun z hz => hm z (List.mem_cons_of_mem _ hz)]
    exact this _ fun y hy => (isort_mem y l).mp hy
end
/-! ### the order -/
theorem toks_lt : ∀ (as bs : List Int), PyProof.Rows.lexLt PyProof.Rows.itemOrd (PySem.W.keyToksAll (toDs (as.map .int))) (PySem.W.keyToksAll (toDs (bs.map .int))) = lexLt as bs
  | [], [] => by decide
  | [], b :: bs => by
    simp only [List.map_nil, List.map_cons, toDs, toD, PySem.W.keyToksAll]
    rw [PyProof.Rows.lex_diff (O := PyProof.Rows.itemOrd) (by simp)]
    rfl
  | a :: as, [] => by
    simp only [List.map_nil, List.map_cons, toDs, toD, PySem.W.keyToksAll]
    rw [PyProof.Rows.lex_diff (O := PyProof.Rows.itemOrd) (by simp)]
    rfl
  | a :: as, b :: bs => by
    simp only [List.map_cons, toDs, toD, PySem.W.keyToksAll, PySem.W.keyToks, List.singleton_append]
    rw [PyProof.Rows.lex_self (O := PyProof.Rows.itemOrd)]
    by_cases e : a = b
    · subst e
      rw [PyProof.Rows.lex_self (O := PyProof.Rows.itemOrd), toks_lt as bs]
      simp [lexLt]
    · rw [PyProof.Rows.lex_diff (O := PyProof.Rows.itemOrd) (by simpa using e)]
      simp only [lexLt, if_neg e]
      rfl
/-- what may be sorted -/
inductive SK1 : PV → Prop
  | int (i : Int) : SK1 (.int i)
inductive SKT : PV → Prop
  | tup (i : Int) (ns : List Int) : SKT (.tup ((i :: ns).map .int))
theorem intsOf_of (ns : List Int) : intsOf (ns.map .int) = some ns := by
  induction ns with
  | nil => rfl
  | cons n ns ih => simp only [List.map_cons, intsOf, ih]
theorem leP_int (i j : Int) : leP (.int i) (.int j) = dataLe false toD (.int i) (.int j) := by
  show (!decide (j < i)) = !PyProof.Rows.lexLt PyProof.Rows.itemOrd [.inl j] [.inl i]
  congr 1
  show _ = (decide (j < i) || (!decide (i < j) && false))
  simp
theorem leP_tup (as bs : List Int) : leP (.tup (as.map .int)) (.tup (bs.map .int)) = dataLe false toD (.tup (as.map .int)) (.tup (bs.map .int)) := by
  show (match ltP _ _ with | some r => !r | none => true) = !PyProof.Rows.lexLt PyProof.Rows.itemOrd (PySem.W.keyToksAll (toDs (bs.map .int))) (PySem.W.keyToksAll (toDs (as.map .int)))
  rw [toks_lt]
  simp only [ltP, intsOf_of]
theorem allInt_all {xs : List PV} (h : allInt xs = true) : ∀ x ∈ xs, SK1 x := by
  intro x hx
  have := List.all_eq_true.mp h x hx
  cases x with
  | int i => exact .int i
  | _ => simp at this
theorem allTup_all {xs : List PV} (h : allTup xs = true) : ∀ x ∈ xs, SKT x := by
  intro x hx
  have := List.all_eq_true.mp h x hx
  cases x with
  | tup ys =>
    simp only [Bool.and_eq_true, Option.isSome_iff_exists] at this
    obtain ⟨h1, ns, h2⟩ := this
    have e := intsOf_map h2
    subst e
    cases ns with
    | nil => simp at h1
    | cons i ns => exact .tup i ns
  | _ => simp at this
theorem leP_is {xs : List PV} (h : sortOk xs = true) : ∀ a ∈ xs, ∀ b ∈ xs, leP a b = dataLe false toD a b := by
  intro a ha b hb
  rcases Bool.or_eq_true_iff.mp h with h | h
  · cases allInt_all h a ha
    cases allInt_all h b hb
    exact leP_int _ _
  · cases allTup_all h a ha
    cases allTup_all h b hb
    exact leP_tup _ _
theorem isort_sorts {xs : List PV} (h : sortOk xs = true) : isort leP xs = xs.mergeSort (dataLe false toD) := by
  rw [isort_congr (le := dataLe false toD) (leP_is h)]
  exact isort_is (PySem.W.sortLe_total _ _ _) _
theorem datL_ints (ns : List Int) (n : Nat) : datL (ns.map .int) n = true := by
  induction ns with
  | nil => rfl
  | cons i ns ih => simp only [List.map_cons, datL, dat, ih, Bool.true_and]
theorem sort_dat {xs : List PV} (h : sortOk xs = true) : ∀ x ∈ xs, dat x 1 = true := by
  intro x hx
  rcases Bool.or_eq_true_iff.mp h with h | h
  · cases allInt_all h x hx
    rfl
  · cases allTup_all h x hx
    simp only [dat]
    exact datL_ints _ _
theorem alike_ints : ∀ (as bs : List Int), PySem.W.alikeAll (toDs (as.map .int)) (toDs (bs.map .int)) = true
  | [], _ => by unfold PySem.W.alikeAll; simp [toDs]
  | _ :: _, [] => by unfold PySem.W.alikeAll; simp [toDs]
  | a :: as, b :: bs => by
    simp only [List.map_cons, toDs, toD]
    unfold PySem.W.alikeAll
    simp only [PySem.W.alike, Bool.true_and]
    exact alike_ints as bs
theorem sort_alike {xs : List PV} (h : sortOk xs = true) : PySem.W.AllAlike (xs.map toD) := by
  intro d hd d' hd'
  obtain ⟨x, hx, rfl⟩ := List.mem_map.mp hd
  obtain ⟨y, hy, rfl⟩ := List.mem_map.mp hd'
  rcases Bool.or_eq_true_iff.mp h with h | h
  · cases allInt_all h x hx
    cases allInt_all h y hy
    rfl
  · cases allTup_all h x hx
    cases allTup_all h y hy
    simp only [toD]
    unfold PySem.W.alike
    exact alike_ints _ _
theorem sort_able {xs : List PV} (h : sortOk xs = true) : PySem.W.Sortable (xs.map toD) := by
  rcases Bool.or_eq_true_iff.mp h with h | h
  · refine .inr fun d hd => ?_
    obtain ⟨x, hx, rfl⟩ := List.mem_map.mp hd
    cases allInt_all h x hx
    exact ⟨(fun z => nomatch z), fun xs z => nomatch z⟩
  · refine .inl fun d hd => ?_
    obtain ⟨x, hx, rfl⟩ := List.mem_map.mp hd
    cases allTup_all h x hx
    exact ⟨_, _, rfl⟩
section
variable {X : Cx} {M : Pm} {e a b c : Expr} {m ma mb mc : E} {pos p p2 : Pos}
theorem each_out {W : Wd} {β : List Addr} {H : Hp} {out : List Value} {bs : List PV} (h : PySem.W.EachIs (fun u q => ∃ v, RelV v u ∧ Rep W β H q v) out bs) : ∃ vs, Vals vs out ∧ RepL W β H bs vs := by
  induction h with
  | nil => exact ⟨[], .nil, by simp only [RepL]⟩
  | cons h t ih =>
    obtain ⟨v, h1, h2⟩ := h
    obtain ⟨vs, h3, h4⟩ := ih
    exact ⟨v :: vs, .cons h1 h3, by simp only [RepL]; exact ⟨v, vs, rfl, h2, h4⟩⟩
theorem each_in {W : Wd} {β : List Addr} {H : Hp} : ∀ {bs : List PV} {vs : List V} {its : List Value}, RepL W β H bs vs → Vals vs its → PySem.W.EachIs (fun u q => ∃ v, RelV v u ∧ Rep W β H q v) its bs
  | [], vs, its, h, g => by
    simp only [RepL] at h
    subst h
    cases g
    exact .nil
  | q :: bs, vs, its, h, g => by
    simp only [RepL] at h
    obtain ⟨v, r, rfl, h1, h2⟩ := h
    cases g with
    | cons g1 g2 => exact .cons ⟨v, g1, h1⟩ (each_in h2 g2)
/-- sorted's answer -/
def rSo (W : Wd) : List V → Hp → VK → Prop := fun us H Q => ∃ β xs a vs, us = [V.ref a] ∧ SqL W.K H a vs ∧ RepL W β H xs vs ∧ sortOk xs = true ∧ ∀ ws l, H l = none → RepL W β H (isort leP xs) ws → Q (.ref l) (upd H l (.lst ws))
theorem cr_so {W : Wd} (hK : W.K = X.K) (hu : X.A.units + 64 < cLine) : CallR X (.builtin "sorted") (rSo W) := by
  intro pins s σ H us ws Q I r h
  obtain ⟨β, xs, a, vs, rfl, ha, hr, ok, q⟩ := h
  obtain ⟨its, rv, hl, hz⟩ := I.list (hK ▸ ha)
  rw [Vals.ref1 r]
  have hxl := hr.length
  refine PySem.W.sorted_data (enc := toD) hl.isList (each_in hr rv) ?_ (sort_alike ok) (sort_able ok) (by rw [← hxl]; exact hz) (fun b hb => ?_) fun out ho he => ?_
  · have : ∀ {bs : List PV} {vs : List V} {its : List Value}, (∀ b ∈ bs, dat b 1 = true) → RepL W β H bs vs → Vals vs its → PySem.W.EachIs (fun v b => ∃ as, Reads s.heap v (toD b) as) its bs := by
      intro bs
      induction bs with
      | nil =>
        intro vs its _ h g
        simp only [RepL] at h
        subst h
        cases g
        exact .nil
      | cons q bs ih =>
        intro vs its hb h g
        simp only [RepL] at h
        obtain ⟨v, r, rfl, h1, h2⟩ := h
        cases g with
        | cons g1 g2 => exact .cons (Dp.reads I _ _ _ (hK ▸ Rep.dp q 1 (hb q List.mem_cons_self) h1) g1) (ih (fun b hb' => hb b (List.mem_cons_of_mem _ hb')) h2 g2)
    exact this (sort_dat ok) hr rv
  · have := (dat_lay b 1 (sort_dat ok b hb)).2
    omega
  · obtain ⟨ys, hv, hy⟩ := each_out he
    rw [← isort_sorts ok] at hy
    obtain ⟨ep, he'⟩ := PyProof.Rows.sortedAll_at s.heap its out.toArray
    have hlen : ys.length ≤ sizeLine := by
      rw [hv.length, ho, ← hxl]
      exact hz
    exact ⟨.ref _, upd H (s.heap.objs.size + 1) (.lst ys), I.laid (t' := s.toks) (fun _ _ => PyProof.Rows.sortedAll_old) (Nat.le_succ _) ⟨hlen, out, ep, hv, he'⟩, rfl, q ys _ (I.hok.fresh (Nat.le_succ _)) hy⟩
theorem s_sorted {e : Expr} (hK : M.W.K = X.K) (hu : X.A.units + 64 < cLine) (f : Free X "sorted") (he : SE X M e m) (h1 : starEach [e] X.env = (false, eval e X.env) :: starEach [] X.env) (hpl : (backTo pos (starEach [] X.env)).any (·.1) = false) (br : Bool) :
    PE X (.Call (.Name "sorted" p) [e] [] pos) (tE M (kn br (.bit .sorted m)) br (.bit .sorted m)) := by
  refine impE (pe_callB (cr_so hK hu) f.gl f.mg (by decide +kernel) (pa_cons he.r pa_nil h1) (by decide) (by decide) h1 hpl) fun σ H Q ⟨σs, S, β, rel, ek⟩ => ⟨σs, S, β, rel, ?_⟩
  simp only [evE] at ek
  refine ek.bind fun q S1 v H1 β1 hv s1 b1 q1 ek1 => ?_
  have rd := (Res.rd q1).deref b1
  generalize deref q S1 = d at ek1 rd
  obtain ⟨xs, e1, ek2⟩ := ek1.op1b
  obtain ⟨r, e2, ek3⟩ := ek2.op1
  simp only [bitV] at e2
  split at e2
  · rename_i ok
    simp only [Option.some.injEq] at e2
    subst e2
    cases d with
    | lst ys =>
      simp only [bitIn, Option.some.injEq] at e1
      subst e1
      obtain ⟨a, vs, rfl, ha, ra⟩ := rd.lst
      refine ⟨β1, ys, a, vs, rfl, ?_, ra, ok, fun ws l hl hy => ?_⟩
      · rcases ha with ha | ha
        · exact .of ha
        · exact .inl (.inr ha)
      · exact ek3.fresh b1 hl (.inr ⟨l, rfl, ⟨ws, upd_same, RepL.up (.new hl) _ hy⟩, b1.notin hl, s1.back b1 hl⟩)
    | _ => simp [bitIn] at e1
  · cases e2
end
end G
end

section
/-! Sd15: more assignments; changes of lists. -/
namespace G
open PySem PySem.Spec PyProof.Rows L2
section
variable {X : Cx} {M : Pm} {e a b c : Expr} {m ma mb mc : E} {pos p : Pos}
theorem st_asgT {is : List Nat} {tg : Expr} (hK : M.W.K = X.K) (h : SE X M e m) (hg : PG X tg (gT X.K (.tp is))) (hs : swapsWithSole [tg] e pos.line X.env = pure false) (hw : swappedStores [tg] e X.env = pure none) (h1 : (assignEach [tg] X.env).map (·.2) = [assign tg X.env]) :
    PS X (.Assign [tg] e pos) (tS M (.asgT is m)) := by
  refine impS (ps_asg h.v hg hs hw h1) fun D σ H ⟨σs, S, β, rel, sk⟩ => ⟨σs, S, β, rel, ?_⟩
  simp only [exS] at sk
  refine SK.lift rel sk fun q S1 v H1 β1 _ s1 r1 q1 sk1 => ?_
  cases hb : bindT σs q (.tp is) with
  | none => rw [hb] at sk1; exact sk1.elim
  | some σs' =>
    rw [hb] at sk1
    have q1 : Rep M.W β1 H1 q v := q1
    obtain ⟨ps, ws, h2, h3, h4⟩ := gT_ok q1 hb
    rw [← hK]
    exact h4 _ _ (sk_nx sk1 (r1.setVals h3 h2))

/-! ### several values at once -/
def OwnVs (W : Wd) (β : List Addr) (H H0 : Hp) (σs : Slots) (σ : L2.St) : List (Tag × PV) → List V → Prop
  | [], [] => True
  | q :: qs, v :: vs => OwnV W β H H0 σs σ q.1 q.2 v ∧ OwnVs W β H H0 σs σ qs vs ∧ (q.1 = .own → cont q.2 = true → ∀ (i : Nat) q' w, qs[i]? = some q' → vs[i]? = some w → q'.1 = .own → cont q'.2 = true → w ≠ v)
  | _, _ => False
def Provs (H : Hp) (σs : Slots) (σ : L2.St) : List (Tag × PV) → List V → Prop
  | [], [] => True
  | q :: qs, v :: vs => Prov H σs σ q.1 q.2 v ∧ Provs H σs σ qs vs
  | _, _ => False
theorem Provs.at {H : Hp} {σs : Slots} {σ : L2.St} : ∀ {qs : List (Tag × PV)} {vs : List V} {i : Nat} {q : Tag × PV} {w : V}, Provs H σs σ qs vs → qs[i]? = some q → vs[i]? = some w → Prov H σs σ q.1 q.2 w
  | [], [], i, q, w, _, e, _ => by simp at e
  | [], _ :: _, _, _, _, h, _, _ => h.elim
  | _ :: _, [], _, _, _, h, _, _ => h.elim
  | _ :: _, _ :: _, 0, _, _, h, e, e2 => by simp at e e2; subst e; subst e2; exact h.1
  | _ :: _, _ :: _, i + 1, _, _, h, e, e2 => h.2.at (by simpa using e) (by simpa using e2)
theorem OwnV.mono {W : Wd} {β β' : List Addr} {H H' H0 : Hp} {σs σs' : Slots} {σ : L2.St} {t : Tag} {p : PV} {v : V} (h : OwnV W β H H0 σs σ t p v) (s : Stp β β' H H') (g : ∀ k t q, getS σs' k = some (t, q) → getS σs k = some (t, q)) : OwnV W β' H' H0 σs' σ t p v := by
  cases t with
  | val => exact Rep.up s.up p h
  | bor => exact h
  | own =>
    rcases h with ⟨h1, h2⟩ | ⟨a, e, r, n, z, k⟩
    · exact .inl ⟨h1, Rep.up s.up p h2⟩
    · obtain ⟨r1, r2⟩ := r.stp s n
      exact .inr ⟨a, e, r1, r2, z, fun j q h1 h2 => k j q (g _ _ _ h1) h2⟩
theorem rhs_sub {C : Ctx} {m : E} {σs : Slots} {S S' : G.St} {q : Slots × Tag × PV} (h : rhs C m σs S = .ok q S') : ∀ k t p, getS q.1 k = some (t, p) → getS σs k = some (t, p) := by
  intro k t p hk
  by_cases hm : isVar m = true
  · cases m with
    | var i =>
      simp only [rhs] at h
      cases hi : getS σs i with
      | none => rw [hi] at h; cases h
      | some w =>
        rw [hi] at h
        simp only at h
        split at h
        · cases h
          rw [getS_none] at hk
          split at hk
          · cases hk
          · exact hk
        · cases hr : readV false σs i with
          | none => rw [hr] at h; cases h
          | some p =>
            rw [hr] at h
            cases h
            exact hk
    | _ => cases hm
  · rw [rhs_nonvar (by simpa using hm)] at h
    cases he : evE C m false σs S with
    | no => rw [he] at h; cases h
    | ex e' S' => rw [he] at h; cases h
    | ok v S' => rw [he] at h; cases h; exact hk
theorem rhss_sub {C : Ctx} : ∀ {ms : List E} {σs : Slots} {S S' : G.St} {q : Slots × List (Tag × PV)}, rhss C ms σs S = .ok q S' → ∀ k t p, getS q.1 k = some (t, p) → getS σs k = some (t, p)
  | [], σs, S, S', q, h => by
    simp only [rhss] at h
    cases h
    exact fun _ _ _ h => h
  | m :: ms, σs, S, S', q, h => by
    simp only [rhss] at h
    cases h1 : rhs C m σs S with
    | no => rw [h1] at h; cases h
    | ex e' S' => rw [h1] at h; cases h
    | ok r S1 =>
      rw [h1] at h
      simp only [G.R.bind] at h
      cases h2 : rhss C ms r.1 S1 with
      | no => rw [h2] at h; cases h
      | ex e' S' => rw [h2] at h; cases h
      | ok r2 S2 =>
        rw [h2] at h
        cases h
        exact fun k t p hk => rhs_sub h1 k t p (rhss_sub h2 k t p hk)
def tRhss (M : Pm) (ms : List E) : TA := fun σ H Q => ∃ σs S β, Rel M.W M.β0 M.H0 β S H σs σ ∧ EKR M (rhss M.C ms σs S) β H σ (fun β' H' σs' q vs => OwnVs M.W β' H' M.H0 σs' σ q vs ∧ Provs H σs σ q vs) Q
theorem rs_nil : PA X [] (tRhss M []) := by
  refine impA pa_nil fun σ H Q ⟨σs, S, β, rel, ek⟩ => ?_
  simp only [rhss] at ek
  exact ek [] H β .refl rel ⟨trivial, trivial⟩
theorem rs_cons {es : List Expr} {ms : List E} (h : PE X e (tRhs M m)) (hr : PA X es (tRhss M ms)) (hs : starEach (e :: es) X.env = (false, eval e X.env) :: starEach es X.env) : PA X (e :: es) (tRhss M (m :: ms)) := by
  refine impA (pa_cons h hr hs) fun σ H Q ⟨σs, S, β, rel, ek⟩ => ⟨σs, S, β, rel, ?_⟩
  simp only [rhss] at ek
  revert ek
  cases h1 : rhs M.C m σs S with
  | no => exact fun ek => ek
  | ex e S' => exact fun ek => ek
  | ok q S1 =>
    simp only [G.R.bind]
    refine fun ek v H1 β1 s1 r1 own1 => ⟨q.1, S1, β1, r1, ?_⟩
    revert ek
    cases h2 : rhss M.C ms q.1 S1 with
    | no => exact fun ek => ek
    | ex e S' => exact fun ek cls d H' β' s b x => ek cls d H' β' (s1.trans s) b x
    | ok q2 S2 =>
      simp only [G.R.bind]
      refine fun ek vs H2 β2 s2 r2 own2 => ek (v :: vs) H2 β2 (s1.trans s2) r2 ?_
      have hsub := rhss_sub h2
      refine ⟨⟨own1.1.mono s2 hsub, own2.1, ?_⟩, own1.2, ?_⟩
      · intro ht hc i q' w e1 e2 ht' hc' ev
        subst ev
        have o1 := own1.1
        rw [ht] at o1
        rcases o1 with ⟨c0, _⟩ | ⟨a, e, r, n, z, k⟩
        · rw [c0] at hc; cases hc
        · rcases own2.2.at e1 e2 ht' hc' a e with hn | ⟨j, p', g1, g2, g3⟩
          · obtain ⟨u, hu, _⟩ := r.tracked
            rw [hn] at hu; cases hu
          · exact k j p' g1 g2 g3
      · have mono : ∀ {qs : List (Tag × PV)} {vs : List V}, Provs H1 q.1 σ qs vs → Provs H σs σ qs vs := by
          intro qs
          induction qs with
          | nil => intro vs h; cases vs with
            | nil => trivial
            | cons _ _ => exact h.elim
          | cons x qs ih => intro vs h; cases vs with
            | nil => exact h.elim
            | cons v vs =>
              refine ⟨fun ht hc a ev => ?_, ih h.2⟩
              rcases h.1 ht hc a ev with hn | ⟨j, p', g1, g2, g3⟩
              · exact .inl (s1.back r1.br hn)
              · exact .inr ⟨j, p', rhs_sub h1 _ _ _ g1, g2, g3⟩
        exact mono own2.2
theorem Rel.setOwns {W : Wd} {β0 β : List Addr} {H0 H : Hp} {S : G.St} : ∀ {is : List Nat} {qs : List (Tag × PV)} {vs : List V} {σs σs' : Slots} {σ : L2.St}, Rel W β0 H0 β S H σs σ → OwnVs W β H H0 σs σ qs vs → putAllS σs is qs = some σs' → Rel W β0 H0 β S H σs' (setV σ is vs)
  | [], [], vs, _, _, _, r, q, h => by
    simp only [putAllS, Option.some.injEq] at h
    subst h
    unfold setV
    exact r
  | [], _ :: _, _, _, _, _, _, _, h => by simp [putAllS] at h
  | _ :: _, [], _, _, _, _, _, _, h => by simp [putAllS] at h
  | _ :: _, _ :: _, [], _, _, _, _, q, _ => q.elim
  | i :: is, q :: qs, v :: vs, σs, _, σ, r, own, h => by
    simp only [putAllS] at h
    obtain ⟨o1, o2, o3⟩ := own
    unfold setV
    refine Rel.setOwns (r.setOwn i o1) ?_ h
    have go : ∀ {qs : List (Tag × PV)} {vs : List V}, OwnVs W β H H0 σs σ qs vs → (q.1 = .own → cont q.2 = true → ∀ (i : Nat) q' w, qs[i]? = some q' → vs[i]? = some w → q'.1 = .own → cont q'.2 = true → w ≠ v) → OwnVs W β H H0 (setS σs i q.1 q.2) (σ.set i (some v)) qs vs := by
      intro qs
      induction qs with
      | nil => intro vs h _; cases vs with
        | nil => trivial
        | cons _ _ => exact h.elim
      | cons x qs ih => intro vs h g; cases vs with
        | nil => exact h.elim
        | cons w vs =>
          refine ⟨?_, ih h.2.1 fun ht hc j q' w' e1 e2 => g ht hc (j + 1) q' w' (by simpa using e1) (by simpa using e2), h.2.2⟩
          have hx := h.1
          obtain ⟨tx, px⟩ := x
          cases tx with
          | val => exact hx
          | bor => exact hx
          | own =>
            rcases hx with hx | ⟨a, e, r1, n, z, k⟩
            · exact .inl hx
            · refine .inr ⟨a, e, r1, n, z, fun j p' h1 h2 h3 => ?_⟩
              rw [getS_setS] at h1
              by_cases hj : j = i
              · subst hj
                rw [if_pos rfl] at h1
                split at h1
                · rename_i hl
                  have hl' : j < σ.length := by rw [← r.len]; exact hl
                  rw [List.getElem?_set_self hl'] at h3
                  simp only [Option.some.injEq, Prod.mk.injEq] at h1 h3
                  exact g h1.1 (by rw [h1.2]; exact h2) 0 _ _ rfl rfl rfl r1.cont (by rw [e, h3])
                · cases h1
              · rw [if_neg hj] at h1
                rw [List.getElem?_set_ne (Ne.symm hj)] at h3
                exact k j p' h1 h2 h3
    exact go o2 o3
theorem sk_par {D : Ends} {is : List Nat} {ms : List E} {σs : Slots} {S : G.St} {β : List Addr} {H : Hp} {σ : L2.St} (rel : Rel M.W M.β0 M.H0 β S H σs σ) (sk : SK M (exS M.C (.par is ms) σs S) β H D) {Q : List V → Hp → Prop}
    (hQ : ∀ vs H1, is.length = vs.length → vs.length = ms.length → (∀ p, H1 p = none → D.nx (setV σ is vs) (upd H1 p (.tup vs))) → D.nx (setV σ is vs) H1 → Q vs H1) : EKR M (rhss M.C ms σs S) β H σ (fun β' H' σs' q vs => OwnVs M.W β' H' M.H0 σs' σ q vs ∧ Provs H σs σ q vs) Q := by
  simp only [exS] at sk
  have len : ∀ {ms : List E} {σs : Slots} {S S' : G.St} {q : Slots × List (Tag × PV)}, rhss M.C ms σs S = .ok q S' → q.2.length = ms.length := by
    intro ms
    induction ms with
    | nil => intro σs S S' q h; simp only [rhss] at h; cases h; rfl
    | cons m ms ih =>
      intro σs S S' q h
      simp only [rhss] at h
      cases h1 : rhs M.C m σs S with
      | no => rw [h1] at h; cases h
      | ex e' S' => rw [h1] at h; cases h
      | ok r S1 =>
        rw [h1] at h
        simp only [G.R.bind] at h
        cases h2 : rhss M.C ms r.1 S1 with
        | no => rw [h2] at h; cases h
        | ex e' S' => rw [h2] at h; cases h
        | ok r2 S2 =>
          rw [h2] at h
          cases h
          simp [ih h2]
  have olen : ∀ {qs : List (Tag × PV)} {vs : List V} {β : List Addr} {H : Hp} {σs : Slots}, OwnVs M.W β H M.H0 σs σ qs vs → vs.length = qs.length := by
    intro qs
    induction qs with
    | nil => intro vs β H σs h; cases vs with
      | nil => rfl
      | cons _ _ => exact h.elim
    | cons x qs ih => intro vs β H σs h; cases vs with
      | nil => exact h.elim
      | cons w vs => simp [ih h.2.1]
  revert sk
  cases hr : rhss M.C ms σs S with
  | no => exact fun sk => sk
  | ex e S' => exact fun sk cls d H' β' s b x => sk cls d σ H' β' s.up (rel.step s b) x
  | ok q S' =>
    simp only [liftS]
    intro sk vs H1 β1 s1 r1 own
    cases hp : putAllS q.1 is q.2 with
    | none => rw [hp] at sk; exact sk.elim
    | some σs2 =>
      rw [hp] at sk
      have hl : ∀ {is : List Nat} {qs : List (Tag × PV)} {σs σs2 : Slots}, putAllS σs is qs = some σs2 → is.length = qs.length := by
        intro is
        induction is with
        | nil => intro qs σs σs2 h; cases qs with
          | nil => rfl
          | cons _ _ => simp [putAllS] at h
        | cons i is ih => intro qs σs σs2 h; cases qs with
          | nil => simp [putAllS] at h
          | cons q qs => simp only [putAllS] at h; simp [ih h]
      have r2 := r1.setOwns own.1 hp
      refine hQ vs H1 ((hl hp).trans (olen own.1).symm) ((olen own.1).trans (len hr)) (fun p hn => ?_) (sk _ H1 β1 s1.up r2)
      exact sk _ _ β1 (s1.up.trans (.new hn)) (r2.step (.add hn) (r2.br.add hn))
theorem st_par2 {i j : Nat} {x y : Str} {px py pt : Pos} {kt k2 pt2} (hc : X.calm = true) (hN : X.N.Nodup) (hi : X.N[i]? = some x) (hj : X.N[j]? = some y) (hij : i ≠ j)
    (hx : X.env.scope.names.lookup x = some .local) (hy : X.env.scope.names.lookup y = some .local) (ha : PA X [a, b] (tRhss M [ma, mb]))
    (hw : swappedStores [.Tuple [.Name x px, .Name y py] kt pt] (.Tuple [a, b] k2 pt2) X.env = pure (some [x, y]))
    (hs : swapsWithSole [.Tuple [.Name x px, .Name y py] kt pt] (.Tuple [a, b] k2 pt2) pos.line X.env = pure false) :
    PS X (.Assign [.Tuple [.Name x px, .Name y py] kt pt] (.Tuple [a, b] k2 pt2) pos) (tS M (.par [i, j] [ma, mb])) := by
  refine impS (ps_par hc hN hi hj hij hx hy ha hw hs) fun D σ H ⟨σs, S, β, rel, sk⟩ => ⟨σs, S, β, rel, ?_⟩
  refine sk_par rel sk fun vs H1 h1 h2 h3 h4 => ?_
  match vs, h2, h4 with
  | [v, w], _, h4 => exact ⟨v, w, rfl, by simpa only [setV] using h4⟩
theorem st_par3 {i j l : Nat} {x y z : Str} {px py pz pt : Pos} {kt k2 pt2} (hc : X.calm = true) (hN : X.N.Nodup) (hi : X.N[i]? = some x) (hj : X.N[j]? = some y) (hl : X.N[l]? = some z) (hij : i ≠ j) (hil : i ≠ l) (hjl : j ≠ l)
    (hx : X.env.scope.names.lookup x = some .local) (hy : X.env.scope.names.lookup y = some .local) (hz : X.env.scope.names.lookup z = some .local) (ha : PA X [a, b, c] (tRhss M [ma, mb, mc]))
    (hw : swappedStores [.Tuple [.Name x px, .Name y py, .Name z pz] kt pt] (.Tuple [a, b, c] k2 pt2) X.env = pure (some [x, y, z]))
    (hs : swapsWithSole [.Tuple [.Name x px, .Name y py, .Name z pz] kt pt] (.Tuple [a, b, c] k2 pt2) pos.line X.env = pure false) :
    PS X (.Assign [.Tuple [.Name x px, .Name y py, .Name z pz] kt pt] (.Tuple [a, b, c] k2 pt2) pos) (tS M (.par [i, j, l] [ma, mb, mc])) := by
  refine impS (ps_par3 hc hN hi hj hl hij hil hjl hx hy hz ha hw hs) fun D σ H ⟨σs, S, β, rel, sk⟩ => ⟨σs, S, β, rel, ?_⟩
  refine sk_par rel sk fun vs H1 h1 h2 h3 h4 => ?_
  match vs, h2, h4 with
  | [u, v, w], _, h4 => exact ⟨u, v, w, rfl, by simpa only [setV] using h4⟩
/-- the same by way of a tuple -/
theorem st_parT {is : List Nat} {tg : Expr} {es : List Expr} {ms : List E} {k2 : Nat} {pt2 : Pos} (hg : PG X tg (gT X.K (.tp is))) (ha : PA X es (tRhss M ms)) (hm : ms.length < 100) (hs : swapsWithSole [tg] (.Tuple es k2 pt2) pos.line X.env = pure false) (hw : swappedStores [tg] (.Tuple es k2 pt2) X.env = pure none) (h1 : (assignEach [tg] X.env).map (·.2) = [assign tg X.env]) :
    PS X (.Assign [tg] (.Tuple es k2 pt2) pos) (tS M (.par is ms)) := by
  refine impS (ps_asg (pe_tup ha) hg hs hw h1) fun D σ H ⟨σs, S, β, rel, sk⟩ => ⟨σs, S, β, rel, ?_⟩
  refine sk_par rel sk fun vs H1 h1 h2 h3 h4 => ⟨by rw [sizeLine_eq]; omega, fun p hp => ⟨p, vs, rfl, .inl (.inl upd_same), h1.symm, ?_⟩⟩
  exact gNames_ok h1 (h3 p hp)

/-! ### changes of a list -/
/-- the own thing at a is changed -/
theorem Rel.chg {W : Wd} {β0 β : List Addr} {H0 H : Hp} {S : G.St} {σs : Slots} {σ : L2.St} {i : Nat} {a : Addr} {q q' : PV} {u : HO} (r : Rel W β0 H0 β S H σs σ) (h : getS σs i = some (.own, q)) (hv : σ[i]? = some (some (.ref a))) (hr : Raw W β H a q) (na : a ∉ β) (z : H0 a = none) (hr' : Raw W β (upd H a u) a q') :
    Rel W β0 H0 β S (upd H a u) (setS σs i .own q') σ := by
  obtain ⟨o, ho, mu⟩ := hr.tracked
  have up : Up β β H (upd H a u) := Up.frz1 ho mu
  have other : ∀ {b p}, b ≠ a → Raw W β H b p → Raw W β (upd H a u) b p := fun {b p} hb r => r.up up fun o e => by rw [upd_ne hb]; exact e
  have hi : i < σs.length := by
    unfold getS at h
    cases e : σs[i]? with
    | none => rw [e] at h; cases h
    | some w => exact (List.getElem?_eq_some_iff.mp e).1
  refine ⟨by unfold setS; rw [List.length_set]; exact r.len, fun j p e => ?_, fun j p e => ?_, fun j p e => ?_, fun j k p1 p2 b hjk h1 h2 c1 c2 v1 v2 => ?_, r.br.up up fun c hc => upd_ne fun z => na (z ▸ hc), r.stp.chg z ho mu⟩
  · rw [getS_setS] at e
    by_cases hj : j = i
    · rw [if_pos hj] at e; split at e <;> cases e
    · rw [if_neg hj] at e
      obtain ⟨v, e1, e2⟩ := r.val j p e
      exact ⟨v, e1, Rep.up up p e2⟩
  · rw [getS_setS] at e
    by_cases hj : j = i
    · rw [if_pos hj] at e; split at e <;> cases e
    · rw [if_neg hj] at e
      obtain ⟨v, e1, e2 | ⟨b, e2, e3, e4, e5⟩⟩ := r.bor j p e
      · exact ⟨v, e1, .inl (Rep.up up p e2)⟩
      · exact ⟨v, e1, .inr ⟨b, e2, other (fun y => by rw [y] at e5; exact e5 z) e3, e4, e5⟩⟩
  · rw [getS_setS] at e
    by_cases hj : j = i
    · subst hj
      rw [if_pos rfl, if_pos hi] at e
      cases e
      exact ⟨_, hv, .inr ⟨a, rfl, hr', na, z⟩⟩
    · rw [if_neg hj] at e
      obtain ⟨v, e1, e2 | ⟨b, e2, e3, e4, e5⟩⟩ := r.own j p e
      · exact ⟨v, e1, .inl ⟨e2.1, Rep.up up p e2.2⟩⟩
      · refine ⟨v, e1, .inr ⟨b, e2, other (fun y => ?_) e3, e4, e5⟩⟩
        subst y
        rw [e2] at e1
        exact r.sep j i p q b hj e h e3.cont hr.cont e1 hv
  · rw [getS_setS] at h1 h2
    by_cases hj : j = i
    · subst hj
      have hk : k ≠ j := fun z => hjk z.symm
      rw [if_neg hk] at h2
      exact r.sep j k q p2 b hjk h h2 hr.cont c2 v1 v2
    · rw [if_neg hj] at h1
      by_cases hk : k = i
      · subst hk
        exact r.sep j k p1 q b hjk h1 h c1 hr.cont v1 v2
      · rw [if_neg hk] at h2
        exact r.sep j k p1 p2 b hjk h1 h2 c1 c2 v1 v2
/-- a box is changed -/
theorem Rel.box {W : Wd} {β0 β : List Addr} {H0 H : Hp} {S : G.St} {σs : Slots} {σ : L2.St} {n : Nat} {a : Addr} {q q' : PV} {u : HO} (r : Rel W β0 H0 β S H σs σ) (hn : β[n]? = some a) (hr : Raw W β H a q) (hr' : Raw W β (upd H a u) a q') :
    Rel W β0 H0 β (S.set n q') (upd H a u) σs σ := by
  obtain ⟨o, ho, mu⟩ := hr.tracked
  have up : Up β β H (upd H a u) := Up.frz1 ho mu
  have mem : a ∈ β := List.mem_of_getElem? hn
  refine r.step ⟨up, fun b o e nb => by rw [upd_ne (fun (z : b = a) => nb (z.symm ▸ mem))]; exact e, fun b hb => .inl hb⟩ ⟨by rw [List.length_set]; exact r.br.len, r.br.nd, fun m p hp => ?_⟩
  rw [List.getElem?_set] at hp
  by_cases hm : n = m
  · subst hm
    rw [if_pos rfl] at hp
    split at hp
    · cases hp
      exact ⟨a, hn, hr'⟩
    · cases hp
  · rw [if_neg hm] at hp
    obtain ⟨b, e1, e2⟩ := r.br.cell m p hp
    refine ⟨b, e1, e2.up up fun o e => ?_⟩
    rw [upd_ne]
    · exact e
    · rintro rfl
      have h1 := List.getElem?_eq_some_iff.mp e1
      have h2 := List.getElem?_eq_some_iff.mp hn
      exact hm ((List.getElem_inj r.br.nd).mp (h2.2.trans h1.2.symm))
end
end G
end

section
/-! Sd16: append, pop, x[i] = v, x op= e, boxes. -/
namespace G
open PySem PySem.Spec PyProof.Rows L2
theorem line_size : line = sizeLine := by rw [sizeLine_eq]; rfl
/-- an own list, read -/
theorem Rel.ownC {W : Wd} {β0 β : List Addr} {H0 H : Hp} {S : G.St} {σs : Slots} {σ : L2.St} {i : Nat} {q : PV} (r : Rel W β0 H0 β S H σs σ) (h : getS σs i = some (.own, q)) (hc : cont q = true) : ∃ a, σ[i]? = some (some (.ref a)) ∧ Raw W β H a q ∧ a ∉ β ∧ H0 a = none := by
  obtain ⟨v, e, ⟨c0, _⟩ | ⟨a, rfl, h1, h2, h3⟩⟩ := r.own i q h
  · rw [c0] at hc; cases hc
  · exact ⟨a, e, h1, h2, h3⟩
section
variable {X : Cx} {M : Pm} {e a b c : Expr} {m ma mb mc : E} {pos p p2 : Pos}
theorem st_app {i : Nat} {x : Str} {pos2 : Pos} (hN : X.N[i]? = some x) (hv : Vis X.env.scope x) (hd : (x == ("__debug__" : Str)) = false) (hcd : (x == ("__classdict__" : Str)) = false) (he : SE X M e m)
    (hbase : attributeBase (.Name x p) "append" X.env (eval (.Name x p) X.env) = eval (.Name x p) X.env)
    (hfew : ((backTo pos (starEach [e] X.env)).all (fun x => !x.1) && (backToKw pos (keywordEach [] X.env)).all (fun x => x.1.isSome)
      && decide ([e].length + ([] : List Keyword).length + (if ([] : List Keyword).isEmpty then 0 else 1) < 30)) = true)
    (hline : (p2.endLine == pos.line) = true) (h1 : starEach [e] X.env = (false, eval e X.env) :: starEach [] X.env) (hpl : (backTo pos (starEach [] X.env)).any (·.1) = false)
    (hs : swapsWith (.Call (.Attribute (.Name x p) "append" p2) [e] [] pos) none pos2.line X.env = pure false) :
    PS X (.Expr (.Call (.Attribute (.Name x p) "append" p2) [e] [] pos) pos2) (tS M (.app i m)) := by
  refine impS (ps_expr (pe_bm PySem.F.plainAttrs_list F.slot_list_append F.type_list_append (fun pins s σ H x xs v us Q I rx rv h => mt_append pins s σ H x xs v us Q I rx rv h) (pe_var hN hv hd hcd) (pa_cons he.v pa_nil h1) hbase hfew hline h1 hpl) hs) fun D σ H ⟨σs, S, β, rel, sk⟩ => ?_
  simp only [exS] at sk
  split at sk
  · rename_i xs hg
    obtain ⟨a, ha, r, na, z⟩ := rel.ownC hg rfl
    obtain ⟨vs, hH, ra⟩ := r
    refine ⟨.ref a, ha, .inl ⟨rfl, vs, .of hH⟩, σs, S, β, rel, ?_⟩
    refine SK.lift rel sk fun q S1 v H1 β1 _ s1 r1 q1 sk1 => ?_
    have q1 : Rep M.W β1 H1 q v := q1
    have hH1 := s1.keep a _ hH na
    have ra1 := RepL.up s1.up _ ra
    split at sk1
    · rename_i hl
      refine ⟨a, vs, v, rfl, rfl, hH1, by rw [ra.length, ← line_size]; exact hl, ?_⟩
      have up : Up β1 β1 H1 (upd H1 a (.lst (vs ++ [v]))) := Up.frz1 hH1 trivial
      exact sk1 _ _ β1 up (r1.chg hg ha ⟨vs, hH1, ra1⟩ (s1.mem hH na) z ⟨vs ++ [v], upd_same, (RepL.up up _ ra1).append (RepL.one (Rep.up up _ q1))⟩)
    · exact sk1.elim
  · exact sk.elim
theorem repL_dropLast {W : Wd} {β : List Addr} {H : Hp} {xs : List PV} {vs : List V} (h : RepL W β H xs vs) : RepL W β H xs.dropLast vs.dropLast := by
  rw [List.dropLast_eq_take, List.dropLast_eq_take, h.length]
  exact h.take _
theorem st_pop {i j : Nat} {x y : Str} {py : Pos} (hN : X.N.Nodup) (hj : X.N[j]? = some y) (hy : Loc X.env.scope y) (hi : X.N[i]? = some x) (hv : Vis X.env.scope x) (hd : (x == ("__debug__" : Str)) = false) (hcd : (x == ("__classdict__" : Str)) = false)
    (hbase : attributeBase (.Name x p) "pop" X.env (eval (.Name x p) X.env) = eval (.Name x p) X.env) (hline : (p2.endLine == pos.line) = true) {pos2 : Pos}
    (hs : swapsWith (.Call (.Attribute (.Name x p) "pop" p2) [] [] pos) (some (.Name y py)) pos2.line X.env = pure false) (hf : X.fn y = true ∨ X.env.scope.names.lookup y = some .local) :
    PS X (.Assign [.Name y py] (.Call (.Attribute (.Name x p) "pop" p2) [] [] pos) pos2) (tS M (.pop (some j) i [])) := by
  refine impS (ps_set hN hj hy (pe_bm0 PySem.F.plainAttrs_list F.slot_list_pop F.type_list_pop (fun pins s σ H x xs v us Q I rx rv h => mt_pop pins s σ H x xs v us Q I rx rv h) (pe_var hi hv hd hcd) hbase hline) hs hf) fun D σ H ⟨σs, S, β, rel, sk⟩ => ?_
  simp only [exS] at sk
  split at sk
  · rename_i j' xs e1 hg _
    cases e1
    obtain ⟨a, ha, r, na, z⟩ := rel.ownC hg rfl
    obtain ⟨vs, hH, ra⟩ := r
    split at sk
    · rename_i q hq
      rw [List.getLast?_eq_getElem?] at hq
      obtain ⟨v, e2, rv⟩ := ra.get hq
      have up : Up β β H (upd H a (.lst vs.dropLast)) := Up.frz1 hH trivial
      refine ⟨.ref a, ha, .inl ⟨rfl, vs, .of hH⟩, a, vs, v, rfl, rfl, hH, by rw [ra.length]; exact e2, ?_⟩
      have r2 := rel.chg (q' := .lst xs.dropLast) (u := .lst vs.dropLast) hg ha ⟨vs, hH, ra⟩ na z ⟨vs.dropLast, upd_same, repL_dropLast (RepL.up up _ ra)⟩
      exact sk _ _ β up (r2.setVal _ (Rep.up up _ rv))
    · exact sk.elim
  · exact sk.elim

/-! ### x[i] = v -/
theorem setItem_lst {xs : List PV} {j : PV} {v r : PV} (h : setItem (.lst xs) j v = some r) : ∃ k n, j = .int k ∧ ixN xs.length k = some n ∧ r = .lst (xs.set n v) := by
  unfold setItem at h
  simp only at h
  split at h
  · rename_i k
    refine ⟨k, ?_⟩
    split at h
    · rename_i c
      cases h
      refine ⟨k.toNat, rfl, ?_, rfl⟩
      unfold ixN
      rw [if_pos c.1, if_pos c.2]
    · split at h
      · rename_i c
        cases h
        refine ⟨(k + xs.length).toNat, rfl, ?_, rfl⟩
        unfold ixN
        rw [if_neg (by omega), if_pos c.2]
      · cases h
  · cases h
/-- a store into a dict -/
def rSetD (W : Wd) : V → V → V → Hp → (Hp → Prop) → Prop := fun o i v H Q => ∃ β ks ws j q r a, o = .ref a ∧ Raw W β H a (.dct ks ws) ∧ Rep W β H j i ∧ Rep W β H q v ∧ setItem (.dct ks ws) j q = some r ∧ ∀ u, Raw W β (upd H a u) a r → Q (upd H a u)
theorem set_dx {W : Wd} (hK : SameW W X) (hu : X.A.units + 65 < cLine) : PSet X (rSetD W) := by
  intro pins s σ H o i v ov iv u Q I r1 r2 r3 h
  obtain ⟨β, ks, ws, j, q, r, a, rfl, d, rj, rq, e, hQ⟩ := h
  obtain rfl : ov = Value.ref a := r1
  simp only [setItem] at e
  split at e
  · rename_i c
    simp only [Option.some.injEq] at e
    subst e
    exact dd_setItem hK.k hK.w I hu d rj c.1 c.2 r2 rq r3 fun w' s' I' rw' => ⟨_, I', hQ w' rw'⟩
  · cases e
theorem pset_or {t t' : TSet} (h : PSet X t) (h' : PSet X t') : PSet X (fun o i v H Q => t o i v H Q ∨ t' o i v H Q) := by
  intro pins s σ H o i v ov iv u Q I r1 r2 r3 q
  rcases q with q | q
  · exact h pins s σ H o i v ov iv u Q I r1 r2 r3 q
  · exact h' pins s σ H o i v ov iv u Q I r1 r2 r3 q
/-- what a store does to a thing at a -/
theorem set_ok {W : Wd} {β : List Addr} {H : Hp} {a : Addr} {d j q r : PV} {i v : V} {Q : Hp → Prop} (hr : Raw W β H a d) (hj : Rep W β H j i) (hq : Rep W β H q v) (h : setItem d j q = some r) (g : ∀ u, Raw W β (upd H a u) a r → Q (upd H a u)) :
    rSetL (.ref a) i v H Q ∨ rSetD W (.ref a) i v H Q := by
  cases d with
  | lst xs =>
    obtain ⟨vs, hH, ra⟩ := hr
    obtain ⟨k, n, rfl, hn, rfl⟩ := setItem_lst h
    simp only [Rep] at hj
    have up : Up β β H (upd H a (.lst (vs.set n v))) := Up.frz1 hH trivial
    exact .inl ⟨a, vs, k, n, rfl, hj, hH, by rw [ra.length]; exact hn, g _ ⟨vs.set n v, upd_same, RepL.set n (RepL.up up _ ra) (Rep.up up _ hq)⟩⟩
  | dct ks ws => exact .inr ⟨β, ks, ws, j, q, r, a, rfl, hr, hj, hq, h, g⟩
  | _ => exact hr.elim
theorem st_setI {k : Nat} {x : Str} {ie : Expr} {mi : E} {pos2 : Pos} (hK : SameW M.W X) (hu : X.A.units + 65 < cLine) (hk : X.N[k]? = some x) (hv : Vis X.env.scope x) (hd : (x == ("__debug__" : Str)) = false) (hcd : (x == ("__classdict__" : Str)) = false) (he : SE X M e m) (hi : SE X M ie mi)
    (ha : ∀ v, assign (.Subscript (.Name x p) ie pos) X.env v = (do
      let ov ← holding [v] (eval (.Name x p) X.env)
      let iv ← holding [v, ov] (eval ie X.env)
      standAt pos
      holding [v, ov, iv] (PySem.setItem ov iv v)
      release [v, ov, iv] []))
    (hs : swapsWithSole [.Subscript (.Name x p) ie pos] e pos2.line X.env = pure false) (hw : swappedStores [.Subscript (.Name x p) ie pos] e X.env = pure none) (h1 : (assignEach [.Subscript (.Name x p) ie pos] X.env).map (·.2) = [assign (.Subscript (.Name x p) ie pos) X.env]) :
    PS X (.Assign [.Subscript (.Name x p) ie pos] e pos2) (tS M (.setI k mi m)) := by
  refine impS (ps_asg he.v (pg_sub (pe_var hk hv hd hcd) hi.v (pset_or set_list (set_dx hK hu)) ha) hs hw h1) fun D σ H ⟨σs, S, β, rel, sk⟩ => ⟨σs, S, β, rel, ?_⟩
  simp only [exS] at sk
  refine SK.lift rel sk fun q S1 v H1 β1 _ s1 r1 q1 sk1 => ?_
  have q1 : Rep M.W β1 H1 q v := q1
  cases hg : getS σs k with
  | none => rw [hg] at sk1; exact sk1.elim
  | some w =>
    obtain ⟨t, d⟩ := w
    rw [hg] at sk1
    simp only at sk1
    obtain ⟨o, ho, ro⟩ := r1.read hg
    refine ⟨o, ho, σs, S1, β1, r1, ?_⟩
    refine SK.lift r1 sk1 fun j S2 i H2 β2 _ s2 r2 qi sk2 => ?_
    have qi : Rep M.W β2 H2 j i := qi
    have q2 : Rep M.W β2 H2 q v := Rep.up s2.up _ q1
    split at sk2
    · rename_i n
      rcases ro with ro | ⟨a, _, ro, _⟩
      · simp only [Rep] at ro
        obtain ⟨a, rfl, hβ⟩ := ro
        have hβ2 : β2[n]? = some a := by
          obtain ⟨z, rfl⟩ := s2.up.pre
          rw [List.getElem?_append_left (List.getElem?_eq_some_iff.mp hβ).1]
          exact hβ
        split at sk2
        · rename_i b hb
          obtain ⟨a', e1, ra⟩ := r2.br.cell n b hb
          rw [hβ2] at e1; cases e1
          split at sk2
          · rename_i b' hb'
            refine set_ok ra qi q2 hb' fun u ru => ?_
            obtain ⟨u0, hu0, mu⟩ := ra.tracked
            exact sk2 _ _ β2 (Up.frz1 hu0 mu) (r2.box hβ2 ra ru)
          · exact sk2.elim
        · exact sk2.elim
      · exact ro.elim
    · split at sk2
      · rename_i c
        obtain ⟨ht, hc⟩ := c
        subst ht
        obtain ⟨a, ha, ra, na, z⟩ := r2.ownC hg hc
        rw [ho] at ha; cases ha
        split at sk2
        · rename_i b' hb'
          refine set_ok ra qi q2 hb' fun u ru => ?_
          obtain ⟨u0, hu0, mu⟩ := ra.tracked
          exact sk2 _ _ β2 (Up.frz1 hu0 mu) (r2.chg hg ho ra na z ru)
        · exact sk2.elim
      · exact sk2.elim

/-! ### x op= e -/
def opA : Bop → Operator
  | .add => .Add
  | .sub => .Sub
  | .mul => .Mult
  | .fdiv => .FloorDiv
  | .mod => .Mod
  | .pow => .Pow
def rAug (o : Bop) : TIp := fun x y H Q => ∃ i j r, x = .int i ∧ y = .int j ∧ augV o i j = some r ∧ Q (.int r) H
theorem ip_aug (o : Bop) : PIp X (opA o) (rAug o) := by
  intro pins s σ H x y v u Q I rx ry ⟨i, j, r, ex, ey, h, q⟩
  cases o with
  | add =>
    simp only [augV, Option.some.injEq] at h
    exact iop_add pins s σ H x y v u Q I rx ry ⟨i, j, ex, ey, by subst h; exact q⟩
  | sub =>
    simp only [augV, Option.some.injEq] at h
    exact iop_sub pins s σ H x y v u Q I rx ry ⟨i, j, ex, ey, by subst h; exact q⟩
  | mul =>
    simp only [augV] at h
    split at h
    · rename_i c
      simp only [Option.some.injEq] at h
      refine iop_mul pins s σ H x y v u Q I rx ry ⟨i, j, ex, ey, ?_, by subst h; exact q⟩
      unfold CMul
      simp only [Bool.or_eq_true, small, decide_eq_true_eq] at c
      rcases c with c | c
      · left; omega
      · right; omega
    · cases h
  | fdiv =>
    simp only [augV] at h
    split at h
    · rename_i c
      simp only [Option.some.injEq] at h
      exact iop_fdiv pins s σ H x y v u Q I rx ry ⟨i, j, ex, ey, c, by subst h; exact q⟩
    · cases h
  | mod =>
    simp only [augV] at h
    split at h
    · rename_i c
      simp only [Option.some.injEq] at h
      exact iop_mod pins s σ H x y v u Q I rx ry ⟨i, j, ex, ey, c, by subst h; exact q⟩
    · cases h
  | pow => cases h
theorem st_aug {i : Nat} {x : Str} {o : Bop} (hN : X.N.Nodup) (hi : X.N[i]? = some x) (hx : Loc X.env.scope x) (he : SE X M e m) (hf : X.fn x = true ∨ X.env.scope.names.lookup x = some .local) {px : Pos} :
    PS X (.AugAssign (.Name x px) (opA o) e pos) (tS M (.aug i o m)) := by
  refine impS (ps_aug hN hi hx he.v (ip_aug o) hf) fun D σ H ⟨σs, S, β, rel, sk⟩ => ?_
  simp only [exS] at sk
  split at sk
  · rename_i t k hg
    obtain ⟨v, hv, rv⟩ := rel.read hg
    refine ⟨v, hv, σs, S, β, rel, ?_⟩
    refine SK.lift rel sk fun q S1 u H1 β1 _ s1 r1 q1 sk1 => ?_
    have q1 : Rep M.W β1 H1 q u := q1
    split at sk1
    · split at sk1
      · rename_i r hr
        have e1 := rv.b.int
        have e2 := RdB.int (W := M.W) (β := β1) (H := H1) (Or.inl q1)
        exact ⟨k, _, r, e1, e2, hr, sk_nx sk1 (r1.setVal i int_rep)⟩
      · exact sk1.elim
    · exact sk1.elim
  · exact sk.elim

/-! ### boxes -/
theorem s_box {es : List Expr} {k : Nat} (h : SE X M (.List es pos) m) (hf : frE m = true) (br : Bool) : PE X (.List es pos) (tE M (kn br (.box m)) br (.box m)) := by
  refine impE h.o fun σ H Q ⟨σs, S, β, rel, ek⟩ => ⟨σs, S, β, rel, ?_⟩
  simp only [evE] at ek
  revert ek
  cases evE M.C m false σs S with
  | no => exact fun ek => ek
  | ex e S' => exact fun ek => ek
  | ok q S1 =>
    intro ek v H1 β1 s1 b1 q1
    have q1 : Res M.W .own β H β1 H1 q v := by simpa [kn, hf] using q1
    simp only [G.R.bind] at ek
    rcases q1 with ⟨q1, q2⟩ | ⟨a, rfl, r, n, z⟩
    · rw [if_neg (by rw [q2]; exact Bool.false_ne_true)] at ek
      exact ek.elim
    · rw [if_pos r.cont] at ek
      refine ek (.ref a) H1 (β1 ++ [a]) ⟨⟨s1.up.tup, s1.up.frz, s1.up.pre.trans (List.prefix_append _ _)⟩, s1.keep, fun c hc => ?_⟩ ⟨?_, ?_, ?_⟩ (res_rep (kn_ne rfl) ?_)
      · rcases List.mem_append.mp hc with hc | hc
        · exact s1.new c hc
        · rw [List.mem_singleton.mp hc]; exact .inr z
      · rw [List.length_append, List.length_append, b1.len]; rfl
      · rw [List.nodup_append]
        exact ⟨b1.nd, by simp, fun x hx y hy => by rw [List.mem_singleton.mp hy]; rintro rfl; exact n hx⟩
      · intro i p hp
        have up : Up β1 (β1 ++ [a]) H1 H1 := ⟨fun _ _ h => h, fun _ _ _ h => h, List.prefix_append _ _⟩
        by_cases hi : i < S1.length
        · rw [List.getElem?_append_left hi] at hp
          obtain ⟨c, e1, e2⟩ := b1.cell i p hp
          refine ⟨c, ?_, e2.up up fun o h => h⟩
          rw [List.getElem?_append_left (by rw [b1.len]; exact hi)]
          exact e1
        · rw [List.getElem?_append_right (by omega)] at hp
          have h0 : i - S1.length = 0 := by
            have := (List.getElem?_eq_some_iff.mp hp).1
            simp at this
            omega
          rw [h0] at hp
          simp only [List.getElem?_cons_zero, Option.some.injEq] at hp
          subst hp
          refine ⟨a, ?_, r.up up fun o h => h⟩
          rw [List.getElem?_append_right (by rw [b1.len]; omega), b1.len, h0]
          rfl
      · simp only [Rep]
        refine ⟨a, rfl, ?_⟩
        rw [List.getElem?_append_right (by rw [b1.len]; omega), b1.len]
        simp
end
end G
end

section
/-! Ck1: the checker of expressions: facts by forms. -/
namespace G
open PySem PySem.Spec PyProof.Rows L2
/-! ### by a form's head alone -/
def notStar : Expr → Bool
  | .Starred _ _ => false
  | _ => true
theorem star_cons {e : Expr} {es : List Expr} {env : Env} (h : notStar e = true) : starEach (e :: es) env = (false, eval e env) :: starEach es env := by
  cases e <;> first | rfl | cases h
theorem star_plain {pos : Pos} {env : Env} : ∀ {es : List Expr}, (es.all notStar = true) → (backTo pos (starEach es env)).any (·.1) = false
  | [], _ => rfl
  | e :: es, h => by
    simp only [List.all_cons, Bool.and_eq_true] at h
    rw [star_cons h.1]
    have := star_plain (pos := pos) (env := env) h.2
    unfold backTo at this ⊢
    simp only [List.map_cons, List.any_cons, Bool.false_or]
    exact this
def notSetE : Expr → Bool
  | .Set _ _ _ => false
  | _ => true
theorem folded_no {e : Expr} {env : Env} (h : notSetE e = true) (x : Value) : foldedSetIterable e env x = pure x := by
  cases e <;> first | rfl | cases h
theorem behind_no {e : Expr} {op : CmpOp} (h : notSetE e = true) : behindInMarks op e = false := by
  cases e <;> first | rfl | cases h
def notLc : Expr → Bool
  | .ListComp _ _ _ _ => false
  | .SetComp _ _ _ _ => false
  | .DictComp _ _ _ _ _ => false
  | _ => true
theorem swaps_no {e : Expr} {t : Option Expr} {l : Nat} {env : Env} (h : notLc e = true) : swapsWith e t l env = pure false := by
  cases e <;> first | rfl | cases h
theorem swapsS_no {e t : Expr} {l : Nat} {env : Env} (h : notLc e = true) : swapsWithSole [t] e l env = pure false := by
  unfold swapsWithSole
  exact swaps_no h
def notTup : Expr → Bool
  | .Tuple _ _ _ => false
  | _ => true
theorem stores_no {e t : Expr} {env : Env} (h : notTup e = true) : swappedStores [t] e env = pure none := by
  cases e <;> first | (cases h; done) | (cases t <;> rfl)
theorem stores_sub {e o i : Expr} {p : Pos} {env : Env} : swappedStores [.Subscript o i p] e env = pure none := by
  cases e <;> rfl
theorem assign1 {t : Expr} {env : Env} (h : notStar t = true) : (assignEach [t] env).map (·.2) = [assign t env] := by
  cases t <;> first | rfl | cases h
/-! ### names -/
def isDbg (x : Str) : Bool := x == ("__debug__" : Str)
def isCd (x : Str) : Bool := x == ("__classdict__" : Str)
abbrev Ns := List (Str × NameKind)
def vis (N : List Str) (sc : Ns) (x : Str) (i : Nat) : Bool := decide (N[i]? = some x) && (match sc.lookup x with | some .local => true | some .cell => true | some .free => true | _ => false) && !isDbg x && !isCd x
def loc (N : List Str) (sc : Ns) (x : Str) (i : Nat) : Bool := decide (N[i]? = some x) && (match sc.lookup x with | some .local => true | some .cell => true | _ => false)
def gl (sc : Ns) (x : Str) : Bool := (match sc.lookup x with | some .globalImplicit => true | _ => false) && !isDbg x
structure Md where
  fns : List (Str × Nat × Nat)
  cs : List (Str × Nat)
  free : List Str
/-- a def that may be called by its name, where the name is the module's -/
structure FnY (X : Cx) (M : Pm) (x : Str) (f np : Nat) : Prop where
  mg : X.mg x = some (.ref (M.W.fa f))
  kp : PySem.W.keepIn X.K (.ref (M.W.fa f)) = true
  ok : ∃ k fd ps, FnOk X.prog X.w X.K X.mg X.base (L2.CX X.prog X.w) k (M.W.fa f) fd ps (spF M.W (M.C.call f) np) ∧ Room k X.A ∧ Binds X.K fd ps []
theorem FnY.x {X : Cx} {M : Pm} {x : Str} {f np : Nat} (h : FnY X M x f np) (g : Gl X x) : FnX X M x f np := ⟨g, h.mg, h.kp, h.ok⟩
structure Ok (X : Cx) (M : Pm) (md : Md) (N : List Str) (sc : Ns) : Prop where
  eK : M.W.K = X.K
  ew : M.W.w = X.w
  ecalm : X.calm = true
  eN : X.N = N
  end_ : N.Nodup
  ekind : X.env.scope.kind = .function
  esc : ∀ x k, sc.lookup x = some k → X.env.scope.names.lookup x = some k ∨ (k = .free ∧ X.env.scope.names.lookup x = some .cell)
  efn : ∀ x, sc.lookup x = some .cell → X.fn x = true
  un : X.A.units + 100 < cLine
  tk : Takes X M.Wx
  efns : ∀ q ∈ md.fns, FnY X M q.1 q.2.1 q.2.2
  ecs : ∀ q ∈ md.cs, ∃ u v, X.mg q.1 = some u ∧ RelV v u ∧ ∀ β H, Rep M.W β H (M.C.glob q.2) v
  efree : ∀ x ∈ md.free, X.mg x = none
section
variable {X : Cx} {M : Pm} {md : Md} {N : List Str} {sc : Ns} {x : Str} {i : Nat}
theorem Ok.eW (o : Ok X M md N sc) : SameW M.W X := ⟨o.eK, o.ew⟩
theorem Ok.nd' (o : Ok X M md N sc) : X.N.Nodup := by rw [o.eN]; exact o.end_
theorem Ok.vis (o : Ok X M md N sc) (h : vis N sc x i = true) : X.N[i]? = some x ∧ Vis X.env.scope x ∧ (x == ("__debug__" : Str)) = false ∧ (x == ("__classdict__" : Str)) = false := by
  unfold G.vis isDbg isCd at h
  simp only [Bool.and_eq_true, decide_eq_true_eq, Bool.not_eq_true'] at h
  obtain ⟨⟨⟨h1, h2⟩, h3⟩, h4⟩ := h
  refine ⟨by rw [o.eN]; exact h1, ?_, h3, h4⟩
  split at h2
  · rename_i e; rcases o.esc x _ e with q | ⟨q, _⟩
    · exact .inl q
    · cases q
  · rename_i e; rcases o.esc x _ e with q | ⟨q, _⟩
    · exact .inr (.inl q)
    · cases q
  · rename_i e; rcases o.esc x _ e with q | ⟨_, q⟩
    · exact .inr (.inr q)
    · exact .inr (.inl q)
  · cases h2
theorem Ok.loc (o : Ok X M md N sc) (h : loc N sc x i = true) : X.N[i]? = some x ∧ Loc X.env.scope x ∧ (X.fn x = true ∨ X.env.scope.names.lookup x = some .local) := by
  unfold G.loc at h
  simp only [Bool.and_eq_true, decide_eq_true_eq] at h
  obtain ⟨h1, h2⟩ := h
  refine ⟨by rw [o.eN]; exact h1, ?_⟩
  split at h2
  · rename_i e; rcases o.esc x _ e with q | ⟨q, _⟩
    · exact ⟨.inl q, .inr q⟩
    · cases q
  · rename_i e; rcases o.esc x _ e with q | ⟨q, _⟩
    · exact ⟨.inr q, .inl (o.efn x e)⟩
    · cases q
  · cases h2
theorem Ok.gl (o : Ok X M md N sc) (h : gl sc x = true) : Gl X x ∧ (x == ("__debug__" : Str)) = false := by
  unfold G.gl isDbg at h
  simp only [Bool.and_eq_true, Bool.not_eq_true'] at h
  obtain ⟨h1, h2⟩ := h
  refine ⟨?_, h2⟩
  split at h1
  · rename_i e; rcases o.esc x _ e with q | ⟨q, _⟩
    · exact q
    · cases q
  · cases h1
def free (md : Md) (sc : Ns) (x : Str) : Bool := gl sc x && decide (x ∈ md.free)
theorem Ok.free' (o : Ok X M md N sc) (h : free md sc x = true) : Free X x := by
  unfold G.free at h
  simp only [Bool.and_eq_true, decide_eq_true_eq] at h
  exact ⟨(o.gl h.1).1, o.efree x h.2⟩
/-! ### targets -/
def chkNames (N : List Str) (sc : Ns) : List Expr → List Nat → Bool
  | [], [] => true
  | e :: es, i :: is => (match e with | .Name x _ => loc N sc x i | _ => false) && chkNames N sc es is
  | _, _ => false
def chkT (N : List Str) (sc : Ns) (e : Expr) : Tg → Bool
  | .nm i => (match e with | .Name x _ => loc N sc x i | _ => false)
  | .tp is => (match e with | .Tuple es _ _ => chkNames N sc es is | _ => false)
theorem names_ok (o : Ok X M md N sc) : ∀ {es : List Expr} {is : List Nat}, chkNames N sc es is = true → PGs X es (gNames is) ∧ (assignEach es X.env).length = is.length ∧ (assignEach es X.env).findIdx? (·.1) = none
  | [], [], _ => ⟨pgs_nil, rfl, rfl⟩
  | [], _ :: _, h => by cases h
  | _ :: _, [], h => by cases h
  | e :: es, i :: is, h => by
    simp only [chkNames, Bool.and_eq_true] at h
    obtain ⟨h1, h2⟩ := h
    obtain ⟨k1, k2, k3⟩ := names_ok o h2
    cases e <;> first | (cases h1; done) | skip
    rename_i x p
    obtain ⟨a, b, c⟩ := o.loc h1
    refine ⟨pgs_cons (pg_name o.nd' a b c) k1 rfl, ?_, ?_⟩
    · show (_ :: assignEach es X.env).length = _
      simp [k2]
    · show (((false, _) :: assignEach es X.env).findIdx? (·.1)) = none
      rw [List.findIdx?_cons]
      simp [k3]
theorem tgt_ok (o : Ok X M md N sc) {e : Expr} {g : Tg} (h : chkT N sc e g = true) : PG X e (gT X.K g) := by
  cases g with
  | nm i =>
    cases e <;> first | (cases h; done) | skip
    obtain ⟨a, b, c⟩ := o.loc h
    exact pg_name o.nd' a b c
  | tp is =>
    cases e <;> first | (cases h; done) | skip
    obtain ⟨a, b, c⟩ := names_ok o h
    exact pg_tup o.ecalm a b c
end
/-! ### constants -/
def constB : Const → PV → Bool
  | .none, v => (match v with | .non => true | _ => false)
  | .bool b, v => (match v with | .bl c => b == c | _ => false)
  | .int i, v => (match v with | .int j => i == j | _ => false)
  | .str s, v => (match v with | .str t => decide (s = t) | _ => false)
  | _, _ => false
section
variable {X : Cx} {M : Pm} {md : Md} {N : List Str} {sc : Ns}
theorem const_ok {c : Const} {v : PV} {k : Nat} {p : Pos} (h : constB c v = true) (br : Bool) : PE X (.Constant c k p) (tE M (kn br (.k v)) br (.k v)) := by
  cases c with
  | none => cases v <;> first | (cases h; done) | exact s_k pe_non (fun _ _ => by simp only [Rep]) br
  | bool b => cases v <;> first | (cases h; done) | (have e := eq_of_beq h; subst e; exact s_k pe_bl (fun _ _ => by simp only [Rep]) br)
  | int b => cases v <;> first | (cases h; done) | (have e := eq_of_beq h; subst e; exact s_k pe_int (fun _ _ => by simp only [Rep]) br)
  | str b => cases v <;> first | (cases h; done) | (have e := of_decide_eq_true h; subst e; exact s_k pe_str (fun _ _ => by simp only [Rep]) br)
  | _ => cases h
/-! ### tests of more forms -/
variable {a b c : Expr} {ma mb mc : E} {pos : Pos}
theorem t_isN {j pos'} (ha : SE X M a ma) : PT X (.Compare a [.Is] [.Constant .none j pos'] pos) (tT M (.isN ma)) := by
  refine impT (pt_cmp (pc_isN ha.r) rfl) fun σ H Q ⟨σs, S, β, rel, ek⟩ => ?_
  simp only [evE, bind_assoc] at ek
  refine ⟨σs, S, β, rel, ek.bind fun p S1 v H1 β1 _ s1 b1 q1 ek1 => ?_⟩
  rw [q1.b.isNon] at ek1
  exact ⟨_, rfl, ek1.done b1 rfl⟩
theorem t_notN {j pos'} (ha : SE X M a ma) : PT X (.Compare a [.IsNot] [.Constant .none j pos'] pos) (tT M (.notN ma)) := by
  refine impT (pt_cmp (pc_notN ha.r) rfl) fun σ H Q ⟨σs, S, β, rel, ek⟩ => ?_
  simp only [evE, bind_assoc] at ek
  refine ⟨σs, S, β, rel, ek.bind fun p S1 v H1 β1 _ s1 b1 q1 ek1 => ?_⟩
  rw [q1.b.isNon] at ek1
  exact ⟨_, rfl, ek1.done b1 rfl⟩
end
end G
end

section
/-! Ck2: the checker of expressions. -/
namespace G
open PySem PySem.Spec PyProof.Rows L2
def chkL (f : Expr → E → Bool) : List Expr → List E → Bool
  | [], [] => true
  | e :: es, m :: ms => notStar e && f e m && chkL f es ms
  | _, _ => false
def ne1 {α : Type} : List α → Bool
  | [] => false
  | _ => true
/-- what may be tested -/
def tst : Expr → Bool
  | .IfExp _ _ _ _ => false
  | _ => true
def btNm : Bt → Option Str
  | .tuple => some "tuple"
  | .list => some "list"
  | .sum => some "sum"
  | .sorted => some "sorted"
  | _ => none
def isTupT : Expr → Bool
  | .Tuple _ _ _ => true
  | _ => false
def chkTys (md : Md) (sc : Ns) : List Expr → List Ty → Bool
  | [], [] => true
  | e :: es, t :: ts => (match e with | .Name x _ => decide (x = tyStr t) && plainTy t && free md sc x | _ => false) && chkTys md sc es ts
  | _, _ => false
/-- an iterable of a comprehension -/
def chkIc (md : Md) (sc : Ns) (f : Expr → E → Bool) (tg e : Expr) (m : E) : Bool := match m with
  | .range ms => (match e with
    | .Call fe es kw _ => (match fe, kw with
      | .Name x _, [] => decide (x = ("range" : Str)) && free md sc x && chkL f es ms && decide (ms.length = 1 ∨ ms.length = 2)
      | _, _ => false)
    | _ => false)
  | .enum a => (match e with
    | .Call fe es kw _ => (match fe, es, kw with
      | .Name x _, [e'], [] => decide (x = ("enumerate" : Str)) && free md sc x && notStar e' && f e' a && isTupT tg
      | _, _, _ => false)
    | _ => false)
  | m => f e m
def ownOf (N : List Str) (is : List Nat) : List (Str × Nat) := is.filterMap fun i => match N[i]? with | some x => some (x, i) | none => none
def chkE (md : Md) (N : List Str) : Nat → Ns → Expr → E → Bool
  | 0, _, _, _ => false
  | n + 1, sc, e, m => match m with
    | .var i => (match e with | .Name x _ => vis N sc x i | _ => false)
    | .k v => (match e with | .Constant c _ _ => constB c v | _ => false)
    | .glob c => (match e with | .Name x _ => gl sc x && decide ((x, c) ∈ md.cs) | _ => false)
    | .fnv g => (match e with | .Name x _ => gl sc x && md.fns.any (fun q => decide (q.1 = x) && decide (q.2.1 = g)) | _ => false)
    | .tup ms => (match e with | .Tuple es _ _ => chkL (chkE md N n sc) es ms && decide (ms.length < 1000) | _ => false)
    | .lst ms => (match e with | .List es _ => chkL (chkE md N n sc) es ms && decide (ms.length < 1000) | _ => false)
    | .box m' => (match e with | .List _ _ => frE m' && chkE md N n sc e m' | _ => false)
    | .bin o a b => (match e with | .BinOp a' op b' _ => decide (op = opOf o) && chkE md N n sc a' a && chkE md N n sc b' b | _ => false)
    | .neg a => (match e with | .UnaryOp op a' _ => decide (op = .USub) && chkE md N n sc a' a | _ => false)
    | .not_ a => (match e with | .UnaryOp op a' _ => decide (op = .Not) && chkE md N n sc a' a && tst a' | _ => false)
    | .and_ ms => (match e with | .BoolOp op es _ => decide (op = .And) && chkL (chkE md N n sc) es ms && es.all tst && ne1 es | _ => false)
    | .or_ ms => (match e with | .BoolOp op es _ => decide (op = .Or) && chkL (chkE md N n sc) es ms && es.all tst && ne1 es | _ => false)
    | .cmp o a b => (match e with
      | .Compare a' ops bs _ => (match ops, bs with
        | [op], [b'] => decide (op = copOf o) && chkE md N n sc a' a && chkE md N n sc b' b && notSetE b'
        | _, _ => false)
      | _ => false)
    | .chain o o' a b c => (match e with
      | .Compare a' ops bs _ => (match ops, bs with
        | [op, op'], [b', c'] => decide (op = copOf o) && decide (op' = copOf o') && chkE md N n sc a' a && chkE md N n sc b' b && chkE md N n sc c' c && notSetE b' && notSetE c'
        | _, _ => false)
      | _ => false)
    | .isN a => (match e with
      | .Compare a' ops bs _ => (match ops, bs with
        | [op], [.Constant c _ _] => decide (op = .Is) && decide (c = .none) && chkE md N n sc a' a
        | _, _ => false)
      | _ => false)
    | .notN a => (match e with
      | .Compare a' ops bs _ => (match ops, bs with
        | [op], [.Constant c _ _] => decide (op = .IsNot) && decide (c = .none) && chkE md N n sc a' a
        | _, _ => false)
      | _ => false)
    | .ife c a b => (match e with | .IfExp c' a' b' _ => chkE md N n sc c' c && tst c' && chkE md N n sc a' a && chkE md N n sc b' b | _ => false)
    | .idx a i => (match e with | .Subscript a' i' _ => chkE md N n sc a' a && chkE md N n sc i' i && plainIxB i' | _ => false)
    | .slice a lo hi => (match e with
      | .Subscript a' s _ => (match s with
        | .Slice l h st _ => (match st with
          | none => chkE md N n sc a' a && (match l, lo with | none, [] => true | some l', [m'] => chkE md N n sc l' m' | _, _ => false) && (match h, hi with | none, [] => true | some l', [m'] => chkE md N n sc l' m' | _, _ => false)
          | _ => false)
        | _ => false)
      | _ => false)
    | .call g ms => (match e with
      | .Call fe es kw _ => (match fe, kw with
        | .Name x _, [] => gl sc x && md.fns.any (fun q => decide (q.1 = x) && decide (q.2.1 = g) && decide (q.2.2 = ms.length)) && ne1 es && chkL (chkE md N n sc) es ms
        | _, _ => false)
      | _ => false)
    | .bi b ms => (match e with
      | .Call fe es kw _ => (match fe, kw with
        | .Name x _, [] => decide (x = biNm b) && free md sc x && ne1 es && chkL (chkE md N n sc) es ms
        | _, _ => false)
      | _ => false)
    | .bit b a => (match e with
      | .Call fe es kw _ => (match fe, es, kw with
        | .Name x _, [e'], [] => decide (btNm b = some x) && free md sc x && notStar e' && chkE md N n sc e' a
        | _, _, _ => false)
      | _ => false)
    | .isin a ts => (match e with
      | .Call fe es kw _ => (match fe, es, kw with
        | .Name x _, [e', t], [] => decide (x = ("isinstance" : Str)) && free md sc x && notStar e' && chkE md N n sc e' a && (match t, ts with
          | .Name y _, [t'] => decide (y = tyStr t') && plainTy t' && free md sc y
          | .Tuple ys _ _, ts => chkTys md sc ys ts && decide (ts.length < 100)
          | _, _ => false)
        | _, _, _ => false)
      | _ => false)
    | .comp elt tg it cs => (match e with
      | .ListComp elt' gs scope _ => (match gs with
        | [⟨tg', it', ifs, as⟩] => decide (as = 0) && chkIc md sc (chkE md N n sc) tg' it' it && blkC N ⟨.function, sc, false, false, []⟩ scope (ownOf N (tgs tg)) && decide ((ownOf N (tgs tg)).map (·.2) = tgs tg) && chkT N scope.names tg' tg
          && chkE md N n scope.names elt' elt && notSetE it' && (match ifs, cs with | [], [] => true | [c'], [c] => chkE md N n scope.names c' c && tst c' | _, _ => false)
        | _ => false)
      | _ => false)
    | _ => false
end G
end

section
/-! Ck3: what the checker of expressions shows. -/
namespace G
open PySem PySem.Spec PyProof.Rows L2
theorem band {a b : Bool} (h : (a && b) = true) : a = true ∧ b = true := by
  rw [Bool.and_eq_true] at h; exact h
section
variable {X : Cx} {M : Pm} {md : Md} {N : List Str} {sc : Ns}
/-- what a checked form has -/
structure Sn (X : Cx) (M : Pm) (e : Expr) (m : E) : Prop where
  se : SE X M e m
  pt : tst e = true → PT X e (tT M m)
def Snd (f : Expr → E → Bool) (X : Cx) (M : Pm) : Prop := ∀ e m, f e m = true → Sn X M e m
theorem L_all {f : Expr → E → Bool} : ∀ {es : List Expr} {ms : List E}, chkL f es ms = true → es.all notStar = true ∧ es.length = ms.length
  | [], [], _ => ⟨rfl, rfl⟩
  | [], _ :: _, h => by cases h
  | _ :: _, [], h => by cases h
  | e :: es, m :: ms, h => by
    unfold chkL at h
    obtain ⟨h, h3⟩ := band h
    obtain ⟨h1, h2⟩ := band h
    obtain ⟨k1, k2⟩ := L_all h3
    exact ⟨by simp only [List.all_cons, h1, k1]; rfl, by simp [k2]⟩
theorem L_ses {f : Expr → E → Bool} (F : Snd f X M) : ∀ {es : List Expr} {ms : List E}, chkL f es ms = true → SEs X M es ms
  | [], [], _ => SEs.nil
  | [], _ :: _, h => by cases h
  | _ :: _, [], h => by cases h
  | e :: es, m :: ms, h => by
    unfold chkL at h
    obtain ⟨h, h3⟩ := band h
    obtain ⟨h1, h2⟩ := band h
    exact SEs.cons (F _ _ h2).se (L_ses F h3) (star_cons h1)
theorem Sn.val {e : Expr} {m : E} (h : ∀ br, PE X e (tE M (kn br m) br m)) (he : ∀ whole, isTrue e X.env whole = (do let v ← whole; standAt e.pos; holding [v] (truthy v))) : Sn X M e m := ⟨SE.of h, fun _ => t_val (SE.of h) he⟩
theorem and_w {f : Expr → E → Bool} {pos : Pos} (F : Snd f X M) : ∀ {es : List Expr} {ms : List E}, ne1 es = true → chkL f es ms = true → es.all tst = true → PW X (.BoolOp .And es pos) (tAnds M ms)
  | [], _, h, _, _ => by cases h
  | _ :: _, [], _, h, _ => by cases h
  | [e], [m], _, h, t => by
    unfold chkL at h
    obtain ⟨h, _⟩ := band h
    obtain ⟨_, h2⟩ := band h
    simp only [List.all_cons, List.all_nil, Bool.and_true] at t
    exact w_and1 ((F _ _ h2).pt t)
  | [e], _ :: _ :: _, _, h, _ => by unfold chkL at h; obtain ⟨_, h⟩ := band h; cases h
  | _ :: _ :: _, [_], _, h, _ => by unfold chkL at h; obtain ⟨_, h⟩ := band h; cases h
  | e :: e2 :: es, m :: m2 :: ms, _, h, t => by
    unfold chkL at h
    obtain ⟨h, h3⟩ := band h
    obtain ⟨_, h2⟩ := band h
    rw [List.all_cons] at t
    obtain ⟨t1, t2⟩ := band t
    exact w_and ((F _ _ h2).pt t1) (and_w F rfl h3 t2)
theorem or_w {f : Expr → E → Bool} {pos : Pos} (F : Snd f X M) : ∀ {es : List Expr} {ms : List E}, ne1 es = true → chkL f es ms = true → es.all tst = true → PW X (.BoolOp .Or es pos) (tOrs M ms)
  | [], _, h, _, _ => by cases h
  | _ :: _, [], _, h, _ => by cases h
  | [e], [m], _, h, t => by
    unfold chkL at h
    obtain ⟨h, _⟩ := band h
    obtain ⟨_, h2⟩ := band h
    simp only [List.all_cons, List.all_nil, Bool.and_true] at t
    exact w_or1 ((F _ _ h2).pt t)
  | [e], _ :: _ :: _, _, h, _ => by unfold chkL at h; obtain ⟨_, h⟩ := band h; cases h
  | _ :: _ :: _, [_], _, h, _ => by unfold chkL at h; obtain ⟨_, h⟩ := band h; cases h
  | e :: e2 :: es, m :: m2 :: ms, _, h, t => by
    unfold chkL at h
    obtain ⟨h, h3⟩ := band h
    obtain ⟨_, h2⟩ := band h
    rw [List.all_cons] at t
    obtain ⟨t1, t2⟩ := band t
    exact w_or ((F _ _ h2).pt t1) (or_w F rfl h3 t2)
theorem and_v {f : Expr → E → Bool} {pos : Pos} (F : Snd f X M) : ∀ {es : List Expr} {ms : List E}, ne1 es = true → chkL f es ms = true → PE X (.BoolOp .And es pos) (tAndsV M ms)
  | [], _, h, _ => by cases h
  | _ :: _, [], _, h => by cases h
  | [e], [m], _, h => by
    unfold chkL at h
    obtain ⟨h, _⟩ := band h
    obtain ⟨_, h2⟩ := band h
    exact v_and1 (F _ _ h2).se
  | [e], _ :: _ :: _, _, h => by unfold chkL at h; obtain ⟨_, h⟩ := band h; cases h
  | _ :: _ :: _, [_], _, h => by unfold chkL at h; obtain ⟨_, h⟩ := band h; cases h
  | e :: e2 :: es, m :: m2 :: ms, _, h => by
    unfold chkL at h
    obtain ⟨h, h3⟩ := band h
    obtain ⟨_, h2⟩ := band h
    exact v_and (F _ _ h2).se (and_v F rfl h3)
theorem or_v {f : Expr → E → Bool} {pos : Pos} (F : Snd f X M) : ∀ {es : List Expr} {ms : List E}, ne1 es = true → chkL f es ms = true → PE X (.BoolOp .Or es pos) (tOrsV M ms)
  | [], _, h, _ => by cases h
  | _ :: _, [], _, h => by cases h
  | [e], [m], _, h => by
    unfold chkL at h
    obtain ⟨h, _⟩ := band h
    obtain ⟨_, h2⟩ := band h
    exact v_or1 (F _ _ h2).se
  | [e], _ :: _ :: _, _, h => by unfold chkL at h; obtain ⟨_, h⟩ := band h; cases h
  | _ :: _ :: _, [_], _, h => by unfold chkL at h; obtain ⟨_, h⟩ := band h; cases h
  | e :: e2 :: es, m :: m2 :: ms, _, h => by
    unfold chkL at h
    obtain ⟨h, h3⟩ := band h
    obtain ⟨_, h2⟩ := band h
    exact v_or (F _ _ h2).se (or_v F rfl h3)
theorem tys_ok (o : Ok X M md N sc) : ∀ {es : List Expr} {ts : List Ty}, chkTys md sc es ts = true → PA X es (tTys ts) ∧ ∀ t ∈ ts, plainTy t = true
  | [], [], _ => ⟨pa_tys0, fun _ h => by cases h⟩
  | [], _ :: _, h => by cases h
  | _ :: _, [], h => by cases h
  | e :: es, t :: ts, h => by
    unfold chkTys at h
    obtain ⟨h1, h2⟩ := band h
    obtain ⟨k1, k2⟩ := tys_ok o h2
    split at h1
    · rename_i x p
      obtain ⟨h1, h3⟩ := band h1
      obtain ⟨h1, h4⟩ := band h1
      have e := of_decide_eq_true h1
      subst e
      refine ⟨pa_tys h4 (o.free' h3) k1 (star_cons rfl), fun t' ht => ?_⟩
      rcases List.mem_cons.mp ht with rfl | ht
      · exact h4
      · exact k2 t' ht
    · cases h1
/-- the arguments of range -/
theorem rng_args {f : Expr → E → Bool} (F : Snd f X M) {es : List Expr} {ms : List E} (h : chkL f es ms = true) (hl : ms.length = 1 ∨ ms.length = 2) :
    (∃ a ma, es = [a] ∧ ms = [ma] ∧ SEs X M [a] [ma] ∧ starEach [a] X.env = [(false, eval a X.env)]) ∨ (∃ a b ma mb, es = [a, b] ∧ ms = [ma, mb] ∧ SEs X M [a, b] [ma, mb] ∧ starEach [a, b] X.env = [(false, eval a X.env), (false, eval b X.env)] ∧ starEach [b] X.env = [(false, eval b X.env)]) := by
  have hs := L_ses F h
  obtain ⟨k1, k2⟩ := L_all h
  match es, ms, hl, k2 with
  | [a], [ma], _, _ =>
    simp only [List.all_cons, List.all_nil, Bool.and_true] at k1
    exact .inl ⟨a, ma, rfl, rfl, hs, star_cons k1⟩
  | [a, b], [ma, mb], _, _ =>
    simp only [List.all_cons, List.all_nil, Bool.and_true, Bool.and_eq_true] at k1
    have e2 : starEach [b] X.env = [(false, eval b X.env)] := star_cons k1.2
    exact .inr ⟨a, b, ma, mb, rfl, rfl, hs, by rw [star_cons k1.1, e2], e2⟩
  | [], [], hl, _ => simp at hl
  | _ :: _ :: _ :: _, _ :: _ :: _ :: _, hl, _ => simp at hl
theorem ic_ok {f : Expr → E → Bool} (o : Ok X M md N sc) (F : Snd f X M) {tg e : Expr} {m : E} (h : chkIc md sc f tg e m = true) : PI X tg e (tIc M m) := by
  cases m with
  | range ms =>
    cases e <;> first | (cases h; done) | skip
    rename_i fe es kw pos
    cases fe <;> first | (cases h; done) | skip
    cases kw <;> first | (cases h; done) | skip
    rename_i x p
    unfold chkIc at h
    obtain ⟨h, h4⟩ := band h
    obtain ⟨h, h3⟩ := band h
    obtain ⟨h1, h2⟩ := band h
    have e1 := of_decide_eq_true h1
    subst e1
    have h4 := of_decide_eq_true h4
    rcases rng_args F h3 h4 with ⟨a, ma, rfl, rfl, k1, k2⟩ | ⟨a, b, ma, mb, rfl, rfl, k1, k2, k3⟩
    · exact ic_range1 (o.free' h2) k1 k2
    · exact ic_range2 (o.free' h2) k1 k2 k3
  | enum a =>
    cases e <;> first | (cases h; done) | skip
    rename_i fe es kw pos
    cases fe <;> first | (cases h; done) | skip
    rename_i x p
    match es, kw, h with
    | [e'], [], h =>
      unfold chkIc at h
      obtain ⟨h, h5⟩ := band h
      obtain ⟨h, h4⟩ := band h
      obtain ⟨h, h3⟩ := band h
      obtain ⟨h1, h2⟩ := band h
      have e1 := of_decide_eq_true h1
      subst e1
      cases tg <;> first | (cases h5; done) | skip
      exact ic_enum o.eK (o.free' h2) (F _ _ h4).se (star_cons h3)
    | [], [], h => cases h
    | [], _ :: _, h => cases h
    | [_], _ :: _, h => cases h
    | _ :: _ :: _, [], h => cases h
    | _ :: _ :: _, _ :: _, h => cases h
  | _ => exact ic_any o.eK (F _ _ h).se

/-! ### the block of a comprehension -/
theorem lookup_relabel {env : Env} : ∀ {names : Ns} {x : Str} {k : NameKind}, names.lookup x = some k →
    (names.map fun (n, k) => if (k == NameKind.free && env.scope.kind == .function && env.kindOf n == some .cell) then (n, NameKind.cell) else (n, k)).lookup x = some k ∨ (k = .free ∧ (names.map fun (n, k) => if (k == NameKind.free && env.scope.kind == .function && env.kindOf n == some .cell) then (n, NameKind.cell) else (n, k)).lookup x = some .cell)
  | [], _, _, h => by simp at h
  | (n, k0) :: r, x, k, h => by
    have ih := @lookup_relabel env r x k
    rw [List.map_cons]
    cases hx : x == n with
    | true =>
      simp only [List.lookup_cons, hx, Option.some.injEq] at h
      subst h
      by_cases hc : (k0 == NameKind.free && env.scope.kind == .function && env.kindOf n == some .cell) = true
      · refine .inr ⟨?_, ?_⟩
        · obtain ⟨hc, _⟩ := band hc
          obtain ⟨hc, _⟩ := band hc
          exact eq_of_beq hc
        · simp only [hc, if_true, List.lookup_cons, hx]
      · refine .inl ?_
        simp only [hc, if_false, List.lookup_cons, hx, Bool.false_eq_true]
    | false =>
      simp only [List.lookup_cons, hx] at h
      by_cases hc : (k0 == NameKind.free && env.scope.kind == .function && env.kindOf n == some .cell) = true
      · simp only [hc, if_true, List.lookup_cons, hx]; exact ih h
      · simp only [hc, if_false, List.lookup_cons, hx, Bool.false_eq_true]; exact ih h
theorem Ok.blk (o : Ok X M md N sc) {scope : Scope} (hk : scope.kind = .function) (s : Shared) (H : Hp) (C : Addr) (cl : List (Str × Addr)) (fp : List Addr) : Ok (X.blk s H scope (compEnvC scope cl C X.env) fp) M.quiet md N scope.names where
  eK := o.eK
  ew := o.ew
  ecalm := o.ecalm
  eN := o.eN
  end_ := o.end_
  ekind := hk
  esc := fun x k h => lookup_relabel h
  efn := fun x h => by
    show (scope.names.lookup x == some .cell) = true
    rw [h]
    rfl
  un := o.un
  tk := fun _ _ x => by
    obtain ⟨_, _, _, _, _, _, _, _, _, _, _, _, _, _, _, _, z⟩ := x
    exact z.elim
  efns := fun q hq => ⟨(o.efns q hq).mg, (o.efns q hq).kp, (o.efns q hq).ok⟩
  ecs := o.ecs
  efree := o.efree
theorem own_ok {N : List Str} : ∀ {is : List Nat}, (ownOf N is).map (·.2) = is → True := fun _ => trivial
theorem blkC_kind {N : List Str} {sc scope : Scope} {own : List (Str × Nat)} (h : blkC N sc scope own = true) : scope.kind = .function := (blkOk_by h).kind
theorem Ok.blkOk (o : Ok X M md N sc) {scope : Scope} {own : List (Str × Nat)} (h : blkC N ⟨.function, sc, false, false, []⟩ scope own = true) : BlkOk X.N X.env.scope scope own := by
  have b := blkOk_by h
  refine ⟨b.kind, b.uniq, fun p hp => by rw [o.eN]; exact b.ix p hp, fun y hy e => ?_, fun y hy e => by rw [o.eN]; exact b.own y hy e⟩
  rcases b.free y hy e with q | q
  · rcases o.esc _ _ q with z | ⟨z, _⟩
    · exact .inl z
    · cases z
  · rcases o.esc _ _ q with z | ⟨_, z⟩
    · exact .inr z
    · exact .inl z
end
end G
end

section
/-! Ck4: the checker of expressions is right. -/
namespace G
open PySem PySem.Spec PyProof.Rows L2
section
variable {X : Cx} {M : Pm} {a b c : Expr} {ma mb mc : E} {pos : Pos}
theorem t_chain {o o' : Cop} (hK : SameW M.W X) (hu : X.A.units + 65 < cLine) (ha : SE X M a ma) (hb : SE X M b mb) (hc : SE X M c mc) (hm : lastMarks [copOf o, copOf o'] [b, c] = false) :
    PT X (.Compare a [copOf o, copOf o'] [b, c] pos) (tT M (.chain o o' ma mb mc)) := by
  refine impT (pt_chain (op_cmp hK hu o) (op_cmp hK hu o') ha.r hb.r hc.r hm) fun σ H Q ⟨σs, S, β, rel, ek⟩ => ?_
  simp only [evE, bind_assoc] at ek
  refine ⟨σs, S, β, rel, ek.bind fun p S1 v H1 β1 _ s1 b1 q1 ek1 => ⟨σs, S1, β1, rel.step s1 b1, ek1.bind fun p2 S2 v2 H2 β2 _ s2 b2 q2 ek2 => ?_⟩⟩
  cases h : cmpS o p p2 S2 with
  | none => rw [h] at ek2; exact ek2.elim
  | some r =>
    rw [h] at ek2
    refine cmp_ok h (q1.stp s2) q2 b2 ⟨r, rfl, ?_⟩
    cases r with
    | true =>
      have ek2 : EK M (((evE M.C mc true σs S2).bind fun z S => (op1 (cmpS o' p2 z S) S).bind fun b S => .ok (.bl b) S).bind asB) β2 H2 σ _ _ := ek2
      simp only [bind_assoc] at ek2
      simp only [if_true]
      refine ⟨σs, S2, β2, (rel.step s1 b1).step s2 b2, ek2.bind fun p3 S3 v3 H3 β3 _ s3 b3 q3 ek3 => ?_⟩
      cases h' : cmpS o' p2 p3 S3 with
      | none => rw [h'] at ek3; exact ek3.elim
      | some r' =>
        rw [h'] at ek3
        exact cmp_ok h' (q2.stp s3) q3 b3 ⟨r', rfl, ek3.done b3 rfl⟩
    | false =>
      have ek2 : EK M (.ok false S2) β2 H2 σ _ _ := ek2
      simp only [Bool.false_eq_true, if_false]
      exact ⟨false, rfl, ek2.done b2 rfl⟩
end
section
variable {md : Md} {N : List Str}
theorem chk_ok : ∀ (n : Nat) {X : Cx} {M : Pm} {sc : Ns}, Ok X M md N sc → Snd (chkE md N n sc) X M
  | 0, _, _, _, _ => fun e m h => by cases h
  | n + 1, X, M, sc, o => by
    have F := chk_ok n o
    have u65 : X.A.units + 65 < cLine := by have := o.un; omega
    intro e m h
    cases m with
    | var i =>
      cases e <;> first | (cases h; done) | skip
      obtain ⟨a, b, c, d⟩ := o.vis h
      exact Sn.val (s_var a b c d) fun _ => rfl
    | k v =>
      cases e <;> first | (cases h; done) | skip
      exact Sn.val (const_ok h) fun _ => rfl
    | glob c =>
      cases e <;> first | (cases h; done) | skip
      obtain ⟨h1, h2⟩ := band h
      obtain ⟨g1, g2⟩ := o.gl h1
      obtain ⟨u, v, k1, k2, k3⟩ := o.ecs _ (of_decide_eq_true h2)
      exact Sn.val (s_glob (pe_glob g1 k1 k2 g2) k3) fun _ => rfl
    | fnv g =>
      cases e <;> first | (cases h; done) | skip
      obtain ⟨h1, h2⟩ := band h
      obtain ⟨g1, g2⟩ := o.gl h1
      obtain ⟨q, hq, h3⟩ := List.any_eq_true.mp h2
      obtain ⟨h3, h4⟩ := band h3
      have h3 := of_decide_eq_true h3
      have h4 := of_decide_eq_true h4
      have fy := o.efns q hq
      rw [h3, h4] at fy
      exact Sn.val (s_fnv (pe_glob g1 fy.mg rfl g2)) fun _ => rfl
    | tup ms =>
      cases e <;> first | (cases h; done) | skip
      obtain ⟨h1, h2⟩ := band h
      exact Sn.val (s_tup (L_ses F h1) (by have := of_decide_eq_true h2; rw [sizeLine_eq]; omega)) fun _ => rfl
    | lst ms =>
      cases e <;> first | (cases h; done) | skip
      obtain ⟨h1, h2⟩ := band h
      exact Sn.val (s_lst (L_ses F h1) (by have := of_decide_eq_true h2; rw [sizeLine_eq]; omega)) fun _ => rfl
    | box m' =>
      cases e <;> first | (cases h; done) | skip
      obtain ⟨h1, h2⟩ := band h
      exact Sn.val (s_box (k := 0) (F _ _ h2).se h1) fun _ => rfl
    | bin op a b =>
      cases e <;> first | (cases h; done) | skip
      obtain ⟨h, h3⟩ := band h
      obtain ⟨h1, h2⟩ := band h
      have e1 := of_decide_eq_true h1
      subst e1
      exact Sn.val (s_bin o.eK (F _ _ h2).se (F _ _ h3).se) fun _ => rfl
    | neg a =>
      cases e <;> first | (cases h; done) | skip
      obtain ⟨h1, h2⟩ := band h
      have e1 := of_decide_eq_true h1
      subst e1
      exact Sn.val (s_neg (F _ _ h2).se) fun _ => rfl
    | not_ a =>
      cases e <;> first | (cases h; done) | skip
      obtain ⟨h, h3⟩ := band h
      obtain ⟨h1, h2⟩ := band h
      have e1 := of_decide_eq_true h1
      subst e1
      exact ⟨SE.of (s_not (F _ _ h2).se), fun _ => t_not ((F _ _ h2).pt h3)⟩
    | and_ ms =>
      cases e <;> first | (cases h; done) | skip
      obtain ⟨h, h4⟩ := band h
      obtain ⟨h, h3⟩ := band h
      obtain ⟨h1, h2⟩ := band h
      have e1 := of_decide_eq_true h1
      subst e1
      exact ⟨SE.of (s_and (and_v F h4 h2)), fun _ => t_and (and_w F h4 h2 h3)⟩
    | or_ ms =>
      cases e <;> first | (cases h; done) | skip
      obtain ⟨h, h4⟩ := band h
      obtain ⟨h, h3⟩ := band h
      obtain ⟨h1, h2⟩ := band h
      have e1 := of_decide_eq_true h1
      subst e1
      exact ⟨SE.of (s_or (or_v F h4 h2)), fun _ => t_or (or_w F h4 h2 h3)⟩
    | cmp op a b =>
      cases e <;> first | (cases h; done) | skip
      rename_i a' ops bs pos
      match ops, bs, h with
      | [op'], [b'], h =>
        obtain ⟨h, h4⟩ := band h
        obtain ⟨h, h3⟩ := band h
        obtain ⟨h1, h2⟩ := band h
        have e1 := of_decide_eq_true h1
        subst e1
        exact ⟨SE.of (s_cmp o.eW u65 (F _ _ h2).se (F _ _ h3).se (behind_no h4)), fun _ => t_cmp o.eW u65 (F _ _ h2).se (F _ _ h3).se (behind_no h4)⟩
      | [], _, h => cases h
      | [_], [], h => cases h
      | [_], _ :: _ :: _, h => cases h
      | _ :: _ :: _, _, h => cases h
    | chain op op' a b c =>
      cases e <;> first | (cases h; done) | skip
      rename_i a' ops bs pos
      match ops, bs, h with
      | [op1, op2], [b', c'], h =>
        obtain ⟨h, h7⟩ := band h
        obtain ⟨h, h6⟩ := band h
        obtain ⟨h, h5⟩ := band h
        obtain ⟨h, h4⟩ := band h
        obtain ⟨h, h3⟩ := band h
        obtain ⟨h1, h2⟩ := band h
        have e1 := of_decide_eq_true h1
        subst e1
        have e2 := of_decide_eq_true h2
        subst e2
        have hm : lastMarks [copOf op, copOf op'] [b', c'] = false := by
          show behindInMarks (copOf op') c' = false
          exact behind_no h7
        exact ⟨SE.of (s_chain o.eW u65 (F _ _ h3).se (F _ _ h4).se (F _ _ h5).se ⟨behind_no h6, behind_no h7⟩ fun ho ho' ha hb hc => pe_chain ho ho' ha hb hc hm), fun _ => t_chain o.eW u65 (F _ _ h3).se (F _ _ h4).se (F _ _ h5).se hm⟩
      | [], _, h => cases h
      | [_], _, h => cases h
      | [_, _], [], h => cases h
      | [_, _], [_], h => cases h
      | [_, _], _ :: _ :: _ :: _, h => cases h
      | _ :: _ :: _ :: _, _, h => cases h
    | isN a =>
      cases e <;> first | (cases h; done) | skip
      rename_i a' ops bs pos
      match ops, bs, h with
      | [op], [b'], h =>
        cases b' <;> first | (cases h; done) | skip
        obtain ⟨h, h3⟩ := band h
        obtain ⟨h1, h2⟩ := band h
        have e1 := of_decide_eq_true h1
        subst e1
        have e2 := of_decide_eq_true h2
        subst e2
        exact ⟨SE.of (s_isN (F _ _ h3).se), fun _ => t_isN (F _ _ h3).se⟩
      | [], _, h => cases h
      | [_], [], h => cases h
      | [_], e0 :: _ :: _, h => cases e0 <;> cases h
      | _ :: _ :: _, _, h => cases h
    | notN a =>
      cases e <;> first | (cases h; done) | skip
      rename_i a' ops bs pos
      match ops, bs, h with
      | [op], [b'], h =>
        cases b' <;> first | (cases h; done) | skip
        obtain ⟨h, h3⟩ := band h
        obtain ⟨h1, h2⟩ := band h
        have e1 := of_decide_eq_true h1
        subst e1
        have e2 := of_decide_eq_true h2
        subst e2
        exact ⟨SE.of (s_notN (F _ _ h3).se), fun _ => t_notN (F _ _ h3).se⟩
      | [], _, h => cases h
      | [_], [], h => cases h
      | [_], e0 :: _ :: _, h => cases e0 <;> cases h
      | _ :: _ :: _, _, h => cases h
    | ife c a b =>
      cases e <;> first | (cases h; done) | skip
      obtain ⟨h, h4⟩ := band h
      obtain ⟨h, h3⟩ := band h
      obtain ⟨h1, h2⟩ := band h
      exact ⟨SE.of (s_ife ((F _ _ h1).pt h2) (F _ _ h3).se (F _ _ h4).se), fun z => by cases z⟩
    | idx a i =>
      cases e <;> first | (cases h; done) | skip
      obtain ⟨h, h3⟩ := band h
      obtain ⟨h1, h2⟩ := band h
      exact Sn.val (s_idx o.eW u65 (F _ _ h1).se (F _ _ h2).se h3) fun _ => rfl
    | slice a lo hi =>
      cases e <;> first | (cases h; done) | skip
      rename_i a' s pos
      cases s <;> first | (cases h; done) | skip
      rename_i l hh st p2
      cases st <;> first | (cases h; done) | skip
      obtain ⟨h, h3⟩ := band h
      obtain ⟨h1, h2⟩ := band h
      have po : ∀ {l : Option Expr} {lo : List E}, (match l, lo with | none, [] => true | some l', [m'] => chkE md N n sc l' m' | _, _ => false) = true → PO X l (tPo M lo) := by
        intro l lo h
        match l, lo, h with
        | none, [], _ => exact po_0
        | some l', [m'], h => exact po_1 (F _ _ h).se
        | none, _ :: _, h => cases h
        | some _, [], h => cases h
        | some _, _ :: _ :: _, h => cases h
      exact Sn.val (s_slice o.eK (F _ _ h1).se (po h2) (po h3)) fun _ => rfl
    | call g ms =>
      cases e <;> first | (cases h; done) | skip
      rename_i fe es kw pos
      cases fe <;> first | (cases h; done) | skip
      cases kw <;> first | (cases h; done) | skip
      rename_i x p
      obtain ⟨h, h4⟩ := band h
      obtain ⟨h, h3⟩ := band h
      obtain ⟨h1, h2⟩ := band h
      obtain ⟨g1, g2⟩ := o.gl h1
      obtain ⟨q, hq, h5⟩ := List.any_eq_true.mp h2
      obtain ⟨h5, h7⟩ := band h5
      obtain ⟨h5, h6⟩ := band h5
      have h5 := of_decide_eq_true h5
      have h6 := of_decide_eq_true h6
      have h7 := of_decide_eq_true h7
      have fy := o.efns q hq
      rw [h5, h6] at fy
      have hs := L_ses F h4
      obtain ⟨k1, k2⟩ := L_all h4
      cases es with
      | nil => cases h3
      | cons e0 es =>
        rw [List.all_cons] at k1
        obtain ⟨k1, k3⟩ := band k1
        exact Sn.val (s_call (fy.x g1) o.tk hs h7.symm g2 (star_cons k1) (star_plain k3)) fun _ => rfl
    | bi b ms =>
      cases e <;> first | (cases h; done) | skip
      rename_i fe es kw pos
      cases fe <;> first | (cases h; done) | skip
      cases kw <;> first | (cases h; done) | skip
      rename_i x p
      obtain ⟨h, h4⟩ := band h
      obtain ⟨h, h3⟩ := band h
      obtain ⟨h1, h2⟩ := band h
      have e1 := of_decide_eq_true h1
      subst e1
      have hs := L_ses F h4
      obtain ⟨k1, k2⟩ := L_all h4
      cases es with
      | nil => cases h3
      | cons e0 es =>
        rw [List.all_cons] at k1
        obtain ⟨k1, k3⟩ := band k1
        exact Sn.val (s_bi o.eW o.ecalm (o.free' h2) hs (star_cons k1) (star_plain k3)) fun _ => rfl
    | bit b a =>
      cases e <;> first | (cases h; done) | skip
      rename_i fe es kw pos
      cases fe <;> first | (cases h; done) | skip
      rename_i x p
      match es, kw, h with
      | [e'], [], h =>
        obtain ⟨h, h4⟩ := band h
        obtain ⟨h, h3⟩ := band h
        obtain ⟨h1, h2⟩ := band h
        have e1 := of_decide_eq_true h1
        have sx := (F _ _ h4).se
        have hf := o.free' h2
        have u64 : X.A.units + 64 < cLine := by have := o.un; omega
        cases b <;> first | (cases e1; done) | skip
        · cases e1; exact Sn.val (s_sorted o.eK u64 hf sx (star_cons h3) rfl) fun _ => rfl
        · cases e1; exact Sn.val (s_tupleOf o.eK hf sx (star_cons h3) rfl) fun _ => rfl
        · cases e1; exact Sn.val (s_listOf o.eK hf sx (star_cons h3) rfl) fun _ => rfl
        · cases e1; exact Sn.val (s_sum o.eK o.ecalm hf sx (star_cons h3) rfl) fun _ => rfl
      | [], [], h => cases h
      | [], _ :: _, h => cases h
      | [_], _ :: _, h => cases h
      | _ :: _ :: _, [], h => cases h
      | _ :: _ :: _, _ :: _, h => cases h
    | isin a ts =>
      cases e <;> first | (cases h; done) | skip
      rename_i fe es kw pos
      cases fe <;> first | (cases h; done) | skip
      rename_i x p
      match es, kw, h with
      | [e', t], [], h =>
        obtain ⟨h, h5⟩ := band h
        obtain ⟨h, h4⟩ := band h
        obtain ⟨h, h3⟩ := band h
        obtain ⟨h1, h2⟩ := band h
        have e1 := of_decide_eq_true h1
        subst e1
        have sx := (F _ _ h4).se
        have hf := o.free' h2
        cases t <;> first | (cases h5; done) | skip
        · rename_i y p2
          match ts, h5 with
          | [t'], h5 =>
            obtain ⟨h5, h7⟩ := band h5
            obtain ⟨h5, h6⟩ := band h5
            have e2 := of_decide_eq_true h5
            subst e2
            exact Sn.val (s_isin1 o.eK hf sx h6 (o.free' h7) (star_cons h3) (star_cons rfl) rfl) fun _ => rfl
          | [], h5 => cases h5
          | _ :: _ :: _, h5 => cases h5
        · rename_i ys k p2
          obtain ⟨h5, h6⟩ := band h5
          obtain ⟨k1, k2⟩ := tys_ok o h5
          exact Sn.val (s_isinT o.eK hf sx k2 (of_decide_eq_true h6) k1 (star_cons h3) (star_cons rfl) rfl) fun _ => rfl
      | [], [], h => cases h
      | [], _ :: _, h => cases h
      | [_], [], h => cases h
      | [_], _ :: _, h => cases h
      | [_, _], _ :: _, h => cases h
      | _ :: _ :: _ :: _, [], h => cases h
      | _ :: _ :: _ :: _, _ :: _, h => cases h
    | comp elt tg it cs =>
      cases e <;> first | (cases h; done) | skip
      rename_i elt' gs scope pos
      match gs, h with
      | [⟨tg', it', ifs, as⟩], h =>
        obtain ⟨h, h8⟩ := band h
        obtain ⟨h, h7⟩ := band h
        obtain ⟨h, h6⟩ := band h
        obtain ⟨h, h5⟩ := band h
        obtain ⟨h, h4⟩ := band h
        obtain ⟨h, h3⟩ := band h
        obtain ⟨h1, h2⟩ := band h
        have e1 := of_decide_eq_true h1
        subst e1
        have e4 := of_decide_eq_true h4
        have hk := blkC_kind h3
        refine Sn.val (s_comp o.eK o.ecalm o.nd' (ic_ok o F h2) (o.blkOk h3) (by rw [e4]; exact fun _ h => h) (by rw [e4]; exact fun _ h => h) (fun s H C cl fp => ?_) (fun s H C cl fp => ?_) (fun s H C cl fp => ?_) (folded_no h7)) fun _ => rfl
        · have ob := o.blk hk s H C cl fp
          have z := tgt_ok ob h5
          exact z
        · have ob := o.blk hk s H C cl fp
          have Fb := chk_ok n ob
          match ifs, cs, h8 with
          | [], [], _ => exact ifs_nil
          | [c'], [c], h8 =>
            obtain ⟨h8, h9⟩ := band h8
            exact ifs_one ((Fb _ _ h8).pt h9)
          | [], _ :: _, h8 => cases h8
          | [_], [], h8 => cases h8
          | [_], _ :: _ :: _, h8 => cases h8
          | _ :: _ :: _, _, h8 => cases h8
        · have ob := o.blk hk s H C cl fp
          exact (chk_ok n ob _ _ h6).se.v
      | [], h => cases h
      | ⟨_, _, _, _⟩ :: _ :: _, h => cases h
    | _ => cases h
end
end G
end

section
/-! Ck5: the checker of statements. -/
namespace G
open PySem PySem.Spec PyProof.Rows L2
section
variable {X : Cx} {M : Pm} {md : Md} {N : List Str} {sc : Ns} {e elt tg iter c : Expr} {m me mi mc : E} {pos p : Pos}
/-- a ghost: an own list is frozen -/
theorem ss_frz {ss : List Stmt} {ms : List Sm} {i : Nat} (h : PSs X ss (tSs M ms)) : PSs X ss (tSs M (.frz i :: ms)) := ⟨fun pins s σ H D I ⟨σs, S, β, rel, sk⟩ => by
  simp only [exSs, exS] at sk
  cases hf : freeze σs i with
  | none => rw [hf] at sk; exact sk.elim
  | some σs' =>
    rw [hf] at sk
    have sk : SK M (exSs M.C ms σs' S) β H D := sk
    unfold freeze at hf
    split at hf
    · rename_i v hg
      cases hf
      by_cases hc : cont v = true
      · obtain ⟨a, ha, r, na, z⟩ := rel.ownC hg hc
        obtain ⟨w, J, q, u⟩ := r.freeze I
        exact h.run pins s σ _ D J ⟨_, S, β, rel.freeze hg ha r na z u q, SK.from sk u⟩
      · obtain ⟨x, hx, ⟨_, q⟩ | ⟨a, _, q, _⟩⟩ := rel.own i v hg
        · have r2 := rel.setVal i q
          have es : σ.set i (some x) = σ := by
            apply List.ext_getElem?
            intro j
            rw [List.getElem?_set]
            by_cases hj : i = j
            · subst hj
              rw [hx]
              have := (List.getElem?_eq_some_iff.mp hx).1
              simp [this]
            · simp [hj]
          rw [es] at r2
          exact h.run pins s σ H D I ⟨_, S, β, r2, sk⟩
        · exact absurd q.cont hc
    · cases hf⟩
/-- name = [.. for ..] -/
theorem lc_of {gt : Tg} {ms : List E} {own : List (Str × Nat)} (hK : M.W.K = X.K) (hv : ∀ i ∈ own.map (·.2), i ∈ tgs gt) (hv2 : ∀ i ∈ tgs gt, i ∈ own.map (·.2)) {br : Bool} {σ : L2.St} {H : Hp} {Q : VK}
    (h : tE M (kn br (.comp me gt mi ms)) br (.comp me gt mi ms) σ H Q) : tLc (tIc M mi) (gT X.K gt) (tIfs M.quiet ms) (tE M.quiet .val false me) (own.map (·.2)) σ H Q := by
  obtain ⟨σs, S, β, rel, ek⟩ := h
  refine ⟨σs, S, β, rel, ?_⟩
  simp only [evE] at ek
  refine ek.bind fun xs S1 J H1 β1 _ s1 b1 j ek1 => ?_
  have z := comp_walk (me := me) (Q := Q) (rel.step s1 b1) j hv hv2 (R := fun β' H' p v => Res M.W (kn br (.comp me gt mi ms)) β H β' H' p v) ek1 (fun β' H' a acc vs s h1 h2 r n => .inr ⟨a, rfl, ⟨vs, h2, r⟩, n, s1.back b1 h1⟩)
  rw [hK] at z
  exact z
/-- a name's store, by the value's reading -/
theorem asg_of {i : Nat} {D : Ends} {σ : L2.St} {H : Hp} (hm : isVar m = false) (h : tS M (.asg i m) D σ H) : tE M (kn false m) false m σ H (fun x H1 => D.nx (σ.set i (some x)) H1) := by
  obtain ⟨σs, S, β, rel, sk⟩ := h
  refine ⟨σs, S, β, rel, ?_⟩
  simp only [exS] at sk
  rw [rhs_nonvar hm] at sk
  revert sk
  cases evE M.C m false σs S with
  | no => exact fun sk => sk
  | ex e S' => exact fun sk cls d H' β' s b x => sk cls d σ H' β' s.up (rel.step s b) x
  | ok p S' =>
    refine fun sk v H' β' s b q => ?_
    refine sk _ H' β' s.up ((rel.step s b).setOwn i ?_)
    by_cases f : frE m = true
    · simp only [f, if_true]
      have q : Res M.W .own β H β' H' p v := by simpa [kn, f] using q
      rcases q with ⟨q1, q2⟩ | ⟨a, e, q1, q2, q3⟩
      · exact .inl ⟨q2, q1⟩
      · refine .inr ⟨a, e, q1, q2, rel.stp.back rel.br q3, fun k q hk hc z => ?_⟩
        obtain ⟨w, e1, ⟨c0, _⟩ | ⟨a', e2, r', _⟩⟩ := rel.own k q hk
        · rw [c0] at hc; cases hc
        · rw [z] at e1; cases e1; cases e2
          obtain ⟨u, hu, _⟩ := r'.tracked
          rw [q3] at hu; cases hu
    · simp only [f, Bool.false_eq_true, if_false]
      have q : Res M.W .val β H β' H' p v := by simpa [kn, f] using q
      exact q
theorem st_lc {i : Nat} {y : Str} {py : Pos} {gt : Tg} {ms : List E} {ifs : List Expr} {scope : Scope} {own : List (Str × Nat)} {spos : Pos} (hK : M.W.K = X.K) (hc : X.calm = true) (hN : X.N.Nodup) (hy : X.N[i]? = some y) (hyl : X.env.scope.names.lookup y = some .local)
    (hsw : swapsWith (.ListComp elt [⟨tg, iter, ifs, 0⟩] scope pos) (some (.Name y py)) spos.line X.env = pure true) (hi : PI X tg iter (tIc M mi)) (ok : BlkOk X.N X.env.scope scope own) (hv : ∀ i ∈ own.map (·.2), i ∈ tgs gt) (hv2 : ∀ i ∈ tgs gt, i ∈ own.map (·.2))
    (hg : ∀ (s : Shared) (H : Hp) (C : Addr) (cl : List (Str × Addr)) (fp : List Addr), PG (X.blk s H scope (compEnvC scope cl C X.env) fp) tg (gT X.K gt))
    (ht : ∀ (s : Shared) (H : Hp) (C : Addr) (cl : List (Str × Addr)) (fp : List Addr), PTs (X.blk s H scope (compEnvC scope cl C X.env) fp) ifs (tIfs M.quiet ms))
    (he : ∀ (s : Shared) (H : Hp) (C : Addr) (cl : List (Str × Addr)) (fp : List Addr), PE (X.blk s H scope (compEnvC scope cl C X.env) fp) elt (tE M.quiet .val false me)) (hs : ∀ x, foldedSetIterable iter X.env x = pure x) :
    PS X (.Assign [.Name y py] (.ListComp elt [⟨tg, iter, ifs, 0⟩] scope pos) spos) (tS M (.asg i (.comp me gt mi ms))) :=
  impS (ps_setLc hc hN hy hyl hsw hi ok hg ht he hs) fun D σ H h => lc_of hK hv hv2 (br := false) (asg_of rfl h)
/-- two names at once -/
theorem sw_some2 {x y : Str} {px py pt pt2 : Pos} {kt k2 : Nat} {a b : Expr} {env : Env} (hk : env.scope.kind = .function) (hx : env.scope.names.lookup x = some .local) (hy : env.scope.names.lookup y = some .local) (hl : (py.line == px.line) = true) (hxy : (x == y) = false)
    (ha : notStar a = true) (hb : notStar b = true) (h1 : [a, b].all (foldedForSure 8) = false) (h2 : [a, b].all (constantsAlone 8) = false) :
    swappedStores [.Tuple [.Name x px, .Name y py] kt pt] (.Tuple [a, b] k2 pt2) env = pure (some [x, y]) := by
  have kx : env.kindOf x = some .local := hx
  have ky : env.kindOf y = some .local := hy
  have hbk : env.blockKind = .function := by unfold Env.blockKind; rw [hk]; rfl
  have hd : [x, y].eraseDups = [x, y] := by
    have hyx : (y == x) = false := by
      cases h : (y == x) with
      | false => rfl
      | true =>
        have e := eq_of_beq h
        subst e
        rw [beq_self_eq_true] at hxy
        cases hxy
    simp [List.eraseDups_cons, hyx]
  have e1 : (some NameKind.local == some NameKind.local) = true := rfl
  unfold swappedStores
  simp only [hbk, kx, ky, h1, h2, List.filterMap_cons, List.filterMap_nil, List.head?_cons, Option.map_some, Option.getD_some, Expr.pos, hl, List.length_cons, List.length_nil, e1, beq_self_eq_true, Bool.and_true, if_true, hd]
  refine (if_neg (by decide)).trans ?_
  refine (if_neg ?_).trans ?_
  · intro z
    simp only [List.any_cons, List.any_nil, Bool.or_eq_true] at z
    rcases z with z | z | z
    · cases a <;> first | (cases ha; done) | (cases z; done)
    · cases b <;> first | (cases hb; done) | (cases z; done)
    · cases z
  · rfl
theorem beq_no {x y : Str} (h : (x == y) = false) : (y == x) = false := by
  cases h2 : (y == x) with
  | false => rfl
  | true =>
    have e := eq_of_beq h2
    subst e
    rw [beq_self_eq_true] at h
    cases h
theorem sw_some3 {x y z : Str} {px py pz pt pt2 : Pos} {kt k2 : Nat} {a b c : Expr} {env : Env} (hk : env.scope.kind = .function) (hx : env.scope.names.lookup x = some .local) (hy : env.scope.names.lookup y = some .local) (hz : env.scope.names.lookup z = some .local) (hl : (py.line == px.line) = true) (hl2 : (pz.line == px.line) = true) (hxy : (x == y) = false) (hxz : (x == z) = false) (hyz : (y == z) = false)
    (ha : notStar a = true) (hb : notStar b = true) (hc : notStar c = true) (h1 : [a, b, c].all (foldedForSure 8) = false) (h2 : [a, b, c].all (constantsAlone 8) = false) :
    swappedStores [.Tuple [.Name x px, .Name y py, .Name z pz] kt pt] (.Tuple [a, b, c] k2 pt2) env = pure (some [x, y, z]) := by
  have kx : env.kindOf x = some .local := hx
  have ky : env.kindOf y = some .local := hy
  have kz : env.kindOf z = some .local := hz
  have hbk : env.blockKind = .function := by unfold Env.blockKind; rw [hk]; rfl
  have hd : [x, y, z].eraseDups = [x, y, z] := by
    simp [List.eraseDups_cons, beq_no hxy, beq_no hxz, beq_no hyz]
  have e1 : (some NameKind.local == some NameKind.local) = true := rfl
  unfold swappedStores
  simp only [hbk, kx, ky, kz, h1, h2, List.filterMap_cons, List.filterMap_nil, List.head?_cons, Option.map_some, Option.getD_some, Expr.pos, hl, hl2, List.length_cons, List.length_nil, e1, beq_self_eq_true, Bool.and_true, if_true, hd]
  refine (if_neg (by decide)).trans ?_
  refine (if_neg ?_).trans ?_
  · intro z
    simp only [List.any_cons, List.any_nil, Bool.or_eq_true] at z
    rcases z with z | z | z | z
    · cases a <;> first | (cases ha; done) | (cases z; done)
    · cases b <;> first | (cases hb; done) | (cases z; done)
    · cases c <;> first | (cases hc; done) | (cases z; done)
    · cases z
  · rfl
theorem sw_none {ts vs : List Expr} {kt k2 : Nat} {pt pt2 : Pos} {env : Env} (h : (ts.length ≠ 2 ∧ ts.length ≠ 3) ∨ (∃ x p, Expr.Name x p ∈ ts ∧ env.scope.names.lookup x ≠ some .local) ∨ vs.all (foldedForSure 8) = true) :
    swappedStores [.Tuple ts kt pt] (.Tuple vs k2 pt2) env = pure none := by
  unfold swappedStores
  simp only
  split
  · rfl
  · rename_i h0
    split
    · rfl
    · split
      · rfl
      · rename_i h2
        rcases h with h | ⟨x, p, hm, hl⟩ | h
        · exfalso
          apply h0
          have a : (ts.length == 2) = false := by simpa using h.1
          have b : (ts.length == 3) = false := by simpa using h.2
          simp [a, b]
        · exfalso
          apply h2
          simp only [Bool.or_eq_true, bne_iff_ne, ne_eq]
          left
          intro e
          rw [List.filterMap_length_eq_length] at e
          have := e _ hm
          have kx : (env.kindOf x == some NameKind.local) = false := by
            cases q : (env.kindOf x == some NameKind.local) with
            | false => rfl
            | true => exact absurd (eq_of_beq q) hl
          simp [kx] at this
        · rw [if_pos h]
end
end G
end

section
/-! Ck6: the checker of statements, and that it is right. -/
namespace G
open PySem PySem.Spec PyProof.Rows L2
/-- a value to be stored -/
def chkR (md : Md) (N : List Str) (n : Nat) (sc : Ns) (e : Expr) (m : E) : Bool := chkE md N n sc e m
def isName : Expr → Bool
  | .Name _ _ => true
  | _ => false
def chkRs (f : Expr → E → Bool) : List Expr → List E → Bool := chkL f
/-- a loop's iterable -/
def notHeld : E → Bool
  | .var _ => false
  | .enum _ => false
  | .keys _ => false
  | .values _ => false
  | _ => true
def chkIv (f : Expr → E → Bool) (e : Expr) (m : E) : Bool := match m with
  | .var _ => isName e && f e m
  | m => notHeld m && f e m
def chkIt (md : Md) (sc : Ns) (f : Expr → E → Bool) (tg e : Expr) (m : E) : Bool := match m with
  | .range ms => (match e with
    | .Call fe es kw _ => (match fe, kw with
      | .Name x _, [] => decide (x = ("range" : Str)) && free md sc x && chkL f es ms && decide (ms.length = 1 ∨ ms.length = 2)
      | _, _ => false)
    | _ => false)
  | .enum a => (match e with
    | .Call fe es kw _ => (match fe, es, kw with
      | .Name x _, [e'], [] => decide (x = ("enumerate" : Str)) && free md sc x && notStar e' && chkIv f e' a && isTupT tg
      | _, _, _ => false)
    | _ => false)
  | m => chkIv f e m
def lcl (sc : Ns) (x : Str) : Bool := match sc.lookup x with
  | some .local => true
  | _ => false
/-- a comprehension's store into a local name -/
def lcB (sc : Ns) (x : Str) (px : Pos) (e : Expr) : Bool := match e with
  | .ListComp _ _ scope p => !lcl sc x || ((px.line == p.line) && !(scope.names.any fun (n, k) => n == x && (k == .local || k == .cell)))
  | e => notLc e
/-- the names of a target that stores from the right -/
def swp (sc : Ns) (ts vs : List Expr) : Bool := match ts, vs with
  | [.Name x px, .Name y py], [_, _] => lcl sc x && lcl sc y && (py.line == px.line) && !(x == y) && !(vs.all (foldedForSure 8)) && !(vs.all (constantsAlone 8))
  | [.Name x px, .Name y py, .Name z pz], [_, _, _] => lcl sc x && lcl sc y && lcl sc z && (py.line == px.line) && (pz.line == px.line) && !(x == y) && !(x == z) && !(y == z) && !(vs.all (foldedForSure 8)) && !(vs.all (constantsAlone 8))
  | _, _ => false
def noSwp (sc : Ns) (ts vs : List Expr) : Bool := (!(ts.length == 2) && !(ts.length == 3)) || ts.any (fun t => match t with | .Name x _ => (match sc.lookup x with | some .cell => true | _ => false) | _ => false) || vs.all (foldedForSure 8)
def notSl : Expr → Bool
  | .Slice _ _ _ _ => false
  | _ => true
def popB (N : List Str) (sc : Ns) (j x : Nat) (ts : List Expr) (c : Expr) : Bool := match ts, c with
        | [.Name z _], .Call fe es kw p => (match fe, es, kw with
          | .Attribute o nm p2, [], [] => (match o with
            | .Name y _ => loc N sc z j && vis N sc y x && decide (nm = ("pop" : Str)) && (p2.endLine == p.line)
            | _ => false)
          | _, _, _ => false)
        | _, _ => false
mutual
def chkS (md : Md) (N : List Str) (sc : Ns) : Nat → Stmt → Sm → Bool
  | 0, _, _ => false
  | n + 1, st, m => match m with
    | .never => true
    | .pass_ => (match st with | .Pass _ => true | _ => false)
    | .brk => (match st with | .Break _ => true | _ => false)
    | .retN => (match st with | .Return none _ => true | _ => false)
    | .ret r => (match st with | .Return (some e) _ => chkE md N n sc e r && (isName e || !isVar r) | _ => false)
    | .expr r => (match st with | .Expr e _ => chkE md N n sc e r && notLc e | _ => false)
    | .iff c a b => (match st with | .If c' a' b' _ => chkE md N n sc c' c && tst c' && chkSs md N sc n a' a && chkSs md N sc n b' b | _ => false)
    | .whl c b => (match st with | .While c' b' o _ => chkE md N n sc c' c && tst c' && chkSs md N sc n b' b && o.isEmpty | _ => false)
    | .for_ tg it b => (match st with | .For tg' it' b' o _ => chkT N sc tg' tg && chkIt md sc (chkE md N n sc) tg' it' it && chkSs md N sc n b' b && o.isEmpty && notSetE it' | _ => false)
    | .asg i r => (match st with
      | .Assign ts e _ => (match ts with
        | [.Name x px] => loc N sc x i && chkE md N n sc e r && (isName e || !isVar r) && lcB sc x px e
        | _ => false)
      | _ => false)
    | .asgT is r => (match st with
      | .Assign ts e _ => (match ts with
        | [tg] => chkT N sc tg (.tp is) && chkE md N n sc e r && notLc e && notTup e && notStar tg
        | _ => false)
      | _ => false)
    | .par is rs => (match st with
      | .Assign ts e _ => (match ts, e with
        | [tg], .Tuple es _ _ => chkT N sc tg (.tp is) && chkL (fun e m => chkE md N n sc e m && (isName e || !isVar m)) es rs && decide (rs.length < 100) && (match tg with
          | .Tuple ts' _ _ => swp sc ts' es || noSwp sc ts' es
          | _ => false)
        | _, _ => false)
      | _ => false)
    | .setI x i r => (match st with
      | .Assign ts e _ => (match ts with
        | [.Subscript o ie _] => (match o with
          | .Name y _ => vis N sc y x && chkE md N n sc ie i && chkE md N n sc e r && notLc e && notSl ie
          | _ => false)
        | _ => false)
      | _ => false)
    | .app x r => (match st with
      | .Expr c _ => (match c with
        | .Call fe es kw p => (match fe, es, kw with
          | .Attribute o nm p2, [e], [] => (match o with
            | .Name y _ => vis N sc y x && decide (nm = ("append" : Str)) && chkE md N n sc e r && notStar e && (p2.endLine == p.line)
            | _ => false)
          | _, _, _ => false)
        | _ => false)
      | _ => false)
    | .pop j x rs => (match j with
      | some j => (match rs with
        | [] => (match st with
          | .Assign ts c _ => popB N sc j x ts c
          | _ => false)
        | _ => false)
      | none => false)
    | .aug i o r => (match st with
      | .AugAssign t op e _ => (match t with
        | .Name x _ => loc N sc x i && decide (op = opA o) && chkE md N n sc e r
        | _ => false)
      | _ => false)
    | _ => false
def chkSs (md : Md) (N : List Str) (sc : Ns) : Nat → List Stmt → List Sm → Bool
  | 0, _, _ => false
  | n + 1, ss, ms => match ms with
    | [] => ss.isEmpty
    | .frz _ :: ms => chkSs md N sc n ss ms
    | m :: ms => (match ss with | s :: ss => chkS md N sc n s m && chkSs md N sc n ss ms | [] => false)
end
end G
end

section
/-! Ck7: the checker of statements is right. -/
namespace G
open PySem PySem.Spec PyProof.Rows L2
section
variable {X : Cx} {M : Pm} {md : Md} {N : List Str} {sc : Ns}
theorem rhs_ok (o : Ok X M md N sc) {n : Nat} {e : Expr} {m : E} (h : chkE md N n sc e m = true) : PE X e (tRhs M m) := by
  by_cases hm : isVar m = true
  · cases m <;> first | (cases hm; done) | skip
    cases n with
    | zero => cases h
    | succ n =>
      cases e <;> first | (cases h; done) | skip
      obtain ⟨a, b, c, d⟩ := o.vis h
      exact r_var a b c d
  · exact r_any (chk_ok n o _ _ h).se (by simpa using hm)
theorem held_id {m : E} (h : notHeld m = true) (σs : Slots) : held m σs = σs := by
  cases m <;> first | rfl | cases h
theorem notHeld_var {m : E} (h : notHeld m = true) : isVar m = false := by
  cases m <;> first | rfl | cases h
theorem iv_ok (o : Ok X M md N sc) {n : Nat} {e : Expr} {m : E} (h : chkIv (chkE md N n sc) e m = true) : PE X e (tIv M m) := by
  have F := chk_ok n o
  by_cases hm : isVar m = true
  · cases m <;> first | (cases hm; done) | skip
    obtain ⟨_, h⟩ := band h
    cases n with
    | zero => cases h
    | succ n =>
      cases e <;> first | (cases h; done) | skip
      obtain ⟨a, b, c, d⟩ := o.vis h
      exact iv_var a b c d
  · have h' : (notHeld m && chkE md N n sc e m) = true := by
      cases m <;> first | exact h | exact absurd rfl hm
    obtain ⟨h1, h2⟩ := band h'
    exact iv_any (F _ _ h2).se (notHeld_var h1) (held_id h1)
theorem it_ok (o : Ok X M md N sc) {n : Nat} {tg e : Expr} {m : E} (h : chkIt md sc (chkE md N n sc) tg e m = true) : PI X tg e (tIt M m) := by
  have F := chk_ok n o
  cases m with
  | range ms =>
    cases e <;> first | (cases h; done) | skip
    rename_i fe es kw pos
    cases fe <;> first | (cases h; done) | skip
    cases kw <;> first | (cases h; done) | skip
    rename_i x p
    unfold chkIt at h
    obtain ⟨h, h4⟩ := band h
    obtain ⟨h, h3⟩ := band h
    obtain ⟨h1, h2⟩ := band h
    have e1 := of_decide_eq_true h1
    subst e1
    have h4 := of_decide_eq_true h4
    rcases rng_args F h3 h4 with ⟨a, ma, rfl, rfl, k1, k2⟩ | ⟨a, b, ma, mb, rfl, rfl, k1, k2, k3⟩
    · exact it_range1 (o.free' h2) k1 k2
    · exact it_range2 (o.free' h2) k1 k2 k3
  | enum a =>
    cases e <;> first | (cases h; done) | skip
    rename_i fe es kw pos
    cases fe <;> first | (cases h; done) | skip
    rename_i x p
    match es, kw, h with
    | [e'], [], h =>
      unfold chkIt at h
      obtain ⟨h, h5⟩ := band h
      obtain ⟨h, h4⟩ := band h
      obtain ⟨h, h3⟩ := band h
      obtain ⟨h1, h2⟩ := band h
      have e1 := of_decide_eq_true h1
      subst e1
      cases tg <;> first | (cases h5; done) | skip
      exact it_enum o.eK (o.free' h2) (iv_ok o h4) (star_cons h3)
    | [], [], h => cases h
    | [], _ :: _, h => cases h
    | [_], _ :: _, h => cases h
    | _ :: _ :: _, [], h => cases h
    | _ :: _ :: _, _ :: _, h => cases h
  | _ => exact it_any o.eK (iv_ok (n := n) o h)
theorem lcl_ok (o : Ok X M md N sc) {x : Str} (h : lcl sc x = true) : X.env.scope.names.lookup x = some .local := by
  unfold lcl at h
  split at h
  · rename_i e
    rcases o.esc _ _ e with q | ⟨q, _⟩
    · exact q
    · cases q
  · cases h
theorem rs_ok (o : Ok X M md N sc) {n : Nat} : ∀ {es : List Expr} {rs : List E}, chkL (fun e m => chkE md N n sc e m && (isName e || !isVar m)) es rs = true → PA X es (tRhss M rs)
  | [], [], _ => rs_nil
  | [], _ :: _, h => by cases h
  | _ :: _, [], h => by cases h
  | e :: es, m :: ms, h => by
    unfold chkL at h
    obtain ⟨h, h3⟩ := band h
    obtain ⟨h1, h2⟩ := band h
    exact rs_cons (rhs_ok o (band h2).1) (rs_ok o h3) (star_cons h1)
theorem names_ix (o : Ok X M md N sc) {x y : Str} {i j : Nat} (h : loc N sc x i = true) (g : loc N sc y j = true) (hxy : (x == y) = false) : i ≠ j := by
  rintro rfl
  have a := (o.loc h).1
  have b := (o.loc g).1
  rw [a] at b
  cases b
  rw [beq_self_eq_true] at hxy
  cases hxy
theorem nb {b : Bool} (h : (!b) = true) : b = false := by simpa using h
theorem par_ok (o : Ok X M md N sc) {n : Nat} {is : List Nat} {rs : List E} {ts es : List Expr} {kt k2 : Nat} {pt pt2 pos : Pos} (h1 : chkNames N sc ts is = true) (h2 : chkL (fun e m => chkE md N n sc e m && (isName e || !isVar m)) es rs = true) (h3 : rs.length < 100) (h4 : (swp sc ts es || noSwp sc ts es) = true) :
    PS X (.Assign [.Tuple ts kt pt] (.Tuple es k2 pt2) pos) (tS M (.par is rs)) := by
  have ha := rs_ok o h2
  obtain ⟨k1, k2'⟩ := L_all h2
  have gen : swappedStores [.Tuple ts kt pt] (.Tuple es k2 pt2) X.env = pure none → PS X (.Assign [.Tuple ts kt pt] (.Tuple es k2 pt2) pos) (tS M (.par is rs)) := fun hw =>
    st_parT (tgt_ok (g := .tp is) o h1) ha h3 (swapsS_no rfl) hw (assign1 rfl)
  rcases Bool.or_eq_true_iff.mp h4 with h4 | h4
  · unfold swp at h4
    split at h4
    · rename_i x px y py a b
      obtain ⟨h4, q6⟩ := band h4
      obtain ⟨h4, q5⟩ := band h4
      obtain ⟨h4, q4⟩ := band h4
      obtain ⟨h4, q3⟩ := band h4
      obtain ⟨q1, q2⟩ := band h4
      match is, h1 with
      | [i, j], h1 =>
        unfold chkNames at h1
        obtain ⟨l1, h1⟩ := band h1
        unfold chkNames at h1
        obtain ⟨l2, _⟩ := band h1
        match rs, k2', ha with
        | [ma, mb], _, ha =>
          simp only [List.all_cons, List.all_nil, Bool.and_true, Bool.and_eq_true] at k1
          exact st_par2 o.ecalm o.nd' (o.loc l1).1 (o.loc l2).1 (names_ix o l1 l2 (nb q4)) (lcl_ok o q1) (lcl_ok o q2) ha (sw_some2 o.ekind (lcl_ok o q1) (lcl_ok o q2) q3 (nb q4) k1.1 k1.2 (nb q5) (nb q6)) (swapsS_no rfl)
        | [], h, _ => simp at h
        | [_], h, _ => simp at h
        | _ :: _ :: _ :: _, h, _ => simp at h
      | [], h1 => cases h1
      | [_], h1 => obtain ⟨_, h1⟩ := band h1; cases h1
      | _ :: _ :: _ :: _, h1 => obtain ⟨_, h1⟩ := band h1; obtain ⟨_, h1⟩ := band h1; cases h1
    · rename_i x px y py z pz a b c
      obtain ⟨h4, q10⟩ := band h4
      obtain ⟨h4, q9⟩ := band h4
      obtain ⟨h4, q8⟩ := band h4
      obtain ⟨h4, q7⟩ := band h4
      obtain ⟨h4, q6⟩ := band h4
      obtain ⟨h4, q5⟩ := band h4
      obtain ⟨h4, q4⟩ := band h4
      obtain ⟨h4, q3⟩ := band h4
      obtain ⟨q1, q2⟩ := band h4
      match is, h1 with
      | [i, j, l], h1 =>
        unfold chkNames at h1
        obtain ⟨l1, h1⟩ := band h1
        unfold chkNames at h1
        obtain ⟨l2, h1⟩ := band h1
        unfold chkNames at h1
        obtain ⟨l3, _⟩ := band h1
        match rs, k2', ha with
        | [ma, mb, mc], _, ha =>
          simp only [List.all_cons, List.all_nil, Bool.and_true, Bool.and_eq_true] at k1
          exact st_par3 o.ecalm o.nd' (o.loc l1).1 (o.loc l2).1 (o.loc l3).1 (names_ix o l1 l2 (nb q6)) (names_ix o l1 l3 (nb q7)) (names_ix o l2 l3 (nb q8)) (lcl_ok o q1) (lcl_ok o q2) (lcl_ok o q3) ha
            (sw_some3 o.ekind (lcl_ok o q1) (lcl_ok o q2) (lcl_ok o q3) q4 q5 (nb q6) (nb q7) (nb q8) k1.1 k1.2.1 k1.2.2 (nb q9) (nb q10)) (swapsS_no rfl)
        | [], h, _ => simp at h
        | [_], h, _ => simp at h
        | [_, _], h, _ => simp at h
        | _ :: _ :: _ :: _ :: _, h, _ => simp at h
      | [], h1 => cases h1
      | [_], h1 => obtain ⟨_, h1⟩ := band h1; cases h1
      | [_, _], h1 => obtain ⟨_, h1⟩ := band h1; obtain ⟨_, h1⟩ := band h1; cases h1
      | _ :: _ :: _ :: _ :: _, h1 => obtain ⟨_, h1⟩ := band h1; obtain ⟨_, h1⟩ := band h1; obtain ⟨_, h1⟩ := band h1; cases h1
    · cases h4
  · refine gen (sw_none ?_)
    unfold noSwp at h4
    rcases Bool.or_eq_true_iff.mp h4 with h4 | h4
    · rcases Bool.or_eq_true_iff.mp h4 with h4 | h4
      · obtain ⟨a, b⟩ := band h4
        exact .inl ⟨by simpa using a, by simpa using b⟩
      · obtain ⟨t, ht, q⟩ := List.any_eq_true.mp h4
        refine .inr (.inl ?_)
        cases t <;> first | (cases q; done) | skip
        rename_i x p
        refine ⟨x, p, ht, fun z => ?_⟩
        simp only at q
        split at q
        · rename_i e
          rcases o.esc _ _ e with w | ⟨w, _⟩
          · rw [w] at z; cases z
          · cases w
        · cases q
    · exact .inr (.inr h4)
end
end G
end

section
/-! Ck8: the checker of statements is right. -/
namespace G
open PySem PySem.Spec PyProof.Rows L2
section
variable {X : Cx} {M : Pm} {md : Md} {N : List Str} {sc : Ns}
theorem swaps_cell {e : Expr} {x : Str} {px : Pos} {l : Nat} {env : Env} (h : env.scope.names.lookup x ≠ some .local) : swapsWith e (some (.Name x px)) l env = pure false := by
  have kx : (env.kindOf x == some NameKind.local) = false := by
    cases q : (env.kindOf x == some NameKind.local) with
    | false => rfl
    | true => exact absurd (eq_of_beq q) h
  cases e <;> first | rfl | (unfold swapsWith; simp [kx])
theorem asg_ok (o : Ok X M md N sc) {n : Nat} {i : Nat} {x : Str} {px pos : Pos} {e : Expr} {r : E} (h1 : loc N sc x i = true) (h2 : chkE md N n sc e r = true) (h4 : lcB sc x px e = true) : PS X (.Assign [.Name x px] e pos) (tS M (.asg i r)) := by
  obtain ⟨l1, l2, l3⟩ := o.loc h1
  by_cases hl : notLc e = true
  · exact st_asg o.nd' l1 l2 (rhs_ok o h2) (swaps_no hl) l3
  · by_cases hx : X.env.scope.names.lookup x = some .local
    · cases e <;> first | (exact absurd rfl hl) | skip
      case SetComp => exact absurd h4 hl
      case DictComp => exact absurd h4 hl
      case ListComp elt' gs scope p =>
        have h4 : (!lcl sc x || ((px.line == p.line) && !(scope.names.any fun (n, k) => n == x && (k == .local || k == .cell)))) = true := h4
        cases hlc : lcl sc x with
        | false =>
          exfalso
          -- not a plain local: then it is none in the frame
          unfold loc at h1
          obtain ⟨_, h1⟩ := band h1
          unfold lcl at hlc
          split at h1
          · rename_i e0; rw [e0] at hlc; cases hlc
          · rename_i e0
            rcases o.esc _ _ e0 with q | ⟨q, _⟩
            · rw [q] at hx; cases hx
            · cases q
          · cases h1
        | true =>
          rw [hlc] at h4
          obtain ⟨h5, h6⟩ := band (show ((px.line == p.line) && _) = true from h4)
          have h6 := nb h6
          cases n with
          | zero => cases h2
          | succ n =>
            cases r <;> first | (cases h2; done) | skip
            rename_i elt tg it cs
            match gs, h2 with
            | [⟨tg', it', ifs, as⟩], h =>
              obtain ⟨h, h8⟩ := band h
              obtain ⟨h, h7⟩ := band h
              obtain ⟨h, h6'⟩ := band h
              obtain ⟨h, h5'⟩ := band h
              obtain ⟨h, h4'⟩ := band h
              obtain ⟨h, h3⟩ := band h
              obtain ⟨h1', h2⟩ := band h
              have e1 := of_decide_eq_true h1'
              subst e1
              have e4 := of_decide_eq_true h4'
              have hk := blkC_kind h3
              have F := chk_ok n o
              refine st_lc o.eK o.ecalm o.nd' l1 hx (sw_true o.ekind hx h5 h6) (ic_ok o F h2) (o.blkOk h3) (by rw [e4]; exact fun _ h => h) (by rw [e4]; exact fun _ h => h) (fun s H C cl fp => ?_) (fun s H C cl fp => ?_) (fun s H C cl fp => ?_) (folded_no h7)
              · exact tgt_ok (o.blk hk s H C cl fp) h5'
              · have Fb := chk_ok n (o.blk hk s H C cl fp)
                match ifs, cs, h8 with
                | [], [], _ => exact ifs_nil
                | [c'], [c], h8 =>
                  obtain ⟨h8, h9⟩ := band h8
                  exact ifs_one ((Fb _ _ h8).pt h9)
                | [], _ :: _, h8 => cases h8
                | [_], [], h8 => cases h8
                | [_], _ :: _ :: _, h8 => cases h8
                | _ :: _ :: _, _, h8 => cases h8
              · exact (chk_ok n (o.blk hk s H C cl fp) _ _ h6').se.v
            | [], h => cases h
            | ⟨_, _, _, _⟩ :: _ :: _, h => cases h
    · exact st_asg o.nd' l1 l2 (rhs_ok o h2) (swaps_cell hx) l3
theorem assign_sub {o ie : Expr} {pos : Pos} {env : Env} (h : notSl ie = true) (v : Value) : assign (.Subscript o ie pos) env v = (do
      let ov ← holding [v] (eval o env)
      let iv ← holding [v, ov] (eval ie env)
      standAt pos
      holding [v, ov, iv] (PySem.setItem ov iv v)
      release [v, ov, iv] []) := by
  cases ie <;> first | rfl | cases h
theorem few1 {e : Expr} {pos : Pos} {env : Env} (h : notStar e = true) : ((backTo pos (starEach [e] env)).all (fun x => !x.1) && (backToKw pos (keywordEach [] env)).all (fun x => x.1.isSome)
      && decide ([e].length + ([] : List Keyword).length + (if ([] : List Keyword).isEmpty then 0 else 1) < 30)) = true := by
  rw [star_cons h]
  rfl
theorem pop_ok (o : Ok X M md N sc) {j x : Nat} {ts : List Expr} {c : Expr} {p0 : Pos} (h : popB N sc j x ts c = true) : PS X (.Assign ts c p0) (tS M (.pop (some j) x [])) := by
  unfold popB at h
  split at h
  · rename_i z pz fe es kw p
    split at h
    · rename_i ob nm p2
      split at h
      · rename_i y py
        obtain ⟨h, h4⟩ := band h
        obtain ⟨h, h3⟩ := band h
        obtain ⟨h1, h2⟩ := band h
        obtain ⟨a, b, c⟩ := o.loc h1
        obtain ⟨a2, b2, c2, d2⟩ := o.vis h2
        have e1 := of_decide_eq_true h3
        subst e1
        exact st_pop o.nd' a b a2 b2 c2 d2 rfl h4 (swaps_no rfl) c
      · cases h
    · cases h
  · cases h
theorem st_ok (o : Ok X M md N sc) (hp : PassesOwn (model X.prog X.w) X.A X.env X.xe) : ∀ (n : Nat), (∀ st m, chkS md N sc n st m = true → PS X st (tS M m)) ∧ (∀ ss ms, chkSs md N sc n ss ms = true → PSs X ss (tSs M ms))
  | 0 => ⟨(fun _ _ h => by unfold chkS at h; cases h), (fun _ _ h => by unfold chkSs at h; cases h)⟩
  | n + 1 => by
    obtain ⟨IS, ISs⟩ := st_ok o hp n
    have F := chk_ok n o
    refine ⟨fun st m h => ?_, fun ss ms h => ?_⟩
    · cases m with
      | never => exact st_never
      | pass_ => cases st <;> first | (unfold chkS at h; cases h; done) | skip; exact st_pass
      | brk => cases st <;> first | (unfold chkS at h; cases h; done) | skip; exact st_brk
      | retN =>
        cases st <;> first | (unfold chkS at h; cases h; done) | skip
        rename_i v p
        cases v <;> first | (unfold chkS at h; cases h; done) | skip
        exact st_retN
      | ret r =>
        cases st <;> first | (unfold chkS at h; cases h; done) | skip
        rename_i v p
        cases v <;> first | (unfold chkS at h; cases h; done) | skip
        unfold chkS at h
        obtain ⟨h1, _⟩ := band h
        exact st_ret (rhs_ok o h1)
      | expr r =>
        cases st <;> first | (unfold chkS at h; cases h; done) | skip
        unfold chkS at h
        obtain ⟨h1, h2⟩ := band h
        exact st_expr (F _ _ h1).se (swaps_no h2)
      | iff c a b =>
        cases st <;> first | (unfold chkS at h; cases h; done) | skip
        unfold chkS at h
        obtain ⟨h, h4⟩ := band h
        obtain ⟨h, h3⟩ := band h
        obtain ⟨h1, h2⟩ := band h
        exact st_iff ((F _ _ h1).pt h2) (ISs _ _ h3) (ISs _ _ h4)
      | whl c b =>
        cases st <;> first | (unfold chkS at h; cases h; done) | skip
        rename_i c' b' oe p
        unfold chkS at h
        obtain ⟨h, h4⟩ := band h
        obtain ⟨h, h3⟩ := band h
        obtain ⟨h1, h2⟩ := band h
        have e : oe = [] := List.isEmpty_iff.mp h4
        subst e
        exact st_whl hp ((F _ _ h1).pt h2) (ISs _ _ h3)
      | for_ tg it b =>
        cases st <;> first | (unfold chkS at h; cases h; done) | skip
        rename_i tg' it' b' oe p
        unfold chkS at h
        obtain ⟨h, h5⟩ := band h
        obtain ⟨h, h4⟩ := band h
        obtain ⟨h, h3⟩ := band h
        obtain ⟨h1, h2⟩ := band h
        have e : oe = [] := List.isEmpty_iff.mp h4
        subst e
        exact st_for o.eK hp o.ecalm (it_ok o h2) (tgt_ok o h1) (ISs _ _ h3) (folded_no h5)
      | asg i r =>
        cases st <;> first | (unfold chkS at h; cases h; done) | skip
        rename_i ts e p
        unfold chkS at h
        match ts, h with
        | [t], h =>
          cases t <;> first | (cases h; done) | skip
          obtain ⟨h, h4⟩ := band h
          obtain ⟨h, _⟩ := band h
          obtain ⟨h1, h2⟩ := band h
          exact asg_ok o h1 h2 h4
        | [], h => cases h
        | e0 :: _ :: _, h => cases e0 <;> cases h
      | asgT is r =>
        cases st <;> first | (unfold chkS at h; cases h; done) | skip
        rename_i ts e p
        unfold chkS at h
        match ts, h with
        | [t], h =>
          obtain ⟨h, h5⟩ := band h
          obtain ⟨h, h4⟩ := band h
          obtain ⟨h, h3⟩ := band h
          obtain ⟨h1, h2⟩ := band h
          exact st_asgT o.eK (F _ _ h2).se (tgt_ok o h1) (swapsS_no h3) (stores_no h4) (assign1 h5)
        | [], h => cases h
        | _ :: _ :: _, h => cases h
      | par is rs =>
        cases st <;> first | (unfold chkS at h; cases h; done) | skip
        rename_i ts e p
        unfold chkS at h
        match ts, h with
        | [t], h =>
          cases e <;> first | (cases h; done) | skip
          obtain ⟨h, h4⟩ := band h
          obtain ⟨h, h3⟩ := band h
          obtain ⟨h1, h2⟩ := band h
          cases t <;> first | (cases h4; done) | skip
          exact par_ok o h1 h2 (of_decide_eq_true h3) h4
        | [], h => cases h
        | _ :: _ :: _, h => cases e <;> cases h
      | setI x i r =>
        cases st <;> first | (unfold chkS at h; cases h; done) | skip
        rename_i ts e p
        unfold chkS at h
        match ts, h with
        | [t], h =>
          cases t <;> first | (cases h; done) | skip
          rename_i ob ie p2
          cases ob <;> first | (cases h; done) | skip
          obtain ⟨h, h5⟩ := band h
          obtain ⟨h, h4⟩ := band h
          obtain ⟨h, h3⟩ := band h
          obtain ⟨h1, h2⟩ := band h
          obtain ⟨a, b, c, d⟩ := o.vis h1
          exact st_setI o.eW (by have := o.un; omega) a b c d (F _ _ h3).se (F _ _ h2).se (assign_sub h5) (swapsS_no h4) stores_sub (assign1 rfl)
        | [], h => cases h
        | e0 :: _ :: _, h => cases e0 <;> cases h
      | app x r =>
        cases st <;> first | (unfold chkS at h; cases h; done) | skip
        rename_i ce p
        cases ce <;> first | (unfold chkS at h; cases h; done) | skip
        rename_i fe es kw p1
        cases fe <;> first | (unfold chkS at h; cases h; done) | skip
        rename_i ob nm p2
        unfold chkS at h
        match es, kw, h with
        | [e], [], h =>
          cases ob <;> first | (cases h; done) | skip
          obtain ⟨h, h5⟩ := band h
          obtain ⟨h, h4⟩ := band h
          obtain ⟨h, h3⟩ := band h
          obtain ⟨h1, h2⟩ := band h
          obtain ⟨a, b, c, d⟩ := o.vis h1
          have e1 := of_decide_eq_true h2
          subst e1
          exact st_app a b c d (F _ _ h3).se rfl (few1 h4) h5 (star_cons h4) rfl (swaps_no rfl)
        | [], _, h => cases h
        | [_], _ :: _, h => cases h
        | _ :: _ :: _, _, h => cases h
      | pop j x rs =>
        unfold chkS at h
        cases j with
        | none => cases h
        | some j =>
          cases rs with
          | cons _ _ => cases h
          | nil =>
            cases st <;> first | (cases h; done) | skip
            rename_i ts c p0
            exact pop_ok o h
      | aug i op r =>
        cases st <;> first | (unfold chkS at h; cases h; done) | skip
        rename_i t op' e p
        cases t <;> first | (unfold chkS at h; cases h; done) | skip
        unfold chkS at h
        obtain ⟨h, h3⟩ := band h
        obtain ⟨h1, h2⟩ := band h
        obtain ⟨a, b, c⟩ := o.loc h1
        have e1 := of_decide_eq_true h2
        subst e1
        exact st_aug o.nd' a b (F _ _ h3).se c
      | _ => unfold chkS at h; cases h
    · unfold chkSs at h
      cases ms with
      | nil =>
        have e : ss = [] := List.isEmpty_iff.mp h
        subst e
        exact ss_nil
      | cons m ms =>
        cases ss with
        | nil =>
          cases m with
          | frz i => exact ss_frz (ISs _ _ h)
          | _ => cases h
        | cons s ss =>
          cases m with
          | frz i => exact ss_frz (ISs _ _ h)
          | _ => exact ss_cons (IS _ _ (band h).1) (ISs _ _ (band h).2)
end
end G
end

section
/-! Fn: every def keeps its promise, by induction on the depth of calls. -/
namespace G
open PySem PySem.Spec PyProof.Rows L2
theorem paired_get {α γ : Type} {R : α → γ → Prop} : ∀ {vs : List α} {ps : List γ} {i : Nat} {p : γ}, Paired R vs ps → ps[i]? = some p → ∃ v, vs[i]? = some v ∧ R v p
  | _, _, _, _, .nil, e => by simp at e
  | _, _, 0, _, .cons h t, e => by simp at e; subst e; exact ⟨_, rfl, h⟩
  | _, _, i + 1, _, .cons h t, e => by
    obtain ⟨v, e1, e2⟩ := paired_get (i := i) t (by simpa using e)
    exact ⟨v, by simpa using e1, e2⟩
theorem start_get {N : List Str} {vs : List V} {i : Nat} {v : V} (h : vs[i]? = some v) : (L2.start N vs)[i]? = some (some v) := by
  have hi := (List.getElem?_eq_some_iff.mp h).1
  unfold L2.start
  rw [List.getElem?_append_left (by simpa using hi), List.getElem?_map, h]
  rfl
theorem startS_get {d : Fd} {ps : List PV} {i : Nat} {t : Tag} {p : PV} (h : getS (startS d ps) i = some (t, p)) : t = (if d.pv then Tag.val else Tag.bor) ∧ ps[i]? = some p := by
  unfold getS startS at h
  by_cases hi : i < ps.length
  · rw [List.getElem?_append_left (by simpa using hi), List.getElem?_map] at h
    cases e : ps[i]? with
    | none => rw [e] at h; cases h
    | some q =>
      rw [e] at h
      simp only [Option.map_some, Option.some.injEq, Prod.mk.injEq] at h
      exact ⟨h.1.symm, by rw [h.2]⟩
  · rw [List.getElem?_append_right (by simpa using hi)] at h
    rw [List.getElem?_replicate] at h
    by_cases c : i - (ps.map fun v => some ((if d.pv then Tag.val else Tag.bor), v)).length < d.n - ps.length
    · rw [if_pos c] at h; cases h
    · rw [if_neg c] at h; cases h
theorem start_rel {W : Wd} {β : List Addr} {H : Hp} {S : G.St} {d : Fd} {ps : List PV} {vs : List V} {N : List Str} (b : BR W β S H) (hd : d.n = N.length) (hv : vs.length = ps.length) (hpv : d.pv = false) (h : Paired (fun v p => RdP W β H p v) vs ps) :
    Rel W β H β S H (startS d ps) (L2.start N vs) where
  len := by
    unfold startS L2.start
    rw [List.length_append, List.length_append, List.length_map, List.length_map, List.length_replicate, List.length_replicate, hv, hd]
  val := fun i p e => by
    obtain ⟨e1, _⟩ := startS_get e
    rw [hpv] at e1
    cases e1
  bor := fun i p e => by
    obtain ⟨_, e2⟩ := startS_get e
    obtain ⟨v, e3, q | ⟨a, e4, q, n⟩⟩ := paired_get h e2
    · exact ⟨v, start_get e3, .inl q⟩
    · refine ⟨v, start_get e3, .inr ⟨a, e4, q, n, ?_⟩⟩
      obtain ⟨u, hu, _⟩ := q.tracked
      rw [hu]
      exact fun z => nomatch z
  own := fun i p e => by
    obtain ⟨e1, _⟩ := startS_get e
    rw [hpv] at e1
    cases e1
  sep := fun i j p q a _ e _ _ _ _ _ => by
    obtain ⟨e1, _⟩ := startS_get e
    rw [hpv] at e1
    cases e1
  br := b
  stp := .refl
/-- what a law's module must say of its defs -/
structure DefOk (P : Program) (w : World) (K : PySem.W.Frag) (mg : Str → Option Value) (base : Heap) (fa : Nat → Addr) (md : Md) (T : Nat → Option Fd) (q : Str × Nat × Nat) : Prop where
  ex : ∃ (d : Fd) (N ps : List Str) (st : Stmt) (fd : FuncData) (n : Nat), T q.2.1 = some d ∧ d.np = q.2.2 ∧ d.pv = false ∧ d.n = N.length ∧ ps.length = q.2.2 ∧
    FunD K q.1 q.1 (defArgs st) (defBody st) (defScope st) [] [] (fa q.2.1) fd ∧ FnScope N ps (defScope st) ∧ chkSs md N (defScope st).names n (defBody st) d.body = true ∧ Binds K fd ps []
  mg : mg q.1 = some (.ref (fa q.2.1))
section
variable {P : Program} {w : World} {K : PySem.W.Frag} {mg : Str → Option Value} {base : Heap} {fa : Nat → Addr} {ca : Nat → Value} {md : Md} {T : Nat → Option Fd} {g : Nat → PV}
/-- the context of a body -/
theorem ok_body (hcs : ∀ q ∈ md.cs, ∃ u v, mg q.1 = some u ∧ RelV v u ∧ ∀ β H, Rep ⟨P, w, K, fa, ca⟩ β H (g q.2) v) (hfree : ∀ x ∈ md.free, mg x = none) {k : Nat} {N ps : List Str} {sc : Scope} {f : Addr} {cdv : Value} {A : Around} {outer : List Env} {s : Shared} {H : Hp} {E : XK} {x : Str} {β : List Addr}
    (S : FnScope N ps sc) (hr : Room k (A.deeper (envOfC x sc s.heap.objs.size f cdv)))
    (IH : ∀ q ∈ md.fns, mg q.1 = some (.ref (fa q.2.1)) ∧ PySem.W.keepIn K (.ref (fa q.2.1)) = true ∧ ∃ fd ps, FnOk P w K mg base (L2.CX P w) k (fa q.2.1) fd ps (spF ⟨P, w, K, fa, ca⟩ (callF T g k q.2.1) q.2.2) ∧ Binds K fd ps []) :
    Ok (cxOf (L2.CX P w) P w K mg base N x sc f cdv A outer s H E) ⟨⟨P, w, K, fa, ca⟩, ⟨callF T g k, g⟩, β, H, fun cls d _ H' => E cls d H'⟩ md N sc.names where
  eK := rfl
  ew := rfl
  ecalm := rfl
  eN := rfl
  end_ := S.nd
  ekind := S.kind
  esc := fun x k h => .inl h
  efn := fun x _ => rfl
  un := by
    have := hr.un
    show (A.deeper (envOfC x sc s.heap.objs.size f cdv)).units + 100 < cLine
    omega
  tk := takes_of rfl rfl rfl rfl
  efns := fun q hq => by
    obtain ⟨h1, h2, fd, ps, h3, h4⟩ := IH q hq
    exact ⟨h1, h2, k, fd, ps, h3, hr, h4⟩
  ecs := hcs
  efree := hfree
theorem fin_body {W : Wd} {C : Ctx} {β : List Addr} {H : Hp} {E : XK} {Q : VK} {r : SR} (hm : match fin r with
    | .ok p S' => ∀ v H' β', Stp β β' H H' → BR W β' S' H' → Rep W β' H' p v → Q v H'
    | .ex e S' => ∀ cls d H' β', Stp β β' H H' → BR W β' S' H' → ExR W β' H' e cls d → E cls d H'
    | .no => False) : SK ⟨W, C, β, H, fun cls d _ H' => E cls d H'⟩ r β H { nx := fun _ H' => Q .non H', rt := Q } := by
  cases r with
  | nx σ' S' => exact fun σ' H' β' u r => hm .non H' β' r.stp r.br (by simp only [Rep])
  | rt p S' => exact fun v H' β' u s b r => hm v H' β' s b r
  | bk σ' S' => exact hm.elim
  | ex e σ' S' => exact fun cls d σ' H' β' u r x => hm cls d H' β' r.stp r.br x
  | no => exact hm.elim
theorem fn_all (D : ∀ q ∈ md.fns, DefOk P w K mg base fa md T q) (hcs : ∀ q ∈ md.cs, ∃ u v, mg q.1 = some u ∧ RelV v u ∧ ∀ β H, Rep ⟨P, w, K, fa, ca⟩ β H (g q.2) v) (hfree : ∀ x ∈ md.free, mg x = none) :
    ∀ k, ∀ q ∈ md.fns, mg q.1 = some (.ref (fa q.2.1)) ∧ PySem.W.keepIn K (.ref (fa q.2.1)) = true ∧ ∃ fd ps, FnOk P w K mg base (L2.CX P w) k (fa q.2.1) fd ps (spF ⟨P, w, K, fa, ca⟩ (callF T g k q.2.1) q.2.2) ∧ Binds K fd ps [] := by
  intro k
  induction k with
  | zero =>
    intro q hq
    obtain ⟨⟨d, N, ps, st, fd, n, h1, h2, h3, h4, h5, F, S, hc, hb⟩, hmg⟩ := D q hq
    refine ⟨hmg, F.kp, fd, ps, ⟨fun vs H Q E h => ?_, fun A outer s H args us vs Q E _ _ _ _ h => ?_⟩, hb⟩
    · rw [h5]; exact h.1
    · obtain ⟨_, ps', S', β, _, _, z⟩ := h
      exact z.elim
  | succ k IH =>
    intro q hq
    obtain ⟨⟨d, N, ps, st, fd, n, h1, h2, h3, h4, h5, F, S, hc, hb⟩, hmg⟩ := D q hq
    refine ⟨hmg, F.kp, fd, ps, F.ok S (fun vs H Q E h => by rw [h5]; exact h.1) fun cdv A outer s H vs Q E hr h => ?_, hb⟩
    obtain ⟨hl, ps', S', β, br, pr, hm⟩ := h
    have hlen := paired_len pr
    have hc' : callF T g (k + 1) q.2.1 ps' S' = fin (exSs ⟨callF T g k, g⟩ d.body (startS d ps') S') := by
      show (match T q.2.1 with | some d => if ps'.length = d.np then fin (exSs ⟨callF T g k, g⟩ d.body (startS d ps') S') else .no | none => .no) = _
      rw [h1]
      exact if_pos (by omega)
    rw [hc'] at hm
    have o := ok_body (ca := ca) (g := g) (T := T) (f := fa q.2.1) (cdv := cdv) (A := A) (outer := outer) (s := s) (H := H) (E := E) (x := q.1) (β := β) hcs hfree S hr IH
    refine ⟨_, (st_ok o (passes_of rfl) n).2 _ _ hc, startS d ps', S', β, start_rel br h4 hlen h3 pr, fin_body hm⟩
end
end G
end

section
/-! Fn2: the law's own def: the script enters as a value. -/
namespace G
open PySem PySem.Spec PyProof.Rows L2
theorem repL_of_ints {W : Wd} {β : List Addr} {H : Hp} : ∀ (ns : List Int), RepL W β H (ns.map .int) (ns.map V.int)
  | [] => by simp only [List.map_nil, RepL]
  | n :: ns => by
    simp only [List.map_cons, RepL]
    exact ⟨_, _, rfl, int_rep, repL_of_ints ns⟩
/-- the law's promise: what the interpreter says of it -/
def spLaw (K : PySem.W.Frag) (run : PV → R PV) : Sp := fun vs H Q _ => ∃ (a : Addr) (ns : List Int) (S' : G.St), vs = [.ref a] ∧ SqL K H a (ns.map V.int) ∧ run (.exc 1000 (ns.map .int)) = .ok (.bl true) S' ∧ ∀ H', Q (.bl true) H'
section
variable {P : Program} {w : World} {K : PySem.W.Frag} {mg : Str → Option Value} {base : Heap} {fa : Nat → Addr} {ca : Nat → Value} {md : Md} {T : Nat → Option Fd} {g : Nat → PV}
theorem law_rel {W : Wd} {H : Hp} {d : Fd} {a : Addr} {N : List Str} {ns : List Int} (hd : d.n = N.length) (hpv : d.pv = true) (h : FzS W.K H a (ns.map V.int)) :
    Rel W [] H [] [] H (startS d [.exc 1000 (ns.map .int)]) (L2.start N [.ref a]) where
  len := by
    unfold startS L2.start
    rw [List.length_append, List.length_append, List.length_map, List.length_map, List.length_replicate, List.length_replicate, hd]
    rfl
  val := fun i p e => by
    obtain ⟨_, e2⟩ := startS_get e
    match i, e2 with
    | 0, e2 =>
      simp only [List.getElem?_cons_zero, Option.some.injEq] at e2
      subst e2
      refine ⟨.ref a, start_get (by rfl), ?_⟩
      simp only [Rep]
      exact ⟨trivial, a, ns.map V.int, rfl, h, repL_of_ints ns⟩
    | i + 1, e2 => simp at e2
  bor := fun i p e => by
    obtain ⟨e1, _⟩ := startS_get e
    rw [hpv] at e1
    cases e1
  own := fun i p e => by
    obtain ⟨e1, _⟩ := startS_get e
    rw [hpv] at e1
    cases e1
  sep := fun i j p q a _ e _ _ _ _ _ => by
    obtain ⟨e1, _⟩ := startS_get e
    rw [hpv] at e1
    cases e1
  br := ⟨rfl, List.nodup_nil, fun n p e => by simp at e⟩
  stp := .refl
/-- the law's reading: behind a ghost step -/
def tLaw (X : Cx) (W : Wd) (C : Ctx) (E : XK) (ms : List Sm) : TS := fun D σ H => ∀ pins s, Inv X pins σ H s → ∃ H2, Inv X pins σ H2 s ∧ tSs ⟨W, C, [], H2, fun cls d _ H' => E cls d H'⟩ ms D σ H2
theorem law_fn (D : ∀ q ∈ md.fns, DefOk P w K mg base fa md T q) (hcs : ∀ q ∈ md.cs, ∃ u v, mg q.1 = some u ∧ RelV v u ∧ ∀ β H, Rep ⟨P, w, K, fa, ca⟩ β H (g q.2) v) (hfree : ∀ x ∈ md.free, mg x = none)
    {k n : Nat} {d : Fd} {x p : Str} {N : List Str} {st : Stmt} {f : Addr} {fd : FuncData} (hpv : d.pv = true) (hn : d.n = N.length) (F : FunD K x x (defArgs st) (defBody st) (defScope st) [] [] f fd) (S : FnScope N [p] (defScope st)) (hc : chkSs md N (defScope st).names n (defBody st) d.body = true) :
    FnOk P w K mg base (L2.CX P w) (k + 1) f fd [p] (spLaw K fun v => fin (exSs ⟨callF T g k, g⟩ d.body (startS d [v]) [])) := by
  refine F.ok S (fun vs H Q E h => ?_) fun cdv A outer s H vs Q E hr h => ?_
  · obtain ⟨a, ns, S', rfl, _⟩ := h
    rfl
  obtain ⟨a, ns, S', rfl, hS, hrun, hQ⟩ := h
  have IH := fn_all (P := P) (w := w) (base := base) (ca := ca) (g := g) D hcs hfree k
  have o := fun (H2 : Hp) => ok_body (ca := ca) (g := g) (T := T) (f := f) (cdv := cdv) (A := A) (outer := outer) (s := s) (H := H) (E := E) (x := x) (β := []) hcs hfree S hr IH
  let X := cxOf (L2.CX P w) P w K mg base N x (defScope st) f cdv A outer s H E
  have o2 : ∀ H2 : Hp, Ok X ⟨⟨P, w, K, fa, ca⟩, ⟨callF T g k, g⟩, [], H2, fun cls d _ H' => E cls d H'⟩ md N (defScope st).names := fun H2 =>
    ⟨(o H2).eK, (o H2).ew, (o H2).ecalm, (o H2).eN, (o H2).end_, (o H2).ekind, (o H2).esc, (o H2).efn, (o H2).un, (o H2).tk, fun q hq => ⟨((o H2).efns q hq).mg, ((o H2).efns q hq).kp, ((o H2).efns q hq).ok⟩, (o H2).ecs, (o H2).efree⟩
  refine ⟨tLaw X ⟨P, w, K, fa, ca⟩ ⟨callF T g k, g⟩ E d.body, ⟨fun pins s σ H D I h => ?_⟩, fun pins s I => ?_⟩
  · obtain ⟨H2, I2, q⟩ := h pins s I
    exact ((st_ok (o2 H2) (passes_of rfl) n).2 _ _ hc).run pins s σ H2 D I2 q
  · obtain ⟨H2, I2, hz⟩ : ∃ H2, Inv X pins (L2.start N [.ref a]) H2 s ∧ FzS K H2 a (ns.map V.int) := by
      rcases hS with (hS | hS) | hS
      · obtain ⟨ob, J⟩ := Inv.frzL I hS
        exact ⟨_, J, .inl ⟨ob, upd_same⟩⟩
      · exact ⟨H, I, .inl hS⟩
      · exact ⟨H, I, .inr hS⟩
    refine ⟨H2, I2, startS d [.exc 1000 (ns.map .int)], [], [], law_rel hn hpv hz, fin_body ?_⟩
    have hrun : fin (exSs ⟨callF T g k, g⟩ d.body (startS d [.exc 1000 (ns.map .int)]) []) = .ok (.bl true) S' := hrun
    rw [hrun]
    intro v H' β' _ _ r
    simp only [Rep] at r
    subst r
    exact hQ H'
end
end G
end

section
/-! Fn3: a law's defs as data; checks of them. -/
namespace G
open PySem PySem.Spec PyProof.Rows L2
def scopeB (N ps : List Str) (sc : Scope) : Bool := decide (sc.kind = .function) && !sc.isCoroutine && !sc.isGenerator && decide N.Nodup && decide (N.take ps.length = ps) && ps.all (fun x => decide (sc.names.lookup x = some .local) || decide (sc.names.lookup x = some .cell)) && sc.names.all fun y => decide (y.2 ≠ .free)
theorem scope_ok {N ps : List Str} {sc : Scope} (h : scopeB N ps sc = true) : FnScope N ps sc := by
  unfold scopeB at h
  obtain ⟨h, h7⟩ := band h
  obtain ⟨h, h6⟩ := band h
  obtain ⟨h, h5⟩ := band h
  obtain ⟨h, h4⟩ := band h
  obtain ⟨h, h3⟩ := band h
  obtain ⟨h1, h2⟩ := band h
  refine ⟨of_decide_eq_true h1, nb h2, nb h3, of_decide_eq_true h4, of_decide_eq_true h5, fun x hx => ?_, fun y hy => ?_⟩
  · have := List.all_eq_true.mp h6 x hx
    rcases Bool.or_eq_true_iff.mp this with q | q
    · exact .inl (of_decide_eq_true q)
    · exact .inr (of_decide_eq_true q)
  · exact of_decide_eq_true (List.all_eq_true.mp h7 y hy)
/-- a def of the law's text: its name, id, names, parameters, statement -/
structure Row where
  x : Str
  id : Nat
  N : List Str
  np : Nat
  st : Stmt
def Row.q (r : Row) : Str × Nat × Nat := (r.x, r.id, r.np)
/-- the def's text is what the table says -/
def Row.ok (md : Md) (T : Nat → Option Fd) (r : Row) (fuel : Nat) : Bool := (match T r.id with
  | some d => decide (d.np = r.np) && !d.pv && decide (d.n = r.N.length) && scopeB r.N (r.N.take r.np) (defScope r.st) && decide ((r.N.take r.np).length = r.np) && chkSs md r.N (defScope r.st).names fuel (defBody r.st) d.body
  | none => false)
theorem Row.def_ {P : Program} {w : World} {K : PySem.W.Frag} {mg : Str → Option Value} {base : Heap} {fa : Nat → Addr} {md : Md} {T : Nat → Option Fd} {r : Row} {fuel : Nat} {fd : FuncData} (h : r.ok md T fuel = true)
    (F : FunD K r.x r.x (defArgs r.st) (defBody r.st) (defScope r.st) [] [] (fa r.id) fd) (hb : Binds K fd (r.N.take r.np) []) (hg : mg r.x = some (.ref (fa r.id))) : DefOk P w K mg base fa md T r.q := by
  unfold Row.ok at h
  split at h
  · rename_i d hd
    obtain ⟨h, h6⟩ := band h
    obtain ⟨h, h5⟩ := band h
    obtain ⟨h, h4⟩ := band h
    obtain ⟨h, h3⟩ := band h
    obtain ⟨h1, h2⟩ := band h
    exact ⟨⟨d, r.N, r.N.take r.np, r.st, fd, fuel, hd, of_decide_eq_true h1, nb h2, of_decide_eq_true h3, of_decide_eq_true h5, F, scope_ok h4, h6, hb⟩, hg⟩
  · cases h
/-- where the defs lie, by their names -/
def faOf (rs : List Row) (K : PySem.W.Frag) (i : Nat) : Addr := match rs.find? (fun r => r.id == i) with
  | some r => He.ga K r.x
  | none => 0
end G
end

section
set_option autoImplicit false
/-! Mir: evaluation of the interpreter by rewriting; what follows is named, so that rewriting stays out of it. -/
namespace G
/-! names of their own: the kernel then compares their arguments first -/
def eE (C : Ctx) (e : E) (br : Bool) (σ : Slots) (S : St) : R PV := evE C e br σ S
def eEs (C : Ctx) (es : List E) (br : Bool) (σ : Slots) (S : St) : R (List PV) := evEs C es br σ S
def eAnd (C : Ctx) (es : List E) (σ : Slots) (S : St) : R Bool := evAnd C es σ S
def eOr (C : Ctx) (es : List E) (σ : Slots) (S : St) : R Bool := evOr C es σ S
def sS (C : Ctx) (s : Sm) (σ : Slots) (S : St) : SR := exS C s σ S
def sSs (C : Ctx) (ss : List Sm) (σ : Slots) (S : St) : SR := exSs C ss σ S
def rH (C : Ctx) (e : E) (σ : Slots) (S : St) : R (Slots × Tag × PV) := rhs C e σ S
def rHs (C : Ctx) (es : List E) (σ : Slots) (S : St) : R (Slots × List (Tag × PV)) := rhss C es σ S
def cG (f : PV → St → R (Option PV)) (xs acc : List PV) (S : St) : R PV := compGo f xs acc S
def cG2 (f : PV → List PV → St → R (List PV)) (xs acc : List PV) (S : St) : R PV := compGo2 f xs acc S
def fG (b : PV → Slots → St → SR) (xs : List PV) (σ : Slots) (S : St) : SR := forGo b xs σ S
def wG (c : Slots → St → R Bool) (b : Slots → St → SR) (n : Nat) (σ : Slots) (S : St) : SR := whileGo c b n σ S
def cl (T : Nat → Option Fd) (g : Nat → PV) (k f : Nat) (vs : List PV) (S : St) : R PV := callF T g k f vs S
section
variable {α β : Type}
theorem bind_ok (a : α) (S : St) (f : α → St → R β) : (R.ok a S).bind f = f a S := (rfl)
theorem bind_ex (a : PV) (S : St) (f : α → St → R β) : (R.ex a S).bind f = .ex a S := (rfl)
theorem bind_no (f : α → St → R β) : (R.no : R α).bind f = .no := (rfl)
theorem liftS_ok (a : α) (σ : Slots) (S : St) (f : α → St → SR) : liftS σ (.ok a S) f = f a S := (rfl)
theorem liftS_ex (a : PV) (σ : Slots) (S : St) (f : α → St → SR) : liftS σ (.ex a S) f = .ex a σ S := (rfl)
theorem op1_some (a : α) (S : St) : op1 (some a) S = .ok a S := (rfl)
end
theorem andThen_nx (σ : Slots) (S : St) (f : Slots → St → SR) : (SR.nx σ S).andThen f = f σ S := (rfl)
theorem andThen_rt (v : PV) (S : St) (f : Slots → St → SR) : (SR.rt v S).andThen f = .rt v S := (rfl)
theorem andThen_bk (σ : Slots) (S : St) (f : Slots → St → SR) : (SR.bk σ S).andThen f = .bk σ S := (rfl)
theorem andThen_ex (e : PV) (σ : Slots) (S : St) (f : Slots → St → SR) : (SR.ex e σ S).andThen f = .ex e σ S := (rfl)
theorem fin_rt (v : PV) (S : St) : fin (.rt v S) = .ok v S := (rfl)
theorem fin_nx (σ : Slots) (S : St) : fin (.nx σ S) = .ok .non S := (rfl)
theorem fin_ex (e : PV) (σ : Slots) (S : St) : fin (.ex e σ S) = .ex e S := (rfl)
theorem asB_bl (b : Bool) (S : St) : asB (.bl b) S = .ok b S := (rfl)
theorem getS_nil (i : Nat) : getS [] i = none := (rfl)
theorem getS_zero (x : Option (Tag × PV)) (σ : Slots) : getS (x :: σ) 0 = x := (rfl)
theorem getS_succ (x : Option (Tag × PV)) (σ : Slots) (i : Nat) : getS (x :: σ) (i + 1) = getS σ i := (rfl)
theorem setS_zero (x : Option (Tag × PV)) (σ : Slots) (t : Tag) (v : PV) : setS (x :: σ) 0 t v = some (t, v) :: σ := (rfl)
theorem setS_succ (x : Option (Tag × PV)) (σ : Slots) (i : Nat) (t : Tag) (v : PV) : setS (x :: σ) (i + 1) t v = x :: setS σ i t v := (rfl)
theorem clr_zero (x : Option (Tag × PV)) (σ : Slots) (y : Option (Tag × PV)) : List.set (x :: σ) 0 y = y :: σ := (rfl)
theorem clr_succ (x : Option (Tag × PV)) (σ : Slots) (i : Nat) (y : Option (Tag × PV)) : List.set (x :: σ) (i + 1) y = x :: List.set σ i y := (rfl)
/-- reading: a borrowed or a value's slot -/
def rd (br : Bool) : Option (Tag × PV) → Option PV
  | some (t, v) => if br || t = .val || !cont v then some v else none
  | none => none
theorem readV_rd (br : Bool) (σ : Slots) (i : Nat) : readV br σ i = rd br (getS σ i) := by
  unfold readV rd; cases getS σ i with
  | none => rfl
  | some q => rfl
theorem rd_true (t : Tag) (v : PV) : rd true (some (t, v)) = some v := by simp [rd]
theorem rd_val (br : Bool) (v : PV) : rd br (some (.val, v)) = some v := by simp [rd]
theorem rd_int (br : Bool) (t : Tag) (i : Int) : rd br (some (t, .int i)) = some (.int i) := by simp [rd, cont]
theorem rd_tup (br : Bool) (t : Tag) (i : List PV) : rd br (some (t, .tup i)) = some (.tup i) := by simp [rd, cont]
theorem rd_bl (br : Bool) (t : Tag) (i : Bool) : rd br (some (t, .bl i)) = some (.bl i) := by simp [rd, cont]
theorem rd_str (br : Bool) (t : Tag) (i) : rd br (some (t, .str i)) = some (.str i) := by simp [rd, cont]
theorem rd_non (br : Bool) (t : Tag) : rd br (some (t, .non)) = some .non := by simp [rd, cont]
theorem rd_ref (br : Bool) (t : Tag) (n : Nat) : rd br (some (t, .ref n)) = some (.ref n) := by simp [rd, cont]
theorem rd_fn (br : Bool) (t : Tag) (n : Nat) : rd br (some (t, .fn n)) = some (.fn n) := by simp [rd, cont]
theorem rd_exc (br : Bool) (t : Tag) (n : Nat) (l) : rd br (some (t, .exc n l)) = some (.exc n l) := by simp [rd, cont]
theorem bindT_nm (σ : Slots) (v : PV) (i : Nat) : bindT σ v (.nm i) = some (setS σ i .val v) := (rfl)
theorem bindT_tp (σ : Slots) (xs : List PV) (is : List Nat) : bindT σ (.tup xs) (.tp is) = setAll σ is xs := (rfl)
theorem setAll_nil (σ : Slots) : setAll σ [] [] = some σ := (rfl)
theorem setAll_cons (σ : Slots) (i : Nat) (is : List Nat) (v : PV) (vs : List PV) : setAll σ (i :: is) (v :: vs) = setAll (setS σ i .val v) is vs := (rfl)
theorem putAllS_nil (σ : Slots) : putAllS σ [] [] = some σ := (rfl)
theorem putAllS_cons (σ : Slots) (i : Nat) (is : List Nat) (t : Tag) (v : PV) (vs : List (Tag × PV)) : putAllS σ (i :: is) ((t, v) :: vs) = putAllS (setS σ i t v) is vs := (rfl)
theorem callF_succ {T : Nat → Option Fd} {g : Nat → PV} {k f : Nat} {vs : List PV} {S : St} {d : Fd} (h : T f = some d) : cl T g (k + 1) f vs S = if vs.length = d.np then fin (sSs ⟨cl T g k, g⟩ d.body (startS d vs) S) else .no := by
  simp only [cl, callF, h]
  rfl

/-! ### expressions -/
section
variable (C : Ctx)
def kTup (vs : List PV) (S : St) : R PV := .ok (.tup vs) S
def kLst (vs : List PV) (S : St) : R PV := .ok (.lst vs) S
def kBox (v : PV) (S : St) : R PV := if cont v = true then .ok (.ref S.length) (S ++ [v]) else .no
def kBin2 (o : Bop) (x y : PV) (S : St) : R PV := op1 (binV o x y) S
def kBin1 (o : Bop) (b : E) (σ : Slots) (x : PV) (S : St) : R PV := (eE C b true σ S).bind (kBin2 o x)
def kNeg (x : PV) (S : St) : R PV := match x with | .int i => .ok (.int (-i)) S | _ => .no
def kBl (b : Bool) (S : St) : R PV := .ok (.bl b) S
def kNot (b : Bool) (S : St) : R PV := .ok (.bl (!b)) S
def kCmp2 (o : Cop) (x y : PV) (S : St) : R PV := (op1 (cmpS o x y S) S).bind kBl
def kCmp1 (o : Cop) (b : E) (σ : Slots) (x : PV) (S : St) : R PV := (eE C b true σ S).bind (kCmp2 o x)
def kCh4 (o' : Cop) (y z : PV) (S : St) : R PV := (op1 (cmpS o' y z S) S).bind kBl
def kCh3 (o' : Cop) (c : E) (σ : Slots) (y : PV) (r : Bool) (S : St) : R PV := if r = true then (eE C c true σ S).bind (kCh4 o' y) else .ok (.bl false) S
def kCh2 (o o' : Cop) (c : E) (σ : Slots) (x y : PV) (S : St) : R PV := (op1 (cmpS o x y S) S).bind (kCh3 C o' c σ y)
def kCh1 (o o' : Cop) (b c : E) (σ : Slots) (x : PV) (S : St) : R PV := (eE C b true σ S).bind (kCh2 C o o' c σ x)
def kIsN (x : PV) (S : St) : R PV := .ok (.bl (isNonB x)) S
def kNotN (x : PV) (S : St) : R PV := .ok (.bl (!isNonB x)) S
def kIsT (x : PV) (S : St) : R PV := .ok (.bl (isTrB x)) S
def kNotT (x : PV) (S : St) : R PV := .ok (.bl (!isTrB x)) S
def kIfe (a b : E) (σ : Slots) (t : Bool) (S : St) : R PV := if t = true then eE C a false σ S else eE C b false σ S
def kIdx2 (x y : PV) (S : St) : R PV := op1 (idxV x y S) S
def kIdx1 (i : E) (σ : Slots) (x : PV) (S : St) : R PV := (eE C i true σ S).bind (kIdx2 x)
def kOpt (l : List PV) (S : St) : R (Option Int) := op1 (optInt l.head?) S
def kSl3 (x : PV) (l h : Option Int) (S : St) : R PV := op1 (sliceV x l h) S
def kSl2 (x : PV) (hi : List E) (σ : Slots) (l : Option Int) (S : St) : R PV := ((eEs C hi true σ S).bind kOpt).bind (kSl3 x l)
def kSl1 (lo hi : List E) (σ : Slots) (x : PV) (S : St) : R PV := ((eEs C lo true σ S).bind kOpt).bind (kSl2 C x hi σ)
def kRev (x : PV) (S : St) : R PV := match x with | .lst xs => .ok (.lst xs.reverse) S | .tup xs => .ok (.tup xs.reverse) S | _ => .no
def kCall (f : Nat) (vs : List PV) (S : St) : R PV := C.call f vs S
def kCd2 (f : PV) (vs : List PV) (S : St) : R PV := match f with | .fn n => C.call n vs S | _ => .no
def kCd1 (es : List E) (σ : Slots) (f : PV) (S : St) : R PV := (eEs C es true σ S).bind (kCd2 C f)
def kBi (b : Bi) (vs : List PV) (S : St) : R PV := op1 (biV b vs S) S
def kBit2 (b : Bt) (xs : List PV) (S : St) : R PV := op1 (bitV b xs) S
def kBit1 (b : Bt) (x : PV) (S : St) : R PV := (op1 (bitIn b (deref x S)) S).bind (kBit2 b)
def kIsin (ts : List Ty) (x : PV) (S : St) : R PV := if isOk (deref x S) then .ok (.bl (ts.any fun t => isinV (deref x S) t)) S else .no
def kItems (x : PV) (S : St) : R (List PV) := op1 (items x) S
def kElt2 (v : PV) (S : St) : R (Option PV) := .ok (some v) S
def kElt1 (elt : E) (σ : Slots) (b : Bool) (S : St) : R (Option PV) := if b = true then (eE C elt false σ S).bind kElt2 else .ok none S
def cF (elt : E) (tg : Tg) (cs : List E) (σ : Slots) (x : PV) (S : St) : R (Option PV) := match bindT σ x tg with
  | some σ' => (eAnd C cs σ' S).bind (kElt1 C elt σ')
  | none => .no
def kComp (elt : E) (tg : Tg) (cs : List E) (σ : Slots) (xs : List PV) (S : St) : R PV := cG (cF C elt tg cs σ) xs [] S
def kEs2 (v : PV) (vs : List PV) (S : St) : R (List PV) := .ok (v :: vs) S
def kEs1 (es : List E) (br : Bool) (σ : Slots) (v : PV) (S : St) : R (List PV) := (eEs C es br σ S).bind (kEs2 v)
def kAnd (es : List E) (σ : Slots) (b : Bool) (S : St) : R Bool := if b = true then eAnd C es σ S else .ok false S
def kOr (es : List E) (σ : Slots) (b : Bool) (S : St) : R Bool := if b = true then .ok true S else eOr C es σ S
def kRng2 (xs : List PV) (S : St) : R PV := .ok (.lst xs) S
def kRng1 (vs : List PV) (S : St) : R PV := (op1 (rangeV vs) S).bind kRng2
def kEn2 (xs : List PV) (S : St) : R PV := .ok (.lst (enumL xs 0)) S
def kEn1 (x : PV) (S : St) : R PV := (op1 (seqs x) S).bind kEn2
variable (br : Bool) (σ : Slots) (S : St)
theorem e_var (i : Nat) : eE C (.var i) br σ S = op1 (rd br (getS σ i)) S := by simp only [eE, evE, readV_rd]
theorem e_k (v : PV) : eE C (.k v) br σ S = .ok v S := by simp only [eE, evE]
theorem e_glob (i : Nat) : eE C (.glob i) br σ S = .ok (C.glob i) S := by simp only [eE, evE]
theorem e_fnv (i : Nat) : eE C (.fnv i) br σ S = .ok (.fn i) S := by simp only [eE, evE]
theorem e_tup (es : List E) : eE C (.tup es) br σ S = (eEs C es false σ S).bind kTup := by simp only [eE, evE]; rfl
theorem e_lst (es : List E) : eE C (.lst es) br σ S = (eEs C es false σ S).bind kLst := by simp only [eE, evE]; rfl
theorem e_box (e : E) : eE C (.box e) br σ S = (eE C e false σ S).bind kBox := by simp only [eE, evE]; rfl
theorem e_bin (o : Bop) (a b : E) : eE C (.bin o a b) br σ S = (eE C a true σ S).bind (kBin1 C o b σ) := by simp only [eE, evE]; rfl
theorem e_neg (a : E) : eE C (.neg a) br σ S = (eE C a true σ S).bind kNeg := by simp only [eE, evE]; rfl
theorem e_and (es : List E) : eE C (.and_ es) br σ S = (eAnd C es σ S).bind kBl := by simp only [eE, evE]; rfl
theorem e_or (es : List E) : eE C (.or_ es) br σ S = (eOr C es σ S).bind kBl := by simp only [eE, evE]; rfl
theorem e_not (a : E) : eE C (.not_ a) br σ S = ((eE C a true σ S).bind asB).bind kNot := by simp only [eE, evE]; rfl
theorem e_cmp (o : Cop) (a b : E) : eE C (.cmp o a b) br σ S = (eE C a true σ S).bind (kCmp1 C o b σ) := by simp only [eE, evE]; rfl
theorem e_chain (o o' : Cop) (a b c : E) : eE C (.chain o o' a b c) br σ S = (eE C a true σ S).bind (kCh1 C o o' b c σ) := by simp only [eE, evE]; rfl
theorem e_isN (a : E) : eE C (.isN a) br σ S = (eE C a true σ S).bind kIsN := by simp only [eE, evE]; rfl
theorem e_notN (a : E) : eE C (.notN a) br σ S = (eE C a true σ S).bind kNotN := by simp only [eE, evE]; rfl
theorem e_isT (a : E) : eE C (.isT a) br σ S = (eE C a true σ S).bind kIsT := by simp only [eE, evE]; rfl
theorem e_notT (a : E) : eE C (.notT a) br σ S = (eE C a true σ S).bind kNotT := by simp only [eE, evE]; rfl
theorem e_ife (c a b : E) : eE C (.ife c a b) br σ S = ((eE C c true σ S).bind asB).bind (kIfe C a b σ) := by simp only [eE, evE]; rfl
theorem e_idx (a i : E) : eE C (.idx a i) br σ S = (eE C a true σ S).bind (kIdx1 C i σ) := by simp only [eE, evE]; rfl
theorem e_slice (a : E) (lo hi : List E) : eE C (.slice a lo hi) br σ S = (eE C a true σ S).bind (kSl1 C lo hi σ) := by simp only [eE, evE]; rfl
theorem e_rev (a : E) : eE C (.rev a) br σ S = (eE C a true σ S).bind kRev := by simp only [eE, evE]; rfl
theorem e_call (f : Nat) (es : List E) : eE C (.call f es) br σ S = (eEs C es true σ S).bind (kCall C f) := by simp only [eE, evE]; rfl
theorem e_calld (a : E) (es : List E) : eE C (.calld a es) br σ S = (eE C a true σ S).bind (kCd1 C es σ) := by simp only [eE, evE]; rfl
theorem e_bi (b : Bi) (es : List E) : eE C (.bi b es) br σ S = (eEs C es true σ S).bind (kBi b) := by simp only [eE, evE]; rfl
theorem e_bit (b : Bt) (a : E) : eE C (.bit b a) br σ S = (eE C a true σ S).bind (kBit1 b) := by simp only [eE, evE]; rfl
theorem e_isin (a : E) (ts : List Ty) : eE C (.isin a ts) br σ S = (eE C a true σ S).bind (kIsin ts) := by simp only [eE, evE]; rfl
theorem e_comp (elt : E) (tg : Tg) (it : E) (cs : List E) : eE C (.comp elt tg it cs) br σ S = ((eE C it true σ S).bind kItems).bind (kComp C elt tg cs σ) := by simp only [eE, evE]; rfl
theorem e_range (es : List E) : eE C (.range es) br σ S = (eEs C es true σ S).bind kRng1 := by simp only [eE, evE]; rfl
theorem e_enum (a : E) : eE C (.enum a) br σ S = (eE C a true σ S).bind kEn1 := by simp only [eE, evE]; rfl
theorem es_nil : eEs C [] br σ S = .ok [] S := by simp only [eEs, evEs]
theorem es_cons (e : E) (es : List E) : eEs C (e :: es) br σ S = (eE C e br σ S).bind (kEs1 C es br σ) := by simp only [eEs, evEs]; rfl
theorem and_nil : eAnd C [] σ S = .ok true S := by simp only [eAnd, evAnd]
theorem and_cons (e : E) (es : List E) : eAnd C (e :: es) σ S = ((eE C e true σ S).bind asB).bind (kAnd C es σ) := by simp only [eAnd, evAnd]; rfl
theorem or_nil : eOr C [] σ S = .ok false S := by simp only [eOr, evOr]
theorem or_cons (e : E) (es : List E) : eOr C (e :: es) σ S = ((eE C e true σ S).bind asB).bind (kOr C es σ) := by simp only [eOr, evOr]; rfl
end
/-! ### statements -/
section
variable (C : Ctx)
def kVal (e : E) (σ : Slots) (v : PV) (S : St) : R (Slots × Tag × PV) := .ok (σ, (if frE e then .own else .val), v) S
def kMv (σ : Slots) (v : PV) (S : St) : R (Slots × Tag × PV) := .ok (σ, .val, v) S
/-- a plain name on the right: an own list moves -/
def rv (σ : Slots) (i : Nat) (S : St) : Option (Tag × PV) → R (Slots × Tag × PV)
  | some (t, v) => if t = .own ∧ cont v = true then .ok (σ.set i none, .own, v) S else (op1 (rd false (some (t, v))) S).bind (kMv σ)
  | none => .no
def kRs2 (x : Tag × PV) (q : Slots × List (Tag × PV)) (S : St) : R (Slots × List (Tag × PV)) := .ok (q.1, x :: q.2) S
def kRs1 (es : List E) (r : Slots × Tag × PV) (S : St) : R (Slots × List (Tag × PV)) := (rHs C es r.1 S).bind (kRs2 r.2)
def kAsg (i : Nat) (r : Slots × Tag × PV) (S : St) : SR := .nx (setS r.1 i r.2.1 r.2.2) S
def optS (o : Option Slots) (S : St) : SR := match o with | some σ => .nx σ S | none => .no
def kAsgT (σ : Slots) (is : List Nat) (v : PV) (S : St) : SR := optS (bindT σ v (.tp is)) S
def kPar (is : List Nat) (r : Slots × List (Tag × PV)) (S : St) : SR := optS (putAllS r.1 is r.2) S
def kSet3 (σ : Slots) (x : Nat) (v : PV) (t : Tag) (a j : PV) (S : St) : SR := match a with
  | .ref n => (match S[n]? with | some b => (match setItem b j v with | some b' => .nx σ (S.set n b') | none => .no) | none => .no)
  | a => if t = .own ∧ cont a = true then (match setItem a j v with | some a' => .nx (setS σ x .own a') S | none => .no) else .no
def set2 (x : Nat) (i : E) (σ : Slots) (v : PV) (S : St) : Option (Tag × PV) → SR
  | some (t, a) => liftS σ (eE C i false σ S) (kSet3 σ x v t a)
  | none => .no
def kSet1 (x : Nat) (i : E) (σ : Slots) (v : PV) (S : St) : SR := set2 C x i σ v S (getS σ x)
def kApp (x : Nat) (xs : List PV) (σ : Slots) (v : PV) (S : St) : SR := if xs.length < line then .nx (setS σ x .own (.lst (xs ++ [v]))) S else .no
def app2 (x : Nat) (e : E) (σ : Slots) (S : St) : Option (Tag × PV) → SR
  | some (.own, .lst xs) => liftS σ (eE C e false σ S) (kApp x xs σ)
  | _ => .no
def pop2 (j x : Nat) (σ : Slots) (S : St) : Option (Tag × PV) → SR
  | some (.own, .lst xs) => (match xs.getLast? with
        | some v => .nx (setS (setS σ x .own (.lst xs.dropLast)) j .val v) S
        | none => .no)
  | _ => .no
def kAug (i : Nat) (o : Bop) (p : Int) (σ : Slots) (v : PV) (S : St) : SR := match v with
        | .int q => (match augV o p q with | some r => .nx (setS σ i .val (.int r)) S | none => .no)
        | _ => .no
def aug2 (i : Nat) (o : Bop) (e : E) (σ : Slots) (S : St) : Option (Tag × PV) → SR
  | some (_, .int p) => liftS σ (eE C e false σ S) (kAug i o p σ)
  | _ => .no
def kExpr (σ : Slots) (_ : PV) (S : St) : SR := .nx σ S
def kIff (a b : List Sm) (σ : Slots) (t : Bool) (S : St) : SR := if t = true then sSs C a σ S else sSs C b σ S
def wC (c : E) (σ : Slots) (S : St) : R Bool := (eE C c true σ S).bind asB
def fB (tg : Tg) (b : List Sm) (x : PV) (σ : Slots) (S : St) : SR := match bindT σ x tg with | some σ' => sSs C b σ' S | none => .no
def kFor (tg : Tg) (b : List Sm) (σ : Slots) (xs : List PV) (S : St) : SR := fG (fB C tg b) xs σ S
def kRet (r : Slots × Tag × PV) (S : St) : SR := .rt r.2.2 S
variable (σ : Slots) (S : St)
theorem rh_var (i : Nat) : rH C (.var i) σ S = rv σ i S (getS σ i) := by
  simp only [rH, rhs, rv]
  cases h : getS σ i with
  | none => rfl
  | some q => obtain ⟨t, v⟩ := q; simp only [readV_rd, h]; rfl
theorem rh_e (e : E) (h : ∀ i, e ≠ .var i) : rH C e σ S = (eE C e false σ S).bind (kVal e σ) := by
  cases e <;> first | (exact absurd rfl (h _)) | rfl
theorem rv_own (i : Nat) (v : PV) (h : cont v = true) : rv σ i S (some (.own, v)) = .ok (σ.set i none, .own, v) S := by simp [rv, h]
theorem rv_val (i : Nat) (v : PV) : rv σ i S (some (.val, v)) = .ok (σ, .val, v) S := by simp [rv, rd, op1, R.bind, kMv]
theorem rv_pl (i : Nat) (t : Tag) (v : PV) (h : cont v = false) : rv σ i S (some (t, v)) = .ok (σ, .val, v) S := by simp [rv, rd, op1, R.bind, kMv, h]
theorem rv_int (i : Nat) (t : Tag) (v : Int) : rv σ i S (some (t, .int v)) = .ok (σ, .val, .int v) S := rv_pl σ S i t _ rfl
theorem rv_tup (i : Nat) (t : Tag) (v : List PV) : rv σ i S (some (t, .tup v)) = .ok (σ, .val, .tup v) S := rv_pl σ S i t _ rfl
theorem rv_bl (i : Nat) (t : Tag) (v : Bool) : rv σ i S (some (t, .bl v)) = .ok (σ, .val, .bl v) S := rv_pl σ S i t _ rfl
theorem rv_str (i : Nat) (t : Tag) (v) : rv σ i S (some (t, .str v)) = .ok (σ, .val, .str v) S := rv_pl σ S i t _ rfl
theorem rv_non (i : Nat) (t : Tag) : rv σ i S (some (t, .non)) = .ok (σ, .val, .non) S := rv_pl σ S i t _ rfl
theorem rv_ref (i : Nat) (t : Tag) (n : Nat) : rv σ i S (some (t, .ref n)) = .ok (σ, .val, .ref n) S := rv_pl σ S i t _ rfl
theorem rv_fn (i : Nat) (t : Tag) (n : Nat) : rv σ i S (some (t, .fn n)) = .ok (σ, .val, .fn n) S := rv_pl σ S i t _ rfl
theorem rv_exc (i : Nat) (t : Tag) (n : Nat) (l) : rv σ i S (some (t, .exc n l)) = .ok (σ, .val, .exc n l) S := rv_pl σ S i t _ rfl
theorem rv_ownL (i : Nat) (l : List PV) : rv σ i S (some (.own, .lst l)) = .ok (σ.set i none, .own, .lst l) S := rv_own σ S i _ rfl
theorem rv_ownD (i : Nat) (l m : List PV) : rv σ i S (some (.own, .dct l m)) = .ok (σ.set i none, .own, .dct l m) S := rv_own σ S i _ rfl
theorem rr_nil : rHs C [] σ S = .ok (σ, []) S := by simp only [rHs, rhss]
theorem rr_cons (e : E) (es : List E) : rHs C (e :: es) σ S = (rH C e σ S).bind (kRs1 C es) := by simp only [rHs, rhss]; rfl
theorem x_asg (i : Nat) (e : E) : sS C (.asg i e) σ S = liftS σ (rH C e σ S) (kAsg i) := by simp only [sS, exS]; rfl
theorem x_asgT (is : List Nat) (e : E) : sS C (.asgT is e) σ S = liftS σ (eE C e false σ S) (kAsgT σ is) := by
  simp only [sS, exS]; rfl
theorem x_par (is : List Nat) (es : List E) : sS C (.par is es) σ S = liftS σ (rHs C es σ S) (kPar is) := by
  simp only [sS, exS]; rfl
theorem x_setI (x : Nat) (i e : E) : sS C (.setI x i e) σ S = liftS σ (eE C e false σ S) (kSet1 C x i σ) := by
  simp only [sS, exS]; rfl
theorem x_app (x : Nat) (e : E) : sS C (.app x e) σ S = app2 C x e σ S (getS σ x) := by
  simp only [sS, exS]; unfold app2
  cases h : getS σ x with
  | none => rfl
  | some q =>
    obtain ⟨t, a⟩ := q
    cases t <;> cases a <;> rfl
theorem x_pop (j x : Nat) : sS C (.pop (some j) x []) σ S = pop2 j x σ S (getS σ x) := by
  simp only [sS, exS]; unfold pop2
  cases h : getS σ x with
  | none => rfl
  | some q =>
    obtain ⟨t, a⟩ := q
    cases t <;> cases a <;> rfl
theorem x_aug (i : Nat) (o : Bop) (e : E) : sS C (.aug i o e) σ S = aug2 C i o e σ S (getS σ i) := by
  simp only [sS, exS]; unfold aug2
  cases h : getS σ i with
  | none => rfl
  | some q =>
    obtain ⟨t, a⟩ := q
    cases a <;> first | rfl | (congr 1; funext v S; cases v <;> rfl)
theorem x_expr (e : E) : sS C (.expr e) σ S = liftS σ (eE C e false σ S) (kExpr σ) := by simp only [sS, exS]; rfl
theorem x_frz (i : Nat) : sS C (.frz i) σ S = optS (freeze σ i) S := by simp only [sS, exS]; unfold optS; cases freeze σ i <;> rfl
theorem x_iff (c : E) (a b : List Sm) : sS C (.iff c a b) σ S = liftS σ ((eE C c true σ S).bind asB) (kIff C a b σ) := by simp only [sS, exS]; rfl
theorem x_whl (c : E) (b : List Sm) : sS C (.whl c b) σ S = wG (wC C c) (sSs C b) WF σ S := by simp only [sS, exS]; rfl
theorem x_for (tg : Tg) (it : E) (b : List Sm) : sS C (.for_ tg it b) σ S = liftS σ ((eE C it true σ S).bind kItems) (kFor C tg b (held it σ)) := by simp only [sS, exS]; rfl
theorem x_ret (e : E) : sS C (.ret e) σ S = liftS σ (rH C e σ S) kRet := by simp only [sS, exS]; rfl
theorem x_retN : sS C .retN σ S = .rt .non S := by simp only [sS, exS]
theorem x_brk : sS C .brk σ S = .bk σ S := by simp only [sS, exS]
theorem x_pass : sS C .pass_ σ S = .nx σ S := by simp only [sS, exS]
theorem x_never : sS C .never σ S = .no := by simp only [sS, exS]
theorem xs_nil : sSs C [] σ S = .nx σ S := by simp only [sSs, exSs]
theorem xs_cons (s : Sm) (ss : List Sm) : sSs C (s :: ss) σ S = (sS C s σ S).andThen (sSs C ss) := by simp only [sSs, exSs]; rfl
end
end G
end

section
set_option autoImplicit false
/-! Mir2: loops, comprehensions, ranges. -/
namespace G
/-! ### loops by what holds of the part that is done -/
theorem for_inv {X : Type} {b : PV → Slots → St → SR} (eX : X → PV) (P : List X → Slots → St → Prop) : ∀ (xs l : List X) (σ : Slots) (S : St), P l σ S →
    (∀ m x r σ S, l ++ xs = m ++ x :: r → P m σ S → ∃ σ' S', b (eX x) σ S = .nx σ' S' ∧ P (m ++ [x]) σ' S') → ∃ σ' S', fG b (xs.map eX) σ S = .nx σ' S' ∧ P (l ++ xs) σ' S'
  | [], l, σ, S, h, _ => ⟨σ, S, rfl, by rw [List.append_nil]; exact h⟩
  | x :: xs, l, σ, S, h, hb => by
    obtain ⟨σ', S', e, h'⟩ := hb l x xs σ S rfl h
    obtain ⟨σ2, S2, e2, h2⟩ := for_inv eX P xs (l ++ [x]) σ' S' h' (fun m y r σ S q p => hb m y r σ S (by rw [← q, List.append_assoc]; rfl) p)
    refine ⟨σ2, S2, ?_, by rw [List.append_assoc] at h2; exact h2⟩
    simp only [List.map_cons, fG, forGo, e]
    exact e2
/-- a loop that goes through: the state by a fold -/
theorem for_fold {A X : Type} {b : PV → Slots → St → SR} (eX : X → PV) (R : A → Slots → Prop) (step : A → X → A) {S : St} {xs : List X} {a : A} {σ : Slots} (h : R a σ)
    (hb : ∀ a x σ, x ∈ xs → R a σ → ∃ σ', b (eX x) σ S = .nx σ' S ∧ R (step a x) σ') : ∃ σ', fG b (xs.map eX) σ S = .nx σ' S ∧ R (xs.foldl step a) σ' := by
  obtain ⟨σ', S', e, h', rfl⟩ := for_inv eX (fun l σ S' => R (l.foldl step a) σ ∧ S' = S) xs [] σ S ⟨h, rfl⟩ (fun m x r σ S' q ⟨p, e⟩ => by
    subst e
    obtain ⟨σ', e1, e2⟩ := hb _ x σ (by rw [show xs = m ++ x :: r from q]; simp) p
    exact ⟨σ', _, e1, by rw [List.foldl_append]; exact e2, rfl⟩)
  exact ⟨σ', e, h'⟩
/-! ### comprehensions -/
theorem comp_fm {X : Type} {f : PV → St → R (Option PV)} {eX : X → PV} {g : X → Option PV} {S : St} : ∀ {xs : List X} {acc : List PV}, (∀ x ∈ xs, f (eX x) S = .ok (g x) S) → cG f (xs.map eX) acc S = .ok (.lst (acc ++ xs.filterMap g)) S
  | [], acc, _ => by simp [cG, compGo]
  | x :: xs, acc, h => by
    have h1 := h x (by simp)
    have h2 := fun acc => comp_fm (f := f) (eX := eX) (g := g) (S := S) (xs := xs) (acc := acc) (fun y hy => h y (by simp [hy]))
    simp only [cG] at h2
    simp only [List.map_cons, cG, compGo, h1, R.noEx, bind_ok]
    cases e : g x with
    | none => simp only [h2, List.filterMap_cons, e]
    | some v => simp only [h2, List.filterMap_cons, e, List.append_assoc, List.cons_append, List.nil_append]
theorem fm_filter {X Y : Type} (p : X → Bool) (e : X → Y) : ∀ xs : List X, xs.filterMap (fun x => if p x = true then some (e x) else none) = (xs.filter p).map e
  | [] => rfl
  | x :: xs => by
    cases h : p x <;> simp [h, List.filterMap_cons, List.filter_cons, fm_filter p e xs]
/-- a comprehension with a test -/
theorem comp_filter {X : Type} {f : PV → St → R (Option PV)} {eX : X → PV} (p : X → Bool) (e : X → PV) {S : St} {xs : List X} (h : ∀ x ∈ xs, f (eX x) S = .ok (if p x = true then some (e x) else none) S) : cG f (xs.map eX) [] S = .ok (.lst ((xs.filter p).map e)) S := by
  rw [comp_fm h, fm_filter]; rfl
theorem comp_map {X : Type} {f : PV → St → R (Option PV)} {eX : X → PV} (e : X → PV) {S : St} {xs : List X} (h : ∀ x ∈ xs, f (eX x) S = .ok (some (e x)) S) : cG f (xs.map eX) [] S = .ok (.lst (xs.map e)) S := by
  rw [comp_fm h, List.nil_append]; congr 2; induction xs with
  | nil => rfl
  | cons x xs ih => simp only [List.filterMap_cons, List.map_cons, ih (fun y hy => h y (by simp [hy]))]
/-- a comprehension that draws -/
theorem comp_inv {X : Type} {f : PV → St → R (Option PV)} (eX : X → PV) (P : List X → List PV → St → Prop) : ∀ (xs l : List X) (acc : List PV) (S : St), P l acc S →
    (∀ m x r acc S, l ++ xs = m ++ x :: r → P m acc S → ∃ o S', f (eX x) S = .ok o S' ∧ P (m ++ [x]) (acc ++ o.toList) S') → ∃ ys S', cG f (xs.map eX) acc S = .ok (.lst ys) S' ∧ P (l ++ xs) ys S'
  | [], l, acc, S, h, _ => ⟨acc, S, rfl, by rw [List.append_nil]; exact h⟩
  | x :: xs, l, acc, S, h, hb => by
    obtain ⟨o, S', e, h'⟩ := hb l x xs acc S rfl h
    obtain ⟨ys, S2, e2, h2⟩ := comp_inv eX P xs (l ++ [x]) (acc ++ o.toList) S' h' (fun m y r acc S q p => hb m y r acc S (by rw [← q, List.append_assoc]; rfl) p)
    refine ⟨ys, S2, ?_, by rw [List.append_assoc] at h2; exact h2⟩
    simp only [List.map_cons, cG, compGo, e, R.noEx, bind_ok]
    cases o with
    | none => simpa [cG] using e2
    | some v => simpa [cG] using e2
/-! ### ranges -/
def rg (lo : Int) (n : Nat) : List Int := (List.range n).map fun (i : Nat) => lo + (i : Int)
theorem rg_zero (lo : Int) : rg lo 0 = [] := (rfl)
theorem rg_succ (lo : Int) (n : Nat) : rg lo (n + 1) = lo :: rg (lo + 1) n := by
  simp only [rg, List.range_succ_eq_map, List.map_cons, List.map_map]
  congr 1
  · simp
  · refine List.map_congr_left fun i _ => ?_
    simp only [Function.comp]; omega
theorem rangeL_rg : ∀ (n : Nat) (lo : Int), rangeL lo n = (rg lo n).map .int
  | 0, _ => rfl
  | n + 1, lo => by rw [rg_succ]; simp only [rangeL, List.map_cons, rangeL_rg n]
theorem mem_rg {lo x : Int} {n : Nat} : x ∈ rg lo n ↔ lo ≤ x ∧ x < lo + n := by
  simp only [rg, List.mem_map, List.mem_range]
  constructor
  · rintro ⟨i, h, rfl⟩; omega
  · intro h; exact ⟨(x - lo).toNat, by omega, by omega⟩
theorem rg_length (lo : Int) (n : Nat) : (rg lo n).length = n := by simp [rg]
theorem rangeV1 {n : Int} (h : n < line) (h0 : -lineI ≤ n) : rangeV [.int n] = some ((rg 0 n.toNat).map .int) := by
  simp only [rangeV, h, h0, and_self, if_true, rangeL_rg]
theorem rangeV2 {a b : Int} (h1 : 0 ≤ a) (h2 : a < line) (h3 : b < line) (h4 : -lineI ≤ b) : rangeV [.int a, .int b] = some ((rg a (b - a).toNat).map .int) := by
  simp only [rangeV]
  rw [if_pos, rangeL_rg]
  have : (line : Int) = 16777216 := (rfl)
  have : lineI = 4611686018427387904 := (rfl)
  omega
theorem it_lst (l : List PV) : items (.lst l) = some l := (rfl)
theorem it_tup (l : List PV) : items (.tup l) = some l := (rfl)

/-! ### tests -/
theorem i_bl (c b : Bool) (S : St) : (if c = true then R.ok (PV.bl b) S else R.ok (PV.bl false) S) = R.ok (PV.bl (c && b)) S := by cases c <;> rfl
theorem i_and (c b : Bool) (S : St) : (if c = true then R.ok b S else R.ok false S) = R.ok (c && b) S := by cases c <;> rfl
theorem i_or (c b : Bool) (S : St) : (if c = true then R.ok true S else R.ok b S) = R.ok (c || b) S := by cases c <;> rfl
theorem i_same (c : Bool) : (if c = true then true else false) = c := by cases c <;> rfl
theorem small_of {i : Int} (h : i.natAbs < 18446744073709551616) : small i = true := by simp [small, h]
/-! ### goals -/
def Sat (r : SR) (Q : SR → Prop) : Prop := Q r
theorem callF_sat {T : Nat → Option Fd} {g : Nat → PV} {k f : Nat} {vs : List PV} {S : St} {d : Fd} {o : R PV} (h : T f = some d) (hl : vs.length = d.np) (hs : Sat (sSs ⟨cl T g k, g⟩ d.body (startS d vs) S) (fun r => fin r = o)) : cl T g (k + 1) f vs S = o := by
  rw [callF_succ h, if_pos hl]; exact hs
/-- a call that draws -/
theorem callF_ex {T : Nat → Option Fd} {g : Nat → PV} {k f : Nat} {vs : List PV} {S : St} {d : Fd} {P : PV → St → Prop} (h : T f = some d) (hl : vs.length = d.np) (hs : Sat (sSs ⟨cl T g k, g⟩ d.body (startS d vs) S) (fun r => ∃ v S', fin r = .ok v S' ∧ P v S')) : ∃ v S', cl T g (k + 1) f vs S = .ok v S' ∧ P v S' := by
  rw [callF_succ h, if_pos hl]; exact hs
/-- a loop's turn: on to the next, or out by a return -/
def Nx (P : Slots → St → Prop) (r : SR) : Prop := ∃ σ S, r = .nx σ S ∧ P σ S
theorem Sat.nx {σ : Slots} {S : St} {P : Slots → St → Prop} (h : P σ S) : Sat (.nx σ S) (Nx P) := ⟨σ, S, rfl, h⟩
theorem for_sat {X : Type} {b : PV → Slots → St → SR} {K : Slots → St → SR} {Q : SR → Prop} (eX : X → PV) (P : List X → Slots → St → Prop) {xs : List X} {σ : Slots} {S : St} (h : P [] σ S)
    (hb : ∀ m x r σ S, xs = m ++ x :: r → P m σ S → Sat (b (eX x) σ S) (Nx (P (m ++ [x])))) (hk : ∀ σ S, P xs σ S → Sat (K σ S) Q) : Sat ((fG b (xs.map eX) σ S).andThen K) Q := by
  obtain ⟨σ', S', e, h'⟩ := for_inv eX P xs [] σ S h fun m x r σ S q p => hb m x r σ S q p
  rw [e]; exact hk σ' S' h'
/-- with returns in the body: R holds of a return -/
theorem for_ret {X : Type} {b : PV → Slots → St → SR} {K : Slots → St → SR} {Q : SR → Prop} (eX : X → PV) (P : List X → Slots → St → Prop) : ∀ (xs l : List X) (σ : Slots) (S : St), P l σ S →
    (∀ m x r σ S, l ++ xs = m ++ x :: r → P m σ S → Sat (b (eX x) σ S) (fun o => Nx (P (m ++ [x])) o ∨ ∃ v S', o = .rt v S' ∧ Q (.rt v S'))) → (∀ σ S, P (l ++ xs) σ S → Sat (K σ S) Q) → Sat ((fG b (xs.map eX) σ S).andThen K) Q
  | [], l, σ, S, h, _, hk => hk σ S (by rw [List.append_nil]; exact h)
  | x :: xs, l, σ, S, h, hb, hk => by
    rcases hb l x xs σ S rfl h with ⟨σ', S', e, h'⟩ | ⟨v, S', e, q⟩
    · have z := for_ret (K := K) (Q := Q) eX P xs (l ++ [x]) σ' S' h' (fun m y r σ S q p => hb m y r σ S (by rw [← q, List.append_assoc]; rfl) p) (fun σ S p => hk σ S (by rw [List.append_assoc] at p; exact p))
      simp only [List.map_cons, fG, forGo, e]
      exact z
    · simp only [List.map_cons, fG, forGo, e]
      exact q
/-- with breaks: B holds at a break -/
theorem for_brk {X : Type} {b : PV → Slots → St → SR} {K : Slots → St → SR} {Q : SR → Prop} (eX : X → PV) (P : List X → Slots → St → Prop) : ∀ (xs l : List X) (σ : Slots) (S : St), P l σ S →
    (∀ m x r σ S, l ++ xs = m ++ x :: r → P m σ S → Sat (b (eX x) σ S) (fun o => Nx (P (m ++ [x])) o ∨ ∃ σ' S', o = .bk σ' S' ∧ Sat (K σ' S') Q)) → (∀ σ S, P (l ++ xs) σ S → Sat (K σ S) Q) → Sat ((fG b (xs.map eX) σ S).andThen K) Q
  | [], l, σ, S, h, _, hk => hk σ S (by rw [List.append_nil]; exact h)
  | x :: xs, l, σ, S, h, hb, hk => by
    rcases hb l x xs σ S rfl h with ⟨σ', S', e, h'⟩ | ⟨σ', S', e, q⟩
    · have z := for_brk (K := K) (Q := Q) eX P xs (l ++ [x]) σ' S' h' (fun m y r σ S q p => hb m y r σ S (by rw [← q, List.append_assoc]; rfl) p) (fun σ S p => hk σ S (by rw [List.append_assoc] at p; exact p))
      simp only [List.map_cons, fG, forGo, e]
      exact z
    · simp only [List.map_cons, fG, forGo, e]
      exact q
/-- the state by a fold -/
theorem for_sat_fold {A X : Type} {b : PV → Slots → St → SR} {K : Slots → St → SR} {Q : SR → Prop} (eX : X → PV) (R : A → Slots → Prop) (step : A → X → A) {xs : List X} {a : A} {σ : Slots} {S : St} (h : R a σ)
    (hb : ∀ a x σ, x ∈ xs → R a σ → Sat (b (eX x) σ S) (Nx fun σ' S' => R (step a x) σ' ∧ S' = S)) (hk : ∀ σ, R (xs.foldl step a) σ → Sat (K σ S) Q) : Sat ((fG b (xs.map eX) σ S).andThen K) Q :=
  for_sat eX (fun l σ S' => R (l.foldl step a) σ ∧ S' = S) ⟨h, rfl⟩ (fun m x r σ S' q ⟨p, e⟩ => by
    subst e
    have := hb _ x σ (by rw [q]; simp) p
    rw [List.foldl_append]; exact this) fun σ S' ⟨p, e⟩ => by subst e; exact hk σ p
/-- a while loop: a measure falls -/
theorem while_sat {c : Slots → St → R Bool} {b : Slots → St → SR} {K : Slots → St → SR} {Q : SR → Prop} (P : Nat → Slots → St → Prop)
    (hs : ∀ m σ S, P m σ S → ∃ t S1, c σ S = .ok t S1 ∧ if t = true then Sat (b σ S1) (fun o => (∃ m', m' < m ∧ Nx (P m') o) ∨ (∃ σ' S', o = .bk σ' S' ∧ Sat (K σ' S') Q) ∨ ∃ v S', o = .rt v S' ∧ Q (.rt v S')) else Sat (K σ S1) Q) :
    ∀ n m σ S, m < n → P m σ S → Sat ((wG c b n σ S).andThen K) Q
  | 0, _, _, _, h, _ => by omega
  | n + 1, m, σ, S, hm, h => by
    obtain ⟨t, S1, e, q⟩ := hs m σ S h
    simp only [wG, whileGo, e, liftS_ok]
    cases t with
    | true =>
      simp only [if_true] at q ⊢
      rcases q with ⟨m', hm', σ', S', e', h'⟩ | ⟨σ', S', e', q⟩ | ⟨v, S', e', q⟩
      · rw [e']; exact while_sat P hs n m' σ' S' (by omega) h'
      · rw [e']; exact q
      · rw [e']; exact q
    | false => exact q
/-- a for loop: on, out by a break, out by a return -/
theorem for_loop {X : Type} {b : PV → Slots → St → SR} {K : Slots → St → SR} {Q : SR → Prop} (eX : X → PV) (P : List X → Slots → St → Prop) {xs : List X} {σ : Slots} {S : St} (h : P [] σ S)
    (hb : ∀ m x r σ S, xs = m ++ x :: r → P m σ S → ∀ Q' : SR → Prop, (∀ σ' S', P (m ++ [x]) σ' S' → Q' (.nx σ' S')) → (∀ σ' S', Sat (K σ' S') Q → Q' (.bk σ' S')) → (∀ v S', Q (.rt v S') → Q' (.rt v S')) → Sat (b (eX x) σ S) Q')
    (hk : ∀ σ S, P xs σ S → Sat (K σ S) Q) : Sat ((fG b (xs.map eX) σ S).andThen K) Q := by
  have gen : ∀ (ys l : List X) (σ : Slots) (S : St), xs = l ++ ys → P l σ S → Sat ((fG b (ys.map eX) σ S).andThen K) Q := by
    intro ys
    induction ys with
    | nil => intro l σ S e h; rw [List.append_nil] at e; subst e; exact hk σ S h
    | cons x ys ih =>
      intro l σ S e h
      have q := hb l x ys σ S e h (fun o => (∃ σ' S', o = .nx σ' S' ∧ P (l ++ [x]) σ' S') ∨ (∃ σ' S', o = .bk σ' S' ∧ Sat (K σ' S') Q) ∨ ∃ v S', o = .rt v S' ∧ Q (.rt v S')) (fun σ' S' p => .inl ⟨σ', S', rfl, p⟩) (fun σ' S' p => .inr (.inl ⟨σ', S', rfl, p⟩)) (fun v S' p => .inr (.inr ⟨v, S', rfl, p⟩))
      rcases q with ⟨σ', S', e', p⟩ | ⟨σ', S', e', p⟩ | ⟨v, S', e', p⟩
      · have z := ih (l ++ [x]) σ' S' (by rw [e, List.append_assoc]; rfl) p
        simp only [List.map_cons, fG, forGo, e']; exact z
      · simp only [List.map_cons, fG, forGo, e']; exact p
      · simp only [List.map_cons, fG, forGo, e']; exact p
  exact gen xs [] σ S rfl h
/-- a while loop -/
theorem while_loop {c : Slots → St → R Bool} {b : Slots → St → SR} {K : Slots → St → SR} {Q : SR → Prop} (P : Nat → Slots → St → Prop) {n m : Nat} {σ : Slots} {S : St} (h : P m σ S) (hm : m < n)
    (hs : ∀ m σ S, P m σ S → ∃ t S1, c σ S = .ok t S1 ∧ (t = true → ∀ Q' : SR → Prop, (∀ m' σ' S', m' < m → P m' σ' S' → Q' (.nx σ' S')) → (∀ σ' S', Sat (K σ' S') Q → Q' (.bk σ' S')) → (∀ v S', Q (.rt v S') → Q' (.rt v S')) → Sat (b σ S1) Q') ∧ (t = false → Sat (K σ S1) Q)) :
    Sat ((wG c b n σ S).andThen K) Q := by
  refine while_sat P (fun m σ S h => ?_) n m σ S hm h
  obtain ⟨t, S1, e, h1, h2⟩ := hs m σ S h
  refine ⟨t, S1, e, ?_⟩
  cases t with
  | true =>
    simp only [if_true]
    exact h1 rfl _ (fun m' σ' S' hm' p => .inl ⟨m', hm', σ', S', rfl, p⟩) (fun σ' S' p => .inr (.inl ⟨σ', S', rfl, p⟩)) (fun v S' p => .inr (.inr ⟨v, S', rfl, p⟩))
  | false => simpa using h2 rfl
end G
end

section
set_option autoImplicit false
/-! Mv: values: what operators, tests, built-ins give on plain data. -/
namespace G
theorem v_add (i j : Int) : binV .add (.int i) (.int j) = some (.int (i + j)) := (rfl)
theorem v_sub (i j : Int) : binV .sub (.int i) (.int j) = some (.int (i - j)) := (rfl)
theorem v_mulr (i j : Int) (h : small j = true) : binV .mul (.int i) (.int j) = some (.int (i * j)) := by simp only [binV, h, Bool.or_true, if_true]
theorem v_mull (i j : Int) (h : small i = true) : binV .mul (.int i) (.int j) = some (.int (i * j)) := by simp only [binV, h, Bool.true_or, if_true]
theorem v_mod (i j : Int) (h : 0 < j) : binV .mod (.int i) (.int j) = some (.int (i % j)) := by
  simp only [binV, ne_eq, show ¬ j = 0 by omega, not_false_eq_true, if_true, Int.fmod_eq_emod_of_nonneg i (by omega : 0 ≤ j)]
theorem v_fdiv (i j : Int) (h : 0 < j) (h2 : j.natAbs.log2 < 8000) : binV .fdiv (.int i) (.int j) = some (.int (i / j)) := by
  simp only [binV, ne_eq, show ¬ j = 0 by omega, not_false_eq_true, true_and, h2, if_true, Int.fdiv_eq_ediv_of_nonneg i (by omega : 0 ≤ j)]
theorem log2_small {j : Int} (h0 : 0 < j) (h : j < 2 ^ 64) : j.natAbs.log2 < 8000 := by
  have h1 : j.natAbs.log2 < 64 := (Nat.log2_lt (by omega)).mpr (by
    have : ((2 : Int) ^ 64) = ((2 ^ 64 : Nat) : Int) := by norm_cast
    omega)
  omega
theorem a_add (i j : Int) : augV .add i j = some (i + j) := (rfl)
theorem a_sub (i j : Int) : augV .sub i j = some (i - j) := (rfl)
theorem small_lit (n : Nat) (h : n < 18446744073709551616) : small (n : Int) = true := small_of (by omega)
/-- order -/
theorem c_lt (i j : Int) : ltP (.int i) (.int j) = some (decide (i < j)) := (rfl)
theorem c_not (i j : Int) : (!decide (i < j)) = decide (j ≤ i) := by
  by_cases h : i < j
  · simp [h, show ¬ j ≤ i by omega]
  · simp [h, show j ≤ i by omega]
theorem nb_non : isNonB .non = true := (rfl)
theorem nb_int (i : Int) : isNonB (.int i) = false := (rfl)
theorem nb_tup (l : List PV) : isNonB (.tup l) = false := (rfl)
theorem nb_lst (l : List PV) : isNonB (.lst l) = false := (rfl)
theorem nb_bl (b : Bool) : isNonB (.bl b) = false := (rfl)
theorem nb_str (b) : isNonB (.str b) = false := (rfl)
theorem tb_non : isTrB .non = false := (rfl)
theorem tb_int (i : Int) : isTrB (.int i) = false := (rfl)
theorem tb_bl (b : Bool) : isTrB (.bl b) = b := (rfl)
/-! ### encodings -/
def iL (l : List Int) : List PV := l.map .int
theorem dat_int (i : Int) (n : Nat) : dat (.int i) n = true := by simp [dat]
theorem dat_bl (i : Bool) (n : Nat) : dat (.bl i) n = true := by simp [dat]
theorem dat_non (n : Nat) : dat .non n = true := by simp [dat]
theorem datL_map {X : Type} {f : X → PV} {n : Nat} : ∀ {l : List X}, (∀ x ∈ l, dat (f x) n = true) → datL (l.map f) n = true
  | [], _ => by simp [datL]
  | x :: l, h => by simp only [List.map_cons, datL, Bool.and_eq_true]; exact ⟨h x (by simp), datL_map fun y hy => h y (by simp [hy])⟩
theorem dL_ints (l : List Int) (n : Nat) : datL (l.map .int) n = true := datL_map fun _ _ => dat_int _ _
theorem dat_tup (l : List PV) (n : Nat) : dat (.tup l) (n + 1) = datL l n := by simp [dat]
theorem dat_lst (l : List PV) (n : Nat) : dat (.lst l) (n + 1) = datL l n := by simp [dat]
theorem datL_nil (n : Nat) : datL [] n = true := by simp [datL]
theorem datL_cons (x : PV) (l : List PV) (n : Nat) : datL (x :: l) n = (dat x n && datL l n) := by simp [datL]
theorem eqP_int (i j : Int) : eqP (.int i) (.int j) = decide (i = j) := by
  simp only [eqP]
  by_cases q : i = j
  · subst q; simp
  · simp [q]
theorem eqP_bl (i j : Bool) : eqP (.bl i) (.bl j) = decide (i = j) := by cases i <;> cases j <;> rfl
theorem eqL_map {X : Type} [DecidableEq X] {f : X → PV} (h : ∀ x y, eqP (f x) (f y) = decide (x = y)) : ∀ (l m : List X), eqL (l.map f) (m.map f) = decide (l = m)
  | [], [] => by simp [eqL]
  | [], _ :: _ => by simp [eqL]
  | _ :: _, [] => by simp [eqL]
  | x :: l, y :: m => by
    simp only [List.map_cons, eqL, h, eqL_map h l m, List.cons.injEq]
    by_cases c : x = y <;> simp [c]
theorem eqL_ints (l m : List Int) : eqL (l.map .int) (m.map .int) = decide (l = m) := eqL_map eqP_int l m
theorem eqP_tup (l m : List PV) : eqP (.tup l) (.tup m) = eqL l m := by simp [eqP]
theorem eqP_lst (l m : List PV) : eqP (.lst l) (.lst m) = eqL l m := by simp [eqP]
/-- comparisons -/
theorem q_int (i j : Int) (S : St) : cmpS .eq (.int i) (.int j) S = some (decide (i = j)) := by simp only [cmpS, cmpV, dat_int, Bool.and_self, if_true, eqP_int]
theorem n_int (i j : Int) (S : St) : cmpS .ne (.int i) (.int j) S = some (decide (i ≠ j)) := by
  simp only [cmpS, cmpV, dat_int, Bool.and_self, if_true, eqP_int, ne_eq, decide_not]
theorem q_bl (i j : Bool) (S : St) : cmpS .eq (.bl i) (.bl j) S = some (decide (i = j)) := by simp only [cmpS, cmpV, dat_bl, Bool.and_self, if_true, eqP_bl]
theorem n_bl (i j : Bool) (S : St) : cmpS .ne (.bl i) (.bl j) S = some (decide (i ≠ j)) := by
  simp only [cmpS, cmpV, dat_bl, Bool.and_self, if_true, eqP_bl, ne_eq, decide_not]
theorem lt_int (i j : Int) (S : St) : cmpS .lt (.int i) (.int j) S = some (decide (i < j)) := (rfl)
theorem gt_int (i j : Int) (S : St) : cmpS .gt (.int i) (.int j) S = some (decide (j < i)) := (rfl)
theorem le_int (i j : Int) (S : St) : cmpS .le (.int i) (.int j) S = some (decide (i ≤ j)) := by
  show some (!decide (j < i)) = _
  rw [c_not]
theorem ge_int (i j : Int) (S : St) : cmpS .ge (.int i) (.int j) S = some (decide (j ≤ i)) := by
  show some (!decide (i < j)) = _
  rw [c_not]
theorem q_tup (l m : List Int) (S : St) : cmpS .eq (.tup (l.map .int)) (.tup (m.map .int)) S = some (decide (l = m)) := by
  simp only [cmpS, cmpV, dat_tup, dL_ints, Bool.and_self, if_true, eqP_tup, eqL_ints]
theorem n_tup (l m : List Int) (S : St) : cmpS .ne (.tup (l.map .int)) (.tup (m.map .int)) S = some (decide (l ≠ m)) := by
  simp only [cmpS, cmpV, dat_tup, dL_ints, Bool.and_self, if_true, eqP_tup, eqL_ints, ne_eq, decide_not]
theorem q_tup0 (l : List Int) (S : St) : cmpS .eq (.tup (l.map .int)) (.tup []) S = some (decide (l = [])) := q_tup l [] S
theorem n_tup0 (l : List Int) (S : St) : cmpS .ne (.tup (l.map .int)) (.tup []) S = some (decide (l ≠ [])) := n_tup l [] S
theorem q_0tup (l : List Int) (S : St) : cmpS .eq (.tup []) (.tup (l.map .int)) S = some (decide ([] = l)) := q_tup [] l S
theorem q_00 (S : St) : cmpS .eq (.tup []) (.tup []) S = some true := (rfl)
theorem n_0tup (l : List Int) (S : St) : cmpS .ne (.tup []) (.tup (l.map .int)) S = some (decide ([] ≠ l)) := n_tup [] l S
theorem n_00 (S : St) : cmpS .ne (.tup []) (.tup []) S = some false := (rfl)
theorem q_l00 (S : St) : cmpS .eq (.lst []) (.lst []) S = some true := (rfl)
theorem n_l00 (S : St) : cmpS .ne (.lst []) (.lst []) S = some false := (rfl)
theorem q_lst (l m : List Int) (S : St) : cmpS .eq (.lst (l.map .int)) (.lst (m.map .int)) S = some (decide (l = m)) := by
  simp only [cmpS, cmpV, dat_lst, dL_ints, Bool.and_self, if_true, eqP_lst, eqL_ints]
theorem n_lst (l m : List Int) (S : St) : cmpS .ne (.lst (l.map .int)) (.lst (m.map .int)) S = some (decide (l ≠ m)) := by
  simp only [cmpS, cmpV, dat_lst, dL_ints, Bool.and_self, if_true, eqP_lst, eqL_ints, ne_eq, decide_not]
theorem q_lst0 (l : List Int) (S : St) : cmpS .eq (.lst (l.map .int)) (.lst []) S = some (decide (l = [])) := q_lst l [] S
theorem n_lst0 (l : List Int) (S : St) : cmpS .ne (.lst (l.map .int)) (.lst []) S = some (decide (l ≠ [])) := n_lst l [] S
theorem n_lstE (l : List PV) (S : St) (h : datL l 59 = true) : cmpS .ne (.lst l) (.lst []) S = some (!l.isEmpty) := by
  simp only [cmpS, cmpV, dat_lst, h, datL_nil, Bool.and_self, if_true, eqP_lst]
  cases l <;> simp [eqL]
theorem q_lstE (l : List PV) (S : St) (h : datL l 59 = true) : cmpS .eq (.lst l) (.lst []) S = some l.isEmpty := by
  simp only [cmpS, cmpV, dat_lst, h, datL_nil, Bool.and_self, if_true, eqP_lst]
  cases l <;> simp [eqL]
theorem any_map {X : Type} [DecidableEq X] {f : X → PV} (h : ∀ x y, eqP (f x) (f y) = decide (x = y)) (x : X) : ∀ l : List X, ((l.map f).any fun z => eqP z (f x)) = decide (x ∈ l)
  | [] => by simp
  | y :: l => by
    simp only [List.map_cons, List.any_cons, h, any_map h x l, List.mem_cons]
    by_cases c : y = x
    · simp [c]
    · have c2 : ¬ x = y := fun z => c z.symm
      simp [c, c2]
theorem in_tup (i : Int) (l : List Int) (S : St) : cmpS .in_ (.int i) (.tup (l.map .int)) S = some (decide (i ∈ l)) := by
  simp only [cmpS, inV, deref, dat_int, dL_ints, Bool.and_self, if_true, any_map eqP_int]
theorem ni_tup (i : Int) (l : List Int) (S : St) : cmpS .notIn (.int i) (.tup (l.map .int)) S = some (decide (i ∉ l)) := by
  simp only [cmpS, inV, deref, dat_int, dL_ints, Bool.and_self, if_true, any_map eqP_int, decide_not]
theorem in_lst (i : Int) (l : List Int) (S : St) : cmpS .in_ (.int i) (.lst (l.map .int)) S = some (decide (i ∈ l)) := by
  simp only [cmpS, inV, deref, dat_int, dL_ints, Bool.and_self, if_true, any_map eqP_int]
theorem ni_lst (i : Int) (l : List Int) (S : St) : cmpS .notIn (.int i) (.lst (l.map .int)) S = some (decide (i ∉ l)) := by
  simp only [cmpS, inV, deref, dat_int, dL_ints, Bool.and_self, if_true, any_map eqP_int, decide_not]
theorem sliceL_take1 {X : Type} (f : X → PV) (l : List X) : sliceL (l.map f) none (some 1) = (l.take 1).map f := by
  unfold sliceL sIxG cut
  simp only [List.length_map, List.drop_zero]
  cases l <;> simp
/-- items -/
theorem atP_map {X : Type} {f : X → PV} {l : List X} {i : Int} {x : X} (h0 : 0 ≤ i) (h : l[i.toNat]? = some x) : atP (l.map f) i = some (f x) := by
  simp only [atP, h0, if_true, List.getElem?_map, h, Option.map_some]
theorem atP_last {X : Type} {f : X → PV} {l : List X} {x : X} (h : l.getLast? = some x) : atP (l.map f) (-1) = some (f x) := by
  have hl : l ≠ [] := by rintro rfl; simp at h
  have h1 : 0 < l.length := List.length_pos_iff.mpr hl
  unfold atP
  rw [if_neg (by decide), if_pos (by rw [List.length_map]; omega)]
  rw [List.length_map, List.getElem?_map]
  rw [List.getLast?_eq_getElem?] at h
  have e : ((-1 : Int) + (l.length : Int)).toNat = l.length - 1 := by omega
  rw [e, h]; rfl
theorem ix_t (l : List PV) (i : Int) (S : St) : idxV (.tup l) (.int i) S = atP l i := (rfl)
theorem ix_l (l : List PV) (i : Int) (S : St) : idxV (.lst l) (.int i) S = atP l i := (rfl)
theorem ix_r (l : List PV) (i : Int) (S : St) : idxV (.ref 0) (.int i) (.lst l :: S) = atP l i := (rfl)
theorem ix_e (l : List PV) (i : Int) (S : St) : idxV (.exc 1000 l) (.int i) S = atP l i := (rfl)
theorem atP_zero (x : PV) (l : List PV) : atP (x :: l) 0 = some x := (rfl)
theorem atP_one (x y : PV) (l : List PV) : atP (x :: y :: l) 1 = some y := (rfl)
theorem atP_two (x y z : PV) (l : List PV) : atP (x :: y :: z :: l) 2 = some z := (rfl)
theorem atP_three (x y z u : PV) (l : List PV) : atP (x :: y :: z :: u :: l) 3 = some u := (rfl)
theorem enum_map {X : Type} (f : X → PV) : ∀ (l : List X) (n : Nat), enumL (l.map f) n = (l.zipIdx n).map fun p => .tup [.int (p.2 : Int), f p.1]
  | [], _ => rfl
  | x :: l, n => by simp only [List.map_cons, enumL, List.zipIdx_cons, enum_map f l]
theorem len_t (l : List PV) (S : St) : biV .len [.tup l] S = some (.int l.length) := (rfl)
theorem len_l (l : List PV) (S : St) : biV .len [.lst l] S = some (.int l.length) := (rfl)
theorem len_s (l : List PV) (S : St) : biV .len [.exc 1000 l] S = some (.int l.length) := (rfl)
theorem int_i (i : Int) (S : St) : biV .int [.int i] S = some (.int i) := (rfl)
theorem max2_i (i j : Int) (S : St) : biV .max2 [.int i, .int j] S = some (.int (if j > i then j else i)) := (rfl)
theorem min2_i (i j : Int) (S : St) : biV .min2 [.int i, .int j] S = some (.int (if j < i then j else i)) := (rfl)
theorem intsOf_map' (l : List Int) : intsOf (l.map .int) = some l := by
  induction l with
  | nil => rfl
  | cons x l ih => simp only [List.map_cons, intsOf, ih]
theorem lt_tup (l m : List Int) (S : St) : cmpS .lt (.tup (l.map .int)) (.tup (m.map .int)) S = some (lexLt l m) := by
  simp only [cmpS, cmpV, ltP, intsOf_map']
theorem sumV_map (l : List Int) : sumV (l.map .int) = some l.sum := by
  induction l with
  | nil => rfl
  | cons x l ih => simp only [List.map_cons, sumV, ih, List.sum_cons]
end G
end

section
set_option autoImplicit false
namespace G
namespace L
def d_is_in : Fd := ⟨3, 3, false, [
  .ret (.and_ [(.isin (.var 0) [.int]), (.not_ (.isin (.var 0) [.bool])), (.chain .le .le (.var 1) (.var 0) (.var 2))])]⟩
def b_power_1 : List Sm := [
  .aug 1 .mul (.k (.int 2))]
def d_power : Fd := ⟨1, 3, false, [
  .asg 1 (.k (.int 1)),
  .for_ (.nm 2) (.range [(.var 0)]) b_power_1,
  .ret (.var 1)]⟩
def d_need_many : Fd := ⟨2, 2, false, [
  .iff (.not_ (.call 1 [(.var 0), (.var 1), (.glob 5)])) [
    .never] []]⟩
def b_need_burning__1 : List Sm := [
  .iff (.or_ [(.not_ (.call 1 [(.var 3), (.k (.int 0)), (.bin .sub (.var 0) (.k (.int 1)))])), (.and_ [(.cmp .gt (.var 2) (.k (.int 0))), (.cmp .le (.var 3) (.idx (.var 1) (.bin .sub (.var 2) (.k (.int 1)))))])]) [
    .never] []]
def d_need_burning_ : Fd := ⟨2, 4, false, [
  .iff (.not_ (.isin (.var 1) [.tuple])) [
    .never] [],
  .for_ (.tp [2, 3]) (.enum (.var 1)) b_need_burning__1]⟩
def d_row_comes : Fd := ⟨2, 2, false, [
  .iff (.or_ [(.cmp .eq (.var 0) (.tup [])), (.cmp .eq (.var 1) (.tup []))]) [
    .ret (.cmp .eq (.var 0) (.var 1))] [],
  .ret (.and_ [(.cmp .ge (.idx (.var 1) (.k (.int 0))) (.idx (.var 0) (.k (.int 0)))), (.cmp .ge (.idx (.var 1) (.neg (.k (.int 1)))) (.idx (.var 0) (.neg (.k (.int 1)))))])]⟩
def d_begun : Fd := ⟨3, 4, false, [
  .asg 3 (.bin .sub (.bin .sub (.var 0) (.k (.int 1))) (.var 2)),
  .iff (.cmp .ge (.var 2) (.var 1)) [
    .ret (.call 56 [(.var 3)])] [],
  .ret (.bin .sub (.call 56 [(.var 3)]) (.call 56 [(.bin .sub (.bin .sub (.var 1) (.var 2)) (.k (.int 1)))]))]⟩
def b_at_in_1 : List Sm := [
  .asg 8 (.call 166 [(.var 0), (.var 4), (.var 7)]),
  .iff (.cmp .lt (.var 5) (.var 8)) [
    .asg 6 (.bin .add (.var 6) (.tup [(.var 7)])),
    .brk] [],
  .aug 5 .sub (.var 8)]
def b_at_in_2 : List Sm := [
  .iff (.and_ [(.cmp .ne (.var 6) (.tup [])), (.cmp .ge (.idx (.var 6) (.neg (.k (.int 1)))) (.var 4))]) [
    .iff (.cmp .eq (.var 5) (.k (.int 0))) [
      .ret (.var 6)] [],
    .aug 5 .sub (.k (.int 1))] [],
  .for_ (.nm 7) (.range [(.ife (.cmp .ne (.var 6) (.tup [])) (.bin .add (.idx (.var 6) (.neg (.k (.int 1)))) (.k (.int 1))) (.var 3)), (.var 0)]) b_at_in_1]
def d_at_in : Fd := ⟨3, 9, false, [
  .par [3, 4, 5, 6] [(.idx (.var 1) (.k (.int 0))), (.idx (.var 1) (.neg (.k (.int 1)))), (.var 2), (.tup [])],
  .whl (.k (.bl true)) b_at_in_2]⟩
def d_row_come_at : Fd := ⟨3, 4, false, [
  .expr (.call 135 [(.var 0), (.k (.int 1))]),
  .expr (.call 136 [(.var 0), (.var 1)]),
  .asg 3 (.ife (.cmp .eq (.var 1) (.tup [])) (.k (.int 1)) (.bin .sub (.call 56 [(.bin .sub (.var 0) (.idx (.var 1) (.k (.int 0))))]) (.call 56 [(.bin .sub (.idx (.var 1) (.neg (.k (.int 1)))) (.idx (.var 1) (.k (.int 0))))]))),
  .iff (.not_ (.call 1 [(.var 2), (.k (.int 0)), (.bin .sub (.var 3) (.k (.int 1)))])) [
    .never] [],
  .ret (.ife (.cmp .eq (.var 1) (.tup [])) (.tup []) (.call 167 [(.var 0), (.var 1), (.var 2)]))]⟩
def b_row_come_number_1 : List Sm := [
  .iff (.and_ [(.cmp .gt (.var 6) (.k (.int 0))), (.cmp .ge (.idx (.var 2) (.bin .sub (.var 6) (.k (.int 1)))) (.var 5))]) [
    .aug 3 .add (.k (.int 1))] [],
  .aug 3 .add (.bit .sum (.comp (.call 166 [(.var 0), (.var 5), (.var 8)]) (.nm 8) (.range [(.bin .add (.var 4) (.k (.int 1))), (.var 7)]) [])),
  .asg 4 (.var 7)]
def d_row_come_number : Fd := ⟨3, 9, false, [
  .expr (.call 135 [(.var 0), (.k (.int 1))]),
  .expr (.call 136 [(.var 0), (.var 1)]),
  .expr (.call 136 [(.var 0), (.var 2)]),
  .iff (.not_ (.call 137 [(.var 1), (.var 2)])) [
    .ret (.k .non)] [],
  .iff (.cmp .eq (.var 1) (.tup [])) [
    .ret (.k (.int 0))] [],
  .par [3, 4, 5] [(.k (.int 0)), (.bin .sub (.idx (.var 1) (.k (.int 0))) (.k (.int 1))), (.idx (.var 1) (.neg (.k (.int 1))))],
  .for_ (.tp [6, 7]) (.enum (.var 2)) b_row_come_number_1,
  .ret (.var 3)]⟩
def d_row_come_count : Fd := ⟨2, 2, false, [
  .expr (.call 135 [(.var 0), (.k (.int 1))]),
  .expr (.call 136 [(.var 0), (.var 1)]),
  .iff (.cmp .eq (.var 1) (.tup [])) [
    .ret (.k (.int 1))] [],
  .ret (.bin .sub (.call 56 [(.bin .sub (.var 0) (.idx (.var 1) (.k (.int 0))))]) (.call 56 [(.bin .sub (.idx (.var 1) (.neg (.k (.int 1)))) (.idx (.var 1) (.k (.int 0))))]))]⟩
def d_law_taken : Fd := ⟨2, 4, false, [
  .iff (.cmp .gt (.idx (.var 0) (.k (.int 3))) (.k (.int 0))) [
    .asg 2 (.bin .mod (.bi .int [(.idx (.var 0) (.k (.int 3)))]) (.var 1)),
    .setI 0 (.k (.int 3)) (.bin .fdiv (.idx (.var 0) (.k (.int 3))) (.var 1)),
    .ret (.var 2)] [],
  .setI 0 (.k (.int 1)) (.bin .add (.idx (.var 0) (.k (.int 1))) (.k (.int 1))),
  .iff (.cmp .gt (.idx (.var 0) (.k (.int 1))) (.bi .len [(.idx (.var 0) (.k (.int 0)))])) [
    .setI 0 (.k (.int 2)) (.bin .mod (.bi .int [(.bin .add (.bin .mul (.idx (.var 0) (.k (.int 2))) (.k (.int 48271))) (.k (.int 11)))]) (.k (.int 2147483647))),
    .ret (.bin .mod (.bi .int [(.bin .fdiv (.idx (.var 0) (.k (.int 2))) (.k (.int 7)))]) (.var 1))] [],
  .asg 3 (.idx (.idx (.var 0) (.k (.int 0))) (.bin .sub (.idx (.var 0) (.k (.int 1))) (.k (.int 1)))),
  .setI 0 (.k (.int 2)) (.bin .mod (.bi .int [(.bin .add (.bin .add (.bin .mul (.idx (.var 0) (.k (.int 2))) (.k (.int 48271))) (.var 3)) (.k (.int 11)))]) (.k (.int 2147483647))),
  .iff (.cmp .ge (.var 3) (.bin .pow (.k (.int 10)) (.k (.int 18)))) [
    .setI 0 (.k (.int 3)) (.bin .fdiv (.var 3) (.var 1))] [],
  .ret (.bin .mod (.bi .int [(.var 3)]) (.var 1))]⟩
def d_law_pick : Fd := ⟨2, 2, false, [
  .ret (.idx (.var 1) (.call 11 [(.var 0), (.bi .len [(.var 1)])]))]⟩
def d_law_row_burning : Fd := ⟨2, 4, false, [
  .asg 2 (.call 12 [(.var 0), (.lst [(.k (.int 2)), (.k (.int 3)), (.k (.int 8))])]),
  .ret (.bit .tuple (.comp (.var 3) (.nm 3) (.range [(.var 1)]) [(.cmp .eq (.call 11 [(.var 0), (.var 2)]) (.k (.int 0)))]))]⟩
def b_law_row_cost_1 : List Sm := [
  .iff (.cmp .ne (.cmp .in_ (.var 5) (.var 2)) (.cmp .in_ (.var 5) (.var 3))) [
    .asg 4 (.bin .add (.var 4) (.k (.int 1)))] [
    .iff (.cmp .notIn (.var 5) (.var 2)) [
      .asg 6 (.comp (.bin .mod (.bi .int [(.bin .add (.var 5) (.var 10))]) (.var 0)) (.nm 10) (.range [(.k (.int 1)), (.var 0)]) [(.or_ [(.var 1), (.cmp .lt (.bin .add (.var 5) (.var 10)) (.var 0))])]),
      .asg 7 (.comp (.bin .mod (.bi .int [(.bin .sub (.var 5) (.var 10))]) (.var 0)) (.nm 10) (.range [(.k (.int 1)), (.var 0)]) [(.or_ [(.var 1), (.cmp .ge (.bin .sub (.var 5) (.var 10)) (.k (.int 0)))])]),
      .asg 8 (.slice (.comp (.var 11) (.nm 11) (.var 6) [(.or_ [(.cmp .in_ (.var 11) (.var 2)), (.cmp .in_ (.var 11) (.var 3))])]) [] [(.k (.int 1))]),
      .asg 9 (.slice (.comp (.var 11) (.nm 11) (.var 7) [(.or_ [(.cmp .in_ (.var 11) (.var 2)), (.cmp .in_ (.var 11) (.var 3))])]) [] [(.k (.int 1))]),
      .iff (.or_ [(.cmp .ne (.comp (.var 11) (.nm 11) (.var 8) [(.cmp .notIn (.var 11) (.var 2))]) (.lst [])), (.cmp .ne (.comp (.var 11) (.nm 11) (.var 9) [(.cmp .notIn (.var 11) (.var 3))]) (.lst []))]) [
        .asg 4 (.bin .add (.var 4) (.k (.int 2)))] []] []]]
def d_law_row_cost : Fd := ⟨4, 12, false, [
  .iff (.or_ [(.cmp .eq (.var 2) (.tup [])), (.cmp .eq (.var 3) (.tup []))]) [
    .ret (.ife (.cmp .eq (.var 2) (.var 3)) (.k (.int 0)) (.k .non))] [],
  .iff (.and_ [(.not_ (.var 1)), (.or_ [(.cmp .lt (.idx (.var 3) (.k (.int 0))) (.idx (.var 2) (.k (.int 0)))), (.cmp .lt (.idx (.var 3) (.neg (.k (.int 1)))) (.idx (.var 2) (.neg (.k (.int 1)))))])]) [
    .ret (.k .non)] [],
  .asg 4 (.k (.int 0)),
  .for_ (.nm 5) (.range [(.var 0)]) b_law_row_cost_1,
  .ret (.var 4)]⟩
def d_law___________________ : Fd := ⟨1, 11, true, [
  .asg 1 (.box (.lst [(.var 0), (.k (.int 0)), (.k (.int 9124)), (.k (.int 0))])),
  .asg 2 (.bin .add (.k (.int 1)) (.call 11 [(.var 1), (.k (.int 40))])),
  .asg 3 (.call 145 [(.var 1), (.var 2)]),
  .asg 4 (.call 156 [(.var 2), (.var 3)]),
  .par [5, 6] [(.call 11 [(.var 1), (.var 4)]), (.call 11 [(.var 1), (.var 4)])],
  .par [7, 8] [(.call 168 [(.var 2), (.var 3), (.bi .min2 [(.var 5), (.var 6)])]), (.call 168 [(.var 2), (.var 3), (.bi .max2 [(.var 5), (.var 6)])])],
  .iff (.cmp .ne (.call 169 [(.var 2), (.var 3), (.var 7)]) (.bi .min2 [(.var 5), (.var 6)])) [
    .ret (.k (.bl false))] [],
  .iff (.cmp .ne (.call 169 [(.var 2), (.var 3), (.var 8)]) (.bi .max2 [(.var 5), (.var 6)])) [
    .ret (.k (.bl false))] [],
  .iff (.or_ [(.cmp .ne (.cmp .lt (.var 7) (.var 8)) (.cmp .ne (.var 5) (.var 6))), (.isN (.call 146 [(.var 2), (.k (.bl false)), (.var 3), (.var 7)]))]) [
    .ret (.k (.bl false))] [],
  .iff (.isN (.call 146 [(.var 2), (.k (.bl false)), (.var 3), (.var 8)])) [
    .ret (.k (.bl false))] [],
  .iff (.and_ [(.cmp .lt (.bin .add (.bi .min2 [(.var 5), (.var 6)]) (.k (.int 1))) (.var 4)), (.not_ (.cmp .lt (.var 7) (.call 168 [(.var 2), (.var 3), (.bin .add (.bi .min2 [(.var 5), (.var 6)]) (.k (.int 1)))])))]) [
    .ret (.k (.bl false))] [],
  .asg 9 (.call 145 [(.var 1), (.var 2)]),
  .asg 10 (.call 169 [(.var 2), (.var 3), (.var 9)]),
  .iff (.cmp .ne (.isN (.var 10)) (.isN (.call 146 [(.var 2), (.k (.bl false)), (.var 3), (.var 9)]))) [
    .ret (.k (.bl false))] [],
  .ret (.or_ [(.isN (.var 10)), (.and_ [(.chain .le .lt (.k (.int 0)) (.var 10) (.var 4)), (.cmp .eq (.call 168 [(.var 2), (.var 3), (.var 10)]) (.var 9))])])]⟩
def T (i : Nat) : Option Fd := match i with
  | 1 => some d_is_in
  | 56 => some d_power
  | 135 => some d_need_many
  | 136 => some d_need_burning_
  | 137 => some d_row_comes
  | 166 => some d_begun
  | 167 => some d_at_in
  | 168 => some d_row_come_at
  | 169 => some d_row_come_number
  | 156 => some d_row_come_count
  | 11 => some d_law_taken
  | 12 => some d_law_pick
  | 145 => some d_law_row_burning
  | 146 => some d_law_row_cost
  | 171 => some d_law___________________
  | _ => none
def gv (i : Nat) : PV := match i with
  | 5 => .int 40
  | _ => .non
end L
end G
end

section
set_option autoImplicit false
/-! Tk: the draws. -/
namespace G
namespace L
/-- the row of draws -/
def RowOk (S : St) : Prop := ∃ (ns : List Int) (i seed rest : Int), 0 ≤ i ∧ S = [.lst [.exc 1000 (ns.map .int), .int i, .int seed, .int rest]]
theorem set3 (a b c d : PV) (i : Int) (v : PV) (h : 0 ≤ i) (h2 : i < 4) : setItem (.lst [a, b, c, d]) (.int i) v = some (.lst ([a, b, c, d].set i.toNat v)) := by
  simp only [setItem, h, true_and]
  rw [if_pos]
  exact h2
theorem m_taken (k : Nat) (n : Int) (hn : 0 < n) (hb : n < 2 ^ 64) (S : St) (h : RowOk S) : ∃ v S', cl T gv (k+1) 11 [.ref 0, .int n] S = .ok v S' ∧ ∃ i, v = .int i ∧ 0 ≤ i ∧ i < n ∧ RowOk S' := by
  obtain ⟨ns, i, seed, rest, hi, rfl⟩ := h
  have hl := log2_small hn hb
  have h7 : (7 : Int).natAbs.log2 < 8000 := log2_small (by decide) (by decide)
  have hs : small 48271 = true := small_of (by decide)
  have hm : (0 : Int) < 2147483647 := by decide
  have hmod : ∀ x : Int, 0 ≤ x % n ∧ x % n < n := fun x => ⟨Int.emod_nonneg x (by omega), Int.emod_lt_of_pos x hn⟩
  have s3 := fun (a b c d v : PV) => set3 a b c d 3 v (by decide) (by decide)
  have s1 := fun (a b c d v : PV) => set3 a b c d 1 v (by decide) (by decide)
  have s2 := fun (a b c d v : PV) => set3 a b c d 2 v (by decide) (by decide)
  refine callF_ex (d := d_law_taken) rfl rfl ?_
  simp only [d_law_taken, bind_ok, liftS_ok, op1_some, andThen_nx, andThen_rt, andThen_bk, fin_rt, fin_nx, asB_bl, getS_zero, getS_succ, getS_nil, setS_zero, setS_succ, clr_zero, clr_succ, rd_true, rd_val, rd_int, rd_tup, rd_bl, rd_str, rd_non, rd_ref, rd_fn, rd_exc, bindT_nm, bindT_tp, setAll_nil, setAll_cons, putAllS_nil, putAllS_cons, kTup, kLst, kBox, kBin2, kBin1, kNeg, kBl, kNot, kCmp2, kCmp1, kCh4, kCh3, kCh2, kCh1, kIsN, kNotN, kIsT, kNotT, kIfe, kIdx2, kIdx1, kOpt, kSl3, kSl2, kSl1, kRev, kCall, kCd2, kCd1, kBi, kBit2, kBit1, kIsin, kItems, kElt2, kElt1, cF, kComp, kEs2, kEs1, kAnd, kOr, kRng2, kRng1, kEn2, kEn1, e_var, e_k, e_glob, e_fnv, e_tup, e_lst, e_box, e_bin, e_neg, e_and, e_or, e_not, e_cmp, e_chain, e_isN, e_notN, e_isT, e_notT, e_ife, e_idx, e_slice, e_rev, e_call, e_calld, e_bi, e_bit, e_isin, e_comp, e_range, e_enum, es_nil, es_cons, and_nil, and_cons, or_nil, or_cons, kVal, kMv, kRs2, kRs1, kAsg, optS, kAsgT, kPar, kSet3, set2, kSet1, kApp, app2, pop2, kAug, aug2, kExpr, kIff, wC, fB, kFor, kRet, rh_var, rh_e, rv_val, rv_int, rv_tup, rv_bl, rv_str, rv_non, rv_ref, rv_fn, rv_exc, rv_ownL, rv_ownD, rr_nil, rr_cons, x_asg, x_asgT, x_par, x_setI, x_app, x_pop, x_aug, x_expr, x_frz, x_iff, x_whl, x_for, x_ret, x_retN, x_brk, x_pass, x_never, xs_nil, xs_cons, frE, cont, held, freeze, startS, List.map_cons, List.map_nil, List.replicate, List.cons_append, List.nil_append, List.append_nil, List.length_cons, List.length_nil, List.head?_cons, List.head?_nil, ↓reduceIte, Nat.reduceAdd, Nat.reduceSub, Nat.reduceEqDiff, reduceCtorEq, and_true, true_and, and_false, false_and, or_true, true_or, or_false, false_or, not_true_eq_false, not_false_eq_true, Bool.not_true, Bool.not_false, Bool.false_eq_true, Bool.true_eq_false, ne_eq, if_true, if_false, eq_self, deref, items, seqs, isOk, isinV, List.any_cons, List.any_nil, Bool.or_false, Bool.false_or, Bool.or_true, Bool.true_or, bitIn, bitV, optInt, implies_true, Option.map_some, Option.map_none, forall_const, PV.int.injEq, PV.bl.injEq, and_self, or_self, Int.reduceNeg, Int.reduceSub, Int.reduceAdd, Option.some.injEq, i_bl, i_and, i_or, Bool.and_true, Bool.true_and, Bool.and_false, Bool.false_and, Bool.not_not, nb_non, nb_int, nb_tup, nb_lst, nb_bl, nb_str, tb_non, tb_int, tb_bl, v_add, v_sub, a_add, a_sub, q_int, n_int, q_bl, n_bl, lt_int, gt_int, le_int, ge_int, q_tup, n_tup, q_tup0, n_tup0, q_0tup, q_00, n_0tup, n_00, q_l00, n_l00, q_lst, n_lst, q_lst0, n_lst0, in_tup, ni_tup, in_lst, ni_lst, ix_t, ix_l, ix_r, ix_e, atP_zero, atP_one, atP_two, atP_three, len_t, len_l, len_s, int_i, max2_i, min2_i, lt_tup, decide_true, decide_false, Int.reduceLE, Int.reduceLT, Int.reduceToNat, List.getElem?_cons_zero, List.getElem?_cons_succ, List.set_cons_zero, List.set_cons_succ, List.length_map, it_lst, it_tup]
  by_cases hr : 0 < rest
  · simp only [hr, bind_ok, liftS_ok, op1_some, andThen_nx, andThen_rt, andThen_bk, fin_rt, fin_nx, asB_bl, getS_zero, getS_succ, getS_nil, setS_zero, setS_succ, clr_zero, clr_succ, rd_true, rd_val, rd_int, rd_tup, rd_bl, rd_str, rd_non, rd_ref, rd_fn, rd_exc, bindT_nm, bindT_tp, setAll_nil, setAll_cons, putAllS_nil, putAllS_cons, kTup, kLst, kBox, kBin2, kBin1, kNeg, kBl, kNot, kCmp2, kCmp1, kCh4, kCh3, kCh2, kCh1, kIsN, kNotN, kIsT, kNotT, kIfe, kIdx2, kIdx1, kOpt, kSl3, kSl2, kSl1, kRev, kCall, kCd2, kCd1, kBi, kBit2, kBit1, kIsin, kItems, kElt2, kElt1, cF, kComp, kEs2, kEs1, kAnd, kOr, kRng2, kRng1, kEn2, kEn1, e_var, e_k, e_glob, e_fnv, e_tup, e_lst, e_box, e_bin, e_neg, e_and, e_or, e_not, e_cmp, e_chain, e_isN, e_notN, e_isT, e_notT, e_ife, e_idx, e_slice, e_rev, e_call, e_calld, e_bi, e_bit, e_isin, e_comp, e_range, e_enum, es_nil, es_cons, and_nil, and_cons, or_nil, or_cons, kVal, kMv, kRs2, kRs1, kAsg, optS, kAsgT, kPar, kSet3, set2, kSet1, kApp, app2, pop2, kAug, aug2, kExpr, kIff, wC, fB, kFor, kRet, rh_var, rh_e, rv_val, rv_int, rv_tup, rv_bl, rv_str, rv_non, rv_ref, rv_fn, rv_exc, rv_ownL, rv_ownD, rr_nil, rr_cons, x_asg, x_asgT, x_par, x_setI, x_app, x_pop, x_aug, x_expr, x_frz, x_iff, x_whl, x_for, x_ret, x_retN, x_brk, x_pass, x_never, xs_nil, xs_cons, frE, cont, held, freeze, startS, List.map_cons, List.map_nil, List.replicate, List.cons_append, List.nil_append, List.append_nil, List.length_cons, List.length_nil, List.head?_cons, List.head?_nil, ↓reduceIte, Nat.reduceAdd, Nat.reduceSub, Nat.reduceEqDiff, reduceCtorEq, and_true, true_and, and_false, false_and, or_true, true_or, or_false, false_or, not_true_eq_false, not_false_eq_true, Bool.not_true, Bool.not_false, Bool.false_eq_true, Bool.true_eq_false, ne_eq, if_true, if_false, eq_self, deref, items, seqs, isOk, isinV, List.any_cons, List.any_nil, Bool.or_false, Bool.false_or, Bool.or_true, Bool.true_or, bitIn, bitV, optInt, implies_true, Option.map_some, Option.map_none, forall_const, PV.int.injEq, PV.bl.injEq, and_self, or_self, Int.reduceNeg, Int.reduceSub, Int.reduceAdd, Option.some.injEq, i_bl, i_and, i_or, Bool.and_true, Bool.true_and, Bool.and_false, Bool.false_and, Bool.not_not, nb_non, nb_int, nb_tup, nb_lst, nb_bl, nb_str, tb_non, tb_int, tb_bl, v_add, v_sub, a_add, a_sub, q_int, n_int, q_bl, n_bl, lt_int, gt_int, le_int, ge_int, q_tup, n_tup, q_tup0, n_tup0, q_0tup, q_00, n_0tup, n_00, q_l00, n_l00, q_lst, n_lst, q_lst0, n_lst0, in_tup, ni_tup, in_lst, ni_lst, ix_t, ix_l, ix_r, ix_e, atP_zero, atP_one, atP_two, atP_three, len_t, len_l, len_s, int_i, max2_i, min2_i, lt_tup, decide_true, decide_false, Int.reduceLE, Int.reduceLT, Int.reduceToNat, List.getElem?_cons_zero, List.getElem?_cons_succ, List.set_cons_zero, List.set_cons_succ, List.length_map, it_lst, it_tup, v_mod _ _ hn, v_fdiv _ _ hn hl, s3]
    exact ⟨_, _, rfl, _, rfl, (hmod _).1, (hmod _).2, ns, i, seed, _, hi, rfl⟩
  · simp only [hr, bind_ok, liftS_ok, op1_some, andThen_nx, andThen_rt, andThen_bk, fin_rt, fin_nx, asB_bl, getS_zero, getS_succ, getS_nil, setS_zero, setS_succ, clr_zero, clr_succ, rd_true, rd_val, rd_int, rd_tup, rd_bl, rd_str, rd_non, rd_ref, rd_fn, rd_exc, bindT_nm, bindT_tp, setAll_nil, setAll_cons, putAllS_nil, putAllS_cons, kTup, kLst, kBox, kBin2, kBin1, kNeg, kBl, kNot, kCmp2, kCmp1, kCh4, kCh3, kCh2, kCh1, kIsN, kNotN, kIsT, kNotT, kIfe, kIdx2, kIdx1, kOpt, kSl3, kSl2, kSl1, kRev, kCall, kCd2, kCd1, kBi, kBit2, kBit1, kIsin, kItems, kElt2, kElt1, cF, kComp, kEs2, kEs1, kAnd, kOr, kRng2, kRng1, kEn2, kEn1, e_var, e_k, e_glob, e_fnv, e_tup, e_lst, e_box, e_bin, e_neg, e_and, e_or, e_not, e_cmp, e_chain, e_isN, e_notN, e_isT, e_notT, e_ife, e_idx, e_slice, e_rev, e_call, e_calld, e_bi, e_bit, e_isin, e_comp, e_range, e_enum, es_nil, es_cons, and_nil, and_cons, or_nil, or_cons, kVal, kMv, kRs2, kRs1, kAsg, optS, kAsgT, kPar, kSet3, set2, kSet1, kApp, app2, pop2, kAug, aug2, kExpr, kIff, wC, fB, kFor, kRet, rh_var, rh_e, rv_val, rv_int, rv_tup, rv_bl, rv_str, rv_non, rv_ref, rv_fn, rv_exc, rv_ownL, rv_ownD, rr_nil, rr_cons, x_asg, x_asgT, x_par, x_setI, x_app, x_pop, x_aug, x_expr, x_frz, x_iff, x_whl, x_for, x_ret, x_retN, x_brk, x_pass, x_never, xs_nil, xs_cons, frE, cont, held, freeze, startS, List.map_cons, List.map_nil, List.replicate, List.cons_append, List.nil_append, List.append_nil, List.length_cons, List.length_nil, List.head?_cons, List.head?_nil, ↓reduceIte, Nat.reduceAdd, Nat.reduceSub, Nat.reduceEqDiff, reduceCtorEq, and_true, true_and, and_false, false_and, or_true, true_or, or_false, false_or, not_true_eq_false, not_false_eq_true, Bool.not_true, Bool.not_false, Bool.false_eq_true, Bool.true_eq_false, ne_eq, if_true, if_false, eq_self, deref, items, seqs, isOk, isinV, List.any_cons, List.any_nil, Bool.or_false, Bool.false_or, Bool.or_true, Bool.true_or, bitIn, bitV, optInt, implies_true, Option.map_some, Option.map_none, forall_const, PV.int.injEq, PV.bl.injEq, and_self, or_self, Int.reduceNeg, Int.reduceSub, Int.reduceAdd, Option.some.injEq, i_bl, i_and, i_or, Bool.and_true, Bool.true_and, Bool.and_false, Bool.false_and, Bool.not_not, nb_non, nb_int, nb_tup, nb_lst, nb_bl, nb_str, tb_non, tb_int, tb_bl, v_add, v_sub, a_add, a_sub, q_int, n_int, q_bl, n_bl, lt_int, gt_int, le_int, ge_int, q_tup, n_tup, q_tup0, n_tup0, q_0tup, q_00, n_0tup, n_00, q_l00, n_l00, q_lst, n_lst, q_lst0, n_lst0, in_tup, ni_tup, in_lst, ni_lst, ix_t, ix_l, ix_r, ix_e, atP_zero, atP_one, atP_two, atP_three, len_t, len_l, len_s, int_i, max2_i, min2_i, lt_tup, decide_true, decide_false, Int.reduceLE, Int.reduceLT, Int.reduceToNat, List.getElem?_cons_zero, List.getElem?_cons_succ, List.set_cons_zero, List.set_cons_succ, List.length_map, it_lst, it_tup, s1]
    by_cases hc : (ns.length : Int) < i + 1
    · simp only [hc, bind_ok, liftS_ok, op1_some, andThen_nx, andThen_rt, andThen_bk, fin_rt, fin_nx, asB_bl, getS_zero, getS_succ, getS_nil, setS_zero, setS_succ, clr_zero, clr_succ, rd_true, rd_val, rd_int, rd_tup, rd_bl, rd_str, rd_non, rd_ref, rd_fn, rd_exc, bindT_nm, bindT_tp, setAll_nil, setAll_cons, putAllS_nil, putAllS_cons, kTup, kLst, kBox, kBin2, kBin1, kNeg, kBl, kNot, kCmp2, kCmp1, kCh4, kCh3, kCh2, kCh1, kIsN, kNotN, kIsT, kNotT, kIfe, kIdx2, kIdx1, kOpt, kSl3, kSl2, kSl1, kRev, kCall, kCd2, kCd1, kBi, kBit2, kBit1, kIsin, kItems, kElt2, kElt1, cF, kComp, kEs2, kEs1, kAnd, kOr, kRng2, kRng1, kEn2, kEn1, e_var, e_k, e_glob, e_fnv, e_tup, e_lst, e_box, e_bin, e_neg, e_and, e_or, e_not, e_cmp, e_chain, e_isN, e_notN, e_isT, e_notT, e_ife, e_idx, e_slice, e_rev, e_call, e_calld, e_bi, e_bit, e_isin, e_comp, e_range, e_enum, es_nil, es_cons, and_nil, and_cons, or_nil, or_cons, kVal, kMv, kRs2, kRs1, kAsg, optS, kAsgT, kPar, kSet3, set2, kSet1, kApp, app2, pop2, kAug, aug2, kExpr, kIff, wC, fB, kFor, kRet, rh_var, rh_e, rv_val, rv_int, rv_tup, rv_bl, rv_str, rv_non, rv_ref, rv_fn, rv_exc, rv_ownL, rv_ownD, rr_nil, rr_cons, x_asg, x_asgT, x_par, x_setI, x_app, x_pop, x_aug, x_expr, x_frz, x_iff, x_whl, x_for, x_ret, x_retN, x_brk, x_pass, x_never, xs_nil, xs_cons, frE, cont, held, freeze, startS, List.map_cons, List.map_nil, List.replicate, List.cons_append, List.nil_append, List.append_nil, List.length_cons, List.length_nil, List.head?_cons, List.head?_nil, ↓reduceIte, Nat.reduceAdd, Nat.reduceSub, Nat.reduceEqDiff, reduceCtorEq, and_true, true_and, and_false, false_and, or_true, true_or, or_false, false_or, not_true_eq_false, not_false_eq_true, Bool.not_true, Bool.not_false, Bool.false_eq_true, Bool.true_eq_false, ne_eq, if_true, if_false, eq_self, deref, items, seqs, isOk, isinV, List.any_cons, List.any_nil, Bool.or_false, Bool.false_or, Bool.or_true, Bool.true_or, bitIn, bitV, optInt, implies_true, Option.map_some, Option.map_none, forall_const, PV.int.injEq, PV.bl.injEq, and_self, or_self, Int.reduceNeg, Int.reduceSub, Int.reduceAdd, Option.some.injEq, i_bl, i_and, i_or, Bool.and_true, Bool.true_and, Bool.and_false, Bool.false_and, Bool.not_not, nb_non, nb_int, nb_tup, nb_lst, nb_bl, nb_str, tb_non, tb_int, tb_bl, v_add, v_sub, a_add, a_sub, q_int, n_int, q_bl, n_bl, lt_int, gt_int, le_int, ge_int, q_tup, n_tup, q_tup0, n_tup0, q_0tup, q_00, n_0tup, n_00, q_l00, n_l00, q_lst, n_lst, q_lst0, n_lst0, in_tup, ni_tup, in_lst, ni_lst, ix_t, ix_l, ix_r, ix_e, atP_zero, atP_one, atP_two, atP_three, len_t, len_l, len_s, int_i, max2_i, min2_i, lt_tup, decide_true, decide_false, Int.reduceLE, Int.reduceLT, Int.reduceToNat, List.getElem?_cons_zero, List.getElem?_cons_succ, List.set_cons_zero, List.set_cons_succ, List.length_map, it_lst, it_tup, v_mulr _ _ hs, v_mod _ _ hm, v_fdiv _ 7 (by decide) h7, v_mod _ _ hn, s2]
      exact ⟨_, _, rfl, _, rfl, (hmod _).1, (hmod _).2, ns, i + 1, _, rest, by omega, rfl⟩
    · have hlt : i.toNat < ns.length := by omega
      have hx : atP (ns.map .int) i = some (.int ns[i.toNat]) := atP_map hi (List.getElem?_eq_getElem hlt)
      have hx' : atP (ns.map .int) (i + 1 - 1) = some (.int ns[i.toNat]) := by
        have e : i + 1 - 1 = i := by omega
        rw [e]; exact hx
      have hp : binV .pow (.int 10) (.int 18) = some (.int 1000000000000000000) := by rfl
      simp only [hc, bind_ok, liftS_ok, op1_some, andThen_nx, andThen_rt, andThen_bk, fin_rt, fin_nx, asB_bl, getS_zero, getS_succ, getS_nil, setS_zero, setS_succ, clr_zero, clr_succ, rd_true, rd_val, rd_int, rd_tup, rd_bl, rd_str, rd_non, rd_ref, rd_fn, rd_exc, bindT_nm, bindT_tp, setAll_nil, setAll_cons, putAllS_nil, putAllS_cons, kTup, kLst, kBox, kBin2, kBin1, kNeg, kBl, kNot, kCmp2, kCmp1, kCh4, kCh3, kCh2, kCh1, kIsN, kNotN, kIsT, kNotT, kIfe, kIdx2, kIdx1, kOpt, kSl3, kSl2, kSl1, kRev, kCall, kCd2, kCd1, kBi, kBit2, kBit1, kIsin, kItems, kElt2, kElt1, cF, kComp, kEs2, kEs1, kAnd, kOr, kRng2, kRng1, kEn2, kEn1, e_var, e_k, e_glob, e_fnv, e_tup, e_lst, e_box, e_bin, e_neg, e_and, e_or, e_not, e_cmp, e_chain, e_isN, e_notN, e_isT, e_notT, e_ife, e_idx, e_slice, e_rev, e_call, e_calld, e_bi, e_bit, e_isin, e_comp, e_range, e_enum, es_nil, es_cons, and_nil, and_cons, or_nil, or_cons, kVal, kMv, kRs2, kRs1, kAsg, optS, kAsgT, kPar, kSet3, set2, kSet1, kApp, app2, pop2, kAug, aug2, kExpr, kIff, wC, fB, kFor, kRet, rh_var, rh_e, rv_val, rv_int, rv_tup, rv_bl, rv_str, rv_non, rv_ref, rv_fn, rv_exc, rv_ownL, rv_ownD, rr_nil, rr_cons, x_asg, x_asgT, x_par, x_setI, x_app, x_pop, x_aug, x_expr, x_frz, x_iff, x_whl, x_for, x_ret, x_retN, x_brk, x_pass, x_never, xs_nil, xs_cons, frE, cont, held, freeze, startS, List.map_cons, List.map_nil, List.replicate, List.cons_append, List.nil_append, List.append_nil, List.length_cons, List.length_nil, List.head?_cons, List.head?_nil, ↓reduceIte, Nat.reduceAdd, Nat.reduceSub, Nat.reduceEqDiff, reduceCtorEq, and_true, true_and, and_false, false_and, or_true, true_or, or_false, false_or, not_true_eq_false, not_false_eq_true, Bool.not_true, Bool.not_false, Bool.false_eq_true, Bool.true_eq_false, ne_eq, if_true, if_false, eq_self, deref, items, seqs, isOk, isinV, List.any_cons, List.any_nil, Bool.or_false, Bool.false_or, Bool.or_true, Bool.true_or, bitIn, bitV, optInt, implies_true, Option.map_some, Option.map_none, forall_const, PV.int.injEq, PV.bl.injEq, and_self, or_self, Int.reduceNeg, Int.reduceSub, Int.reduceAdd, Option.some.injEq, i_bl, i_and, i_or, Bool.and_true, Bool.true_and, Bool.and_false, Bool.false_and, Bool.not_not, nb_non, nb_int, nb_tup, nb_lst, nb_bl, nb_str, tb_non, tb_int, tb_bl, v_add, v_sub, a_add, a_sub, q_int, n_int, q_bl, n_bl, lt_int, gt_int, le_int, ge_int, q_tup, n_tup, q_tup0, n_tup0, q_0tup, q_00, n_0tup, n_00, q_l00, n_l00, q_lst, n_lst, q_lst0, n_lst0, in_tup, ni_tup, in_lst, ni_lst, ix_t, ix_l, ix_r, ix_e, atP_zero, atP_one, atP_two, atP_three, len_t, len_l, len_s, int_i, max2_i, min2_i, lt_tup, decide_true, decide_false, Int.reduceLE, Int.reduceLT, Int.reduceToNat, List.getElem?_cons_zero, List.getElem?_cons_succ, List.set_cons_zero, List.set_cons_succ, List.length_map, it_lst, it_tup, v_mulr _ _ hs, v_mod _ _ hm, s2, hx', hp]
      by_cases hg : (1000000000000000000 : Int) ≤ ns[i.toNat]
      · simp only [hg, bind_ok, liftS_ok, op1_some, andThen_nx, andThen_rt, andThen_bk, fin_rt, fin_nx, asB_bl, getS_zero, getS_succ, getS_nil, setS_zero, setS_succ, clr_zero, clr_succ, rd_true, rd_val, rd_int, rd_tup, rd_bl, rd_str, rd_non, rd_ref, rd_fn, rd_exc, bindT_nm, bindT_tp, setAll_nil, setAll_cons, putAllS_nil, putAllS_cons, kTup, kLst, kBox, kBin2, kBin1, kNeg, kBl, kNot, kCmp2, kCmp1, kCh4, kCh3, kCh2, kCh1, kIsN, kNotN, kIsT, kNotT, kIfe, kIdx2, kIdx1, kOpt, kSl3, kSl2, kSl1, kRev, kCall, kCd2, kCd1, kBi, kBit2, kBit1, kIsin, kItems, kElt2, kElt1, cF, kComp, kEs2, kEs1, kAnd, kOr, kRng2, kRng1, kEn2, kEn1, e_var, e_k, e_glob, e_fnv, e_tup, e_lst, e_box, e_bin, e_neg, e_and, e_or, e_not, e_cmp, e_chain, e_isN, e_notN, e_isT, e_notT, e_ife, e_idx, e_slice, e_rev, e_call, e_calld, e_bi, e_bit, e_isin, e_comp, e_range, e_enum, es_nil, es_cons, and_nil, and_cons, or_nil, or_cons, kVal, kMv, kRs2, kRs1, kAsg, optS, kAsgT, kPar, kSet3, set2, kSet1, kApp, app2, pop2, kAug, aug2, kExpr, kIff, wC, fB, kFor, kRet, rh_var, rh_e, rv_val, rv_int, rv_tup, rv_bl, rv_str, rv_non, rv_ref, rv_fn, rv_exc, rv_ownL, rv_ownD, rr_nil, rr_cons, x_asg, x_asgT, x_par, x_setI, x_app, x_pop, x_aug, x_expr, x_frz, x_iff, x_whl, x_for, x_ret, x_retN, x_brk, x_pass, x_never, xs_nil, xs_cons, frE, cont, held, freeze, startS, List.map_cons, List.map_nil, List.replicate, List.cons_append, List.nil_append, List.append_nil, List.length_cons, List.length_nil, List.head?_cons, List.head?_nil, ↓reduceIte, Nat.reduceAdd, Nat.reduceSub, Nat.reduceEqDiff, reduceCtorEq, and_true, true_and, and_false, false_and, or_true, true_or, or_false, false_or, not_true_eq_false, not_false_eq_true, Bool.not_true, Bool.not_false, Bool.false_eq_true, Bool.true_eq_false, ne_eq, if_true, if_false, eq_self, deref, items, seqs, isOk, isinV, List.any_cons, List.any_nil, Bool.or_false, Bool.false_or, Bool.or_true, Bool.true_or, bitIn, bitV, optInt, implies_true, Option.map_some, Option.map_none, forall_const, PV.int.injEq, PV.bl.injEq, and_self, or_self, Int.reduceNeg, Int.reduceSub, Int.reduceAdd, Option.some.injEq, i_bl, i_and, i_or, Bool.and_true, Bool.true_and, Bool.and_false, Bool.false_and, Bool.not_not, nb_non, nb_int, nb_tup, nb_lst, nb_bl, nb_str, tb_non, tb_int, tb_bl, v_add, v_sub, a_add, a_sub, q_int, n_int, q_bl, n_bl, lt_int, gt_int, le_int, ge_int, q_tup, n_tup, q_tup0, n_tup0, q_0tup, q_00, n_0tup, n_00, q_l00, n_l00, q_lst, n_lst, q_lst0, n_lst0, in_tup, ni_tup, in_lst, ni_lst, ix_t, ix_l, ix_r, ix_e, atP_zero, atP_one, atP_two, atP_three, len_t, len_l, len_s, int_i, max2_i, min2_i, lt_tup, decide_true, decide_false, Int.reduceLE, Int.reduceLT, Int.reduceToNat, List.getElem?_cons_zero, List.getElem?_cons_succ, List.set_cons_zero, List.set_cons_succ, List.length_map, it_lst, it_tup, v_fdiv _ _ hn hl, List.getElem?_cons_zero, s3, v_mod _ _ hn]
        exact ⟨_, _, rfl, _, rfl, (hmod _).1, (hmod _).2, ns, i + 1, _, _, by omega, rfl⟩
      · simp only [hg, bind_ok, liftS_ok, op1_some, andThen_nx, andThen_rt, andThen_bk, fin_rt, fin_nx, asB_bl, getS_zero, getS_succ, getS_nil, setS_zero, setS_succ, clr_zero, clr_succ, rd_true, rd_val, rd_int, rd_tup, rd_bl, rd_str, rd_non, rd_ref, rd_fn, rd_exc, bindT_nm, bindT_tp, setAll_nil, setAll_cons, putAllS_nil, putAllS_cons, kTup, kLst, kBox, kBin2, kBin1, kNeg, kBl, kNot, kCmp2, kCmp1, kCh4, kCh3, kCh2, kCh1, kIsN, kNotN, kIsT, kNotT, kIfe, kIdx2, kIdx1, kOpt, kSl3, kSl2, kSl1, kRev, kCall, kCd2, kCd1, kBi, kBit2, kBit1, kIsin, kItems, kElt2, kElt1, cF, kComp, kEs2, kEs1, kAnd, kOr, kRng2, kRng1, kEn2, kEn1, e_var, e_k, e_glob, e_fnv, e_tup, e_lst, e_box, e_bin, e_neg, e_and, e_or, e_not, e_cmp, e_chain, e_isN, e_notN, e_isT, e_notT, e_ife, e_idx, e_slice, e_rev, e_call, e_calld, e_bi, e_bit, e_isin, e_comp, e_range, e_enum, es_nil, es_cons, and_nil, and_cons, or_nil, or_cons, kVal, kMv, kRs2, kRs1, kAsg, optS, kAsgT, kPar, kSet3, set2, kSet1, kApp, app2, pop2, kAug, aug2, kExpr, kIff, wC, fB, kFor, kRet, rh_var, rh_e, rv_val, rv_int, rv_tup, rv_bl, rv_str, rv_non, rv_ref, rv_fn, rv_exc, rv_ownL, rv_ownD, rr_nil, rr_cons, x_asg, x_asgT, x_par, x_setI, x_app, x_pop, x_aug, x_expr, x_frz, x_iff, x_whl, x_for, x_ret, x_retN, x_brk, x_pass, x_never, xs_nil, xs_cons, frE, cont, held, freeze, startS, List.map_cons, List.map_nil, List.replicate, List.cons_append, List.nil_append, List.append_nil, List.length_cons, List.length_nil, List.head?_cons, List.head?_nil, ↓reduceIte, Nat.reduceAdd, Nat.reduceSub, Nat.reduceEqDiff, reduceCtorEq, and_true, true_and, and_false, false_and, or_true, true_or, or_false, false_or, not_true_eq_false, not_false_eq_true, Bool.not_true, Bool.not_false, Bool.false_eq_true, Bool.true_eq_false, ne_eq, if_true, if_false, eq_self, deref, items, seqs, isOk, isinV, List.any_cons, List.any_nil, Bool.or_false, Bool.false_or, Bool.or_true, Bool.true_or, bitIn, bitV, optInt, implies_true, Option.map_some, Option.map_none, forall_const, PV.int.injEq, PV.bl.injEq, and_self, or_self, Int.reduceNeg, Int.reduceSub, Int.reduceAdd, Option.some.injEq, i_bl, i_and, i_or, Bool.and_true, Bool.true_and, Bool.and_false, Bool.false_and, Bool.not_not, nb_non, nb_int, nb_tup, nb_lst, nb_bl, nb_str, tb_non, tb_int, tb_bl, v_add, v_sub, a_add, a_sub, q_int, n_int, q_bl, n_bl, lt_int, gt_int, le_int, ge_int, q_tup, n_tup, q_tup0, n_tup0, q_0tup, q_00, n_0tup, n_00, q_l00, n_l00, q_lst, n_lst, q_lst0, n_lst0, in_tup, ni_tup, in_lst, ni_lst, ix_t, ix_l, ix_r, ix_e, atP_zero, atP_one, atP_two, atP_three, len_t, len_l, len_s, int_i, max2_i, min2_i, lt_tup, decide_true, decide_false, Int.reduceLE, Int.reduceLT, Int.reduceToNat, List.getElem?_cons_zero, List.getElem?_cons_succ, List.set_cons_zero, List.set_cons_succ, List.length_map, it_lst, it_tup, v_mod _ _ hn]
        exact ⟨_, _, rfl, _, rfl, (hmod _).1, (hmod _).2, ns, i + 1, _, _, by omega, rfl⟩
theorem m_pick (k : Nat) (l : List PV) (hl : 0 < l.length) (hb : l.length < 1000) (S : St) (h : RowOk S) : ∃ v S', cl T gv (k+2) 12 [.ref 0, .lst l] S = .ok v S' ∧ v ∈ l ∧ RowOk S' := by
  obtain ⟨v, S', e, i, rfl, h0, h1, hS⟩ := m_taken k (l.length : Int) (by omega) (Int.lt_of_lt_of_le (show (l.length : Int) < 1000 by omega) (by decide)) S h
  refine callF_ex (d := d_law_pick) rfl rfl ?_
  have ha : atP l i = some (l[i.toNat]'(by omega)) := by
    unfold atP
    rw [if_pos h0]
    exact List.getElem?_eq_getElem _
  simp only [d_law_pick, bind_ok, liftS_ok, op1_some, andThen_nx, andThen_rt, andThen_bk, fin_rt, fin_nx, asB_bl, getS_zero, getS_succ, getS_nil, setS_zero, setS_succ, clr_zero, clr_succ, rd_true, rd_val, rd_int, rd_tup, rd_bl, rd_str, rd_non, rd_ref, rd_fn, rd_exc, bindT_nm, bindT_tp, setAll_nil, setAll_cons, putAllS_nil, putAllS_cons, kTup, kLst, kBox, kBin2, kBin1, kNeg, kBl, kNot, kCmp2, kCmp1, kCh4, kCh3, kCh2, kCh1, kIsN, kNotN, kIsT, kNotT, kIfe, kIdx2, kIdx1, kOpt, kSl3, kSl2, kSl1, kRev, kCall, kCd2, kCd1, kBi, kBit2, kBit1, kIsin, kItems, kElt2, kElt1, cF, kComp, kEs2, kEs1, kAnd, kOr, kRng2, kRng1, kEn2, kEn1, e_var, e_k, e_glob, e_fnv, e_tup, e_lst, e_box, e_bin, e_neg, e_and, e_or, e_not, e_cmp, e_chain, e_isN, e_notN, e_isT, e_notT, e_ife, e_idx, e_slice, e_rev, e_call, e_calld, e_bi, e_bit, e_isin, e_comp, e_range, e_enum, es_nil, es_cons, and_nil, and_cons, or_nil, or_cons, kVal, kMv, kRs2, kRs1, kAsg, optS, kAsgT, kPar, kSet3, set2, kSet1, kApp, app2, pop2, kAug, aug2, kExpr, kIff, wC, fB, kFor, kRet, rh_var, rh_e, rv_val, rv_int, rv_tup, rv_bl, rv_str, rv_non, rv_ref, rv_fn, rv_exc, rv_ownL, rv_ownD, rr_nil, rr_cons, x_asg, x_asgT, x_par, x_setI, x_app, x_pop, x_aug, x_expr, x_frz, x_iff, x_whl, x_for, x_ret, x_retN, x_brk, x_pass, x_never, xs_nil, xs_cons, frE, cont, held, freeze, startS, List.map_cons, List.map_nil, List.replicate, List.cons_append, List.nil_append, List.append_nil, List.length_cons, List.length_nil, List.head?_cons, List.head?_nil, ↓reduceIte, Nat.reduceAdd, Nat.reduceSub, Nat.reduceEqDiff, reduceCtorEq, and_true, true_and, and_false, false_and, or_true, true_or, or_false, false_or, not_true_eq_false, not_false_eq_true, Bool.not_true, Bool.not_false, Bool.false_eq_true, Bool.true_eq_false, ne_eq, if_true, if_false, eq_self, deref, items, seqs, isOk, isinV, List.any_cons, List.any_nil, Bool.or_false, Bool.false_or, Bool.or_true, Bool.true_or, bitIn, bitV, optInt, implies_true, Option.map_some, Option.map_none, forall_const, PV.int.injEq, PV.bl.injEq, and_self, or_self, Int.reduceNeg, Int.reduceSub, Int.reduceAdd, Option.some.injEq, i_bl, i_and, i_or, Bool.and_true, Bool.true_and, Bool.and_false, Bool.false_and, Bool.not_not, nb_non, nb_int, nb_tup, nb_lst, nb_bl, nb_str, tb_non, tb_int, tb_bl, v_add, v_sub, a_add, a_sub, q_int, n_int, q_bl, n_bl, lt_int, gt_int, le_int, ge_int, q_tup, n_tup, q_tup0, n_tup0, q_0tup, q_00, n_0tup, n_00, q_l00, n_l00, q_lst, n_lst, q_lst0, n_lst0, in_tup, ni_tup, in_lst, ni_lst, ix_t, ix_l, ix_r, ix_e, atP_zero, atP_one, atP_two, atP_three, len_t, len_l, len_s, int_i, max2_i, min2_i, lt_tup, decide_true, decide_false, Int.reduceLE, Int.reduceLT, Int.reduceToNat, List.getElem?_cons_zero, List.getElem?_cons_succ, List.set_cons_zero, List.set_cons_succ, List.length_map, it_lst, it_tup, len_l, e, ix_l, ha]
  exact ⟨_, _, rfl, List.getElem_mem _, hS⟩
end L
end G
end

section
set_option autoImplicit false
/-! Rw: rows: what the defs of rows give. -/
namespace G
namespace L
/-- a standing of so many lamps -/
def Stand (n : Int) (b : List Int) : Prop := b.Pairwise (· < ·) ∧ ∀ x ∈ b, 0 ≤ x ∧ x < n
def hd (b : List Int) : Int := b.headD 0
def la (b : List Int) : Int := b.getLastD 0
theorem at_hd {b : List Int} (h : b ≠ []) : atP (b.map .int) 0 = some (.int (hd b)) := by
  cases b with
  | nil => exact absurd rfl h
  | cons x xs => rfl
theorem at_la {b : List Int} (h : b ≠ []) : atP (b.map .int) (-1) = some (.int (la b)) := by
  refine atP_last ?_
  cases b with
  | nil => exact absurd rfl h
  | cons x xs => simp [la, List.getLast?_cons]
theorem hd_mem {b : List Int} (h : b ≠ []) : hd b ∈ b := by
  cases b with
  | nil => exact absurd rfl h
  | cons x xs => simp [hd]
theorem la_mem {b : List Int} (h : b ≠ []) : la b ∈ b := by
  cases b with
  | nil => exact absurd rfl h
  | cons x xs =>
    have : (x :: xs).getLast? = some (la (x :: xs)) := by simp [la, List.getLast?_cons]
    exact List.mem_of_getLast? this
theorem m_is_in (k : Nat) (i lo hi : Int) (S : St) : cl T gv (k+1) 1 [.int i, .int lo, .int hi] S = .ok (.bl (decide (lo ≤ i) && decide (i ≤ hi))) S := by
  refine callF_sat (d := d_is_in) rfl rfl ?_
  simp only [d_is_in, bind_ok, liftS_ok, op1_some, andThen_nx, andThen_rt, andThen_bk, fin_rt, fin_nx, asB_bl, getS_zero, getS_succ, getS_nil, setS_zero, setS_succ, clr_zero, clr_succ, rd_true, rd_val, rd_int, rd_tup, rd_bl, rd_str, rd_non, rd_ref, rd_fn, rd_exc, bindT_nm, bindT_tp, setAll_nil, setAll_cons, putAllS_nil, putAllS_cons, kTup, kLst, kBox, kBin2, kBin1, kNeg, kBl, kNot, kCmp2, kCmp1, kCh4, kCh3, kCh2, kCh1, kIsN, kNotN, kIsT, kNotT, kIfe, kIdx2, kIdx1, kOpt, kSl3, kSl2, kSl1, kRev, kCall, kCd2, kCd1, kBi, kBit2, kBit1, kIsin, kItems, kElt2, kElt1, cF, kComp, kEs2, kEs1, kAnd, kOr, kRng2, kRng1, kEn2, kEn1, e_var, e_k, e_glob, e_fnv, e_tup, e_lst, e_box, e_bin, e_neg, e_and, e_or, e_not, e_cmp, e_chain, e_isN, e_notN, e_isT, e_notT, e_ife, e_idx, e_slice, e_rev, e_call, e_calld, e_bi, e_bit, e_isin, e_comp, e_range, e_enum, es_nil, es_cons, and_nil, and_cons, or_nil, or_cons, kVal, kMv, kRs2, kRs1, kAsg, optS, kAsgT, kPar, kSet3, set2, kSet1, kApp, app2, pop2, kAug, aug2, kExpr, kIff, wC, fB, kFor, kRet, rh_var, rh_e, rv_val, rv_int, rv_tup, rv_bl, rv_str, rv_non, rv_ref, rv_fn, rv_exc, rv_ownL, rv_ownD, rr_nil, rr_cons, x_asg, x_asgT, x_par, x_setI, x_app, x_pop, x_aug, x_expr, x_frz, x_iff, x_whl, x_for, x_ret, x_retN, x_brk, x_pass, x_never, xs_nil, xs_cons, frE, cont, held, freeze, startS, List.map_cons, List.map_nil, List.replicate, List.cons_append, List.nil_append, List.append_nil, List.length_cons, List.length_nil, List.head?_cons, List.head?_nil, ↓reduceIte, Nat.reduceAdd, Nat.reduceSub, Nat.reduceEqDiff, reduceCtorEq, and_true, true_and, and_false, false_and, or_true, true_or, or_false, false_or, not_true_eq_false, not_false_eq_true, Bool.not_true, Bool.not_false, Bool.false_eq_true, Bool.true_eq_false, ne_eq, if_true, if_false, eq_self, deref, items, seqs, isOk, isinV, List.any_cons, List.any_nil, Bool.or_false, Bool.false_or, Bool.or_true, Bool.true_or, bitIn, bitV, optInt, implies_true, Option.map_some, Option.map_none, forall_const, PV.int.injEq, PV.bl.injEq, and_self, or_self, Int.reduceNeg, Int.reduceSub, Int.reduceAdd, Option.some.injEq, i_bl, i_and, i_or, Bool.and_true, Bool.true_and, Bool.and_false, Bool.false_and, Bool.not_not, nb_non, nb_int, nb_tup, nb_lst, nb_bl, nb_str, tb_non, tb_int, tb_bl, v_add, v_sub, a_add, a_sub, q_int, n_int, q_bl, n_bl, lt_int, gt_int, le_int, ge_int, q_tup, n_tup, q_tup0, n_tup0, q_0tup, q_00, n_0tup, n_00, q_l00, n_l00, q_lst, n_lst, q_lst0, n_lst0, in_tup, ni_tup, in_lst, ni_lst, ix_t, ix_l, ix_r, ix_e, atP_zero, atP_one, atP_two, atP_three, len_t, len_l, len_s, int_i, max2_i, min2_i, lt_tup, decide_true, decide_false, Int.reduceLE, Int.reduceLT, Int.reduceToNat, List.getElem?_cons_zero, List.getElem?_cons_succ, List.set_cons_zero, List.set_cons_succ, List.length_map, it_lst, it_tup]
  rfl
theorem m_power (k : Nat) (i : Int) (S : St) (hi : i < line) (h0 : -lineI ≤ i) : cl T gv (k+1) 56 [.int i] S = .ok (.int (2^i.toNat)) S := by
  refine callF_sat (d := d_power) rfl rfl ?_
  simp only [d_power, bind_ok, liftS_ok, op1_some, andThen_nx, andThen_rt, andThen_bk, fin_rt, fin_nx, asB_bl, getS_zero, getS_succ, getS_nil, setS_zero, setS_succ, clr_zero, clr_succ, rd_true, rd_val, rd_int, rd_tup, rd_bl, rd_str, rd_non, rd_ref, rd_fn, rd_exc, bindT_nm, bindT_tp, setAll_nil, setAll_cons, putAllS_nil, putAllS_cons, kTup, kLst, kBox, kBin2, kBin1, kNeg, kBl, kNot, kCmp2, kCmp1, kCh4, kCh3, kCh2, kCh1, kIsN, kNotN, kIsT, kNotT, kIfe, kIdx2, kIdx1, kOpt, kSl3, kSl2, kSl1, kRev, kCall, kCd2, kCd1, kBi, kBit2, kBit1, kIsin, kItems, kElt2, kElt1, cF, kComp, kEs2, kEs1, kAnd, kOr, kRng2, kRng1, kEn2, kEn1, e_var, e_k, e_glob, e_fnv, e_tup, e_lst, e_box, e_bin, e_neg, e_and, e_or, e_not, e_cmp, e_chain, e_isN, e_notN, e_isT, e_notT, e_ife, e_idx, e_slice, e_rev, e_call, e_calld, e_bi, e_bit, e_isin, e_comp, e_range, e_enum, es_nil, es_cons, and_nil, and_cons, or_nil, or_cons, kVal, kMv, kRs2, kRs1, kAsg, optS, kAsgT, kPar, kSet3, set2, kSet1, kApp, app2, pop2, kAug, aug2, kExpr, kIff, wC, fB, kFor, kRet, rh_var, rh_e, rv_val, rv_int, rv_tup, rv_bl, rv_str, rv_non, rv_ref, rv_fn, rv_exc, rv_ownL, rv_ownD, rr_nil, rr_cons, x_asg, x_asgT, x_par, x_setI, x_app, x_pop, x_aug, x_expr, x_frz, x_iff, x_whl, x_for, x_ret, x_retN, x_brk, x_pass, x_never, xs_nil, xs_cons, frE, cont, held, freeze, startS, List.map_cons, List.map_nil, List.replicate, List.cons_append, List.nil_append, List.append_nil, List.length_cons, List.length_nil, List.head?_cons, List.head?_nil, ↓reduceIte, Nat.reduceAdd, Nat.reduceSub, Nat.reduceEqDiff, reduceCtorEq, and_true, true_and, and_false, false_and, or_true, true_or, or_false, false_or, not_true_eq_false, not_false_eq_true, Bool.not_true, Bool.not_false, Bool.false_eq_true, Bool.true_eq_false, ne_eq, if_true, if_false, eq_self, deref, items, seqs, isOk, isinV, List.any_cons, List.any_nil, Bool.or_false, Bool.false_or, Bool.or_true, Bool.true_or, bitIn, bitV, optInt, implies_true, Option.map_some, Option.map_none, forall_const, PV.int.injEq, PV.bl.injEq, and_self, or_self, Int.reduceNeg, Int.reduceSub, Int.reduceAdd, Option.some.injEq, i_bl, i_and, i_or, Bool.and_true, Bool.true_and, Bool.and_false, Bool.false_and, Bool.not_not, nb_non, nb_int, nb_tup, nb_lst, nb_bl, nb_str, tb_non, tb_int, tb_bl, v_add, v_sub, a_add, a_sub, q_int, n_int, q_bl, n_bl, lt_int, gt_int, le_int, ge_int, q_tup, n_tup, q_tup0, n_tup0, q_0tup, q_00, n_0tup, n_00, q_l00, n_l00, q_lst, n_lst, q_lst0, n_lst0, in_tup, ni_tup, in_lst, ni_lst, ix_t, ix_l, ix_r, ix_e, atP_zero, atP_one, atP_two, atP_three, len_t, len_l, len_s, int_i, max2_i, min2_i, lt_tup, decide_true, decide_false, Int.reduceLE, Int.reduceLT, Int.reduceToNat, List.getElem?_cons_zero, List.getElem?_cons_succ, List.set_cons_zero, List.set_cons_succ, List.length_map, it_lst, it_tup, rangeV1 hi h0]
  refine for_sat_fold .int (fun a σ => ∃ t, σ = [some (Tag.bor, PV.int i), some (Tag.val, PV.int a), t]) (fun a _ => a * 2) (a := 1) ⟨_, rfl⟩ ?_ ?_
  · rintro a x σ _ ⟨t, rfl⟩
    simp only [b_power_1, bind_ok, liftS_ok, op1_some, andThen_nx, andThen_rt, andThen_bk, fin_rt, fin_nx, asB_bl, getS_zero, getS_succ, getS_nil, setS_zero, setS_succ, clr_zero, clr_succ, rd_true, rd_val, rd_int, rd_tup, rd_bl, rd_str, rd_non, rd_ref, rd_fn, rd_exc, bindT_nm, bindT_tp, setAll_nil, setAll_cons, putAllS_nil, putAllS_cons, kTup, kLst, kBox, kBin2, kBin1, kNeg, kBl, kNot, kCmp2, kCmp1, kCh4, kCh3, kCh2, kCh1, kIsN, kNotN, kIsT, kNotT, kIfe, kIdx2, kIdx1, kOpt, kSl3, kSl2, kSl1, kRev, kCall, kCd2, kCd1, kBi, kBit2, kBit1, kIsin, kItems, kElt2, kElt1, cF, kComp, kEs2, kEs1, kAnd, kOr, kRng2, kRng1, kEn2, kEn1, e_var, e_k, e_glob, e_fnv, e_tup, e_lst, e_box, e_bin, e_neg, e_and, e_or, e_not, e_cmp, e_chain, e_isN, e_notN, e_isT, e_notT, e_ife, e_idx, e_slice, e_rev, e_call, e_calld, e_bi, e_bit, e_isin, e_comp, e_range, e_enum, es_nil, es_cons, and_nil, and_cons, or_nil, or_cons, kVal, kMv, kRs2, kRs1, kAsg, optS, kAsgT, kPar, kSet3, set2, kSet1, kApp, app2, pop2, kAug, aug2, kExpr, kIff, wC, fB, kFor, kRet, rh_var, rh_e, rv_val, rv_int, rv_tup, rv_bl, rv_str, rv_non, rv_ref, rv_fn, rv_exc, rv_ownL, rv_ownD, rr_nil, rr_cons, x_asg, x_asgT, x_par, x_setI, x_app, x_pop, x_aug, x_expr, x_frz, x_iff, x_whl, x_for, x_ret, x_retN, x_brk, x_pass, x_never, xs_nil, xs_cons, frE, cont, held, freeze, startS, List.map_cons, List.map_nil, List.replicate, List.cons_append, List.nil_append, List.append_nil, List.length_cons, List.length_nil, List.head?_cons, List.head?_nil, ↓reduceIte, Nat.reduceAdd, Nat.reduceSub, Nat.reduceEqDiff, reduceCtorEq, and_true, true_and, and_false, false_and, or_true, true_or, or_false, false_or, not_true_eq_false, not_false_eq_true, Bool.not_true, Bool.not_false, Bool.false_eq_true, Bool.true_eq_false, ne_eq, if_true, if_false, eq_self, deref, items, seqs, isOk, isinV, List.any_cons, List.any_nil, Bool.or_false, Bool.false_or, Bool.or_true, Bool.true_or, bitIn, bitV, optInt, implies_true, Option.map_some, Option.map_none, forall_const, PV.int.injEq, PV.bl.injEq, and_self, or_self, Int.reduceNeg, Int.reduceSub, Int.reduceAdd, Option.some.injEq, i_bl, i_and, i_or, Bool.and_true, Bool.true_and, Bool.and_false, Bool.false_and, Bool.not_not, nb_non, nb_int, nb_tup, nb_lst, nb_bl, nb_str, tb_non, tb_int, tb_bl, v_add, v_sub, a_add, a_sub, q_int, n_int, q_bl, n_bl, lt_int, gt_int, le_int, ge_int, q_tup, n_tup, q_tup0, n_tup0, q_0tup, q_00, n_0tup, n_00, q_l00, n_l00, q_lst, n_lst, q_lst0, n_lst0, in_tup, ni_tup, in_lst, ni_lst, ix_t, ix_l, ix_r, ix_e, atP_zero, atP_one, atP_two, atP_three, len_t, len_l, len_s, int_i, max2_i, min2_i, lt_tup, decide_true, decide_false, Int.reduceLE, Int.reduceLT, Int.reduceToNat, List.getElem?_cons_zero, List.getElem?_cons_succ, List.set_cons_zero, List.set_cons_succ, List.length_map, it_lst, it_tup, augV, small_of (show (2:Int).natAbs < 18446744073709551616 from by decide), Bool.or_true]
    exact .nx ⟨⟨_, rfl⟩, rfl⟩
  · rintro σ ⟨t, rfl⟩
    simp only [bind_ok, liftS_ok, op1_some, andThen_nx, andThen_rt, andThen_bk, fin_rt, fin_nx, asB_bl, getS_zero, getS_succ, getS_nil, setS_zero, setS_succ, clr_zero, clr_succ, rd_true, rd_val, rd_int, rd_tup, rd_bl, rd_str, rd_non, rd_ref, rd_fn, rd_exc, bindT_nm, bindT_tp, setAll_nil, setAll_cons, putAllS_nil, putAllS_cons, kTup, kLst, kBox, kBin2, kBin1, kNeg, kBl, kNot, kCmp2, kCmp1, kCh4, kCh3, kCh2, kCh1, kIsN, kNotN, kIsT, kNotT, kIfe, kIdx2, kIdx1, kOpt, kSl3, kSl2, kSl1, kRev, kCall, kCd2, kCd1, kBi, kBit2, kBit1, kIsin, kItems, kElt2, kElt1, cF, kComp, kEs2, kEs1, kAnd, kOr, kRng2, kRng1, kEn2, kEn1, e_var, e_k, e_glob, e_fnv, e_tup, e_lst, e_box, e_bin, e_neg, e_and, e_or, e_not, e_cmp, e_chain, e_isN, e_notN, e_isT, e_notT, e_ife, e_idx, e_slice, e_rev, e_call, e_calld, e_bi, e_bit, e_isin, e_comp, e_range, e_enum, es_nil, es_cons, and_nil, and_cons, or_nil, or_cons, kVal, kMv, kRs2, kRs1, kAsg, optS, kAsgT, kPar, kSet3, set2, kSet1, kApp, app2, pop2, kAug, aug2, kExpr, kIff, wC, fB, kFor, kRet, rh_var, rh_e, rv_val, rv_int, rv_tup, rv_bl, rv_str, rv_non, rv_ref, rv_fn, rv_exc, rv_ownL, rv_ownD, rr_nil, rr_cons, x_asg, x_asgT, x_par, x_setI, x_app, x_pop, x_aug, x_expr, x_frz, x_iff, x_whl, x_for, x_ret, x_retN, x_brk, x_pass, x_never, xs_nil, xs_cons, frE, cont, held, freeze, startS, List.map_cons, List.map_nil, List.replicate, List.cons_append, List.nil_append, List.append_nil, List.length_cons, List.length_nil, List.head?_cons, List.head?_nil, ↓reduceIte, Nat.reduceAdd, Nat.reduceSub, Nat.reduceEqDiff, reduceCtorEq, and_true, true_and, and_false, false_and, or_true, true_or, or_false, false_or, not_true_eq_false, not_false_eq_true, Bool.not_true, Bool.not_false, Bool.false_eq_true, Bool.true_eq_false, ne_eq, if_true, if_false, eq_self, deref, items, seqs, isOk, isinV, List.any_cons, List.any_nil, Bool.or_false, Bool.false_or, Bool.or_true, Bool.true_or, bitIn, bitV, optInt, implies_true, Option.map_some, Option.map_none, forall_const, PV.int.injEq, PV.bl.injEq, and_self, or_self, Int.reduceNeg, Int.reduceSub, Int.reduceAdd, Option.some.injEq, i_bl, i_and, i_or, Bool.and_true, Bool.true_and, Bool.and_false, Bool.false_and, Bool.not_not, nb_non, nb_int, nb_tup, nb_lst, nb_bl, nb_str, tb_non, tb_int, tb_bl, v_add, v_sub, a_add, a_sub, q_int, n_int, q_bl, n_bl, lt_int, gt_int, le_int, ge_int, q_tup, n_tup, q_tup0, n_tup0, q_0tup, q_00, n_0tup, n_00, q_l00, n_l00, q_lst, n_lst, q_lst0, n_lst0, in_tup, ni_tup, in_lst, ni_lst, ix_t, ix_l, ix_r, ix_e, atP_zero, atP_one, atP_two, atP_three, len_t, len_l, len_s, int_i, max2_i, min2_i, lt_tup, decide_true, decide_false, Int.reduceLE, Int.reduceLT, Int.reduceToNat, List.getElem?_cons_zero, List.getElem?_cons_succ, List.set_cons_zero, List.set_cons_succ, List.length_map, it_lst, it_tup]
    have h : ∀ (n : Nat) (l a : Int), (rg l n).foldl (fun a _ => a * 2) a = a * 2 ^ n := by
      intro n
      induction n with
      | zero => intro l a; simp [rg_zero]
      | succ n ih => intro l a; rw [rg_succ, List.foldl_cons, ih, Int.pow_succ]; rw [Int.mul_assoc, Int.mul_comm 2]
    show fin _ = _
    rw [h, Int.one_mul]
    rfl
theorem m_need_many (k : Nat) (n l : Int) (S : St) (h : l ≤ n) (h2 : n ≤ 40) : cl T gv (k+2) 135 [.int n, .int l] S = .ok .non S := by
  refine callF_sat (d := d_need_many) rfl rfl ?_
  simp only [d_need_many, bind_ok, liftS_ok, op1_some, andThen_nx, andThen_rt, andThen_bk, fin_rt, fin_nx, asB_bl, getS_zero, getS_succ, getS_nil, setS_zero, setS_succ, clr_zero, clr_succ, rd_true, rd_val, rd_int, rd_tup, rd_bl, rd_str, rd_non, rd_ref, rd_fn, rd_exc, bindT_nm, bindT_tp, setAll_nil, setAll_cons, putAllS_nil, putAllS_cons, kTup, kLst, kBox, kBin2, kBin1, kNeg, kBl, kNot, kCmp2, kCmp1, kCh4, kCh3, kCh2, kCh1, kIsN, kNotN, kIsT, kNotT, kIfe, kIdx2, kIdx1, kOpt, kSl3, kSl2, kSl1, kRev, kCall, kCd2, kCd1, kBi, kBit2, kBit1, kIsin, kItems, kElt2, kElt1, cF, kComp, kEs2, kEs1, kAnd, kOr, kRng2, kRng1, kEn2, kEn1, e_var, e_k, e_glob, e_fnv, e_tup, e_lst, e_box, e_bin, e_neg, e_and, e_or, e_not, e_cmp, e_chain, e_isN, e_notN, e_isT, e_notT, e_ife, e_idx, e_slice, e_rev, e_call, e_calld, e_bi, e_bit, e_isin, e_comp, e_range, e_enum, es_nil, es_cons, and_nil, and_cons, or_nil, or_cons, kVal, kMv, kRs2, kRs1, kAsg, optS, kAsgT, kPar, kSet3, set2, kSet1, kApp, app2, pop2, kAug, aug2, kExpr, kIff, wC, fB, kFor, kRet, rh_var, rh_e, rv_val, rv_int, rv_tup, rv_bl, rv_str, rv_non, rv_ref, rv_fn, rv_exc, rv_ownL, rv_ownD, rr_nil, rr_cons, x_asg, x_asgT, x_par, x_setI, x_app, x_pop, x_aug, x_expr, x_frz, x_iff, x_whl, x_for, x_ret, x_retN, x_brk, x_pass, x_never, xs_nil, xs_cons, frE, cont, held, freeze, startS, List.map_cons, List.map_nil, List.replicate, List.cons_append, List.nil_append, List.append_nil, List.length_cons, List.length_nil, List.head?_cons, List.head?_nil, ↓reduceIte, Nat.reduceAdd, Nat.reduceSub, Nat.reduceEqDiff, reduceCtorEq, and_true, true_and, and_false, false_and, or_true, true_or, or_false, false_or, not_true_eq_false, not_false_eq_true, Bool.not_true, Bool.not_false, Bool.false_eq_true, Bool.true_eq_false, ne_eq, if_true, if_false, eq_self, deref, items, seqs, isOk, isinV, List.any_cons, List.any_nil, Bool.or_false, Bool.false_or, Bool.or_true, Bool.true_or, bitIn, bitV, optInt, implies_true, Option.map_some, Option.map_none, forall_const, PV.int.injEq, PV.bl.injEq, and_self, or_self, Int.reduceNeg, Int.reduceSub, Int.reduceAdd, Option.some.injEq, i_bl, i_and, i_or, Bool.and_true, Bool.true_and, Bool.and_false, Bool.false_and, Bool.not_not, nb_non, nb_int, nb_tup, nb_lst, nb_bl, nb_str, tb_non, tb_int, tb_bl, v_add, v_sub, a_add, a_sub, q_int, n_int, q_bl, n_bl, lt_int, gt_int, le_int, ge_int, q_tup, n_tup, q_tup0, n_tup0, q_0tup, q_00, n_0tup, n_00, q_l00, n_l00, q_lst, n_lst, q_lst0, n_lst0, in_tup, ni_tup, in_lst, ni_lst, ix_t, ix_l, ix_r, ix_e, atP_zero, atP_one, atP_two, atP_three, len_t, len_l, len_s, int_i, max2_i, min2_i, lt_tup, decide_true, decide_false, Int.reduceLE, Int.reduceLT, Int.reduceToNat, List.getElem?_cons_zero, List.getElem?_cons_succ, List.set_cons_zero, List.set_cons_succ, List.length_map, it_lst, it_tup, gv, m_is_in, h, h2]
  rfl
theorem pw_get {b : List Int} (h : b.Pairwise (· < ·)) {i j : Nat} {x y : Int} (hi : b[i]? = some x) (hj : b[j]? = some y) (hij : i < j) : x < y := by
  obtain ⟨h1, e1⟩ := List.getElem?_eq_some_iff.mp hi
  obtain ⟨h2, e2⟩ := List.getElem?_eq_some_iff.mp hj
  rw [← e1, ← e2]
  exact List.pairwise_iff_getElem.mp h i j h1 h2 hij
theorem zip_split {X : Type} {l : List X} {m r : List (X × Nat)} {x : X} {i : Nat} (h : l.zipIdx = m ++ (x, i) :: r) : l[i]? = some x ∧ i = m.length := by
  have h1 : l.zipIdx[m.length]? = some (x, i) := by rw [h]; simp
  rw [List.getElem?_zipIdx] at h1
  cases e : l[m.length]? with
  | none => rw [e] at h1; cases h1
  | some y =>
    rw [e] at h1
    simp only [Option.map_some, Nat.zero_add, Option.some.injEq, Prod.mk.injEq] at h1
    obtain ⟨rfl, rfl⟩ := h1
    exact ⟨e, rfl⟩
theorem m_need_burning (k : Nat) (n : Int) (b : List Int) (S : St) (h : Stand n b) : cl T gv (k+2) 136 [.int n, .tup (b.map .int)] S = .ok .non S := by
  refine callF_sat (d := d_need_burning_) rfl rfl ?_
  simp only [d_need_burning_, bind_ok, liftS_ok, op1_some, andThen_nx, andThen_rt, andThen_bk, fin_rt, fin_nx, asB_bl, getS_zero, getS_succ, getS_nil, setS_zero, setS_succ, clr_zero, clr_succ, rd_true, rd_val, rd_int, rd_tup, rd_bl, rd_str, rd_non, rd_ref, rd_fn, rd_exc, bindT_nm, bindT_tp, setAll_nil, setAll_cons, putAllS_nil, putAllS_cons, kTup, kLst, kBox, kBin2, kBin1, kNeg, kBl, kNot, kCmp2, kCmp1, kCh4, kCh3, kCh2, kCh1, kIsN, kNotN, kIsT, kNotT, kIfe, kIdx2, kIdx1, kOpt, kSl3, kSl2, kSl1, kRev, kCall, kCd2, kCd1, kBi, kBit2, kBit1, kIsin, kItems, kElt2, kElt1, cF, kComp, kEs2, kEs1, kAnd, kOr, kRng2, kRng1, kEn2, kEn1, e_var, e_k, e_glob, e_fnv, e_tup, e_lst, e_box, e_bin, e_neg, e_and, e_or, e_not, e_cmp, e_chain, e_isN, e_notN, e_isT, e_notT, e_ife, e_idx, e_slice, e_rev, e_call, e_calld, e_bi, e_bit, e_isin, e_comp, e_range, e_enum, es_nil, es_cons, and_nil, and_cons, or_nil, or_cons, kVal, kMv, kRs2, kRs1, kAsg, optS, kAsgT, kPar, kSet3, set2, kSet1, kApp, app2, pop2, kAug, aug2, kExpr, kIff, wC, fB, kFor, kRet, rh_var, rh_e, rv_val, rv_int, rv_tup, rv_bl, rv_str, rv_non, rv_ref, rv_fn, rv_exc, rv_ownL, rv_ownD, rr_nil, rr_cons, x_asg, x_asgT, x_par, x_setI, x_app, x_pop, x_aug, x_expr, x_frz, x_iff, x_whl, x_for, x_ret, x_retN, x_brk, x_pass, x_never, xs_nil, xs_cons, frE, cont, held, freeze, startS, List.map_cons, List.map_nil, List.replicate, List.cons_append, List.nil_append, List.append_nil, List.length_cons, List.length_nil, List.head?_cons, List.head?_nil, ↓reduceIte, Nat.reduceAdd, Nat.reduceSub, Nat.reduceEqDiff, reduceCtorEq, and_true, true_and, and_false, false_and, or_true, true_or, or_false, false_or, not_true_eq_false, not_false_eq_true, Bool.not_true, Bool.not_false, Bool.false_eq_true, Bool.true_eq_false, ne_eq, if_true, if_false, eq_self, deref, items, seqs, isOk, isinV, List.any_cons, List.any_nil, Bool.or_false, Bool.false_or, Bool.or_true, Bool.true_or, bitIn, bitV, optInt, implies_true, Option.map_some, Option.map_none, forall_const, PV.int.injEq, PV.bl.injEq, and_self, or_self, Int.reduceNeg, Int.reduceSub, Int.reduceAdd, Option.some.injEq, i_bl, i_and, i_or, Bool.and_true, Bool.true_and, Bool.and_false, Bool.false_and, Bool.not_not, nb_non, nb_int, nb_tup, nb_lst, nb_bl, nb_str, tb_non, tb_int, tb_bl, v_add, v_sub, a_add, a_sub, q_int, n_int, q_bl, n_bl, lt_int, gt_int, le_int, ge_int, q_tup, n_tup, q_tup0, n_tup0, q_0tup, q_00, n_0tup, n_00, q_l00, n_l00, q_lst, n_lst, q_lst0, n_lst0, in_tup, ni_tup, in_lst, ni_lst, ix_t, ix_l, ix_r, ix_e, atP_zero, atP_one, atP_two, atP_three, len_t, len_l, len_s, int_i, max2_i, min2_i, lt_tup, decide_true, decide_false, Int.reduceLE, Int.reduceLT, Int.reduceToNat, List.getElem?_cons_zero, List.getElem?_cons_succ, List.set_cons_zero, List.set_cons_succ, List.length_map, it_lst, it_tup, enum_map]
  refine for_sat (fun p : Int × Nat => PV.tup [.int (p.2 : Int), .int p.1]) (fun _ σ S' => S' = S ∧ ∃ t u, σ = [some (Tag.bor, PV.int n), some (Tag.bor, PV.tup (b.map .int)), t, u]) ⟨rfl, _, _, rfl⟩ ?_ ?_
  · rintro m ⟨x, i⟩ r σ S' e ⟨rfl, t, u, rfl⟩
    obtain ⟨hx, hi⟩ := zip_split e
    have hm := h.2 x (List.mem_of_getElem? hx)
    simp only [b_need_burning__1, bind_ok, liftS_ok, op1_some, andThen_nx, andThen_rt, andThen_bk, fin_rt, fin_nx, asB_bl, getS_zero, getS_succ, getS_nil, setS_zero, setS_succ, clr_zero, clr_succ, rd_true, rd_val, rd_int, rd_tup, rd_bl, rd_str, rd_non, rd_ref, rd_fn, rd_exc, bindT_nm, bindT_tp, setAll_nil, setAll_cons, putAllS_nil, putAllS_cons, kTup, kLst, kBox, kBin2, kBin1, kNeg, kBl, kNot, kCmp2, kCmp1, kCh4, kCh3, kCh2, kCh1, kIsN, kNotN, kIsT, kNotT, kIfe, kIdx2, kIdx1, kOpt, kSl3, kSl2, kSl1, kRev, kCall, kCd2, kCd1, kBi, kBit2, kBit1, kIsin, kItems, kElt2, kElt1, cF, kComp, kEs2, kEs1, kAnd, kOr, kRng2, kRng1, kEn2, kEn1, e_var, e_k, e_glob, e_fnv, e_tup, e_lst, e_box, e_bin, e_neg, e_and, e_or, e_not, e_cmp, e_chain, e_isN, e_notN, e_isT, e_notT, e_ife, e_idx, e_slice, e_rev, e_call, e_calld, e_bi, e_bit, e_isin, e_comp, e_range, e_enum, es_nil, es_cons, and_nil, and_cons, or_nil, or_cons, kVal, kMv, kRs2, kRs1, kAsg, optS, kAsgT, kPar, kSet3, set2, kSet1, kApp, app2, pop2, kAug, aug2, kExpr, kIff, wC, fB, kFor, kRet, rh_var, rh_e, rv_val, rv_int, rv_tup, rv_bl, rv_str, rv_non, rv_ref, rv_fn, rv_exc, rv_ownL, rv_ownD, rr_nil, rr_cons, x_asg, x_asgT, x_par, x_setI, x_app, x_pop, x_aug, x_expr, x_frz, x_iff, x_whl, x_for, x_ret, x_retN, x_brk, x_pass, x_never, xs_nil, xs_cons, frE, cont, held, freeze, startS, List.map_cons, List.map_nil, List.replicate, List.cons_append, List.nil_append, List.append_nil, List.length_cons, List.length_nil, List.head?_cons, List.head?_nil, ↓reduceIte, Nat.reduceAdd, Nat.reduceSub, Nat.reduceEqDiff, reduceCtorEq, and_true, true_and, and_false, false_and, or_true, true_or, or_false, false_or, not_true_eq_false, not_false_eq_true, Bool.not_true, Bool.not_false, Bool.false_eq_true, Bool.true_eq_false, ne_eq, if_true, if_false, eq_self, deref, items, seqs, isOk, isinV, List.any_cons, List.any_nil, Bool.or_false, Bool.false_or, Bool.or_true, Bool.true_or, bitIn, bitV, optInt, implies_true, Option.map_some, Option.map_none, forall_const, PV.int.injEq, PV.bl.injEq, and_self, or_self, Int.reduceNeg, Int.reduceSub, Int.reduceAdd, Option.some.injEq, i_bl, i_and, i_or, Bool.and_true, Bool.true_and, Bool.and_false, Bool.false_and, Bool.not_not, nb_non, nb_int, nb_tup, nb_lst, nb_bl, nb_str, tb_non, tb_int, tb_bl, v_add, v_sub, a_add, a_sub, q_int, n_int, q_bl, n_bl, lt_int, gt_int, le_int, ge_int, q_tup, n_tup, q_tup0, n_tup0, q_0tup, q_00, n_0tup, n_00, q_l00, n_l00, q_lst, n_lst, q_lst0, n_lst0, in_tup, ni_tup, in_lst, ni_lst, ix_t, ix_l, ix_r, ix_e, atP_zero, atP_one, atP_two, atP_three, len_t, len_l, len_s, int_i, max2_i, min2_i, lt_tup, decide_true, decide_false, Int.reduceLE, Int.reduceLT, Int.reduceToNat, List.getElem?_cons_zero, List.getElem?_cons_succ, List.set_cons_zero, List.set_cons_succ, List.length_map, it_lst, it_tup, m_is_in, hm.1, show x ≤ n - 1 by omega]
    by_cases h0 : 0 < i
    · have hp : b[i - 1]? = some (b[i-1]'(by have := (List.getElem?_eq_some_iff.mp hx).1; omega)) := List.getElem?_eq_getElem _
      have hlt := pw_get h.1 hp hx (by omega)
      have ha : atP (b.map .int) ((i : Int) - 1) = some (.int (b[i-1]'(by have := (List.getElem?_eq_some_iff.mp hx).1; omega))) := atP_map (by omega) (by rw [show ((i : Int) - 1).toNat = i - 1 by omega]; exact hp)
      simp only [bind_ok, liftS_ok, op1_some, andThen_nx, andThen_rt, andThen_bk, fin_rt, fin_nx, asB_bl, getS_zero, getS_succ, getS_nil, setS_zero, setS_succ, clr_zero, clr_succ, rd_true, rd_val, rd_int, rd_tup, rd_bl, rd_str, rd_non, rd_ref, rd_fn, rd_exc, bindT_nm, bindT_tp, setAll_nil, setAll_cons, putAllS_nil, putAllS_cons, kTup, kLst, kBox, kBin2, kBin1, kNeg, kBl, kNot, kCmp2, kCmp1, kCh4, kCh3, kCh2, kCh1, kIsN, kNotN, kIsT, kNotT, kIfe, kIdx2, kIdx1, kOpt, kSl3, kSl2, kSl1, kRev, kCall, kCd2, kCd1, kBi, kBit2, kBit1, kIsin, kItems, kElt2, kElt1, cF, kComp, kEs2, kEs1, kAnd, kOr, kRng2, kRng1, kEn2, kEn1, e_var, e_k, e_glob, e_fnv, e_tup, e_lst, e_box, e_bin, e_neg, e_and, e_or, e_not, e_cmp, e_chain, e_isN, e_notN, e_isT, e_notT, e_ife, e_idx, e_slice, e_rev, e_call, e_calld, e_bi, e_bit, e_isin, e_comp, e_range, e_enum, es_nil, es_cons, and_nil, and_cons, or_nil, or_cons, kVal, kMv, kRs2, kRs1, kAsg, optS, kAsgT, kPar, kSet3, set2, kSet1, kApp, app2, pop2, kAug, aug2, kExpr, kIff, wC, fB, kFor, kRet, rh_var, rh_e, rv_val, rv_int, rv_tup, rv_bl, rv_str, rv_non, rv_ref, rv_fn, rv_exc, rv_ownL, rv_ownD, rr_nil, rr_cons, x_asg, x_asgT, x_par, x_setI, x_app, x_pop, x_aug, x_expr, x_frz, x_iff, x_whl, x_for, x_ret, x_retN, x_brk, x_pass, x_never, xs_nil, xs_cons, frE, cont, held, freeze, startS, List.map_cons, List.map_nil, List.replicate, List.cons_append, List.nil_append, List.append_nil, List.length_cons, List.length_nil, List.head?_cons, List.head?_nil, ↓reduceIte, Nat.reduceAdd, Nat.reduceSub, Nat.reduceEqDiff, reduceCtorEq, and_true, true_and, and_false, false_and, or_true, true_or, or_false, false_or, not_true_eq_false, not_false_eq_true, Bool.not_true, Bool.not_false, Bool.false_eq_true, Bool.true_eq_false, ne_eq, if_true, if_false, eq_self, deref, items, seqs, isOk, isinV, List.any_cons, List.any_nil, Bool.or_false, Bool.false_or, Bool.or_true, Bool.true_or, bitIn, bitV, optInt, implies_true, Option.map_some, Option.map_none, forall_const, PV.int.injEq, PV.bl.injEq, and_self, or_self, Int.reduceNeg, Int.reduceSub, Int.reduceAdd, Option.some.injEq, i_bl, i_and, i_or, Bool.and_true, Bool.true_and, Bool.and_false, Bool.false_and, Bool.not_not, nb_non, nb_int, nb_tup, nb_lst, nb_bl, nb_str, tb_non, tb_int, tb_bl, v_add, v_sub, a_add, a_sub, q_int, n_int, q_bl, n_bl, lt_int, gt_int, le_int, ge_int, q_tup, n_tup, q_tup0, n_tup0, q_0tup, q_00, n_0tup, n_00, q_l00, n_l00, q_lst, n_lst, q_lst0, n_lst0, in_tup, ni_tup, in_lst, ni_lst, ix_t, ix_l, ix_r, ix_e, atP_zero, atP_one, atP_two, atP_three, len_t, len_l, len_s, int_i, max2_i, min2_i, lt_tup, decide_true, decide_false, Int.reduceLE, Int.reduceLT, Int.reduceToNat, List.getElem?_cons_zero, List.getElem?_cons_succ, List.set_cons_zero, List.set_cons_succ, List.length_map, it_lst, it_tup, show (0 : Int) < (i : Int) by omega, ha, show ¬ x ≤ b[i-1]'(by have := (List.getElem?_eq_some_iff.mp hx).1; omega) by omega]
      exact .nx ⟨rfl, _, _, rfl⟩
    · simp only [bind_ok, liftS_ok, op1_some, andThen_nx, andThen_rt, andThen_bk, fin_rt, fin_nx, asB_bl, getS_zero, getS_succ, getS_nil, setS_zero, setS_succ, clr_zero, clr_succ, rd_true, rd_val, rd_int, rd_tup, rd_bl, rd_str, rd_non, rd_ref, rd_fn, rd_exc, bindT_nm, bindT_tp, setAll_nil, setAll_cons, putAllS_nil, putAllS_cons, kTup, kLst, kBox, kBin2, kBin1, kNeg, kBl, kNot, kCmp2, kCmp1, kCh4, kCh3, kCh2, kCh1, kIsN, kNotN, kIsT, kNotT, kIfe, kIdx2, kIdx1, kOpt, kSl3, kSl2, kSl1, kRev, kCall, kCd2, kCd1, kBi, kBit2, kBit1, kIsin, kItems, kElt2, kElt1, cF, kComp, kEs2, kEs1, kAnd, kOr, kRng2, kRng1, kEn2, kEn1, e_var, e_k, e_glob, e_fnv, e_tup, e_lst, e_box, e_bin, e_neg, e_and, e_or, e_not, e_cmp, e_chain, e_isN, e_notN, e_isT, e_notT, e_ife, e_idx, e_slice, e_rev, e_call, e_calld, e_bi, e_bit, e_isin, e_comp, e_range, e_enum, es_nil, es_cons, and_nil, and_cons, or_nil, or_cons, kVal, kMv, kRs2, kRs1, kAsg, optS, kAsgT, kPar, kSet3, set2, kSet1, kApp, app2, pop2, kAug, aug2, kExpr, kIff, wC, fB, kFor, kRet, rh_var, rh_e, rv_val, rv_int, rv_tup, rv_bl, rv_str, rv_non, rv_ref, rv_fn, rv_exc, rv_ownL, rv_ownD, rr_nil, rr_cons, x_asg, x_asgT, x_par, x_setI, x_app, x_pop, x_aug, x_expr, x_frz, x_iff, x_whl, x_for, x_ret, x_retN, x_brk, x_pass, x_never, xs_nil, xs_cons, frE, cont, held, freeze, startS, List.map_cons, List.map_nil, List.replicate, List.cons_append, List.nil_append, List.append_nil, List.length_cons, List.length_nil, List.head?_cons, List.head?_nil, ↓reduceIte, Nat.reduceAdd, Nat.reduceSub, Nat.reduceEqDiff, reduceCtorEq, and_true, true_and, and_false, false_and, or_true, true_or, or_false, false_or, not_true_eq_false, not_false_eq_true, Bool.not_true, Bool.not_false, Bool.false_eq_true, Bool.true_eq_false, ne_eq, if_true, if_false, eq_self, deref, items, seqs, isOk, isinV, List.any_cons, List.any_nil, Bool.or_false, Bool.false_or, Bool.or_true, Bool.true_or, bitIn, bitV, optInt, implies_true, Option.map_some, Option.map_none, forall_const, PV.int.injEq, PV.bl.injEq, and_self, or_self, Int.reduceNeg, Int.reduceSub, Int.reduceAdd, Option.some.injEq, i_bl, i_and, i_or, Bool.and_true, Bool.true_and, Bool.and_false, Bool.false_and, Bool.not_not, nb_non, nb_int, nb_tup, nb_lst, nb_bl, nb_str, tb_non, tb_int, tb_bl, v_add, v_sub, a_add, a_sub, q_int, n_int, q_bl, n_bl, lt_int, gt_int, le_int, ge_int, q_tup, n_tup, q_tup0, n_tup0, q_0tup, q_00, n_0tup, n_00, q_l00, n_l00, q_lst, n_lst, q_lst0, n_lst0, in_tup, ni_tup, in_lst, ni_lst, ix_t, ix_l, ix_r, ix_e, atP_zero, atP_one, atP_two, atP_three, len_t, len_l, len_s, int_i, max2_i, min2_i, lt_tup, decide_true, decide_false, Int.reduceLE, Int.reduceLT, Int.reduceToNat, List.getElem?_cons_zero, List.getElem?_cons_succ, List.set_cons_zero, List.set_cons_succ, List.length_map, it_lst, it_tup, show ¬ (0 : Int) < (i : Int) by omega]
      exact .nx ⟨rfl, _, _, rfl⟩
  · rintro σ S' ⟨rfl, t, u, rfl⟩
    simp only [bind_ok, liftS_ok, op1_some, andThen_nx, andThen_rt, andThen_bk, fin_rt, fin_nx, asB_bl, getS_zero, getS_succ, getS_nil, setS_zero, setS_succ, clr_zero, clr_succ, rd_true, rd_val, rd_int, rd_tup, rd_bl, rd_str, rd_non, rd_ref, rd_fn, rd_exc, bindT_nm, bindT_tp, setAll_nil, setAll_cons, putAllS_nil, putAllS_cons, kTup, kLst, kBox, kBin2, kBin1, kNeg, kBl, kNot, kCmp2, kCmp1, kCh4, kCh3, kCh2, kCh1, kIsN, kNotN, kIsT, kNotT, kIfe, kIdx2, kIdx1, kOpt, kSl3, kSl2, kSl1, kRev, kCall, kCd2, kCd1, kBi, kBit2, kBit1, kIsin, kItems, kElt2, kElt1, cF, kComp, kEs2, kEs1, kAnd, kOr, kRng2, kRng1, kEn2, kEn1, e_var, e_k, e_glob, e_fnv, e_tup, e_lst, e_box, e_bin, e_neg, e_and, e_or, e_not, e_cmp, e_chain, e_isN, e_notN, e_isT, e_notT, e_ife, e_idx, e_slice, e_rev, e_call, e_calld, e_bi, e_bit, e_isin, e_comp, e_range, e_enum, es_nil, es_cons, and_nil, and_cons, or_nil, or_cons, kVal, kMv, kRs2, kRs1, kAsg, optS, kAsgT, kPar, kSet3, set2, kSet1, kApp, app2, pop2, kAug, aug2, kExpr, kIff, wC, fB, kFor, kRet, rh_var, rh_e, rv_val, rv_int, rv_tup, rv_bl, rv_str, rv_non, rv_ref, rv_fn, rv_exc, rv_ownL, rv_ownD, rr_nil, rr_cons, x_asg, x_asgT, x_par, x_setI, x_app, x_pop, x_aug, x_expr, x_frz, x_iff, x_whl, x_for, x_ret, x_retN, x_brk, x_pass, x_never, xs_nil, xs_cons, frE, cont, held, freeze, startS, List.map_cons, List.map_nil, List.replicate, List.cons_append, List.nil_append, List.append_nil, List.length_cons, List.length_nil, List.head?_cons, List.head?_nil, ↓reduceIte, Nat.reduceAdd, Nat.reduceSub, Nat.reduceEqDiff, reduceCtorEq, and_true, true_and, and_false, false_and, or_true, true_or, or_false, false_or, not_true_eq_false, not_false_eq_true, Bool.not_true, Bool.not_false, Bool.false_eq_true, Bool.true_eq_false, ne_eq, if_true, if_false, eq_self, deref, items, seqs, isOk, isinV, List.any_cons, List.any_nil, Bool.or_false, Bool.false_or, Bool.or_true, Bool.true_or, bitIn, bitV, optInt, implies_true, Option.map_some, Option.map_none, forall_const, PV.int.injEq, PV.bl.injEq, and_self, or_self, Int.reduceNeg, Int.reduceSub, Int.reduceAdd, Option.some.injEq, i_bl, i_and, i_or, Bool.and_true, Bool.true_and, Bool.and_false, Bool.false_and, Bool.not_not, nb_non, nb_int, nb_tup, nb_lst, nb_bl, nb_str, tb_non, tb_int, tb_bl, v_add, v_sub, a_add, a_sub, q_int, n_int, q_bl, n_bl, lt_int, gt_int, le_int, ge_int, q_tup, n_tup, q_tup0, n_tup0, q_0tup, q_00, n_0tup, n_00, q_l00, n_l00, q_lst, n_lst, q_lst0, n_lst0, in_tup, ni_tup, in_lst, ni_lst, ix_t, ix_l, ix_r, ix_e, atP_zero, atP_one, atP_two, atP_three, len_t, len_l, len_s, int_i, max2_i, min2_i, lt_tup, decide_true, decide_false, Int.reduceLE, Int.reduceLT, Int.reduceToNat, List.getElem?_cons_zero, List.getElem?_cons_succ, List.set_cons_zero, List.set_cons_succ, List.length_map, it_lst, it_tup]
    rfl
/-- whether a standing of a row can come from another one -/
def rowComes (a b : List Int) : Bool := if a = [] ∨ b = [] then decide (a = b) else decide (hd a ≤ hd b) && decide (la a ≤ la b)
theorem m_row_comes (k : Nat) (a b : List Int) (S : St) : cl T gv (k+1) 137 [.tup (a.map .int), .tup (b.map .int)] S = .ok (.bl (rowComes a b)) S := by
  refine callF_sat (d := d_row_comes) rfl rfl ?_
  simp only [d_row_comes, bind_ok, liftS_ok, op1_some, andThen_nx, andThen_rt, andThen_bk, fin_rt, fin_nx, asB_bl, getS_zero, getS_succ, getS_nil, setS_zero, setS_succ, clr_zero, clr_succ, rd_true, rd_val, rd_int, rd_tup, rd_bl, rd_str, rd_non, rd_ref, rd_fn, rd_exc, bindT_nm, bindT_tp, setAll_nil, setAll_cons, putAllS_nil, putAllS_cons, kTup, kLst, kBox, kBin2, kBin1, kNeg, kBl, kNot, kCmp2, kCmp1, kCh4, kCh3, kCh2, kCh1, kIsN, kNotN, kIsT, kNotT, kIfe, kIdx2, kIdx1, kOpt, kSl3, kSl2, kSl1, kRev, kCall, kCd2, kCd1, kBi, kBit2, kBit1, kIsin, kItems, kElt2, kElt1, cF, kComp, kEs2, kEs1, kAnd, kOr, kRng2, kRng1, kEn2, kEn1, e_var, e_k, e_glob, e_fnv, e_tup, e_lst, e_box, e_bin, e_neg, e_and, e_or, e_not, e_cmp, e_chain, e_isN, e_notN, e_isT, e_notT, e_ife, e_idx, e_slice, e_rev, e_call, e_calld, e_bi, e_bit, e_isin, e_comp, e_range, e_enum, es_nil, es_cons, and_nil, and_cons, or_nil, or_cons, kVal, kMv, kRs2, kRs1, kAsg, optS, kAsgT, kPar, kSet3, set2, kSet1, kApp, app2, pop2, kAug, aug2, kExpr, kIff, wC, fB, kFor, kRet, rh_var, rh_e, rv_val, rv_int, rv_tup, rv_bl, rv_str, rv_non, rv_ref, rv_fn, rv_exc, rv_ownL, rv_ownD, rr_nil, rr_cons, x_asg, x_asgT, x_par, x_setI, x_app, x_pop, x_aug, x_expr, x_frz, x_iff, x_whl, x_for, x_ret, x_retN, x_brk, x_pass, x_never, xs_nil, xs_cons, frE, cont, held, freeze, startS, List.map_cons, List.map_nil, List.replicate, List.cons_append, List.nil_append, List.append_nil, List.length_cons, List.length_nil, List.head?_cons, List.head?_nil, ↓reduceIte, Nat.reduceAdd, Nat.reduceSub, Nat.reduceEqDiff, reduceCtorEq, and_true, true_and, and_false, false_and, or_true, true_or, or_false, false_or, not_true_eq_false, not_false_eq_true, Bool.not_true, Bool.not_false, Bool.false_eq_true, Bool.true_eq_false, ne_eq, if_true, if_false, eq_self, deref, items, seqs, isOk, isinV, List.any_cons, List.any_nil, Bool.or_false, Bool.false_or, Bool.or_true, Bool.true_or, bitIn, bitV, optInt, implies_true, Option.map_some, Option.map_none, forall_const, PV.int.injEq, PV.bl.injEq, and_self, or_self, Int.reduceNeg, Int.reduceSub, Int.reduceAdd, Option.some.injEq, i_bl, i_and, i_or, Bool.and_true, Bool.true_and, Bool.and_false, Bool.false_and, Bool.not_not, nb_non, nb_int, nb_tup, nb_lst, nb_bl, nb_str, tb_non, tb_int, tb_bl, v_add, v_sub, a_add, a_sub, q_int, n_int, q_bl, n_bl, lt_int, gt_int, le_int, ge_int, q_tup, n_tup, q_tup0, n_tup0, q_0tup, q_00, n_0tup, n_00, q_l00, n_l00, q_lst, n_lst, q_lst0, n_lst0, in_tup, ni_tup, in_lst, ni_lst, ix_t, ix_l, ix_r, ix_e, atP_zero, atP_one, atP_two, atP_three, len_t, len_l, len_s, int_i, max2_i, min2_i, lt_tup, decide_true, decide_false, Int.reduceLE, Int.reduceLT, Int.reduceToNat, List.getElem?_cons_zero, List.getElem?_cons_succ, List.set_cons_zero, List.set_cons_succ, List.length_map, it_lst, it_tup]
  by_cases ha : a = []
  · subst ha
    simp only [bind_ok, liftS_ok, op1_some, andThen_nx, andThen_rt, andThen_bk, fin_rt, fin_nx, asB_bl, getS_zero, getS_succ, getS_nil, setS_zero, setS_succ, clr_zero, clr_succ, rd_true, rd_val, rd_int, rd_tup, rd_bl, rd_str, rd_non, rd_ref, rd_fn, rd_exc, bindT_nm, bindT_tp, setAll_nil, setAll_cons, putAllS_nil, putAllS_cons, kTup, kLst, kBox, kBin2, kBin1, kNeg, kBl, kNot, kCmp2, kCmp1, kCh4, kCh3, kCh2, kCh1, kIsN, kNotN, kIsT, kNotT, kIfe, kIdx2, kIdx1, kOpt, kSl3, kSl2, kSl1, kRev, kCall, kCd2, kCd1, kBi, kBit2, kBit1, kIsin, kItems, kElt2, kElt1, cF, kComp, kEs2, kEs1, kAnd, kOr, kRng2, kRng1, kEn2, kEn1, e_var, e_k, e_glob, e_fnv, e_tup, e_lst, e_box, e_bin, e_neg, e_and, e_or, e_not, e_cmp, e_chain, e_isN, e_notN, e_isT, e_notT, e_ife, e_idx, e_slice, e_rev, e_call, e_calld, e_bi, e_bit, e_isin, e_comp, e_range, e_enum, es_nil, es_cons, and_nil, and_cons, or_nil, or_cons, kVal, kMv, kRs2, kRs1, kAsg, optS, kAsgT, kPar, kSet3, set2, kSet1, kApp, app2, pop2, kAug, aug2, kExpr, kIff, wC, fB, kFor, kRet, rh_var, rh_e, rv_val, rv_int, rv_tup, rv_bl, rv_str, rv_non, rv_ref, rv_fn, rv_exc, rv_ownL, rv_ownD, rr_nil, rr_cons, x_asg, x_asgT, x_par, x_setI, x_app, x_pop, x_aug, x_expr, x_frz, x_iff, x_whl, x_for, x_ret, x_retN, x_brk, x_pass, x_never, xs_nil, xs_cons, frE, cont, held, freeze, startS, List.map_cons, List.map_nil, List.replicate, List.cons_append, List.nil_append, List.append_nil, List.length_cons, List.length_nil, List.head?_cons, List.head?_nil, ↓reduceIte, Nat.reduceAdd, Nat.reduceSub, Nat.reduceEqDiff, reduceCtorEq, and_true, true_and, and_false, false_and, or_true, true_or, or_false, false_or, not_true_eq_false, not_false_eq_true, Bool.not_true, Bool.not_false, Bool.false_eq_true, Bool.true_eq_false, ne_eq, if_true, if_false, eq_self, deref, items, seqs, isOk, isinV, List.any_cons, List.any_nil, Bool.or_false, Bool.false_or, Bool.or_true, Bool.true_or, bitIn, bitV, optInt, implies_true, Option.map_some, Option.map_none, forall_const, PV.int.injEq, PV.bl.injEq, and_self, or_self, Int.reduceNeg, Int.reduceSub, Int.reduceAdd, Option.some.injEq, i_bl, i_and, i_or, Bool.and_true, Bool.true_and, Bool.and_false, Bool.false_and, Bool.not_not, nb_non, nb_int, nb_tup, nb_lst, nb_bl, nb_str, tb_non, tb_int, tb_bl, v_add, v_sub, a_add, a_sub, q_int, n_int, q_bl, n_bl, lt_int, gt_int, le_int, ge_int, q_tup, n_tup, q_tup0, n_tup0, q_0tup, q_00, n_0tup, n_00, q_l00, n_l00, q_lst, n_lst, q_lst0, n_lst0, in_tup, ni_tup, in_lst, ni_lst, ix_t, ix_l, ix_r, ix_e, atP_zero, atP_one, atP_two, atP_three, len_t, len_l, len_s, int_i, max2_i, min2_i, lt_tup, decide_true, decide_false, Int.reduceLE, Int.reduceLT, Int.reduceToNat, List.getElem?_cons_zero, List.getElem?_cons_succ, List.set_cons_zero, List.set_cons_succ, List.length_map, it_lst, it_tup, rowComes]
    rfl
  · by_cases hb : b = []
    · simp only [ha, hb, bind_ok, liftS_ok, op1_some, andThen_nx, andThen_rt, andThen_bk, fin_rt, fin_nx, asB_bl, getS_zero, getS_succ, getS_nil, setS_zero, setS_succ, clr_zero, clr_succ, rd_true, rd_val, rd_int, rd_tup, rd_bl, rd_str, rd_non, rd_ref, rd_fn, rd_exc, bindT_nm, bindT_tp, setAll_nil, setAll_cons, putAllS_nil, putAllS_cons, kTup, kLst, kBox, kBin2, kBin1, kNeg, kBl, kNot, kCmp2, kCmp1, kCh4, kCh3, kCh2, kCh1, kIsN, kNotN, kIsT, kNotT, kIfe, kIdx2, kIdx1, kOpt, kSl3, kSl2, kSl1, kRev, kCall, kCd2, kCd1, kBi, kBit2, kBit1, kIsin, kItems, kElt2, kElt1, cF, kComp, kEs2, kEs1, kAnd, kOr, kRng2, kRng1, kEn2, kEn1, e_var, e_k, e_glob, e_fnv, e_tup, e_lst, e_box, e_bin, e_neg, e_and, e_or, e_not, e_cmp, e_chain, e_isN, e_notN, e_isT, e_notT, e_ife, e_idx, e_slice, e_rev, e_call, e_calld, e_bi, e_bit, e_isin, e_comp, e_range, e_enum, es_nil, es_cons, and_nil, and_cons, or_nil, or_cons, kVal, kMv, kRs2, kRs1, kAsg, optS, kAsgT, kPar, kSet3, set2, kSet1, kApp, app2, pop2, kAug, aug2, kExpr, kIff, wC, fB, kFor, kRet, rh_var, rh_e, rv_val, rv_int, rv_tup, rv_bl, rv_str, rv_non, rv_ref, rv_fn, rv_exc, rv_ownL, rv_ownD, rr_nil, rr_cons, x_asg, x_asgT, x_par, x_setI, x_app, x_pop, x_aug, x_expr, x_frz, x_iff, x_whl, x_for, x_ret, x_retN, x_brk, x_pass, x_never, xs_nil, xs_cons, frE, cont, held, freeze, startS, List.map_cons, List.map_nil, List.replicate, List.cons_append, List.nil_append, List.append_nil, List.length_cons, List.length_nil, List.head?_cons, List.head?_nil, ↓reduceIte, Nat.reduceAdd, Nat.reduceSub, Nat.reduceEqDiff, reduceCtorEq, and_true, true_and, and_false, false_and, or_true, true_or, or_false, false_or, not_true_eq_false, not_false_eq_true, Bool.not_true, Bool.not_false, Bool.false_eq_true, Bool.true_eq_false, ne_eq, if_true, if_false, eq_self, deref, items, seqs, isOk, isinV, List.any_cons, List.any_nil, Bool.or_false, Bool.false_or, Bool.or_true, Bool.true_or, bitIn, bitV, optInt, implies_true, Option.map_some, Option.map_none, forall_const, PV.int.injEq, PV.bl.injEq, and_self, or_self, Int.reduceNeg, Int.reduceSub, Int.reduceAdd, Option.some.injEq, i_bl, i_and, i_or, Bool.and_true, Bool.true_and, Bool.and_false, Bool.false_and, Bool.not_not, nb_non, nb_int, nb_tup, nb_lst, nb_bl, nb_str, tb_non, tb_int, tb_bl, v_add, v_sub, a_add, a_sub, q_int, n_int, q_bl, n_bl, lt_int, gt_int, le_int, ge_int, q_tup, n_tup, q_tup0, n_tup0, q_0tup, q_00, n_0tup, n_00, q_l00, n_l00, q_lst, n_lst, q_lst0, n_lst0, in_tup, ni_tup, in_lst, ni_lst, ix_t, ix_l, ix_r, ix_e, atP_zero, atP_one, atP_two, atP_three, len_t, len_l, len_s, int_i, max2_i, min2_i, lt_tup, decide_true, decide_false, Int.reduceLE, Int.reduceLT, Int.reduceToNat, List.getElem?_cons_zero, List.getElem?_cons_succ, List.set_cons_zero, List.set_cons_succ, List.length_map, it_lst, it_tup, rowComes]
      rfl
    · simp only [ha, hb, bind_ok, liftS_ok, op1_some, andThen_nx, andThen_rt, andThen_bk, fin_rt, fin_nx, asB_bl, getS_zero, getS_succ, getS_nil, setS_zero, setS_succ, clr_zero, clr_succ, rd_true, rd_val, rd_int, rd_tup, rd_bl, rd_str, rd_non, rd_ref, rd_fn, rd_exc, bindT_nm, bindT_tp, setAll_nil, setAll_cons, putAllS_nil, putAllS_cons, kTup, kLst, kBox, kBin2, kBin1, kNeg, kBl, kNot, kCmp2, kCmp1, kCh4, kCh3, kCh2, kCh1, kIsN, kNotN, kIsT, kNotT, kIfe, kIdx2, kIdx1, kOpt, kSl3, kSl2, kSl1, kRev, kCall, kCd2, kCd1, kBi, kBit2, kBit1, kIsin, kItems, kElt2, kElt1, cF, kComp, kEs2, kEs1, kAnd, kOr, kRng2, kRng1, kEn2, kEn1, e_var, e_k, e_glob, e_fnv, e_tup, e_lst, e_box, e_bin, e_neg, e_and, e_or, e_not, e_cmp, e_chain, e_isN, e_notN, e_isT, e_notT, e_ife, e_idx, e_slice, e_rev, e_call, e_calld, e_bi, e_bit, e_isin, e_comp, e_range, e_enum, es_nil, es_cons, and_nil, and_cons, or_nil, or_cons, kVal, kMv, kRs2, kRs1, kAsg, optS, kAsgT, kPar, kSet3, set2, kSet1, kApp, app2, pop2, kAug, aug2, kExpr, kIff, wC, fB, kFor, kRet, rh_var, rh_e, rv_val, rv_int, rv_tup, rv_bl, rv_str, rv_non, rv_ref, rv_fn, rv_exc, rv_ownL, rv_ownD, rr_nil, rr_cons, x_asg, x_asgT, x_par, x_setI, x_app, x_pop, x_aug, x_expr, x_frz, x_iff, x_whl, x_for, x_ret, x_retN, x_brk, x_pass, x_never, xs_nil, xs_cons, frE, cont, held, freeze, startS, List.map_cons, List.map_nil, List.replicate, List.cons_append, List.nil_append, List.append_nil, List.length_cons, List.length_nil, List.head?_cons, List.head?_nil, ↓reduceIte, Nat.reduceAdd, Nat.reduceSub, Nat.reduceEqDiff, reduceCtorEq, and_true, true_and, and_false, false_and, or_true, true_or, or_false, false_or, not_true_eq_false, not_false_eq_true, Bool.not_true, Bool.not_false, Bool.false_eq_true, Bool.true_eq_false, ne_eq, if_true, if_false, eq_self, deref, items, seqs, isOk, isinV, List.any_cons, List.any_nil, Bool.or_false, Bool.false_or, Bool.or_true, Bool.true_or, bitIn, bitV, optInt, implies_true, Option.map_some, Option.map_none, forall_const, PV.int.injEq, PV.bl.injEq, and_self, or_self, Int.reduceNeg, Int.reduceSub, Int.reduceAdd, Option.some.injEq, i_bl, i_and, i_or, Bool.and_true, Bool.true_and, Bool.and_false, Bool.false_and, Bool.not_not, nb_non, nb_int, nb_tup, nb_lst, nb_bl, nb_str, tb_non, tb_int, tb_bl, v_add, v_sub, a_add, a_sub, q_int, n_int, q_bl, n_bl, lt_int, gt_int, le_int, ge_int, q_tup, n_tup, q_tup0, n_tup0, q_0tup, q_00, n_0tup, n_00, q_l00, n_l00, q_lst, n_lst, q_lst0, n_lst0, in_tup, ni_tup, in_lst, ni_lst, ix_t, ix_l, ix_r, ix_e, atP_zero, atP_one, atP_two, atP_three, len_t, len_l, len_s, int_i, max2_i, min2_i, lt_tup, decide_true, decide_false, Int.reduceLE, Int.reduceLT, Int.reduceToNat, List.getElem?_cons_zero, List.getElem?_cons_succ, List.set_cons_zero, List.set_cons_succ, List.length_map, it_lst, it_tup, rowComes, at_hd ha, at_hd hb, at_la ha, at_la hb]
      rfl
def begunS (n l f : Int) : Int := if f ≥ l then 2^(n-1-f).toNat else 2^(n-1-f).toNat - 2^(l-f-1).toNat
theorem m_begun (k : Nat) (n l f : Int) (S : St) (hn : -1000 ≤ n ∧ n ≤ 1000) (hl : -1000 ≤ l ∧ l ≤ 1000) (hf : -1000 ≤ f ∧ f ≤ 1000) : cl T gv (k+2) 166 [.int n, .int l, .int f] S = .ok (.int (begunS n l f)) S := by
  have e1 : (line : Int) = 16777216 := rfl
  have e2 : lineI = 4611686018427387904 := rfl
  refine callF_sat (d := d_begun) rfl rfl ?_
  have p1 := m_power k (n - 1 - f) S (by omega) (by omega)
  have p2 := m_power k (l - f - 1) S (by omega) (by omega)
  simp only [d_begun, bind_ok, liftS_ok, op1_some, andThen_nx, andThen_rt, andThen_bk, fin_rt, fin_nx, asB_bl, getS_zero, getS_succ, getS_nil, setS_zero, setS_succ, clr_zero, clr_succ, rd_true, rd_val, rd_int, rd_tup, rd_bl, rd_str, rd_non, rd_ref, rd_fn, rd_exc, bindT_nm, bindT_tp, setAll_nil, setAll_cons, putAllS_nil, putAllS_cons, kTup, kLst, kBox, kBin2, kBin1, kNeg, kBl, kNot, kCmp2, kCmp1, kCh4, kCh3, kCh2, kCh1, kIsN, kNotN, kIsT, kNotT, kIfe, kIdx2, kIdx1, kOpt, kSl3, kSl2, kSl1, kRev, kCall, kCd2, kCd1, kBi, kBit2, kBit1, kIsin, kItems, kElt2, kElt1, cF, kComp, kEs2, kEs1, kAnd, kOr, kRng2, kRng1, kEn2, kEn1, e_var, e_k, e_glob, e_fnv, e_tup, e_lst, e_box, e_bin, e_neg, e_and, e_or, e_not, e_cmp, e_chain, e_isN, e_notN, e_isT, e_notT, e_ife, e_idx, e_slice, e_rev, e_call, e_calld, e_bi, e_bit, e_isin, e_comp, e_range, e_enum, es_nil, es_cons, and_nil, and_cons, or_nil, or_cons, kVal, kMv, kRs2, kRs1, kAsg, optS, kAsgT, kPar, kSet3, set2, kSet1, kApp, app2, pop2, kAug, aug2, kExpr, kIff, wC, fB, kFor, kRet, rh_var, rh_e, rv_val, rv_int, rv_tup, rv_bl, rv_str, rv_non, rv_ref, rv_fn, rv_exc, rv_ownL, rv_ownD, rr_nil, rr_cons, x_asg, x_asgT, x_par, x_setI, x_app, x_pop, x_aug, x_expr, x_frz, x_iff, x_whl, x_for, x_ret, x_retN, x_brk, x_pass, x_never, xs_nil, xs_cons, frE, cont, held, freeze, startS, List.map_cons, List.map_nil, List.replicate, List.cons_append, List.nil_append, List.append_nil, List.length_cons, List.length_nil, List.head?_cons, List.head?_nil, ↓reduceIte, Nat.reduceAdd, Nat.reduceSub, Nat.reduceEqDiff, reduceCtorEq, and_true, true_and, and_false, false_and, or_true, true_or, or_false, false_or, not_true_eq_false, not_false_eq_true, Bool.not_true, Bool.not_false, Bool.false_eq_true, Bool.true_eq_false, ne_eq, if_true, if_false, eq_self, deref, items, seqs, isOk, isinV, List.any_cons, List.any_nil, Bool.or_false, Bool.false_or, Bool.or_true, Bool.true_or, bitIn, bitV, optInt, implies_true, Option.map_some, Option.map_none, forall_const, PV.int.injEq, PV.bl.injEq, and_self, or_self, Int.reduceNeg, Int.reduceSub, Int.reduceAdd, Option.some.injEq, i_bl, i_and, i_or, Bool.and_true, Bool.true_and, Bool.and_false, Bool.false_and, Bool.not_not, nb_non, nb_int, nb_tup, nb_lst, nb_bl, nb_str, tb_non, tb_int, tb_bl, v_add, v_sub, a_add, a_sub, q_int, n_int, q_bl, n_bl, lt_int, gt_int, le_int, ge_int, q_tup, n_tup, q_tup0, n_tup0, q_0tup, q_00, n_0tup, n_00, q_l00, n_l00, q_lst, n_lst, q_lst0, n_lst0, in_tup, ni_tup, in_lst, ni_lst, ix_t, ix_l, ix_r, ix_e, atP_zero, atP_one, atP_two, atP_three, len_t, len_l, len_s, int_i, max2_i, min2_i, lt_tup, decide_true, decide_false, Int.reduceLE, Int.reduceLT, Int.reduceToNat, List.getElem?_cons_zero, List.getElem?_cons_succ, List.set_cons_zero, List.set_cons_succ, List.length_map, it_lst, it_tup, p1, p2]
  unfold begunS
  by_cases h : f ≥ l
  · simp only [show l ≤ f from h, h, bind_ok, liftS_ok, op1_some, andThen_nx, andThen_rt, andThen_bk, fin_rt, fin_nx, asB_bl, getS_zero, getS_succ, getS_nil, setS_zero, setS_succ, clr_zero, clr_succ, rd_true, rd_val, rd_int, rd_tup, rd_bl, rd_str, rd_non, rd_ref, rd_fn, rd_exc, bindT_nm, bindT_tp, setAll_nil, setAll_cons, putAllS_nil, putAllS_cons, kTup, kLst, kBox, kBin2, kBin1, kNeg, kBl, kNot, kCmp2, kCmp1, kCh4, kCh3, kCh2, kCh1, kIsN, kNotN, kIsT, kNotT, kIfe, kIdx2, kIdx1, kOpt, kSl3, kSl2, kSl1, kRev, kCall, kCd2, kCd1, kBi, kBit2, kBit1, kIsin, kItems, kElt2, kElt1, cF, kComp, kEs2, kEs1, kAnd, kOr, kRng2, kRng1, kEn2, kEn1, e_var, e_k, e_glob, e_fnv, e_tup, e_lst, e_box, e_bin, e_neg, e_and, e_or, e_not, e_cmp, e_chain, e_isN, e_notN, e_isT, e_notT, e_ife, e_idx, e_slice, e_rev, e_call, e_calld, e_bi, e_bit, e_isin, e_comp, e_range, e_enum, es_nil, es_cons, and_nil, and_cons, or_nil, or_cons, kVal, kMv, kRs2, kRs1, kAsg, optS, kAsgT, kPar, kSet3, set2, kSet1, kApp, app2, pop2, kAug, aug2, kExpr, kIff, wC, fB, kFor, kRet, rh_var, rh_e, rv_val, rv_int, rv_tup, rv_bl, rv_str, rv_non, rv_ref, rv_fn, rv_exc, rv_ownL, rv_ownD, rr_nil, rr_cons, x_asg, x_asgT, x_par, x_setI, x_app, x_pop, x_aug, x_expr, x_frz, x_iff, x_whl, x_for, x_ret, x_retN, x_brk, x_pass, x_never, xs_nil, xs_cons, frE, cont, held, freeze, startS, List.map_cons, List.map_nil, List.replicate, List.cons_append, List.nil_append, List.append_nil, List.length_cons, List.length_nil, List.head?_cons, List.head?_nil, ↓reduceIte, Nat.reduceAdd, Nat.reduceSub, Nat.reduceEqDiff, reduceCtorEq, and_true, true_and, and_false, false_and, or_true, true_or, or_false, false_or, not_true_eq_false, not_false_eq_true, Bool.not_true, Bool.not_false, Bool.false_eq_true, Bool.true_eq_false, ne_eq, if_true, if_false, eq_self, deref, items, seqs, isOk, isinV, List.any_cons, List.any_nil, Bool.or_false, Bool.false_or, Bool.or_true, Bool.true_or, bitIn, bitV, optInt, implies_true, Option.map_some, Option.map_none, forall_const, PV.int.injEq, PV.bl.injEq, and_self, or_self, Int.reduceNeg, Int.reduceSub, Int.reduceAdd, Option.some.injEq, i_bl, i_and, i_or, Bool.and_true, Bool.true_and, Bool.and_false, Bool.false_and, Bool.not_not, nb_non, nb_int, nb_tup, nb_lst, nb_bl, nb_str, tb_non, tb_int, tb_bl, v_add, v_sub, a_add, a_sub, q_int, n_int, q_bl, n_bl, lt_int, gt_int, le_int, ge_int, q_tup, n_tup, q_tup0, n_tup0, q_0tup, q_00, n_0tup, n_00, q_l00, n_l00, q_lst, n_lst, q_lst0, n_lst0, in_tup, ni_tup, in_lst, ni_lst, ix_t, ix_l, ix_r, ix_e, atP_zero, atP_one, atP_two, atP_three, len_t, len_l, len_s, int_i, max2_i, min2_i, lt_tup, decide_true, decide_false, Int.reduceLE, Int.reduceLT, Int.reduceToNat, List.getElem?_cons_zero, List.getElem?_cons_succ, List.set_cons_zero, List.set_cons_succ, List.length_map, it_lst, it_tup, p1]; rfl
  · simp only [show ¬ l ≤ f from h, h, bind_ok, liftS_ok, op1_some, andThen_nx, andThen_rt, andThen_bk, fin_rt, fin_nx, asB_bl, getS_zero, getS_succ, getS_nil, setS_zero, setS_succ, clr_zero, clr_succ, rd_true, rd_val, rd_int, rd_tup, rd_bl, rd_str, rd_non, rd_ref, rd_fn, rd_exc, bindT_nm, bindT_tp, setAll_nil, setAll_cons, putAllS_nil, putAllS_cons, kTup, kLst, kBox, kBin2, kBin1, kNeg, kBl, kNot, kCmp2, kCmp1, kCh4, kCh3, kCh2, kCh1, kIsN, kNotN, kIsT, kNotT, kIfe, kIdx2, kIdx1, kOpt, kSl3, kSl2, kSl1, kRev, kCall, kCd2, kCd1, kBi, kBit2, kBit1, kIsin, kItems, kElt2, kElt1, cF, kComp, kEs2, kEs1, kAnd, kOr, kRng2, kRng1, kEn2, kEn1, e_var, e_k, e_glob, e_fnv, e_tup, e_lst, e_box, e_bin, e_neg, e_and, e_or, e_not, e_cmp, e_chain, e_isN, e_notN, e_isT, e_notT, e_ife, e_idx, e_slice, e_rev, e_call, e_calld, e_bi, e_bit, e_isin, e_comp, e_range, e_enum, es_nil, es_cons, and_nil, and_cons, or_nil, or_cons, kVal, kMv, kRs2, kRs1, kAsg, optS, kAsgT, kPar, kSet3, set2, kSet1, kApp, app2, pop2, kAug, aug2, kExpr, kIff, wC, fB, kFor, kRet, rh_var, rh_e, rv_val, rv_int, rv_tup, rv_bl, rv_str, rv_non, rv_ref, rv_fn, rv_exc, rv_ownL, rv_ownD, rr_nil, rr_cons, x_asg, x_asgT, x_par, x_setI, x_app, x_pop, x_aug, x_expr, x_frz, x_iff, x_whl, x_for, x_ret, x_retN, x_brk, x_pass, x_never, xs_nil, xs_cons, frE, cont, held, freeze, startS, List.map_cons, List.map_nil, List.replicate, List.cons_append, List.nil_append, List.append_nil, List.length_cons, List.length_nil, List.head?_cons, List.head?_nil, ↓reduceIte, Nat.reduceAdd, Nat.reduceSub, Nat.reduceEqDiff, reduceCtorEq, and_true, true_and, and_false, false_and, or_true, true_or, or_false, false_or, not_true_eq_false, not_false_eq_true, Bool.not_true, Bool.not_false, Bool.false_eq_true, Bool.true_eq_false, ne_eq, if_true, if_false, eq_self, deref, items, seqs, isOk, isinV, List.any_cons, List.any_nil, Bool.or_false, Bool.false_or, Bool.or_true, Bool.true_or, bitIn, bitV, optInt, implies_true, Option.map_some, Option.map_none, forall_const, PV.int.injEq, PV.bl.injEq, and_self, or_self, Int.reduceNeg, Int.reduceSub, Int.reduceAdd, Option.some.injEq, i_bl, i_and, i_or, Bool.and_true, Bool.true_and, Bool.and_false, Bool.false_and, Bool.not_not, nb_non, nb_int, nb_tup, nb_lst, nb_bl, nb_str, tb_non, tb_int, tb_bl, v_add, v_sub, a_add, a_sub, q_int, n_int, q_bl, n_bl, lt_int, gt_int, le_int, ge_int, q_tup, n_tup, q_tup0, n_tup0, q_0tup, q_00, n_0tup, n_00, q_l00, n_l00, q_lst, n_lst, q_lst0, n_lst0, in_tup, ni_tup, in_lst, ni_lst, ix_t, ix_l, ix_r, ix_e, atP_zero, atP_one, atP_two, atP_three, len_t, len_l, len_s, int_i, max2_i, min2_i, lt_tup, decide_true, decide_false, Int.reduceLE, Int.reduceLT, Int.reduceToNat, List.getElem?_cons_zero, List.getElem?_cons_succ, List.set_cons_zero, List.set_cons_succ, List.length_map, it_lst, it_tup, p1, p2]; rfl
def countS (n : Int) (b : List Int) : Int := if b = [] then 1 else 2^(n - hd b).toNat - 2^(la b - hd b).toNat
theorem hd_la {n : Int} {b : List Int} (h : Stand n b) (h0 : b ≠ []) : 0 ≤ hd b ∧ hd b ≤ la b ∧ la b < n := by
  refine ⟨(h.2 _ (hd_mem h0)).1, ?_, (h.2 _ (la_mem h0)).2⟩
  cases b with
  | nil => exact absurd rfl h0
  | cons x xs =>
    cases xs with
    | nil => simp [hd, la]
    | cons y ys =>
      have hm := la_mem (b := y :: ys) (by simp)
      have := List.rel_of_pairwise_cons h.1 hm
      have e : la (x :: y :: ys) = la (y :: ys) := by simp [la]
      rw [e]
      simp only [hd, List.headD_cons]
      omega
theorem m_row_come_count (k : Nat) (n : Int) (b : List Int) (S : St) (h : Stand n b) (h1 : 1 ≤ n) (h2 : n ≤ 40) : cl T gv (k+3) 156 [.int n, .tup (b.map .int)] S = .ok (.int (countS n b)) S := by
  have e1 : (line : Int) = 16777216 := rfl
  have e2 : lineI = 4611686018427387904 := rfl
  refine callF_sat (d := d_row_come_count) rfl rfl ?_
  simp only [d_row_come_count, bind_ok, liftS_ok, op1_some, andThen_nx, andThen_rt, andThen_bk, fin_rt, fin_nx, asB_bl, getS_zero, getS_succ, getS_nil, setS_zero, setS_succ, clr_zero, clr_succ, rd_true, rd_val, rd_int, rd_tup, rd_bl, rd_str, rd_non, rd_ref, rd_fn, rd_exc, bindT_nm, bindT_tp, setAll_nil, setAll_cons, putAllS_nil, putAllS_cons, kTup, kLst, kBox, kBin2, kBin1, kNeg, kBl, kNot, kCmp2, kCmp1, kCh4, kCh3, kCh2, kCh1, kIsN, kNotN, kIsT, kNotT, kIfe, kIdx2, kIdx1, kOpt, kSl3, kSl2, kSl1, kRev, kCall, kCd2, kCd1, kBi, kBit2, kBit1, kIsin, kItems, kElt2, kElt1, cF, kComp, kEs2, kEs1, kAnd, kOr, kRng2, kRng1, kEn2, kEn1, e_var, e_k, e_glob, e_fnv, e_tup, e_lst, e_box, e_bin, e_neg, e_and, e_or, e_not, e_cmp, e_chain, e_isN, e_notN, e_isT, e_notT, e_ife, e_idx, e_slice, e_rev, e_call, e_calld, e_bi, e_bit, e_isin, e_comp, e_range, e_enum, es_nil, es_cons, and_nil, and_cons, or_nil, or_cons, kVal, kMv, kRs2, kRs1, kAsg, optS, kAsgT, kPar, kSet3, set2, kSet1, kApp, app2, pop2, kAug, aug2, kExpr, kIff, wC, fB, kFor, kRet, rh_var, rh_e, rv_val, rv_int, rv_tup, rv_bl, rv_str, rv_non, rv_ref, rv_fn, rv_exc, rv_ownL, rv_ownD, rr_nil, rr_cons, x_asg, x_asgT, x_par, x_setI, x_app, x_pop, x_aug, x_expr, x_frz, x_iff, x_whl, x_for, x_ret, x_retN, x_brk, x_pass, x_never, xs_nil, xs_cons, frE, cont, held, freeze, startS, List.map_cons, List.map_nil, List.replicate, List.cons_append, List.nil_append, List.append_nil, List.length_cons, List.length_nil, List.head?_cons, List.head?_nil, ↓reduceIte, Nat.reduceAdd, Nat.reduceSub, Nat.reduceEqDiff, reduceCtorEq, and_true, true_and, and_false, false_and, or_true, true_or, or_false, false_or, not_true_eq_false, not_false_eq_true, Bool.not_true, Bool.not_false, Bool.false_eq_true, Bool.true_eq_false, ne_eq, if_true, if_false, eq_self, deref, items, seqs, isOk, isinV, List.any_cons, List.any_nil, Bool.or_false, Bool.false_or, Bool.or_true, Bool.true_or, bitIn, bitV, optInt, implies_true, Option.map_some, Option.map_none, forall_const, PV.int.injEq, PV.bl.injEq, and_self, or_self, Int.reduceNeg, Int.reduceSub, Int.reduceAdd, Option.some.injEq, i_bl, i_and, i_or, Bool.and_true, Bool.true_and, Bool.and_false, Bool.false_and, Bool.not_not, nb_non, nb_int, nb_tup, nb_lst, nb_bl, nb_str, tb_non, tb_int, tb_bl, v_add, v_sub, a_add, a_sub, q_int, n_int, q_bl, n_bl, lt_int, gt_int, le_int, ge_int, q_tup, n_tup, q_tup0, n_tup0, q_0tup, q_00, n_0tup, n_00, q_l00, n_l00, q_lst, n_lst, q_lst0, n_lst0, in_tup, ni_tup, in_lst, ni_lst, ix_t, ix_l, ix_r, ix_e, atP_zero, atP_one, atP_two, atP_three, len_t, len_l, len_s, int_i, max2_i, min2_i, lt_tup, decide_true, decide_false, Int.reduceLE, Int.reduceLT, Int.reduceToNat, List.getElem?_cons_zero, List.getElem?_cons_succ, List.set_cons_zero, List.set_cons_succ, List.length_map, it_lst, it_tup, m_need_many k n 1 S h1 h2, m_need_burning k n b S h]
  by_cases h0 : b = []
  · simp only [h0, bind_ok, liftS_ok, op1_some, andThen_nx, andThen_rt, andThen_bk, fin_rt, fin_nx, asB_bl, getS_zero, getS_succ, getS_nil, setS_zero, setS_succ, clr_zero, clr_succ, rd_true, rd_val, rd_int, rd_tup, rd_bl, rd_str, rd_non, rd_ref, rd_fn, rd_exc, bindT_nm, bindT_tp, setAll_nil, setAll_cons, putAllS_nil, putAllS_cons, kTup, kLst, kBox, kBin2, kBin1, kNeg, kBl, kNot, kCmp2, kCmp1, kCh4, kCh3, kCh2, kCh1, kIsN, kNotN, kIsT, kNotT, kIfe, kIdx2, kIdx1, kOpt, kSl3, kSl2, kSl1, kRev, kCall, kCd2, kCd1, kBi, kBit2, kBit1, kIsin, kItems, kElt2, kElt1, cF, kComp, kEs2, kEs1, kAnd, kOr, kRng2, kRng1, kEn2, kEn1, e_var, e_k, e_glob, e_fnv, e_tup, e_lst, e_box, e_bin, e_neg, e_and, e_or, e_not, e_cmp, e_chain, e_isN, e_notN, e_isT, e_notT, e_ife, e_idx, e_slice, e_rev, e_call, e_calld, e_bi, e_bit, e_isin, e_comp, e_range, e_enum, es_nil, es_cons, and_nil, and_cons, or_nil, or_cons, kVal, kMv, kRs2, kRs1, kAsg, optS, kAsgT, kPar, kSet3, set2, kSet1, kApp, app2, pop2, kAug, aug2, kExpr, kIff, wC, fB, kFor, kRet, rh_var, rh_e, rv_val, rv_int, rv_tup, rv_bl, rv_str, rv_non, rv_ref, rv_fn, rv_exc, rv_ownL, rv_ownD, rr_nil, rr_cons, x_asg, x_asgT, x_par, x_setI, x_app, x_pop, x_aug, x_expr, x_frz, x_iff, x_whl, x_for, x_ret, x_retN, x_brk, x_pass, x_never, xs_nil, xs_cons, frE, cont, held, freeze, startS, List.map_cons, List.map_nil, List.replicate, List.cons_append, List.nil_append, List.append_nil, List.length_cons, List.length_nil, List.head?_cons, List.head?_nil, ↓reduceIte, Nat.reduceAdd, Nat.reduceSub, Nat.reduceEqDiff, reduceCtorEq, and_true, true_and, and_false, false_and, or_true, true_or, or_false, false_or, not_true_eq_false, not_false_eq_true, Bool.not_true, Bool.not_false, Bool.false_eq_true, Bool.true_eq_false, ne_eq, if_true, if_false, eq_self, deref, items, seqs, isOk, isinV, List.any_cons, List.any_nil, Bool.or_false, Bool.false_or, Bool.or_true, Bool.true_or, bitIn, bitV, optInt, implies_true, Option.map_some, Option.map_none, forall_const, PV.int.injEq, PV.bl.injEq, and_self, or_self, Int.reduceNeg, Int.reduceSub, Int.reduceAdd, Option.some.injEq, i_bl, i_and, i_or, Bool.and_true, Bool.true_and, Bool.and_false, Bool.false_and, Bool.not_not, nb_non, nb_int, nb_tup, nb_lst, nb_bl, nb_str, tb_non, tb_int, tb_bl, v_add, v_sub, a_add, a_sub, q_int, n_int, q_bl, n_bl, lt_int, gt_int, le_int, ge_int, q_tup, n_tup, q_tup0, n_tup0, q_0tup, q_00, n_0tup, n_00, q_l00, n_l00, q_lst, n_lst, q_lst0, n_lst0, in_tup, ni_tup, in_lst, ni_lst, ix_t, ix_l, ix_r, ix_e, atP_zero, atP_one, atP_two, atP_three, len_t, len_l, len_s, int_i, max2_i, min2_i, lt_tup, decide_true, decide_false, Int.reduceLE, Int.reduceLT, Int.reduceToNat, List.getElem?_cons_zero, List.getElem?_cons_succ, List.set_cons_zero, List.set_cons_succ, List.length_map, it_lst, it_tup, countS]; rfl
  · obtain ⟨g1, g2, g3⟩ := hd_la h h0
    simp only [h0, bind_ok, liftS_ok, op1_some, andThen_nx, andThen_rt, andThen_bk, fin_rt, fin_nx, asB_bl, getS_zero, getS_succ, getS_nil, setS_zero, setS_succ, clr_zero, clr_succ, rd_true, rd_val, rd_int, rd_tup, rd_bl, rd_str, rd_non, rd_ref, rd_fn, rd_exc, bindT_nm, bindT_tp, setAll_nil, setAll_cons, putAllS_nil, putAllS_cons, kTup, kLst, kBox, kBin2, kBin1, kNeg, kBl, kNot, kCmp2, kCmp1, kCh4, kCh3, kCh2, kCh1, kIsN, kNotN, kIsT, kNotT, kIfe, kIdx2, kIdx1, kOpt, kSl3, kSl2, kSl1, kRev, kCall, kCd2, kCd1, kBi, kBit2, kBit1, kIsin, kItems, kElt2, kElt1, cF, kComp, kEs2, kEs1, kAnd, kOr, kRng2, kRng1, kEn2, kEn1, e_var, e_k, e_glob, e_fnv, e_tup, e_lst, e_box, e_bin, e_neg, e_and, e_or, e_not, e_cmp, e_chain, e_isN, e_notN, e_isT, e_notT, e_ife, e_idx, e_slice, e_rev, e_call, e_calld, e_bi, e_bit, e_isin, e_comp, e_range, e_enum, es_nil, es_cons, and_nil, and_cons, or_nil, or_cons, kVal, kMv, kRs2, kRs1, kAsg, optS, kAsgT, kPar, kSet3, set2, kSet1, kApp, app2, pop2, kAug, aug2, kExpr, kIff, wC, fB, kFor, kRet, rh_var, rh_e, rv_val, rv_int, rv_tup, rv_bl, rv_str, rv_non, rv_ref, rv_fn, rv_exc, rv_ownL, rv_ownD, rr_nil, rr_cons, x_asg, x_asgT, x_par, x_setI, x_app, x_pop, x_aug, x_expr, x_frz, x_iff, x_whl, x_for, x_ret, x_retN, x_brk, x_pass, x_never, xs_nil, xs_cons, frE, cont, held, freeze, startS, List.map_cons, List.map_nil, List.replicate, List.cons_append, List.nil_append, List.append_nil, List.length_cons, List.length_nil, List.head?_cons, List.head?_nil, ↓reduceIte, Nat.reduceAdd, Nat.reduceSub, Nat.reduceEqDiff, reduceCtorEq, and_true, true_and, and_false, false_and, or_true, true_or, or_false, false_or, not_true_eq_false, not_false_eq_true, Bool.not_true, Bool.not_false, Bool.false_eq_true, Bool.true_eq_false, ne_eq, if_true, if_false, eq_self, deref, items, seqs, isOk, isinV, List.any_cons, List.any_nil, Bool.or_false, Bool.false_or, Bool.or_true, Bool.true_or, bitIn, bitV, optInt, implies_true, Option.map_some, Option.map_none, forall_const, PV.int.injEq, PV.bl.injEq, and_self, or_self, Int.reduceNeg, Int.reduceSub, Int.reduceAdd, Option.some.injEq, i_bl, i_and, i_or, Bool.and_true, Bool.true_and, Bool.and_false, Bool.false_and, Bool.not_not, nb_non, nb_int, nb_tup, nb_lst, nb_bl, nb_str, tb_non, tb_int, tb_bl, v_add, v_sub, a_add, a_sub, q_int, n_int, q_bl, n_bl, lt_int, gt_int, le_int, ge_int, q_tup, n_tup, q_tup0, n_tup0, q_0tup, q_00, n_0tup, n_00, q_l00, n_l00, q_lst, n_lst, q_lst0, n_lst0, in_tup, ni_tup, in_lst, ni_lst, ix_t, ix_l, ix_r, ix_e, atP_zero, atP_one, atP_two, atP_three, len_t, len_l, len_s, int_i, max2_i, min2_i, lt_tup, decide_true, decide_false, Int.reduceLE, Int.reduceLT, Int.reduceToNat, List.getElem?_cons_zero, List.getElem?_cons_succ, List.set_cons_zero, List.set_cons_succ, List.length_map, it_lst, it_tup, countS, at_hd h0, at_la h0, m_power (k+1) (n - hd b) S (by omega) (by omega), m_power (k+1) (la b - hd b) S (by omega) (by omega)]
    rfl
end L
end G
end

section
set_option autoImplicit false
/-! R24a: numbers of standings of rows, in plain words. -/
namespace G
namespace L
section
variable (n m : Int)
def sumC (p x : Int) : Int := ((rg p (x - p).toNat).map (begunS n m)).sum
def b1 (b : Bool) : Int := if b then 1 else 0
def Wt (ok : Bool) (p : Int) : Int := b1 ok + sumC n m p n
def Rk : Bool → Int → List Int → Int
  | _, _, [] => 0
  | ok, p, x :: xs => b1 ok + sumC n m p x + Rk (decide (m ≤ x)) (x + 1) xs
def Vd : Bool → Int → List Int → Prop
  | ok, _, [] => ok = true
  | _, p, x :: xs => p ≤ x ∧ x < n ∧ Vd (decide (m ≤ x)) (x + 1) xs
end
variable {n m : Int}
theorem sumC_self (p x : Int) (h : x ≤ p) : sumC n m p x = 0 := by
  unfold sumC
  rw [show (x - p).toNat = 0 by omega]
  rfl
theorem sumC_head {p x : Int} (h : p < x) : sumC n m p x = begunS n m p + sumC n m (p + 1) x := by
  unfold sumC
  rw [show (x - p).toNat = (x - (p + 1)).toNat + 1 by omega, rg_succ]
  simp
theorem sumC_step {x : Int} : ∀ (d : Nat) {p : Int}, (x - p).toNat = d → p ≤ x → sumC n m p (x + 1) = sumC n m p x + begunS n m x
  | 0, p, hd, h => by
    have : p = x := by omega
    subst this
    rw [sumC_head (by omega), sumC_self _ _ (by omega), sumC_self _ _ (by omega)]
    omega
  | d + 1, p, hd, h => by
    rw [sumC_head (show p < x + 1 by omega), sumC_head (show p < x by omega), sumC_step d (by omega) (by omega)]
    omega
theorem two_pow_pos (k : Nat) : (0 : Int) < 2 ^ k := Int.pow_pos (by decide)
theorem two_pow_mono {i j : Nat} (h : i ≤ j) : (2 : Int) ^ i ≤ 2 ^ j := by exact_mod_cast Nat.pow_le_pow_right (n := 2) (by decide) h
theorem C_pos {f : Int} (hm : m < n) (hf : f < n) : 1 ≤ begunS n m f := by
  unfold begunS
  split
  · have := two_pow_pos (n - 1 - f).toNat; omega
  · have h1 : (m - f - 1).toNat + 1 ≤ (n - 1 - f).toNat := by omega
    have h2 := two_pow_mono h1
    rw [Int.pow_succ] at h2
    have := two_pow_pos (m - f - 1).toNat
    omega
/-- the standings behind a lamp -/
theorem C_rec (hm : m < n) : ∀ (d : Nat) {f : Int}, (n - 1 - f).toNat = d → f < n → begunS n m f = Wt n m (decide (m ≤ f)) (f + 1)
  | 0, f, hd, hf => by
    have e : f = n - 1 := by omega
    unfold Wt
    rw [sumC_self _ _ (by omega)]
    have h1 : m ≤ f := by omega
    simp only [begunS, h1, ge_iff_le, if_true, decide_true, b1, hd]
    decide
  | d + 1, f, hd, hf => by
    have ih := C_rec hm d (f := f + 1) (by omega) (by omega)
    unfold Wt at ih ⊢
    rw [sumC_head (show f + 1 < n by omega)]
    have hp : (n - 1 - f).toNat = (n - 1 - (f + 1)).toNat + 1 := by omega
    by_cases h1 : m ≤ f
    · have h2 : m ≤ f + 1 := by omega
      simp only [h1, h2, decide_true, b1, if_true] at ih ⊢
      simp only [begunS, h1, h2, ge_iff_le, if_true] at ih ⊢
      rw [hp, Int.pow_succ]
      omega
    · by_cases h2 : m ≤ f + 1
      · have e : m = f + 1 := by omega
        simp only [h1, h2, decide_true, decide_false, b1, if_true, Bool.false_eq_true, if_false] at ih ⊢
        simp only [begunS, h1, h2, ge_iff_le, if_true, if_false] at ih ⊢
        rw [hp, Int.pow_succ, show (m - f - 1).toNat = 0 by omega]
        simp only [Int.pow_zero]
        omega
      · simp only [h1, h2, decide_false, b1, Bool.false_eq_true, if_false] at ih ⊢
        simp only [begunS, h1, h2, ge_iff_le, if_false] at ih ⊢
        rw [hp, Int.pow_succ, show (m - f - 1).toNat = (m - (f + 1) - 1).toNat + 1 by omega, Int.pow_succ]
        omega
theorem sumC_nonneg (hm : m < n) : ∀ (d : Nat) {p x : Int}, (x - p).toNat = d → x ≤ n → 0 ≤ sumC n m p x
  | 0, p, x, hd, hx => by rw [sumC_self _ _ (by omega)]; exact Int.le_refl 0
  | d + 1, p, x, hd, hx => by
    rw [sumC_head (by omega)]
    have h1 := C_pos hm (f := p) (by omega)
    have h2 := sumC_nonneg hm d (p := p + 1) (x := x) (by omega) hx
    omega
theorem sumC_mono (hm : m < n) {p x : Int} : ∀ (d : Nat) {y : Int}, (y - x).toNat = d → p ≤ x → x ≤ y → y ≤ n → sumC n m p x ≤ sumC n m p y
  | 0, y, hd, h0, h1, h2 => by
    have : x = y := by omega
    subst this; exact Int.le_refl _
  | d + 1, y, hd, h0, h1, h2 => by
    have ih := sumC_mono hm d (y := y - 1) (by omega) h0 (by omega) (by omega)
    have e := sumC_step (n := n) (m := m) (x := y - 1) _ (p := p) rfl (by omega)
    have c := C_pos hm (f := y - 1) (by omega)
    rw [show y - 1 + 1 = y by omega] at e
    omega
theorem Rk_bound (hm : m < n) : ∀ (t : List Int) (ok : Bool) (p : Int), Vd n m ok p t → 0 ≤ Rk n m ok p t ∧ Rk n m ok p t < Wt n m ok p
  | [], ok, p, h => by
    simp only [Vd] at h
    subst h
    have := sumC_nonneg hm _ (p := p) (x := n) rfl (Int.le_refl n)
    simp only [Rk, Wt, b1, if_true]
    omega
  | x :: xs, ok, p, h => by
    simp only [Vd] at h
    obtain ⟨h1, h2, h3⟩ := h
    obtain ⟨i1, i2⟩ := Rk_bound hm xs _ _ h3
    rw [← C_rec hm _ rfl h2] at i2
    have s1 := sumC_step (n := n) (m := m) (x := x) _ (p := p) rfl h1
    have s2 := sumC_mono hm _ (p := p) (x := x + 1) (y := n) rfl (by omega) (by omega) (Int.le_refl n)
    have s3 := sumC_nonneg hm _ (p := p) (x := x) rfl (by omega)
    simp only [Rk, Wt, b1] at *
    split <;> omega
theorem Rk_lt (hm : m < n) : ∀ (s t : List Int) (ok : Bool) (p : Int), Vd n m ok p s → Vd n m ok p t → lexLt s t = true → Rk n m ok p s < Rk n m ok p t
  | [], [], ok, p, _, _, h => by simp [lexLt] at h
  | [], y :: ys, ok, p, h1, h2, h => by
    have b := (Rk_bound hm _ _ _ h2.2.2).1
    simp only [Vd] at h1 h2
    subst h1
    have s3 := sumC_nonneg hm _ (p := p) (x := y) rfl (by omega)
    simp only [Rk, b1, if_true]
    omega
  | x :: xs, [], ok, p, _, _, h => by simp [lexLt] at h
  | x :: xs, y :: ys, ok, p, h1, h2, h => by
    simp only [Vd] at h1 h2
    simp only [lexLt] at h
    by_cases c : x = y
    · subst c
      simp only [if_true] at h
      have ih := Rk_lt hm xs ys _ _ h1.2.2 h2.2.2 h
      simp only [Rk]
      omega
    · simp only [c, if_false, decide_eq_true_eq] at h
      have b1' := Rk_bound hm _ _ _ h1.2.2
      have b2' := (Rk_bound hm _ _ _ h2.2.2).1
      rw [← C_rec hm _ rfl h1.2.1] at b1'
      have s1 := sumC_step (n := n) (m := m) (x := x) _ (p := p) rfl h1.1
      have s2 := sumC_mono hm _ (p := p) (x := x + 1) (y := y) rfl (by omega) (by omega) (by omega)
      simp only [Rk]
      omega
theorem lex_tri : ∀ s t : List Int, s = t ∨ lexLt s t = true ∨ lexLt t s = true
  | [], [] => .inl rfl
  | [], _ :: _ => .inr (.inl rfl)
  | _ :: _, [] => .inr (.inr rfl)
  | x :: xs, y :: ys => by
    by_cases c : x = y
    · subst c
      rcases lex_tri xs ys with h | h | h
      · exact .inl (by rw [h])
      · exact .inr (.inl (by simp [lexLt, h]))
      · exact .inr (.inr (by simp [lexLt, h]))
    · have c2 : ¬ y = x := fun z => c z.symm
      by_cases d : x < y
      · exact .inr (.inl (by simp [lexLt, c, d]))
      · exact .inr (.inr (by simp [lexLt, c2]; omega))
theorem Rk_inj (hm : m < n) {s t : List Int} {ok : Bool} {p : Int} (h1 : Vd n m ok p s) (h2 : Vd n m ok p t) (h : Rk n m ok p s = Rk n m ok p t) : s = t := by
  rcases lex_tri s t with c | c | c
  · exact c
  · have := Rk_lt hm _ _ _ _ h1 h2 c; omega
  · have := Rk_lt hm _ _ _ _ h2 h1 c; omega
theorem lex_of_Rk (hm : m < n) {s t : List Int} {ok : Bool} {p : Int} (h1 : Vd n m ok p s) (h2 : Vd n m ok p t) : lexLt s t = decide (Rk n m ok p s < Rk n m ok p t) := by
  by_cases c : lexLt s t = true
  · rw [c, decide_eq_true (Rk_lt hm _ _ _ _ h1 h2 c)]
  · have : ¬ Rk n m ok p s < Rk n m ok p t := fun z => by
      rcases lex_tri s t with d | d | d
      · subst d; omega
      · exact c d
      · have := Rk_lt hm _ _ _ _ h2 h1 d; omega
    rw [decide_eq_false this]
    exact Bool.not_eq_true _ ▸ c
/-- all of them -/
theorem W_count {b0 : Int} (hm : m < n) (h0 : b0 ≤ m) : Wt n m false b0 = 2^(n - b0).toNat - 2^(m - b0).toNat := by
  have h := C_rec hm _ (f := b0 - 1) rfl (by omega)
  rw [decide_eq_false (show ¬ m ≤ b0 - 1 by omega), show b0 - 1 + 1 = b0 by omega] at h
  rw [← h]
  unfold begunS
  rw [if_neg (by omega), show (n - 1 - (b0 - 1)).toNat = (n - b0).toNat by omega, show (m - (b0 - 1) - 1).toNat = (m - b0).toNat by omega]
end L
end G
end

section
set_option autoImplicit false
/-! R24b: numbers of standings of rows: the defs. -/
namespace G
namespace L
theorem rg_split : ∀ (N : Nat) (lo : Int) {m r : List Int} {x : Int}, rg lo N = m ++ x :: r → x = lo + m.length ∧ m = rg lo m.length ∧ m.length < N
  | 0, lo, m, r, x, h => by simp [rg_zero] at h
  | N + 1, lo, [], r, x, h => by
    rw [rg_succ] at h
    simp only [List.nil_append, List.cons.injEq] at h
    exact ⟨by simp [h.1], by simp [rg_zero], by simp⟩
  | N + 1, lo, y :: m, r, x, h => by
    rw [rg_succ] at h
    simp only [List.cons_append, List.cons.injEq] at h
    obtain ⟨rfl, h⟩ := h
    obtain ⟨h1, h2, h3⟩ := rg_split N (lo + 1) h
    refine ⟨by rw [h1]; simp; omega, ?_, by simp; omega⟩
    rw [List.length_cons, rg_succ, ← h2]
theorem v_addt (l m : List Int) (h : l.length + m.length ≤ line) : binV .add (.tup (l.map .int)) (.tup (m.map .int)) = some (.tup ((l ++ m).map .int)) := by
  simp only [binV, List.length_map, h, if_true, List.map_append]
theorem la_snoc (f : List Int) (g : Int) : la (f ++ [g]) = g := by simp [la]
def pn (b f : List Int) : Int := if f = [] then hd b else la f + 1
def okf (b f : List Int) : Bool := decide (f ≠ []) && decide (la b ≤ la f)
structure AtI (n r : Int) (b f : List Int) (r' : Int) : Prop where
  lo : 0 ≤ r'
  hi : r' < Wt n (la b) (okf b f) (pn b f)
  pn1 : pn b f ≤ n
  pn0 : hd b ≤ pn b f
  len : (f.length : Int) ≤ pn b f - hd b
  all : ∀ t, Vd n (la b) (okf b f) (pn b f) t → Vd n (la b) false (hd b) (f ++ t) ∧ Rk n (la b) false (hd b) (f ++ t) = Rk n (la b) (okf b f) (pn b f) t + (r - r')
theorem AtI.next {n r : Int} {b f : List Int} {r' g : Int} (I : AtI n r b f r') (h1 : pn b f ≤ g) (h2 : g < n) (h3 : 0 ≤ r' - b1 (okf b f) - sumC n (la b) (pn b f) g) (h4 : r' - b1 (okf b f) - sumC n (la b) (pn b f) g < begunS n (la b) g) (hm : la b < n) :
    AtI n r b (f ++ [g]) (r' - b1 (okf b f) - sumC n (la b) (pn b f) g) := by
  have e1 : pn b (f ++ [g]) = g + 1 := by simp [pn, la_snoc]
  have e2 : okf b (f ++ [g]) = decide (la b ≤ g) := by simp [okf, la_snoc]
  refine ⟨h3, ?_, by rw [e1]; omega, ?_, ?_, fun t ht => ?_⟩
  · rw [e1, e2, ← C_rec hm _ rfl h2]; exact h4
  · rw [e1]; have := I.pn0; omega
  · rw [e1]; have := I.len; simp; omega
  · rw [e1, e2] at ht ⊢
    have := I.all (g :: t) ⟨h1, h2, ht⟩
    rw [List.append_assoc]
    simp only [List.cons_append, List.nil_append]
    refine ⟨this.1, ?_⟩
    rw [this.2]
    simp only [Rk]
    omega
def sAt (n r r' : Int) (b f : List Int) (t6 : Tag) (t7 t8 : Option (Tag × PV)) : Slots := [some (Tag.bor, PV.int n), some (Tag.bor, PV.tup (b.map .int)), some (Tag.bor, PV.int r), some (Tag.val, PV.int (hd b)), some (Tag.val, PV.int (la b)), some (Tag.val, PV.int r'), some (t6, PV.tup (f.map .int)), t7, t8]
theorem at_loop (k : Nat) {n : Int} {b : List Int} {r : Int} {S : St} {f : List Int} {r' : Int} (I : AtI n r b f r') (h0 : 0 ≤ hd b) (hm : la b < n) (hl0 : 0 ≤ la b) (hn : n ≤ 40) (hnn : 0 ≤ r' - b1 (okf b f)) (t6 : Tag) (t7 t8 : Option (Tag × PV)) (Q : SR → Prop)
    (hQ : ∀ f' r'' t6 t7 t8, pn b f < pn b f' → AtI n r b f' r'' → Q (.nx (sAt n r r'' b f' t6 t7 t8) S)) :
    Sat ((fG (fB ⟨cl T gv (k+2), gv⟩ (Tg.nm 7) b_at_in_1) ((rg (pn b f) (n - pn b f).toNat).map PV.int) (sAt n r (r' - b1 (okf b f)) b f t6 t7 t8) S).andThen (sSs ⟨cl T gv (k+2), gv⟩ [])) Q := by
  have e3 : line = 16777216 := rfl
  have hp1 := I.pn1
  have hp0 := I.pn0
  have hfl : f.length + 1 ≤ line := by have := I.len; omega
  refine for_loop PV.int (fun l σ S'' => S'' = S ∧ 0 ≤ r' - b1 (okf b f) - (l.map (begunS n (la b))).sum ∧ ∃ t7 t8, σ = sAt n r (r' - b1 (okf b f) - (l.map (begunS n (la b))).sum) b f t6 t7 t8) ⟨rfl, by simpa using hnn, t7, t8, by simp⟩ ?_ ?_
  · rintro l g rest σ S'' el ⟨rfl, hge, t7, t8, rfl⟩ Q' hnx hbk hrt
    obtain ⟨e4, e5, e6⟩ := rg_split _ _ el
    have hs : (l.map (begunS n (la b))).sum = sumC n (la b) (pn b f) g := by
      unfold sumC
      rw [show (g - pn b f).toNat = l.length by omega, ← e5]
    simp only [b_at_in_1, sAt, bind_ok, liftS_ok, op1_some, andThen_nx, andThen_rt, andThen_bk, fin_rt, fin_nx, asB_bl, getS_zero, getS_succ, getS_nil, setS_zero, setS_succ, clr_zero, clr_succ, rd_true, rd_val, rd_int, rd_tup, rd_bl, rd_str, rd_non, rd_ref, rd_fn, rd_exc, bindT_nm, bindT_tp, setAll_nil, setAll_cons, putAllS_nil, putAllS_cons, kTup, kLst, kBox, kBin2, kBin1, kNeg, kBl, kNot, kCmp2, kCmp1, kCh4, kCh3, kCh2, kCh1, kIsN, kNotN, kIsT, kNotT, kIfe, kIdx2, kIdx1, kOpt, kSl3, kSl2, kSl1, kRev, kCall, kCd2, kCd1, kBi, kBit2, kBit1, kIsin, kItems, kElt2, kElt1, cF, kComp, kEs2, kEs1, kAnd, kOr, kRng2, kRng1, kEn2, kEn1, e_var, e_k, e_glob, e_fnv, e_tup, e_lst, e_box, e_bin, e_neg, e_and, e_or, e_not, e_cmp, e_chain, e_isN, e_notN, e_isT, e_notT, e_ife, e_idx, e_slice, e_rev, e_call, e_calld, e_bi, e_bit, e_isin, e_comp, e_range, e_enum, es_nil, es_cons, and_nil, and_cons, or_nil, or_cons, kVal, kMv, kRs2, kRs1, kAsg, optS, kAsgT, kPar, kSet3, set2, kSet1, kApp, app2, pop2, kAug, aug2, kExpr, kIff, wC, fB, kFor, kRet, rh_var, rh_e, rv_val, rv_int, rv_tup, rv_bl, rv_str, rv_non, rv_ref, rv_fn, rv_exc, rv_ownL, rv_ownD, rr_nil, rr_cons, x_asg, x_asgT, x_par, x_setI, x_app, x_pop, x_aug, x_expr, x_frz, x_iff, x_whl, x_for, x_ret, x_retN, x_brk, x_pass, x_never, xs_nil, xs_cons, frE, cont, held, freeze, startS, List.map_cons, List.map_nil, List.replicate, List.cons_append, List.nil_append, List.append_nil, List.length_cons, List.length_nil, List.head?_cons, List.head?_nil, ↓reduceIte, Nat.reduceAdd, Nat.reduceSub, Nat.reduceEqDiff, reduceCtorEq, and_true, true_and, and_false, false_and, or_true, true_or, or_false, false_or, not_true_eq_false, not_false_eq_true, Bool.not_true, Bool.not_false, Bool.false_eq_true, Bool.true_eq_false, ne_eq, if_true, if_false, eq_self, deref, items, seqs, isOk, isinV, List.any_cons, List.any_nil, Bool.or_false, Bool.false_or, Bool.or_true, Bool.true_or, bitIn, bitV, optInt, implies_true, Option.map_some, Option.map_none, forall_const, PV.int.injEq, PV.bl.injEq, and_self, or_self, Int.reduceNeg, Int.reduceSub, Int.reduceAdd, Option.some.injEq, i_bl, i_and, i_or, Bool.and_true, Bool.true_and, Bool.and_false, Bool.false_and, Bool.not_not, nb_non, nb_int, nb_tup, nb_lst, nb_bl, nb_str, tb_non, tb_int, tb_bl, v_add, v_sub, a_add, a_sub, q_int, n_int, q_bl, n_bl, lt_int, gt_int, le_int, ge_int, q_tup, n_tup, q_tup0, n_tup0, q_0tup, q_00, n_0tup, n_00, q_l00, n_l00, q_lst, n_lst, q_lst0, n_lst0, in_tup, ni_tup, in_lst, ni_lst, ix_t, ix_l, ix_r, ix_e, atP_zero, atP_one, atP_two, atP_three, len_t, len_l, len_s, int_i, max2_i, min2_i, lt_tup, decide_true, decide_false, Int.reduceLE, Int.reduceLT, Int.reduceToNat, List.getElem?_cons_zero, List.getElem?_cons_succ, List.set_cons_zero, List.set_cons_succ, List.length_map, it_lst, it_tup, m_begun k n (la b) g S'' (by omega) (by omega) (by omega)]
    by_cases hlt : r' - b1 (okf b f) - (l.map (begunS n (la b))).sum < begunS n (la b) g
    · have ha := v_addt f [g] (by simpa using hfl)
      simp only [List.map_cons, List.map_nil] at ha
      simp only [hlt, bind_ok, liftS_ok, op1_some, andThen_nx, andThen_rt, andThen_bk, fin_rt, fin_nx, asB_bl, getS_zero, getS_succ, getS_nil, setS_zero, setS_succ, clr_zero, clr_succ, rd_true, rd_val, rd_int, rd_tup, rd_bl, rd_str, rd_non, rd_ref, rd_fn, rd_exc, bindT_nm, bindT_tp, setAll_nil, setAll_cons, putAllS_nil, putAllS_cons, kTup, kLst, kBox, kBin2, kBin1, kNeg, kBl, kNot, kCmp2, kCmp1, kCh4, kCh3, kCh2, kCh1, kIsN, kNotN, kIsT, kNotT, kIfe, kIdx2, kIdx1, kOpt, kSl3, kSl2, kSl1, kRev, kCall, kCd2, kCd1, kBi, kBit2, kBit1, kIsin, kItems, kElt2, kElt1, cF, kComp, kEs2, kEs1, kAnd, kOr, kRng2, kRng1, kEn2, kEn1, e_var, e_k, e_glob, e_fnv, e_tup, e_lst, e_box, e_bin, e_neg, e_and, e_or, e_not, e_cmp, e_chain, e_isN, e_notN, e_isT, e_notT, e_ife, e_idx, e_slice, e_rev, e_call, e_calld, e_bi, e_bit, e_isin, e_comp, e_range, e_enum, es_nil, es_cons, and_nil, and_cons, or_nil, or_cons, kVal, kMv, kRs2, kRs1, kAsg, optS, kAsgT, kPar, kSet3, set2, kSet1, kApp, app2, pop2, kAug, aug2, kExpr, kIff, wC, fB, kFor, kRet, rh_var, rh_e, rv_val, rv_int, rv_tup, rv_bl, rv_str, rv_non, rv_ref, rv_fn, rv_exc, rv_ownL, rv_ownD, rr_nil, rr_cons, x_asg, x_asgT, x_par, x_setI, x_app, x_pop, x_aug, x_expr, x_frz, x_iff, x_whl, x_for, x_ret, x_retN, x_brk, x_pass, x_never, xs_nil, xs_cons, frE, cont, held, freeze, startS, List.map_cons, List.map_nil, List.replicate, List.cons_append, List.nil_append, List.append_nil, List.length_cons, List.length_nil, List.head?_cons, List.head?_nil, ↓reduceIte, Nat.reduceAdd, Nat.reduceSub, Nat.reduceEqDiff, reduceCtorEq, and_true, true_and, and_false, false_and, or_true, true_or, or_false, false_or, not_true_eq_false, not_false_eq_true, Bool.not_true, Bool.not_false, Bool.false_eq_true, Bool.true_eq_false, ne_eq, if_true, if_false, eq_self, deref, items, seqs, isOk, isinV, List.any_cons, List.any_nil, Bool.or_false, Bool.false_or, Bool.or_true, Bool.true_or, bitIn, bitV, optInt, implies_true, Option.map_some, Option.map_none, forall_const, PV.int.injEq, PV.bl.injEq, and_self, or_self, Int.reduceNeg, Int.reduceSub, Int.reduceAdd, Option.some.injEq, i_bl, i_and, i_or, Bool.and_true, Bool.true_and, Bool.and_false, Bool.false_and, Bool.not_not, nb_non, nb_int, nb_tup, nb_lst, nb_bl, nb_str, tb_non, tb_int, tb_bl, v_add, v_sub, a_add, a_sub, q_int, n_int, q_bl, n_bl, lt_int, gt_int, le_int, ge_int, q_tup, n_tup, q_tup0, n_tup0, q_0tup, q_00, n_0tup, n_00, q_l00, n_l00, q_lst, n_lst, q_lst0, n_lst0, in_tup, ni_tup, in_lst, ni_lst, ix_t, ix_l, ix_r, ix_e, atP_zero, atP_one, atP_two, atP_three, len_t, len_l, len_s, int_i, max2_i, min2_i, lt_tup, decide_true, decide_false, Int.reduceLE, Int.reduceLT, Int.reduceToNat, List.getElem?_cons_zero, List.getElem?_cons_succ, List.set_cons_zero, List.set_cons_succ, List.length_map, it_lst, it_tup, ha]
      rw [hs] at hge hlt
      have J := I.next (g := g) (by omega) (by omega) hge hlt (by omega)
      refine hbk _ _ ?_
      simp only [bind_ok, liftS_ok, op1_some, andThen_nx, andThen_rt, andThen_bk, fin_rt, fin_nx, asB_bl, getS_zero, getS_succ, getS_nil, setS_zero, setS_succ, clr_zero, clr_succ, rd_true, rd_val, rd_int, rd_tup, rd_bl, rd_str, rd_non, rd_ref, rd_fn, rd_exc, bindT_nm, bindT_tp, setAll_nil, setAll_cons, putAllS_nil, putAllS_cons, kTup, kLst, kBox, kBin2, kBin1, kNeg, kBl, kNot, kCmp2, kCmp1, kCh4, kCh3, kCh2, kCh1, kIsN, kNotN, kIsT, kNotT, kIfe, kIdx2, kIdx1, kOpt, kSl3, kSl2, kSl1, kRev, kCall, kCd2, kCd1, kBi, kBit2, kBit1, kIsin, kItems, kElt2, kElt1, cF, kComp, kEs2, kEs1, kAnd, kOr, kRng2, kRng1, kEn2, kEn1, e_var, e_k, e_glob, e_fnv, e_tup, e_lst, e_box, e_bin, e_neg, e_and, e_or, e_not, e_cmp, e_chain, e_isN, e_notN, e_isT, e_notT, e_ife, e_idx, e_slice, e_rev, e_call, e_calld, e_bi, e_bit, e_isin, e_comp, e_range, e_enum, es_nil, es_cons, and_nil, and_cons, or_nil, or_cons, kVal, kMv, kRs2, kRs1, kAsg, optS, kAsgT, kPar, kSet3, set2, kSet1, kApp, app2, pop2, kAug, aug2, kExpr, kIff, wC, fB, kFor, kRet, rh_var, rh_e, rv_val, rv_int, rv_tup, rv_bl, rv_str, rv_non, rv_ref, rv_fn, rv_exc, rv_ownL, rv_ownD, rr_nil, rr_cons, x_asg, x_asgT, x_par, x_setI, x_app, x_pop, x_aug, x_expr, x_frz, x_iff, x_whl, x_for, x_ret, x_retN, x_brk, x_pass, x_never, xs_nil, xs_cons, frE, cont, held, freeze, startS, List.map_cons, List.map_nil, List.replicate, List.cons_append, List.nil_append, List.append_nil, List.length_cons, List.length_nil, List.head?_cons, List.head?_nil, ↓reduceIte, Nat.reduceAdd, Nat.reduceSub, Nat.reduceEqDiff, reduceCtorEq, and_true, true_and, and_false, false_and, or_true, true_or, or_false, false_or, not_true_eq_false, not_false_eq_true, Bool.not_true, Bool.not_false, Bool.false_eq_true, Bool.true_eq_false, ne_eq, if_true, if_false, eq_self, deref, items, seqs, isOk, isinV, List.any_cons, List.any_nil, Bool.or_false, Bool.false_or, Bool.or_true, Bool.true_or, bitIn, bitV, optInt, implies_true, Option.map_some, Option.map_none, forall_const, PV.int.injEq, PV.bl.injEq, and_self, or_self, Int.reduceNeg, Int.reduceSub, Int.reduceAdd, Option.some.injEq, i_bl, i_and, i_or, Bool.and_true, Bool.true_and, Bool.and_false, Bool.false_and, Bool.not_not, nb_non, nb_int, nb_tup, nb_lst, nb_bl, nb_str, tb_non, tb_int, tb_bl, v_add, v_sub, a_add, a_sub, q_int, n_int, q_bl, n_bl, lt_int, gt_int, le_int, ge_int, q_tup, n_tup, q_tup0, n_tup0, q_0tup, q_00, n_0tup, n_00, q_l00, n_l00, q_lst, n_lst, q_lst0, n_lst0, in_tup, ni_tup, in_lst, ni_lst, ix_t, ix_l, ix_r, ix_e, atP_zero, atP_one, atP_two, atP_three, len_t, len_l, len_s, int_i, max2_i, min2_i, lt_tup, decide_true, decide_false, Int.reduceLE, Int.reduceLT, Int.reduceToNat, List.getElem?_cons_zero, List.getElem?_cons_succ, List.set_cons_zero, List.set_cons_succ, List.length_map, it_lst, it_tup]
      have e7 : pn b (f ++ [g]) = g + 1 := by simp [pn, la_snoc]
      have := hQ (f ++ [g]) _ Tag.own (some (Tag.val, PV.int g)) (some (Tag.val, PV.int (begunS n (la b) g))) (by omega) J
      rw [← hs] at this
      exact this
    · simp only [hlt, bind_ok, liftS_ok, op1_some, andThen_nx, andThen_rt, andThen_bk, fin_rt, fin_nx, asB_bl, getS_zero, getS_succ, getS_nil, setS_zero, setS_succ, clr_zero, clr_succ, rd_true, rd_val, rd_int, rd_tup, rd_bl, rd_str, rd_non, rd_ref, rd_fn, rd_exc, bindT_nm, bindT_tp, setAll_nil, setAll_cons, putAllS_nil, putAllS_cons, kTup, kLst, kBox, kBin2, kBin1, kNeg, kBl, kNot, kCmp2, kCmp1, kCh4, kCh3, kCh2, kCh1, kIsN, kNotN, kIsT, kNotT, kIfe, kIdx2, kIdx1, kOpt, kSl3, kSl2, kSl1, kRev, kCall, kCd2, kCd1, kBi, kBit2, kBit1, kIsin, kItems, kElt2, kElt1, cF, kComp, kEs2, kEs1, kAnd, kOr, kRng2, kRng1, kEn2, kEn1, e_var, e_k, e_glob, e_fnv, e_tup, e_lst, e_box, e_bin, e_neg, e_and, e_or, e_not, e_cmp, e_chain, e_isN, e_notN, e_isT, e_notT, e_ife, e_idx, e_slice, e_rev, e_call, e_calld, e_bi, e_bit, e_isin, e_comp, e_range, e_enum, es_nil, es_cons, and_nil, and_cons, or_nil, or_cons, kVal, kMv, kRs2, kRs1, kAsg, optS, kAsgT, kPar, kSet3, set2, kSet1, kApp, app2, pop2, kAug, aug2, kExpr, kIff, wC, fB, kFor, kRet, rh_var, rh_e, rv_val, rv_int, rv_tup, rv_bl, rv_str, rv_non, rv_ref, rv_fn, rv_exc, rv_ownL, rv_ownD, rr_nil, rr_cons, x_asg, x_asgT, x_par, x_setI, x_app, x_pop, x_aug, x_expr, x_frz, x_iff, x_whl, x_for, x_ret, x_retN, x_brk, x_pass, x_never, xs_nil, xs_cons, frE, cont, held, freeze, startS, List.map_cons, List.map_nil, List.replicate, List.cons_append, List.nil_append, List.append_nil, List.length_cons, List.length_nil, List.head?_cons, List.head?_nil, ↓reduceIte, Nat.reduceAdd, Nat.reduceSub, Nat.reduceEqDiff, reduceCtorEq, and_true, true_and, and_false, false_and, or_true, true_or, or_false, false_or, not_true_eq_false, not_false_eq_true, Bool.not_true, Bool.not_false, Bool.false_eq_true, Bool.true_eq_false, ne_eq, if_true, if_false, eq_self, deref, items, seqs, isOk, isinV, List.any_cons, List.any_nil, Bool.or_false, Bool.false_or, Bool.or_true, Bool.true_or, bitIn, bitV, optInt, implies_true, Option.map_some, Option.map_none, forall_const, PV.int.injEq, PV.bl.injEq, and_self, or_self, Int.reduceNeg, Int.reduceSub, Int.reduceAdd, Option.some.injEq, i_bl, i_and, i_or, Bool.and_true, Bool.true_and, Bool.and_false, Bool.false_and, Bool.not_not, nb_non, nb_int, nb_tup, nb_lst, nb_bl, nb_str, tb_non, tb_int, tb_bl, v_add, v_sub, a_add, a_sub, q_int, n_int, q_bl, n_bl, lt_int, gt_int, le_int, ge_int, q_tup, n_tup, q_tup0, n_tup0, q_0tup, q_00, n_0tup, n_00, q_l00, n_l00, q_lst, n_lst, q_lst0, n_lst0, in_tup, ni_tup, in_lst, ni_lst, ix_t, ix_l, ix_r, ix_e, atP_zero, atP_one, atP_two, atP_three, len_t, len_l, len_s, int_i, max2_i, min2_i, lt_tup, decide_true, decide_false, Int.reduceLE, Int.reduceLT, Int.reduceToNat, List.getElem?_cons_zero, List.getElem?_cons_succ, List.set_cons_zero, List.set_cons_succ, List.length_map, it_lst, it_tup]
      refine hnx _ _ ⟨rfl, ?_, some (Tag.val, PV.int g), some (Tag.val, PV.int (begunS n (la b) g)), ?_⟩
      · rw [List.map_append, List.sum_append]; simp; omega
      · rw [List.map_append, List.sum_append]
        simp only [List.map_cons, List.map_nil, List.sum_cons, List.sum_nil, Int.add_zero]
        rw [show r' - b1 (okf b f) - ((List.map (begunS n (la b)) l).sum + begunS n (la b) g) = r' - b1 (okf b f) - (List.map (begunS n (la b)) l).sum - begunS n (la b) g by omega]
        rfl
  · rintro σ S'' ⟨rfl, hge, t7, t8, rfl⟩
    exfalso
    have := I.hi
    unfold Wt sumC at this
    omega
theorem m_at_in (k : Nat) (n : Int) (b : List Int) (r : Int) (S : St) (h : Stand n b) (h0 : b ≠ []) (hn : n ≤ 40) (hr : 0 ≤ r ∧ r < Wt n (la b) false (hd b)) :
    ∃ t, cl T gv (k+3) 167 [.int n, .tup (b.map .int), .int r] S = .ok (.tup (t.map .int)) S ∧ Vd n (la b) false (hd b) t ∧ Rk n (la b) false (hd b) t = r := by
  obtain ⟨g1, g2, g3⟩ := hd_la h h0
  have e1 : (line : Int) = 16777216 := rfl
  have e2 : lineI = 4611686018427387904 := rfl
  have main : ∃ v S', cl T gv (k+3) 167 [.int n, .tup (b.map .int), .int r] S = .ok v S' ∧ S' = S ∧ ∃ t, v = .tup (t.map .int) ∧ Vd n (la b) false (hd b) t ∧ Rk n (la b) false (hd b) t = r := by
    refine callF_ex (d := d_at_in) rfl rfl ?_
    simp only [d_at_in, bind_ok, liftS_ok, op1_some, andThen_nx, andThen_rt, andThen_bk, fin_rt, fin_nx, asB_bl, getS_zero, getS_succ, getS_nil, setS_zero, setS_succ, clr_zero, clr_succ, rd_true, rd_val, rd_int, rd_tup, rd_bl, rd_str, rd_non, rd_ref, rd_fn, rd_exc, bindT_nm, bindT_tp, setAll_nil, setAll_cons, putAllS_nil, putAllS_cons, kTup, kLst, kBox, kBin2, kBin1, kNeg, kBl, kNot, kCmp2, kCmp1, kCh4, kCh3, kCh2, kCh1, kIsN, kNotN, kIsT, kNotT, kIfe, kIdx2, kIdx1, kOpt, kSl3, kSl2, kSl1, kRev, kCall, kCd2, kCd1, kBi, kBit2, kBit1, kIsin, kItems, kElt2, kElt1, cF, kComp, kEs2, kEs1, kAnd, kOr, kRng2, kRng1, kEn2, kEn1, e_var, e_k, e_glob, e_fnv, e_tup, e_lst, e_box, e_bin, e_neg, e_and, e_or, e_not, e_cmp, e_chain, e_isN, e_notN, e_isT, e_notT, e_ife, e_idx, e_slice, e_rev, e_call, e_calld, e_bi, e_bit, e_isin, e_comp, e_range, e_enum, es_nil, es_cons, and_nil, and_cons, or_nil, or_cons, kVal, kMv, kRs2, kRs1, kAsg, optS, kAsgT, kPar, kSet3, set2, kSet1, kApp, app2, pop2, kAug, aug2, kExpr, kIff, wC, fB, kFor, kRet, rh_var, rh_e, rv_val, rv_int, rv_tup, rv_bl, rv_str, rv_non, rv_ref, rv_fn, rv_exc, rv_ownL, rv_ownD, rr_nil, rr_cons, x_asg, x_asgT, x_par, x_setI, x_app, x_pop, x_aug, x_expr, x_frz, x_iff, x_whl, x_for, x_ret, x_retN, x_brk, x_pass, x_never, xs_nil, xs_cons, frE, cont, held, freeze, startS, List.map_cons, List.map_nil, List.replicate, List.cons_append, List.nil_append, List.append_nil, List.length_cons, List.length_nil, List.head?_cons, List.head?_nil, ↓reduceIte, Nat.reduceAdd, Nat.reduceSub, Nat.reduceEqDiff, reduceCtorEq, and_true, true_and, and_false, false_and, or_true, true_or, or_false, false_or, not_true_eq_false, not_false_eq_true, Bool.not_true, Bool.not_false, Bool.false_eq_true, Bool.true_eq_false, ne_eq, if_true, if_false, eq_self, deref, items, seqs, isOk, isinV, List.any_cons, List.any_nil, Bool.or_false, Bool.false_or, Bool.or_true, Bool.true_or, bitIn, bitV, optInt, implies_true, Option.map_some, Option.map_none, forall_const, PV.int.injEq, PV.bl.injEq, and_self, or_self, Int.reduceNeg, Int.reduceSub, Int.reduceAdd, Option.some.injEq, i_bl, i_and, i_or, Bool.and_true, Bool.true_and, Bool.and_false, Bool.false_and, Bool.not_not, nb_non, nb_int, nb_tup, nb_lst, nb_bl, nb_str, tb_non, tb_int, tb_bl, v_add, v_sub, a_add, a_sub, q_int, n_int, q_bl, n_bl, lt_int, gt_int, le_int, ge_int, q_tup, n_tup, q_tup0, n_tup0, q_0tup, q_00, n_0tup, n_00, q_l00, n_l00, q_lst, n_lst, q_lst0, n_lst0, in_tup, ni_tup, in_lst, ni_lst, ix_t, ix_l, ix_r, ix_e, atP_zero, atP_one, atP_two, atP_three, len_t, len_l, len_s, int_i, max2_i, min2_i, lt_tup, decide_true, decide_false, Int.reduceLE, Int.reduceLT, Int.reduceToNat, List.getElem?_cons_zero, List.getElem?_cons_succ, List.set_cons_zero, List.set_cons_succ, List.length_map, it_lst, it_tup, at_hd h0, at_la h0]
    refine while_loop (fun m σ S' => S' = S ∧ ∃ f r' t6 t7 t8, AtI n r b f r' ∧ m = (n - pn b f).toNat ∧ σ = sAt n r r' b f t6 t7 t8) (m := (n - hd b).toNat) ⟨rfl, [], r, Tag.val, _, _, ⟨hr.1, by simpa [okf, pn] using hr.2, by simp [pn]; omega, by simp [pn], by simp [pn], fun t ht => by simpa [okf, pn] using ht⟩, by simp [pn], rfl⟩ (by unfold G.WF; omega) ?_
    rintro m σ S' ⟨rfl, f, r', t6, t7, t8, I, rfl, rfl⟩
    refine ⟨true, S', by simp only [bind_ok, liftS_ok, op1_some, andThen_nx, andThen_rt, andThen_bk, fin_rt, fin_nx, asB_bl, getS_zero, getS_succ, getS_nil, setS_zero, setS_succ, clr_zero, clr_succ, rd_true, rd_val, rd_int, rd_tup, rd_bl, rd_str, rd_non, rd_ref, rd_fn, rd_exc, bindT_nm, bindT_tp, setAll_nil, setAll_cons, putAllS_nil, putAllS_cons, kTup, kLst, kBox, kBin2, kBin1, kNeg, kBl, kNot, kCmp2, kCmp1, kCh4, kCh3, kCh2, kCh1, kIsN, kNotN, kIsT, kNotT, kIfe, kIdx2, kIdx1, kOpt, kSl3, kSl2, kSl1, kRev, kCall, kCd2, kCd1, kBi, kBit2, kBit1, kIsin, kItems, kElt2, kElt1, cF, kComp, kEs2, kEs1, kAnd, kOr, kRng2, kRng1, kEn2, kEn1, e_var, e_k, e_glob, e_fnv, e_tup, e_lst, e_box, e_bin, e_neg, e_and, e_or, e_not, e_cmp, e_chain, e_isN, e_notN, e_isT, e_notT, e_ife, e_idx, e_slice, e_rev, e_call, e_calld, e_bi, e_bit, e_isin, e_comp, e_range, e_enum, es_nil, es_cons, and_nil, and_cons, or_nil, or_cons, kVal, kMv, kRs2, kRs1, kAsg, optS, kAsgT, kPar, kSet3, set2, kSet1, kApp, app2, pop2, kAug, aug2, kExpr, kIff, wC, fB, kFor, kRet, rh_var, rh_e, rv_val, rv_int, rv_tup, rv_bl, rv_str, rv_non, rv_ref, rv_fn, rv_exc, rv_ownL, rv_ownD, rr_nil, rr_cons, x_asg, x_asgT, x_par, x_setI, x_app, x_pop, x_aug, x_expr, x_frz, x_iff, x_whl, x_for, x_ret, x_retN, x_brk, x_pass, x_never, xs_nil, xs_cons, frE, cont, held, freeze, startS, List.map_cons, List.map_nil, List.replicate, List.cons_append, List.nil_append, List.append_nil, List.length_cons, List.length_nil, List.head?_cons, List.head?_nil, ↓reduceIte, Nat.reduceAdd, Nat.reduceSub, Nat.reduceEqDiff, reduceCtorEq, and_true, true_and, and_false, false_and, or_true, true_or, or_false, false_or, not_true_eq_false, not_false_eq_true, Bool.not_true, Bool.not_false, Bool.false_eq_true, Bool.true_eq_false, ne_eq, if_true, if_false, eq_self, deref, items, seqs, isOk, isinV, List.any_cons, List.any_nil, Bool.or_false, Bool.false_or, Bool.or_true, Bool.true_or, bitIn, bitV, optInt, implies_true, Option.map_some, Option.map_none, forall_const, PV.int.injEq, PV.bl.injEq, and_self, or_self, Int.reduceNeg, Int.reduceSub, Int.reduceAdd, Option.some.injEq, i_bl, i_and, i_or, Bool.and_true, Bool.true_and, Bool.and_false, Bool.false_and, Bool.not_not, nb_non, nb_int, nb_tup, nb_lst, nb_bl, nb_str, tb_non, tb_int, tb_bl, v_add, v_sub, a_add, a_sub, q_int, n_int, q_bl, n_bl, lt_int, gt_int, le_int, ge_int, q_tup, n_tup, q_tup0, n_tup0, q_0tup, q_00, n_0tup, n_00, q_l00, n_l00, q_lst, n_lst, q_lst0, n_lst0, in_tup, ni_tup, in_lst, ni_lst, ix_t, ix_l, ix_r, ix_e, atP_zero, atP_one, atP_two, atP_three, len_t, len_l, len_s, int_i, max2_i, min2_i, lt_tup, decide_true, decide_false, Int.reduceLE, Int.reduceLT, Int.reduceToNat, List.getElem?_cons_zero, List.getElem?_cons_succ, List.set_cons_zero, List.set_cons_succ, List.length_map, it_lst, it_tup], fun _ Q' hnx hbk hrt => ?_, fun z => by cases z⟩
    have hp1 := I.pn1
    have hp0 := I.pn0
    simp only [b_at_in_2, sAt, bind_ok, liftS_ok, op1_some, andThen_nx, andThen_rt, andThen_bk, fin_rt, fin_nx, asB_bl, getS_zero, getS_succ, getS_nil, setS_zero, setS_succ, clr_zero, clr_succ, rd_true, rd_val, rd_int, rd_tup, rd_bl, rd_str, rd_non, rd_ref, rd_fn, rd_exc, bindT_nm, bindT_tp, setAll_nil, setAll_cons, putAllS_nil, putAllS_cons, kTup, kLst, kBox, kBin2, kBin1, kNeg, kBl, kNot, kCmp2, kCmp1, kCh4, kCh3, kCh2, kCh1, kIsN, kNotN, kIsT, kNotT, kIfe, kIdx2, kIdx1, kOpt, kSl3, kSl2, kSl1, kRev, kCall, kCd2, kCd1, kBi, kBit2, kBit1, kIsin, kItems, kElt2, kElt1, cF, kComp, kEs2, kEs1, kAnd, kOr, kRng2, kRng1, kEn2, kEn1, e_var, e_k, e_glob, e_fnv, e_tup, e_lst, e_box, e_bin, e_neg, e_and, e_or, e_not, e_cmp, e_chain, e_isN, e_notN, e_isT, e_notT, e_ife, e_idx, e_slice, e_rev, e_call, e_calld, e_bi, e_bit, e_isin, e_comp, e_range, e_enum, es_nil, es_cons, and_nil, and_cons, or_nil, or_cons, kVal, kMv, kRs2, kRs1, kAsg, optS, kAsgT, kPar, kSet3, set2, kSet1, kApp, app2, pop2, kAug, aug2, kExpr, kIff, wC, fB, kFor, kRet, rh_var, rh_e, rv_val, rv_int, rv_tup, rv_bl, rv_str, rv_non, rv_ref, rv_fn, rv_exc, rv_ownL, rv_ownD, rr_nil, rr_cons, x_asg, x_asgT, x_par, x_setI, x_app, x_pop, x_aug, x_expr, x_frz, x_iff, x_whl, x_for, x_ret, x_retN, x_brk, x_pass, x_never, xs_nil, xs_cons, frE, cont, held, freeze, startS, List.map_cons, List.map_nil, List.replicate, List.cons_append, List.nil_append, List.append_nil, List.length_cons, List.length_nil, List.head?_cons, List.head?_nil, ↓reduceIte, Nat.reduceAdd, Nat.reduceSub, Nat.reduceEqDiff, reduceCtorEq, and_true, true_and, and_false, false_and, or_true, true_or, or_false, false_or, not_true_eq_false, not_false_eq_true, Bool.not_true, Bool.not_false, Bool.false_eq_true, Bool.true_eq_false, ne_eq, if_true, if_false, eq_self, deref, items, seqs, isOk, isinV, List.any_cons, List.any_nil, Bool.or_false, Bool.false_or, Bool.or_true, Bool.true_or, bitIn, bitV, optInt, implies_true, Option.map_some, Option.map_none, forall_const, PV.int.injEq, PV.bl.injEq, and_self, or_self, Int.reduceNeg, Int.reduceSub, Int.reduceAdd, Option.some.injEq, i_bl, i_and, i_or, Bool.and_true, Bool.true_and, Bool.and_false, Bool.false_and, Bool.not_not, nb_non, nb_int, nb_tup, nb_lst, nb_bl, nb_str, tb_non, tb_int, tb_bl, v_add, v_sub, a_add, a_sub, q_int, n_int, q_bl, n_bl, lt_int, gt_int, le_int, ge_int, q_tup, n_tup, q_tup0, n_tup0, q_0tup, q_00, n_0tup, n_00, q_l00, n_l00, q_lst, n_lst, q_lst0, n_lst0, in_tup, ni_tup, in_lst, ni_lst, ix_t, ix_l, ix_r, ix_e, atP_zero, atP_one, atP_two, atP_three, len_t, len_l, len_s, int_i, max2_i, min2_i, lt_tup, decide_true, decide_false, Int.reduceLE, Int.reduceLT, Int.reduceToNat, List.getElem?_cons_zero, List.getElem?_cons_succ, List.set_cons_zero, List.set_cons_succ, List.length_map, it_lst, it_tup]
    have hrg : rangeV [PV.int (pn b f), PV.int n] = some ((rg (pn b f) (n - pn b f).toNat).map .int) := rangeV2 (by omega) (by omega) (by omega) (by omega)
    have loop := fun (h : 0 ≤ r' - b1 (okf b f)) => at_loop k (S := S') I g1 g3 (by omega) hn h t6 t7 t8 Q' (fun f' r'' t6 t7 t8 hlt J => hnx _ _ _ (by have := J.pn1; omega) ⟨rfl, f', r'', t6, t7, t8, J, rfl, rfl⟩)
    by_cases hf : f = []
    · subst hf
      have ho : okf b [] = false := rfl
      have hpn : pn b [] = hd b := rfl
      have q := loop (by rw [ho]; simp [b1]; exact I.lo)
      rw [hpn] at hrg q
      simp only [bind_ok, liftS_ok, op1_some, andThen_nx, andThen_rt, andThen_bk, fin_rt, fin_nx, asB_bl, getS_zero, getS_succ, getS_nil, setS_zero, setS_succ, clr_zero, clr_succ, rd_true, rd_val, rd_int, rd_tup, rd_bl, rd_str, rd_non, rd_ref, rd_fn, rd_exc, bindT_nm, bindT_tp, setAll_nil, setAll_cons, putAllS_nil, putAllS_cons, kTup, kLst, kBox, kBin2, kBin1, kNeg, kBl, kNot, kCmp2, kCmp1, kCh4, kCh3, kCh2, kCh1, kIsN, kNotN, kIsT, kNotT, kIfe, kIdx2, kIdx1, kOpt, kSl3, kSl2, kSl1, kRev, kCall, kCd2, kCd1, kBi, kBit2, kBit1, kIsin, kItems, kElt2, kElt1, cF, kComp, kEs2, kEs1, kAnd, kOr, kRng2, kRng1, kEn2, kEn1, e_var, e_k, e_glob, e_fnv, e_tup, e_lst, e_box, e_bin, e_neg, e_and, e_or, e_not, e_cmp, e_chain, e_isN, e_notN, e_isT, e_notT, e_ife, e_idx, e_slice, e_rev, e_call, e_calld, e_bi, e_bit, e_isin, e_comp, e_range, e_enum, es_nil, es_cons, and_nil, and_cons, or_nil, or_cons, kVal, kMv, kRs2, kRs1, kAsg, optS, kAsgT, kPar, kSet3, set2, kSet1, kApp, app2, pop2, kAug, aug2, kExpr, kIff, wC, fB, kFor, kRet, rh_var, rh_e, rv_val, rv_int, rv_tup, rv_bl, rv_str, rv_non, rv_ref, rv_fn, rv_exc, rv_ownL, rv_ownD, rr_nil, rr_cons, x_asg, x_asgT, x_par, x_setI, x_app, x_pop, x_aug, x_expr, x_frz, x_iff, x_whl, x_for, x_ret, x_retN, x_brk, x_pass, x_never, xs_nil, xs_cons, frE, cont, held, freeze, startS, List.map_cons, List.map_nil, List.replicate, List.cons_append, List.nil_append, List.append_nil, List.length_cons, List.length_nil, List.head?_cons, List.head?_nil, ↓reduceIte, Nat.reduceAdd, Nat.reduceSub, Nat.reduceEqDiff, reduceCtorEq, and_true, true_and, and_false, false_and, or_true, true_or, or_false, false_or, not_true_eq_false, not_false_eq_true, Bool.not_true, Bool.not_false, Bool.false_eq_true, Bool.true_eq_false, ne_eq, if_true, if_false, eq_self, deref, items, seqs, isOk, isinV, List.any_cons, List.any_nil, Bool.or_false, Bool.false_or, Bool.or_true, Bool.true_or, bitIn, bitV, optInt, implies_true, Option.map_some, Option.map_none, forall_const, PV.int.injEq, PV.bl.injEq, and_self, or_self, Int.reduceNeg, Int.reduceSub, Int.reduceAdd, Option.some.injEq, i_bl, i_and, i_or, Bool.and_true, Bool.true_and, Bool.and_false, Bool.false_and, Bool.not_not, nb_non, nb_int, nb_tup, nb_lst, nb_bl, nb_str, tb_non, tb_int, tb_bl, v_add, v_sub, a_add, a_sub, q_int, n_int, q_bl, n_bl, lt_int, gt_int, le_int, ge_int, q_tup, n_tup, q_tup0, n_tup0, q_0tup, q_00, n_0tup, n_00, q_l00, n_l00, q_lst, n_lst, q_lst0, n_lst0, in_tup, ni_tup, in_lst, ni_lst, ix_t, ix_l, ix_r, ix_e, atP_zero, atP_one, atP_two, atP_three, len_t, len_l, len_s, int_i, max2_i, min2_i, lt_tup, decide_true, decide_false, Int.reduceLE, Int.reduceLT, Int.reduceToNat, List.getElem?_cons_zero, List.getElem?_cons_succ, List.set_cons_zero, List.set_cons_succ, List.length_map, it_lst, it_tup, hrg]
      simp only [ho, b1, Bool.false_eq_true, if_false, Int.sub_zero, sAt, List.map_nil] at q
      exact q
    · have hpn : pn b f = la f + 1 := by simp [pn, hf]
      rw [hpn] at hrg loop
      by_cases hl : la b ≤ la f
      · have ho : okf b f = true := by simp [okf, hf, hl]
        by_cases hz : r' = 0
        · subst hz
          simp only [hf, hl, bind_ok, liftS_ok, op1_some, andThen_nx, andThen_rt, andThen_bk, fin_rt, fin_nx, asB_bl, getS_zero, getS_succ, getS_nil, setS_zero, setS_succ, clr_zero, clr_succ, rd_true, rd_val, rd_int, rd_tup, rd_bl, rd_str, rd_non, rd_ref, rd_fn, rd_exc, bindT_nm, bindT_tp, setAll_nil, setAll_cons, putAllS_nil, putAllS_cons, kTup, kLst, kBox, kBin2, kBin1, kNeg, kBl, kNot, kCmp2, kCmp1, kCh4, kCh3, kCh2, kCh1, kIsN, kNotN, kIsT, kNotT, kIfe, kIdx2, kIdx1, kOpt, kSl3, kSl2, kSl1, kRev, kCall, kCd2, kCd1, kBi, kBit2, kBit1, kIsin, kItems, kElt2, kElt1, cF, kComp, kEs2, kEs1, kAnd, kOr, kRng2, kRng1, kEn2, kEn1, e_var, e_k, e_glob, e_fnv, e_tup, e_lst, e_box, e_bin, e_neg, e_and, e_or, e_not, e_cmp, e_chain, e_isN, e_notN, e_isT, e_notT, e_ife, e_idx, e_slice, e_rev, e_call, e_calld, e_bi, e_bit, e_isin, e_comp, e_range, e_enum, es_nil, es_cons, and_nil, and_cons, or_nil, or_cons, kVal, kMv, kRs2, kRs1, kAsg, optS, kAsgT, kPar, kSet3, set2, kSet1, kApp, app2, pop2, kAug, aug2, kExpr, kIff, wC, fB, kFor, kRet, rh_var, rh_e, rv_val, rv_int, rv_tup, rv_bl, rv_str, rv_non, rv_ref, rv_fn, rv_exc, rv_ownL, rv_ownD, rr_nil, rr_cons, x_asg, x_asgT, x_par, x_setI, x_app, x_pop, x_aug, x_expr, x_frz, x_iff, x_whl, x_for, x_ret, x_retN, x_brk, x_pass, x_never, xs_nil, xs_cons, frE, cont, held, freeze, startS, List.map_cons, List.map_nil, List.replicate, List.cons_append, List.nil_append, List.append_nil, List.length_cons, List.length_nil, List.head?_cons, List.head?_nil, ↓reduceIte, Nat.reduceAdd, Nat.reduceSub, Nat.reduceEqDiff, reduceCtorEq, and_true, true_and, and_false, false_and, or_true, true_or, or_false, false_or, not_true_eq_false, not_false_eq_true, Bool.not_true, Bool.not_false, Bool.false_eq_true, Bool.true_eq_false, ne_eq, if_true, if_false, eq_self, deref, items, seqs, isOk, isinV, List.any_cons, List.any_nil, Bool.or_false, Bool.false_or, Bool.or_true, Bool.true_or, bitIn, bitV, optInt, implies_true, Option.map_some, Option.map_none, forall_const, PV.int.injEq, PV.bl.injEq, and_self, or_self, Int.reduceNeg, Int.reduceSub, Int.reduceAdd, Option.some.injEq, i_bl, i_and, i_or, Bool.and_true, Bool.true_and, Bool.and_false, Bool.false_and, Bool.not_not, nb_non, nb_int, nb_tup, nb_lst, nb_bl, nb_str, tb_non, tb_int, tb_bl, v_add, v_sub, a_add, a_sub, q_int, n_int, q_bl, n_bl, lt_int, gt_int, le_int, ge_int, q_tup, n_tup, q_tup0, n_tup0, q_0tup, q_00, n_0tup, n_00, q_l00, n_l00, q_lst, n_lst, q_lst0, n_lst0, in_tup, ni_tup, in_lst, ni_lst, ix_t, ix_l, ix_r, ix_e, atP_zero, atP_one, atP_two, atP_three, len_t, len_l, len_s, int_i, max2_i, min2_i, lt_tup, decide_true, decide_false, Int.reduceLE, Int.reduceLT, Int.reduceToNat, List.getElem?_cons_zero, List.getElem?_cons_succ, List.set_cons_zero, List.set_cons_succ, List.length_map, it_lst, it_tup, at_la hf]
          obtain ⟨a1, a2⟩ := I.all [] (by rw [ho]; rfl)
          refine hrt _ _ ⟨_, _, rfl, rfl, f, rfl, by simpa using a1, ?_⟩
          rw [List.append_nil] at a2
          rw [a2]; simp [Rk]
        · simp only [hf, hl, hz, bind_ok, liftS_ok, op1_some, andThen_nx, andThen_rt, andThen_bk, fin_rt, fin_nx, asB_bl, getS_zero, getS_succ, getS_nil, setS_zero, setS_succ, clr_zero, clr_succ, rd_true, rd_val, rd_int, rd_tup, rd_bl, rd_str, rd_non, rd_ref, rd_fn, rd_exc, bindT_nm, bindT_tp, setAll_nil, setAll_cons, putAllS_nil, putAllS_cons, kTup, kLst, kBox, kBin2, kBin1, kNeg, kBl, kNot, kCmp2, kCmp1, kCh4, kCh3, kCh2, kCh1, kIsN, kNotN, kIsT, kNotT, kIfe, kIdx2, kIdx1, kOpt, kSl3, kSl2, kSl1, kRev, kCall, kCd2, kCd1, kBi, kBit2, kBit1, kIsin, kItems, kElt2, kElt1, cF, kComp, kEs2, kEs1, kAnd, kOr, kRng2, kRng1, kEn2, kEn1, e_var, e_k, e_glob, e_fnv, e_tup, e_lst, e_box, e_bin, e_neg, e_and, e_or, e_not, e_cmp, e_chain, e_isN, e_notN, e_isT, e_notT, e_ife, e_idx, e_slice, e_rev, e_call, e_calld, e_bi, e_bit, e_isin, e_comp, e_range, e_enum, es_nil, es_cons, and_nil, and_cons, or_nil, or_cons, kVal, kMv, kRs2, kRs1, kAsg, optS, kAsgT, kPar, kSet3, set2, kSet1, kApp, app2, pop2, kAug, aug2, kExpr, kIff, wC, fB, kFor, kRet, rh_var, rh_e, rv_val, rv_int, rv_tup, rv_bl, rv_str, rv_non, rv_ref, rv_fn, rv_exc, rv_ownL, rv_ownD, rr_nil, rr_cons, x_asg, x_asgT, x_par, x_setI, x_app, x_pop, x_aug, x_expr, x_frz, x_iff, x_whl, x_for, x_ret, x_retN, x_brk, x_pass, x_never, xs_nil, xs_cons, frE, cont, held, freeze, startS, List.map_cons, List.map_nil, List.replicate, List.cons_append, List.nil_append, List.append_nil, List.length_cons, List.length_nil, List.head?_cons, List.head?_nil, ↓reduceIte, Nat.reduceAdd, Nat.reduceSub, Nat.reduceEqDiff, reduceCtorEq, and_true, true_and, and_false, false_and, or_true, true_or, or_false, false_or, not_true_eq_false, not_false_eq_true, Bool.not_true, Bool.not_false, Bool.false_eq_true, Bool.true_eq_false, ne_eq, if_true, if_false, eq_self, deref, items, seqs, isOk, isinV, List.any_cons, List.any_nil, Bool.or_false, Bool.false_or, Bool.or_true, Bool.true_or, bitIn, bitV, optInt, implies_true, Option.map_some, Option.map_none, forall_const, PV.int.injEq, PV.bl.injEq, and_self, or_self, Int.reduceNeg, Int.reduceSub, Int.reduceAdd, Option.some.injEq, i_bl, i_and, i_or, Bool.and_true, Bool.true_and, Bool.and_false, Bool.false_and, Bool.not_not, nb_non, nb_int, nb_tup, nb_lst, nb_bl, nb_str, tb_non, tb_int, tb_bl, v_add, v_sub, a_add, a_sub, q_int, n_int, q_bl, n_bl, lt_int, gt_int, le_int, ge_int, q_tup, n_tup, q_tup0, n_tup0, q_0tup, q_00, n_0tup, n_00, q_l00, n_l00, q_lst, n_lst, q_lst0, n_lst0, in_tup, ni_tup, in_lst, ni_lst, ix_t, ix_l, ix_r, ix_e, atP_zero, atP_one, atP_two, atP_three, len_t, len_l, len_s, int_i, max2_i, min2_i, lt_tup, decide_true, decide_false, Int.reduceLE, Int.reduceLT, Int.reduceToNat, List.getElem?_cons_zero, List.getElem?_cons_succ, List.set_cons_zero, List.set_cons_succ, List.length_map, it_lst, it_tup, at_la hf, hrg]
          have q := loop (by rw [ho]; simp [b1]; have := I.lo; omega)
          simp only [ho, b1, if_true, sAt] at q
          exact q
      · have ho : okf b f = false := by simp [okf, hl]
        simp only [hf, hl, bind_ok, liftS_ok, op1_some, andThen_nx, andThen_rt, andThen_bk, fin_rt, fin_nx, asB_bl, getS_zero, getS_succ, getS_nil, setS_zero, setS_succ, clr_zero, clr_succ, rd_true, rd_val, rd_int, rd_tup, rd_bl, rd_str, rd_non, rd_ref, rd_fn, rd_exc, bindT_nm, bindT_tp, setAll_nil, setAll_cons, putAllS_nil, putAllS_cons, kTup, kLst, kBox, kBin2, kBin1, kNeg, kBl, kNot, kCmp2, kCmp1, kCh4, kCh3, kCh2, kCh1, kIsN, kNotN, kIsT, kNotT, kIfe, kIdx2, kIdx1, kOpt, kSl3, kSl2, kSl1, kRev, kCall, kCd2, kCd1, kBi, kBit2, kBit1, kIsin, kItems, kElt2, kElt1, cF, kComp, kEs2, kEs1, kAnd, kOr, kRng2, kRng1, kEn2, kEn1, e_var, e_k, e_glob, e_fnv, e_tup, e_lst, e_box, e_bin, e_neg, e_and, e_or, e_not, e_cmp, e_chain, e_isN, e_notN, e_isT, e_notT, e_ife, e_idx, e_slice, e_rev, e_call, e_calld, e_bi, e_bit, e_isin, e_comp, e_range, e_enum, es_nil, es_cons, and_nil, and_cons, or_nil, or_cons, kVal, kMv, kRs2, kRs1, kAsg, optS, kAsgT, kPar, kSet3, set2, kSet1, kApp, app2, pop2, kAug, aug2, kExpr, kIff, wC, fB, kFor, kRet, rh_var, rh_e, rv_val, rv_int, rv_tup, rv_bl, rv_str, rv_non, rv_ref, rv_fn, rv_exc, rv_ownL, rv_ownD, rr_nil, rr_cons, x_asg, x_asgT, x_par, x_setI, x_app, x_pop, x_aug, x_expr, x_frz, x_iff, x_whl, x_for, x_ret, x_retN, x_brk, x_pass, x_never, xs_nil, xs_cons, frE, cont, held, freeze, startS, List.map_cons, List.map_nil, List.replicate, List.cons_append, List.nil_append, List.append_nil, List.length_cons, List.length_nil, List.head?_cons, List.head?_nil, ↓reduceIte, Nat.reduceAdd, Nat.reduceSub, Nat.reduceEqDiff, reduceCtorEq, and_true, true_and, and_false, false_and, or_true, true_or, or_false, false_or, not_true_eq_false, not_false_eq_true, Bool.not_true, Bool.not_false, Bool.false_eq_true, Bool.true_eq_false, ne_eq, if_true, if_false, eq_self, deref, items, seqs, isOk, isinV, List.any_cons, List.any_nil, Bool.or_false, Bool.false_or, Bool.or_true, Bool.true_or, bitIn, bitV, optInt, implies_true, Option.map_some, Option.map_none, forall_const, PV.int.injEq, PV.bl.injEq, and_self, or_self, Int.reduceNeg, Int.reduceSub, Int.reduceAdd, Option.some.injEq, i_bl, i_and, i_or, Bool.and_true, Bool.true_and, Bool.and_false, Bool.false_and, Bool.not_not, nb_non, nb_int, nb_tup, nb_lst, nb_bl, nb_str, tb_non, tb_int, tb_bl, v_add, v_sub, a_add, a_sub, q_int, n_int, q_bl, n_bl, lt_int, gt_int, le_int, ge_int, q_tup, n_tup, q_tup0, n_tup0, q_0tup, q_00, n_0tup, n_00, q_l00, n_l00, q_lst, n_lst, q_lst0, n_lst0, in_tup, ni_tup, in_lst, ni_lst, ix_t, ix_l, ix_r, ix_e, atP_zero, atP_one, atP_two, atP_three, len_t, len_l, len_s, int_i, max2_i, min2_i, lt_tup, decide_true, decide_false, Int.reduceLE, Int.reduceLT, Int.reduceToNat, List.getElem?_cons_zero, List.getElem?_cons_succ, List.set_cons_zero, List.set_cons_succ, List.length_map, it_lst, it_tup, at_la hf, hrg]
        have q := loop (by rw [ho]; simp [b1]; exact I.lo)
        simp only [ho, b1, Bool.false_eq_true, if_false, Int.sub_zero, sAt] at q
        exact q
  obtain ⟨v, S', e, rfl, t, rfl, z⟩ := main
  exact ⟨t, e, z⟩
end L
end G
end

section
set_option autoImplicit false
/-! R24c: numbers of standings of rows: the other defs, the law. -/
namespace G
namespace L
/-- the standing with a number -/
def IsAt (n : Int) (b : List Int) (i : Int) (t : List Int) : Prop := if b = [] then t = [] else Vd n (la b) false (hd b) t ∧ Rk n (la b) false (hd b) t = i
theorem W_countS {n : Int} {b : List Int} (h : Stand n b) (h0 : b ≠ []) : Wt n (la b) false (hd b) = countS n b := by
  obtain ⟨g1, g2, g3⟩ := hd_la h h0
  rw [W_count g3 g2]
  simp [countS, h0]
theorem m_row_come_at (k : Nat) (n : Int) (b : List Int) (i : Int) (S : St) (h : Stand n b) (h1 : 1 ≤ n) (h2 : n ≤ 40) (hi : 0 ≤ i) (hi2 : i < countS n b) : ∃ t, cl T gv (k+4) 168 [.int n, .tup (b.map .int), .int i] S = .ok (.tup (t.map .int)) S ∧ IsAt n b i t := by
  have e1 : (line : Int) = 16777216 := rfl
  have e2 : lineI = 4611686018427387904 := rfl
  by_cases h0 : b = []
  · subst h0
    have hi2 : i < 1 := hi2
    refine ⟨[], ?_, by simp [IsAt]⟩
    refine callF_sat (d := d_row_come_at) rfl rfl ?_
    simp only [d_row_come_at, bind_ok, liftS_ok, op1_some, andThen_nx, andThen_rt, andThen_bk, fin_rt, fin_nx, asB_bl, getS_zero, getS_succ, getS_nil, setS_zero, setS_succ, clr_zero, clr_succ, rd_true, rd_val, rd_int, rd_tup, rd_bl, rd_str, rd_non, rd_ref, rd_fn, rd_exc, bindT_nm, bindT_tp, setAll_nil, setAll_cons, putAllS_nil, putAllS_cons, kTup, kLst, kBox, kBin2, kBin1, kNeg, kBl, kNot, kCmp2, kCmp1, kCh4, kCh3, kCh2, kCh1, kIsN, kNotN, kIsT, kNotT, kIfe, kIdx2, kIdx1, kOpt, kSl3, kSl2, kSl1, kRev, kCall, kCd2, kCd1, kBi, kBit2, kBit1, kIsin, kItems, kElt2, kElt1, cF, kComp, kEs2, kEs1, kAnd, kOr, kRng2, kRng1, kEn2, kEn1, e_var, e_k, e_glob, e_fnv, e_tup, e_lst, e_box, e_bin, e_neg, e_and, e_or, e_not, e_cmp, e_chain, e_isN, e_notN, e_isT, e_notT, e_ife, e_idx, e_slice, e_rev, e_call, e_calld, e_bi, e_bit, e_isin, e_comp, e_range, e_enum, es_nil, es_cons, and_nil, and_cons, or_nil, or_cons, kVal, kMv, kRs2, kRs1, kAsg, optS, kAsgT, kPar, kSet3, set2, kSet1, kApp, app2, pop2, kAug, aug2, kExpr, kIff, wC, fB, kFor, kRet, rh_var, rh_e, rv_val, rv_int, rv_tup, rv_bl, rv_str, rv_non, rv_ref, rv_fn, rv_exc, rv_ownL, rv_ownD, rr_nil, rr_cons, x_asg, x_asgT, x_par, x_setI, x_app, x_pop, x_aug, x_expr, x_frz, x_iff, x_whl, x_for, x_ret, x_retN, x_brk, x_pass, x_never, xs_nil, xs_cons, frE, cont, held, freeze, startS, List.map_cons, List.map_nil, List.replicate, List.cons_append, List.nil_append, List.append_nil, List.length_cons, List.length_nil, List.head?_cons, List.head?_nil, ↓reduceIte, Nat.reduceAdd, Nat.reduceSub, Nat.reduceEqDiff, reduceCtorEq, and_true, true_and, and_false, false_and, or_true, true_or, or_false, false_or, not_true_eq_false, not_false_eq_true, Bool.not_true, Bool.not_false, Bool.false_eq_true, Bool.true_eq_false, ne_eq, if_true, if_false, eq_self, deref, items, seqs, isOk, isinV, List.any_cons, List.any_nil, Bool.or_false, Bool.false_or, Bool.or_true, Bool.true_or, bitIn, bitV, optInt, implies_true, Option.map_some, Option.map_none, forall_const, PV.int.injEq, PV.bl.injEq, and_self, or_self, Int.reduceNeg, Int.reduceSub, Int.reduceAdd, Option.some.injEq, i_bl, i_and, i_or, Bool.and_true, Bool.true_and, Bool.and_false, Bool.false_and, Bool.not_not, nb_non, nb_int, nb_tup, nb_lst, nb_bl, nb_str, tb_non, tb_int, tb_bl, v_add, v_sub, a_add, a_sub, q_int, n_int, q_bl, n_bl, lt_int, gt_int, le_int, ge_int, q_tup, n_tup, q_tup0, n_tup0, q_0tup, q_00, n_0tup, n_00, q_l00, n_l00, q_lst, n_lst, q_lst0, n_lst0, in_tup, ni_tup, in_lst, ni_lst, ix_t, ix_l, ix_r, ix_e, atP_zero, atP_one, atP_two, atP_three, len_t, len_l, len_s, int_i, max2_i, min2_i, lt_tup, decide_true, decide_false, Int.reduceLE, Int.reduceLT, Int.reduceToNat, List.getElem?_cons_zero, List.getElem?_cons_succ, List.set_cons_zero, List.set_cons_succ, List.length_map, it_lst, it_tup, m_need_many (k+1) n 1 S h1 h2, m_need_burning (k+1) n [] S h, m_is_in, hi, show i ≤ 0 by omega]
    have := m_need_burning (k+1) n [] S h
    simp only [List.map_nil] at this
    simp only [this, bind_ok, liftS_ok, op1_some, andThen_nx, andThen_rt, andThen_bk, fin_rt, fin_nx, asB_bl, getS_zero, getS_succ, getS_nil, setS_zero, setS_succ, clr_zero, clr_succ, rd_true, rd_val, rd_int, rd_tup, rd_bl, rd_str, rd_non, rd_ref, rd_fn, rd_exc, bindT_nm, bindT_tp, setAll_nil, setAll_cons, putAllS_nil, putAllS_cons, kTup, kLst, kBox, kBin2, kBin1, kNeg, kBl, kNot, kCmp2, kCmp1, kCh4, kCh3, kCh2, kCh1, kIsN, kNotN, kIsT, kNotT, kIfe, kIdx2, kIdx1, kOpt, kSl3, kSl2, kSl1, kRev, kCall, kCd2, kCd1, kBi, kBit2, kBit1, kIsin, kItems, kElt2, kElt1, cF, kComp, kEs2, kEs1, kAnd, kOr, kRng2, kRng1, kEn2, kEn1, e_var, e_k, e_glob, e_fnv, e_tup, e_lst, e_box, e_bin, e_neg, e_and, e_or, e_not, e_cmp, e_chain, e_isN, e_notN, e_isT, e_notT, e_ife, e_idx, e_slice, e_rev, e_call, e_calld, e_bi, e_bit, e_isin, e_comp, e_range, e_enum, es_nil, es_cons, and_nil, and_cons, or_nil, or_cons, kVal, kMv, kRs2, kRs1, kAsg, optS, kAsgT, kPar, kSet3, set2, kSet1, kApp, app2, pop2, kAug, aug2, kExpr, kIff, wC, fB, kFor, kRet, rh_var, rh_e, rv_val, rv_int, rv_tup, rv_bl, rv_str, rv_non, rv_ref, rv_fn, rv_exc, rv_ownL, rv_ownD, rr_nil, rr_cons, x_asg, x_asgT, x_par, x_setI, x_app, x_pop, x_aug, x_expr, x_frz, x_iff, x_whl, x_for, x_ret, x_retN, x_brk, x_pass, x_never, xs_nil, xs_cons, frE, cont, held, freeze, startS, List.map_cons, List.map_nil, List.replicate, List.cons_append, List.nil_append, List.append_nil, List.length_cons, List.length_nil, List.head?_cons, List.head?_nil, ↓reduceIte, Nat.reduceAdd, Nat.reduceSub, Nat.reduceEqDiff, reduceCtorEq, and_true, true_and, and_false, false_and, or_true, true_or, or_false, false_or, not_true_eq_false, not_false_eq_true, Bool.not_true, Bool.not_false, Bool.false_eq_true, Bool.true_eq_false, ne_eq, if_true, if_false, eq_self, deref, items, seqs, isOk, isinV, List.any_cons, List.any_nil, Bool.or_false, Bool.false_or, Bool.or_true, Bool.true_or, bitIn, bitV, optInt, implies_true, Option.map_some, Option.map_none, forall_const, PV.int.injEq, PV.bl.injEq, and_self, or_self, Int.reduceNeg, Int.reduceSub, Int.reduceAdd, Option.some.injEq, i_bl, i_and, i_or, Bool.and_true, Bool.true_and, Bool.and_false, Bool.false_and, Bool.not_not, nb_non, nb_int, nb_tup, nb_lst, nb_bl, nb_str, tb_non, tb_int, tb_bl, v_add, v_sub, a_add, a_sub, q_int, n_int, q_bl, n_bl, lt_int, gt_int, le_int, ge_int, q_tup, n_tup, q_tup0, n_tup0, q_0tup, q_00, n_0tup, n_00, q_l00, n_l00, q_lst, n_lst, q_lst0, n_lst0, in_tup, ni_tup, in_lst, ni_lst, ix_t, ix_l, ix_r, ix_e, atP_zero, atP_one, atP_two, atP_three, len_t, len_l, len_s, int_i, max2_i, min2_i, lt_tup, decide_true, decide_false, Int.reduceLE, Int.reduceLT, Int.reduceToNat, List.getElem?_cons_zero, List.getElem?_cons_succ, List.set_cons_zero, List.set_cons_succ, List.length_map, it_lst, it_tup, m_is_in, hi, show i ≤ 0 by omega]
    rfl
  · obtain ⟨g1, g2, g3⟩ := hd_la h h0
    obtain ⟨t, e, v, r⟩ := m_at_in k n b i S h h0 h2 ⟨hi, by rw [W_countS h h0]; exact hi2⟩
    refine ⟨t, ?_, by simp [IsAt, h0, v, r]⟩
    refine callF_sat (d := d_row_come_at) rfl rfl ?_
    have p1 := m_power (k+2) (n - hd b) S (by omega) (by omega)
    have p2 := m_power (k+2) (la b - hd b) S (by omega) (by omega)
    have hc : i ≤ 2 ^ (n - hd b).toNat - 2 ^ (la b - hd b).toNat - 1 := by
      unfold countS at hi2
      rw [if_neg h0] at hi2
      omega
    simp only [d_row_come_at, bind_ok, liftS_ok, op1_some, andThen_nx, andThen_rt, andThen_bk, fin_rt, fin_nx, asB_bl, getS_zero, getS_succ, getS_nil, setS_zero, setS_succ, clr_zero, clr_succ, rd_true, rd_val, rd_int, rd_tup, rd_bl, rd_str, rd_non, rd_ref, rd_fn, rd_exc, bindT_nm, bindT_tp, setAll_nil, setAll_cons, putAllS_nil, putAllS_cons, kTup, kLst, kBox, kBin2, kBin1, kNeg, kBl, kNot, kCmp2, kCmp1, kCh4, kCh3, kCh2, kCh1, kIsN, kNotN, kIsT, kNotT, kIfe, kIdx2, kIdx1, kOpt, kSl3, kSl2, kSl1, kRev, kCall, kCd2, kCd1, kBi, kBit2, kBit1, kIsin, kItems, kElt2, kElt1, cF, kComp, kEs2, kEs1, kAnd, kOr, kRng2, kRng1, kEn2, kEn1, e_var, e_k, e_glob, e_fnv, e_tup, e_lst, e_box, e_bin, e_neg, e_and, e_or, e_not, e_cmp, e_chain, e_isN, e_notN, e_isT, e_notT, e_ife, e_idx, e_slice, e_rev, e_call, e_calld, e_bi, e_bit, e_isin, e_comp, e_range, e_enum, es_nil, es_cons, and_nil, and_cons, or_nil, or_cons, kVal, kMv, kRs2, kRs1, kAsg, optS, kAsgT, kPar, kSet3, set2, kSet1, kApp, app2, pop2, kAug, aug2, kExpr, kIff, wC, fB, kFor, kRet, rh_var, rh_e, rv_val, rv_int, rv_tup, rv_bl, rv_str, rv_non, rv_ref, rv_fn, rv_exc, rv_ownL, rv_ownD, rr_nil, rr_cons, x_asg, x_asgT, x_par, x_setI, x_app, x_pop, x_aug, x_expr, x_frz, x_iff, x_whl, x_for, x_ret, x_retN, x_brk, x_pass, x_never, xs_nil, xs_cons, frE, cont, held, freeze, startS, List.map_cons, List.map_nil, List.replicate, List.cons_append, List.nil_append, List.append_nil, List.length_cons, List.length_nil, List.head?_cons, List.head?_nil, ↓reduceIte, Nat.reduceAdd, Nat.reduceSub, Nat.reduceEqDiff, reduceCtorEq, and_true, true_and, and_false, false_and, or_true, true_or, or_false, false_or, not_true_eq_false, not_false_eq_true, Bool.not_true, Bool.not_false, Bool.false_eq_true, Bool.true_eq_false, ne_eq, if_true, if_false, eq_self, deref, items, seqs, isOk, isinV, List.any_cons, List.any_nil, Bool.or_false, Bool.false_or, Bool.or_true, Bool.true_or, bitIn, bitV, optInt, implies_true, Option.map_some, Option.map_none, forall_const, PV.int.injEq, PV.bl.injEq, and_self, or_self, Int.reduceNeg, Int.reduceSub, Int.reduceAdd, Option.some.injEq, i_bl, i_and, i_or, Bool.and_true, Bool.true_and, Bool.and_false, Bool.false_and, Bool.not_not, nb_non, nb_int, nb_tup, nb_lst, nb_bl, nb_str, tb_non, tb_int, tb_bl, v_add, v_sub, a_add, a_sub, q_int, n_int, q_bl, n_bl, lt_int, gt_int, le_int, ge_int, q_tup, n_tup, q_tup0, n_tup0, q_0tup, q_00, n_0tup, n_00, q_l00, n_l00, q_lst, n_lst, q_lst0, n_lst0, in_tup, ni_tup, in_lst, ni_lst, ix_t, ix_l, ix_r, ix_e, atP_zero, atP_one, atP_two, atP_three, len_t, len_l, len_s, int_i, max2_i, min2_i, lt_tup, decide_true, decide_false, Int.reduceLE, Int.reduceLT, Int.reduceToNat, List.getElem?_cons_zero, List.getElem?_cons_succ, List.set_cons_zero, List.set_cons_succ, List.length_map, it_lst, it_tup, m_need_many (k+1) n 1 S h1 h2, m_need_burning (k+1) n b S h, m_is_in, hi, h0, at_hd h0, at_la h0, p1, p2, hc, e]
    rfl
theorem Rk_snoc {n m : Int} : ∀ (l : List Int) (ok : Bool) (p x : Int), Rk n m ok p (l ++ [x]) = Rk n m ok p l + (if l = [] then b1 ok else b1 (decide (m ≤ la l))) + sumC n m (if l = [] then p else la l + 1) x
  | [], ok, p, x => by simp [Rk]
  | y :: l, ok, p, x => by
    have ih := Rk_snoc (n := n) (m := m) l (decide (m ≤ y)) (y + 1) x
    simp only [List.cons_append, Rk, ih]
    cases l with
    | nil => simp [la, Rk]; omega
    | cons z l => simp [la]; omega
theorem sumV_mapf {X : Type} (f : X → Int) (l : List X) : sumV (l.map fun x => PV.int (f x)) = some (l.map f).sum := by
  have := sumV_map (l.map f)
  rw [List.map_map] at this
  exact this
theorem zip_fst {X : Type} : ∀ (l : List X) (n : Nat), (l.zipIdx n).map (·.1) = l
  | [], _ => rfl
  | x :: l, n => by rw [List.zipIdx_cons, List.map_cons, zip_fst l]
def numS (n : Int) (b t : List Int) : PV := if rowComes b t = false then .non else if b = [] then .int 0 else .int (Rk n (la b) false (hd b) t)
theorem m_row_come_number (k : Nat) (n : Int) (b t : List Int) (S : St) (h : Stand n b) (ht : Stand n t) (h1 : 1 ≤ n) (h2 : n ≤ 40) : cl T gv (k+4) 169 [.int n, .tup (b.map .int), .tup (t.map .int)] S = .ok (numS n b t) S := by
  have e1 : (line : Int) = 16777216 := rfl
  have e2 : lineI = 4611686018427387904 := rfl
  refine callF_sat (d := d_row_come_number) rfl rfl ?_
  simp only [d_row_come_number, bind_ok, liftS_ok, op1_some, andThen_nx, andThen_rt, andThen_bk, fin_rt, fin_nx, asB_bl, getS_zero, getS_succ, getS_nil, setS_zero, setS_succ, clr_zero, clr_succ, rd_true, rd_val, rd_int, rd_tup, rd_bl, rd_str, rd_non, rd_ref, rd_fn, rd_exc, bindT_nm, bindT_tp, setAll_nil, setAll_cons, putAllS_nil, putAllS_cons, kTup, kLst, kBox, kBin2, kBin1, kNeg, kBl, kNot, kCmp2, kCmp1, kCh4, kCh3, kCh2, kCh1, kIsN, kNotN, kIsT, kNotT, kIfe, kIdx2, kIdx1, kOpt, kSl3, kSl2, kSl1, kRev, kCall, kCd2, kCd1, kBi, kBit2, kBit1, kIsin, kItems, kElt2, kElt1, cF, kComp, kEs2, kEs1, kAnd, kOr, kRng2, kRng1, kEn2, kEn1, e_var, e_k, e_glob, e_fnv, e_tup, e_lst, e_box, e_bin, e_neg, e_and, e_or, e_not, e_cmp, e_chain, e_isN, e_notN, e_isT, e_notT, e_ife, e_idx, e_slice, e_rev, e_call, e_calld, e_bi, e_bit, e_isin, e_comp, e_range, e_enum, es_nil, es_cons, and_nil, and_cons, or_nil, or_cons, kVal, kMv, kRs2, kRs1, kAsg, optS, kAsgT, kPar, kSet3, set2, kSet1, kApp, app2, pop2, kAug, aug2, kExpr, kIff, wC, fB, kFor, kRet, rh_var, rh_e, rv_val, rv_int, rv_tup, rv_bl, rv_str, rv_non, rv_ref, rv_fn, rv_exc, rv_ownL, rv_ownD, rr_nil, rr_cons, x_asg, x_asgT, x_par, x_setI, x_app, x_pop, x_aug, x_expr, x_frz, x_iff, x_whl, x_for, x_ret, x_retN, x_brk, x_pass, x_never, xs_nil, xs_cons, frE, cont, held, freeze, startS, List.map_cons, List.map_nil, List.replicate, List.cons_append, List.nil_append, List.append_nil, List.length_cons, List.length_nil, List.head?_cons, List.head?_nil, ↓reduceIte, Nat.reduceAdd, Nat.reduceSub, Nat.reduceEqDiff, reduceCtorEq, and_true, true_and, and_false, false_and, or_true, true_or, or_false, false_or, not_true_eq_false, not_false_eq_true, Bool.not_true, Bool.not_false, Bool.false_eq_true, Bool.true_eq_false, ne_eq, if_true, if_false, eq_self, deref, items, seqs, isOk, isinV, List.any_cons, List.any_nil, Bool.or_false, Bool.false_or, Bool.or_true, Bool.true_or, bitIn, bitV, optInt, implies_true, Option.map_some, Option.map_none, forall_const, PV.int.injEq, PV.bl.injEq, and_self, or_self, Int.reduceNeg, Int.reduceSub, Int.reduceAdd, Option.some.injEq, i_bl, i_and, i_or, Bool.and_true, Bool.true_and, Bool.and_false, Bool.false_and, Bool.not_not, nb_non, nb_int, nb_tup, nb_lst, nb_bl, nb_str, tb_non, tb_int, tb_bl, v_add, v_sub, a_add, a_sub, q_int, n_int, q_bl, n_bl, lt_int, gt_int, le_int, ge_int, q_tup, n_tup, q_tup0, n_tup0, q_0tup, q_00, n_0tup, n_00, q_l00, n_l00, q_lst, n_lst, q_lst0, n_lst0, in_tup, ni_tup, in_lst, ni_lst, ix_t, ix_l, ix_r, ix_e, atP_zero, atP_one, atP_two, atP_three, len_t, len_l, len_s, int_i, max2_i, min2_i, lt_tup, decide_true, decide_false, Int.reduceLE, Int.reduceLT, Int.reduceToNat, List.getElem?_cons_zero, List.getElem?_cons_succ, List.set_cons_zero, List.set_cons_succ, List.length_map, it_lst, it_tup, m_need_many (k+1) n 1 S h1 h2, m_need_burning (k+1) n b S h, m_need_burning (k+1) n t S ht, m_row_comes]
  unfold numS
  cases hc : rowComes b t with
  | false => simp only [bind_ok, liftS_ok, op1_some, andThen_nx, andThen_rt, andThen_bk, fin_rt, fin_nx, asB_bl, getS_zero, getS_succ, getS_nil, setS_zero, setS_succ, clr_zero, clr_succ, rd_true, rd_val, rd_int, rd_tup, rd_bl, rd_str, rd_non, rd_ref, rd_fn, rd_exc, bindT_nm, bindT_tp, setAll_nil, setAll_cons, putAllS_nil, putAllS_cons, kTup, kLst, kBox, kBin2, kBin1, kNeg, kBl, kNot, kCmp2, kCmp1, kCh4, kCh3, kCh2, kCh1, kIsN, kNotN, kIsT, kNotT, kIfe, kIdx2, kIdx1, kOpt, kSl3, kSl2, kSl1, kRev, kCall, kCd2, kCd1, kBi, kBit2, kBit1, kIsin, kItems, kElt2, kElt1, cF, kComp, kEs2, kEs1, kAnd, kOr, kRng2, kRng1, kEn2, kEn1, e_var, e_k, e_glob, e_fnv, e_tup, e_lst, e_box, e_bin, e_neg, e_and, e_or, e_not, e_cmp, e_chain, e_isN, e_notN, e_isT, e_notT, e_ife, e_idx, e_slice, e_rev, e_call, e_calld, e_bi, e_bit, e_isin, e_comp, e_range, e_enum, es_nil, es_cons, and_nil, and_cons, or_nil, or_cons, kVal, kMv, kRs2, kRs1, kAsg, optS, kAsgT, kPar, kSet3, set2, kSet1, kApp, app2, pop2, kAug, aug2, kExpr, kIff, wC, fB, kFor, kRet, rh_var, rh_e, rv_val, rv_int, rv_tup, rv_bl, rv_str, rv_non, rv_ref, rv_fn, rv_exc, rv_ownL, rv_ownD, rr_nil, rr_cons, x_asg, x_asgT, x_par, x_setI, x_app, x_pop, x_aug, x_expr, x_frz, x_iff, x_whl, x_for, x_ret, x_retN, x_brk, x_pass, x_never, xs_nil, xs_cons, frE, cont, held, freeze, startS, List.map_cons, List.map_nil, List.replicate, List.cons_append, List.nil_append, List.append_nil, List.length_cons, List.length_nil, List.head?_cons, List.head?_nil, ↓reduceIte, Nat.reduceAdd, Nat.reduceSub, Nat.reduceEqDiff, reduceCtorEq, and_true, true_and, and_false, false_and, or_true, true_or, or_false, false_or, not_true_eq_false, not_false_eq_true, Bool.not_true, Bool.not_false, Bool.false_eq_true, Bool.true_eq_false, ne_eq, if_true, if_false, eq_self, deref, items, seqs, isOk, isinV, List.any_cons, List.any_nil, Bool.or_false, Bool.false_or, Bool.or_true, Bool.true_or, bitIn, bitV, optInt, implies_true, Option.map_some, Option.map_none, forall_const, PV.int.injEq, PV.bl.injEq, and_self, or_self, Int.reduceNeg, Int.reduceSub, Int.reduceAdd, Option.some.injEq, i_bl, i_and, i_or, Bool.and_true, Bool.true_and, Bool.and_false, Bool.false_and, Bool.not_not, nb_non, nb_int, nb_tup, nb_lst, nb_bl, nb_str, tb_non, tb_int, tb_bl, v_add, v_sub, a_add, a_sub, q_int, n_int, q_bl, n_bl, lt_int, gt_int, le_int, ge_int, q_tup, n_tup, q_tup0, n_tup0, q_0tup, q_00, n_0tup, n_00, q_l00, n_l00, q_lst, n_lst, q_lst0, n_lst0, in_tup, ni_tup, in_lst, ni_lst, ix_t, ix_l, ix_r, ix_e, atP_zero, atP_one, atP_two, atP_three, len_t, len_l, len_s, int_i, max2_i, min2_i, lt_tup, decide_true, decide_false, Int.reduceLE, Int.reduceLT, Int.reduceToNat, List.getElem?_cons_zero, List.getElem?_cons_succ, List.set_cons_zero, List.set_cons_succ, List.length_map, it_lst, it_tup]; rfl
  | true =>
    by_cases h0 : b = []
    · simp only [bind_ok, liftS_ok, op1_some, andThen_nx, andThen_rt, andThen_bk, fin_rt, fin_nx, asB_bl, getS_zero, getS_succ, getS_nil, setS_zero, setS_succ, clr_zero, clr_succ, rd_true, rd_val, rd_int, rd_tup, rd_bl, rd_str, rd_non, rd_ref, rd_fn, rd_exc, bindT_nm, bindT_tp, setAll_nil, setAll_cons, putAllS_nil, putAllS_cons, kTup, kLst, kBox, kBin2, kBin1, kNeg, kBl, kNot, kCmp2, kCmp1, kCh4, kCh3, kCh2, kCh1, kIsN, kNotN, kIsT, kNotT, kIfe, kIdx2, kIdx1, kOpt, kSl3, kSl2, kSl1, kRev, kCall, kCd2, kCd1, kBi, kBit2, kBit1, kIsin, kItems, kElt2, kElt1, cF, kComp, kEs2, kEs1, kAnd, kOr, kRng2, kRng1, kEn2, kEn1, e_var, e_k, e_glob, e_fnv, e_tup, e_lst, e_box, e_bin, e_neg, e_and, e_or, e_not, e_cmp, e_chain, e_isN, e_notN, e_isT, e_notT, e_ife, e_idx, e_slice, e_rev, e_call, e_calld, e_bi, e_bit, e_isin, e_comp, e_range, e_enum, es_nil, es_cons, and_nil, and_cons, or_nil, or_cons, kVal, kMv, kRs2, kRs1, kAsg, optS, kAsgT, kPar, kSet3, set2, kSet1, kApp, app2, pop2, kAug, aug2, kExpr, kIff, wC, fB, kFor, kRet, rh_var, rh_e, rv_val, rv_int, rv_tup, rv_bl, rv_str, rv_non, rv_ref, rv_fn, rv_exc, rv_ownL, rv_ownD, rr_nil, rr_cons, x_asg, x_asgT, x_par, x_setI, x_app, x_pop, x_aug, x_expr, x_frz, x_iff, x_whl, x_for, x_ret, x_retN, x_brk, x_pass, x_never, xs_nil, xs_cons, frE, cont, held, freeze, startS, List.map_cons, List.map_nil, List.replicate, List.cons_append, List.nil_append, List.append_nil, List.length_cons, List.length_nil, List.head?_cons, List.head?_nil, ↓reduceIte, Nat.reduceAdd, Nat.reduceSub, Nat.reduceEqDiff, reduceCtorEq, and_true, true_and, and_false, false_and, or_true, true_or, or_false, false_or, not_true_eq_false, not_false_eq_true, Bool.not_true, Bool.not_false, Bool.false_eq_true, Bool.true_eq_false, ne_eq, if_true, if_false, eq_self, deref, items, seqs, isOk, isinV, List.any_cons, List.any_nil, Bool.or_false, Bool.false_or, Bool.or_true, Bool.true_or, bitIn, bitV, optInt, implies_true, Option.map_some, Option.map_none, forall_const, PV.int.injEq, PV.bl.injEq, and_self, or_self, Int.reduceNeg, Int.reduceSub, Int.reduceAdd, Option.some.injEq, i_bl, i_and, i_or, Bool.and_true, Bool.true_and, Bool.and_false, Bool.false_and, Bool.not_not, nb_non, nb_int, nb_tup, nb_lst, nb_bl, nb_str, tb_non, tb_int, tb_bl, v_add, v_sub, a_add, a_sub, q_int, n_int, q_bl, n_bl, lt_int, gt_int, le_int, ge_int, q_tup, n_tup, q_tup0, n_tup0, q_0tup, q_00, n_0tup, n_00, q_l00, n_l00, q_lst, n_lst, q_lst0, n_lst0, in_tup, ni_tup, in_lst, ni_lst, ix_t, ix_l, ix_r, ix_e, atP_zero, atP_one, atP_two, atP_three, len_t, len_l, len_s, int_i, max2_i, min2_i, lt_tup, decide_true, decide_false, Int.reduceLE, Int.reduceLT, Int.reduceToNat, List.getElem?_cons_zero, List.getElem?_cons_succ, List.set_cons_zero, List.set_cons_succ, List.length_map, it_lst, it_tup, h0]; rfl
    · obtain ⟨g1, g2, g3⟩ := hd_la h h0
      simp only [bind_ok, liftS_ok, op1_some, andThen_nx, andThen_rt, andThen_bk, fin_rt, fin_nx, asB_bl, getS_zero, getS_succ, getS_nil, setS_zero, setS_succ, clr_zero, clr_succ, rd_true, rd_val, rd_int, rd_tup, rd_bl, rd_str, rd_non, rd_ref, rd_fn, rd_exc, bindT_nm, bindT_tp, setAll_nil, setAll_cons, putAllS_nil, putAllS_cons, kTup, kLst, kBox, kBin2, kBin1, kNeg, kBl, kNot, kCmp2, kCmp1, kCh4, kCh3, kCh2, kCh1, kIsN, kNotN, kIsT, kNotT, kIfe, kIdx2, kIdx1, kOpt, kSl3, kSl2, kSl1, kRev, kCall, kCd2, kCd1, kBi, kBit2, kBit1, kIsin, kItems, kElt2, kElt1, cF, kComp, kEs2, kEs1, kAnd, kOr, kRng2, kRng1, kEn2, kEn1, e_var, e_k, e_glob, e_fnv, e_tup, e_lst, e_box, e_bin, e_neg, e_and, e_or, e_not, e_cmp, e_chain, e_isN, e_notN, e_isT, e_notT, e_ife, e_idx, e_slice, e_rev, e_call, e_calld, e_bi, e_bit, e_isin, e_comp, e_range, e_enum, es_nil, es_cons, and_nil, and_cons, or_nil, or_cons, kVal, kMv, kRs2, kRs1, kAsg, optS, kAsgT, kPar, kSet3, set2, kSet1, kApp, app2, pop2, kAug, aug2, kExpr, kIff, wC, fB, kFor, kRet, rh_var, rh_e, rv_val, rv_int, rv_tup, rv_bl, rv_str, rv_non, rv_ref, rv_fn, rv_exc, rv_ownL, rv_ownD, rr_nil, rr_cons, x_asg, x_asgT, x_par, x_setI, x_app, x_pop, x_aug, x_expr, x_frz, x_iff, x_whl, x_for, x_ret, x_retN, x_brk, x_pass, x_never, xs_nil, xs_cons, frE, cont, held, freeze, startS, List.map_cons, List.map_nil, List.replicate, List.cons_append, List.nil_append, List.append_nil, List.length_cons, List.length_nil, List.head?_cons, List.head?_nil, ↓reduceIte, Nat.reduceAdd, Nat.reduceSub, Nat.reduceEqDiff, reduceCtorEq, and_true, true_and, and_false, false_and, or_true, true_or, or_false, false_or, not_true_eq_false, not_false_eq_true, Bool.not_true, Bool.not_false, Bool.false_eq_true, Bool.true_eq_false, ne_eq, if_true, if_false, eq_self, deref, items, seqs, isOk, isinV, List.any_cons, List.any_nil, Bool.or_false, Bool.false_or, Bool.or_true, Bool.true_or, bitIn, bitV, optInt, implies_true, Option.map_some, Option.map_none, forall_const, PV.int.injEq, PV.bl.injEq, and_self, or_self, Int.reduceNeg, Int.reduceSub, Int.reduceAdd, Option.some.injEq, i_bl, i_and, i_or, Bool.and_true, Bool.true_and, Bool.and_false, Bool.false_and, Bool.not_not, nb_non, nb_int, nb_tup, nb_lst, nb_bl, nb_str, tb_non, tb_int, tb_bl, v_add, v_sub, a_add, a_sub, q_int, n_int, q_bl, n_bl, lt_int, gt_int, le_int, ge_int, q_tup, n_tup, q_tup0, n_tup0, q_0tup, q_00, n_0tup, n_00, q_l00, n_l00, q_lst, n_lst, q_lst0, n_lst0, in_tup, ni_tup, in_lst, ni_lst, ix_t, ix_l, ix_r, ix_e, atP_zero, atP_one, atP_two, atP_three, len_t, len_l, len_s, int_i, max2_i, min2_i, lt_tup, decide_true, decide_false, Int.reduceLE, Int.reduceLT, Int.reduceToNat, List.getElem?_cons_zero, List.getElem?_cons_succ, List.set_cons_zero, List.set_cons_succ, List.length_map, it_lst, it_tup, h0, at_hd h0, at_la h0, enum_map]
      refine for_loop (fun p : Int × Nat => PV.tup [.int (p.2 : Int), .int p.1]) (fun l σ S' => S' = S ∧ ∃ t4 t6 t7 t8, σ = [some (Tag.bor, PV.int n), some (Tag.bor, PV.tup (b.map .int)), some (Tag.bor, PV.tup (t.map .int)), some (Tag.val, .int (Rk n (la b) false (hd b) (l.map (·.1)))), some (t4, .int (if l = [] then hd b - 1 else la (l.map (·.1)))), some (Tag.val, .int (la b)), t6, t7, t8]) ⟨rfl, Tag.own, none, none, none, rfl⟩ ?_ ?_
      · rintro l ⟨x, i⟩ r σ S' e ⟨rfl, t4, t6, t7, t8, rfl⟩ Q' hnx hbk hrt
        obtain ⟨hx, hi⟩ := zip_split e
        have hxm := ht.2 x (List.mem_of_getElem? hx)
        simp only [b_row_come_number_1, bind_ok, liftS_ok, op1_some, andThen_nx, andThen_rt, andThen_bk, fin_rt, fin_nx, asB_bl, getS_zero, getS_succ, getS_nil, setS_zero, setS_succ, clr_zero, clr_succ, rd_true, rd_val, rd_int, rd_tup, rd_bl, rd_str, rd_non, rd_ref, rd_fn, rd_exc, bindT_nm, bindT_tp, setAll_nil, setAll_cons, putAllS_nil, putAllS_cons, kTup, kLst, kBox, kBin2, kBin1, kNeg, kBl, kNot, kCmp2, kCmp1, kCh4, kCh3, kCh2, kCh1, kIsN, kNotN, kIsT, kNotT, kIfe, kIdx2, kIdx1, kOpt, kSl3, kSl2, kSl1, kRev, kCall, kCd2, kCd1, kBi, kBit2, kBit1, kIsin, kItems, kElt2, kElt1, cF, kComp, kEs2, kEs1, kAnd, kOr, kRng2, kRng1, kEn2, kEn1, e_var, e_k, e_glob, e_fnv, e_tup, e_lst, e_box, e_bin, e_neg, e_and, e_or, e_not, e_cmp, e_chain, e_isN, e_notN, e_isT, e_notT, e_ife, e_idx, e_slice, e_rev, e_call, e_calld, e_bi, e_bit, e_isin, e_comp, e_range, e_enum, es_nil, es_cons, and_nil, and_cons, or_nil, or_cons, kVal, kMv, kRs2, kRs1, kAsg, optS, kAsgT, kPar, kSet3, set2, kSet1, kApp, app2, pop2, kAug, aug2, kExpr, kIff, wC, fB, kFor, kRet, rh_var, rh_e, rv_val, rv_int, rv_tup, rv_bl, rv_str, rv_non, rv_ref, rv_fn, rv_exc, rv_ownL, rv_ownD, rr_nil, rr_cons, x_asg, x_asgT, x_par, x_setI, x_app, x_pop, x_aug, x_expr, x_frz, x_iff, x_whl, x_for, x_ret, x_retN, x_brk, x_pass, x_never, xs_nil, xs_cons, frE, cont, held, freeze, startS, List.map_cons, List.map_nil, List.replicate, List.cons_append, List.nil_append, List.append_nil, List.length_cons, List.length_nil, List.head?_cons, List.head?_nil, ↓reduceIte, Nat.reduceAdd, Nat.reduceSub, Nat.reduceEqDiff, reduceCtorEq, and_true, true_and, and_false, false_and, or_true, true_or, or_false, false_or, not_true_eq_false, not_false_eq_true, Bool.not_true, Bool.not_false, Bool.false_eq_true, Bool.true_eq_false, ne_eq, if_true, if_false, eq_self, deref, items, seqs, isOk, isinV, List.any_cons, List.any_nil, Bool.or_false, Bool.false_or, Bool.or_true, Bool.true_or, bitIn, bitV, optInt, implies_true, Option.map_some, Option.map_none, forall_const, PV.int.injEq, PV.bl.injEq, and_self, or_self, Int.reduceNeg, Int.reduceSub, Int.reduceAdd, Option.some.injEq, i_bl, i_and, i_or, Bool.and_true, Bool.true_and, Bool.and_false, Bool.false_and, Bool.not_not, nb_non, nb_int, nb_tup, nb_lst, nb_bl, nb_str, tb_non, tb_int, tb_bl, v_add, v_sub, a_add, a_sub, q_int, n_int, q_bl, n_bl, lt_int, gt_int, le_int, ge_int, q_tup, n_tup, q_tup0, n_tup0, q_0tup, q_00, n_0tup, n_00, q_l00, n_l00, q_lst, n_lst, q_lst0, n_lst0, in_tup, ni_tup, in_lst, ni_lst, ix_t, ix_l, ix_r, ix_e, atP_zero, atP_one, atP_two, atP_three, len_t, len_l, len_s, int_i, max2_i, min2_i, lt_tup, decide_true, decide_false, Int.reduceLE, Int.reduceLT, Int.reduceToNat, List.getElem?_cons_zero, List.getElem?_cons_succ, List.set_cons_zero, List.set_cons_succ, List.length_map, it_lst, it_tup]
        have hlast : ∀ (hl : l ≠ []), ∃ y, t[i - 1]? = some y ∧ la (l.map (·.1)) = y ∧ 0 < i := by
          intro hl
          have hpos : 0 < l.length := List.length_pos_iff.mpr hl
          refine ⟨la (l.map (·.1)), ?_, rfl, by omega⟩
          have hz : t.zipIdx[l.length - 1]? = some (l[l.length - 1]'(by omega)) := by
            rw [e, List.getElem?_append_left (by omega)]
            exact List.getElem?_eq_getElem _
          rw [List.getElem?_zipIdx] at hz
          have hz2 : t[l.length - 1]? = some (l[l.length - 1]'(by omega)).1 := by
            cases q : t[l.length - 1]? with
            | none => rw [q] at hz; cases hz
            | some y =>
              rw [q] at hz
              simp only [Option.map_some, Option.some.injEq] at hz
              rw [← hz]
          rw [hi, hz2]
          have : (l.map (·.1)).getLast? = some (l[l.length - 1]'(by omega)).1 := by
            rw [List.getLast?_eq_getElem?, List.length_map, List.getElem?_map, List.getElem?_eq_getElem (by omega)]; rfl
          congr 1
          unfold la
          rw [List.getLastD_eq_getLast?, this]; rfl
        have hsum : ∀ (p : Int) (σ0 : Slots), 0 ≤ p → getS σ0 0 = some (Tag.bor, .int n) → getS σ0 5 = some (Tag.val, .int (la b)) → (∀ g : Int, getS (setS σ0 8 Tag.val (.int g)) 0 = some (Tag.bor, .int n)) → (∀ g : Int, getS (setS σ0 8 Tag.val (.int g)) 5 = some (Tag.val, .int (la b))) → (∀ g : Int, getS (setS σ0 8 Tag.val (.int g)) 8 = some (Tag.val, .int g)) → cG (cF ⟨cl T gv (k+3), gv⟩ (.call 166 [(.var 0), (.var 5), (.var 8)]) (Tg.nm 8) [] σ0) ((rg p (x - p).toNat).map .int) [] S' = .ok (.lst ((rg p (x - p).toNat).map fun g => .int (begunS n (la b) g))) S' := by
          intro p σ0 hp q1 q2 q3 q4 q5
          refine comp_map (fun g => .int (begunS n (la b) g)) fun g hg => ?_
          have := mem_rg.mp hg
          simp only [bind_ok, liftS_ok, op1_some, andThen_nx, andThen_rt, andThen_bk, fin_rt, fin_nx, asB_bl, getS_zero, getS_succ, getS_nil, setS_zero, setS_succ, clr_zero, clr_succ, rd_true, rd_val, rd_int, rd_tup, rd_bl, rd_str, rd_non, rd_ref, rd_fn, rd_exc, bindT_nm, bindT_tp, setAll_nil, setAll_cons, putAllS_nil, putAllS_cons, kTup, kLst, kBox, kBin2, kBin1, kNeg, kBl, kNot, kCmp2, kCmp1, kCh4, kCh3, kCh2, kCh1, kIsN, kNotN, kIsT, kNotT, kIfe, kIdx2, kIdx1, kOpt, kSl3, kSl2, kSl1, kRev, kCall, kCd2, kCd1, kBi, kBit2, kBit1, kIsin, kItems, kElt2, kElt1, cF, kComp, kEs2, kEs1, kAnd, kOr, kRng2, kRng1, kEn2, kEn1, e_var, e_k, e_glob, e_fnv, e_tup, e_lst, e_box, e_bin, e_neg, e_and, e_or, e_not, e_cmp, e_chain, e_isN, e_notN, e_isT, e_notT, e_ife, e_idx, e_slice, e_rev, e_call, e_calld, e_bi, e_bit, e_isin, e_comp, e_range, e_enum, es_nil, es_cons, and_nil, and_cons, or_nil, or_cons, kVal, kMv, kRs2, kRs1, kAsg, optS, kAsgT, kPar, kSet3, set2, kSet1, kApp, app2, pop2, kAug, aug2, kExpr, kIff, wC, fB, kFor, kRet, rh_var, rh_e, rv_val, rv_int, rv_tup, rv_bl, rv_str, rv_non, rv_ref, rv_fn, rv_exc, rv_ownL, rv_ownD, rr_nil, rr_cons, x_asg, x_asgT, x_par, x_setI, x_app, x_pop, x_aug, x_expr, x_frz, x_iff, x_whl, x_for, x_ret, x_retN, x_brk, x_pass, x_never, xs_nil, xs_cons, frE, cont, held, freeze, startS, List.map_cons, List.map_nil, List.replicate, List.cons_append, List.nil_append, List.append_nil, List.length_cons, List.length_nil, List.head?_cons, List.head?_nil, ↓reduceIte, Nat.reduceAdd, Nat.reduceSub, Nat.reduceEqDiff, reduceCtorEq, and_true, true_and, and_false, false_and, or_true, true_or, or_false, false_or, not_true_eq_false, not_false_eq_true, Bool.not_true, Bool.not_false, Bool.false_eq_true, Bool.true_eq_false, ne_eq, if_true, if_false, eq_self, deref, items, seqs, isOk, isinV, List.any_cons, List.any_nil, Bool.or_false, Bool.false_or, Bool.or_true, Bool.true_or, bitIn, bitV, optInt, implies_true, Option.map_some, Option.map_none, forall_const, PV.int.injEq, PV.bl.injEq, and_self, or_self, Int.reduceNeg, Int.reduceSub, Int.reduceAdd, Option.some.injEq, i_bl, i_and, i_or, Bool.and_true, Bool.true_and, Bool.and_false, Bool.false_and, Bool.not_not, nb_non, nb_int, nb_tup, nb_lst, nb_bl, nb_str, tb_non, tb_int, tb_bl, v_add, v_sub, a_add, a_sub, q_int, n_int, q_bl, n_bl, lt_int, gt_int, le_int, ge_int, q_tup, n_tup, q_tup0, n_tup0, q_0tup, q_00, n_0tup, n_00, q_l00, n_l00, q_lst, n_lst, q_lst0, n_lst0, in_tup, ni_tup, in_lst, ni_lst, ix_t, ix_l, ix_r, ix_e, atP_zero, atP_one, atP_two, atP_three, len_t, len_l, len_s, int_i, max2_i, min2_i, lt_tup, decide_true, decide_false, Int.reduceLE, Int.reduceLT, Int.reduceToNat, List.getElem?_cons_zero, List.getElem?_cons_succ, List.set_cons_zero, List.set_cons_succ, List.length_map, it_lst, it_tup, q3, q4, q5, m_begun (k+1) n (la b) g S' (by omega) (by omega) (by omega)]
        have hsnoc : (l ++ [(x, i)]).map (·.1) = l.map (·.1) ++ [x] := by simp
        by_cases hl : l = []
        · subst hl
          have hi0 : i = 0 := hi
          subst hi0
          have hr := rangeV2 (a := hd b) (b := x) (by omega) (by omega) (by omega) (by omega)
          simp only [bind_ok, liftS_ok, op1_some, andThen_nx, andThen_rt, andThen_bk, fin_rt, fin_nx, asB_bl, getS_zero, getS_succ, getS_nil, setS_zero, setS_succ, clr_zero, clr_succ, rd_true, rd_val, rd_int, rd_tup, rd_bl, rd_str, rd_non, rd_ref, rd_fn, rd_exc, bindT_nm, bindT_tp, setAll_nil, setAll_cons, putAllS_nil, putAllS_cons, kTup, kLst, kBox, kBin2, kBin1, kNeg, kBl, kNot, kCmp2, kCmp1, kCh4, kCh3, kCh2, kCh1, kIsN, kNotN, kIsT, kNotT, kIfe, kIdx2, kIdx1, kOpt, kSl3, kSl2, kSl1, kRev, kCall, kCd2, kCd1, kBi, kBit2, kBit1, kIsin, kItems, kElt2, kElt1, cF, kComp, kEs2, kEs1, kAnd, kOr, kRng2, kRng1, kEn2, kEn1, e_var, e_k, e_glob, e_fnv, e_tup, e_lst, e_box, e_bin, e_neg, e_and, e_or, e_not, e_cmp, e_chain, e_isN, e_notN, e_isT, e_notT, e_ife, e_idx, e_slice, e_rev, e_call, e_calld, e_bi, e_bit, e_isin, e_comp, e_range, e_enum, es_nil, es_cons, and_nil, and_cons, or_nil, or_cons, kVal, kMv, kRs2, kRs1, kAsg, optS, kAsgT, kPar, kSet3, set2, kSet1, kApp, app2, pop2, kAug, aug2, kExpr, kIff, wC, fB, kFor, kRet, rh_var, rh_e, rv_val, rv_int, rv_tup, rv_bl, rv_str, rv_non, rv_ref, rv_fn, rv_exc, rv_ownL, rv_ownD, rr_nil, rr_cons, x_asg, x_asgT, x_par, x_setI, x_app, x_pop, x_aug, x_expr, x_frz, x_iff, x_whl, x_for, x_ret, x_retN, x_brk, x_pass, x_never, xs_nil, xs_cons, frE, cont, held, freeze, startS, List.map_cons, List.map_nil, List.replicate, List.cons_append, List.nil_append, List.append_nil, List.length_cons, List.length_nil, List.head?_cons, List.head?_nil, ↓reduceIte, Nat.reduceAdd, Nat.reduceSub, Nat.reduceEqDiff, reduceCtorEq, and_true, true_and, and_false, false_and, or_true, true_or, or_false, false_or, not_true_eq_false, not_false_eq_true, Bool.not_true, Bool.not_false, Bool.false_eq_true, Bool.true_eq_false, ne_eq, if_true, if_false, eq_self, deref, items, seqs, isOk, isinV, List.any_cons, List.any_nil, Bool.or_false, Bool.false_or, Bool.or_true, Bool.true_or, bitIn, bitV, optInt, implies_true, Option.map_some, Option.map_none, forall_const, PV.int.injEq, PV.bl.injEq, and_self, or_self, Int.reduceNeg, Int.reduceSub, Int.reduceAdd, Option.some.injEq, i_bl, i_and, i_or, Bool.and_true, Bool.true_and, Bool.and_false, Bool.false_and, Bool.not_not, nb_non, nb_int, nb_tup, nb_lst, nb_bl, nb_str, tb_non, tb_int, tb_bl, v_add, v_sub, a_add, a_sub, q_int, n_int, q_bl, n_bl, lt_int, gt_int, le_int, ge_int, q_tup, n_tup, q_tup0, n_tup0, q_0tup, q_00, n_0tup, n_00, q_l00, n_l00, q_lst, n_lst, q_lst0, n_lst0, in_tup, ni_tup, in_lst, ni_lst, ix_t, ix_l, ix_r, ix_e, atP_zero, atP_one, atP_two, atP_three, len_t, len_l, len_s, int_i, max2_i, min2_i, lt_tup, decide_true, decide_false, Int.reduceLE, Int.reduceLT, Int.reduceToNat, List.getElem?_cons_zero, List.getElem?_cons_succ, List.set_cons_zero, List.set_cons_succ, List.length_map, it_lst, it_tup, Int.natCast_zero, Int.lt_irrefl, show hd b - 1 + 1 = hd b by omega, hr]
          rw [hsum (hd b) _ g1 rfl rfl (fun _ => rfl) (fun _ => rfl) (fun _ => rfl)]
          simp only [bind_ok, liftS_ok, op1_some, andThen_nx, andThen_rt, andThen_bk, fin_rt, fin_nx, asB_bl, getS_zero, getS_succ, getS_nil, setS_zero, setS_succ, clr_zero, clr_succ, rd_true, rd_val, rd_int, rd_tup, rd_bl, rd_str, rd_non, rd_ref, rd_fn, rd_exc, bindT_nm, bindT_tp, setAll_nil, setAll_cons, putAllS_nil, putAllS_cons, kTup, kLst, kBox, kBin2, kBin1, kNeg, kBl, kNot, kCmp2, kCmp1, kCh4, kCh3, kCh2, kCh1, kIsN, kNotN, kIsT, kNotT, kIfe, kIdx2, kIdx1, kOpt, kSl3, kSl2, kSl1, kRev, kCall, kCd2, kCd1, kBi, kBit2, kBit1, kIsin, kItems, kElt2, kElt1, cF, kComp, kEs2, kEs1, kAnd, kOr, kRng2, kRng1, kEn2, kEn1, e_var, e_k, e_glob, e_fnv, e_tup, e_lst, e_box, e_bin, e_neg, e_and, e_or, e_not, e_cmp, e_chain, e_isN, e_notN, e_isT, e_notT, e_ife, e_idx, e_slice, e_rev, e_call, e_calld, e_bi, e_bit, e_isin, e_comp, e_range, e_enum, es_nil, es_cons, and_nil, and_cons, or_nil, or_cons, kVal, kMv, kRs2, kRs1, kAsg, optS, kAsgT, kPar, kSet3, set2, kSet1, kApp, app2, pop2, kAug, aug2, kExpr, kIff, wC, fB, kFor, kRet, rh_var, rh_e, rv_val, rv_int, rv_tup, rv_bl, rv_str, rv_non, rv_ref, rv_fn, rv_exc, rv_ownL, rv_ownD, rr_nil, rr_cons, x_asg, x_asgT, x_par, x_setI, x_app, x_pop, x_aug, x_expr, x_frz, x_iff, x_whl, x_for, x_ret, x_retN, x_brk, x_pass, x_never, xs_nil, xs_cons, frE, cont, held, freeze, startS, List.map_cons, List.map_nil, List.replicate, List.cons_append, List.nil_append, List.append_nil, List.length_cons, List.length_nil, List.head?_cons, List.head?_nil, ↓reduceIte, Nat.reduceAdd, Nat.reduceSub, Nat.reduceEqDiff, reduceCtorEq, and_true, true_and, and_false, false_and, or_true, true_or, or_false, false_or, not_true_eq_false, not_false_eq_true, Bool.not_true, Bool.not_false, Bool.false_eq_true, Bool.true_eq_false, ne_eq, if_true, if_false, eq_self, deref, items, seqs, isOk, isinV, List.any_cons, List.any_nil, Bool.or_false, Bool.false_or, Bool.or_true, Bool.true_or, bitIn, bitV, optInt, implies_true, Option.map_some, Option.map_none, forall_const, PV.int.injEq, PV.bl.injEq, and_self, or_self, Int.reduceNeg, Int.reduceSub, Int.reduceAdd, Option.some.injEq, i_bl, i_and, i_or, Bool.and_true, Bool.true_and, Bool.and_false, Bool.false_and, Bool.not_not, nb_non, nb_int, nb_tup, nb_lst, nb_bl, nb_str, tb_non, tb_int, tb_bl, v_add, v_sub, a_add, a_sub, q_int, n_int, q_bl, n_bl, lt_int, gt_int, le_int, ge_int, q_tup, n_tup, q_tup0, n_tup0, q_0tup, q_00, n_0tup, n_00, q_l00, n_l00, q_lst, n_lst, q_lst0, n_lst0, in_tup, ni_tup, in_lst, ni_lst, ix_t, ix_l, ix_r, ix_e, atP_zero, atP_one, atP_two, atP_three, len_t, len_l, len_s, int_i, max2_i, min2_i, lt_tup, decide_true, decide_false, Int.reduceLE, Int.reduceLT, Int.reduceToNat, List.getElem?_cons_zero, List.getElem?_cons_succ, List.set_cons_zero, List.set_cons_succ, List.length_map, it_lst, it_tup, sumV_mapf]
          have hv : Rk n (la b) false (hd b) [x] = Rk n (la b) false (hd b) [] + (List.map (begunS n (la b)) (rg (hd b) (x - hd b).toNat)).sum := by
            simp [Rk, b1, sumC]
          refine hnx _ _ ⟨rfl, ?_⟩
          simp only [List.nil_append, List.map_cons, List.map_nil, hv, reduceCtorEq, if_false]
          exact ⟨_, _, _, _, rfl⟩
        · obtain ⟨y, hy, hly, hpos⟩ := hlast hl
          have hy0 := ht.2 y (List.mem_of_getElem? hy)
          have ha : atP (t.map .int) ((i : Int) - 1) = some (.int y) := atP_map (by omega) (by rw [show ((i : Int) - 1).toNat = i - 1 by omega]; exact hy)
          have hr := rangeV2 (a := y + 1) (b := x) (by omega) (by omega) (by omega) (by omega)
          have hne : ¬ (l.map (·.1) : List Int) = [] := by simpa using hl
          by_cases hge : la b ≤ y
          · simp only [bind_ok, liftS_ok, op1_some, andThen_nx, andThen_rt, andThen_bk, fin_rt, fin_nx, asB_bl, getS_zero, getS_succ, getS_nil, setS_zero, setS_succ, clr_zero, clr_succ, rd_true, rd_val, rd_int, rd_tup, rd_bl, rd_str, rd_non, rd_ref, rd_fn, rd_exc, bindT_nm, bindT_tp, setAll_nil, setAll_cons, putAllS_nil, putAllS_cons, kTup, kLst, kBox, kBin2, kBin1, kNeg, kBl, kNot, kCmp2, kCmp1, kCh4, kCh3, kCh2, kCh1, kIsN, kNotN, kIsT, kNotT, kIfe, kIdx2, kIdx1, kOpt, kSl3, kSl2, kSl1, kRev, kCall, kCd2, kCd1, kBi, kBit2, kBit1, kIsin, kItems, kElt2, kElt1, cF, kComp, kEs2, kEs1, kAnd, kOr, kRng2, kRng1, kEn2, kEn1, e_var, e_k, e_glob, e_fnv, e_tup, e_lst, e_box, e_bin, e_neg, e_and, e_or, e_not, e_cmp, e_chain, e_isN, e_notN, e_isT, e_notT, e_ife, e_idx, e_slice, e_rev, e_call, e_calld, e_bi, e_bit, e_isin, e_comp, e_range, e_enum, es_nil, es_cons, and_nil, and_cons, or_nil, or_cons, kVal, kMv, kRs2, kRs1, kAsg, optS, kAsgT, kPar, kSet3, set2, kSet1, kApp, app2, pop2, kAug, aug2, kExpr, kIff, wC, fB, kFor, kRet, rh_var, rh_e, rv_val, rv_int, rv_tup, rv_bl, rv_str, rv_non, rv_ref, rv_fn, rv_exc, rv_ownL, rv_ownD, rr_nil, rr_cons, x_asg, x_asgT, x_par, x_setI, x_app, x_pop, x_aug, x_expr, x_frz, x_iff, x_whl, x_for, x_ret, x_retN, x_brk, x_pass, x_never, xs_nil, xs_cons, frE, cont, held, freeze, startS, List.map_cons, List.map_nil, List.replicate, List.cons_append, List.nil_append, List.append_nil, List.length_cons, List.length_nil, List.head?_cons, List.head?_nil, ↓reduceIte, Nat.reduceAdd, Nat.reduceSub, Nat.reduceEqDiff, reduceCtorEq, and_true, true_and, and_false, false_and, or_true, true_or, or_false, false_or, not_true_eq_false, not_false_eq_true, Bool.not_true, Bool.not_false, Bool.false_eq_true, Bool.true_eq_false, ne_eq, if_true, if_false, eq_self, deref, items, seqs, isOk, isinV, List.any_cons, List.any_nil, Bool.or_false, Bool.false_or, Bool.or_true, Bool.true_or, bitIn, bitV, optInt, implies_true, Option.map_some, Option.map_none, forall_const, PV.int.injEq, PV.bl.injEq, and_self, or_self, Int.reduceNeg, Int.reduceSub, Int.reduceAdd, Option.some.injEq, i_bl, i_and, i_or, Bool.and_true, Bool.true_and, Bool.and_false, Bool.false_and, Bool.not_not, nb_non, nb_int, nb_tup, nb_lst, nb_bl, nb_str, tb_non, tb_int, tb_bl, v_add, v_sub, a_add, a_sub, q_int, n_int, q_bl, n_bl, lt_int, gt_int, le_int, ge_int, q_tup, n_tup, q_tup0, n_tup0, q_0tup, q_00, n_0tup, n_00, q_l00, n_l00, q_lst, n_lst, q_lst0, n_lst0, in_tup, ni_tup, in_lst, ni_lst, ix_t, ix_l, ix_r, ix_e, atP_zero, atP_one, atP_two, atP_three, len_t, len_l, len_s, int_i, max2_i, min2_i, lt_tup, decide_true, decide_false, Int.reduceLE, Int.reduceLT, Int.reduceToNat, List.getElem?_cons_zero, List.getElem?_cons_succ, List.set_cons_zero, List.set_cons_succ, List.length_map, it_lst, it_tup, show (0 : Int) < (i : Int) by omega, ha, hge, hl, hly, hr]
            rw [hsum (y + 1) _ (by omega) rfl rfl (fun _ => rfl) (fun _ => rfl) (fun _ => rfl)]
            simp only [bind_ok, liftS_ok, op1_some, andThen_nx, andThen_rt, andThen_bk, fin_rt, fin_nx, asB_bl, getS_zero, getS_succ, getS_nil, setS_zero, setS_succ, clr_zero, clr_succ, rd_true, rd_val, rd_int, rd_tup, rd_bl, rd_str, rd_non, rd_ref, rd_fn, rd_exc, bindT_nm, bindT_tp, setAll_nil, setAll_cons, putAllS_nil, putAllS_cons, kTup, kLst, kBox, kBin2, kBin1, kNeg, kBl, kNot, kCmp2, kCmp1, kCh4, kCh3, kCh2, kCh1, kIsN, kNotN, kIsT, kNotT, kIfe, kIdx2, kIdx1, kOpt, kSl3, kSl2, kSl1, kRev, kCall, kCd2, kCd1, kBi, kBit2, kBit1, kIsin, kItems, kElt2, kElt1, cF, kComp, kEs2, kEs1, kAnd, kOr, kRng2, kRng1, kEn2, kEn1, e_var, e_k, e_glob, e_fnv, e_tup, e_lst, e_box, e_bin, e_neg, e_and, e_or, e_not, e_cmp, e_chain, e_isN, e_notN, e_isT, e_notT, e_ife, e_idx, e_slice, e_rev, e_call, e_calld, e_bi, e_bit, e_isin, e_comp, e_range, e_enum, es_nil, es_cons, and_nil, and_cons, or_nil, or_cons, kVal, kMv, kRs2, kRs1, kAsg, optS, kAsgT, kPar, kSet3, set2, kSet1, kApp, app2, pop2, kAug, aug2, kExpr, kIff, wC, fB, kFor, kRet, rh_var, rh_e, rv_val, rv_int, rv_tup, rv_bl, rv_str, rv_non, rv_ref, rv_fn, rv_exc, rv_ownL, rv_ownD, rr_nil, rr_cons, x_asg, x_asgT, x_par, x_setI, x_app, x_pop, x_aug, x_expr, x_frz, x_iff, x_whl, x_for, x_ret, x_retN, x_brk, x_pass, x_never, xs_nil, xs_cons, frE, cont, held, freeze, startS, List.map_cons, List.map_nil, List.replicate, List.cons_append, List.nil_append, List.append_nil, List.length_cons, List.length_nil, List.head?_cons, List.head?_nil, ↓reduceIte, Nat.reduceAdd, Nat.reduceSub, Nat.reduceEqDiff, reduceCtorEq, and_true, true_and, and_false, false_and, or_true, true_or, or_false, false_or, not_true_eq_false, not_false_eq_true, Bool.not_true, Bool.not_false, Bool.false_eq_true, Bool.true_eq_false, ne_eq, if_true, if_false, eq_self, deref, items, seqs, isOk, isinV, List.any_cons, List.any_nil, Bool.or_false, Bool.false_or, Bool.or_true, Bool.true_or, bitIn, bitV, optInt, implies_true, Option.map_some, Option.map_none, forall_const, PV.int.injEq, PV.bl.injEq, and_self, or_self, Int.reduceNeg, Int.reduceSub, Int.reduceAdd, Option.some.injEq, i_bl, i_and, i_or, Bool.and_true, Bool.true_and, Bool.and_false, Bool.false_and, Bool.not_not, nb_non, nb_int, nb_tup, nb_lst, nb_bl, nb_str, tb_non, tb_int, tb_bl, v_add, v_sub, a_add, a_sub, q_int, n_int, q_bl, n_bl, lt_int, gt_int, le_int, ge_int, q_tup, n_tup, q_tup0, n_tup0, q_0tup, q_00, n_0tup, n_00, q_l00, n_l00, q_lst, n_lst, q_lst0, n_lst0, in_tup, ni_tup, in_lst, ni_lst, ix_t, ix_l, ix_r, ix_e, atP_zero, atP_one, atP_two, atP_three, len_t, len_l, len_s, int_i, max2_i, min2_i, lt_tup, decide_true, decide_false, Int.reduceLE, Int.reduceLT, Int.reduceToNat, List.getElem?_cons_zero, List.getElem?_cons_succ, List.set_cons_zero, List.set_cons_succ, List.length_map, it_lst, it_tup, sumV_mapf]
            have hv : Rk n (la b) false (hd b) (l.map (·.1) ++ [x]) = Rk n (la b) false (hd b) (l.map (·.1)) + 1 + (List.map (begunS n (la b)) (rg (y + 1) (x - (y + 1)).toNat)).sum := by
              rw [Rk_snoc]
              simp only [hne, if_false, hly, hge, b1, decide_true, if_true, sumC]
            refine hnx _ _ ⟨rfl, ?_⟩
            simp only [hsnoc, hv, la_snoc, List.append_eq_nil_iff, reduceCtorEq, and_false, if_false]
            exact ⟨_, _, _, _, rfl⟩
          · simp only [bind_ok, liftS_ok, op1_some, andThen_nx, andThen_rt, andThen_bk, fin_rt, fin_nx, asB_bl, getS_zero, getS_succ, getS_nil, setS_zero, setS_succ, clr_zero, clr_succ, rd_true, rd_val, rd_int, rd_tup, rd_bl, rd_str, rd_non, rd_ref, rd_fn, rd_exc, bindT_nm, bindT_tp, setAll_nil, setAll_cons, putAllS_nil, putAllS_cons, kTup, kLst, kBox, kBin2, kBin1, kNeg, kBl, kNot, kCmp2, kCmp1, kCh4, kCh3, kCh2, kCh1, kIsN, kNotN, kIsT, kNotT, kIfe, kIdx2, kIdx1, kOpt, kSl3, kSl2, kSl1, kRev, kCall, kCd2, kCd1, kBi, kBit2, kBit1, kIsin, kItems, kElt2, kElt1, cF, kComp, kEs2, kEs1, kAnd, kOr, kRng2, kRng1, kEn2, kEn1, e_var, e_k, e_glob, e_fnv, e_tup, e_lst, e_box, e_bin, e_neg, e_and, e_or, e_not, e_cmp, e_chain, e_isN, e_notN, e_isT, e_notT, e_ife, e_idx, e_slice, e_rev, e_call, e_calld, e_bi, e_bit, e_isin, e_comp, e_range, e_enum, es_nil, es_cons, and_nil, and_cons, or_nil, or_cons, kVal, kMv, kRs2, kRs1, kAsg, optS, kAsgT, kPar, kSet3, set2, kSet1, kApp, app2, pop2, kAug, aug2, kExpr, kIff, wC, fB, kFor, kRet, rh_var, rh_e, rv_val, rv_int, rv_tup, rv_bl, rv_str, rv_non, rv_ref, rv_fn, rv_exc, rv_ownL, rv_ownD, rr_nil, rr_cons, x_asg, x_asgT, x_par, x_setI, x_app, x_pop, x_aug, x_expr, x_frz, x_iff, x_whl, x_for, x_ret, x_retN, x_brk, x_pass, x_never, xs_nil, xs_cons, frE, cont, held, freeze, startS, List.map_cons, List.map_nil, List.replicate, List.cons_append, List.nil_append, List.append_nil, List.length_cons, List.length_nil, List.head?_cons, List.head?_nil, ↓reduceIte, Nat.reduceAdd, Nat.reduceSub, Nat.reduceEqDiff, reduceCtorEq, and_true, true_and, and_false, false_and, or_true, true_or, or_false, false_or, not_true_eq_false, not_false_eq_true, Bool.not_true, Bool.not_false, Bool.false_eq_true, Bool.true_eq_false, ne_eq, if_true, if_false, eq_self, deref, items, seqs, isOk, isinV, List.any_cons, List.any_nil, Bool.or_false, Bool.false_or, Bool.or_true, Bool.true_or, bitIn, bitV, optInt, implies_true, Option.map_some, Option.map_none, forall_const, PV.int.injEq, PV.bl.injEq, and_self, or_self, Int.reduceNeg, Int.reduceSub, Int.reduceAdd, Option.some.injEq, i_bl, i_and, i_or, Bool.and_true, Bool.true_and, Bool.and_false, Bool.false_and, Bool.not_not, nb_non, nb_int, nb_tup, nb_lst, nb_bl, nb_str, tb_non, tb_int, tb_bl, v_add, v_sub, a_add, a_sub, q_int, n_int, q_bl, n_bl, lt_int, gt_int, le_int, ge_int, q_tup, n_tup, q_tup0, n_tup0, q_0tup, q_00, n_0tup, n_00, q_l00, n_l00, q_lst, n_lst, q_lst0, n_lst0, in_tup, ni_tup, in_lst, ni_lst, ix_t, ix_l, ix_r, ix_e, atP_zero, atP_one, atP_two, atP_three, len_t, len_l, len_s, int_i, max2_i, min2_i, lt_tup, decide_true, decide_false, Int.reduceLE, Int.reduceLT, Int.reduceToNat, List.getElem?_cons_zero, List.getElem?_cons_succ, List.set_cons_zero, List.set_cons_succ, List.length_map, it_lst, it_tup, show (0 : Int) < (i : Int) by omega, ha, hge, hl, hly, hr]
            rw [hsum (y + 1) _ (by omega) rfl rfl (fun _ => rfl) (fun _ => rfl) (fun _ => rfl)]
            simp only [bind_ok, liftS_ok, op1_some, andThen_nx, andThen_rt, andThen_bk, fin_rt, fin_nx, asB_bl, getS_zero, getS_succ, getS_nil, setS_zero, setS_succ, clr_zero, clr_succ, rd_true, rd_val, rd_int, rd_tup, rd_bl, rd_str, rd_non, rd_ref, rd_fn, rd_exc, bindT_nm, bindT_tp, setAll_nil, setAll_cons, putAllS_nil, putAllS_cons, kTup, kLst, kBox, kBin2, kBin1, kNeg, kBl, kNot, kCmp2, kCmp1, kCh4, kCh3, kCh2, kCh1, kIsN, kNotN, kIsT, kNotT, kIfe, kIdx2, kIdx1, kOpt, kSl3, kSl2, kSl1, kRev, kCall, kCd2, kCd1, kBi, kBit2, kBit1, kIsin, kItems, kElt2, kElt1, cF, kComp, kEs2, kEs1, kAnd, kOr, kRng2, kRng1, kEn2, kEn1, e_var, e_k, e_glob, e_fnv, e_tup, e_lst, e_box, e_bin, e_neg, e_and, e_or, e_not, e_cmp, e_chain, e_isN, e_notN, e_isT, e_notT, e_ife, e_idx, e_slice, e_rev, e_call, e_calld, e_bi, e_bit, e_isin, e_comp, e_range, e_enum, es_nil, es_cons, and_nil, and_cons, or_nil, or_cons, kVal, kMv, kRs2, kRs1, kAsg, optS, kAsgT, kPar, kSet3, set2, kSet1, kApp, app2, pop2, kAug, aug2, kExpr, kIff, wC, fB, kFor, kRet, rh_var, rh_e, rv_val, rv_int, rv_tup, rv_bl, rv_str, rv_non, rv_ref, rv_fn, rv_exc, rv_ownL, rv_ownD, rr_nil, rr_cons, x_asg, x_asgT, x_par, x_setI, x_app, x_pop, x_aug, x_expr, x_frz, x_iff, x_whl, x_for, x_ret, x_retN, x_brk, x_pass, x_never, xs_nil, xs_cons, frE, cont, held, freeze, startS, List.map_cons, List.map_nil, List.replicate, List.cons_append, List.nil_append, List.append_nil, List.length_cons, List.length_nil, List.head?_cons, List.head?_nil, ↓reduceIte, Nat.reduceAdd, Nat.reduceSub, Nat.reduceEqDiff, reduceCtorEq, and_true, true_and, and_false, false_and, or_true, true_or, or_false, false_or, not_true_eq_false, not_false_eq_true, Bool.not_true, Bool.not_false, Bool.false_eq_true, Bool.true_eq_false, ne_eq, if_true, if_false, eq_self, deref, items, seqs, isOk, isinV, List.any_cons, List.any_nil, Bool.or_false, Bool.false_or, Bool.or_true, Bool.true_or, bitIn, bitV, optInt, implies_true, Option.map_some, Option.map_none, forall_const, PV.int.injEq, PV.bl.injEq, and_self, or_self, Int.reduceNeg, Int.reduceSub, Int.reduceAdd, Option.some.injEq, i_bl, i_and, i_or, Bool.and_true, Bool.true_and, Bool.and_false, Bool.false_and, Bool.not_not, nb_non, nb_int, nb_tup, nb_lst, nb_bl, nb_str, tb_non, tb_int, tb_bl, v_add, v_sub, a_add, a_sub, q_int, n_int, q_bl, n_bl, lt_int, gt_int, le_int, ge_int, q_tup, n_tup, q_tup0, n_tup0, q_0tup, q_00, n_0tup, n_00, q_l00, n_l00, q_lst, n_lst, q_lst0, n_lst0, in_tup, ni_tup, in_lst, ni_lst, ix_t, ix_l, ix_r, ix_e, atP_zero, atP_one, atP_two, atP_three, len_t, len_l, len_s, int_i, max2_i, min2_i, lt_tup, decide_true, decide_false, Int.reduceLE, Int.reduceLT, Int.reduceToNat, List.getElem?_cons_zero, List.getElem?_cons_succ, List.set_cons_zero, List.set_cons_succ, List.length_map, it_lst, it_tup, sumV_mapf]
            have hv : Rk n (la b) false (hd b) (l.map (·.1) ++ [x]) = Rk n (la b) false (hd b) (l.map (·.1)) + (List.map (begunS n (la b)) (rg (y + 1) (x - (y + 1)).toNat)).sum := by
              rw [Rk_snoc]
              simp only [hne, if_false, hly, hge, b1, decide_false, Bool.false_eq_true, sumC, Int.add_zero]
            refine hnx _ _ ⟨rfl, ?_⟩
            simp only [hsnoc, hv, la_snoc, List.append_eq_nil_iff, reduceCtorEq, and_false, if_false]
            exact ⟨_, _, _, _, rfl⟩
      · rintro σ S' ⟨rfl, t4, t6, t7, t8, rfl⟩
        have hm : t.zipIdx.map (·.1) = t := zip_fst t 0
        simp only [bind_ok, liftS_ok, op1_some, andThen_nx, andThen_rt, andThen_bk, fin_rt, fin_nx, asB_bl, getS_zero, getS_succ, getS_nil, setS_zero, setS_succ, clr_zero, clr_succ, rd_true, rd_val, rd_int, rd_tup, rd_bl, rd_str, rd_non, rd_ref, rd_fn, rd_exc, bindT_nm, bindT_tp, setAll_nil, setAll_cons, putAllS_nil, putAllS_cons, kTup, kLst, kBox, kBin2, kBin1, kNeg, kBl, kNot, kCmp2, kCmp1, kCh4, kCh3, kCh2, kCh1, kIsN, kNotN, kIsT, kNotT, kIfe, kIdx2, kIdx1, kOpt, kSl3, kSl2, kSl1, kRev, kCall, kCd2, kCd1, kBi, kBit2, kBit1, kIsin, kItems, kElt2, kElt1, cF, kComp, kEs2, kEs1, kAnd, kOr, kRng2, kRng1, kEn2, kEn1, e_var, e_k, e_glob, e_fnv, e_tup, e_lst, e_box, e_bin, e_neg, e_and, e_or, e_not, e_cmp, e_chain, e_isN, e_notN, e_isT, e_notT, e_ife, e_idx, e_slice, e_rev, e_call, e_calld, e_bi, e_bit, e_isin, e_comp, e_range, e_enum, es_nil, es_cons, and_nil, and_cons, or_nil, or_cons, kVal, kMv, kRs2, kRs1, kAsg, optS, kAsgT, kPar, kSet3, set2, kSet1, kApp, app2, pop2, kAug, aug2, kExpr, kIff, wC, fB, kFor, kRet, rh_var, rh_e, rv_val, rv_int, rv_tup, rv_bl, rv_str, rv_non, rv_ref, rv_fn, rv_exc, rv_ownL, rv_ownD, rr_nil, rr_cons, x_asg, x_asgT, x_par, x_setI, x_app, x_pop, x_aug, x_expr, x_frz, x_iff, x_whl, x_for, x_ret, x_retN, x_brk, x_pass, x_never, xs_nil, xs_cons, frE, cont, held, freeze, startS, List.map_cons, List.map_nil, List.replicate, List.cons_append, List.nil_append, List.append_nil, List.length_cons, List.length_nil, List.head?_cons, List.head?_nil, ↓reduceIte, Nat.reduceAdd, Nat.reduceSub, Nat.reduceEqDiff, reduceCtorEq, and_true, true_and, and_false, false_and, or_true, true_or, or_false, false_or, not_true_eq_false, not_false_eq_true, Bool.not_true, Bool.not_false, Bool.false_eq_true, Bool.true_eq_false, ne_eq, if_true, if_false, eq_self, deref, items, seqs, isOk, isinV, List.any_cons, List.any_nil, Bool.or_false, Bool.false_or, Bool.or_true, Bool.true_or, bitIn, bitV, optInt, implies_true, Option.map_some, Option.map_none, forall_const, PV.int.injEq, PV.bl.injEq, and_self, or_self, Int.reduceNeg, Int.reduceSub, Int.reduceAdd, Option.some.injEq, i_bl, i_and, i_or, Bool.and_true, Bool.true_and, Bool.and_false, Bool.false_and, Bool.not_not, nb_non, nb_int, nb_tup, nb_lst, nb_bl, nb_str, tb_non, tb_int, tb_bl, v_add, v_sub, a_add, a_sub, q_int, n_int, q_bl, n_bl, lt_int, gt_int, le_int, ge_int, q_tup, n_tup, q_tup0, n_tup0, q_0tup, q_00, n_0tup, n_00, q_l00, n_l00, q_lst, n_lst, q_lst0, n_lst0, in_tup, ni_tup, in_lst, ni_lst, ix_t, ix_l, ix_r, ix_e, atP_zero, atP_one, atP_two, atP_three, len_t, len_l, len_s, int_i, max2_i, min2_i, lt_tup, decide_true, decide_false, Int.reduceLE, Int.reduceLT, Int.reduceToNat, List.getElem?_cons_zero, List.getElem?_cons_succ, List.set_cons_zero, List.set_cons_succ, List.length_map, it_lst, it_tup, hm]
        rfl
end L
end G
end

section
set_option autoImplicit false
/-! R24d: draws of rows, the law's own count of costs, the law. -/
namespace G
namespace L
theorem rg_pw : ∀ (N : Nat) (lo : Int), (rg lo N).Pairwise (· < ·)
  | 0, lo => by simp [rg_zero]
  | N + 1, lo => by
    rw [rg_succ, List.pairwise_cons]
    exact ⟨fun x hx => by have := mem_rg.mp hx; omega, rg_pw N _⟩
theorem stand_sub {n : Int} {t : List Int} (h : t.Sublist (rg 0 n.toNat)) : Stand n t :=
  ⟨List.Pairwise.sublist h (rg_pw _ _), fun x hx => by have := mem_rg.mp (h.subset hx); omega⟩
theorem m_law_row_burning (k : Nat) (n : Int) (S : St) (hS : RowOk S) (h1 : 0 ≤ n) (h2 : n ≤ 1000) : ∃ v S', cl T gv (k+3) 145 [.ref 0, .int n] S = .ok v S' ∧ ∃ t, v = .tup (t.map .int) ∧ Stand n t ∧ RowOk S' := by
  have e1 : (line : Int) = 16777216 := rfl
  have e2 : lineI = 4611686018427387904 := rfl
  obtain ⟨v, S1, e, hv, h1'⟩ := m_pick k [.int 2, .int 3, .int 8] (by decide) (by decide) S hS
  obtain ⟨z, rfl, hz, hz2⟩ : ∃ z, v = .int z ∧ 0 < z ∧ z < 10 := by
    simp only [List.mem_cons, List.not_mem_nil, or_false] at hv
    rcases hv with rfl | rfl | rfl
    · exact ⟨2, rfl, by decide, by decide⟩
    · exact ⟨3, rfl, by decide, by decide⟩
    · exact ⟨8, rfl, by decide, by decide⟩
  refine callF_ex (d := d_law_row_burning) rfl rfl ?_
  simp only [d_law_row_burning, bind_ok, liftS_ok, op1_some, andThen_nx, andThen_rt, andThen_bk, fin_rt, fin_nx, asB_bl, getS_zero, getS_succ, getS_nil, setS_zero, setS_succ, clr_zero, clr_succ, rd_true, rd_val, rd_int, rd_tup, rd_bl, rd_str, rd_non, rd_ref, rd_fn, rd_exc, bindT_nm, bindT_tp, setAll_nil, setAll_cons, putAllS_nil, putAllS_cons, kTup, kLst, kBox, kBin2, kBin1, kNeg, kBl, kNot, kCmp2, kCmp1, kCh4, kCh3, kCh2, kCh1, kIsN, kNotN, kIsT, kNotT, kIfe, kIdx2, kIdx1, kOpt, kSl3, kSl2, kSl1, kRev, kCall, kCd2, kCd1, kBi, kBit2, kBit1, kIsin, kItems, kElt2, kElt1, cF, kComp, kEs2, kEs1, kAnd, kOr, kRng2, kRng1, kEn2, kEn1, e_var, e_k, e_glob, e_fnv, e_tup, e_lst, e_box, e_bin, e_neg, e_and, e_or, e_not, e_cmp, e_chain, e_isN, e_notN, e_isT, e_notT, e_ife, e_idx, e_slice, e_rev, e_call, e_calld, e_bi, e_bit, e_isin, e_comp, e_range, e_enum, es_nil, es_cons, and_nil, and_cons, or_nil, or_cons, kVal, kMv, kRs2, kRs1, kAsg, optS, kAsgT, kPar, kSet3, set2, kSet1, kApp, app2, pop2, kAug, aug2, kExpr, kIff, wC, fB, kFor, kRet, rh_var, rh_e, rv_val, rv_int, rv_tup, rv_bl, rv_str, rv_non, rv_ref, rv_fn, rv_exc, rv_ownL, rv_ownD, rr_nil, rr_cons, x_asg, x_asgT, x_par, x_setI, x_app, x_pop, x_aug, x_expr, x_frz, x_iff, x_whl, x_for, x_ret, x_retN, x_brk, x_pass, x_never, xs_nil, xs_cons, frE, cont, held, freeze, startS, List.map_cons, List.map_nil, List.replicate, List.cons_append, List.nil_append, List.append_nil, List.length_cons, List.length_nil, List.head?_cons, List.head?_nil, ↓reduceIte, Nat.reduceAdd, Nat.reduceSub, Nat.reduceEqDiff, reduceCtorEq, and_true, true_and, and_false, false_and, or_true, true_or, or_false, false_or, not_true_eq_false, not_false_eq_true, Bool.not_true, Bool.not_false, Bool.false_eq_true, Bool.true_eq_false, ne_eq, if_true, if_false, eq_self, deref, items, seqs, isOk, isinV, List.any_cons, List.any_nil, Bool.or_false, Bool.false_or, Bool.or_true, Bool.true_or, bitIn, bitV, optInt, implies_true, Option.map_some, Option.map_none, forall_const, PV.int.injEq, PV.bl.injEq, and_self, or_self, Int.reduceNeg, Int.reduceSub, Int.reduceAdd, Option.some.injEq, i_bl, i_and, i_or, Bool.and_true, Bool.true_and, Bool.and_false, Bool.false_and, Bool.not_not, nb_non, nb_int, nb_tup, nb_lst, nb_bl, nb_str, tb_non, tb_int, tb_bl, v_add, v_sub, a_add, a_sub, q_int, n_int, q_bl, n_bl, lt_int, gt_int, le_int, ge_int, q_tup, n_tup, q_tup0, n_tup0, q_0tup, q_00, n_0tup, n_00, q_l00, n_l00, q_lst, n_lst, q_lst0, n_lst0, in_tup, ni_tup, in_lst, ni_lst, ix_t, ix_l, ix_r, ix_e, atP_zero, atP_one, atP_two, atP_three, len_t, len_l, len_s, int_i, max2_i, min2_i, lt_tup, decide_true, decide_false, Int.reduceLE, Int.reduceLT, Int.reduceToNat, List.getElem?_cons_zero, List.getElem?_cons_succ, List.set_cons_zero, List.set_cons_succ, List.length_map, it_lst, it_tup, e, rangeV1 (n := n) (by omega) (by omega)]
  obtain ⟨ys, S2, e3, ⟨hS2, t, ht, rfl⟩⟩ := comp_inv (f := cF ⟨cl T gv (k+2), gv⟩ (.var 3) (Tg.nm 3) [(.cmp .eq (.call 11 [(.var 0), (.var 2)]) (.k (.int 0)))] [some (Tag.bor, PV.ref 0), some (Tag.bor, PV.int n), some (Tag.val, PV.int z), none]) PV.int (fun l acc S => RowOk S ∧ ∃ t : List Int, t.Sublist l ∧ acc = t.map .int) (rg 0 n.toNat) [] [] S1 ⟨h1', [], List.Sublist.refl _, rfl⟩ (by
    rintro m x r acc S _ ⟨hS, t, ht, rfl⟩
    obtain ⟨v, S', e, i, rfl, hi, hi2, hS'⟩ := m_taken (k+1) z hz (Int.lt_of_lt_of_le hz2 (by decide)) S hS
    simp only [bind_ok, liftS_ok, op1_some, andThen_nx, andThen_rt, andThen_bk, fin_rt, fin_nx, asB_bl, getS_zero, getS_succ, getS_nil, setS_zero, setS_succ, clr_zero, clr_succ, rd_true, rd_val, rd_int, rd_tup, rd_bl, rd_str, rd_non, rd_ref, rd_fn, rd_exc, bindT_nm, bindT_tp, setAll_nil, setAll_cons, putAllS_nil, putAllS_cons, kTup, kLst, kBox, kBin2, kBin1, kNeg, kBl, kNot, kCmp2, kCmp1, kCh4, kCh3, kCh2, kCh1, kIsN, kNotN, kIsT, kNotT, kIfe, kIdx2, kIdx1, kOpt, kSl3, kSl2, kSl1, kRev, kCall, kCd2, kCd1, kBi, kBit2, kBit1, kIsin, kItems, kElt2, kElt1, cF, kComp, kEs2, kEs1, kAnd, kOr, kRng2, kRng1, kEn2, kEn1, e_var, e_k, e_glob, e_fnv, e_tup, e_lst, e_box, e_bin, e_neg, e_and, e_or, e_not, e_cmp, e_chain, e_isN, e_notN, e_isT, e_notT, e_ife, e_idx, e_slice, e_rev, e_call, e_calld, e_bi, e_bit, e_isin, e_comp, e_range, e_enum, es_nil, es_cons, and_nil, and_cons, or_nil, or_cons, kVal, kMv, kRs2, kRs1, kAsg, optS, kAsgT, kPar, kSet3, set2, kSet1, kApp, app2, pop2, kAug, aug2, kExpr, kIff, wC, fB, kFor, kRet, rh_var, rh_e, rv_val, rv_int, rv_tup, rv_bl, rv_str, rv_non, rv_ref, rv_fn, rv_exc, rv_ownL, rv_ownD, rr_nil, rr_cons, x_asg, x_asgT, x_par, x_setI, x_app, x_pop, x_aug, x_expr, x_frz, x_iff, x_whl, x_for, x_ret, x_retN, x_brk, x_pass, x_never, xs_nil, xs_cons, frE, cont, held, freeze, startS, List.map_cons, List.map_nil, List.replicate, List.cons_append, List.nil_append, List.append_nil, List.length_cons, List.length_nil, List.head?_cons, List.head?_nil, ↓reduceIte, Nat.reduceAdd, Nat.reduceSub, Nat.reduceEqDiff, reduceCtorEq, and_true, true_and, and_false, false_and, or_true, true_or, or_false, false_or, not_true_eq_false, not_false_eq_true, Bool.not_true, Bool.not_false, Bool.false_eq_true, Bool.true_eq_false, ne_eq, if_true, if_false, eq_self, deref, items, seqs, isOk, isinV, List.any_cons, List.any_nil, Bool.or_false, Bool.false_or, Bool.or_true, Bool.true_or, bitIn, bitV, optInt, implies_true, Option.map_some, Option.map_none, forall_const, PV.int.injEq, PV.bl.injEq, and_self, or_self, Int.reduceNeg, Int.reduceSub, Int.reduceAdd, Option.some.injEq, i_bl, i_and, i_or, Bool.and_true, Bool.true_and, Bool.and_false, Bool.false_and, Bool.not_not, nb_non, nb_int, nb_tup, nb_lst, nb_bl, nb_str, tb_non, tb_int, tb_bl, v_add, v_sub, a_add, a_sub, q_int, n_int, q_bl, n_bl, lt_int, gt_int, le_int, ge_int, q_tup, n_tup, q_tup0, n_tup0, q_0tup, q_00, n_0tup, n_00, q_l00, n_l00, q_lst, n_lst, q_lst0, n_lst0, in_tup, ni_tup, in_lst, ni_lst, ix_t, ix_l, ix_r, ix_e, atP_zero, atP_one, atP_two, atP_three, len_t, len_l, len_s, int_i, max2_i, min2_i, lt_tup, decide_true, decide_false, Int.reduceLE, Int.reduceLT, Int.reduceToNat, List.getElem?_cons_zero, List.getElem?_cons_succ, List.set_cons_zero, List.set_cons_succ, List.length_map, it_lst, it_tup, e]
    by_cases c : i = 0
    · refine ⟨some (.int x), S', by simp only [c, bind_ok, liftS_ok, op1_some, andThen_nx, andThen_rt, andThen_bk, fin_rt, fin_nx, asB_bl, getS_zero, getS_succ, getS_nil, setS_zero, setS_succ, clr_zero, clr_succ, rd_true, rd_val, rd_int, rd_tup, rd_bl, rd_str, rd_non, rd_ref, rd_fn, rd_exc, bindT_nm, bindT_tp, setAll_nil, setAll_cons, putAllS_nil, putAllS_cons, kTup, kLst, kBox, kBin2, kBin1, kNeg, kBl, kNot, kCmp2, kCmp1, kCh4, kCh3, kCh2, kCh1, kIsN, kNotN, kIsT, kNotT, kIfe, kIdx2, kIdx1, kOpt, kSl3, kSl2, kSl1, kRev, kCall, kCd2, kCd1, kBi, kBit2, kBit1, kIsin, kItems, kElt2, kElt1, cF, kComp, kEs2, kEs1, kAnd, kOr, kRng2, kRng1, kEn2, kEn1, e_var, e_k, e_glob, e_fnv, e_tup, e_lst, e_box, e_bin, e_neg, e_and, e_or, e_not, e_cmp, e_chain, e_isN, e_notN, e_isT, e_notT, e_ife, e_idx, e_slice, e_rev, e_call, e_calld, e_bi, e_bit, e_isin, e_comp, e_range, e_enum, es_nil, es_cons, and_nil, and_cons, or_nil, or_cons, kVal, kMv, kRs2, kRs1, kAsg, optS, kAsgT, kPar, kSet3, set2, kSet1, kApp, app2, pop2, kAug, aug2, kExpr, kIff, wC, fB, kFor, kRet, rh_var, rh_e, rv_val, rv_int, rv_tup, rv_bl, rv_str, rv_non, rv_ref, rv_fn, rv_exc, rv_ownL, rv_ownD, rr_nil, rr_cons, x_asg, x_asgT, x_par, x_setI, x_app, x_pop, x_aug, x_expr, x_frz, x_iff, x_whl, x_for, x_ret, x_retN, x_brk, x_pass, x_never, xs_nil, xs_cons, frE, cont, held, freeze, startS, List.map_cons, List.map_nil, List.replicate, List.cons_append, List.nil_append, List.append_nil, List.length_cons, List.length_nil, List.head?_cons, List.head?_nil, ↓reduceIte, Nat.reduceAdd, Nat.reduceSub, Nat.reduceEqDiff, reduceCtorEq, and_true, true_and, and_false, false_and, or_true, true_or, or_false, false_or, not_true_eq_false, not_false_eq_true, Bool.not_true, Bool.not_false, Bool.false_eq_true, Bool.true_eq_false, ne_eq, if_true, if_false, eq_self, deref, items, seqs, isOk, isinV, List.any_cons, List.any_nil, Bool.or_false, Bool.false_or, Bool.or_true, Bool.true_or, bitIn, bitV, optInt, implies_true, Option.map_some, Option.map_none, forall_const, PV.int.injEq, PV.bl.injEq, and_self, or_self, Int.reduceNeg, Int.reduceSub, Int.reduceAdd, Option.some.injEq, i_bl, i_and, i_or, Bool.and_true, Bool.true_and, Bool.and_false, Bool.false_and, Bool.not_not, nb_non, nb_int, nb_tup, nb_lst, nb_bl, nb_str, tb_non, tb_int, tb_bl, v_add, v_sub, a_add, a_sub, q_int, n_int, q_bl, n_bl, lt_int, gt_int, le_int, ge_int, q_tup, n_tup, q_tup0, n_tup0, q_0tup, q_00, n_0tup, n_00, q_l00, n_l00, q_lst, n_lst, q_lst0, n_lst0, in_tup, ni_tup, in_lst, ni_lst, ix_t, ix_l, ix_r, ix_e, atP_zero, atP_one, atP_two, atP_three, len_t, len_l, len_s, int_i, max2_i, min2_i, lt_tup, decide_true, decide_false, Int.reduceLE, Int.reduceLT, Int.reduceToNat, List.getElem?_cons_zero, List.getElem?_cons_succ, List.set_cons_zero, List.set_cons_succ, List.length_map, it_lst, it_tup], hS', t ++ [x], ht.append (List.Sublist.refl _), by simp⟩
    · refine ⟨none, S', by simp only [c, bind_ok, liftS_ok, op1_some, andThen_nx, andThen_rt, andThen_bk, fin_rt, fin_nx, asB_bl, getS_zero, getS_succ, getS_nil, setS_zero, setS_succ, clr_zero, clr_succ, rd_true, rd_val, rd_int, rd_tup, rd_bl, rd_str, rd_non, rd_ref, rd_fn, rd_exc, bindT_nm, bindT_tp, setAll_nil, setAll_cons, putAllS_nil, putAllS_cons, kTup, kLst, kBox, kBin2, kBin1, kNeg, kBl, kNot, kCmp2, kCmp1, kCh4, kCh3, kCh2, kCh1, kIsN, kNotN, kIsT, kNotT, kIfe, kIdx2, kIdx1, kOpt, kSl3, kSl2, kSl1, kRev, kCall, kCd2, kCd1, kBi, kBit2, kBit1, kIsin, kItems, kElt2, kElt1, cF, kComp, kEs2, kEs1, kAnd, kOr, kRng2, kRng1, kEn2, kEn1, e_var, e_k, e_glob, e_fnv, e_tup, e_lst, e_box, e_bin, e_neg, e_and, e_or, e_not, e_cmp, e_chain, e_isN, e_notN, e_isT, e_notT, e_ife, e_idx, e_slice, e_rev, e_call, e_calld, e_bi, e_bit, e_isin, e_comp, e_range, e_enum, es_nil, es_cons, and_nil, and_cons, or_nil, or_cons, kVal, kMv, kRs2, kRs1, kAsg, optS, kAsgT, kPar, kSet3, set2, kSet1, kApp, app2, pop2, kAug, aug2, kExpr, kIff, wC, fB, kFor, kRet, rh_var, rh_e, rv_val, rv_int, rv_tup, rv_bl, rv_str, rv_non, rv_ref, rv_fn, rv_exc, rv_ownL, rv_ownD, rr_nil, rr_cons, x_asg, x_asgT, x_par, x_setI, x_app, x_pop, x_aug, x_expr, x_frz, x_iff, x_whl, x_for, x_ret, x_retN, x_brk, x_pass, x_never, xs_nil, xs_cons, frE, cont, held, freeze, startS, List.map_cons, List.map_nil, List.replicate, List.cons_append, List.nil_append, List.append_nil, List.length_cons, List.length_nil, List.head?_cons, List.head?_nil, ↓reduceIte, Nat.reduceAdd, Nat.reduceSub, Nat.reduceEqDiff, reduceCtorEq, and_true, true_and, and_false, false_and, or_true, true_or, or_false, false_or, not_true_eq_false, not_false_eq_true, Bool.not_true, Bool.not_false, Bool.false_eq_true, Bool.true_eq_false, ne_eq, if_true, if_false, eq_self, deref, items, seqs, isOk, isinV, List.any_cons, List.any_nil, Bool.or_false, Bool.false_or, Bool.or_true, Bool.true_or, bitIn, bitV, optInt, implies_true, Option.map_some, Option.map_none, forall_const, PV.int.injEq, PV.bl.injEq, and_self, or_self, Int.reduceNeg, Int.reduceSub, Int.reduceAdd, Option.some.injEq, i_bl, i_and, i_or, Bool.and_true, Bool.true_and, Bool.and_false, Bool.false_and, Bool.not_not, nb_non, nb_int, nb_tup, nb_lst, nb_bl, nb_str, tb_non, tb_int, tb_bl, v_add, v_sub, a_add, a_sub, q_int, n_int, q_bl, n_bl, lt_int, gt_int, le_int, ge_int, q_tup, n_tup, q_tup0, n_tup0, q_0tup, q_00, n_0tup, n_00, q_l00, n_l00, q_lst, n_lst, q_lst0, n_lst0, in_tup, ni_tup, in_lst, ni_lst, ix_t, ix_l, ix_r, ix_e, atP_zero, atP_one, atP_two, atP_three, len_t, len_l, len_s, int_i, max2_i, min2_i, lt_tup, decide_true, decide_false, Int.reduceLE, Int.reduceLT, Int.reduceToNat, List.getElem?_cons_zero, List.getElem?_cons_succ, List.set_cons_zero, List.set_cons_succ, List.length_map, it_lst, it_tup], hS', t, ?_, by simp⟩
      exact (List.append_nil t ▸ ht.append (List.nil_sublist [x])))
  simp only [e3, bind_ok, liftS_ok, op1_some, andThen_nx, andThen_rt, andThen_bk, fin_rt, fin_nx, asB_bl, getS_zero, getS_succ, getS_nil, setS_zero, setS_succ, clr_zero, clr_succ, rd_true, rd_val, rd_int, rd_tup, rd_bl, rd_str, rd_non, rd_ref, rd_fn, rd_exc, bindT_nm, bindT_tp, setAll_nil, setAll_cons, putAllS_nil, putAllS_cons, kTup, kLst, kBox, kBin2, kBin1, kNeg, kBl, kNot, kCmp2, kCmp1, kCh4, kCh3, kCh2, kCh1, kIsN, kNotN, kIsT, kNotT, kIfe, kIdx2, kIdx1, kOpt, kSl3, kSl2, kSl1, kRev, kCall, kCd2, kCd1, kBi, kBit2, kBit1, kIsin, kItems, kElt2, kElt1, cF, kComp, kEs2, kEs1, kAnd, kOr, kRng2, kRng1, kEn2, kEn1, e_var, e_k, e_glob, e_fnv, e_tup, e_lst, e_box, e_bin, e_neg, e_and, e_or, e_not, e_cmp, e_chain, e_isN, e_notN, e_isT, e_notT, e_ife, e_idx, e_slice, e_rev, e_call, e_calld, e_bi, e_bit, e_isin, e_comp, e_range, e_enum, es_nil, es_cons, and_nil, and_cons, or_nil, or_cons, kVal, kMv, kRs2, kRs1, kAsg, optS, kAsgT, kPar, kSet3, set2, kSet1, kApp, app2, pop2, kAug, aug2, kExpr, kIff, wC, fB, kFor, kRet, rh_var, rh_e, rv_val, rv_int, rv_tup, rv_bl, rv_str, rv_non, rv_ref, rv_fn, rv_exc, rv_ownL, rv_ownD, rr_nil, rr_cons, x_asg, x_asgT, x_par, x_setI, x_app, x_pop, x_aug, x_expr, x_frz, x_iff, x_whl, x_for, x_ret, x_retN, x_brk, x_pass, x_never, xs_nil, xs_cons, frE, cont, held, freeze, startS, List.map_cons, List.map_nil, List.replicate, List.cons_append, List.nil_append, List.append_nil, List.length_cons, List.length_nil, List.head?_cons, List.head?_nil, ↓reduceIte, Nat.reduceAdd, Nat.reduceSub, Nat.reduceEqDiff, reduceCtorEq, and_true, true_and, and_false, false_and, or_true, true_or, or_false, false_or, not_true_eq_false, not_false_eq_true, Bool.not_true, Bool.not_false, Bool.false_eq_true, Bool.true_eq_false, ne_eq, if_true, if_false, eq_self, deref, items, seqs, isOk, isinV, List.any_cons, List.any_nil, Bool.or_false, Bool.false_or, Bool.or_true, Bool.true_or, bitIn, bitV, optInt, implies_true, Option.map_some, Option.map_none, forall_const, PV.int.injEq, PV.bl.injEq, and_self, or_self, Int.reduceNeg, Int.reduceSub, Int.reduceAdd, Option.some.injEq, i_bl, i_and, i_or, Bool.and_true, Bool.true_and, Bool.and_false, Bool.false_and, Bool.not_not, nb_non, nb_int, nb_tup, nb_lst, nb_bl, nb_str, tb_non, tb_int, tb_bl, v_add, v_sub, a_add, a_sub, q_int, n_int, q_bl, n_bl, lt_int, gt_int, le_int, ge_int, q_tup, n_tup, q_tup0, n_tup0, q_0tup, q_00, n_0tup, n_00, q_l00, n_l00, q_lst, n_lst, q_lst0, n_lst0, in_tup, ni_tup, in_lst, ni_lst, ix_t, ix_l, ix_r, ix_e, atP_zero, atP_one, atP_two, atP_three, len_t, len_l, len_s, int_i, max2_i, min2_i, lt_tup, decide_true, decide_false, Int.reduceLE, Int.reduceLT, Int.reduceToNat, List.getElem?_cons_zero, List.getElem?_cons_succ, List.set_cons_zero, List.set_cons_succ, List.length_map, it_lst, it_tup]
  exact ⟨_, _, rfl, t, rfl, stand_sub (by simpa using ht), hS2⟩
theorem comp_id {f : PV → St → R (Option PV)} (p : Int → Bool) {S : St} {xs : List Int} (h : ∀ x ∈ xs, f (.int x) S = .ok (if p x = true then some (.int x) else none) S) : cG f (xs.map .int) [] S = .ok (.lst ((xs.filter p).map .int)) S := comp_filter p PV.int h
theorem m_law_row_cost (k : Nat) (n : Int) (a b : List Int) (S : St) (h1 : 1 ≤ n) (h2 : n ≤ 40) : ∃ v, cl T gv (k+1) 146 [.int n, .bl false, .tup (a.map .int), .tup (b.map .int)] S = .ok v S ∧ isNonB v = !rowComes a b := by
  have e1 : (line : Int) = 16777216 := rfl
  have e2 : lineI = 4611686018427387904 := rfl
  have main : ∃ v S', cl T gv (k+1) 146 [.int n, .bl false, .tup (a.map .int), .tup (b.map .int)] S = .ok v S' ∧ S' = S ∧ isNonB v = !rowComes a b := by
    refine callF_ex (d := d_law_row_cost) rfl rfl ?_
    simp only [d_law_row_cost, bind_ok, liftS_ok, op1_some, andThen_nx, andThen_rt, andThen_bk, fin_rt, fin_nx, asB_bl, getS_zero, getS_succ, getS_nil, setS_zero, setS_succ, clr_zero, clr_succ, rd_true, rd_val, rd_int, rd_tup, rd_bl, rd_str, rd_non, rd_ref, rd_fn, rd_exc, bindT_nm, bindT_tp, setAll_nil, setAll_cons, putAllS_nil, putAllS_cons, kTup, kLst, kBox, kBin2, kBin1, kNeg, kBl, kNot, kCmp2, kCmp1, kCh4, kCh3, kCh2, kCh1, kIsN, kNotN, kIsT, kNotT, kIfe, kIdx2, kIdx1, kOpt, kSl3, kSl2, kSl1, kRev, kCall, kCd2, kCd1, kBi, kBit2, kBit1, kIsin, kItems, kElt2, kElt1, cF, kComp, kEs2, kEs1, kAnd, kOr, kRng2, kRng1, kEn2, kEn1, e_var, e_k, e_glob, e_fnv, e_tup, e_lst, e_box, e_bin, e_neg, e_and, e_or, e_not, e_cmp, e_chain, e_isN, e_notN, e_isT, e_notT, e_ife, e_idx, e_slice, e_rev, e_call, e_calld, e_bi, e_bit, e_isin, e_comp, e_range, e_enum, es_nil, es_cons, and_nil, and_cons, or_nil, or_cons, kVal, kMv, kRs2, kRs1, kAsg, optS, kAsgT, kPar, kSet3, set2, kSet1, kApp, app2, pop2, kAug, aug2, kExpr, kIff, wC, fB, kFor, kRet, rh_var, rh_e, rv_val, rv_int, rv_tup, rv_bl, rv_str, rv_non, rv_ref, rv_fn, rv_exc, rv_ownL, rv_ownD, rr_nil, rr_cons, x_asg, x_asgT, x_par, x_setI, x_app, x_pop, x_aug, x_expr, x_frz, x_iff, x_whl, x_for, x_ret, x_retN, x_brk, x_pass, x_never, xs_nil, xs_cons, frE, cont, held, freeze, startS, List.map_cons, List.map_nil, List.replicate, List.cons_append, List.nil_append, List.append_nil, List.length_cons, List.length_nil, List.head?_cons, List.head?_nil, ↓reduceIte, Nat.reduceAdd, Nat.reduceSub, Nat.reduceEqDiff, reduceCtorEq, and_true, true_and, and_false, false_and, or_true, true_or, or_false, false_or, not_true_eq_false, not_false_eq_true, Bool.not_true, Bool.not_false, Bool.false_eq_true, Bool.true_eq_false, ne_eq, if_true, if_false, eq_self, deref, items, seqs, isOk, isinV, List.any_cons, List.any_nil, Bool.or_false, Bool.false_or, Bool.or_true, Bool.true_or, bitIn, bitV, optInt, implies_true, Option.map_some, Option.map_none, forall_const, PV.int.injEq, PV.bl.injEq, and_self, or_self, Int.reduceNeg, Int.reduceSub, Int.reduceAdd, Option.some.injEq, i_bl, i_and, i_or, Bool.and_true, Bool.true_and, Bool.and_false, Bool.false_and, Bool.not_not, nb_non, nb_int, nb_tup, nb_lst, nb_bl, nb_str, tb_non, tb_int, tb_bl, v_add, v_sub, a_add, a_sub, q_int, n_int, q_bl, n_bl, lt_int, gt_int, le_int, ge_int, q_tup, n_tup, q_tup0, n_tup0, q_0tup, q_00, n_0tup, n_00, q_l00, n_l00, q_lst, n_lst, q_lst0, n_lst0, in_tup, ni_tup, in_lst, ni_lst, ix_t, ix_l, ix_r, ix_e, atP_zero, atP_one, atP_two, atP_three, len_t, len_l, len_s, int_i, max2_i, min2_i, lt_tup, decide_true, decide_false, Int.reduceLE, Int.reduceLT, Int.reduceToNat, List.getElem?_cons_zero, List.getElem?_cons_succ, List.set_cons_zero, List.set_cons_succ, List.length_map, it_lst, it_tup]
    by_cases ha : a = []
    · subst ha
      by_cases hb : b = []
      · subst hb
        simp only [bind_ok, liftS_ok, op1_some, andThen_nx, andThen_rt, andThen_bk, fin_rt, fin_nx, asB_bl, getS_zero, getS_succ, getS_nil, setS_zero, setS_succ, clr_zero, clr_succ, rd_true, rd_val, rd_int, rd_tup, rd_bl, rd_str, rd_non, rd_ref, rd_fn, rd_exc, bindT_nm, bindT_tp, setAll_nil, setAll_cons, putAllS_nil, putAllS_cons, kTup, kLst, kBox, kBin2, kBin1, kNeg, kBl, kNot, kCmp2, kCmp1, kCh4, kCh3, kCh2, kCh1, kIsN, kNotN, kIsT, kNotT, kIfe, kIdx2, kIdx1, kOpt, kSl3, kSl2, kSl1, kRev, kCall, kCd2, kCd1, kBi, kBit2, kBit1, kIsin, kItems, kElt2, kElt1, cF, kComp, kEs2, kEs1, kAnd, kOr, kRng2, kRng1, kEn2, kEn1, e_var, e_k, e_glob, e_fnv, e_tup, e_lst, e_box, e_bin, e_neg, e_and, e_or, e_not, e_cmp, e_chain, e_isN, e_notN, e_isT, e_notT, e_ife, e_idx, e_slice, e_rev, e_call, e_calld, e_bi, e_bit, e_isin, e_comp, e_range, e_enum, es_nil, es_cons, and_nil, and_cons, or_nil, or_cons, kVal, kMv, kRs2, kRs1, kAsg, optS, kAsgT, kPar, kSet3, set2, kSet1, kApp, app2, pop2, kAug, aug2, kExpr, kIff, wC, fB, kFor, kRet, rh_var, rh_e, rv_val, rv_int, rv_tup, rv_bl, rv_str, rv_non, rv_ref, rv_fn, rv_exc, rv_ownL, rv_ownD, rr_nil, rr_cons, x_asg, x_asgT, x_par, x_setI, x_app, x_pop, x_aug, x_expr, x_frz, x_iff, x_whl, x_for, x_ret, x_retN, x_brk, x_pass, x_never, xs_nil, xs_cons, frE, cont, held, freeze, startS, List.map_cons, List.map_nil, List.replicate, List.cons_append, List.nil_append, List.append_nil, List.length_cons, List.length_nil, List.head?_cons, List.head?_nil, ↓reduceIte, Nat.reduceAdd, Nat.reduceSub, Nat.reduceEqDiff, reduceCtorEq, and_true, true_and, and_false, false_and, or_true, true_or, or_false, false_or, not_true_eq_false, not_false_eq_true, Bool.not_true, Bool.not_false, Bool.false_eq_true, Bool.true_eq_false, ne_eq, if_true, if_false, eq_self, deref, items, seqs, isOk, isinV, List.any_cons, List.any_nil, Bool.or_false, Bool.false_or, Bool.or_true, Bool.true_or, bitIn, bitV, optInt, implies_true, Option.map_some, Option.map_none, forall_const, PV.int.injEq, PV.bl.injEq, and_self, or_self, Int.reduceNeg, Int.reduceSub, Int.reduceAdd, Option.some.injEq, i_bl, i_and, i_or, Bool.and_true, Bool.true_and, Bool.and_false, Bool.false_and, Bool.not_not, nb_non, nb_int, nb_tup, nb_lst, nb_bl, nb_str, tb_non, tb_int, tb_bl, v_add, v_sub, a_add, a_sub, q_int, n_int, q_bl, n_bl, lt_int, gt_int, le_int, ge_int, q_tup, n_tup, q_tup0, n_tup0, q_0tup, q_00, n_0tup, n_00, q_l00, n_l00, q_lst, n_lst, q_lst0, n_lst0, in_tup, ni_tup, in_lst, ni_lst, ix_t, ix_l, ix_r, ix_e, atP_zero, atP_one, atP_two, atP_three, len_t, len_l, len_s, int_i, max2_i, min2_i, lt_tup, decide_true, decide_false, Int.reduceLE, Int.reduceLT, Int.reduceToNat, List.getElem?_cons_zero, List.getElem?_cons_succ, List.set_cons_zero, List.set_cons_succ, List.length_map, it_lst, it_tup, List.map_nil]
        exact ⟨_, _, rfl, rfl, rfl⟩
      · have hb' : ¬ [] = b := fun z => hb z.symm
        simp only [bind_ok, liftS_ok, op1_some, andThen_nx, andThen_rt, andThen_bk, fin_rt, fin_nx, asB_bl, getS_zero, getS_succ, getS_nil, setS_zero, setS_succ, clr_zero, clr_succ, rd_true, rd_val, rd_int, rd_tup, rd_bl, rd_str, rd_non, rd_ref, rd_fn, rd_exc, bindT_nm, bindT_tp, setAll_nil, setAll_cons, putAllS_nil, putAllS_cons, kTup, kLst, kBox, kBin2, kBin1, kNeg, kBl, kNot, kCmp2, kCmp1, kCh4, kCh3, kCh2, kCh1, kIsN, kNotN, kIsT, kNotT, kIfe, kIdx2, kIdx1, kOpt, kSl3, kSl2, kSl1, kRev, kCall, kCd2, kCd1, kBi, kBit2, kBit1, kIsin, kItems, kElt2, kElt1, cF, kComp, kEs2, kEs1, kAnd, kOr, kRng2, kRng1, kEn2, kEn1, e_var, e_k, e_glob, e_fnv, e_tup, e_lst, e_box, e_bin, e_neg, e_and, e_or, e_not, e_cmp, e_chain, e_isN, e_notN, e_isT, e_notT, e_ife, e_idx, e_slice, e_rev, e_call, e_calld, e_bi, e_bit, e_isin, e_comp, e_range, e_enum, es_nil, es_cons, and_nil, and_cons, or_nil, or_cons, kVal, kMv, kRs2, kRs1, kAsg, optS, kAsgT, kPar, kSet3, set2, kSet1, kApp, app2, pop2, kAug, aug2, kExpr, kIff, wC, fB, kFor, kRet, rh_var, rh_e, rv_val, rv_int, rv_tup, rv_bl, rv_str, rv_non, rv_ref, rv_fn, rv_exc, rv_ownL, rv_ownD, rr_nil, rr_cons, x_asg, x_asgT, x_par, x_setI, x_app, x_pop, x_aug, x_expr, x_frz, x_iff, x_whl, x_for, x_ret, x_retN, x_brk, x_pass, x_never, xs_nil, xs_cons, frE, cont, held, freeze, startS, List.map_cons, List.map_nil, List.replicate, List.cons_append, List.nil_append, List.append_nil, List.length_cons, List.length_nil, List.head?_cons, List.head?_nil, ↓reduceIte, Nat.reduceAdd, Nat.reduceSub, Nat.reduceEqDiff, reduceCtorEq, and_true, true_and, and_false, false_and, or_true, true_or, or_false, false_or, not_true_eq_false, not_false_eq_true, Bool.not_true, Bool.not_false, Bool.false_eq_true, Bool.true_eq_false, ne_eq, if_true, if_false, eq_self, deref, items, seqs, isOk, isinV, List.any_cons, List.any_nil, Bool.or_false, Bool.false_or, Bool.or_true, Bool.true_or, bitIn, bitV, optInt, implies_true, Option.map_some, Option.map_none, forall_const, PV.int.injEq, PV.bl.injEq, and_self, or_self, Int.reduceNeg, Int.reduceSub, Int.reduceAdd, Option.some.injEq, i_bl, i_and, i_or, Bool.and_true, Bool.true_and, Bool.and_false, Bool.false_and, Bool.not_not, nb_non, nb_int, nb_tup, nb_lst, nb_bl, nb_str, tb_non, tb_int, tb_bl, v_add, v_sub, a_add, a_sub, q_int, n_int, q_bl, n_bl, lt_int, gt_int, le_int, ge_int, q_tup, n_tup, q_tup0, n_tup0, q_0tup, q_00, n_0tup, n_00, q_l00, n_l00, q_lst, n_lst, q_lst0, n_lst0, in_tup, ni_tup, in_lst, ni_lst, ix_t, ix_l, ix_r, ix_e, atP_zero, atP_one, atP_two, atP_three, len_t, len_l, len_s, int_i, max2_i, min2_i, lt_tup, decide_true, decide_false, Int.reduceLE, Int.reduceLT, Int.reduceToNat, List.getElem?_cons_zero, List.getElem?_cons_succ, List.set_cons_zero, List.set_cons_succ, List.length_map, it_lst, it_tup, List.map_nil, hb']
        exact ⟨_, _, rfl, rfl, by simp [isNonB, rowComes, hb']⟩
    · by_cases hb : b = []
      · subst hb
        simp only [bind_ok, liftS_ok, op1_some, andThen_nx, andThen_rt, andThen_bk, fin_rt, fin_nx, asB_bl, getS_zero, getS_succ, getS_nil, setS_zero, setS_succ, clr_zero, clr_succ, rd_true, rd_val, rd_int, rd_tup, rd_bl, rd_str, rd_non, rd_ref, rd_fn, rd_exc, bindT_nm, bindT_tp, setAll_nil, setAll_cons, putAllS_nil, putAllS_cons, kTup, kLst, kBox, kBin2, kBin1, kNeg, kBl, kNot, kCmp2, kCmp1, kCh4, kCh3, kCh2, kCh1, kIsN, kNotN, kIsT, kNotT, kIfe, kIdx2, kIdx1, kOpt, kSl3, kSl2, kSl1, kRev, kCall, kCd2, kCd1, kBi, kBit2, kBit1, kIsin, kItems, kElt2, kElt1, cF, kComp, kEs2, kEs1, kAnd, kOr, kRng2, kRng1, kEn2, kEn1, e_var, e_k, e_glob, e_fnv, e_tup, e_lst, e_box, e_bin, e_neg, e_and, e_or, e_not, e_cmp, e_chain, e_isN, e_notN, e_isT, e_notT, e_ife, e_idx, e_slice, e_rev, e_call, e_calld, e_bi, e_bit, e_isin, e_comp, e_range, e_enum, es_nil, es_cons, and_nil, and_cons, or_nil, or_cons, kVal, kMv, kRs2, kRs1, kAsg, optS, kAsgT, kPar, kSet3, set2, kSet1, kApp, app2, pop2, kAug, aug2, kExpr, kIff, wC, fB, kFor, kRet, rh_var, rh_e, rv_val, rv_int, rv_tup, rv_bl, rv_str, rv_non, rv_ref, rv_fn, rv_exc, rv_ownL, rv_ownD, rr_nil, rr_cons, x_asg, x_asgT, x_par, x_setI, x_app, x_pop, x_aug, x_expr, x_frz, x_iff, x_whl, x_for, x_ret, x_retN, x_brk, x_pass, x_never, xs_nil, xs_cons, frE, cont, held, freeze, startS, List.map_cons, List.map_nil, List.replicate, List.cons_append, List.nil_append, List.append_nil, List.length_cons, List.length_nil, List.head?_cons, List.head?_nil, ↓reduceIte, Nat.reduceAdd, Nat.reduceSub, Nat.reduceEqDiff, reduceCtorEq, and_true, true_and, and_false, false_and, or_true, true_or, or_false, false_or, not_true_eq_false, not_false_eq_true, Bool.not_true, Bool.not_false, Bool.false_eq_true, Bool.true_eq_false, ne_eq, if_true, if_false, eq_self, deref, items, seqs, isOk, isinV, List.any_cons, List.any_nil, Bool.or_false, Bool.false_or, Bool.or_true, Bool.true_or, bitIn, bitV, optInt, implies_true, Option.map_some, Option.map_none, forall_const, PV.int.injEq, PV.bl.injEq, and_self, or_self, Int.reduceNeg, Int.reduceSub, Int.reduceAdd, Option.some.injEq, i_bl, i_and, i_or, Bool.and_true, Bool.true_and, Bool.and_false, Bool.false_and, Bool.not_not, nb_non, nb_int, nb_tup, nb_lst, nb_bl, nb_str, tb_non, tb_int, tb_bl, v_add, v_sub, a_add, a_sub, q_int, n_int, q_bl, n_bl, lt_int, gt_int, le_int, ge_int, q_tup, n_tup, q_tup0, n_tup0, q_0tup, q_00, n_0tup, n_00, q_l00, n_l00, q_lst, n_lst, q_lst0, n_lst0, in_tup, ni_tup, in_lst, ni_lst, ix_t, ix_l, ix_r, ix_e, atP_zero, atP_one, atP_two, atP_three, len_t, len_l, len_s, int_i, max2_i, min2_i, lt_tup, decide_true, decide_false, Int.reduceLE, Int.reduceLT, Int.reduceToNat, List.getElem?_cons_zero, List.getElem?_cons_succ, List.set_cons_zero, List.set_cons_succ, List.length_map, it_lst, it_tup, ha]
        exact ⟨_, _, rfl, rfl, by simp [isNonB, rowComes, ha]⟩
      · simp only [bind_ok, liftS_ok, op1_some, andThen_nx, andThen_rt, andThen_bk, fin_rt, fin_nx, asB_bl, getS_zero, getS_succ, getS_nil, setS_zero, setS_succ, clr_zero, clr_succ, rd_true, rd_val, rd_int, rd_tup, rd_bl, rd_str, rd_non, rd_ref, rd_fn, rd_exc, bindT_nm, bindT_tp, setAll_nil, setAll_cons, putAllS_nil, putAllS_cons, kTup, kLst, kBox, kBin2, kBin1, kNeg, kBl, kNot, kCmp2, kCmp1, kCh4, kCh3, kCh2, kCh1, kIsN, kNotN, kIsT, kNotT, kIfe, kIdx2, kIdx1, kOpt, kSl3, kSl2, kSl1, kRev, kCall, kCd2, kCd1, kBi, kBit2, kBit1, kIsin, kItems, kElt2, kElt1, cF, kComp, kEs2, kEs1, kAnd, kOr, kRng2, kRng1, kEn2, kEn1, e_var, e_k, e_glob, e_fnv, e_tup, e_lst, e_box, e_bin, e_neg, e_and, e_or, e_not, e_cmp, e_chain, e_isN, e_notN, e_isT, e_notT, e_ife, e_idx, e_slice, e_rev, e_call, e_calld, e_bi, e_bit, e_isin, e_comp, e_range, e_enum, es_nil, es_cons, and_nil, and_cons, or_nil, or_cons, kVal, kMv, kRs2, kRs1, kAsg, optS, kAsgT, kPar, kSet3, set2, kSet1, kApp, app2, pop2, kAug, aug2, kExpr, kIff, wC, fB, kFor, kRet, rh_var, rh_e, rv_val, rv_int, rv_tup, rv_bl, rv_str, rv_non, rv_ref, rv_fn, rv_exc, rv_ownL, rv_ownD, rr_nil, rr_cons, x_asg, x_asgT, x_par, x_setI, x_app, x_pop, x_aug, x_expr, x_frz, x_iff, x_whl, x_for, x_ret, x_retN, x_brk, x_pass, x_never, xs_nil, xs_cons, frE, cont, held, freeze, startS, List.map_cons, List.map_nil, List.replicate, List.cons_append, List.nil_append, List.append_nil, List.length_cons, List.length_nil, List.head?_cons, List.head?_nil, ↓reduceIte, Nat.reduceAdd, Nat.reduceSub, Nat.reduceEqDiff, reduceCtorEq, and_true, true_and, and_false, false_and, or_true, true_or, or_false, false_or, not_true_eq_false, not_false_eq_true, Bool.not_true, Bool.not_false, Bool.false_eq_true, Bool.true_eq_false, ne_eq, if_true, if_false, eq_self, deref, items, seqs, isOk, isinV, List.any_cons, List.any_nil, Bool.or_false, Bool.false_or, Bool.or_true, Bool.true_or, bitIn, bitV, optInt, implies_true, Option.map_some, Option.map_none, forall_const, PV.int.injEq, PV.bl.injEq, and_self, or_self, Int.reduceNeg, Int.reduceSub, Int.reduceAdd, Option.some.injEq, i_bl, i_and, i_or, Bool.and_true, Bool.true_and, Bool.and_false, Bool.false_and, Bool.not_not, nb_non, nb_int, nb_tup, nb_lst, nb_bl, nb_str, tb_non, tb_int, tb_bl, v_add, v_sub, a_add, a_sub, q_int, n_int, q_bl, n_bl, lt_int, gt_int, le_int, ge_int, q_tup, n_tup, q_tup0, n_tup0, q_0tup, q_00, n_0tup, n_00, q_l00, n_l00, q_lst, n_lst, q_lst0, n_lst0, in_tup, ni_tup, in_lst, ni_lst, ix_t, ix_l, ix_r, ix_e, atP_zero, atP_one, atP_two, atP_three, len_t, len_l, len_s, int_i, max2_i, min2_i, lt_tup, decide_true, decide_false, Int.reduceLE, Int.reduceLT, Int.reduceToNat, List.getElem?_cons_zero, List.getElem?_cons_succ, List.set_cons_zero, List.set_cons_succ, List.length_map, it_lst, it_tup, ha, hb, at_hd ha, at_hd hb, at_la ha, at_la hb]
        by_cases c1 : hd b < hd a
        · simp only [c1, bind_ok, liftS_ok, op1_some, andThen_nx, andThen_rt, andThen_bk, fin_rt, fin_nx, asB_bl, getS_zero, getS_succ, getS_nil, setS_zero, setS_succ, clr_zero, clr_succ, rd_true, rd_val, rd_int, rd_tup, rd_bl, rd_str, rd_non, rd_ref, rd_fn, rd_exc, bindT_nm, bindT_tp, setAll_nil, setAll_cons, putAllS_nil, putAllS_cons, kTup, kLst, kBox, kBin2, kBin1, kNeg, kBl, kNot, kCmp2, kCmp1, kCh4, kCh3, kCh2, kCh1, kIsN, kNotN, kIsT, kNotT, kIfe, kIdx2, kIdx1, kOpt, kSl3, kSl2, kSl1, kRev, kCall, kCd2, kCd1, kBi, kBit2, kBit1, kIsin, kItems, kElt2, kElt1, cF, kComp, kEs2, kEs1, kAnd, kOr, kRng2, kRng1, kEn2, kEn1, e_var, e_k, e_glob, e_fnv, e_tup, e_lst, e_box, e_bin, e_neg, e_and, e_or, e_not, e_cmp, e_chain, e_isN, e_notN, e_isT, e_notT, e_ife, e_idx, e_slice, e_rev, e_call, e_calld, e_bi, e_bit, e_isin, e_comp, e_range, e_enum, es_nil, es_cons, and_nil, and_cons, or_nil, or_cons, kVal, kMv, kRs2, kRs1, kAsg, optS, kAsgT, kPar, kSet3, set2, kSet1, kApp, app2, pop2, kAug, aug2, kExpr, kIff, wC, fB, kFor, kRet, rh_var, rh_e, rv_val, rv_int, rv_tup, rv_bl, rv_str, rv_non, rv_ref, rv_fn, rv_exc, rv_ownL, rv_ownD, rr_nil, rr_cons, x_asg, x_asgT, x_par, x_setI, x_app, x_pop, x_aug, x_expr, x_frz, x_iff, x_whl, x_for, x_ret, x_retN, x_brk, x_pass, x_never, xs_nil, xs_cons, frE, cont, held, freeze, startS, List.map_cons, List.map_nil, List.replicate, List.cons_append, List.nil_append, List.append_nil, List.length_cons, List.length_nil, List.head?_cons, List.head?_nil, ↓reduceIte, Nat.reduceAdd, Nat.reduceSub, Nat.reduceEqDiff, reduceCtorEq, and_true, true_and, and_false, false_and, or_true, true_or, or_false, false_or, not_true_eq_false, not_false_eq_true, Bool.not_true, Bool.not_false, Bool.false_eq_true, Bool.true_eq_false, ne_eq, if_true, if_false, eq_self, deref, items, seqs, isOk, isinV, List.any_cons, List.any_nil, Bool.or_false, Bool.false_or, Bool.or_true, Bool.true_or, bitIn, bitV, optInt, implies_true, Option.map_some, Option.map_none, forall_const, PV.int.injEq, PV.bl.injEq, and_self, or_self, Int.reduceNeg, Int.reduceSub, Int.reduceAdd, Option.some.injEq, i_bl, i_and, i_or, Bool.and_true, Bool.true_and, Bool.and_false, Bool.false_and, Bool.not_not, nb_non, nb_int, nb_tup, nb_lst, nb_bl, nb_str, tb_non, tb_int, tb_bl, v_add, v_sub, a_add, a_sub, q_int, n_int, q_bl, n_bl, lt_int, gt_int, le_int, ge_int, q_tup, n_tup, q_tup0, n_tup0, q_0tup, q_00, n_0tup, n_00, q_l00, n_l00, q_lst, n_lst, q_lst0, n_lst0, in_tup, ni_tup, in_lst, ni_lst, ix_t, ix_l, ix_r, ix_e, atP_zero, atP_one, atP_two, atP_three, len_t, len_l, len_s, int_i, max2_i, min2_i, lt_tup, decide_true, decide_false, Int.reduceLE, Int.reduceLT, Int.reduceToNat, List.getElem?_cons_zero, List.getElem?_cons_succ, List.set_cons_zero, List.set_cons_succ, List.length_map, it_lst, it_tup]
          exact ⟨_, _, rfl, rfl, by simp [isNonB, rowComes, ha, hb]; omega⟩
        · by_cases c2 : la b < la a
          · simp only [c1, c2, bind_ok, liftS_ok, op1_some, andThen_nx, andThen_rt, andThen_bk, fin_rt, fin_nx, asB_bl, getS_zero, getS_succ, getS_nil, setS_zero, setS_succ, clr_zero, clr_succ, rd_true, rd_val, rd_int, rd_tup, rd_bl, rd_str, rd_non, rd_ref, rd_fn, rd_exc, bindT_nm, bindT_tp, setAll_nil, setAll_cons, putAllS_nil, putAllS_cons, kTup, kLst, kBox, kBin2, kBin1, kNeg, kBl, kNot, kCmp2, kCmp1, kCh4, kCh3, kCh2, kCh1, kIsN, kNotN, kIsT, kNotT, kIfe, kIdx2, kIdx1, kOpt, kSl3, kSl2, kSl1, kRev, kCall, kCd2, kCd1, kBi, kBit2, kBit1, kIsin, kItems, kElt2, kElt1, cF, kComp, kEs2, kEs1, kAnd, kOr, kRng2, kRng1, kEn2, kEn1, e_var, e_k, e_glob, e_fnv, e_tup, e_lst, e_box, e_bin, e_neg, e_and, e_or, e_not, e_cmp, e_chain, e_isN, e_notN, e_isT, e_notT, e_ife, e_idx, e_slice, e_rev, e_call, e_calld, e_bi, e_bit, e_isin, e_comp, e_range, e_enum, es_nil, es_cons, and_nil, and_cons, or_nil, or_cons, kVal, kMv, kRs2, kRs1, kAsg, optS, kAsgT, kPar, kSet3, set2, kSet1, kApp, app2, pop2, kAug, aug2, kExpr, kIff, wC, fB, kFor, kRet, rh_var, rh_e, rv_val, rv_int, rv_tup, rv_bl, rv_str, rv_non, rv_ref, rv_fn, rv_exc, rv_ownL, rv_ownD, rr_nil, rr_cons, x_asg, x_asgT, x_par, x_setI, x_app, x_pop, x_aug, x_expr, x_frz, x_iff, x_whl, x_for, x_ret, x_retN, x_brk, x_pass, x_never, xs_nil, xs_cons, frE, cont, held, freeze, startS, List.map_cons, List.map_nil, List.replicate, List.cons_append, List.nil_append, List.append_nil, List.length_cons, List.length_nil, List.head?_cons, List.head?_nil, ↓reduceIte, Nat.reduceAdd, Nat.reduceSub, Nat.reduceEqDiff, reduceCtorEq, and_true, true_and, and_false, false_and, or_true, true_or, or_false, false_or, not_true_eq_false, not_false_eq_true, Bool.not_true, Bool.not_false, Bool.false_eq_true, Bool.true_eq_false, ne_eq, if_true, if_false, eq_self, deref, items, seqs, isOk, isinV, List.any_cons, List.any_nil, Bool.or_false, Bool.false_or, Bool.or_true, Bool.true_or, bitIn, bitV, optInt, implies_true, Option.map_some, Option.map_none, forall_const, PV.int.injEq, PV.bl.injEq, and_self, or_self, Int.reduceNeg, Int.reduceSub, Int.reduceAdd, Option.some.injEq, i_bl, i_and, i_or, Bool.and_true, Bool.true_and, Bool.and_false, Bool.false_and, Bool.not_not, nb_non, nb_int, nb_tup, nb_lst, nb_bl, nb_str, tb_non, tb_int, tb_bl, v_add, v_sub, a_add, a_sub, q_int, n_int, q_bl, n_bl, lt_int, gt_int, le_int, ge_int, q_tup, n_tup, q_tup0, n_tup0, q_0tup, q_00, n_0tup, n_00, q_l00, n_l00, q_lst, n_lst, q_lst0, n_lst0, in_tup, ni_tup, in_lst, ni_lst, ix_t, ix_l, ix_r, ix_e, atP_zero, atP_one, atP_two, atP_three, len_t, len_l, len_s, int_i, max2_i, min2_i, lt_tup, decide_true, decide_false, Int.reduceLE, Int.reduceLT, Int.reduceToNat, List.getElem?_cons_zero, List.getElem?_cons_succ, List.set_cons_zero, List.set_cons_succ, List.length_map, it_lst, it_tup]
            exact ⟨_, _, rfl, rfl, by simp [isNonB, rowComes, ha, hb]; omega⟩
          · simp only [c1, c2, bind_ok, liftS_ok, op1_some, andThen_nx, andThen_rt, andThen_bk, fin_rt, fin_nx, asB_bl, getS_zero, getS_succ, getS_nil, setS_zero, setS_succ, clr_zero, clr_succ, rd_true, rd_val, rd_int, rd_tup, rd_bl, rd_str, rd_non, rd_ref, rd_fn, rd_exc, bindT_nm, bindT_tp, setAll_nil, setAll_cons, putAllS_nil, putAllS_cons, kTup, kLst, kBox, kBin2, kBin1, kNeg, kBl, kNot, kCmp2, kCmp1, kCh4, kCh3, kCh2, kCh1, kIsN, kNotN, kIsT, kNotT, kIfe, kIdx2, kIdx1, kOpt, kSl3, kSl2, kSl1, kRev, kCall, kCd2, kCd1, kBi, kBit2, kBit1, kIsin, kItems, kElt2, kElt1, cF, kComp, kEs2, kEs1, kAnd, kOr, kRng2, kRng1, kEn2, kEn1, e_var, e_k, e_glob, e_fnv, e_tup, e_lst, e_box, e_bin, e_neg, e_and, e_or, e_not, e_cmp, e_chain, e_isN, e_notN, e_isT, e_notT, e_ife, e_idx, e_slice, e_rev, e_call, e_calld, e_bi, e_bit, e_isin, e_comp, e_range, e_enum, es_nil, es_cons, and_nil, and_cons, or_nil, or_cons, kVal, kMv, kRs2, kRs1, kAsg, optS, kAsgT, kPar, kSet3, set2, kSet1, kApp, app2, pop2, kAug, aug2, kExpr, kIff, wC, fB, kFor, kRet, rh_var, rh_e, rv_val, rv_int, rv_tup, rv_bl, rv_str, rv_non, rv_ref, rv_fn, rv_exc, rv_ownL, rv_ownD, rr_nil, rr_cons, x_asg, x_asgT, x_par, x_setI, x_app, x_pop, x_aug, x_expr, x_frz, x_iff, x_whl, x_for, x_ret, x_retN, x_brk, x_pass, x_never, xs_nil, xs_cons, frE, cont, held, freeze, startS, List.map_cons, List.map_nil, List.replicate, List.cons_append, List.nil_append, List.append_nil, List.length_cons, List.length_nil, List.head?_cons, List.head?_nil, ↓reduceIte, Nat.reduceAdd, Nat.reduceSub, Nat.reduceEqDiff, reduceCtorEq, and_true, true_and, and_false, false_and, or_true, true_or, or_false, false_or, not_true_eq_false, not_false_eq_true, Bool.not_true, Bool.not_false, Bool.false_eq_true, Bool.true_eq_false, ne_eq, if_true, if_false, eq_self, deref, items, seqs, isOk, isinV, List.any_cons, List.any_nil, Bool.or_false, Bool.false_or, Bool.or_true, Bool.true_or, bitIn, bitV, optInt, implies_true, Option.map_some, Option.map_none, forall_const, PV.int.injEq, PV.bl.injEq, and_self, or_self, Int.reduceNeg, Int.reduceSub, Int.reduceAdd, Option.some.injEq, i_bl, i_and, i_or, Bool.and_true, Bool.true_and, Bool.and_false, Bool.false_and, Bool.not_not, nb_non, nb_int, nb_tup, nb_lst, nb_bl, nb_str, tb_non, tb_int, tb_bl, v_add, v_sub, a_add, a_sub, q_int, n_int, q_bl, n_bl, lt_int, gt_int, le_int, ge_int, q_tup, n_tup, q_tup0, n_tup0, q_0tup, q_00, n_0tup, n_00, q_l00, n_l00, q_lst, n_lst, q_lst0, n_lst0, in_tup, ni_tup, in_lst, ni_lst, ix_t, ix_l, ix_r, ix_e, atP_zero, atP_one, atP_two, atP_three, len_t, len_l, len_s, int_i, max2_i, min2_i, lt_tup, decide_true, decide_false, Int.reduceLE, Int.reduceLT, Int.reduceToNat, List.getElem?_cons_zero, List.getElem?_cons_succ, List.set_cons_zero, List.set_cons_succ, List.length_map, it_lst, it_tup, rangeV1 (n := n) (by omega) (by omega)]
            refine for_loop PV.int (fun l σ S' => S' = S ∧ ∃ c : Int, ∃ t4 t5 t6 t7 t8 t9 t10 t11, σ = [some (Tag.bor, PV.int n), some (Tag.bor, .bl false), some (Tag.bor, PV.tup (a.map .int)), some (Tag.bor, PV.tup (b.map .int)), some (t4, .int c), t5, t6, t7, t8, t9, t10, t11]) ⟨rfl, 0, Tag.val, none, none, none, none, none, none, none, rfl⟩ ?_ ?_
            · rintro l x r σ S' _ ⟨rfl, c, t4, t5, t6, t7, t8, t9, t10, t11, rfl⟩ Q' hnx hbk hrt
              simp only [b_law_row_cost_1, bind_ok, liftS_ok, op1_some, andThen_nx, andThen_rt, andThen_bk, fin_rt, fin_nx, asB_bl, getS_zero, getS_succ, getS_nil, setS_zero, setS_succ, clr_zero, clr_succ, rd_true, rd_val, rd_int, rd_tup, rd_bl, rd_str, rd_non, rd_ref, rd_fn, rd_exc, bindT_nm, bindT_tp, setAll_nil, setAll_cons, putAllS_nil, putAllS_cons, kTup, kLst, kBox, kBin2, kBin1, kNeg, kBl, kNot, kCmp2, kCmp1, kCh4, kCh3, kCh2, kCh1, kIsN, kNotN, kIsT, kNotT, kIfe, kIdx2, kIdx1, kOpt, kSl3, kSl2, kSl1, kRev, kCall, kCd2, kCd1, kBi, kBit2, kBit1, kIsin, kItems, kElt2, kElt1, cF, kComp, kEs2, kEs1, kAnd, kOr, kRng2, kRng1, kEn2, kEn1, e_var, e_k, e_glob, e_fnv, e_tup, e_lst, e_box, e_bin, e_neg, e_and, e_or, e_not, e_cmp, e_chain, e_isN, e_notN, e_isT, e_notT, e_ife, e_idx, e_slice, e_rev, e_call, e_calld, e_bi, e_bit, e_isin, e_comp, e_range, e_enum, es_nil, es_cons, and_nil, and_cons, or_nil, or_cons, kVal, kMv, kRs2, kRs1, kAsg, optS, kAsgT, kPar, kSet3, set2, kSet1, kApp, app2, pop2, kAug, aug2, kExpr, kIff, wC, fB, kFor, kRet, rh_var, rh_e, rv_val, rv_int, rv_tup, rv_bl, rv_str, rv_non, rv_ref, rv_fn, rv_exc, rv_ownL, rv_ownD, rr_nil, rr_cons, x_asg, x_asgT, x_par, x_setI, x_app, x_pop, x_aug, x_expr, x_frz, x_iff, x_whl, x_for, x_ret, x_retN, x_brk, x_pass, x_never, xs_nil, xs_cons, frE, cont, held, freeze, startS, List.map_cons, List.map_nil, List.replicate, List.cons_append, List.nil_append, List.append_nil, List.length_cons, List.length_nil, List.head?_cons, List.head?_nil, ↓reduceIte, Nat.reduceAdd, Nat.reduceSub, Nat.reduceEqDiff, reduceCtorEq, and_true, true_and, and_false, false_and, or_true, true_or, or_false, false_or, not_true_eq_false, not_false_eq_true, Bool.not_true, Bool.not_false, Bool.false_eq_true, Bool.true_eq_false, ne_eq, if_true, if_false, eq_self, deref, items, seqs, isOk, isinV, List.any_cons, List.any_nil, Bool.or_false, Bool.false_or, Bool.or_true, Bool.true_or, bitIn, bitV, optInt, implies_true, Option.map_some, Option.map_none, forall_const, PV.int.injEq, PV.bl.injEq, and_self, or_self, Int.reduceNeg, Int.reduceSub, Int.reduceAdd, Option.some.injEq, i_bl, i_and, i_or, Bool.and_true, Bool.true_and, Bool.and_false, Bool.false_and, Bool.not_not, nb_non, nb_int, nb_tup, nb_lst, nb_bl, nb_str, tb_non, tb_int, tb_bl, v_add, v_sub, a_add, a_sub, q_int, n_int, q_bl, n_bl, lt_int, gt_int, le_int, ge_int, q_tup, n_tup, q_tup0, n_tup0, q_0tup, q_00, n_0tup, n_00, q_l00, n_l00, q_lst, n_lst, q_lst0, n_lst0, in_tup, ni_tup, in_lst, ni_lst, ix_t, ix_l, ix_r, ix_e, atP_zero, atP_one, atP_two, atP_three, len_t, len_l, len_s, int_i, max2_i, min2_i, lt_tup, decide_true, decide_false, Int.reduceLE, Int.reduceLT, Int.reduceToNat, List.getElem?_cons_zero, List.getElem?_cons_succ, List.set_cons_zero, List.set_cons_succ, List.length_map, it_lst, it_tup]
              by_cases hA : x ∈ a
              · by_cases hB : x ∈ b
                · simp only [hA, hB, bind_ok, liftS_ok, op1_some, andThen_nx, andThen_rt, andThen_bk, fin_rt, fin_nx, asB_bl, getS_zero, getS_succ, getS_nil, setS_zero, setS_succ, clr_zero, clr_succ, rd_true, rd_val, rd_int, rd_tup, rd_bl, rd_str, rd_non, rd_ref, rd_fn, rd_exc, bindT_nm, bindT_tp, setAll_nil, setAll_cons, putAllS_nil, putAllS_cons, kTup, kLst, kBox, kBin2, kBin1, kNeg, kBl, kNot, kCmp2, kCmp1, kCh4, kCh3, kCh2, kCh1, kIsN, kNotN, kIsT, kNotT, kIfe, kIdx2, kIdx1, kOpt, kSl3, kSl2, kSl1, kRev, kCall, kCd2, kCd1, kBi, kBit2, kBit1, kIsin, kItems, kElt2, kElt1, cF, kComp, kEs2, kEs1, kAnd, kOr, kRng2, kRng1, kEn2, kEn1, e_var, e_k, e_glob, e_fnv, e_tup, e_lst, e_box, e_bin, e_neg, e_and, e_or, e_not, e_cmp, e_chain, e_isN, e_notN, e_isT, e_notT, e_ife, e_idx, e_slice, e_rev, e_call, e_calld, e_bi, e_bit, e_isin, e_comp, e_range, e_enum, es_nil, es_cons, and_nil, and_cons, or_nil, or_cons, kVal, kMv, kRs2, kRs1, kAsg, optS, kAsgT, kPar, kSet3, set2, kSet1, kApp, app2, pop2, kAug, aug2, kExpr, kIff, wC, fB, kFor, kRet, rh_var, rh_e, rv_val, rv_int, rv_tup, rv_bl, rv_str, rv_non, rv_ref, rv_fn, rv_exc, rv_ownL, rv_ownD, rr_nil, rr_cons, x_asg, x_asgT, x_par, x_setI, x_app, x_pop, x_aug, x_expr, x_frz, x_iff, x_whl, x_for, x_ret, x_retN, x_brk, x_pass, x_never, xs_nil, xs_cons, frE, cont, held, freeze, startS, List.map_cons, List.map_nil, List.replicate, List.cons_append, List.nil_append, List.append_nil, List.length_cons, List.length_nil, List.head?_cons, List.head?_nil, ↓reduceIte, Nat.reduceAdd, Nat.reduceSub, Nat.reduceEqDiff, reduceCtorEq, and_true, true_and, and_false, false_and, or_true, true_or, or_false, false_or, not_true_eq_false, not_false_eq_true, Bool.not_true, Bool.not_false, Bool.false_eq_true, Bool.true_eq_false, ne_eq, if_true, if_false, eq_self, deref, items, seqs, isOk, isinV, List.any_cons, List.any_nil, Bool.or_false, Bool.false_or, Bool.or_true, Bool.true_or, bitIn, bitV, optInt, implies_true, Option.map_some, Option.map_none, forall_const, PV.int.injEq, PV.bl.injEq, and_self, or_self, Int.reduceNeg, Int.reduceSub, Int.reduceAdd, Option.some.injEq, i_bl, i_and, i_or, Bool.and_true, Bool.true_and, Bool.and_false, Bool.false_and, Bool.not_not, nb_non, nb_int, nb_tup, nb_lst, nb_bl, nb_str, tb_non, tb_int, tb_bl, v_add, v_sub, a_add, a_sub, q_int, n_int, q_bl, n_bl, lt_int, gt_int, le_int, ge_int, q_tup, n_tup, q_tup0, n_tup0, q_0tup, q_00, n_0tup, n_00, q_l00, n_l00, q_lst, n_lst, q_lst0, n_lst0, in_tup, ni_tup, in_lst, ni_lst, ix_t, ix_l, ix_r, ix_e, atP_zero, atP_one, atP_two, atP_three, len_t, len_l, len_s, int_i, max2_i, min2_i, lt_tup, decide_true, decide_false, Int.reduceLE, Int.reduceLT, Int.reduceToNat, List.getElem?_cons_zero, List.getElem?_cons_succ, List.set_cons_zero, List.set_cons_succ, List.length_map, it_lst, it_tup]
                  exact hnx _ _ ⟨rfl, c, _, _, _, _, _, _, _, _, rfl⟩
                · simp only [hA, hB, bind_ok, liftS_ok, op1_some, andThen_nx, andThen_rt, andThen_bk, fin_rt, fin_nx, asB_bl, getS_zero, getS_succ, getS_nil, setS_zero, setS_succ, clr_zero, clr_succ, rd_true, rd_val, rd_int, rd_tup, rd_bl, rd_str, rd_non, rd_ref, rd_fn, rd_exc, bindT_nm, bindT_tp, setAll_nil, setAll_cons, putAllS_nil, putAllS_cons, kTup, kLst, kBox, kBin2, kBin1, kNeg, kBl, kNot, kCmp2, kCmp1, kCh4, kCh3, kCh2, kCh1, kIsN, kNotN, kIsT, kNotT, kIfe, kIdx2, kIdx1, kOpt, kSl3, kSl2, kSl1, kRev, kCall, kCd2, kCd1, kBi, kBit2, kBit1, kIsin, kItems, kElt2, kElt1, cF, kComp, kEs2, kEs1, kAnd, kOr, kRng2, kRng1, kEn2, kEn1, e_var, e_k, e_glob, e_fnv, e_tup, e_lst, e_box, e_bin, e_neg, e_and, e_or, e_not, e_cmp, e_chain, e_isN, e_notN, e_isT, e_notT, e_ife, e_idx, e_slice, e_rev, e_call, e_calld, e_bi, e_bit, e_isin, e_comp, e_range, e_enum, es_nil, es_cons, and_nil, and_cons, or_nil, or_cons, kVal, kMv, kRs2, kRs1, kAsg, optS, kAsgT, kPar, kSet3, set2, kSet1, kApp, app2, pop2, kAug, aug2, kExpr, kIff, wC, fB, kFor, kRet, rh_var, rh_e, rv_val, rv_int, rv_tup, rv_bl, rv_str, rv_non, rv_ref, rv_fn, rv_exc, rv_ownL, rv_ownD, rr_nil, rr_cons, x_asg, x_asgT, x_par, x_setI, x_app, x_pop, x_aug, x_expr, x_frz, x_iff, x_whl, x_for, x_ret, x_retN, x_brk, x_pass, x_never, xs_nil, xs_cons, frE, cont, held, freeze, startS, List.map_cons, List.map_nil, List.replicate, List.cons_append, List.nil_append, List.append_nil, List.length_cons, List.length_nil, List.head?_cons, List.head?_nil, ↓reduceIte, Nat.reduceAdd, Nat.reduceSub, Nat.reduceEqDiff, reduceCtorEq, and_true, true_and, and_false, false_and, or_true, true_or, or_false, false_or, not_true_eq_false, not_false_eq_true, Bool.not_true, Bool.not_false, Bool.false_eq_true, Bool.true_eq_false, ne_eq, if_true, if_false, eq_self, deref, items, seqs, isOk, isinV, List.any_cons, List.any_nil, Bool.or_false, Bool.false_or, Bool.or_true, Bool.true_or, bitIn, bitV, optInt, implies_true, Option.map_some, Option.map_none, forall_const, PV.int.injEq, PV.bl.injEq, and_self, or_self, Int.reduceNeg, Int.reduceSub, Int.reduceAdd, Option.some.injEq, i_bl, i_and, i_or, Bool.and_true, Bool.true_and, Bool.and_false, Bool.false_and, Bool.not_not, nb_non, nb_int, nb_tup, nb_lst, nb_bl, nb_str, tb_non, tb_int, tb_bl, v_add, v_sub, a_add, a_sub, q_int, n_int, q_bl, n_bl, lt_int, gt_int, le_int, ge_int, q_tup, n_tup, q_tup0, n_tup0, q_0tup, q_00, n_0tup, n_00, q_l00, n_l00, q_lst, n_lst, q_lst0, n_lst0, in_tup, ni_tup, in_lst, ni_lst, ix_t, ix_l, ix_r, ix_e, atP_zero, atP_one, atP_two, atP_three, len_t, len_l, len_s, int_i, max2_i, min2_i, lt_tup, decide_true, decide_false, Int.reduceLE, Int.reduceLT, Int.reduceToNat, List.getElem?_cons_zero, List.getElem?_cons_succ, List.set_cons_zero, List.set_cons_succ, List.length_map, it_lst, it_tup]
                  exact hnx _ _ ⟨rfl, _, _, _, _, _, _, _, _, _, rfl⟩
              · by_cases hB : x ∈ b
                · simp only [hA, hB, bind_ok, liftS_ok, op1_some, andThen_nx, andThen_rt, andThen_bk, fin_rt, fin_nx, asB_bl, getS_zero, getS_succ, getS_nil, setS_zero, setS_succ, clr_zero, clr_succ, rd_true, rd_val, rd_int, rd_tup, rd_bl, rd_str, rd_non, rd_ref, rd_fn, rd_exc, bindT_nm, bindT_tp, setAll_nil, setAll_cons, putAllS_nil, putAllS_cons, kTup, kLst, kBox, kBin2, kBin1, kNeg, kBl, kNot, kCmp2, kCmp1, kCh4, kCh3, kCh2, kCh1, kIsN, kNotN, kIsT, kNotT, kIfe, kIdx2, kIdx1, kOpt, kSl3, kSl2, kSl1, kRev, kCall, kCd2, kCd1, kBi, kBit2, kBit1, kIsin, kItems, kElt2, kElt1, cF, kComp, kEs2, kEs1, kAnd, kOr, kRng2, kRng1, kEn2, kEn1, e_var, e_k, e_glob, e_fnv, e_tup, e_lst, e_box, e_bin, e_neg, e_and, e_or, e_not, e_cmp, e_chain, e_isN, e_notN, e_isT, e_notT, e_ife, e_idx, e_slice, e_rev, e_call, e_calld, e_bi, e_bit, e_isin, e_comp, e_range, e_enum, es_nil, es_cons, and_nil, and_cons, or_nil, or_cons, kVal, kMv, kRs2, kRs1, kAsg, optS, kAsgT, kPar, kSet3, set2, kSet1, kApp, app2, pop2, kAug, aug2, kExpr, kIff, wC, fB, kFor, kRet, rh_var, rh_e, rv_val, rv_int, rv_tup, rv_bl, rv_str, rv_non, rv_ref, rv_fn, rv_exc, rv_ownL, rv_ownD, rr_nil, rr_cons, x_asg, x_asgT, x_par, x_setI, x_app, x_pop, x_aug, x_expr, x_frz, x_iff, x_whl, x_for, x_ret, x_retN, x_brk, x_pass, x_never, xs_nil, xs_cons, frE, cont, held, freeze, startS, List.map_cons, List.map_nil, List.replicate, List.cons_append, List.nil_append, List.append_nil, List.length_cons, List.length_nil, List.head?_cons, List.head?_nil, ↓reduceIte, Nat.reduceAdd, Nat.reduceSub, Nat.reduceEqDiff, reduceCtorEq, and_true, true_and, and_false, false_and, or_true, true_or, or_false, false_or, not_true_eq_false, not_false_eq_true, Bool.not_true, Bool.not_false, Bool.false_eq_true, Bool.true_eq_false, ne_eq, if_true, if_false, eq_self, deref, items, seqs, isOk, isinV, List.any_cons, List.any_nil, Bool.or_false, Bool.false_or, Bool.or_true, Bool.true_or, bitIn, bitV, optInt, implies_true, Option.map_some, Option.map_none, forall_const, PV.int.injEq, PV.bl.injEq, and_self, or_self, Int.reduceNeg, Int.reduceSub, Int.reduceAdd, Option.some.injEq, i_bl, i_and, i_or, Bool.and_true, Bool.true_and, Bool.and_false, Bool.false_and, Bool.not_not, nb_non, nb_int, nb_tup, nb_lst, nb_bl, nb_str, tb_non, tb_int, tb_bl, v_add, v_sub, a_add, a_sub, q_int, n_int, q_bl, n_bl, lt_int, gt_int, le_int, ge_int, q_tup, n_tup, q_tup0, n_tup0, q_0tup, q_00, n_0tup, n_00, q_l00, n_l00, q_lst, n_lst, q_lst0, n_lst0, in_tup, ni_tup, in_lst, ni_lst, ix_t, ix_l, ix_r, ix_e, atP_zero, atP_one, atP_two, atP_three, len_t, len_l, len_s, int_i, max2_i, min2_i, lt_tup, decide_true, decide_false, Int.reduceLE, Int.reduceLT, Int.reduceToNat, List.getElem?_cons_zero, List.getElem?_cons_succ, List.set_cons_zero, List.set_cons_succ, List.length_map, it_lst, it_tup]
                  exact hnx _ _ ⟨rfl, _, _, _, _, _, _, _, _, _, rfl⟩
                · have hr := rangeV2 (a := 1) (b := n) (by omega) (by omega) (by omega) (by omega)
                  simp only [hA, hB, bind_ok, liftS_ok, op1_some, andThen_nx, andThen_rt, andThen_bk, fin_rt, fin_nx, asB_bl, getS_zero, getS_succ, getS_nil, setS_zero, setS_succ, clr_zero, clr_succ, rd_true, rd_val, rd_int, rd_tup, rd_bl, rd_str, rd_non, rd_ref, rd_fn, rd_exc, bindT_nm, bindT_tp, setAll_nil, setAll_cons, putAllS_nil, putAllS_cons, kTup, kLst, kBox, kBin2, kBin1, kNeg, kBl, kNot, kCmp2, kCmp1, kCh4, kCh3, kCh2, kCh1, kIsN, kNotN, kIsT, kNotT, kIfe, kIdx2, kIdx1, kOpt, kSl3, kSl2, kSl1, kRev, kCall, kCd2, kCd1, kBi, kBit2, kBit1, kIsin, kItems, kElt2, kElt1, cF, kComp, kEs2, kEs1, kAnd, kOr, kRng2, kRng1, kEn2, kEn1, e_var, e_k, e_glob, e_fnv, e_tup, e_lst, e_box, e_bin, e_neg, e_and, e_or, e_not, e_cmp, e_chain, e_isN, e_notN, e_isT, e_notT, e_ife, e_idx, e_slice, e_rev, e_call, e_calld, e_bi, e_bit, e_isin, e_comp, e_range, e_enum, es_nil, es_cons, and_nil, and_cons, or_nil, or_cons, kVal, kMv, kRs2, kRs1, kAsg, optS, kAsgT, kPar, kSet3, set2, kSet1, kApp, app2, pop2, kAug, aug2, kExpr, kIff, wC, fB, kFor, kRet, rh_var, rh_e, rv_val, rv_int, rv_tup, rv_bl, rv_str, rv_non, rv_ref, rv_fn, rv_exc, rv_ownL, rv_ownD, rr_nil, rr_cons, x_asg, x_asgT, x_par, x_setI, x_app, x_pop, x_aug, x_expr, x_frz, x_iff, x_whl, x_for, x_ret, x_retN, x_brk, x_pass, x_never, xs_nil, xs_cons, frE, cont, held, freeze, startS, List.map_cons, List.map_nil, List.replicate, List.cons_append, List.nil_append, List.append_nil, List.length_cons, List.length_nil, List.head?_cons, List.head?_nil, ↓reduceIte, Nat.reduceAdd, Nat.reduceSub, Nat.reduceEqDiff, reduceCtorEq, and_true, true_and, and_false, false_and, or_true, true_or, or_false, false_or, not_true_eq_false, not_false_eq_true, Bool.not_true, Bool.not_false, Bool.false_eq_true, Bool.true_eq_false, ne_eq, if_true, if_false, eq_self, deref, items, seqs, isOk, isinV, List.any_cons, List.any_nil, Bool.or_false, Bool.false_or, Bool.or_true, Bool.true_or, bitIn, bitV, optInt, implies_true, Option.map_some, Option.map_none, forall_const, PV.int.injEq, PV.bl.injEq, and_self, or_self, Int.reduceNeg, Int.reduceSub, Int.reduceAdd, Option.some.injEq, i_bl, i_and, i_or, Bool.and_true, Bool.true_and, Bool.and_false, Bool.false_and, Bool.not_not, nb_non, nb_int, nb_tup, nb_lst, nb_bl, nb_str, tb_non, tb_int, tb_bl, v_add, v_sub, a_add, a_sub, q_int, n_int, q_bl, n_bl, lt_int, gt_int, le_int, ge_int, q_tup, n_tup, q_tup0, n_tup0, q_0tup, q_00, n_0tup, n_00, q_l00, n_l00, q_lst, n_lst, q_lst0, n_lst0, in_tup, ni_tup, in_lst, ni_lst, ix_t, ix_l, ix_r, ix_e, atP_zero, atP_one, atP_two, atP_three, len_t, len_l, len_s, int_i, max2_i, min2_i, lt_tup, decide_true, decide_false, Int.reduceLE, Int.reduceLT, Int.reduceToNat, List.getElem?_cons_zero, List.getElem?_cons_succ, List.set_cons_zero, List.set_cons_succ, List.length_map, it_lst, it_tup, hr]
                  rw [comp_filter (eX := PV.int) (fun s => decide (x + s < n)) (fun s => PV.int ((x + s) % n)) (fun s hs => by
                    simp only [bind_ok, liftS_ok, op1_some, andThen_nx, andThen_rt, andThen_bk, fin_rt, fin_nx, asB_bl, getS_zero, getS_succ, getS_nil, setS_zero, setS_succ, clr_zero, clr_succ, rd_true, rd_val, rd_int, rd_tup, rd_bl, rd_str, rd_non, rd_ref, rd_fn, rd_exc, bindT_nm, bindT_tp, setAll_nil, setAll_cons, putAllS_nil, putAllS_cons, kTup, kLst, kBox, kBin2, kBin1, kNeg, kBl, kNot, kCmp2, kCmp1, kCh4, kCh3, kCh2, kCh1, kIsN, kNotN, kIsT, kNotT, kIfe, kIdx2, kIdx1, kOpt, kSl3, kSl2, kSl1, kRev, kCall, kCd2, kCd1, kBi, kBit2, kBit1, kIsin, kItems, kElt2, kElt1, cF, kComp, kEs2, kEs1, kAnd, kOr, kRng2, kRng1, kEn2, kEn1, e_var, e_k, e_glob, e_fnv, e_tup, e_lst, e_box, e_bin, e_neg, e_and, e_or, e_not, e_cmp, e_chain, e_isN, e_notN, e_isT, e_notT, e_ife, e_idx, e_slice, e_rev, e_call, e_calld, e_bi, e_bit, e_isin, e_comp, e_range, e_enum, es_nil, es_cons, and_nil, and_cons, or_nil, or_cons, kVal, kMv, kRs2, kRs1, kAsg, optS, kAsgT, kPar, kSet3, set2, kSet1, kApp, app2, pop2, kAug, aug2, kExpr, kIff, wC, fB, kFor, kRet, rh_var, rh_e, rv_val, rv_int, rv_tup, rv_bl, rv_str, rv_non, rv_ref, rv_fn, rv_exc, rv_ownL, rv_ownD, rr_nil, rr_cons, x_asg, x_asgT, x_par, x_setI, x_app, x_pop, x_aug, x_expr, x_frz, x_iff, x_whl, x_for, x_ret, x_retN, x_brk, x_pass, x_never, xs_nil, xs_cons, frE, cont, held, freeze, startS, List.map_cons, List.map_nil, List.replicate, List.cons_append, List.nil_append, List.append_nil, List.length_cons, List.length_nil, List.head?_cons, List.head?_nil, ↓reduceIte, Nat.reduceAdd, Nat.reduceSub, Nat.reduceEqDiff, reduceCtorEq, and_true, true_and, and_false, false_and, or_true, true_or, or_false, false_or, not_true_eq_false, not_false_eq_true, Bool.not_true, Bool.not_false, Bool.false_eq_true, Bool.true_eq_false, ne_eq, if_true, if_false, eq_self, deref, items, seqs, isOk, isinV, List.any_cons, List.any_nil, Bool.or_false, Bool.false_or, Bool.or_true, Bool.true_or, bitIn, bitV, optInt, implies_true, Option.map_some, Option.map_none, forall_const, PV.int.injEq, PV.bl.injEq, and_self, or_self, Int.reduceNeg, Int.reduceSub, Int.reduceAdd, Option.some.injEq, i_bl, i_and, i_or, Bool.and_true, Bool.true_and, Bool.and_false, Bool.false_and, Bool.not_not, nb_non, nb_int, nb_tup, nb_lst, nb_bl, nb_str, tb_non, tb_int, tb_bl, v_add, v_sub, a_add, a_sub, q_int, n_int, q_bl, n_bl, lt_int, gt_int, le_int, ge_int, q_tup, n_tup, q_tup0, n_tup0, q_0tup, q_00, n_0tup, n_00, q_l00, n_l00, q_lst, n_lst, q_lst0, n_lst0, in_tup, ni_tup, in_lst, ni_lst, ix_t, ix_l, ix_r, ix_e, atP_zero, atP_one, atP_two, atP_three, len_t, len_l, len_s, int_i, max2_i, min2_i, lt_tup, decide_true, decide_false, Int.reduceLE, Int.reduceLT, Int.reduceToNat, List.getElem?_cons_zero, List.getElem?_cons_succ, List.set_cons_zero, List.set_cons_succ, List.length_map, it_lst, it_tup, v_mod _ n (by omega)]
                    by_cases c : x + s < n <;> simp only [c, bind_ok, liftS_ok, op1_some, andThen_nx, andThen_rt, andThen_bk, fin_rt, fin_nx, asB_bl, getS_zero, getS_succ, getS_nil, setS_zero, setS_succ, clr_zero, clr_succ, rd_true, rd_val, rd_int, rd_tup, rd_bl, rd_str, rd_non, rd_ref, rd_fn, rd_exc, bindT_nm, bindT_tp, setAll_nil, setAll_cons, putAllS_nil, putAllS_cons, kTup, kLst, kBox, kBin2, kBin1, kNeg, kBl, kNot, kCmp2, kCmp1, kCh4, kCh3, kCh2, kCh1, kIsN, kNotN, kIsT, kNotT, kIfe, kIdx2, kIdx1, kOpt, kSl3, kSl2, kSl1, kRev, kCall, kCd2, kCd1, kBi, kBit2, kBit1, kIsin, kItems, kElt2, kElt1, cF, kComp, kEs2, kEs1, kAnd, kOr, kRng2, kRng1, kEn2, kEn1, e_var, e_k, e_glob, e_fnv, e_tup, e_lst, e_box, e_bin, e_neg, e_and, e_or, e_not, e_cmp, e_chain, e_isN, e_notN, e_isT, e_notT, e_ife, e_idx, e_slice, e_rev, e_call, e_calld, e_bi, e_bit, e_isin, e_comp, e_range, e_enum, es_nil, es_cons, and_nil, and_cons, or_nil, or_cons, kVal, kMv, kRs2, kRs1, kAsg, optS, kAsgT, kPar, kSet3, set2, kSet1, kApp, app2, pop2, kAug, aug2, kExpr, kIff, wC, fB, kFor, kRet, rh_var, rh_e, rv_val, rv_int, rv_tup, rv_bl, rv_str, rv_non, rv_ref, rv_fn, rv_exc, rv_ownL, rv_ownD, rr_nil, rr_cons, x_asg, x_asgT, x_par, x_setI, x_app, x_pop, x_aug, x_expr, x_frz, x_iff, x_whl, x_for, x_ret, x_retN, x_brk, x_pass, x_never, xs_nil, xs_cons, frE, cont, held, freeze, startS, List.map_cons, List.map_nil, List.replicate, List.cons_append, List.nil_append, List.append_nil, List.length_cons, List.length_nil, List.head?_cons, List.head?_nil, ↓reduceIte, Nat.reduceAdd, Nat.reduceSub, Nat.reduceEqDiff, reduceCtorEq, and_true, true_and, and_false, false_and, or_true, true_or, or_false, false_or, not_true_eq_false, not_false_eq_true, Bool.not_true, Bool.not_false, Bool.false_eq_true, Bool.true_eq_false, ne_eq, if_true, if_false, eq_self, deref, items, seqs, isOk, isinV, List.any_cons, List.any_nil, Bool.or_false, Bool.false_or, Bool.or_true, Bool.true_or, bitIn, bitV, optInt, implies_true, Option.map_some, Option.map_none, forall_const, PV.int.injEq, PV.bl.injEq, and_self, or_self, Int.reduceNeg, Int.reduceSub, Int.reduceAdd, Option.some.injEq, i_bl, i_and, i_or, Bool.and_true, Bool.true_and, Bool.and_false, Bool.false_and, Bool.not_not, nb_non, nb_int, nb_tup, nb_lst, nb_bl, nb_str, tb_non, tb_int, tb_bl, v_add, v_sub, a_add, a_sub, q_int, n_int, q_bl, n_bl, lt_int, gt_int, le_int, ge_int, q_tup, n_tup, q_tup0, n_tup0, q_0tup, q_00, n_0tup, n_00, q_l00, n_l00, q_lst, n_lst, q_lst0, n_lst0, in_tup, ni_tup, in_lst, ni_lst, ix_t, ix_l, ix_r, ix_e, atP_zero, atP_one, atP_two, atP_three, len_t, len_l, len_s, int_i, max2_i, min2_i, lt_tup, decide_true, decide_false, Int.reduceLE, Int.reduceLT, Int.reduceToNat, List.getElem?_cons_zero, List.getElem?_cons_succ, List.set_cons_zero, List.set_cons_succ, List.length_map, it_lst, it_tup])]
                  simp only [bind_ok, liftS_ok, op1_some, andThen_nx, andThen_rt, andThen_bk, fin_rt, fin_nx, asB_bl, getS_zero, getS_succ, getS_nil, setS_zero, setS_succ, clr_zero, clr_succ, rd_true, rd_val, rd_int, rd_tup, rd_bl, rd_str, rd_non, rd_ref, rd_fn, rd_exc, bindT_nm, bindT_tp, setAll_nil, setAll_cons, putAllS_nil, putAllS_cons, kTup, kLst, kBox, kBin2, kBin1, kNeg, kBl, kNot, kCmp2, kCmp1, kCh4, kCh3, kCh2, kCh1, kIsN, kNotN, kIsT, kNotT, kIfe, kIdx2, kIdx1, kOpt, kSl3, kSl2, kSl1, kRev, kCall, kCd2, kCd1, kBi, kBit2, kBit1, kIsin, kItems, kElt2, kElt1, cF, kComp, kEs2, kEs1, kAnd, kOr, kRng2, kRng1, kEn2, kEn1, e_var, e_k, e_glob, e_fnv, e_tup, e_lst, e_box, e_bin, e_neg, e_and, e_or, e_not, e_cmp, e_chain, e_isN, e_notN, e_isT, e_notT, e_ife, e_idx, e_slice, e_rev, e_call, e_calld, e_bi, e_bit, e_isin, e_comp, e_range, e_enum, es_nil, es_cons, and_nil, and_cons, or_nil, or_cons, kVal, kMv, kRs2, kRs1, kAsg, optS, kAsgT, kPar, kSet3, set2, kSet1, kApp, app2, pop2, kAug, aug2, kExpr, kIff, wC, fB, kFor, kRet, rh_var, rh_e, rv_val, rv_int, rv_tup, rv_bl, rv_str, rv_non, rv_ref, rv_fn, rv_exc, rv_ownL, rv_ownD, rr_nil, rr_cons, x_asg, x_asgT, x_par, x_setI, x_app, x_pop, x_aug, x_expr, x_frz, x_iff, x_whl, x_for, x_ret, x_retN, x_brk, x_pass, x_never, xs_nil, xs_cons, frE, cont, held, freeze, startS, List.map_cons, List.map_nil, List.replicate, List.cons_append, List.nil_append, List.append_nil, List.length_cons, List.length_nil, List.head?_cons, List.head?_nil, ↓reduceIte, Nat.reduceAdd, Nat.reduceSub, Nat.reduceEqDiff, reduceCtorEq, and_true, true_and, and_false, false_and, or_true, true_or, or_false, false_or, not_true_eq_false, not_false_eq_true, Bool.not_true, Bool.not_false, Bool.false_eq_true, Bool.true_eq_false, ne_eq, if_true, if_false, eq_self, deref, items, seqs, isOk, isinV, List.any_cons, List.any_nil, Bool.or_false, Bool.false_or, Bool.or_true, Bool.true_or, bitIn, bitV, optInt, implies_true, Option.map_some, Option.map_none, forall_const, PV.int.injEq, PV.bl.injEq, and_self, or_self, Int.reduceNeg, Int.reduceSub, Int.reduceAdd, Option.some.injEq, i_bl, i_and, i_or, Bool.and_true, Bool.true_and, Bool.and_false, Bool.false_and, Bool.not_not, nb_non, nb_int, nb_tup, nb_lst, nb_bl, nb_str, tb_non, tb_int, tb_bl, v_add, v_sub, a_add, a_sub, q_int, n_int, q_bl, n_bl, lt_int, gt_int, le_int, ge_int, q_tup, n_tup, q_tup0, n_tup0, q_0tup, q_00, n_0tup, n_00, q_l00, n_l00, q_lst, n_lst, q_lst0, n_lst0, in_tup, ni_tup, in_lst, ni_lst, ix_t, ix_l, ix_r, ix_e, atP_zero, atP_one, atP_two, atP_three, len_t, len_l, len_s, int_i, max2_i, min2_i, lt_tup, decide_true, decide_false, Int.reduceLE, Int.reduceLT, Int.reduceToNat, List.getElem?_cons_zero, List.getElem?_cons_succ, List.set_cons_zero, List.set_cons_succ, List.length_map, it_lst, it_tup, hr]
                  rw [comp_filter (eX := PV.int) (fun s => decide (0 ≤ x - s)) (fun s => PV.int ((x - s) % n)) (fun s hs => by
                    simp only [bind_ok, liftS_ok, op1_some, andThen_nx, andThen_rt, andThen_bk, fin_rt, fin_nx, asB_bl, getS_zero, getS_succ, getS_nil, setS_zero, setS_succ, clr_zero, clr_succ, rd_true, rd_val, rd_int, rd_tup, rd_bl, rd_str, rd_non, rd_ref, rd_fn, rd_exc, bindT_nm, bindT_tp, setAll_nil, setAll_cons, putAllS_nil, putAllS_cons, kTup, kLst, kBox, kBin2, kBin1, kNeg, kBl, kNot, kCmp2, kCmp1, kCh4, kCh3, kCh2, kCh1, kIsN, kNotN, kIsT, kNotT, kIfe, kIdx2, kIdx1, kOpt, kSl3, kSl2, kSl1, kRev, kCall, kCd2, kCd1, kBi, kBit2, kBit1, kIsin, kItems, kElt2, kElt1, cF, kComp, kEs2, kEs1, kAnd, kOr, kRng2, kRng1, kEn2, kEn1, e_var, e_k, e_glob, e_fnv, e_tup, e_lst, e_box, e_bin, e_neg, e_and, e_or, e_not, e_cmp, e_chain, e_isN, e_notN, e_isT, e_notT, e_ife, e_idx, e_slice, e_rev, e_call, e_calld, e_bi, e_bit, e_isin, e_comp, e_range, e_enum, es_nil, es_cons, and_nil, and_cons, or_nil, or_cons, kVal, kMv, kRs2, kRs1, kAsg, optS, kAsgT, kPar, kSet3, set2, kSet1, kApp, app2, pop2, kAug, aug2, kExpr, kIff, wC, fB, kFor, kRet, rh_var, rh_e, rv_val, rv_int, rv_tup, rv_bl, rv_str, rv_non, rv_ref, rv_fn, rv_exc, rv_ownL, rv_ownD, rr_nil, rr_cons, x_asg, x_asgT, x_par, x_setI, x_app, x_pop, x_aug, x_expr, x_frz, x_iff, x_whl, x_for, x_ret, x_retN, x_brk, x_pass, x_never, xs_nil, xs_cons, frE, cont, held, freeze, startS, List.map_cons, List.map_nil, List.replicate, List.cons_append, List.nil_append, List.append_nil, List.length_cons, List.length_nil, List.head?_cons, List.head?_nil, ↓reduceIte, Nat.reduceAdd, Nat.reduceSub, Nat.reduceEqDiff, reduceCtorEq, and_true, true_and, and_false, false_and, or_true, true_or, or_false, false_or, not_true_eq_false, not_false_eq_true, Bool.not_true, Bool.not_false, Bool.false_eq_true, Bool.true_eq_false, ne_eq, if_true, if_false, eq_self, deref, items, seqs, isOk, isinV, List.any_cons, List.any_nil, Bool.or_false, Bool.false_or, Bool.or_true, Bool.true_or, bitIn, bitV, optInt, implies_true, Option.map_some, Option.map_none, forall_const, PV.int.injEq, PV.bl.injEq, and_self, or_self, Int.reduceNeg, Int.reduceSub, Int.reduceAdd, Option.some.injEq, i_bl, i_and, i_or, Bool.and_true, Bool.true_and, Bool.and_false, Bool.false_and, Bool.not_not, nb_non, nb_int, nb_tup, nb_lst, nb_bl, nb_str, tb_non, tb_int, tb_bl, v_add, v_sub, a_add, a_sub, q_int, n_int, q_bl, n_bl, lt_int, gt_int, le_int, ge_int, q_tup, n_tup, q_tup0, n_tup0, q_0tup, q_00, n_0tup, n_00, q_l00, n_l00, q_lst, n_lst, q_lst0, n_lst0, in_tup, ni_tup, in_lst, ni_lst, ix_t, ix_l, ix_r, ix_e, atP_zero, atP_one, atP_two, atP_three, len_t, len_l, len_s, int_i, max2_i, min2_i, lt_tup, decide_true, decide_false, Int.reduceLE, Int.reduceLT, Int.reduceToNat, List.getElem?_cons_zero, List.getElem?_cons_succ, List.set_cons_zero, List.set_cons_succ, List.length_map, it_lst, it_tup, v_mod _ n (by omega)]
                    by_cases c : 0 ≤ x - s <;> simp only [c, bind_ok, liftS_ok, op1_some, andThen_nx, andThen_rt, andThen_bk, fin_rt, fin_nx, asB_bl, getS_zero, getS_succ, getS_nil, setS_zero, setS_succ, clr_zero, clr_succ, rd_true, rd_val, rd_int, rd_tup, rd_bl, rd_str, rd_non, rd_ref, rd_fn, rd_exc, bindT_nm, bindT_tp, setAll_nil, setAll_cons, putAllS_nil, putAllS_cons, kTup, kLst, kBox, kBin2, kBin1, kNeg, kBl, kNot, kCmp2, kCmp1, kCh4, kCh3, kCh2, kCh1, kIsN, kNotN, kIsT, kNotT, kIfe, kIdx2, kIdx1, kOpt, kSl3, kSl2, kSl1, kRev, kCall, kCd2, kCd1, kBi, kBit2, kBit1, kIsin, kItems, kElt2, kElt1, cF, kComp, kEs2, kEs1, kAnd, kOr, kRng2, kRng1, kEn2, kEn1, e_var, e_k, e_glob, e_fnv, e_tup, e_lst, e_box, e_bin, e_neg, e_and, e_or, e_not, e_cmp, e_chain, e_isN, e_notN, e_isT, e_notT, e_ife, e_idx, e_slice, e_rev, e_call, e_calld, e_bi, e_bit, e_isin, e_comp, e_range, e_enum, es_nil, es_cons, and_nil, and_cons, or_nil, or_cons, kVal, kMv, kRs2, kRs1, kAsg, optS, kAsgT, kPar, kSet3, set2, kSet1, kApp, app2, pop2, kAug, aug2, kExpr, kIff, wC, fB, kFor, kRet, rh_var, rh_e, rv_val, rv_int, rv_tup, rv_bl, rv_str, rv_non, rv_ref, rv_fn, rv_exc, rv_ownL, rv_ownD, rr_nil, rr_cons, x_asg, x_asgT, x_par, x_setI, x_app, x_pop, x_aug, x_expr, x_frz, x_iff, x_whl, x_for, x_ret, x_retN, x_brk, x_pass, x_never, xs_nil, xs_cons, frE, cont, held, freeze, startS, List.map_cons, List.map_nil, List.replicate, List.cons_append, List.nil_append, List.append_nil, List.length_cons, List.length_nil, List.head?_cons, List.head?_nil, ↓reduceIte, Nat.reduceAdd, Nat.reduceSub, Nat.reduceEqDiff, reduceCtorEq, and_true, true_and, and_false, false_and, or_true, true_or, or_false, false_or, not_true_eq_false, not_false_eq_true, Bool.not_true, Bool.not_false, Bool.false_eq_true, Bool.true_eq_false, ne_eq, if_true, if_false, eq_self, deref, items, seqs, isOk, isinV, List.any_cons, List.any_nil, Bool.or_false, Bool.false_or, Bool.or_true, Bool.true_or, bitIn, bitV, optInt, implies_true, Option.map_some, Option.map_none, forall_const, PV.int.injEq, PV.bl.injEq, and_self, or_self, Int.reduceNeg, Int.reduceSub, Int.reduceAdd, Option.some.injEq, i_bl, i_and, i_or, Bool.and_true, Bool.true_and, Bool.and_false, Bool.false_and, Bool.not_not, nb_non, nb_int, nb_tup, nb_lst, nb_bl, nb_str, tb_non, tb_int, tb_bl, v_add, v_sub, a_add, a_sub, q_int, n_int, q_bl, n_bl, lt_int, gt_int, le_int, ge_int, q_tup, n_tup, q_tup0, n_tup0, q_0tup, q_00, n_0tup, n_00, q_l00, n_l00, q_lst, n_lst, q_lst0, n_lst0, in_tup, ni_tup, in_lst, ni_lst, ix_t, ix_l, ix_r, ix_e, atP_zero, atP_one, atP_two, atP_three, len_t, len_l, len_s, int_i, max2_i, min2_i, lt_tup, decide_true, decide_false, Int.reduceLE, Int.reduceLT, Int.reduceToNat, List.getElem?_cons_zero, List.getElem?_cons_succ, List.set_cons_zero, List.set_cons_succ, List.length_map, it_lst, it_tup])]
                  simp only [bind_ok, liftS_ok, op1_some, andThen_nx, andThen_rt, andThen_bk, fin_rt, fin_nx, asB_bl, getS_zero, getS_succ, getS_nil, setS_zero, setS_succ, clr_zero, clr_succ, rd_true, rd_val, rd_int, rd_tup, rd_bl, rd_str, rd_non, rd_ref, rd_fn, rd_exc, bindT_nm, bindT_tp, setAll_nil, setAll_cons, putAllS_nil, putAllS_cons, kTup, kLst, kBox, kBin2, kBin1, kNeg, kBl, kNot, kCmp2, kCmp1, kCh4, kCh3, kCh2, kCh1, kIsN, kNotN, kIsT, kNotT, kIfe, kIdx2, kIdx1, kOpt, kSl3, kSl2, kSl1, kRev, kCall, kCd2, kCd1, kBi, kBit2, kBit1, kIsin, kItems, kElt2, kElt1, cF, kComp, kEs2, kEs1, kAnd, kOr, kRng2, kRng1, kEn2, kEn1, e_var, e_k, e_glob, e_fnv, e_tup, e_lst, e_box, e_bin, e_neg, e_and, e_or, e_not, e_cmp, e_chain, e_isN, e_notN, e_isT, e_notT, e_ife, e_idx, e_slice, e_rev, e_call, e_calld, e_bi, e_bit, e_isin, e_comp, e_range, e_enum, es_nil, es_cons, and_nil, and_cons, or_nil, or_cons, kVal, kMv, kRs2, kRs1, kAsg, optS, kAsgT, kPar, kSet3, set2, kSet1, kApp, app2, pop2, kAug, aug2, kExpr, kIff, wC, fB, kFor, kRet, rh_var, rh_e, rv_val, rv_int, rv_tup, rv_bl, rv_str, rv_non, rv_ref, rv_fn, rv_exc, rv_ownL, rv_ownD, rr_nil, rr_cons, x_asg, x_asgT, x_par, x_setI, x_app, x_pop, x_aug, x_expr, x_frz, x_iff, x_whl, x_for, x_ret, x_retN, x_brk, x_pass, x_never, xs_nil, xs_cons, frE, cont, held, freeze, startS, List.map_cons, List.map_nil, List.replicate, List.cons_append, List.nil_append, List.append_nil, List.length_cons, List.length_nil, List.head?_cons, List.head?_nil, ↓reduceIte, Nat.reduceAdd, Nat.reduceSub, Nat.reduceEqDiff, reduceCtorEq, and_true, true_and, and_false, false_and, or_true, true_or, or_false, false_or, not_true_eq_false, not_false_eq_true, Bool.not_true, Bool.not_false, Bool.false_eq_true, Bool.true_eq_false, ne_eq, if_true, if_false, eq_self, deref, items, seqs, isOk, isinV, List.any_cons, List.any_nil, Bool.or_false, Bool.false_or, Bool.or_true, Bool.true_or, bitIn, bitV, optInt, implies_true, Option.map_some, Option.map_none, forall_const, PV.int.injEq, PV.bl.injEq, and_self, or_self, Int.reduceNeg, Int.reduceSub, Int.reduceAdd, Option.some.injEq, i_bl, i_and, i_or, Bool.and_true, Bool.true_and, Bool.and_false, Bool.false_and, Bool.not_not, nb_non, nb_int, nb_tup, nb_lst, nb_bl, nb_str, tb_non, tb_int, tb_bl, v_add, v_sub, a_add, a_sub, q_int, n_int, q_bl, n_bl, lt_int, gt_int, le_int, ge_int, q_tup, n_tup, q_tup0, n_tup0, q_0tup, q_00, n_0tup, n_00, q_l00, n_l00, q_lst, n_lst, q_lst0, n_lst0, in_tup, ni_tup, in_lst, ni_lst, ix_t, ix_l, ix_r, ix_e, atP_zero, atP_one, atP_two, atP_three, len_t, len_l, len_s, int_i, max2_i, min2_i, lt_tup, decide_true, decide_false, Int.reduceLE, Int.reduceLT, Int.reduceToNat, List.getElem?_cons_zero, List.getElem?_cons_succ, List.set_cons_zero, List.set_cons_succ, List.length_map, it_lst, it_tup]
                  rw [comp_filter (eX := fun s => PV.int ((x + s) % n)) (fun s => decide ((x + s) % n ∈ a) || decide ((x + s) % n ∈ b)) (fun s => PV.int ((x + s) % n)) (fun s hs => by
                    simp only [bind_ok, liftS_ok, op1_some, andThen_nx, andThen_rt, andThen_bk, fin_rt, fin_nx, asB_bl, getS_zero, getS_succ, getS_nil, setS_zero, setS_succ, clr_zero, clr_succ, rd_true, rd_val, rd_int, rd_tup, rd_bl, rd_str, rd_non, rd_ref, rd_fn, rd_exc, bindT_nm, bindT_tp, setAll_nil, setAll_cons, putAllS_nil, putAllS_cons, kTup, kLst, kBox, kBin2, kBin1, kNeg, kBl, kNot, kCmp2, kCmp1, kCh4, kCh3, kCh2, kCh1, kIsN, kNotN, kIsT, kNotT, kIfe, kIdx2, kIdx1, kOpt, kSl3, kSl2, kSl1, kRev, kCall, kCd2, kCd1, kBi, kBit2, kBit1, kIsin, kItems, kElt2, kElt1, cF, kComp, kEs2, kEs1, kAnd, kOr, kRng2, kRng1, kEn2, kEn1, e_var, e_k, e_glob, e_fnv, e_tup, e_lst, e_box, e_bin, e_neg, e_and, e_or, e_not, e_cmp, e_chain, e_isN, e_notN, e_isT, e_notT, e_ife, e_idx, e_slice, e_rev, e_call, e_calld, e_bi, e_bit, e_isin, e_comp, e_range, e_enum, es_nil, es_cons, and_nil, and_cons, or_nil, or_cons, kVal, kMv, kRs2, kRs1, kAsg, optS, kAsgT, kPar, kSet3, set2, kSet1, kApp, app2, pop2, kAug, aug2, kExpr, kIff, wC, fB, kFor, kRet, rh_var, rh_e, rv_val, rv_int, rv_tup, rv_bl, rv_str, rv_non, rv_ref, rv_fn, rv_exc, rv_ownL, rv_ownD, rr_nil, rr_cons, x_asg, x_asgT, x_par, x_setI, x_app, x_pop, x_aug, x_expr, x_frz, x_iff, x_whl, x_for, x_ret, x_retN, x_brk, x_pass, x_never, xs_nil, xs_cons, frE, cont, held, freeze, startS, List.map_cons, List.map_nil, List.replicate, List.cons_append, List.nil_append, List.append_nil, List.length_cons, List.length_nil, List.head?_cons, List.head?_nil, ↓reduceIte, Nat.reduceAdd, Nat.reduceSub, Nat.reduceEqDiff, reduceCtorEq, and_true, true_and, and_false, false_and, or_true, true_or, or_false, false_or, not_true_eq_false, not_false_eq_true, Bool.not_true, Bool.not_false, Bool.false_eq_true, Bool.true_eq_false, ne_eq, if_true, if_false, eq_self, deref, items, seqs, isOk, isinV, List.any_cons, List.any_nil, Bool.or_false, Bool.false_or, Bool.or_true, Bool.true_or, bitIn, bitV, optInt, implies_true, Option.map_some, Option.map_none, forall_const, PV.int.injEq, PV.bl.injEq, and_self, or_self, Int.reduceNeg, Int.reduceSub, Int.reduceAdd, Option.some.injEq, i_bl, i_and, i_or, Bool.and_true, Bool.true_and, Bool.and_false, Bool.false_and, Bool.not_not, nb_non, nb_int, nb_tup, nb_lst, nb_bl, nb_str, tb_non, tb_int, tb_bl, v_add, v_sub, a_add, a_sub, q_int, n_int, q_bl, n_bl, lt_int, gt_int, le_int, ge_int, q_tup, n_tup, q_tup0, n_tup0, q_0tup, q_00, n_0tup, n_00, q_l00, n_l00, q_lst, n_lst, q_lst0, n_lst0, in_tup, ni_tup, in_lst, ni_lst, ix_t, ix_l, ix_r, ix_e, atP_zero, atP_one, atP_two, atP_three, len_t, len_l, len_s, int_i, max2_i, min2_i, lt_tup, decide_true, decide_false, Int.reduceLE, Int.reduceLT, Int.reduceToNat, List.getElem?_cons_zero, List.getElem?_cons_succ, List.set_cons_zero, List.set_cons_succ, List.length_map, it_lst, it_tup]
                    by_cases c : (x + s) % n ∈ a <;> by_cases c2 : (x + s) % n ∈ b <;> simp only [c, c2, bind_ok, liftS_ok, op1_some, andThen_nx, andThen_rt, andThen_bk, fin_rt, fin_nx, asB_bl, getS_zero, getS_succ, getS_nil, setS_zero, setS_succ, clr_zero, clr_succ, rd_true, rd_val, rd_int, rd_tup, rd_bl, rd_str, rd_non, rd_ref, rd_fn, rd_exc, bindT_nm, bindT_tp, setAll_nil, setAll_cons, putAllS_nil, putAllS_cons, kTup, kLst, kBox, kBin2, kBin1, kNeg, kBl, kNot, kCmp2, kCmp1, kCh4, kCh3, kCh2, kCh1, kIsN, kNotN, kIsT, kNotT, kIfe, kIdx2, kIdx1, kOpt, kSl3, kSl2, kSl1, kRev, kCall, kCd2, kCd1, kBi, kBit2, kBit1, kIsin, kItems, kElt2, kElt1, cF, kComp, kEs2, kEs1, kAnd, kOr, kRng2, kRng1, kEn2, kEn1, e_var, e_k, e_glob, e_fnv, e_tup, e_lst, e_box, e_bin, e_neg, e_and, e_or, e_not, e_cmp, e_chain, e_isN, e_notN, e_isT, e_notT, e_ife, e_idx, e_slice, e_rev, e_call, e_calld, e_bi, e_bit, e_isin, e_comp, e_range, e_enum, es_nil, es_cons, and_nil, and_cons, or_nil, or_cons, kVal, kMv, kRs2, kRs1, kAsg, optS, kAsgT, kPar, kSet3, set2, kSet1, kApp, app2, pop2, kAug, aug2, kExpr, kIff, wC, fB, kFor, kRet, rh_var, rh_e, rv_val, rv_int, rv_tup, rv_bl, rv_str, rv_non, rv_ref, rv_fn, rv_exc, rv_ownL, rv_ownD, rr_nil, rr_cons, x_asg, x_asgT, x_par, x_setI, x_app, x_pop, x_aug, x_expr, x_frz, x_iff, x_whl, x_for, x_ret, x_retN, x_brk, x_pass, x_never, xs_nil, xs_cons, frE, cont, held, freeze, startS, List.map_cons, List.map_nil, List.replicate, List.cons_append, List.nil_append, List.append_nil, List.length_cons, List.length_nil, List.head?_cons, List.head?_nil, ↓reduceIte, Nat.reduceAdd, Nat.reduceSub, Nat.reduceEqDiff, reduceCtorEq, and_true, true_and, and_false, false_and, or_true, true_or, or_false, false_or, not_true_eq_false, not_false_eq_true, Bool.not_true, Bool.not_false, Bool.false_eq_true, Bool.true_eq_false, ne_eq, if_true, if_false, eq_self, deref, items, seqs, isOk, isinV, List.any_cons, List.any_nil, Bool.or_false, Bool.false_or, Bool.or_true, Bool.true_or, bitIn, bitV, optInt, implies_true, Option.map_some, Option.map_none, forall_const, PV.int.injEq, PV.bl.injEq, and_self, or_self, Int.reduceNeg, Int.reduceSub, Int.reduceAdd, Option.some.injEq, i_bl, i_and, i_or, Bool.and_true, Bool.true_and, Bool.and_false, Bool.false_and, Bool.not_not, nb_non, nb_int, nb_tup, nb_lst, nb_bl, nb_str, tb_non, tb_int, tb_bl, v_add, v_sub, a_add, a_sub, q_int, n_int, q_bl, n_bl, lt_int, gt_int, le_int, ge_int, q_tup, n_tup, q_tup0, n_tup0, q_0tup, q_00, n_0tup, n_00, q_l00, n_l00, q_lst, n_lst, q_lst0, n_lst0, in_tup, ni_tup, in_lst, ni_lst, ix_t, ix_l, ix_r, ix_e, atP_zero, atP_one, atP_two, atP_three, len_t, len_l, len_s, int_i, max2_i, min2_i, lt_tup, decide_true, decide_false, Int.reduceLE, Int.reduceLT, Int.reduceToNat, List.getElem?_cons_zero, List.getElem?_cons_succ, List.set_cons_zero, List.set_cons_succ, List.length_map, it_lst, it_tup])]
                  simp only [bind_ok, liftS_ok, op1_some, andThen_nx, andThen_rt, andThen_bk, fin_rt, fin_nx, asB_bl, getS_zero, getS_succ, getS_nil, setS_zero, setS_succ, clr_zero, clr_succ, rd_true, rd_val, rd_int, rd_tup, rd_bl, rd_str, rd_non, rd_ref, rd_fn, rd_exc, bindT_nm, bindT_tp, setAll_nil, setAll_cons, putAllS_nil, putAllS_cons, kTup, kLst, kBox, kBin2, kBin1, kNeg, kBl, kNot, kCmp2, kCmp1, kCh4, kCh3, kCh2, kCh1, kIsN, kNotN, kIsT, kNotT, kIfe, kIdx2, kIdx1, kOpt, kSl3, kSl2, kSl1, kRev, kCall, kCd2, kCd1, kBi, kBit2, kBit1, kIsin, kItems, kElt2, kElt1, cF, kComp, kEs2, kEs1, kAnd, kOr, kRng2, kRng1, kEn2, kEn1, e_var, e_k, e_glob, e_fnv, e_tup, e_lst, e_box, e_bin, e_neg, e_and, e_or, e_not, e_cmp, e_chain, e_isN, e_notN, e_isT, e_notT, e_ife, e_idx, e_slice, e_rev, e_call, e_calld, e_bi, e_bit, e_isin, e_comp, e_range, e_enum, es_nil, es_cons, and_nil, and_cons, or_nil, or_cons, kVal, kMv, kRs2, kRs1, kAsg, optS, kAsgT, kPar, kSet3, set2, kSet1, kApp, app2, pop2, kAug, aug2, kExpr, kIff, wC, fB, kFor, kRet, rh_var, rh_e, rv_val, rv_int, rv_tup, rv_bl, rv_str, rv_non, rv_ref, rv_fn, rv_exc, rv_ownL, rv_ownD, rr_nil, rr_cons, x_asg, x_asgT, x_par, x_setI, x_app, x_pop, x_aug, x_expr, x_frz, x_iff, x_whl, x_for, x_ret, x_retN, x_brk, x_pass, x_never, xs_nil, xs_cons, frE, cont, held, freeze, startS, List.map_cons, List.map_nil, List.replicate, List.cons_append, List.nil_append, List.append_nil, List.length_cons, List.length_nil, List.head?_cons, List.head?_nil, ↓reduceIte, Nat.reduceAdd, Nat.reduceSub, Nat.reduceEqDiff, reduceCtorEq, and_true, true_and, and_false, false_and, or_true, true_or, or_false, false_or, not_true_eq_false, not_false_eq_true, Bool.not_true, Bool.not_false, Bool.false_eq_true, Bool.true_eq_false, ne_eq, if_true, if_false, eq_self, deref, items, seqs, isOk, isinV, List.any_cons, List.any_nil, Bool.or_false, Bool.false_or, Bool.or_true, Bool.true_or, bitIn, bitV, optInt, implies_true, Option.map_some, Option.map_none, forall_const, PV.int.injEq, PV.bl.injEq, and_self, or_self, Int.reduceNeg, Int.reduceSub, Int.reduceAdd, Option.some.injEq, i_bl, i_and, i_or, Bool.and_true, Bool.true_and, Bool.and_false, Bool.false_and, Bool.not_not, nb_non, nb_int, nb_tup, nb_lst, nb_bl, nb_str, tb_non, tb_int, tb_bl, v_add, v_sub, a_add, a_sub, q_int, n_int, q_bl, n_bl, lt_int, gt_int, le_int, ge_int, q_tup, n_tup, q_tup0, n_tup0, q_0tup, q_00, n_0tup, n_00, q_l00, n_l00, q_lst, n_lst, q_lst0, n_lst0, in_tup, ni_tup, in_lst, ni_lst, ix_t, ix_l, ix_r, ix_e, atP_zero, atP_one, atP_two, atP_three, len_t, len_l, len_s, int_i, max2_i, min2_i, lt_tup, decide_true, decide_false, Int.reduceLE, Int.reduceLT, Int.reduceToNat, List.getElem?_cons_zero, List.getElem?_cons_succ, List.set_cons_zero, List.set_cons_succ, List.length_map, it_lst, it_tup, sliceV, sliceL_take1]
                  rw [comp_filter (eX := fun s => PV.int ((x - s) % n)) (fun s => decide ((x - s) % n ∈ a) || decide ((x - s) % n ∈ b)) (fun s => PV.int ((x - s) % n)) (fun s hs => by
                    simp only [bind_ok, liftS_ok, op1_some, andThen_nx, andThen_rt, andThen_bk, fin_rt, fin_nx, asB_bl, getS_zero, getS_succ, getS_nil, setS_zero, setS_succ, clr_zero, clr_succ, rd_true, rd_val, rd_int, rd_tup, rd_bl, rd_str, rd_non, rd_ref, rd_fn, rd_exc, bindT_nm, bindT_tp, setAll_nil, setAll_cons, putAllS_nil, putAllS_cons, kTup, kLst, kBox, kBin2, kBin1, kNeg, kBl, kNot, kCmp2, kCmp1, kCh4, kCh3, kCh2, kCh1, kIsN, kNotN, kIsT, kNotT, kIfe, kIdx2, kIdx1, kOpt, kSl3, kSl2, kSl1, kRev, kCall, kCd2, kCd1, kBi, kBit2, kBit1, kIsin, kItems, kElt2, kElt1, cF, kComp, kEs2, kEs1, kAnd, kOr, kRng2, kRng1, kEn2, kEn1, e_var, e_k, e_glob, e_fnv, e_tup, e_lst, e_box, e_bin, e_neg, e_and, e_or, e_not, e_cmp, e_chain, e_isN, e_notN, e_isT, e_notT, e_ife, e_idx, e_slice, e_rev, e_call, e_calld, e_bi, e_bit, e_isin, e_comp, e_range, e_enum, es_nil, es_cons, and_nil, and_cons, or_nil, or_cons, kVal, kMv, kRs2, kRs1, kAsg, optS, kAsgT, kPar, kSet3, set2, kSet1, kApp, app2, pop2, kAug, aug2, kExpr, kIff, wC, fB, kFor, kRet, rh_var, rh_e, rv_val, rv_int, rv_tup, rv_bl, rv_str, rv_non, rv_ref, rv_fn, rv_exc, rv_ownL, rv_ownD, rr_nil, rr_cons, x_asg, x_asgT, x_par, x_setI, x_app, x_pop, x_aug, x_expr, x_frz, x_iff, x_whl, x_for, x_ret, x_retN, x_brk, x_pass, x_never, xs_nil, xs_cons, frE, cont, held, freeze, startS, List.map_cons, List.map_nil, List.replicate, List.cons_append, List.nil_append, List.append_nil, List.length_cons, List.length_nil, List.head?_cons, List.head?_nil, ↓reduceIte, Nat.reduceAdd, Nat.reduceSub, Nat.reduceEqDiff, reduceCtorEq, and_true, true_and, and_false, false_and, or_true, true_or, or_false, false_or, not_true_eq_false, not_false_eq_true, Bool.not_true, Bool.not_false, Bool.false_eq_true, Bool.true_eq_false, ne_eq, if_true, if_false, eq_self, deref, items, seqs, isOk, isinV, List.any_cons, List.any_nil, Bool.or_false, Bool.false_or, Bool.or_true, Bool.true_or, bitIn, bitV, optInt, implies_true, Option.map_some, Option.map_none, forall_const, PV.int.injEq, PV.bl.injEq, and_self, or_self, Int.reduceNeg, Int.reduceSub, Int.reduceAdd, Option.some.injEq, i_bl, i_and, i_or, Bool.and_true, Bool.true_and, Bool.and_false, Bool.false_and, Bool.not_not, nb_non, nb_int, nb_tup, nb_lst, nb_bl, nb_str, tb_non, tb_int, tb_bl, v_add, v_sub, a_add, a_sub, q_int, n_int, q_bl, n_bl, lt_int, gt_int, le_int, ge_int, q_tup, n_tup, q_tup0, n_tup0, q_0tup, q_00, n_0tup, n_00, q_l00, n_l00, q_lst, n_lst, q_lst0, n_lst0, in_tup, ni_tup, in_lst, ni_lst, ix_t, ix_l, ix_r, ix_e, atP_zero, atP_one, atP_two, atP_three, len_t, len_l, len_s, int_i, max2_i, min2_i, lt_tup, decide_true, decide_false, Int.reduceLE, Int.reduceLT, Int.reduceToNat, List.getElem?_cons_zero, List.getElem?_cons_succ, List.set_cons_zero, List.set_cons_succ, List.length_map, it_lst, it_tup]
                    by_cases c : (x - s) % n ∈ a <;> by_cases c2 : (x - s) % n ∈ b <;> simp only [c, c2, bind_ok, liftS_ok, op1_some, andThen_nx, andThen_rt, andThen_bk, fin_rt, fin_nx, asB_bl, getS_zero, getS_succ, getS_nil, setS_zero, setS_succ, clr_zero, clr_succ, rd_true, rd_val, rd_int, rd_tup, rd_bl, rd_str, rd_non, rd_ref, rd_fn, rd_exc, bindT_nm, bindT_tp, setAll_nil, setAll_cons, putAllS_nil, putAllS_cons, kTup, kLst, kBox, kBin2, kBin1, kNeg, kBl, kNot, kCmp2, kCmp1, kCh4, kCh3, kCh2, kCh1, kIsN, kNotN, kIsT, kNotT, kIfe, kIdx2, kIdx1, kOpt, kSl3, kSl2, kSl1, kRev, kCall, kCd2, kCd1, kBi, kBit2, kBit1, kIsin, kItems, kElt2, kElt1, cF, kComp, kEs2, kEs1, kAnd, kOr, kRng2, kRng1, kEn2, kEn1, e_var, e_k, e_glob, e_fnv, e_tup, e_lst, e_box, e_bin, e_neg, e_and, e_or, e_not, e_cmp, e_chain, e_isN, e_notN, e_isT, e_notT, e_ife, e_idx, e_slice, e_rev, e_call, e_calld, e_bi, e_bit, e_isin, e_comp, e_range, e_enum, es_nil, es_cons, and_nil, and_cons, or_nil, or_cons, kVal, kMv, kRs2, kRs1, kAsg, optS, kAsgT, kPar, kSet3, set2, kSet1, kApp, app2, pop2, kAug, aug2, kExpr, kIff, wC, fB, kFor, kRet, rh_var, rh_e, rv_val, rv_int, rv_tup, rv_bl, rv_str, rv_non, rv_ref, rv_fn, rv_exc, rv_ownL, rv_ownD, rr_nil, rr_cons, x_asg, x_asgT, x_par, x_setI, x_app, x_pop, x_aug, x_expr, x_frz, x_iff, x_whl, x_for, x_ret, x_retN, x_brk, x_pass, x_never, xs_nil, xs_cons, frE, cont, held, freeze, startS, List.map_cons, List.map_nil, List.replicate, List.cons_append, List.nil_append, List.append_nil, List.length_cons, List.length_nil, List.head?_cons, List.head?_nil, ↓reduceIte, Nat.reduceAdd, Nat.reduceSub, Nat.reduceEqDiff, reduceCtorEq, and_true, true_and, and_false, false_and, or_true, true_or, or_false, false_or, not_true_eq_false, not_false_eq_true, Bool.not_true, Bool.not_false, Bool.false_eq_true, Bool.true_eq_false, ne_eq, if_true, if_false, eq_self, deref, items, seqs, isOk, isinV, List.any_cons, List.any_nil, Bool.or_false, Bool.false_or, Bool.or_true, Bool.true_or, bitIn, bitV, optInt, implies_true, Option.map_some, Option.map_none, forall_const, PV.int.injEq, PV.bl.injEq, and_self, or_self, Int.reduceNeg, Int.reduceSub, Int.reduceAdd, Option.some.injEq, i_bl, i_and, i_or, Bool.and_true, Bool.true_and, Bool.and_false, Bool.false_and, Bool.not_not, nb_non, nb_int, nb_tup, nb_lst, nb_bl, nb_str, tb_non, tb_int, tb_bl, v_add, v_sub, a_add, a_sub, q_int, n_int, q_bl, n_bl, lt_int, gt_int, le_int, ge_int, q_tup, n_tup, q_tup0, n_tup0, q_0tup, q_00, n_0tup, n_00, q_l00, n_l00, q_lst, n_lst, q_lst0, n_lst0, in_tup, ni_tup, in_lst, ni_lst, ix_t, ix_l, ix_r, ix_e, atP_zero, atP_one, atP_two, atP_three, len_t, len_l, len_s, int_i, max2_i, min2_i, lt_tup, decide_true, decide_false, Int.reduceLE, Int.reduceLT, Int.reduceToNat, List.getElem?_cons_zero, List.getElem?_cons_succ, List.set_cons_zero, List.set_cons_succ, List.length_map, it_lst, it_tup])]
                  simp only [bind_ok, liftS_ok, op1_some, andThen_nx, andThen_rt, andThen_bk, fin_rt, fin_nx, asB_bl, getS_zero, getS_succ, getS_nil, setS_zero, setS_succ, clr_zero, clr_succ, rd_true, rd_val, rd_int, rd_tup, rd_bl, rd_str, rd_non, rd_ref, rd_fn, rd_exc, bindT_nm, bindT_tp, setAll_nil, setAll_cons, putAllS_nil, putAllS_cons, kTup, kLst, kBox, kBin2, kBin1, kNeg, kBl, kNot, kCmp2, kCmp1, kCh4, kCh3, kCh2, kCh1, kIsN, kNotN, kIsT, kNotT, kIfe, kIdx2, kIdx1, kOpt, kSl3, kSl2, kSl1, kRev, kCall, kCd2, kCd1, kBi, kBit2, kBit1, kIsin, kItems, kElt2, kElt1, cF, kComp, kEs2, kEs1, kAnd, kOr, kRng2, kRng1, kEn2, kEn1, e_var, e_k, e_glob, e_fnv, e_tup, e_lst, e_box, e_bin, e_neg, e_and, e_or, e_not, e_cmp, e_chain, e_isN, e_notN, e_isT, e_notT, e_ife, e_idx, e_slice, e_rev, e_call, e_calld, e_bi, e_bit, e_isin, e_comp, e_range, e_enum, es_nil, es_cons, and_nil, and_cons, or_nil, or_cons, kVal, kMv, kRs2, kRs1, kAsg, optS, kAsgT, kPar, kSet3, set2, kSet1, kApp, app2, pop2, kAug, aug2, kExpr, kIff, wC, fB, kFor, kRet, rh_var, rh_e, rv_val, rv_int, rv_tup, rv_bl, rv_str, rv_non, rv_ref, rv_fn, rv_exc, rv_ownL, rv_ownD, rr_nil, rr_cons, x_asg, x_asgT, x_par, x_setI, x_app, x_pop, x_aug, x_expr, x_frz, x_iff, x_whl, x_for, x_ret, x_retN, x_brk, x_pass, x_never, xs_nil, xs_cons, frE, cont, held, freeze, startS, List.map_cons, List.map_nil, List.replicate, List.cons_append, List.nil_append, List.append_nil, List.length_cons, List.length_nil, List.head?_cons, List.head?_nil, ↓reduceIte, Nat.reduceAdd, Nat.reduceSub, Nat.reduceEqDiff, reduceCtorEq, and_true, true_and, and_false, false_and, or_true, true_or, or_false, false_or, not_true_eq_false, not_false_eq_true, Bool.not_true, Bool.not_false, Bool.false_eq_true, Bool.true_eq_false, ne_eq, if_true, if_false, eq_self, deref, items, seqs, isOk, isinV, List.any_cons, List.any_nil, Bool.or_false, Bool.false_or, Bool.or_true, Bool.true_or, bitIn, bitV, optInt, implies_true, Option.map_some, Option.map_none, forall_const, PV.int.injEq, PV.bl.injEq, and_self, or_self, Int.reduceNeg, Int.reduceSub, Int.reduceAdd, Option.some.injEq, i_bl, i_and, i_or, Bool.and_true, Bool.true_and, Bool.and_false, Bool.false_and, Bool.not_not, nb_non, nb_int, nb_tup, nb_lst, nb_bl, nb_str, tb_non, tb_int, tb_bl, v_add, v_sub, a_add, a_sub, q_int, n_int, q_bl, n_bl, lt_int, gt_int, le_int, ge_int, q_tup, n_tup, q_tup0, n_tup0, q_0tup, q_00, n_0tup, n_00, q_l00, n_l00, q_lst, n_lst, q_lst0, n_lst0, in_tup, ni_tup, in_lst, ni_lst, ix_t, ix_l, ix_r, ix_e, atP_zero, atP_one, atP_two, atP_three, len_t, len_l, len_s, int_i, max2_i, min2_i, lt_tup, decide_true, decide_false, Int.reduceLE, Int.reduceLT, Int.reduceToNat, List.getElem?_cons_zero, List.getElem?_cons_succ, List.set_cons_zero, List.set_cons_succ, List.length_map, it_lst, it_tup, sliceV, sliceL_take1]
                  rw [comp_filter (eX := fun s => PV.int ((x + s) % n)) (fun s => !decide ((x + s) % n ∈ a)) (fun s => PV.int ((x + s) % n)) (fun s hs => by
                    simp only [bind_ok, liftS_ok, op1_some, andThen_nx, andThen_rt, andThen_bk, fin_rt, fin_nx, asB_bl, getS_zero, getS_succ, getS_nil, setS_zero, setS_succ, clr_zero, clr_succ, rd_true, rd_val, rd_int, rd_tup, rd_bl, rd_str, rd_non, rd_ref, rd_fn, rd_exc, bindT_nm, bindT_tp, setAll_nil, setAll_cons, putAllS_nil, putAllS_cons, kTup, kLst, kBox, kBin2, kBin1, kNeg, kBl, kNot, kCmp2, kCmp1, kCh4, kCh3, kCh2, kCh1, kIsN, kNotN, kIsT, kNotT, kIfe, kIdx2, kIdx1, kOpt, kSl3, kSl2, kSl1, kRev, kCall, kCd2, kCd1, kBi, kBit2, kBit1, kIsin, kItems, kElt2, kElt1, cF, kComp, kEs2, kEs1, kAnd, kOr, kRng2, kRng1, kEn2, kEn1, e_var, e_k, e_glob, e_fnv, e_tup, e_lst, e_box, e_bin, e_neg, e_and, e_or, e_not, e_cmp, e_chain, e_isN, e_notN, e_isT, e_notT, e_ife, e_idx, e_slice, e_rev, e_call, e_calld, e_bi, e_bit, e_isin, e_comp, e_range, e_enum, es_nil, es_cons, and_nil, and_cons, or_nil, or_cons, kVal, kMv, kRs2, kRs1, kAsg, optS, kAsgT, kPar, kSet3, set2, kSet1, kApp, app2, pop2, kAug, aug2, kExpr, kIff, wC, fB, kFor, kRet, rh_var, rh_e, rv_val, rv_int, rv_tup, rv_bl, rv_str, rv_non, rv_ref, rv_fn, rv_exc, rv_ownL, rv_ownD, rr_nil, rr_cons, x_asg, x_asgT, x_par, x_setI, x_app, x_pop, x_aug, x_expr, x_frz, x_iff, x_whl, x_for, x_ret, x_retN, x_brk, x_pass, x_never, xs_nil, xs_cons, frE, cont, held, freeze, startS, List.map_cons, List.map_nil, List.replicate, List.cons_append, List.nil_append, List.append_nil, List.length_cons, List.length_nil, List.head?_cons, List.head?_nil, ↓reduceIte, Nat.reduceAdd, Nat.reduceSub, Nat.reduceEqDiff, reduceCtorEq, and_true, true_and, and_false, false_and, or_true, true_or, or_false, false_or, not_true_eq_false, not_false_eq_true, Bool.not_true, Bool.not_false, Bool.false_eq_true, Bool.true_eq_false, ne_eq, if_true, if_false, eq_self, deref, items, seqs, isOk, isinV, List.any_cons, List.any_nil, Bool.or_false, Bool.false_or, Bool.or_true, Bool.true_or, bitIn, bitV, optInt, implies_true, Option.map_some, Option.map_none, forall_const, PV.int.injEq, PV.bl.injEq, and_self, or_self, Int.reduceNeg, Int.reduceSub, Int.reduceAdd, Option.some.injEq, i_bl, i_and, i_or, Bool.and_true, Bool.true_and, Bool.and_false, Bool.false_and, Bool.not_not, nb_non, nb_int, nb_tup, nb_lst, nb_bl, nb_str, tb_non, tb_int, tb_bl, v_add, v_sub, a_add, a_sub, q_int, n_int, q_bl, n_bl, lt_int, gt_int, le_int, ge_int, q_tup, n_tup, q_tup0, n_tup0, q_0tup, q_00, n_0tup, n_00, q_l00, n_l00, q_lst, n_lst, q_lst0, n_lst0, in_tup, ni_tup, in_lst, ni_lst, ix_t, ix_l, ix_r, ix_e, atP_zero, atP_one, atP_two, atP_three, len_t, len_l, len_s, int_i, max2_i, min2_i, lt_tup, decide_true, decide_false, Int.reduceLE, Int.reduceLT, Int.reduceToNat, List.getElem?_cons_zero, List.getElem?_cons_succ, List.set_cons_zero, List.set_cons_succ, List.length_map, it_lst, it_tup]
                    by_cases c : (x + s) % n ∈ a <;> simp only [c, bind_ok, liftS_ok, op1_some, andThen_nx, andThen_rt, andThen_bk, fin_rt, fin_nx, asB_bl, getS_zero, getS_succ, getS_nil, setS_zero, setS_succ, clr_zero, clr_succ, rd_true, rd_val, rd_int, rd_tup, rd_bl, rd_str, rd_non, rd_ref, rd_fn, rd_exc, bindT_nm, bindT_tp, setAll_nil, setAll_cons, putAllS_nil, putAllS_cons, kTup, kLst, kBox, kBin2, kBin1, kNeg, kBl, kNot, kCmp2, kCmp1, kCh4, kCh3, kCh2, kCh1, kIsN, kNotN, kIsT, kNotT, kIfe, kIdx2, kIdx1, kOpt, kSl3, kSl2, kSl1, kRev, kCall, kCd2, kCd1, kBi, kBit2, kBit1, kIsin, kItems, kElt2, kElt1, cF, kComp, kEs2, kEs1, kAnd, kOr, kRng2, kRng1, kEn2, kEn1, e_var, e_k, e_glob, e_fnv, e_tup, e_lst, e_box, e_bin, e_neg, e_and, e_or, e_not, e_cmp, e_chain, e_isN, e_notN, e_isT, e_notT, e_ife, e_idx, e_slice, e_rev, e_call, e_calld, e_bi, e_bit, e_isin, e_comp, e_range, e_enum, es_nil, es_cons, and_nil, and_cons, or_nil, or_cons, kVal, kMv, kRs2, kRs1, kAsg, optS, kAsgT, kPar, kSet3, set2, kSet1, kApp, app2, pop2, kAug, aug2, kExpr, kIff, wC, fB, kFor, kRet, rh_var, rh_e, rv_val, rv_int, rv_tup, rv_bl, rv_str, rv_non, rv_ref, rv_fn, rv_exc, rv_ownL, rv_ownD, rr_nil, rr_cons, x_asg, x_asgT, x_par, x_setI, x_app, x_pop, x_aug, x_expr, x_frz, x_iff, x_whl, x_for, x_ret, x_retN, x_brk, x_pass, x_never, xs_nil, xs_cons, frE, cont, held, freeze, startS, List.map_cons, List.map_nil, List.replicate, List.cons_append, List.nil_append, List.append_nil, List.length_cons, List.length_nil, List.head?_cons, List.head?_nil, ↓reduceIte, Nat.reduceAdd, Nat.reduceSub, Nat.reduceEqDiff, reduceCtorEq, and_true, true_and, and_false, false_and, or_true, true_or, or_false, false_or, not_true_eq_false, not_false_eq_true, Bool.not_true, Bool.not_false, Bool.false_eq_true, Bool.true_eq_false, ne_eq, if_true, if_false, eq_self, deref, items, seqs, isOk, isinV, List.any_cons, List.any_nil, Bool.or_false, Bool.false_or, Bool.or_true, Bool.true_or, bitIn, bitV, optInt, implies_true, Option.map_some, Option.map_none, forall_const, PV.int.injEq, PV.bl.injEq, and_self, or_self, Int.reduceNeg, Int.reduceSub, Int.reduceAdd, Option.some.injEq, i_bl, i_and, i_or, Bool.and_true, Bool.true_and, Bool.and_false, Bool.false_and, Bool.not_not, nb_non, nb_int, nb_tup, nb_lst, nb_bl, nb_str, tb_non, tb_int, tb_bl, v_add, v_sub, a_add, a_sub, q_int, n_int, q_bl, n_bl, lt_int, gt_int, le_int, ge_int, q_tup, n_tup, q_tup0, n_tup0, q_0tup, q_00, n_0tup, n_00, q_l00, n_l00, q_lst, n_lst, q_lst0, n_lst0, in_tup, ni_tup, in_lst, ni_lst, ix_t, ix_l, ix_r, ix_e, atP_zero, atP_one, atP_two, atP_three, len_t, len_l, len_s, int_i, max2_i, min2_i, lt_tup, decide_true, decide_false, Int.reduceLE, Int.reduceLT, Int.reduceToNat, List.getElem?_cons_zero, List.getElem?_cons_succ, List.set_cons_zero, List.set_cons_succ, List.length_map, it_lst, it_tup])]
                  simp only [bind_ok, liftS_ok, op1_some, andThen_nx, andThen_rt, andThen_bk, fin_rt, fin_nx, asB_bl, getS_zero, getS_succ, getS_nil, setS_zero, setS_succ, clr_zero, clr_succ, rd_true, rd_val, rd_int, rd_tup, rd_bl, rd_str, rd_non, rd_ref, rd_fn, rd_exc, bindT_nm, bindT_tp, setAll_nil, setAll_cons, putAllS_nil, putAllS_cons, kTup, kLst, kBox, kBin2, kBin1, kNeg, kBl, kNot, kCmp2, kCmp1, kCh4, kCh3, kCh2, kCh1, kIsN, kNotN, kIsT, kNotT, kIfe, kIdx2, kIdx1, kOpt, kSl3, kSl2, kSl1, kRev, kCall, kCd2, kCd1, kBi, kBit2, kBit1, kIsin, kItems, kElt2, kElt1, cF, kComp, kEs2, kEs1, kAnd, kOr, kRng2, kRng1, kEn2, kEn1, e_var, e_k, e_glob, e_fnv, e_tup, e_lst, e_box, e_bin, e_neg, e_and, e_or, e_not, e_cmp, e_chain, e_isN, e_notN, e_isT, e_notT, e_ife, e_idx, e_slice, e_rev, e_call, e_calld, e_bi, e_bit, e_isin, e_comp, e_range, e_enum, es_nil, es_cons, and_nil, and_cons, or_nil, or_cons, kVal, kMv, kRs2, kRs1, kAsg, optS, kAsgT, kPar, kSet3, set2, kSet1, kApp, app2, pop2, kAug, aug2, kExpr, kIff, wC, fB, kFor, kRet, rh_var, rh_e, rv_val, rv_int, rv_tup, rv_bl, rv_str, rv_non, rv_ref, rv_fn, rv_exc, rv_ownL, rv_ownD, rr_nil, rr_cons, x_asg, x_asgT, x_par, x_setI, x_app, x_pop, x_aug, x_expr, x_frz, x_iff, x_whl, x_for, x_ret, x_retN, x_brk, x_pass, x_never, xs_nil, xs_cons, frE, cont, held, freeze, startS, List.map_cons, List.map_nil, List.replicate, List.cons_append, List.nil_append, List.append_nil, List.length_cons, List.length_nil, List.head?_cons, List.head?_nil, ↓reduceIte, Nat.reduceAdd, Nat.reduceSub, Nat.reduceEqDiff, reduceCtorEq, and_true, true_and, and_false, false_and, or_true, true_or, or_false, false_or, not_true_eq_false, not_false_eq_true, Bool.not_true, Bool.not_false, Bool.false_eq_true, Bool.true_eq_false, ne_eq, if_true, if_false, eq_self, deref, items, seqs, isOk, isinV, List.any_cons, List.any_nil, Bool.or_false, Bool.false_or, Bool.or_true, Bool.true_or, bitIn, bitV, optInt, implies_true, Option.map_some, Option.map_none, forall_const, PV.int.injEq, PV.bl.injEq, and_self, or_self, Int.reduceNeg, Int.reduceSub, Int.reduceAdd, Option.some.injEq, i_bl, i_and, i_or, Bool.and_true, Bool.true_and, Bool.and_false, Bool.false_and, Bool.not_not, nb_non, nb_int, nb_tup, nb_lst, nb_bl, nb_str, tb_non, tb_int, tb_bl, v_add, v_sub, a_add, a_sub, q_int, n_int, q_bl, n_bl, lt_int, gt_int, le_int, ge_int, q_tup, n_tup, q_tup0, n_tup0, q_0tup, q_00, n_0tup, n_00, q_l00, n_l00, q_lst, n_lst, q_lst0, n_lst0, in_tup, ni_tup, in_lst, ni_lst, ix_t, ix_l, ix_r, ix_e, atP_zero, atP_one, atP_two, atP_three, len_t, len_l, len_s, int_i, max2_i, min2_i, lt_tup, decide_true, decide_false, Int.reduceLE, Int.reduceLT, Int.reduceToNat, List.getElem?_cons_zero, List.getElem?_cons_succ, List.set_cons_zero, List.set_cons_succ, List.length_map, it_lst, it_tup, n_lstE _ S' (datL_map fun _ _ => dat_int _ _)]
                  rw [comp_filter (eX := fun s => PV.int ((x - s) % n)) (fun s => !decide ((x - s) % n ∈ b)) (fun s => PV.int ((x - s) % n)) (fun s hs => by
                    simp only [bind_ok, liftS_ok, op1_some, andThen_nx, andThen_rt, andThen_bk, fin_rt, fin_nx, asB_bl, getS_zero, getS_succ, getS_nil, setS_zero, setS_succ, clr_zero, clr_succ, rd_true, rd_val, rd_int, rd_tup, rd_bl, rd_str, rd_non, rd_ref, rd_fn, rd_exc, bindT_nm, bindT_tp, setAll_nil, setAll_cons, putAllS_nil, putAllS_cons, kTup, kLst, kBox, kBin2, kBin1, kNeg, kBl, kNot, kCmp2, kCmp1, kCh4, kCh3, kCh2, kCh1, kIsN, kNotN, kIsT, kNotT, kIfe, kIdx2, kIdx1, kOpt, kSl3, kSl2, kSl1, kRev, kCall, kCd2, kCd1, kBi, kBit2, kBit1, kIsin, kItems, kElt2, kElt1, cF, kComp, kEs2, kEs1, kAnd, kOr, kRng2, kRng1, kEn2, kEn1, e_var, e_k, e_glob, e_fnv, e_tup, e_lst, e_box, e_bin, e_neg, e_and, e_or, e_not, e_cmp, e_chain, e_isN, e_notN, e_isT, e_notT, e_ife, e_idx, e_slice, e_rev, e_call, e_calld, e_bi, e_bit, e_isin, e_comp, e_range, e_enum, es_nil, es_cons, and_nil, and_cons, or_nil, or_cons, kVal, kMv, kRs2, kRs1, kAsg, optS, kAsgT, kPar, kSet3, set2, kSet1, kApp, app2, pop2, kAug, aug2, kExpr, kIff, wC, fB, kFor, kRet, rh_var, rh_e, rv_val, rv_int, rv_tup, rv_bl, rv_str, rv_non, rv_ref, rv_fn, rv_exc, rv_ownL, rv_ownD, rr_nil, rr_cons, x_asg, x_asgT, x_par, x_setI, x_app, x_pop, x_aug, x_expr, x_frz, x_iff, x_whl, x_for, x_ret, x_retN, x_brk, x_pass, x_never, xs_nil, xs_cons, frE, cont, held, freeze, startS, List.map_cons, List.map_nil, List.replicate, List.cons_append, List.nil_append, List.append_nil, List.length_cons, List.length_nil, List.head?_cons, List.head?_nil, ↓reduceIte, Nat.reduceAdd, Nat.reduceSub, Nat.reduceEqDiff, reduceCtorEq, and_true, true_and, and_false, false_and, or_true, true_or, or_false, false_or, not_true_eq_false, not_false_eq_true, Bool.not_true, Bool.not_false, Bool.false_eq_true, Bool.true_eq_false, ne_eq, if_true, if_false, eq_self, deref, items, seqs, isOk, isinV, List.any_cons, List.any_nil, Bool.or_false, Bool.false_or, Bool.or_true, Bool.true_or, bitIn, bitV, optInt, implies_true, Option.map_some, Option.map_none, forall_const, PV.int.injEq, PV.bl.injEq, and_self, or_self, Int.reduceNeg, Int.reduceSub, Int.reduceAdd, Option.some.injEq, i_bl, i_and, i_or, Bool.and_true, Bool.true_and, Bool.and_false, Bool.false_and, Bool.not_not, nb_non, nb_int, nb_tup, nb_lst, nb_bl, nb_str, tb_non, tb_int, tb_bl, v_add, v_sub, a_add, a_sub, q_int, n_int, q_bl, n_bl, lt_int, gt_int, le_int, ge_int, q_tup, n_tup, q_tup0, n_tup0, q_0tup, q_00, n_0tup, n_00, q_l00, n_l00, q_lst, n_lst, q_lst0, n_lst0, in_tup, ni_tup, in_lst, ni_lst, ix_t, ix_l, ix_r, ix_e, atP_zero, atP_one, atP_two, atP_three, len_t, len_l, len_s, int_i, max2_i, min2_i, lt_tup, decide_true, decide_false, Int.reduceLE, Int.reduceLT, Int.reduceToNat, List.getElem?_cons_zero, List.getElem?_cons_succ, List.set_cons_zero, List.set_cons_succ, List.length_map, it_lst, it_tup]
                    by_cases c : (x - s) % n ∈ b <;> simp only [c, bind_ok, liftS_ok, op1_some, andThen_nx, andThen_rt, andThen_bk, fin_rt, fin_nx, asB_bl, getS_zero, getS_succ, getS_nil, setS_zero, setS_succ, clr_zero, clr_succ, rd_true, rd_val, rd_int, rd_tup, rd_bl, rd_str, rd_non, rd_ref, rd_fn, rd_exc, bindT_nm, bindT_tp, setAll_nil, setAll_cons, putAllS_nil, putAllS_cons, kTup, kLst, kBox, kBin2, kBin1, kNeg, kBl, kNot, kCmp2, kCmp1, kCh4, kCh3, kCh2, kCh1, kIsN, kNotN, kIsT, kNotT, kIfe, kIdx2, kIdx1, kOpt, kSl3, kSl2, kSl1, kRev, kCall, kCd2, kCd1, kBi, kBit2, kBit1, kIsin, kItems, kElt2, kElt1, cF, kComp, kEs2, kEs1, kAnd, kOr, kRng2, kRng1, kEn2, kEn1, e_var, e_k, e_glob, e_fnv, e_tup, e_lst, e_box, e_bin, e_neg, e_and, e_or, e_not, e_cmp, e_chain, e_isN, e_notN, e_isT, e_notT, e_ife, e_idx, e_slice, e_rev, e_call, e_calld, e_bi, e_bit, e_isin, e_comp, e_range, e_enum, es_nil, es_cons, and_nil, and_cons, or_nil, or_cons, kVal, kMv, kRs2, kRs1, kAsg, optS, kAsgT, kPar, kSet3, set2, kSet1, kApp, app2, pop2, kAug, aug2, kExpr, kIff, wC, fB, kFor, kRet, rh_var, rh_e, rv_val, rv_int, rv_tup, rv_bl, rv_str, rv_non, rv_ref, rv_fn, rv_exc, rv_ownL, rv_ownD, rr_nil, rr_cons, x_asg, x_asgT, x_par, x_setI, x_app, x_pop, x_aug, x_expr, x_frz, x_iff, x_whl, x_for, x_ret, x_retN, x_brk, x_pass, x_never, xs_nil, xs_cons, frE, cont, held, freeze, startS, List.map_cons, List.map_nil, List.replicate, List.cons_append, List.nil_append, List.append_nil, List.length_cons, List.length_nil, List.head?_cons, List.head?_nil, ↓reduceIte, Nat.reduceAdd, Nat.reduceSub, Nat.reduceEqDiff, reduceCtorEq, and_true, true_and, and_false, false_and, or_true, true_or, or_false, false_or, not_true_eq_false, not_false_eq_true, Bool.not_true, Bool.not_false, Bool.false_eq_true, Bool.true_eq_false, ne_eq, if_true, if_false, eq_self, deref, items, seqs, isOk, isinV, List.any_cons, List.any_nil, Bool.or_false, Bool.false_or, Bool.or_true, Bool.true_or, bitIn, bitV, optInt, implies_true, Option.map_some, Option.map_none, forall_const, PV.int.injEq, PV.bl.injEq, and_self, or_self, Int.reduceNeg, Int.reduceSub, Int.reduceAdd, Option.some.injEq, i_bl, i_and, i_or, Bool.and_true, Bool.true_and, Bool.and_false, Bool.false_and, Bool.not_not, nb_non, nb_int, nb_tup, nb_lst, nb_bl, nb_str, tb_non, tb_int, tb_bl, v_add, v_sub, a_add, a_sub, q_int, n_int, q_bl, n_bl, lt_int, gt_int, le_int, ge_int, q_tup, n_tup, q_tup0, n_tup0, q_0tup, q_00, n_0tup, n_00, q_l00, n_l00, q_lst, n_lst, q_lst0, n_lst0, in_tup, ni_tup, in_lst, ni_lst, ix_t, ix_l, ix_r, ix_e, atP_zero, atP_one, atP_two, atP_three, len_t, len_l, len_s, int_i, max2_i, min2_i, lt_tup, decide_true, decide_false, Int.reduceLE, Int.reduceLT, Int.reduceToNat, List.getElem?_cons_zero, List.getElem?_cons_succ, List.set_cons_zero, List.set_cons_succ, List.length_map, it_lst, it_tup])]
                  simp only [bind_ok, liftS_ok, op1_some, andThen_nx, andThen_rt, andThen_bk, fin_rt, fin_nx, asB_bl, getS_zero, getS_succ, getS_nil, setS_zero, setS_succ, clr_zero, clr_succ, rd_true, rd_val, rd_int, rd_tup, rd_bl, rd_str, rd_non, rd_ref, rd_fn, rd_exc, bindT_nm, bindT_tp, setAll_nil, setAll_cons, putAllS_nil, putAllS_cons, kTup, kLst, kBox, kBin2, kBin1, kNeg, kBl, kNot, kCmp2, kCmp1, kCh4, kCh3, kCh2, kCh1, kIsN, kNotN, kIsT, kNotT, kIfe, kIdx2, kIdx1, kOpt, kSl3, kSl2, kSl1, kRev, kCall, kCd2, kCd1, kBi, kBit2, kBit1, kIsin, kItems, kElt2, kElt1, cF, kComp, kEs2, kEs1, kAnd, kOr, kRng2, kRng1, kEn2, kEn1, e_var, e_k, e_glob, e_fnv, e_tup, e_lst, e_box, e_bin, e_neg, e_and, e_or, e_not, e_cmp, e_chain, e_isN, e_notN, e_isT, e_notT, e_ife, e_idx, e_slice, e_rev, e_call, e_calld, e_bi, e_bit, e_isin, e_comp, e_range, e_enum, es_nil, es_cons, and_nil, and_cons, or_nil, or_cons, kVal, kMv, kRs2, kRs1, kAsg, optS, kAsgT, kPar, kSet3, set2, kSet1, kApp, app2, pop2, kAug, aug2, kExpr, kIff, wC, fB, kFor, kRet, rh_var, rh_e, rv_val, rv_int, rv_tup, rv_bl, rv_str, rv_non, rv_ref, rv_fn, rv_exc, rv_ownL, rv_ownD, rr_nil, rr_cons, x_asg, x_asgT, x_par, x_setI, x_app, x_pop, x_aug, x_expr, x_frz, x_iff, x_whl, x_for, x_ret, x_retN, x_brk, x_pass, x_never, xs_nil, xs_cons, frE, cont, held, freeze, startS, List.map_cons, List.map_nil, List.replicate, List.cons_append, List.nil_append, List.append_nil, List.length_cons, List.length_nil, List.head?_cons, List.head?_nil, ↓reduceIte, Nat.reduceAdd, Nat.reduceSub, Nat.reduceEqDiff, reduceCtorEq, and_true, true_and, and_false, false_and, or_true, true_or, or_false, false_or, not_true_eq_false, not_false_eq_true, Bool.not_true, Bool.not_false, Bool.false_eq_true, Bool.true_eq_false, ne_eq, if_true, if_false, eq_self, deref, items, seqs, isOk, isinV, List.any_cons, List.any_nil, Bool.or_false, Bool.false_or, Bool.or_true, Bool.true_or, bitIn, bitV, optInt, implies_true, Option.map_some, Option.map_none, forall_const, PV.int.injEq, PV.bl.injEq, and_self, or_self, Int.reduceNeg, Int.reduceSub, Int.reduceAdd, Option.some.injEq, i_bl, i_and, i_or, Bool.and_true, Bool.true_and, Bool.and_false, Bool.false_and, Bool.not_not, nb_non, nb_int, nb_tup, nb_lst, nb_bl, nb_str, tb_non, tb_int, tb_bl, v_add, v_sub, a_add, a_sub, q_int, n_int, q_bl, n_bl, lt_int, gt_int, le_int, ge_int, q_tup, n_tup, q_tup0, n_tup0, q_0tup, q_00, n_0tup, n_00, q_l00, n_l00, q_lst, n_lst, q_lst0, n_lst0, in_tup, ni_tup, in_lst, ni_lst, ix_t, ix_l, ix_r, ix_e, atP_zero, atP_one, atP_two, atP_three, len_t, len_l, len_s, int_i, max2_i, min2_i, lt_tup, decide_true, decide_false, Int.reduceLE, Int.reduceLT, Int.reduceToNat, List.getElem?_cons_zero, List.getElem?_cons_succ, List.set_cons_zero, List.set_cons_succ, List.length_map, it_lst, it_tup, n_lstE _ S' (datL_map fun _ _ => dat_int _ _)]
                  split
                  · exact hnx _ _ ⟨rfl, _, _, _, _, _, _, _, _, _, rfl⟩
                  · exact hnx _ _ ⟨rfl, _, _, _, _, _, _, _, _, _, rfl⟩
            · rintro σ S' ⟨rfl, c, t4, t5, t6, t7, t8, t9, t10, t11, rfl⟩
              simp only [bind_ok, liftS_ok, op1_some, andThen_nx, andThen_rt, andThen_bk, fin_rt, fin_nx, asB_bl, getS_zero, getS_succ, getS_nil, setS_zero, setS_succ, clr_zero, clr_succ, rd_true, rd_val, rd_int, rd_tup, rd_bl, rd_str, rd_non, rd_ref, rd_fn, rd_exc, bindT_nm, bindT_tp, setAll_nil, setAll_cons, putAllS_nil, putAllS_cons, kTup, kLst, kBox, kBin2, kBin1, kNeg, kBl, kNot, kCmp2, kCmp1, kCh4, kCh3, kCh2, kCh1, kIsN, kNotN, kIsT, kNotT, kIfe, kIdx2, kIdx1, kOpt, kSl3, kSl2, kSl1, kRev, kCall, kCd2, kCd1, kBi, kBit2, kBit1, kIsin, kItems, kElt2, kElt1, cF, kComp, kEs2, kEs1, kAnd, kOr, kRng2, kRng1, kEn2, kEn1, e_var, e_k, e_glob, e_fnv, e_tup, e_lst, e_box, e_bin, e_neg, e_and, e_or, e_not, e_cmp, e_chain, e_isN, e_notN, e_isT, e_notT, e_ife, e_idx, e_slice, e_rev, e_call, e_calld, e_bi, e_bit, e_isin, e_comp, e_range, e_enum, es_nil, es_cons, and_nil, and_cons, or_nil, or_cons, kVal, kMv, kRs2, kRs1, kAsg, optS, kAsgT, kPar, kSet3, set2, kSet1, kApp, app2, pop2, kAug, aug2, kExpr, kIff, wC, fB, kFor, kRet, rh_var, rh_e, rv_val, rv_int, rv_tup, rv_bl, rv_str, rv_non, rv_ref, rv_fn, rv_exc, rv_ownL, rv_ownD, rr_nil, rr_cons, x_asg, x_asgT, x_par, x_setI, x_app, x_pop, x_aug, x_expr, x_frz, x_iff, x_whl, x_for, x_ret, x_retN, x_brk, x_pass, x_never, xs_nil, xs_cons, frE, cont, held, freeze, startS, List.map_cons, List.map_nil, List.replicate, List.cons_append, List.nil_append, List.append_nil, List.length_cons, List.length_nil, List.head?_cons, List.head?_nil, ↓reduceIte, Nat.reduceAdd, Nat.reduceSub, Nat.reduceEqDiff, reduceCtorEq, and_true, true_and, and_false, false_and, or_true, true_or, or_false, false_or, not_true_eq_false, not_false_eq_true, Bool.not_true, Bool.not_false, Bool.false_eq_true, Bool.true_eq_false, ne_eq, if_true, if_false, eq_self, deref, items, seqs, isOk, isinV, List.any_cons, List.any_nil, Bool.or_false, Bool.false_or, Bool.or_true, Bool.true_or, bitIn, bitV, optInt, implies_true, Option.map_some, Option.map_none, forall_const, PV.int.injEq, PV.bl.injEq, and_self, or_self, Int.reduceNeg, Int.reduceSub, Int.reduceAdd, Option.some.injEq, i_bl, i_and, i_or, Bool.and_true, Bool.true_and, Bool.and_false, Bool.false_and, Bool.not_not, nb_non, nb_int, nb_tup, nb_lst, nb_bl, nb_str, tb_non, tb_int, tb_bl, v_add, v_sub, a_add, a_sub, q_int, n_int, q_bl, n_bl, lt_int, gt_int, le_int, ge_int, q_tup, n_tup, q_tup0, n_tup0, q_0tup, q_00, n_0tup, n_00, q_l00, n_l00, q_lst, n_lst, q_lst0, n_lst0, in_tup, ni_tup, in_lst, ni_lst, ix_t, ix_l, ix_r, ix_e, atP_zero, atP_one, atP_two, atP_three, len_t, len_l, len_s, int_i, max2_i, min2_i, lt_tup, decide_true, decide_false, Int.reduceLE, Int.reduceLT, Int.reduceToNat, List.getElem?_cons_zero, List.getElem?_cons_succ, List.set_cons_zero, List.set_cons_succ, List.length_map, it_lst, it_tup]
              refine ⟨_, _, rfl, rfl, ?_⟩
              simp [isNonB, rowComes, ha, hb]; omega
  obtain ⟨v, S', e, rfl, z⟩ := main
  exact ⟨v, e, z⟩
end L
end G
end

section
set_option autoImplicit false
/-! R24e: the law of numbers of rows. -/
namespace G
namespace L
theorem Vd_iff {n m : Int} : ∀ (t : List Int) (ok : Bool) (p : Int), Vd n m ok p t ↔ (t.Pairwise (· < ·) ∧ (∀ x ∈ t, p ≤ x ∧ x < n)) ∧ (if t = [] then ok = true else m ≤ la t)
  | [], ok, p => by simp [Vd]
  | x :: xs, ok, p => by
    have ih := Vd_iff (n := n) (m := m) xs (decide (m ≤ x)) (x + 1)
    simp only [Vd, ih]
    constructor
    · rintro ⟨h1, h2, ⟨h3, h4⟩, h5⟩
      refine ⟨⟨List.pairwise_cons.mpr ⟨fun y hy => by have := h4 y hy; omega, h3⟩, fun y hy => ?_⟩, ?_⟩
      · rcases List.mem_cons.mp hy with rfl | hy
        · exact ⟨h1, h2⟩
        · have := h4 y hy; omega
      · cases xs with
        | nil => simpa [la] using h5
        | cons y ys => simpa [la] using h5
    · rintro ⟨⟨h1, h2⟩, h3⟩
      obtain ⟨h4, h5⟩ := List.pairwise_cons.mp h1
      have hx := h2 x (by simp)
      refine ⟨hx.1, hx.2, ⟨h5, fun y hy => ?_⟩, ?_⟩
      · have := h4 y hy; have := h2 y (by simp [hy]); omega
      · cases xs with
        | nil => simpa [la] using h3
        | cons y ys => simpa [la] using h3
theorem hd_le {n : Int} {t : List Int} (h : Stand n t) (h0 : t ≠ []) : ∀ x ∈ t, hd t ≤ x := by
  cases t with
  | nil => exact absurd rfl h0
  | cons y ys =>
    intro x hx
    rcases List.mem_cons.mp hx with rfl | hx
    · simp [hd]
    · have := List.rel_of_pairwise_cons h.1 hx
      simp only [hd, List.headD_cons]; omega
theorem at_facts {n i : Int} {b t : List Int} (h : Stand n b) (ha : IsAt n b i t) (hi : 0 ≤ i) (hi2 : i < countS n b) : Stand n t ∧ rowComes b t = true ∧ numS n b t = .int i := by
  by_cases h0 : b = []
  · subst h0
    simp only [IsAt, if_true] at ha
    subst ha
    simp only [countS, if_true] at hi2
    exact ⟨h, rfl, by simp [numS, rowComes]; omega⟩
  · simp only [IsAt, h0, if_false] at ha
    obtain ⟨v, r⟩ := ha
    obtain ⟨g1, g2, g3⟩ := hd_la h h0
    obtain ⟨⟨v1, v2⟩, v3⟩ := (Vd_iff t false (hd b)).mp v
    have ht : t ≠ [] := fun z => by simp [z] at v3
    rw [if_neg ht] at v3
    have hc : rowComes b t = true := by
      have := v2 _ (hd_mem ht)
      simp [rowComes, h0, ht]; omega
    exact ⟨⟨v1, fun x hx => by have := v2 x hx; omega⟩, hc, by simp [numS, hc, h0, r]⟩
theorem at_number {n : Int} {b t : List Int} (h : Stand n b) (ht : Stand n t) (hc : rowComes b t = true) : ∃ i, numS n b t = .int i ∧ 0 ≤ i ∧ i < countS n b ∧ IsAt n b i t := by
  by_cases h0 : b = []
  · subst h0
    have : t = [] := by simpa [rowComes, eq_comm] using hc
    subst this
    exact ⟨0, by simp [numS, rowComes], by decide, by simp [countS], by simp [IsAt]⟩
  · obtain ⟨g1, g2, g3⟩ := hd_la h h0
    have ht0 : t ≠ [] := fun z => by simp [rowComes, h0, z] at hc
    simp [rowComes, h0, ht0] at hc
    have v : Vd n (la b) false (hd b) t := (Vd_iff t false (hd b)).mpr ⟨⟨ht.1, fun x hx => ⟨by have := hd_le ht ht0 x hx; omega, (ht.2 x hx).2⟩⟩, by rw [if_neg ht0]; exact hc.2⟩
    have bd := Rk_bound g3 t _ _ v
    rw [W_countS h h0] at bd
    refine ⟨Rk n (la b) false (hd b) t, ?_, bd.1, bd.2, by simp [IsAt, h0, v]⟩
    have hc' : rowComes b t = true := by simp [rowComes, h0, ht0, hc]
    simp [numS, hc', h0]
theorem at_uniq {n i : Int} {b s t : List Int} (h : Stand n b) (h1 : IsAt n b i s) (h2 : IsAt n b i t) : s = t := by
  by_cases h0 : b = []
  · simp only [IsAt, h0, if_true] at h1 h2; rw [h1, h2]
  · simp only [IsAt, h0, if_false] at h1 h2
    obtain ⟨g1, g2, g3⟩ := hd_la h h0
    exact Rk_inj g3 h1.1 h2.1 (by rw [h1.2, h2.2])
theorem at_lt {n i j : Int} {b s t : List Int} (h : Stand n b) (h1 : IsAt n b i s) (h2 : IsAt n b j t) (hi : 0 ≤ i ∧ i < countS n b) (hj : 0 ≤ j ∧ j < countS n b) : lexLt s t = decide (i < j) := by
  by_cases h0 : b = []
  · subst h0
    simp only [IsAt, if_true] at h1 h2
    simp only [countS, if_true] at hi hj
    rw [h1, h2, decide_eq_false (by omega)]; rfl
  · simp only [IsAt, h0, if_false] at h1 h2
    obtain ⟨g1, g2, g3⟩ := hd_la h h0
    rw [lex_of_Rk g3 h1.1 h2.1, h1.2, h2.2]
theorem count_pos {n : Int} {b : List Int} (h : Stand n b) (h2 : n ≤ 40) : 0 < countS n b ∧ countS n b < 2 ^ 64 := by
  by_cases h0 : b = []
  · simp [countS, h0]
  · obtain ⟨g1, g2, g3⟩ := hd_la h h0
    simp only [countS, h0, if_false]
    have m1 : (la b - hd b).toNat + 1 ≤ (n - hd b).toNat := by omega
    have m2 := two_pow_mono m1
    rw [Int.pow_succ] at m2
    have p1 := two_pow_pos (la b - hd b).toNat
    have m3 := two_pow_mono (show (n - hd b).toNat ≤ 63 by omega)
    have e63 : (2 : Int) ^ 63 = 9223372036854775808 := by decide
    have e64 : (2 : Int) ^ 64 = 18446744073709551616 := by decide
    omega
theorem law24 (k : Nat) (ns : List Int) : ∃ S', fin (sSs ⟨cl T gv (k+10), gv⟩ d_law___________________.body (startS d_law___________________ [.exc 1000 (ns.map .int)]) []) = .ok (.bl true) S' := by
  show Sat _ (fun r => ∃ S', fin r = .ok (.bl true) S')
  obtain ⟨v0, S1, e1, i0, rfl, hi0, hi0', hS1⟩ := m_taken (k+9) 40 (by decide) (by decide) [.lst [.exc 1000 (ns.map .int), .int 0, .int 9124, .int 0]] ⟨ns, 0, 9124, 0, by decide, rfl⟩
  have hn1 : 1 ≤ 1 + i0 := by omega
  have hn2 : 1 + i0 ≤ 40 := by omega
  obtain ⟨v1, S2, e2, b, rfl, hb, hS2⟩ := m_law_row_burning (k+7) (1 + i0) S1 hS1 (by omega) (by omega)
  have e3 := m_row_come_count (k+7) (1 + i0) b S2 hb hn1 hn2
  obtain ⟨c1, c2⟩ := count_pos hb hn2
  obtain ⟨v2, S3, e4, o1, rfl, ho1, ho1', hS3⟩ := m_taken (k+9) (countS (1 + i0) b) c1 c2 S2 hS2
  obtain ⟨v3, S4, e5, o2, rfl, ho2, ho2', hS4⟩ := m_taken (k+9) (countS (1 + i0) b) c1 c2 S3 hS3
  generalize hn : 1 + i0 = n at *
  generalize hlo : (if o2 < o1 then o2 else o1) = lo at *
  generalize hhi : (if o2 > o1 then o2 else o1) = hi at *
  have l1 : 0 ≤ lo ∧ lo < countS n b := by subst hlo; split <;> omega
  have l2 : 0 ≤ hi ∧ hi < countS n b := by subst hhi; split <;> omega
  have l3 : (lo < hi) ↔ o1 ≠ o2 := by subst hlo hhi; split <;> split <;> omega
  obtain ⟨t1, e6, a1⟩ := m_row_come_at (k+6) n b lo S4 hb hn1 hn2 l1.1 l1.2
  obtain ⟨t2, e7, a2⟩ := m_row_come_at (k+6) n b hi S4 hb hn1 hn2 l2.1 l2.2
  obtain ⟨st1, rc1, nu1⟩ := at_facts hb a1 l1.1 l1.2
  obtain ⟨st2, rc2, nu2⟩ := at_facts hb a2 l2.1 l2.2
  have e8 := m_row_come_number (k+6) n b t1 S4 hb st1 hn1 hn2
  have e9 := m_row_come_number (k+6) n b t2 S4 hb st2 hn1 hn2
  rw [nu1] at e8
  rw [nu2] at e9
  obtain ⟨w1, e10, z1⟩ := m_law_row_cost (k+9) n b t1 S4 hn1 hn2
  obtain ⟨w2, e11, z2⟩ := m_law_row_cost (k+9) n b t2 S4 hn1 hn2
  rw [rc1] at z1
  rw [rc2] at z2
  have hlt : lexLt t1 t2 = decide (lo < hi) := at_lt hb a1 a2 l1 l2
  have hb3 : decide (decide (lo < hi) = decide (o1 ≠ o2)) = true := by
    by_cases c : o1 = o2 <;> simp [c] at l3 ⊢ <;> omega
  obtain ⟨v4, S5, e13, dr, rfl, hdr, hS5⟩ := m_law_row_burning (k+7) n S4 hS4 (by omega) (by omega)
  have e14 := m_row_come_number (k+6) n b dr S5 hb hdr hn1 hn2
  obtain ⟨w3, e15, z3⟩ := m_law_row_cost (k+9) n b dr S5 hn1 hn2
  have hc0 : decide (decide (lo < hi) ≠ decide (o1 ≠ o2)) = false := by
    by_cases c : o1 = o2 <;> simp [c] at l3 ⊢ <;> omega
  have hlt2 : ∀ t3, IsAt n b (lo + 1) t3 → lo + 1 < countS n b → lexLt t1 t3 = true := fun t3 h3 h4 => by
    rw [at_lt hb a1 h3 l1 ⟨by omega, h4⟩]; exact decide_eq_true (by omega)
  simp only [d_law___________________, bind_ok, liftS_ok, op1_some, andThen_nx, andThen_rt, andThen_bk, fin_rt, fin_nx, asB_bl, getS_zero, getS_succ, getS_nil, setS_zero, setS_succ, clr_zero, clr_succ, rd_true, rd_val, rd_int, rd_tup, rd_bl, rd_str, rd_non, rd_ref, rd_fn, rd_exc, bindT_nm, bindT_tp, setAll_nil, setAll_cons, putAllS_nil, putAllS_cons, kTup, kLst, kBox, kBin2, kBin1, kNeg, kBl, kNot, kCmp2, kCmp1, kCh4, kCh3, kCh2, kCh1, kIsN, kNotN, kIsT, kNotT, kIfe, kIdx2, kIdx1, kOpt, kSl3, kSl2, kSl1, kRev, kCall, kCd2, kCd1, kBi, kBit2, kBit1, kIsin, kItems, kElt2, kElt1, cF, kComp, kEs2, kEs1, kAnd, kOr, kRng2, kRng1, kEn2, kEn1, e_var, e_k, e_glob, e_fnv, e_tup, e_lst, e_box, e_bin, e_neg, e_and, e_or, e_not, e_cmp, e_chain, e_isN, e_notN, e_isT, e_notT, e_ife, e_idx, e_slice, e_rev, e_call, e_calld, e_bi, e_bit, e_isin, e_comp, e_range, e_enum, es_nil, es_cons, and_nil, and_cons, or_nil, or_cons, kVal, kMv, kRs2, kRs1, kAsg, optS, kAsgT, kPar, kSet3, set2, kSet1, kApp, app2, pop2, kAug, aug2, kExpr, kIff, wC, fB, kFor, kRet, rh_var, rh_e, rv_val, rv_int, rv_tup, rv_bl, rv_str, rv_non, rv_ref, rv_fn, rv_exc, rv_ownL, rv_ownD, rr_nil, rr_cons, x_asg, x_asgT, x_par, x_setI, x_app, x_pop, x_aug, x_expr, x_frz, x_iff, x_whl, x_for, x_ret, x_retN, x_brk, x_pass, x_never, xs_nil, xs_cons, frE, cont, held, freeze, startS, List.map_cons, List.map_nil, List.replicate, List.cons_append, List.nil_append, List.append_nil, List.length_cons, List.length_nil, List.head?_cons, List.head?_nil, ↓reduceIte, Nat.reduceAdd, Nat.reduceSub, Nat.reduceEqDiff, reduceCtorEq, and_true, true_and, and_false, false_and, or_true, true_or, or_false, false_or, not_true_eq_false, not_false_eq_true, Bool.not_true, Bool.not_false, Bool.false_eq_true, Bool.true_eq_false, ne_eq, if_true, if_false, eq_self, deref, items, seqs, isOk, isinV, List.any_cons, List.any_nil, Bool.or_false, Bool.false_or, Bool.or_true, Bool.true_or, bitIn, bitV, optInt, implies_true, Option.map_some, Option.map_none, forall_const, PV.int.injEq, PV.bl.injEq, and_self, or_self, Int.reduceNeg, Int.reduceSub, Int.reduceAdd, Option.some.injEq, i_bl, i_and, i_or, Bool.and_true, Bool.true_and, Bool.and_false, Bool.false_and, Bool.not_not, nb_non, nb_int, nb_tup, nb_lst, nb_bl, nb_str, tb_non, tb_int, tb_bl, v_add, v_sub, a_add, a_sub, q_int, n_int, q_bl, n_bl, lt_int, gt_int, le_int, ge_int, q_tup, n_tup, q_tup0, n_tup0, q_0tup, q_00, n_0tup, n_00, q_l00, n_l00, q_lst, n_lst, q_lst0, n_lst0, in_tup, ni_tup, in_lst, ni_lst, ix_t, ix_l, ix_r, ix_e, atP_zero, atP_one, atP_two, atP_three, len_t, len_l, len_s, int_i, max2_i, min2_i, lt_tup, decide_true, decide_false, Int.reduceLE, Int.reduceLT, Int.reduceToNat, List.getElem?_cons_zero, List.getElem?_cons_succ, List.set_cons_zero, List.set_cons_succ, List.length_map, it_lst, it_tup, e1, hn, e2, e3, e4, e5, hlo, hhi, e6, e7, e8, e9, hlt]
  rw [show decide (decide (lo < hi) ≠ decide (o1 ≠ o2)) = decide ¬(decide (lo < hi) = decide ¬(o1 = o2)) from rfl] at hc0
  simp only [hc0, bind_ok, liftS_ok, op1_some, andThen_nx, andThen_rt, andThen_bk, fin_rt, fin_nx, asB_bl, getS_zero, getS_succ, getS_nil, setS_zero, setS_succ, clr_zero, clr_succ, rd_true, rd_val, rd_int, rd_tup, rd_bl, rd_str, rd_non, rd_ref, rd_fn, rd_exc, bindT_nm, bindT_tp, setAll_nil, setAll_cons, putAllS_nil, putAllS_cons, kTup, kLst, kBox, kBin2, kBin1, kNeg, kBl, kNot, kCmp2, kCmp1, kCh4, kCh3, kCh2, kCh1, kIsN, kNotN, kIsT, kNotT, kIfe, kIdx2, kIdx1, kOpt, kSl3, kSl2, kSl1, kRev, kCall, kCd2, kCd1, kBi, kBit2, kBit1, kIsin, kItems, kElt2, kElt1, cF, kComp, kEs2, kEs1, kAnd, kOr, kRng2, kRng1, kEn2, kEn1, e_var, e_k, e_glob, e_fnv, e_tup, e_lst, e_box, e_bin, e_neg, e_and, e_or, e_not, e_cmp, e_chain, e_isN, e_notN, e_isT, e_notT, e_ife, e_idx, e_slice, e_rev, e_call, e_calld, e_bi, e_bit, e_isin, e_comp, e_range, e_enum, es_nil, es_cons, and_nil, and_cons, or_nil, or_cons, kVal, kMv, kRs2, kRs1, kAsg, optS, kAsgT, kPar, kSet3, set2, kSet1, kApp, app2, pop2, kAug, aug2, kExpr, kIff, wC, fB, kFor, kRet, rh_var, rh_e, rv_val, rv_int, rv_tup, rv_bl, rv_str, rv_non, rv_ref, rv_fn, rv_exc, rv_ownL, rv_ownD, rr_nil, rr_cons, x_asg, x_asgT, x_par, x_setI, x_app, x_pop, x_aug, x_expr, x_frz, x_iff, x_whl, x_for, x_ret, x_retN, x_brk, x_pass, x_never, xs_nil, xs_cons, frE, cont, held, freeze, startS, List.map_cons, List.map_nil, List.replicate, List.cons_append, List.nil_append, List.append_nil, List.length_cons, List.length_nil, List.head?_cons, List.head?_nil, ↓reduceIte, Nat.reduceAdd, Nat.reduceSub, Nat.reduceEqDiff, reduceCtorEq, and_true, true_and, and_false, false_and, or_true, true_or, or_false, false_or, not_true_eq_false, not_false_eq_true, Bool.not_true, Bool.not_false, Bool.false_eq_true, Bool.true_eq_false, ne_eq, if_true, if_false, eq_self, deref, items, seqs, isOk, isinV, List.any_cons, List.any_nil, Bool.or_false, Bool.false_or, Bool.or_true, Bool.true_or, bitIn, bitV, optInt, implies_true, Option.map_some, Option.map_none, forall_const, PV.int.injEq, PV.bl.injEq, and_self, or_self, Int.reduceNeg, Int.reduceSub, Int.reduceAdd, Option.some.injEq, i_bl, i_and, i_or, Bool.and_true, Bool.true_and, Bool.and_false, Bool.false_and, Bool.not_not, nb_non, nb_int, nb_tup, nb_lst, nb_bl, nb_str, tb_non, tb_int, tb_bl, v_add, v_sub, a_add, a_sub, q_int, n_int, q_bl, n_bl, lt_int, gt_int, le_int, ge_int, q_tup, n_tup, q_tup0, n_tup0, q_0tup, q_00, n_0tup, n_00, q_l00, n_l00, q_lst, n_lst, q_lst0, n_lst0, in_tup, ni_tup, in_lst, ni_lst, ix_t, ix_l, ix_r, ix_e, atP_zero, atP_one, atP_two, atP_three, len_t, len_l, len_s, int_i, max2_i, min2_i, lt_tup, decide_true, decide_false, Int.reduceLE, Int.reduceLT, Int.reduceToNat, List.getElem?_cons_zero, List.getElem?_cons_succ, List.set_cons_zero, List.set_cons_succ, List.length_map, it_lst, it_tup, e10, e11, z1, z2, kIsN, hlo]
  -- what follows
  have tail : Sat (sSs ⟨cl T gv (k+10), gv⟩ [.asg 9 (.call 145 [(.var 1), (.var 2)]), .asg 10 (.call 169 [(.var 2), (.var 3), (.var 9)]), .iff (.cmp .ne (.isN (.var 10)) (.isN (.call 146 [(.var 2), (.k (.bl false)), (.var 3), (.var 9)]))) [.ret (.k (.bl false))] [], .ret (.or_ [(.isN (.var 10)), (.and_ [(.chain .le .lt (.k (.int 0)) (.var 10) (.var 4)), (.cmp .eq (.call 168 [(.var 2), (.var 3), (.var 10)]) (.var 9))])])] [some (Tag.val, PV.exc 1000 (List.map PV.int ns)), some (Tag.val, PV.ref 0), some (Tag.own, PV.int n), some (Tag.val, PV.tup (List.map PV.int b)), some (Tag.val, PV.int (countS n b)), some (Tag.val, PV.int o1), some (Tag.val, PV.int o2), some (Tag.val, PV.tup (List.map PV.int t1)), some (Tag.val, PV.tup (List.map PV.int t2)), none, none] S4) (fun r => ∃ S', fin r = .ok (.bl true) S') := by
    cases hrc : rowComes b dr with
    | false =>
      have hnu : numS n b dr = .non := by simp [numS, hrc]
      rw [hnu] at e14
      rw [hrc] at z3
      simp only [bind_ok, liftS_ok, op1_some, andThen_nx, andThen_rt, andThen_bk, fin_rt, fin_nx, asB_bl, getS_zero, getS_succ, getS_nil, setS_zero, setS_succ, clr_zero, clr_succ, rd_true, rd_val, rd_int, rd_tup, rd_bl, rd_str, rd_non, rd_ref, rd_fn, rd_exc, bindT_nm, bindT_tp, setAll_nil, setAll_cons, putAllS_nil, putAllS_cons, kTup, kLst, kBox, kBin2, kBin1, kNeg, kBl, kNot, kCmp2, kCmp1, kCh4, kCh3, kCh2, kCh1, kIsN, kNotN, kIsT, kNotT, kIfe, kIdx2, kIdx1, kOpt, kSl3, kSl2, kSl1, kRev, kCall, kCd2, kCd1, kBi, kBit2, kBit1, kIsin, kItems, kElt2, kElt1, cF, kComp, kEs2, kEs1, kAnd, kOr, kRng2, kRng1, kEn2, kEn1, e_var, e_k, e_glob, e_fnv, e_tup, e_lst, e_box, e_bin, e_neg, e_and, e_or, e_not, e_cmp, e_chain, e_isN, e_notN, e_isT, e_notT, e_ife, e_idx, e_slice, e_rev, e_call, e_calld, e_bi, e_bit, e_isin, e_comp, e_range, e_enum, es_nil, es_cons, and_nil, and_cons, or_nil, or_cons, kVal, kMv, kRs2, kRs1, kAsg, optS, kAsgT, kPar, kSet3, set2, kSet1, kApp, app2, pop2, kAug, aug2, kExpr, kIff, wC, fB, kFor, kRet, rh_var, rh_e, rv_val, rv_int, rv_tup, rv_bl, rv_str, rv_non, rv_ref, rv_fn, rv_exc, rv_ownL, rv_ownD, rr_nil, rr_cons, x_asg, x_asgT, x_par, x_setI, x_app, x_pop, x_aug, x_expr, x_frz, x_iff, x_whl, x_for, x_ret, x_retN, x_brk, x_pass, x_never, xs_nil, xs_cons, frE, cont, held, freeze, startS, List.map_cons, List.map_nil, List.replicate, List.cons_append, List.nil_append, List.append_nil, List.length_cons, List.length_nil, List.head?_cons, List.head?_nil, ↓reduceIte, Nat.reduceAdd, Nat.reduceSub, Nat.reduceEqDiff, reduceCtorEq, and_true, true_and, and_false, false_and, or_true, true_or, or_false, false_or, not_true_eq_false, not_false_eq_true, Bool.not_true, Bool.not_false, Bool.false_eq_true, Bool.true_eq_false, ne_eq, if_true, if_false, eq_self, deref, items, seqs, isOk, isinV, List.any_cons, List.any_nil, Bool.or_false, Bool.false_or, Bool.or_true, Bool.true_or, bitIn, bitV, optInt, implies_true, Option.map_some, Option.map_none, forall_const, PV.int.injEq, PV.bl.injEq, and_self, or_self, Int.reduceNeg, Int.reduceSub, Int.reduceAdd, Option.some.injEq, i_bl, i_and, i_or, Bool.and_true, Bool.true_and, Bool.and_false, Bool.false_and, Bool.not_not, nb_non, nb_int, nb_tup, nb_lst, nb_bl, nb_str, tb_non, tb_int, tb_bl, v_add, v_sub, a_add, a_sub, q_int, n_int, q_bl, n_bl, lt_int, gt_int, le_int, ge_int, q_tup, n_tup, q_tup0, n_tup0, q_0tup, q_00, n_0tup, n_00, q_l00, n_l00, q_lst, n_lst, q_lst0, n_lst0, in_tup, ni_tup, in_lst, ni_lst, ix_t, ix_l, ix_r, ix_e, atP_zero, atP_one, atP_two, atP_three, len_t, len_l, len_s, int_i, max2_i, min2_i, lt_tup, decide_true, decide_false, Int.reduceLE, Int.reduceLT, Int.reduceToNat, List.getElem?_cons_zero, List.getElem?_cons_succ, List.set_cons_zero, List.set_cons_succ, List.length_map, it_lst, it_tup, e13, e14, e15, z3]
      exact ⟨_, rfl⟩
    | true =>
      obtain ⟨i, hnu, hi1, hi2, ha⟩ := at_number hb hdr hrc
      rw [hnu] at e14
      rw [hrc] at z3
      obtain ⟨t4, e16, a4⟩ := m_row_come_at (k+6) n b i S5 hb hn1 hn2 hi1 hi2
      have : t4 = dr := at_uniq hb a4 ha
      subst this
      simp only [bind_ok, liftS_ok, op1_some, andThen_nx, andThen_rt, andThen_bk, fin_rt, fin_nx, asB_bl, getS_zero, getS_succ, getS_nil, setS_zero, setS_succ, clr_zero, clr_succ, rd_true, rd_val, rd_int, rd_tup, rd_bl, rd_str, rd_non, rd_ref, rd_fn, rd_exc, bindT_nm, bindT_tp, setAll_nil, setAll_cons, putAllS_nil, putAllS_cons, kTup, kLst, kBox, kBin2, kBin1, kNeg, kBl, kNot, kCmp2, kCmp1, kCh4, kCh3, kCh2, kCh1, kIsN, kNotN, kIsT, kNotT, kIfe, kIdx2, kIdx1, kOpt, kSl3, kSl2, kSl1, kRev, kCall, kCd2, kCd1, kBi, kBit2, kBit1, kIsin, kItems, kElt2, kElt1, cF, kComp, kEs2, kEs1, kAnd, kOr, kRng2, kRng1, kEn2, kEn1, e_var, e_k, e_glob, e_fnv, e_tup, e_lst, e_box, e_bin, e_neg, e_and, e_or, e_not, e_cmp, e_chain, e_isN, e_notN, e_isT, e_notT, e_ife, e_idx, e_slice, e_rev, e_call, e_calld, e_bi, e_bit, e_isin, e_comp, e_range, e_enum, es_nil, es_cons, and_nil, and_cons, or_nil, or_cons, kVal, kMv, kRs2, kRs1, kAsg, optS, kAsgT, kPar, kSet3, set2, kSet1, kApp, app2, pop2, kAug, aug2, kExpr, kIff, wC, fB, kFor, kRet, rh_var, rh_e, rv_val, rv_int, rv_tup, rv_bl, rv_str, rv_non, rv_ref, rv_fn, rv_exc, rv_ownL, rv_ownD, rr_nil, rr_cons, x_asg, x_asgT, x_par, x_setI, x_app, x_pop, x_aug, x_expr, x_frz, x_iff, x_whl, x_for, x_ret, x_retN, x_brk, x_pass, x_never, xs_nil, xs_cons, frE, cont, held, freeze, startS, List.map_cons, List.map_nil, List.replicate, List.cons_append, List.nil_append, List.append_nil, List.length_cons, List.length_nil, List.head?_cons, List.head?_nil, ↓reduceIte, Nat.reduceAdd, Nat.reduceSub, Nat.reduceEqDiff, reduceCtorEq, and_true, true_and, and_false, false_and, or_true, true_or, or_false, false_or, not_true_eq_false, not_false_eq_true, Bool.not_true, Bool.not_false, Bool.false_eq_true, Bool.true_eq_false, ne_eq, if_true, if_false, eq_self, deref, items, seqs, isOk, isinV, List.any_cons, List.any_nil, Bool.or_false, Bool.false_or, Bool.or_true, Bool.true_or, bitIn, bitV, optInt, implies_true, Option.map_some, Option.map_none, forall_const, PV.int.injEq, PV.bl.injEq, and_self, or_self, Int.reduceNeg, Int.reduceSub, Int.reduceAdd, Option.some.injEq, i_bl, i_and, i_or, Bool.and_true, Bool.true_and, Bool.and_false, Bool.false_and, Bool.not_not, nb_non, nb_int, nb_tup, nb_lst, nb_bl, nb_str, tb_non, tb_int, tb_bl, v_add, v_sub, a_add, a_sub, q_int, n_int, q_bl, n_bl, lt_int, gt_int, le_int, ge_int, q_tup, n_tup, q_tup0, n_tup0, q_0tup, q_00, n_0tup, n_00, q_l00, n_l00, q_lst, n_lst, q_lst0, n_lst0, in_tup, ni_tup, in_lst, ni_lst, ix_t, ix_l, ix_r, ix_e, atP_zero, atP_one, atP_two, atP_three, len_t, len_l, len_s, int_i, max2_i, min2_i, lt_tup, decide_true, decide_false, Int.reduceLE, Int.reduceLT, Int.reduceToNat, List.getElem?_cons_zero, List.getElem?_cons_succ, List.set_cons_zero, List.set_cons_succ, List.length_map, it_lst, it_tup, e13, e14, e15, z3, hi1, hi2, e16]
      exact ⟨_, rfl⟩
  by_cases hg : lo + 1 < countS n b
  · obtain ⟨t3, e12, a3⟩ := m_row_come_at (k+6) n b (lo + 1) S4 hb hn1 hn2 (by omega) hg
    have hl3 := hlt2 t3 a3 hg
    simp only [hg, bind_ok, liftS_ok, op1_some, andThen_nx, andThen_rt, andThen_bk, fin_rt, fin_nx, asB_bl, getS_zero, getS_succ, getS_nil, setS_zero, setS_succ, clr_zero, clr_succ, rd_true, rd_val, rd_int, rd_tup, rd_bl, rd_str, rd_non, rd_ref, rd_fn, rd_exc, bindT_nm, bindT_tp, setAll_nil, setAll_cons, putAllS_nil, putAllS_cons, kTup, kLst, kBox, kBin2, kBin1, kNeg, kBl, kNot, kCmp2, kCmp1, kCh4, kCh3, kCh2, kCh1, kIsN, kNotN, kIsT, kNotT, kIfe, kIdx2, kIdx1, kOpt, kSl3, kSl2, kSl1, kRev, kCall, kCd2, kCd1, kBi, kBit2, kBit1, kIsin, kItems, kElt2, kElt1, cF, kComp, kEs2, kEs1, kAnd, kOr, kRng2, kRng1, kEn2, kEn1, e_var, e_k, e_glob, e_fnv, e_tup, e_lst, e_box, e_bin, e_neg, e_and, e_or, e_not, e_cmp, e_chain, e_isN, e_notN, e_isT, e_notT, e_ife, e_idx, e_slice, e_rev, e_call, e_calld, e_bi, e_bit, e_isin, e_comp, e_range, e_enum, es_nil, es_cons, and_nil, and_cons, or_nil, or_cons, kVal, kMv, kRs2, kRs1, kAsg, optS, kAsgT, kPar, kSet3, set2, kSet1, kApp, app2, pop2, kAug, aug2, kExpr, kIff, wC, fB, kFor, kRet, rh_var, rh_e, rv_val, rv_int, rv_tup, rv_bl, rv_str, rv_non, rv_ref, rv_fn, rv_exc, rv_ownL, rv_ownD, rr_nil, rr_cons, x_asg, x_asgT, x_par, x_setI, x_app, x_pop, x_aug, x_expr, x_frz, x_iff, x_whl, x_for, x_ret, x_retN, x_brk, x_pass, x_never, xs_nil, xs_cons, frE, cont, held, freeze, startS, List.map_cons, List.map_nil, List.replicate, List.cons_append, List.nil_append, List.append_nil, List.length_cons, List.length_nil, List.head?_cons, List.head?_nil, ↓reduceIte, Nat.reduceAdd, Nat.reduceSub, Nat.reduceEqDiff, reduceCtorEq, and_true, true_and, and_false, false_and, or_true, true_or, or_false, false_or, not_true_eq_false, not_false_eq_true, Bool.not_true, Bool.not_false, Bool.false_eq_true, Bool.true_eq_false, ne_eq, if_true, if_false, eq_self, deref, items, seqs, isOk, isinV, List.any_cons, List.any_nil, Bool.or_false, Bool.false_or, Bool.or_true, Bool.true_or, bitIn, bitV, optInt, implies_true, Option.map_some, Option.map_none, forall_const, PV.int.injEq, PV.bl.injEq, and_self, or_self, Int.reduceNeg, Int.reduceSub, Int.reduceAdd, Option.some.injEq, i_bl, i_and, i_or, Bool.and_true, Bool.true_and, Bool.and_false, Bool.false_and, Bool.not_not, nb_non, nb_int, nb_tup, nb_lst, nb_bl, nb_str, tb_non, tb_int, tb_bl, v_add, v_sub, a_add, a_sub, q_int, n_int, q_bl, n_bl, lt_int, gt_int, le_int, ge_int, q_tup, n_tup, q_tup0, n_tup0, q_0tup, q_00, n_0tup, n_00, q_l00, n_l00, q_lst, n_lst, q_lst0, n_lst0, in_tup, ni_tup, in_lst, ni_lst, ix_t, ix_l, ix_r, ix_e, atP_zero, atP_one, atP_two, atP_three, len_t, len_l, len_s, int_i, max2_i, min2_i, lt_tup, decide_true, decide_false, Int.reduceLE, Int.reduceLT, Int.reduceToNat, List.getElem?_cons_zero, List.getElem?_cons_succ, List.set_cons_zero, List.set_cons_succ, List.length_map, it_lst, it_tup, e12, hl3]
    exact tail
  · simp only [hg, bind_ok, liftS_ok, op1_some, andThen_nx, andThen_rt, andThen_bk, fin_rt, fin_nx, asB_bl, getS_zero, getS_succ, getS_nil, setS_zero, setS_succ, clr_zero, clr_succ, rd_true, rd_val, rd_int, rd_tup, rd_bl, rd_str, rd_non, rd_ref, rd_fn, rd_exc, bindT_nm, bindT_tp, setAll_nil, setAll_cons, putAllS_nil, putAllS_cons, kTup, kLst, kBox, kBin2, kBin1, kNeg, kBl, kNot, kCmp2, kCmp1, kCh4, kCh3, kCh2, kCh1, kIsN, kNotN, kIsT, kNotT, kIfe, kIdx2, kIdx1, kOpt, kSl3, kSl2, kSl1, kRev, kCall, kCd2, kCd1, kBi, kBit2, kBit1, kIsin, kItems, kElt2, kElt1, cF, kComp, kEs2, kEs1, kAnd, kOr, kRng2, kRng1, kEn2, kEn1, e_var, e_k, e_glob, e_fnv, e_tup, e_lst, e_box, e_bin, e_neg, e_and, e_or, e_not, e_cmp, e_chain, e_isN, e_notN, e_isT, e_notT, e_ife, e_idx, e_slice, e_rev, e_call, e_calld, e_bi, e_bit, e_isin, e_comp, e_range, e_enum, es_nil, es_cons, and_nil, and_cons, or_nil, or_cons, kVal, kMv, kRs2, kRs1, kAsg, optS, kAsgT, kPar, kSet3, set2, kSet1, kApp, app2, pop2, kAug, aug2, kExpr, kIff, wC, fB, kFor, kRet, rh_var, rh_e, rv_val, rv_int, rv_tup, rv_bl, rv_str, rv_non, rv_ref, rv_fn, rv_exc, rv_ownL, rv_ownD, rr_nil, rr_cons, x_asg, x_asgT, x_par, x_setI, x_app, x_pop, x_aug, x_expr, x_frz, x_iff, x_whl, x_for, x_ret, x_retN, x_brk, x_pass, x_never, xs_nil, xs_cons, frE, cont, held, freeze, startS, List.map_cons, List.map_nil, List.replicate, List.cons_append, List.nil_append, List.append_nil, List.length_cons, List.length_nil, List.head?_cons, List.head?_nil, ↓reduceIte, Nat.reduceAdd, Nat.reduceSub, Nat.reduceEqDiff, reduceCtorEq, and_true, true_and, and_false, false_and, or_true, true_or, or_false, false_or, not_true_eq_false, not_false_eq_true, Bool.not_true, Bool.not_false, Bool.false_eq_true, Bool.true_eq_false, ne_eq, if_true, if_false, eq_self, deref, items, seqs, isOk, isinV, List.any_cons, List.any_nil, Bool.or_false, Bool.false_or, Bool.or_true, Bool.true_or, bitIn, bitV, optInt, implies_true, Option.map_some, Option.map_none, forall_const, PV.int.injEq, PV.bl.injEq, and_self, or_self, Int.reduceNeg, Int.reduceSub, Int.reduceAdd, Option.some.injEq, i_bl, i_and, i_or, Bool.and_true, Bool.true_and, Bool.and_false, Bool.false_and, Bool.not_not, nb_non, nb_int, nb_tup, nb_lst, nb_bl, nb_str, tb_non, tb_int, tb_bl, v_add, v_sub, a_add, a_sub, q_int, n_int, q_bl, n_bl, lt_int, gt_int, le_int, ge_int, q_tup, n_tup, q_tup0, n_tup0, q_0tup, q_00, n_0tup, n_00, q_l00, n_l00, q_lst, n_lst, q_lst0, n_lst0, in_tup, ni_tup, in_lst, ni_lst, ix_t, ix_l, ix_r, ix_e, atP_zero, atP_one, atP_two, atP_three, len_t, len_l, len_s, int_i, max2_i, min2_i, lt_tup, decide_true, decide_false, Int.reduceLE, Int.reduceLT, Int.reduceToNat, List.getElem?_cons_zero, List.getElem?_cons_succ, List.set_cons_zero, List.set_cons_succ, List.length_map, it_lst, it_tup]
    exact tail
end L
end G
end

section
namespace G
namespace L
open PySem PySem.Spec PyProof.Rows L2
def top (i : Nat) : Stmt := PySem.Challenge.pw_passlights_k24_whole_long_numbers_of_row.main.body.getD i (.Pass ⟨0, 0, 0, 0⟩)
def md : Md := ⟨[(Str.ofString "is_in", 1, 3), (Str.ofString "power", 56, 1), (Str.ofString "need_many", 135, 2), (Str.ofString "need_burning", 136, 2), (Str.ofString "row_comes", 137, 2), (Str.ofString "begun", 166, 3), (Str.ofString "at_in", 167, 3), (Str.ofString "row_come_at", 168, 3), (Str.ofString "row_come_number", 169, 3), (Str.ofString "row_come_count", 156, 2), (Str.ofString "_law_taken", 11, 2), (Str.ofString "_law_pick", 12, 2), (Str.ofString "_law_row_burning", 145, 2), (Str.ofString "_law_row_cost", 146, 4)], [(Str.ofString "MOST_ROW", 5)], [Str.ofString "len", Str.ofString "abs", Str.ofString "int", Str.ofString "str", Str.ofString "bool", Str.ofString "max", Str.ofString "min", Str.ofString "range", Str.ofString "enumerate", Str.ofString "isinstance", Str.ofString "tuple", Str.ofString "list", Str.ofString "sum", Str.ofString "sorted", Str.ofString "set", Str.ofString "dict", Str.ofString "zip"]⟩
def r_is_in : G.Row := ⟨Str.ofString "is_in", 1, [Str.ofString "value", Str.ofString "least", Str.ofString "most"], 3, top 6⟩
def r_power : G.Row := ⟨Str.ofString "power", 56, [Str.ofString "times", Str.ofString "found", Str.ofString "k"], 1, top 8⟩
def r_need_many : G.Row := ⟨Str.ofString "need_many", 135, [Str.ofString "many", Str.ofString "least"], 2, top 11⟩
def r_need_burning : G.Row := ⟨Str.ofString "need_burning", 136, [Str.ofString "many", Str.ofString "burning", Str.ofString "index", Str.ofString "one"], 2, top 12⟩
def r_row_comes : G.Row := ⟨Str.ofString "row_comes", 137, [Str.ofString "one", Str.ofString "other"], 2, top 13⟩
def r_begun : G.Row := ⟨Str.ofString "begun", 166, [Str.ofString "many", Str.ofString "least", Str.ofString "front", Str.ofString "free"], 3, top 15⟩
def r_at_in : G.Row := ⟨Str.ofString "at_in", 167, [Str.ofString "many", Str.ofString "burning", Str.ofString "index", Str.ofString "begin", Str.ofString "least", Str.ofString "rank", Str.ofString "found", Str.ofString "lamp", Str.ofString "ways"], 3, top 16⟩
def r_row_come_at : G.Row := ⟨Str.ofString "row_come_at", 168, [Str.ofString "many", Str.ofString "burning", Str.ofString "index", Str.ofString "whole"], 3, top 17⟩
def r_row_come_number : G.Row := ⟨Str.ofString "row_come_number", 169, [Str.ofString "many", Str.ofString "burning", Str.ofString "other", Str.ofString "found", Str.ofString "last", Str.ofString "least", Str.ofString "at", Str.ofString "lamp", Str.ofString "k"], 3, top 18⟩
def r_row_come_count : G.Row := ⟨Str.ofString "row_come_count", 156, [Str.ofString "many", Str.ofString "burning"], 2, top 20⟩
def r__law_taken : G.Row := ⟨Str.ofString "_law_taken", 11, [Str.ofString "_law_row", Str.ofString "_law_many", Str.ofString "_law_found", Str.ofString "_law_cell"], 2, top 22⟩
def r__law_pick : G.Row := ⟨Str.ofString "_law_pick", 12, [Str.ofString "_law_row", Str.ofString "_law_things"], 2, top 23⟩
def r__law_row_burning : G.Row := ⟨Str.ofString "_law_row_burning", 145, [Str.ofString "_law_row", Str.ofString "_law_many", Str.ofString "_law_thin", Str.ofString "_law_k"], 2, top 24⟩
def r__law_row_cost : G.Row := ⟨Str.ofString "_law_row_cost", 146, [Str.ofString "_law_many", Str.ofString "_law_is_ring", Str.ofString "_law_one", Str.ofString "_law_other", Str.ofString "_law_found", Str.ofString "_law_k", Str.ofString "_law_ahead", Str.ofString "_law_back", Str.ofString "_law_next_one", Str.ofString "_law_last_one", Str.ofString "_law_step", Str.ofString "_law_j"], 4, top 25⟩
def r_law : G.Row := ⟨Str.ofString "law", 171, [Str.ofString "_law_script", Str.ofString "_law_row", Str.ofString "_law_many", Str.ofString "_law_burning", Str.ofString "_law_whole", Str.ofString "_law_one", Str.ofString "_law_other", Str.ofString "_law_low", Str.ofString "_law_high", Str.ofString "_law_drawn", Str.ofString "_law_at"], 1, top 26⟩
theorem k_is_in : r_is_in.ok md T 60 = true := by decide +kernel
theorem k_power : r_power.ok md T 60 = true := by decide +kernel
theorem k_need_many : r_need_many.ok md T 60 = true := by decide +kernel
theorem k_need_burning : r_need_burning.ok md T 60 = true := by decide +kernel
theorem k_row_comes : r_row_comes.ok md T 60 = true := by decide +kernel
theorem k_begun : r_begun.ok md T 60 = true := by decide +kernel
theorem k_at_in : r_at_in.ok md T 60 = true := by decide +kernel
theorem k_row_come_at : r_row_come_at.ok md T 60 = true := by decide +kernel
theorem k_row_come_number : r_row_come_number.ok md T 60 = true := by decide +kernel
theorem k_row_come_count : r_row_come_count.ok md T 60 = true := by decide +kernel
theorem k__law_taken : r__law_taken.ok md T 60 = true := by decide +kernel
theorem k__law_pick : r__law_pick.ok md T 60 = true := by decide +kernel
theorem k__law_row_burning : r__law_row_burning.ok md T 60 = true := by decide +kernel
theorem k__law_row_cost : r__law_row_cost.ok md T 60 = true := by decide +kernel
def dd : List He.DefD := [⟨("is_in", none), "is_in", "is_in", defArgs (top 6), defBody (top 6), defScope (top 6), [], []⟩,
  ⟨("power", none), "power", "power", defArgs (top 8), defBody (top 8), defScope (top 8), [], []⟩,
  ⟨("need_many", none), "need_many", "need_many", defArgs (top 11), defBody (top 11), defScope (top 11), [], []⟩,
  ⟨("need_burning", none), "need_burning", "need_burning", defArgs (top 12), defBody (top 12), defScope (top 12), [], []⟩,
  ⟨("row_comes", none), "row_comes", "row_comes", defArgs (top 13), defBody (top 13), defScope (top 13), [], []⟩,
  ⟨("begun", none), "begun", "begun", defArgs (top 15), defBody (top 15), defScope (top 15), [], []⟩,
  ⟨("at_in", none), "at_in", "at_in", defArgs (top 16), defBody (top 16), defScope (top 16), [], []⟩,
  ⟨("row_come_at", none), "row_come_at", "row_come_at", defArgs (top 17), defBody (top 17), defScope (top 17), [], []⟩,
  ⟨("row_come_number", none), "row_come_number", "row_come_number", defArgs (top 18), defBody (top 18), defScope (top 18), [], []⟩,
  ⟨("row_come_count", none), "row_come_count", "row_come_count", defArgs (top 20), defBody (top 20), defScope (top 20), [], []⟩,
  ⟨("_law_taken", none), "_law_taken", "_law_taken", defArgs (top 22), defBody (top 22), defScope (top 22), [], []⟩,
  ⟨("_law_pick", none), "_law_pick", "_law_pick", defArgs (top 23), defBody (top 23), defScope (top 23), [], []⟩,
  ⟨("_law_row_burning", none), "_law_row_burning", "_law_row_burning", defArgs (top 24), defBody (top 24), defScope (top 24), [], []⟩,
  ⟨("_law_row_cost", none), "_law_row_cost", "_law_row_cost", defArgs (top 25), defBody (top 25), defScope (top 25), [], []⟩,
  ⟨("law", none), "law", "law", defArgs (top 26), defBody (top 26), defScope (top 26), [], []⟩]
def fa : List He.Fa := [.glo "is_in", .glo "power", .glo "need_many", .glo "need_burning", .glo "row_comes", .glo "begun", .glo "at_in", .glo "row_come_at", .glo "row_come_number", .glo "row_come_count", .glo "_law_taken", .glo "_law_pick", .glo "_law_row_burning", .glo "_law_row_cost", .glo "law", .free "len", .free "abs", .free "int", .free "str", .free "bool", .free "max", .free "min", .free "range", .free "enumerate", .free "isinstance", .free "tuple", .free "list", .free "sum", .free "sorted", .free "set", .free "dict", .free "zip", .int "MOST_ROW" 40]
abbrev R : PySem.W.OpenRow := PySem.W.OpenLaw.row PySem.Challenge.rw_passlights_k24_whole_long_numbers_of_row
abbrev hk : PySem.W.Hook := He.hookD 4 fa dd
def ob (s : PySem.W.SharedT) : He.AlD := He.obsDG 4 fa dd (HandSHeadRun.getT s)
theorem ob_eq (s : PySem.W.SharedT) : ob s = hk.obs s.abs := He.obsDG_eq (HandSHeadRun.getT_eq s)
theorem run (w : World) : HandSHeadRun.RunEq R (PySem.W.view R.prog [26]) hk ob 2000 ["LampError", "BadBurning", "BadCount", "BadIndex", "is_in", "power", "MOST_ROW", "need_many", "need_burning", "row_comes", "begun", "at_in", "row_come_at", "row_come_number", "row_come_count", "_law_taken", "_law_pick", "_law_row_burning", "_law_row_cost"] w := by
  intro os
  kernel_rfl
def rows : List G.Row := [r_is_in, r_power, r_need_many, r_need_burning, r_row_comes, r_begun, r_at_in, r_row_come_at, r_row_come_number, r_row_come_count, r__law_taken, r__law_pick, r__law_row_burning, r__law_row_cost]
abbrev lw := PySem.Challenge.rw_passlights_k24_whole_long_numbers_of_row
theorem defs_ok {w : World} {K : PySem.W.Frag} {h : Heap} {mg : Str → Option Value} {base : Heap} (X : K.In h) (G : h.Ns mainGlobals mg) (c : He.SaysD fa dd K) : ∀ q ∈ md.fns, DefOk lw.prog w K mg base (faOf rows K) md T q := by
  intro q hq
  simp only [md, List.mem_cons, List.not_mem_nil, or_false] at hq
  rcases hq with rfl | rfl | rfl | rfl | rfl | rfl | rfl | rfl | rfl | rfl | rfl | rfl | rfl | rfl
  · obtain ⟨fd, F⟩ := c.def_ 0 rfl
    exact Row.def_ (r := r_is_in) k_is_in F (FunD.bindsN (ps := r_is_in.N.take r_is_in.np) F fun _ _ _ _ _ _ us hl => match us, hl with | [_, _, _], _ => rfl) (He.glo_ok X G (c.fact 0 (f := .glo "is_in") rfl))
  · obtain ⟨fd, F⟩ := c.def_ 1 rfl
    exact Row.def_ (r := r_power) k_power F (FunD.bindsN (ps := r_power.N.take r_power.np) F fun _ _ _ _ _ _ us hl => match us, hl with | [_], _ => rfl) (He.glo_ok X G (c.fact 1 (f := .glo "power") rfl))
  · obtain ⟨fd, F⟩ := c.def_ 2 rfl
    exact Row.def_ (r := r_need_many) k_need_many F (FunD.bindsN (ps := r_need_many.N.take r_need_many.np) F fun _ _ _ _ _ _ us hl => match us, hl with | [_, _], _ => rfl) (He.glo_ok X G (c.fact 2 (f := .glo "need_many") rfl))
  · obtain ⟨fd, F⟩ := c.def_ 3 rfl
    exact Row.def_ (r := r_need_burning) k_need_burning F (FunD.bindsN (ps := r_need_burning.N.take r_need_burning.np) F fun _ _ _ _ _ _ us hl => match us, hl with | [_, _], _ => rfl) (He.glo_ok X G (c.fact 3 (f := .glo "need_burning") rfl))
  · obtain ⟨fd, F⟩ := c.def_ 4 rfl
    exact Row.def_ (r := r_row_comes) k_row_comes F (FunD.bindsN (ps := r_row_comes.N.take r_row_comes.np) F fun _ _ _ _ _ _ us hl => match us, hl with | [_, _], _ => rfl) (He.glo_ok X G (c.fact 4 (f := .glo "row_comes") rfl))
  · obtain ⟨fd, F⟩ := c.def_ 5 rfl
    exact Row.def_ (r := r_begun) k_begun F (FunD.bindsN (ps := r_begun.N.take r_begun.np) F fun _ _ _ _ _ _ us hl => match us, hl with | [_, _, _], _ => rfl) (He.glo_ok X G (c.fact 5 (f := .glo "begun") rfl))
  · obtain ⟨fd, F⟩ := c.def_ 6 rfl
    exact Row.def_ (r := r_at_in) k_at_in F (FunD.bindsN (ps := r_at_in.N.take r_at_in.np) F fun _ _ _ _ _ _ us hl => match us, hl with | [_, _, _], _ => rfl) (He.glo_ok X G (c.fact 6 (f := .glo "at_in") rfl))
  · obtain ⟨fd, F⟩ := c.def_ 7 rfl
    exact Row.def_ (r := r_row_come_at) k_row_come_at F (FunD.bindsN (ps := r_row_come_at.N.take r_row_come_at.np) F fun _ _ _ _ _ _ us hl => match us, hl with | [_, _, _], _ => rfl) (He.glo_ok X G (c.fact 7 (f := .glo "row_come_at") rfl))
  · obtain ⟨fd, F⟩ := c.def_ 8 rfl
    exact Row.def_ (r := r_row_come_number) k_row_come_number F (FunD.bindsN (ps := r_row_come_number.N.take r_row_come_number.np) F fun _ _ _ _ _ _ us hl => match us, hl with | [_, _, _], _ => rfl) (He.glo_ok X G (c.fact 8 (f := .glo "row_come_number") rfl))
  · obtain ⟨fd, F⟩ := c.def_ 9 rfl
    exact Row.def_ (r := r_row_come_count) k_row_come_count F (FunD.bindsN (ps := r_row_come_count.N.take r_row_come_count.np) F fun _ _ _ _ _ _ us hl => match us, hl with | [_, _], _ => rfl) (He.glo_ok X G (c.fact 9 (f := .glo "row_come_count") rfl))
  · obtain ⟨fd, F⟩ := c.def_ 10 rfl
    exact Row.def_ (r := r__law_taken) k__law_taken F (FunD.bindsN (ps := r__law_taken.N.take r__law_taken.np) F fun _ _ _ _ _ _ us hl => match us, hl with | [_, _], _ => rfl) (He.glo_ok X G (c.fact 10 (f := .glo "_law_taken") rfl))
  · obtain ⟨fd, F⟩ := c.def_ 11 rfl
    exact Row.def_ (r := r__law_pick) k__law_pick F (FunD.bindsN (ps := r__law_pick.N.take r__law_pick.np) F fun _ _ _ _ _ _ us hl => match us, hl with | [_, _], _ => rfl) (He.glo_ok X G (c.fact 11 (f := .glo "_law_pick") rfl))
  · obtain ⟨fd, F⟩ := c.def_ 12 rfl
    exact Row.def_ (r := r__law_row_burning) k__law_row_burning F (FunD.bindsN (ps := r__law_row_burning.N.take r__law_row_burning.np) F fun _ _ _ _ _ _ us hl => match us, hl with | [_, _], _ => rfl) (He.glo_ok X G (c.fact 12 (f := .glo "_law_row_burning") rfl))
  · obtain ⟨fd, F⟩ := c.def_ 13 rfl
    exact Row.def_ (r := r__law_row_cost) k__law_row_cost F (FunD.bindsN (ps := r__law_row_cost.N.take r__law_row_cost.np) F fun _ _ _ _ _ _ us hl => match us, hl with | [_, _, _, _], _ => rfl) (He.glo_ok X G (c.fact 13 (f := .glo "_law_row_cost") rfl))
theorem free_ok' {K : PySem.W.Frag} {h : Heap} {mg : Str → Option Value} (X : K.In h) (G : h.Ns mainGlobals mg) (c : He.SaysD fa dd K) : ∀ x ∈ md.free, mg x = none := by
  intro x hx
  simp only [md, List.mem_cons, List.not_mem_nil, or_false] at hx
  rcases hx with rfl | rfl | rfl | rfl | rfl | rfl | rfl | rfl | rfl | rfl | rfl | rfl | rfl | rfl | rfl | rfl | rfl
  · exact He.free_ok X G (c.fact 15 (f := .free "len") rfl)
  · exact He.free_ok X G (c.fact 16 (f := .free "abs") rfl)
  · exact He.free_ok X G (c.fact 17 (f := .free "int") rfl)
  · exact He.free_ok X G (c.fact 18 (f := .free "str") rfl)
  · exact He.free_ok X G (c.fact 19 (f := .free "bool") rfl)
  · exact He.free_ok X G (c.fact 20 (f := .free "max") rfl)
  · exact He.free_ok X G (c.fact 21 (f := .free "min") rfl)
  · exact He.free_ok X G (c.fact 22 (f := .free "range") rfl)
  · exact He.free_ok X G (c.fact 23 (f := .free "enumerate") rfl)
  · exact He.free_ok X G (c.fact 24 (f := .free "isinstance") rfl)
  · exact He.free_ok X G (c.fact 25 (f := .free "tuple") rfl)
  · exact He.free_ok X G (c.fact 26 (f := .free "list") rfl)
  · exact He.free_ok X G (c.fact 27 (f := .free "sum") rfl)
  · exact He.free_ok X G (c.fact 28 (f := .free "sorted") rfl)
  · exact He.free_ok X G (c.fact 29 (f := .free "set") rfl)
  · exact He.free_ok X G (c.fact 30 (f := .free "dict") rfl)
  · exact He.free_ok X G (c.fact 31 (f := .free "zip") rfl)
theorem cs_ok {P : Program} {w : World} {K : PySem.W.Frag} {h : Heap} {mg : Str → Option Value} {fA : Nat → Addr} {ca : Nat → Value} (X : K.In h) (G : h.Ns mainGlobals mg) (c : He.SaysD fa dd K) : ∀ q ∈ md.cs, ∃ u v, mg q.1 = some u ∧ RelV v u ∧ ∀ β H, Rep ⟨P, w, K, fA, ca⟩ β H (gv q.2) v := by
  intro q hq
  simp only [md, List.mem_cons, List.not_mem_nil, or_false] at hq
  rcases hq with rfl
  · obtain ⟨t, e⟩ := He.int_ok X G (c.fact 32 (f := .int "MOST_ROW" 40) rfl)
    exact ⟨_, .int 40, e, ⟨t, rfl⟩, fun β H => by simp only [gv, Rep]⟩
theorem law_facts {w : World} {K : PySem.W.Frag} {h : Heap} {mg : Str → Option Value} {f : Addr} (X : K.In h) (G : h.Ns mainGlobals mg) (hfa : mg ("law" : Str) = some (.ref f)) (c : He.SaysD fa dd K)
    (hrun : ∀ ns : List Int, ns.length ≤ 63 → (∀ z ∈ ns, Builtin.Int.intBits z ≤ 1048576) → ∃ S', fin (exSs ⟨callF T gv 200, gv⟩ d_law___________________.body (startS d_law___________________ [.exc 1000 (ns.map .int)]) []) = .ok (.bl true) S')
    (hchk : chkSs md r_law.N (defScope r_law.st).names 60 (defBody r_law.st) d_law___________________.body = true) : LamX.LawAtS lw w K (L2.CX lw.prog w) 201 63 "_law_script" mg f h := by
  obtain ⟨fd, F⟩ := c.def_ 14 rfl
  have e := hfa.symm.trans (He.glo_ok X G (c.fact 14 (f := .glo "law") rfl))
  cases e
  refine ⟨fd, [], spLaw K fun v => fin (exSs ⟨callF T gv 200, gv⟩ d_law___________________.body (startS d_law___________________ [v]) []), fun _ h => (by cases h), fun _ h => (by cases h), fun _ h => (by cases h), fun s u => FunD.bindsA (ps := ["_law_script"]) F (fun _ _ _ _ _ _ us hl => match us, hl with | [_], _ => rfl) s [u] rfl, fun H a ns hl hb _ hS => ?_, fun base KB GB _ => ?_⟩
  · obtain ⟨S', hz⟩ := hrun ns hl hb
    exact ⟨a, ns, S', rfl, hS, hz, fun _ => rfl⟩
  · exact law_fn (ca := fun _ => .none) (p := "_law_script") (N := r_law.N) (st := r_law.st) (defs_ok X G c) (cs_ok X G c) (free_ok' X G c) rfl rfl F (scope_ok (by decide +kernel)) hchk
theorem no_cx {P : Program} {w : World} {H : Hp} {s : Shared} {e : Value} {s' : Shared} (h : L2.CX P w [] H s (fun _ _ _ => False) e s') : False := by
  obtain ⟨_, _, _, _, _, _, _, _, _, _, _, _, z⟩ := h
  exact z.elim
end L
end G
open PySem PySem.W PySem.Calls PyProof.Rows
theorem G.the_holds (hrun : ∀ ns : List Int, ns.length ≤ 63 → (∀ z ∈ ns, Builtin.Int.intBits z ≤ 1048576) → ∃ S', G.fin (G.exSs ⟨G.callF G.L.T G.L.gv 200, G.L.gv⟩ G.L.d_law___________________.body (G.startS G.L.d_law___________________ [.exc 1000 (ns.map .int)]) []) = .ok (.bl true) S')
    (hchk : G.chkSs G.L.md G.L.r_law.N (L2.defScope G.L.r_law.st).names 60 (L2.defBody G.L.r_law.st) G.L.d_law___________________.body = true) : PySem.Challenge.rw_passlights_k24_whole_long_numbers_of_row.Holds := by
  w_on; o_law
  refine HandSHeadRun.head_any (r := OpenLaw.row PySem.Challenge.rw_passlights_k24_whole_long_numbers_of_row) (q := view (OpenLaw.row PySem.Challenge.rw_passlights_k24_whole_long_numbers_of_row).prog [26]) (H := G.L.hk) (ob := G.L.ob) (M := 2000) (loose := ["LampError", "BadBurning", "BadCount", "BadIndex", "is_in", "power", "MOST_ROW", "need_many", "need_burning", "row_comes", "begun", "at_in", "row_come_at", "row_come_number", "row_come_count", "_law_taken", "_law_pick", "_law_row_burning", "_law_row_cost"]) (d := HandSHeadRun.topDef (OpenLaw.row PySem.Challenge.rw_passlights_k24_whole_long_numbers_of_row).prog 26) (kwd := []) G.L.ob_eq
    (by kernel_rfl) (fun s => by kernel_rfl) G.L.run (by kernel_rfl) (by kernel_rfl) (by kernel_rfl) (by rfl) (by first | assumption | decide +kernel) (by decide +kernel) ⟨rfl, rfl, rfl, rfl, rfl, by decide +kernel⟩ ?hw ?hc
  case hw => w_witness2
  case hc =>
    refine LamX.walk_ofTsE (l := PySem.Challenge.rw_passlights_k24_whole_long_numbers_of_row) (n := 63) (k := 201) (x := "_law_script") (CX := fun w => L2.CX (PySem.Challenge.rw_passlights_k24_whole_long_numbers_of_row).prog w) rfl (by decide) (by kernel_rfl) ⟨rfl, by decide, by decide⟩ ?F (fun w H s e s' z => G.L.no_cx z)
    intro w mg fa h Y G0 hmg0
    obtain ⟨K, KX, c⟩ := Y
    have hmg : mg ("law" : PySem.Str) = some (.ref fa) := by
      have e : (HandSHeadRun.topDef (OpenLaw.row PySem.Challenge.rw_passlights_k24_whole_long_numbers_of_row).prog 26).name = ("law" : PySem.Str) := by kernel_rfl
      rw [← e]
      exact hmg0
    exact ⟨K, KX, G.L.law_facts KX G0 hmg c hrun hchk⟩
end

set_option maxRecDepth 100000 in
set_option maxHeartbeats 0 in
theorem PySem.Challenge.cw_passlights_k24_whole_long_numbers_of_row_holds : PySem.Challenge.rw_passlights_k24_whole_long_numbers_of_row.Holds := by
  exact G.the_holds (fun ns hl hb => G.L.law24 190 ns) (by decide +kernel)
