import PyProof.Rows.All
import Wide.All
import OpenK.AllK
import Wide.FinOn
import HandS.ForMost
import HandS.ForSpec
import HandS.SortInts
import HandS.Conv
import HandS.IsInst
import HandS.More
import HandS.CallSlots
import HandS.NoneIn
import HandS.Exc
import HandS.Small
import HandS.WordsExc
import HandS.Ends
import PySem.Challenge.RW_keptnights_k03_whole_loads
set_option Elab.async false
set_option linter.all false
set_option maxRecDepth 100000
set_option autoImplicit false
set_option maxHeartbeats 1000000
/-! KN0: a small language with slots, its values, its evaluator. Plain Lean. -/
namespace KN
open PySem (Str)

theorem lim_ex : ∃ n : Nat, n = 16777216 := ⟨_, rfl⟩
/-- 2 to the 24; nothing unfolds it -/
noncomputable def LIM : Nat := Classical.choose lim_ex
theorem lim_is : LIM = 16777216 := Classical.choose_spec lim_ex

/-- values: immutable data, frozen lists, the script, ranges, frozen instances, errors, places in the store, defs -/
inductive D where
  | non
  | bl (b : Bool)
  | int (i : Int)
  | str (s : Str)
  | tup (xs : List D)
  | lst (xs : List D)
  | scr (ns : List Int)
  | rng (lo hi : Int)
  | obj (c : Nat) (ks : List Nat) (fs : List D)
  | exn (c : Nat) (ks : List Nat) (fs : List D)
  | ref (a : Nat)
  | fn (f : Nat)
  deriving Inhabited

inductive O where
  | lst (xs : List D)
  | ins (c : Nat) (ks : List Nat) (fs : List D)
  | dk (kvs : List (Sum Int Str × D))
  deriving Inhabited

abbrev G := List O
abbrev St := List (Option D)

inductive R (A : Type) where
  | ok (a : A) (g : G)
  | exc (x : D) (g : G)
  | st

inductive F where
  | nx (s : St) (g : G)
  | rt (d : D) (g : G)
  | bk (s : St) (g : G)
  | ct (s : St) (g : G)
  | ex (x : D) (s : St) (g : G)
  | st

def R.bind {A B : Type} (r : R A) (f : A → G → R B) : R B :=
  match r with
  | .ok a g => f a g
  | .exc x g => .exc x g
  | .st => .st
@[simp] theorem R.bind_ok {A B : Type} (a : A) (g : G) (f : A → G → R B) : (R.ok a g).bind f = f a g := rfl
@[simp] theorem R.bind_exc {A B : Type} (x : D) (g : G) (f : A → G → R B) : (R.exc x g : R A).bind f = .exc x g := rfl
@[simp] theorem R.bind_st {A B : Type} (f : A → G → R B) : (R.st : R A).bind f = .st := rfl

/-- no error may come -/
def R.bindN {A B : Type} (r : R A) (f : A → G → R B) : R B :=
  match r with
  | .ok a g => f a g
  | _ => .st
@[simp] theorem R.bindN_ok {A B : Type} (a : A) (g : G) (f : A → G → R B) : (R.ok a g).bindN f = f a g := rfl
@[simp] theorem R.bindN_exc {A B : Type} (x : D) (g : G) (f : A → G → R B) : (R.exc x g : R A).bindN f = .st := rfl
@[simp] theorem R.bindN_st {A B : Type} (f : A → G → R B) : (R.st : R A).bindN f = .st := rfl

def oR {A : Type} (o : Option A) (g : G) : R A := match o with | some a => .ok a g | none => .st
@[simp] theorem oR_some {A : Type} (a : A) (g : G) : oR (some a) g = .ok a g := rfl
@[simp] theorem oR_none {A : Type} (g : G) : oR (none : Option A) g = .st := rfl

/-! ### dicts -/
abbrev Ky := Sum Int Str
def keyD : D → Option Ky
  | .int i => some (.inl i)
  | .str s => some (.inr s)
  | _ => none
def kyD : Ky → D
  | .inl i => .int i
  | .inr s => .str s
def valK (kvs : List (Ky × D)) (k : Ky) : Option D := (kvs.find? fun kv => decide (kv.1 = k)).map (·.2)
def putK (kvs : List (Ky × D)) (k : Ky) (v : D) : List (Ky × D) :=
  if (kvs.any fun kv => decide (kv.1 = k)) = true then kvs.map (fun kv => if kv.1 = k then (kv.1, v) else kv) else kvs ++ [(k, v)]
def dkOf (g : G) : D → Option (List (Ky × D))
  | .ref a => match g[a]? with
    | some (.dk kvs) => some kvs
    | _ => none
  | _ => none

/-! ### operators -/
inductive BO where | add | sub | mul | fdiv | mod | pow
  deriving DecidableEq
inductive CO where | eq | ne | lt | le | gt | ge | isn | isnn | inn | nin
  deriving DecidableEq
inductive Bi where | len | int | str | bool | abs | min | max | sum | all | any | tuple | list | sorted | range
  deriving DecidableEq
inductive Ty where | int | bool | str | list | tuple
  deriving DecidableEq

/-- a place holds a list: its items -/
def view (g : G) : D → D
  | .ref a => match g[a]? with
    | some (.lst xs) => .lst xs
    | _ => .ref a
  | d => d
@[simp] theorem view_non (g : G) : view g .non = .non := rfl
@[simp] theorem view_bl (g : G) (b : Bool) : view g (.bl b) = .bl b := rfl
@[simp] theorem view_int (g : G) (i : Int) : view g (.int i) = .int i := rfl
@[simp] theorem view_str (g : G) (s : Str) : view g (.str s) = .str s := rfl
@[simp] theorem view_tup (g : G) (xs : List D) : view g (.tup xs) = .tup xs := rfl
@[simp] theorem view_lst (g : G) (xs : List D) : view g (.lst xs) = .lst xs := rfl
@[simp] theorem view_scr (g : G) (xs : List Int) : view g (.scr xs) = .scr xs := rfl
@[simp] theorem view_rng (g : G) (a b : Int) : view g (.rng a b) = .rng a b := rfl
@[simp] theorem view_obj (g : G) (c : Nat) (ks : List Nat) (fs : List D) : view g (.obj c ks fs) = .obj c ks fs := rfl

mutual
def eqv : D → D → Bool
  | .non, .non => true
  | .bl a, .bl b => a == b
  | .bl a, .int j => (if a then 1 else 0) == j
  | .int i, .bl b => i == (if b then 1 else 0)
  | .int i, .int j => i == j
  | .str x, .str y => x == y
  | .lst xs, .lst ys => eqvs xs ys
  | .tup xs, .tup ys => eqvs xs ys
  | _, _ => false
def eqvs : List D → List D → Bool
  | [], [] => true
  | x :: xs, y :: ys => eqv x y && eqvs xs ys
  | _, _ => false
end
mutual
/-- plain data, no deeper than n -/
def shp : Nat → D → Bool
  | _, .non => true
  | _, .bl _ => true
  | _, .int _ => true
  | _, .str x => x.cps.all (· < 0x110000)
  | n + 1, .tup xs => shps n xs
  | n + 1, .lst xs => shps n xs
  | _, _ => false
def shps : Nat → List D → Bool
  | _, [] => true
  | n, x :: xs => shp n x && shps n xs
end

def eqD (g : G) (a b : D) : Option Bool :=
  match view g a, view g b with
  | .str s, .str t => some (decide (s = t))
  | .str _, .non => some false
  | .non, .str _ => some false
  | x, y => if shp 60 x = true ∧ shp 60 y = true then some (eqv x y) else none

/-- an item's place, counted from behind below nought -/
def ixn (n : Nat) (i : Int) : Option Nat :=
  if 0 ≤ i then (if i < n then some i.toNat else none) else if -(n : Int) ≤ i then some (i + n).toNat else none
def six (n d : Nat) : Option Int → Nat
  | none => d
  | some v => if v < 0 then (v + (n : Int)).toNat else min v.toNat n
def cut {A : Type} (xs : List A) (lo hi : Option Int) : List A :=
  (xs.drop (six xs.length 0 lo)).take (six xs.length xs.length hi - six xs.length 0 lo)

def small (i : Int) : Prop := -18446744073709551616 < i ∧ i < 18446744073709551616
noncomputable instance (i : Int) : Decidable (small i) := Classical.propDecidable _

noncomputable def binD (o : BO) (g : G) (a b : D) : Option D :=
  match o, view g a, view g b with
  | .add, .int i, .int j => some (.int (i + j))
  | .sub, .int i, .int j => some (.int (i - j))
  | .mul, .int i, .int j => if small i ∨ small j then some (.int (i * j)) else none
  | .fdiv, .int i, .int j => if j ≠ 0 ∧ j.natAbs < 1073741824 then some (.int (i.fdiv j)) else none
  | .mod, .int i, .int j => if j ≠ 0 then some (.int (i.fmod j)) else none
  | .pow, .int i, .int j => if 0 ≤ j ∧ j ≤ 1000000 ∧ small i then some (.int (i ^ j.toNat)) else none
  | .add, .str s, .str t => if s.length + t.length ≤ LIM then some (.str (s ++ t)) else none
  | .add, .tup xs, .tup ys => if xs ≠ [] ∧ xs.length + ys.length ≤ LIM then some (.tup (xs ++ ys)) else none
  | .add, .lst xs, .lst ys => if xs.length + ys.length ≤ LIM then some (.lst (xs ++ ys)) else none
  | .mul, .lst xs, .int k => if 0 ≤ k ∧ k ≤ 16777216 ∧ xs.length * k.toNat ≤ LIM then some (.lst (List.replicate k.toNat xs).flatten) else none
  | _, _, _ => none

def lexlt : List D → List D → Option Bool
  | [], [] => some false
  | [], .int _ :: _ => some true
  | .int _ :: _, [] => some false
  | .int i :: xs, .int j :: ys => if i = j then lexlt xs ys else some (decide (i < j))
  | _, _ => none

def flatD : D → Bool
  | .non => true | .bl _ => true | .int _ => true | .str _ => true | _ => false

def inD (x : D) (xs : List D) : Bool := xs.any fun y => eqv y x

def isNon : D → Bool
  | .non => true
  | _ => false
def cmpD (o : CO) (g : G) (a b : D) : Option Bool :=
  match o with
  | .eq => eqD g a b
  | .ne => (eqD g a b).map (!·)
  | .isn => match b with | .non => some (isNon a) | _ => none
  | .isnn => match b with | .non => some (!isNon a) | _ => none
  | .lt => match view g a, view g b with
    | .int i, .int j => some (decide (i < j))
    | _, _ => none
  | .le => match view g a, view g b with
    | .int i, .int j => some (decide (i ≤ j))
    | _, _ => none
  | .gt => match view g a, view g b with
    | .int i, .int j => some (decide (j < i))
    | _, _ => none
  | .ge => match view g a, view g b with
    | .int i, .int j => some (decide (j ≤ i))
    | _, _ => none
  | .inn => match dkOf g b with
   | some kvs => (keyD a).map fun k => (valK kvs k).isSome
   | none => match view g a, view g b with
    | x, .lst xs => if flatD x = true ∧ xs.all flatD = true then some (inD x xs) else none
    | x, .tup xs => if flatD x = true ∧ xs.all flatD = true then some (inD x xs) else none
    | .str s, .str t => match s.cps.toList with
      | [c] => some (decide (c ∈ t.cps.toList))
      | _ => none
    | _, _ => none
  | .nin => match dkOf g b with
   | some kvs => (keyD a).map fun k => !(valK kvs k).isSome
   | none => match view g a, view g b with
    | x, .lst xs => if flatD x = true ∧ xs.all flatD = true then some (!inD x xs) else none
    | x, .tup xs => if flatD x = true ∧ xs.all flatD = true then some (!inD x xs) else none
    | .str s, .str t => match s.cps.toList with
      | [c] => some (!decide (c ∈ t.cps.toList))
      | _ => none
    | _, _ => none

noncomputable def truD (g : G) (d : D) : Option Bool :=
  match dkOf g d with
  | some kvs => some (!kvs.isEmpty)
  | none => match view g d with
  | .non => some false
  | .bl b => some b
  | .int i => some (i != 0)
  | .lst xs => some (!xs.isEmpty)
  | .tup xs => some (!xs.isEmpty)
  | .str s => if s.length ≤ LIM then some ((s.length : Int) != 0) else none
  | _ => none

noncomputable def idxD (g : G) (a b : D) : Option D :=
  match dkOf g a with
  | some kvs => (keyD b).bind fun k => valK kvs k
  | none => match view g a, b with
  | .lst xs, .int i => (ixn xs.length i).bind fun j => xs[j]?
  | .tup xs, .int i => (ixn xs.length i).bind fun j => xs[j]?
  | .scr ns, .int i => ((ixn ns.length i).bind fun j => ns[j]?).map .int
  | .str s, .int i => if s.length ≤ LIM then ((ixn s.cps.toList.length i).bind fun j => s.cps.toList[j]?).map fun c => .str ⟨#[c]⟩ else none
  | _, _ => none

noncomputable def sliD (g : G) (a : D) (lo hi : Option Int) : Option D :=
  match view g a with
  | .lst xs => some (.lst (cut xs lo hi))
  | .tup xs => if six xs.length 0 lo = 0 ∧ six xs.length xs.length hi = xs.length then some (.tup xs) else some (.tup (cut xs lo hi))
  | .str s => if s.length ≤ LIM then some (.str ⟨(cut s.cps.toList lo hi).toArray⟩) else none
  | _ => none

def intsD : List D → Option (List Int)
  | [] => some []
  | .int i :: r => (intsD r).map (i :: ·)
  | _ :: _ => none
def bools : List D → Option (List Bool)
  | [] => some []
  | .bl i :: r => (bools r).map (i :: ·)
  | _ :: _ => none
@[simp] theorem ints_map (ns : List Int) : intsD (ns.map .int) = some ns := by
  induction ns with
  | nil => rfl
  | cons n r ih => simp [intsD, ih]
@[simp] theorem bools_map (ns : List Bool) : bools (ns.map .bl) = some ns := by
  induction ns with
  | nil => rfl
  | cons n r ih => simp [bools, ih]

def maxI : List Int → Int
  | [] => 0
  | [x] => x
  | x :: y :: r => max x (maxI (y :: r))
def minI : List Int → Int
  | [] => 0
  | [x] => x
  | x :: y :: r => min x (minI (y :: r))
def sortI (ns : List Int) : List Int := ns.mergeSort fun a b => decide (a ≤ b)
/-- lo, lo + 1, .., hi - 1 -/
def rangeI (lo hi : Int) : List Int := (List.range (hi - lo).toNat).map fun k => lo + (k : Nat)

def seqOf (g : G) (d : D) : Option (List D) :=
  match view g d with
  | .lst xs => some xs
  | .tup xs => some xs
  | _ => none

def okR (lo hi : Int) : Prop := -4611686018427387904 ≤ lo ∧ lo < 4611686018427387904 ∧ -4611686018427387904 ≤ hi ∧ hi < 4611686018427387904
noncomputable instance (lo hi : Int) : Decidable (okR lo hi) := Classical.propDecidable _

noncomputable def biD (b : Bi) (g : G) (ds : List D) : Option D :=
  match b, ds with
  | .len, [d] => match view g d with
    | .lst xs => some (.int xs.length)
    | .tup xs => some (.int xs.length)
    | .scr ns => some (.int ns.length)
    | .str s => if s.length ≤ LIM then some (.int s.length) else none
    | _ => none
  | .int, [.int i] => some (.int i)
  | .int, [.bl b] => some (.int (if b then 1 else 0))
  | .str, [.int i] => if i.natAbs.log2 < 1920 then some (.str (Str.ofString (toString i))) else none
  | .bool, [.int i] => some (.bl (i != 0))
  | .bool, [.bl b] => some (.bl b)
  | .abs, [.int i] => some (.int (if i < 0 then -i else i))
  | .max, [.int i, .int j] => some (.int (if j > i then j else i))
  | .min, [.int i, .int j] => some (.int (if j < i then j else i))
  | .max, [d] => match view g d with
    | .lst xs => (intsD xs).bind fun ns => if ns = [] then none else some (.int (maxI ns))
    | _ => none
  | .min, [d] => match view g d with
    | .lst xs => (intsD xs).bind fun ns => if ns = [] then none else some (.int (minI ns))
    | _ => none
  | .sum, [d] => match view g d with
    | .lst xs => (intsD xs).map fun ns => .int ns.sum
    | _ => none
  | .all, [d] => match view g d with
    | .lst xs => (bools xs).map fun ns => .bl (ns.all id)
    | _ => none
  | .any, [d] => match view g d with
    | .lst xs => (bools xs).map fun ns => .bl (ns.any id)
    | _ => none
  | .tuple, [d] => match view g d with
    | .lst xs => some (.tup xs)
    | .tup xs => some (.tup xs)
    | .rng lo hi => if okR lo hi ∧ (hi - lo).toNat ≤ LIM then some (.tup ((rangeI lo hi).map .int)) else none
    | _ => none
  | .list, [d] => match dkOf g d with
   | some kvs => some (.lst (kvs.map fun kv => kyD kv.1))
   | none => match view g d with
    | .lst xs => some (.lst xs)
    | .tup xs => some (.lst xs)
    | .rng lo hi => if okR lo hi ∧ (hi - lo).toNat ≤ LIM then some (.lst ((rangeI lo hi).map .int)) else none
    | _ => none
  | .sorted, [d] => match view g d with
    | .lst xs => (intsD xs).map fun ns => .lst ((sortI ns).map .int)
    | _ => none
  | .range, [.int n] => if okR 0 n then some (.rng 0 n) else none
  | .range, [.int lo, .int hi] => if okR lo hi then some (.rng lo hi) else none
  | _, _ => none

/-- the first place of an item -/
def findD (x : D) : List D → Nat → Option Nat
  | [], _ => none
  | y :: r, n => if eqv y x = true then some n else findD x r (n + 1)
def indexD (g : G) (a x : D) : Option D :=
  match view g a with
  | .lst xs => if flatD x = true ∧ xs.all flatD = true then (findD x xs 0).map fun n => .int (n : Nat) else none
  | _ => none

inductive Tg where | non | bl | int | str | lst | tup
  deriving DecidableEq
def tagD : D → Option Tg
  | .non => some .non
  | .bl _ => some .bl
  | .int _ => some .int
  | .str _ => some .str
  | .lst _ => some .lst
  | .tup _ => some .tup
  | _ => none
def isTag : Ty → Tg → Bool
  | .int, .int => true
  | .int, .bl => true
  | .bool, .bl => true
  | .str, .str => true
  | .list, .lst => true
  | .tuple, .tup => true
  | _, _ => false
/-- is it an instance of one of these -/
def isTys (g : G) (d : D) (ts : List Ty) : Option Bool := (tagD (view g d)).map fun t => ts.any fun y => isTag y t

/-! ### the language -/
inductive LT where
  | name (i : Nat)
  | tup (is : List Nat)

mutual
inductive LE where
  | var (i : Nat)
  | int (i : Int)
  | str (s : Str)
  | bl (b : Bool)
  | non
  | dnew
  | con (c : Nat)
  | tup (es : LEs)
  | lst (mu : Bool) (es : LEs)
  | bin (o : BO) (a b : LE)
  | neg (a : LE)
  | cmp (o : CO) (a b : LE)
  | chain (o o' : CO) (a b c : LE)
  | and (a b : LE)
  | or (a b : LE)
  | not (a : LE)
  | ifx (c : LC) (a b : LE)
  | idx (a b : LE)
  | sli (a : LE) (lo hi : LO)
  | index (a e : LE)
  | call (f : Nat) (es : LEs)
  | bi (b : Bi) (es : LEs)
  | isi (a : LE) (ts : List Ty)
  | comp (mu : Bool) (e : LE) (t : LT) (s : LI) (c : LCs)
inductive LEs where
  | nil
  | cons (e : LE) (es : LEs)
inductive LO where
  | no
  | yes (e : LE)
inductive LC where
  | val (e : LE)
  | cmp (o : CO) (a b : LE)
  | chain (o o' : CO) (a b c : LE)
  | and (a b : LC)
  | or (a b : LC)
  | not (a : LC)
inductive LCs where
  | no
  | yes (c : LC)
inductive LI where
  | seq (e : LE)
  | range1 (a : LE)
  | range2 (a b : LE)
end

mutual
inductive LS where
  | expr (e : LE)
  | set (i : Nat) (e : LE)
  | unp (is : List Nat) (e : LE)
  | par (i j : Nat) (a b : LE)
  | aug (i : Nat) (o : BO) (e : LE)
  | seti (a b e : LE)
  | augi (o : BO) (a b e : LE)
  | app (a e : LE)
  | ite (c : LC) (a b : LSs)
  | for_ (t : LT) (s : LI) (b : LSs)
  | whl (c : LC) (b : LSs)
  | ret (e : LE)
  | retn
  | pass
  | brk
  | cnt
inductive LSs where
  | nil
  | cons (s : LS) (r : LSs)
end

/-- a def: its parameters, its slots, its body; keeps: what it made stays in the store -/
structure LF where
  np : Nat
  n : Nat
  body : LSs
  keep : Bool := false

def lookF (f : Nat) : List (Nat × LF) → Option LF
  | [] => none
  | d :: r => if d.1 = f then some d.2 else lookF f r

structure Fn where
  call : Nat → List D → G → R D
  con : Nat → D
  fuel : Nat

def setA : List Nat → List D → St → Option St
  | [], [], s => some s
  | i :: is, d :: ds, s => if i < s.length then setA is ds (s.set i (some d)) else none
  | _, _, _ => none
def setT (t : LT) (d : D) (s : St) : Option St :=
  match t with
  | .name i => if i < s.length then some (s.set i (some d)) else none
  | .tup is => match d with
    | .tup xs => setA is xs s
    | .lst xs => setA is xs s
    | _ => none
def wipeA (s : St) : List Nat → St
  | [] => s
  | i :: is => (wipeA s is).set i none
def ownT : LT → List Nat
  | .name i => [i]
  | .tup is => is

/-- what is walked: its items, and the place that must stay as it is -/
def lockOk (lk : Option (Nat × List D)) (g : G) : Prop :=
  match lk with
  | none => True
  | some (a, xs) => g[a]? = some (.lst xs)

open Classical in
noncomputable def forL (t : LT) (lk : Option (Nat × List D)) (body : St → G → F) : List D → St → G → F
  | [], s, g => if lockOk lk g then .nx s g else .st
  | d :: r, s, g => if lockOk lk g then
      match setT t d s with
      | none => .st
      | some s1 => match body s1 g with
        | .nx s2 g2 => forL t lk body r s2 g2
        | .ct s2 g2 => forL t lk body r s2 g2
        | .bk s2 g2 => .nx s2 g2
        | f => f
    else .st

open Classical in
noncomputable def compL (t : LT) (lk : Option (Nat × List D)) (c : St → G → R Bool) (e : St → G → R D) : List D → St → G → R (List D)
  | [], _, g => if lockOk lk g then .ok [] g else .st
  | d :: r, s, g => if lockOk lk g then
      match setT t d (wipeA s (ownT t)) with
      | none => .st
      | some s1 => (c s1 g).bindN fun b g1 => if b = true then (e s1 g1).bindN fun x g2 => (compL t lk c e r s g2).bind fun xs g3 => .ok (x :: xs) g3 else compL t lk c e r s g1
    else .st

def whlL (c : St → G → R Bool) (body : St → G → F) : Nat → St → G → F
  | 0, _, _ => .st
  | n + 1, s, g => match c s g with
    | .ok true g1 => match body s g1 with
      | .nx s2 g2 => whlL c body n s2 g2
      | .ct s2 g2 => whlL c body n s2 g2
      | .bk s2 g2 => .nx s2 g2
      | f => f
    | .ok false g1 => .nx s g1
    | .exc x g1 => .ex x s g1
    | .st => .st

noncomputable def mkL (mu : Bool) (xs : List D) (g : G) : R D :=
  if xs.length ≤ LIM then (if mu = true then .ok (.ref g.length) (g ++ [.lst xs]) else .ok (.lst xs) g) else .st

def mkC (mu : Bool) (xs : List D) (g : G) : R D := if mu = true then .ok (.ref g.length) (g ++ [.lst xs]) else .ok (.lst xs) g

def asI : D → Option Int
  | .int i => some i
  | _ => none

mutual
noncomputable def evE (W : Fn) : LE → St → G → R D
  | .var i, s, g => match s[i]? with
    | some (some d) => .ok d g
    | _ => .st
  | .int i, _, g => .ok (.int i) g
  | .str x, _, g => .ok (.str x) g
  | .bl b, _, g => .ok (.bl b) g
  | .non, _, g => .ok .non g
  | .dnew, _, g => .ok (.ref g.length) (g ++ [.dk []])
  | .con c, _, g => .ok (W.con c) g
  | .tup es, s, g => (evEs W es s g).bind fun xs g => if xs.length ≤ LIM then .ok (.tup xs) g else .st
  | .lst mu es, s, g => (evEs W es s g).bind fun xs g => mkL mu xs g
  | .bin o a b, s, g => (evE W a s g).bind fun x g => (evE W b s g).bind fun y g => oR (binD o g x y) g
  | .neg a, s, g => (evE W a s g).bind fun x g => match x with
    | .int i => .ok (.int (-i)) g
    | _ => .st
  | .cmp o a b, s, g => (evE W a s g).bind fun x g => (evE W b s g).bind fun y g => (oR (cmpD o g x y) g).bind fun k g => .ok (.bl k) g
  | .chain o o' a b c, s, g => (evE W a s g).bind fun x g => (evE W b s g).bind fun y g => (oR (cmpD o g x y) g).bind fun k g =>
      if k = true then (evE W c s g).bind fun z g => (oR (cmpD o' g y z) g).bind fun k g => .ok (.bl k) g else .ok (.bl false) g
  | .and a b, s, g => (evE W a s g).bind fun x g => match x with
    | .bl true => evE W b s g
    | .bl false => .ok (.bl false) g
    | _ => .st
  | .or a b, s, g => (evE W a s g).bind fun x g => match x with
    | .bl true => .ok (.bl true) g
    | .bl false => evE W b s g
    | _ => .st
  | .not a, s, g => (evE W a s g).bind fun x g => match x with
    | .bl b => .ok (.bl (!b)) g
    | _ => .st
  | .ifx c a b, s, g => (evC W c s g).bind fun k g => if k = true then evE W a s g else evE W b s g
  | .idx a b, s, g => (evE W a s g).bind fun x g => (evE W b s g).bind fun y g => oR (idxD g x y) g
  | .sli a lo hi, s, g => (evE W a s g).bind fun x g => (evO W lo s g).bind fun l g => (evO W hi s g).bind fun u g => oR (sliD g x l u) g
  | .index a e, s, g => (evE W a s g).bind fun x g => match view g x with
    | .lst _ => (evE W e s g).bind fun y g => oR (indexD g x y) g
    | _ => .st
  | .call f es, s, g => (evEs W es s g).bind fun xs g => W.call f xs g
  | .bi b es, s, g => (evEs W es s g).bind fun xs g => oR (biD b g xs) g
  | .isi a ts, s, g => (evE W a s g).bind fun x g => (oR (isTys g x ts) g).bind fun k g => .ok (.bl k) g
  | .comp mu e t i c, s, g => (evI W i s g).bind fun p g => (compL t p.2 (evCs W c) (evE W e) p.1 s g).bind fun xs g => mkC mu xs g
noncomputable def evEs (W : Fn) : LEs → St → G → R (List D)
  | .nil, _, g => .ok [] g
  | .cons e es, s, g => (evE W e s g).bind fun x g => (evEs W es s g).bind fun xs g => .ok (x :: xs) g
noncomputable def evO (W : Fn) : LO → St → G → R (Option Int)
  | .no, _, g => .ok none g
  | .yes e, s, g => (evE W e s g).bind fun x g => (oR (asI x) g).bind fun i g => .ok (some i) g
noncomputable def evC (W : Fn) : LC → St → G → R Bool
  | .val e, s, g => (evE W e s g).bind fun x g => oR (truD g x) g
  | .cmp o a b, s, g => (evE W a s g).bind fun x g => (evE W b s g).bind fun y g => oR (cmpD o g x y) g
  | .chain o o' a b c, s, g => (evE W a s g).bind fun x g => (evE W b s g).bind fun y g => (oR (cmpD o g x y) g).bind fun k g =>
      if k = true then (evE W c s g).bind fun z g => oR (cmpD o' g y z) g else .ok false g
  | .and a b, s, g => (evC W a s g).bind fun k g => if k = true then evC W b s g else .ok false g
  | .or a b, s, g => (evC W a s g).bind fun k g => if k = true then .ok true g else evC W b s g
  | .not a, s, g => (evC W a s g).bind fun k g => .ok (!k) g
noncomputable def evCs (W : Fn) : LCs → St → G → R Bool
  | .no, _, g => .ok true g
  | .yes c, s, g => evC W c s g
noncomputable def evI (W : Fn) : LI → St → G → R (List D × Option (Nat × List D))
  | .seq e, s, g => (evE W e s g).bind fun x g => match x with
    | .tup xs => .ok (xs, none) g
    | .lst xs => .ok (xs, none) g
    | .ref a => match g[a]? with
      | some (.lst xs) => .ok (xs, some (a, xs)) g
      | _ => .st
    | _ => .st
  | .range1 a, s, g => (evE W a s g).bind fun x g => (oR (asI x) g).bind fun n g => if okR 0 n ∧ n.toNat ≤ LIM then .ok ((rangeI 0 n).map .int, none) g else .st
  | .range2 a b, s, g => (evE W a s g).bind fun x g => (evE W b s g).bind fun y g => (oR (asI x) g).bind fun lo g => (oR (asI y) g).bind fun hi g =>
      if okR lo hi ∧ (hi - lo).toNat ≤ LIM then .ok ((rangeI lo hi).map .int, none) g else .st
end

def toF (r : R D) (s : St) (k : D → G → F) : F :=
  match r with
  | .ok d g => k d g
  | .exc x g => .ex x s g
  | .st => .st
@[simp] theorem toF_ok (d : D) (g : G) (s : St) (k : D → G → F) : toF (.ok d g) s k = k d g := rfl
@[simp] theorem toF_exc (d : D) (g : G) (s : St) (k : D → G → F) : toF (.exc d g) s k = .ex d s g := rfl
@[simp] theorem toF_st (s : St) (k : D → G → F) : toF .st s k = .st := rfl

/-- xs[i], d[k] at a place; xs[i] = v, d[k] = v -/
def getP (g : G) (x y : D) : Option D := match x with
  | .ref p => match g[p]? with
    | some (.lst xs) => match y with
      | .int i => (ixn xs.length i).bind fun j => xs[j]?
      | _ => none
    | some (.dk kvs) => (keyD y).bind fun k => valK kvs k
    | _ => none
  | _ => none
noncomputable def putP (x y v : D) (g : G) : Option G := match x with
  | .ref p => match g[p]? with
    | some (.lst xs) => match y with
      | .int i => (ixn xs.length i).map fun j => g.set p (.lst (xs.set j v))
      | _ => none
    | some (.dk kvs) => if kvs.length < LIM then (keyD y).map fun k => g.set p (.dk (putK kvs k v)) else none
    | _ => none
  | _ => none
def nxO (s : St) : Option G → F
  | some g => .nx s g
  | none => .st

mutual
noncomputable def evS (W : Fn) : LS → St → G → F
  | .expr e, s, g => toF (evE W e s g) s fun _ g => .nx s g
  | .set i e, s, g => toF (evE W e s g) s fun d g => if i < s.length then .nx (s.set i (some d)) g else .st
  | .unp is e, s, g => toF (evE W e s g) s fun d g => match setT (.tup is) d s with
    | some s' => .nx s' g
    | none => .st
  | .par i j a b, s, g => toF (evE W a s g) s fun x g => toF (evE W b s g) s fun y g =>
      if i < s.length ∧ j < s.length ∧ i ≠ j then .nx ((s.set i (some x)).set j (some y)) g else .st
  | .aug i o e, s, g => match s[i]? with
    | some (some x) => toF (evE W e s g) s fun y g => match o, x, y with
      | .add, .int p, .int q => .nx (s.set i (some (.int (p + q)))) g
      | .sub, .int p, .int q => .nx (s.set i (some (.int (p - q)))) g
      | _, _, _ => .st
    | _ => .st
  | .seti a b e, s, g => toF (evE W e s g) s fun v g => toF (evE W a s g) s fun x g => toF (evE W b s g) s fun y g => nxO s (putP x y v g)
  | .augi o a b e, s, g => toF (evE W a s g) s fun x g => toF (evE W b s g) s fun y g => match getP g x y with
    | some old => toF (evE W e s g) s fun v g => match o, old, v with
      | .add, .int m, .int n => nxO s (putP x y (.int (m + n)) g)
      | .sub, .int m, .int n => nxO s (putP x y (.int (m - n)) g)
      | _, _, _ => .st
    | none => .st
  | .app a e, s, g => toF (evE W a s g) s fun x g => match x with
    | .ref p => match g[p]? with
      | some (.lst _) => toF (evE W e s g) s fun v g => match g[p]? with
        | some (.lst xs) => if xs.length < LIM then .nx s (g.set p (.lst (xs ++ [v]))) else .st
        | _ => .st
      | _ => .st
    | _ => .st
  | .ite c a b, s, g => match evC W c s g with
    | .ok true g => evSs W a s g
    | .ok false g => evSs W b s g
    | .exc x g => .ex x s g
    | .st => .st
  | .for_ t i b, s, g => match evI W i s g with
    | .ok p g => forL t p.2 (evSs W b) p.1 s g
    | .exc x g => .ex x s g
    | .st => .st
  | .whl c b, s, g => whlL (evC W c) (evSs W b) W.fuel s g
  | .ret e, s, g => toF (evE W e s g) s fun d g => .rt d g
  | .retn, s, g => .rt .non g
  | .pass, s, g => .nx s g
  | .brk, s, g => .bk s g
  | .cnt, s, g => .ct s g
noncomputable def evSs (W : Fn) : LSs → St → G → F
  | .nil, s, g => .nx s g
  | .cons c r, s, g => match evS W c s g with
    | .nx s g => evSs W r s g
    | f => f
end

/-! ### a def's end: what it made is forgotten, its value is told without places -/
def omap {A B : Type} (f : A → Option B) : List A → Option (List B)
  | [] => some []
  | x :: r => match f x, omap f r with
    | some y, some ys => some (y :: ys)
    | _, _ => none
theorem omap_id {A : Type} {f : A → Option A} : ∀ {xs : List A}, (∀ x ∈ xs, f x = some x) → omap f xs = some xs
  | [], _ => rfl
  | x :: r, h => by
    simp only [omap]
    rw [h x (by simp), omap_id fun y hy => h y (by simp [hy])]
def snap (L : List O) (n : Nat) : Nat → D → Option D
  | 0, _ => none
  | k + 1, d => match d with
    | .tup xs => (omap (snap L n k) xs).map .tup
    | .lst xs => (omap (snap L n k) xs).map .lst
    | .obj c ks fs => (omap (snap L n k) fs).map (.obj c ks)
    | .exn c ks fs => (omap (snap L n k) fs).map (.exn c ks)
    | .ref a => if a < n then some (.ref a) else match L[a - n]? with
      | some (.lst xs) => (omap (snap L n k) xs).map .lst
      | some (.ins c ks fs) => (omap (snap L n k) fs).map (.obj c ks)
      | _ => none
    | d => some d
mutual
/-- no places within, no deeper than n -/
def pur : Nat → D → Bool
  | 0, _ => false
  | n + 1, .tup xs => purs n xs
  | n + 1, .lst xs => purs n xs
  | n + 1, .obj _ _ xs => purs n xs
  | n + 1, .exn _ _ xs => purs n xs
  | _, .ref _ => false
  | _ + 1, _ => true
def purs : Nat → List D → Bool
  | _, [] => true
  | n, x :: xs => pur n x && purs n xs
end
theorem purs_iff (n : Nat) : ∀ xs : List D, purs n xs = true ↔ ∀ x ∈ xs, pur n x = true
  | [] => by simp [purs]
  | x :: xs => by simp [purs, purs_iff n xs]
theorem snap_pur (L : List O) (m : Nat) : ∀ (n : Nat) (d : D), pur n d = true → snap L m n d = some d
  | 0, d, h => by simp [pur] at h
  | n + 1, d, h => by
    cases d <;> first
      | rfl
      | (simp only [pur, purs_iff] at h
         simp only [snap]
         rw [omap_id fun x hx => snap_pur L m n x (h x hx)]
         rfl)
      | (simp [pur] at h)

mutual
/-- no places from n on within -/
def low (n : Nat) : D → Bool
  | .tup xs => lows n xs
  | .lst xs => lows n xs
  | .obj _ _ xs => lows n xs
  | .exn _ _ xs => lows n xs
  | .ref a => decide (a < n)
  | _ => true
def lows (n : Nat) : List D → Bool
  | [] => true
  | x :: xs => low n x && lows n xs
end
def lowO (n : Nat) : O → Bool
  | .lst xs => lows n xs
  | .ins _ _ xs => lows n xs
  | .dk kvs => lows n (kvs.map (·.2))
@[simp] theorem lows_ints (n : Nat) (ns : List Int) : lows n (ns.map D.int) = true := by
  induction ns with
  | nil => rfl
  | cons a r ih => simp [lows, low, ih]
/-- the old objects are as they were, or hold no new places -/
def OldOk (g0 g : G) : Prop := g0.length ≤ g.length ∧ ∀ a o, a < g0.length → g[a]? = some o → g0[a]? = some o ∨ lowO g0.length o = true

open Classical in
noncomputable def exitD (keep : Bool) (g0 : G) (d : D) (g : G) : R D :=
  if keep = true then .ok d g
  else if g.length = g0.length then .ok d g
  else if OldOk g0 g then oR (snap (g.drop g0.length) g0.length 60 d) (g.take g0.length)
  else .ok d g
theorem exitD_len (g0 g : G) (d : D) (h : g.length = g0.length) : exitD false g0 d g = .ok d g := by simp [exitD, h]
@[simp] theorem exitD_same (g0 : G) (d : D) : exitD false g0 d g0 = .ok d g0 := exitD_len _ _ _ rfl
theorem exitD_old (g0 g1 L : G) (d r : D) (hl : g1.length = g0.length) (h : ∀ a o, a < g0.length → g1[a]? = some o → g0[a]? = some o ∨ lowO g0.length o = true) (hd : snap L g0.length 60 d = some r) (hn : L = [] → r = d) : exitD false g0 d (g1 ++ L) = .ok r g1 := by
  unfold exitD
  rw [if_neg (by simp)]
  have ht : (g1 ++ L).take g0.length = g1 := by rw [← hl]; simp
  have hdr : (g1 ++ L).drop g0.length = L := by rw [← hl]; simp
  split
  · rename_i e
    have : L = [] := by
      rw [List.length_append, hl] at e
      exact List.eq_nil_of_length_eq_zero (by omega)
    rw [hn this, this, List.append_nil]
  · rw [if_pos, hdr, hd, ht]
    · rfl
    · refine ⟨by rw [List.length_append, hl]; omega, fun a o ha e => h a o ha ?_⟩
      rwa [List.getElem?_append_left (by omega)] at e
theorem exitD_app (g0 L : G) (d r : D) (hd : snap L g0.length 60 d = some r) (hn : L = [] → r = d) : exitD false g0 d (g0 ++ L) = .ok r g0 :=
  exitD_old g0 g0 L d r rfl (fun _ _ _ e => .inl e) hd hn
theorem exitD_pur (g0 L : G) (d : D) (h : pur 60 d = true) : exitD false g0 d (g0 ++ L) = .ok d g0 :=
  exitD_app g0 L d d (snap_pur _ _ _ _ h) fun _ => rfl
theorem exitD_set (g0 L : G) (d r : D) (p : Nat) (o : O) (ho : lowO g0.length o = true) (hd : snap L g0.length 60 d = some r) (hn : L = [] → r = d) : exitD false g0 d (g0.set p o ++ L) = .ok r (g0.set p o) := by
  refine exitD_old g0 _ L d r (by simp) (fun a o' ha e => ?_) hd hn
  by_cases h : p = a
  · subst h
    rw [List.getElem?_set_self ha] at e
    cases e
    exact .inr ho
  · rw [List.getElem?_set_ne h] at e
    exact .inl e

def start (F : LF) (ds : List D) : St := ds.map some ++ List.replicate (F.n - F.np) none

noncomputable def endF (keep : Bool) (g0 : G) : F → R D
  | .nx _ g => exitD keep g0 .non g
  | .rt d g => exitD keep g0 d g
  | .ex x _ g => match exitD keep g0 x g with
    | .ok x g => .exc x g
    | _ => .st
  | _ => .st

noncomputable def callF (P : Nat → Option LF) (con : Nat → D) (fuel : Nat) : Nat → Nat → List D → G → R D
  | 0, _, _, _ => .st
  | k + 1, f, ds, g => match P f with
    | none => .st
    | some F => if ds.length = F.np then endF F.keep g (evSs ⟨callF P con fuel k, con, fuel⟩ F.body (start F ds) g) else .st

end KN

namespace KN
open PySem PySem.Spec PyProof.Rows L2

structure Tb where
  fad : Nat → Addr
  cad : Nat → Addr
  knm : Nat → Str

/-- where the places stand (m), and what is kept apart (b) -/
structure Mp where
  m : List Addr
  b : List Addr
def Mp.out (M : Mp) (p : Addr) : Prop := p ∉ M.m ∧ p ∉ M.b

section
variable (K : PySem.W.Frag) (T : Tb)

def TupM (M : Mp) (H : Hp) (p : Addr) (vs : List V) : Prop :=
  (Rd H p (.tup vs) ∧ M.out p) ∨ ∃ (o : Obj) (its : Array Value) (n : Nat), K.lookup p = some o ∧ o.cls = .type "tuple" ∧ o.data = .seq its n ∧ its.size ≤ sizeLine ∧ Vals vs its.toList
def ScrM (M : Mp) (H : Hp) (p : Addr) (vs : List V) : Prop :=
  (Rd H p (.lst vs) ∧ M.out p) ∨ ∃ (o : Obj) (its : Array Value) (n : Nat), K.lookup p = some o ∧ o.cls = .type "list" ∧ o.dict = none ∧ o.data = .seq its n ∧ its.size ≤ sizeLine ∧ Vals vs its.toList
theorem TupM.sq {M : Mp} {H : Hp} {p : Addr} {vs : List V} (h : TupM K M H p vs) : SqT K H p vs := h.imp (·.1) id
theorem ScrM.sq {M : Mp} {H : Hp} {p : Addr} {vs : List V} (h : ScrM K M H p vs) : SqL K H p vs := h.imp (·.1) id

mutual
/-- a value of ours stands for a value of the layer -/
def RD (M : Mp) (H : Hp) : D → V → Prop
  | .non, v => v = .non
  | .bl b, v => v = .bl b
  | .int i, v => v = .int i
  | .str s, v => v = .str s
  | .tup xs, v => ∃ p vs, v = .ref p ∧ TupM K M H p vs ∧ vs.length ≤ LIM ∧ RDs M H xs vs
  | .lst xs, v => ∃ p vs, v = .ref p ∧ (H p = some (.lst vs) ∧ M.out p) ∧ vs.length ≤ LIM ∧ RDs M H xs vs
  | .scr ns, v => ∃ p, v = .ref p ∧ ScrM K M H p (ns.map V.int)
  | .rng lo hi, v => ∃ p, v = .ref p ∧ H p = some (.rng lo hi) ∧ M.out p
  | .obj c ks fs, v => ∃ p dx fvs, v = .ref p ∧ (H p = some (.ins (T.cad c) dx fvs) ∧ M.out p) ∧ fvs.map (·.1) = ks.map T.knm ∧ RDs M H fs (fvs.map (·.2))
  | .exn _ _ _, _ => False
  | .ref a, v => ∃ p, M.m[a]? = some p ∧ v = .ref p
  | .fn f, v => v = .ref (T.fad f)
def RDs (M : Mp) (H : Hp) : List D → List V → Prop
  | [], vs => vs = []
  | d :: ds, vs => ∃ v r, vs = v :: r ∧ RD M H d v ∧ RDs M H ds r
end

/-- a raised one: its class, its own dict -/
def RX (M : Mp) (H : Hp) : D → Value → Option Addr → Prop
  | .exn c ks fs, cls, dd => cls = .ref (T.cad c) ∧ ((ks = [] ∧ fs = []) ∨ ∃ d fvs, dd = some d ∧ H d = some (.xd fvs) ∧ M.out d ∧ fvs.map (·.1) = ks.map T.knm ∧ RDs K T M H fs (fvs.map (·.2)))
  | _, _, _ => False

def RO (M : Mp) (H : Hp) : O → Addr → Prop
  | .lst xs, p => ∃ vs, H p = some (.lst vs) ∧ vs.length ≤ LIM ∧ RDs K T M H xs vs
  | .ins c ks fs, p => ∃ dx fvs, H p = some (.ins (T.cad c) dx fvs) ∧ fvs.map (·.1) = ks.map T.knm ∧ RDs K T M H fs (fvs.map (·.2))
  | .dk kvs, p => ∃ vs : List (Key × V), H p = some (.dK vs) ∧ vs.length ≤ LIM ∧ vs.map (·.1) = kvs.map (·.1) ∧ RDs K T M H (kvs.map (·.2)) (vs.map (·.2))

structure HR (M : Mp) (H : Hp) (g : G) : Prop where
  len : M.m.length = g.length
  nd : M.m.Nodup
  ob : ∀ (a : Nat) o p, g[a]? = some o → M.m[a]? = some p → RO K T M H o p
  th : ∀ p, ¬ M.out p → ∃ o, H p = some o
  ap : ∀ p ∈ M.b, p ∉ M.m

structure RS (M : Mp) (H : Hp) (g : G) (s : KN.St) (σ : L2.St) : Prop where
  hr : HR K T M H g
  len : σ.length = s.length
  sl : ∀ (i : Nat) d, s[i]? = some (some d) → ∃ v, σ[i]? = some (some v) ∧ RD K T M H d v
end

structure Ext (M : Mp) (H : Hp) (M' : Mp) (H' : Hp) : Prop where
  sub : ∀ p ∈ M.b, p ∈ M'.b
  bf : ∀ p ∈ M'.b, p ∈ M.b ∨ p ∈ M.m ∨ H p = none
  pre : M.m <+: M'.m
  keep : ∀ p o, H p = some o → p ∉ M.m → H' p = some o
  fresh : ∀ p ∈ M'.m, p ∈ M.m ∨ H p = none

theorem Ext.refl (M : Mp) (H : Hp) : Ext M H M H := ⟨fun _ h => h, fun _ h => .inl h, List.prefix_refl _, fun _ _ h _ => h, fun _ h => .inl h⟩
theorem Ext.gone {M M1 : Mp} {H H1 : Hp} (a : Ext M H M1 H1) {p : Addr} (z : H1 p = none) : p ∈ M.m ∨ H p = none := by
  by_cases hm : p ∈ M.m
  · exact .inl hm
  · refine .inr ?_
    cases e : H p with
    | none => rfl
    | some o => have := a.keep p o e hm; rw [z] at this; cases this
theorem Ext.trans {M M1 M2 : Mp} {H H1 H2 : Hp} (a : Ext M H M1 H1) (b : Ext M1 H1 M2 H2) : Ext M H M2 H2 := by
  refine ⟨fun p h => b.sub p (a.sub p h), fun p h => ?_, a.pre.trans b.pre, fun p o h hp => ?_, fun p hp => ?_⟩
  · rcases b.bf p h with z | z | z
    · exact a.bf p z
    · exact .inr (a.fresh p z)
    · exact .inr (a.gone z)
  · have h1 := a.keep p o h hp
    refine b.keep p o h1 fun hm => ?_
    rcases a.fresh p hm with z | z
    · exact hp z
    · rw [z] at h; cases h
  · rcases b.fresh p hp with z | z
    · exact a.fresh p z
    · exact a.gone z
theorem Ext.out {M M' : Mp} {H H' : Hp} (e : Ext M H M' H') {p : Addr} {o : HO} (h : H p = some o) (hp : M.out p) : M'.out p ∧ H' p = some o := by
  refine ⟨⟨fun hm => ?_, fun hm => ?_⟩, e.keep p o h hp.1⟩
  · rcases e.fresh p hm with z | z
    · exact hp.1 z
    · rw [z] at h; cases h
  · rcases e.bf p hm with z | z | z
    · exact hp.2 z
    · exact hp.1 z
    · rw [z] at h; cases h

section
variable {K : PySem.W.Frag} {T : Tb} {M M' : Mp} {H H' : Hp}

theorem Ext.tup (e : Ext M H M' H') {p : Addr} {vs : List V} (h : TupM K M H p vs) : TupM K M' H' p vs := by
  rcases h with ⟨h | ⟨o, h⟩, ho⟩ | h
  · exact .inl ⟨.inl (e.out h ho).2, (e.out h ho).1⟩
  · exact .inl ⟨.inr ⟨o, (e.out h ho).2⟩, (e.out h ho).1⟩
  · exact .inr h
theorem Ext.scr (e : Ext M H M' H') {p : Addr} {vs : List V} (h : ScrM K M H p vs) : ScrM K M' H' p vs := by
  rcases h with ⟨h | ⟨o, h⟩, ho⟩ | h
  · exact .inl ⟨.inl (e.out h ho).2, (e.out h ho).1⟩
  · exact .inl ⟨.inr ⟨o, (e.out h ho).2⟩, (e.out h ho).1⟩
  · exact .inr h

/-- what values lean on stays -/
structure Keeps (M : Mp) (H : Hp) (M' : Mp) (H' : Hp) : Prop where
  out : ∀ p o, H p = some o → M.out p → M'.out p ∧ H' p = some o
  pre : ∀ (a : Nat) p, M.m[a]? = some p → M'.m[a]? = some p
theorem Ext.keeps (e : Ext M H M' H') : Keeps M H M' H' := ⟨fun p o h ho => e.out h ho, fun a p h => by
  obtain ⟨t, ht⟩ := e.pre
  rw [← ht, List.getElem?_append_left (List.getElem?_eq_some_iff.mp h).1]
  exact h⟩
theorem Keeps.tup (e : Keeps M H M' H') {p : Addr} {vs : List V} (h : TupM K M H p vs) : TupM K M' H' p vs := by
  rcases h with ⟨h | ⟨o, h⟩, ho⟩ | h
  · exact .inl ⟨.inl (e.out _ _ h ho).2, (e.out _ _ h ho).1⟩
  · exact .inl ⟨.inr ⟨o, (e.out _ _ h ho).2⟩, (e.out _ _ h ho).1⟩
  · exact .inr h
theorem Keeps.scr (e : Keeps M H M' H') {p : Addr} {vs : List V} (h : ScrM K M H p vs) : ScrM K M' H' p vs := by
  rcases h with ⟨h | ⟨o, h⟩, ho⟩ | h
  · exact .inl ⟨.inl (e.out _ _ h ho).2, (e.out _ _ h ho).1⟩
  · exact .inl ⟨.inr ⟨o, (e.out _ _ h ho).2⟩, (e.out _ _ h ho).1⟩
  · exact .inr h
mutual
theorem RD.keeps (e : Keeps M H M' H') : ∀ (d : D) (v : V), RD K T M H d v → RD K T M' H' d v
  | .non, v, h => h
  | .bl _, v, h => h
  | .int _, v, h => h
  | .str _, v, h => h
  | .tup xs, v, h => by
    obtain ⟨p, vs, e1, h1, h2, h3⟩ := h
    exact ⟨p, vs, e1, e.tup h1, h2, RDs.keeps e xs vs h3⟩
  | .lst xs, v, h => by
    obtain ⟨p, vs, e1, h1, h2, h3⟩ := h
    have q := e.out _ _ h1.1 h1.2
    exact ⟨p, vs, e1, ⟨q.2, q.1⟩, h2, RDs.keeps e xs vs h3⟩
  | .scr xs, v, h => by
    obtain ⟨p, e1, h1⟩ := h
    exact ⟨p, e1, e.scr h1⟩
  | .rng a b, v, h => by
    obtain ⟨p, e1, h1, h2⟩ := h
    have q := e.out _ _ h1 h2
    exact ⟨p, e1, q.2, q.1⟩
  | .obj c ks fs, v, h => by
    obtain ⟨p, dx, fvs, e1, h1, h2, h3⟩ := h
    have q := e.out _ _ h1.1 h1.2
    exact ⟨p, dx, fvs, e1, ⟨q.2, q.1⟩, h2, RDs.keeps e fs _ h3⟩
  | .exn _ _ _, v, h => h
  | .ref a, v, h => by
    obtain ⟨p, h1, h2⟩ := h
    exact ⟨p, e.pre _ _ h1, h2⟩
  | .fn _, v, h => h
theorem RDs.keeps (e : Keeps M H M' H') : ∀ (ds : List D) (vs : List V), RDs K T M H ds vs → RDs K T M' H' ds vs
  | [], vs, h => h
  | d :: ds, vs, h => by
    obtain ⟨v, r, e1, h1, h2⟩ := h
    exact ⟨v, r, e1, RD.keeps e d v h1, RDs.keeps e ds r h2⟩
end
theorem RD.ext (e : Ext M H M' H') (d : D) (v : V) (h : RD K T M H d v) : RD K T M' H' d v := RD.keeps e.keeps d v h
theorem RDs.ext (e : Ext M H M' H') (ds : List D) (vs : List V) (h : RDs K T M H ds vs) : RDs K T M' H' ds vs := RDs.keeps e.keeps ds vs h
theorem RO.keeps (e : Keeps M H M' H') {o : O} {p : Addr} (hp : H' p = H p) (h : RO K T M H o p) : RO K T M' H' o p := by
  cases o with
  | lst xs =>
    obtain ⟨vs, h1, h2, h3⟩ := h
    exact ⟨vs, hp.trans h1, h2, RDs.keeps e _ _ h3⟩
  | ins c ks fs =>
    obtain ⟨dx, fvs, h1, h2, h3⟩ := h
    exact ⟨dx, fvs, hp.trans h1, h2, RDs.keeps e _ _ h3⟩
  | dk kvs =>
    obtain ⟨vs, h1, h2, h3, h4⟩ := h
    exact ⟨vs, hp.trans h1, h2, h3, RDs.keeps e _ _ h4⟩

theorem RDs.length : ∀ {ds : List D} {vs : List V}, RDs K T M H ds vs → ds.length = vs.length
  | [], vs, h => by cases h; rfl
  | d :: ds, vs, h => by
    obtain ⟨v, r, rfl, h1, h2⟩ := h
    simp [RDs.length h2]
theorem RDs.get : ∀ {ds : List D} {vs : List V} {i : Nat} {d : D}, RDs K T M H ds vs → ds[i]? = some d → ∃ v, vs[i]? = some v ∧ RD K T M H d v
  | [], vs, i, d, h, e => by simp at e
  | x :: ds, vs, i, d, h, e => by
    obtain ⟨v, r, rfl, h1, h2⟩ := h
    cases i with
    | zero => simp at e; subst e; exact ⟨v, rfl, h1⟩
    | succ i => simpa using RDs.get (i := i) h2 (by simpa using e)
theorem RDs.append : ∀ {ds es : List D} {vs ws : List V}, RDs K T M H ds vs → RDs K T M H es ws → RDs K T M H (ds ++ es) (vs ++ ws)
  | [], es, vs, ws, h, h' => by cases h; exact h'
  | x :: ds, es, vs, ws, h, h' => by
    obtain ⟨v, r, rfl, h1, h2⟩ := h
    exact ⟨v, r ++ ws, rfl, h1, RDs.append h2 h'⟩
theorem RDs.set : ∀ {ds : List D} {vs : List V} (i : Nat) {d : D} {v : V}, RDs K T M H ds vs → RD K T M H d v → RDs K T M H (ds.set i d) (vs.set i v)
  | [], vs, i, d, v, h, _ => by cases h; rfl
  | x :: ds, vs, i, d, v, h, hd => by
    obtain ⟨v', r, rfl, h1, h2⟩ := h
    cases i with
    | zero => exact ⟨v, r, rfl, hd, h2⟩
    | succ i => exact ⟨v', r.set i v, rfl, h1, RDs.set i h2 hd⟩
theorem RDs.take : ∀ {ds : List D} {vs : List V} (n : Nat), RDs K T M H ds vs → RDs K T M H (ds.take n) (vs.take n)
  | _, _, 0, _ => by rfl
  | [], vs, n + 1, h => by cases h; rfl
  | x :: ds, vs, n + 1, h => by
    obtain ⟨v, r, rfl, h1, h2⟩ := h
    exact ⟨v, r.take n, rfl, h1, RDs.take n h2⟩
theorem RDs.drop : ∀ {ds : List D} {vs : List V} (n : Nat), RDs K T M H ds vs → RDs K T M H (ds.drop n) (vs.drop n)
  | ds, vs, 0, h => by simpa using h
  | [], vs, n + 1, h => by cases h; rfl
  | x :: ds, vs, n + 1, h => by
    obtain ⟨v, r, rfl, h1, h2⟩ := h
    simpa using RDs.drop n h2
theorem RDs.ints {ns : List Int} : RDs K T M H (ns.map D.int) (ns.map V.int) := by
  induction ns with
  | nil => rfl
  | cons n r ih => exact ⟨_, _, rfl, rfl, ih⟩
theorem RDs.of_ints : ∀ {ds : List D} {ns : List Int} {vs : List V}, KN.intsD ds = some ns → RDs K T M H ds vs → vs = ns.map V.int
  | [], ns, vs, e, h => by simp [KN.intsD] at e; subst e; exact h
  | d :: ds, ns, vs, e, h => by
    obtain ⟨v, r, rfl, h1, h2⟩ := h
    cases d <;> simp [KN.intsD] at e
    obtain ⟨ms, e1, rfl⟩ := e
    cases h1
    rw [RDs.of_ints e1 h2]; rfl
theorem RDs.of_bools : ∀ {ds : List D} {ns : List Bool} {vs : List V}, KN.bools ds = some ns → RDs K T M H ds vs → vs = ns.map V.bl
  | [], ns, vs, e, h => by simp [KN.bools] at e; subst e; exact h
  | d :: ds, ns, vs, e, h => by
    obtain ⟨v, r, rfl, h1, h2⟩ := h
    cases d <;> simp [KN.bools] at e
    obtain ⟨ms, e1, rfl⟩ := e
    cases h1
    rw [RDs.of_bools e1 h2]; rfl

/-- a new object, no place -/
theorem Ext.new {p : Addr} {o : HO} (h : H p = none) : Ext M H M (upd H p o) :=
  ⟨fun _ h => h, fun _ h => .inl h, List.prefix_refl _, fun q u e _ => by rw [upd_ne (ne_of_none e h)]; exact e, fun _ h => .inl h⟩
theorem RO.ext (e : Ext M H M' H') {o : O} {p : Addr} (hp : H' p = H p) (h : RO K T M H o p) : RO K T M' H' o p := by
  cases o with
  | lst xs =>
    obtain ⟨vs, h1, h2, h3⟩ := h
    exact ⟨vs, hp.trans h1, h2, RDs.ext e _ _ h3⟩
  | ins c ks fs =>
    obtain ⟨dx, fvs, h1, h2, h3⟩ := h
    exact ⟨dx, fvs, hp.trans h1, h2, RDs.ext e _ _ h3⟩
  | dk kvs =>
    obtain ⟨vs, h1, h2, h3, h4⟩ := h
    exact ⟨vs, hp.trans h1, h2, h3, RDs.ext e _ _ h4⟩
theorem HR.out {g : G} (h : HR K T M H g) {p : Addr} (e : H p = none) : M.out p := by
  by_cases q : M.out p
  · exact q
  · obtain ⟨o, z⟩ := h.th p q
    rw [e] at z; cases z
theorem HR.new {g : G} (h : HR K T M H g) {p : Addr} {o : HO} (e : H p = none) : HR K T M (upd H p o) g := by
  refine ⟨h.len, h.nd, fun a u q h1 h2 => ?_, fun q hq => ?_, h.ap⟩
  · have ho := h.ob a u q h1 h2
    refine RO.ext (Ext.new e) ?_ ho
    refine upd_ne fun z => ?_
    subst z
    exact (h.out e).1 (List.mem_of_getElem? h2)
  · obtain ⟨u, z⟩ := h.th q hq
    exact ⟨u, by rw [upd_ne (ne_of_none z e)]; exact z⟩
/-- .. that is a place -/
theorem Ext.newRef {p : Addr} {o : HO} (h : H p = none) : Ext M H ⟨M.m ++ [p], M.b⟩ (upd H p o) :=
  ⟨fun _ h => h, fun _ h => .inl h, List.prefix_append _ _, fun q u e _ => by rw [upd_ne (ne_of_none e h)]; exact e, fun q hq => by
    rcases List.mem_append.mp hq with z | z
    · exact .inl z
    · rw [List.mem_singleton.mp z]; exact .inr h⟩
theorem HR.newRef {g : G} (h : HR K T M H g) {p : Addr} {o : HO} {u : O} (e : H p = none) (ho : RO K T ⟨M.m ++ [p], M.b⟩ (upd H p o) u p) : HR K T ⟨M.m ++ [p], M.b⟩ (upd H p o) (g ++ [u]) := by
  have hp := h.out e
  refine ⟨by simp [h.len], ?_, fun a w q h1 h2 => ?_, fun q hq => ?_, fun q hq hm => ?_⟩
  · refine List.nodup_append.mpr ⟨h.nd, by simp, fun x hx y hy => ?_⟩
    rw [List.mem_singleton.mp hy]
    rintro rfl
    exact hp.1 hx
  · by_cases ha : a < g.length
    · rw [List.getElem?_append_left ha] at h1
      have h2' : (M.m ++ [p])[a]? = some q := h2
      rw [List.getElem?_append_left (by rw [h.len]; exact ha)] at h2'
      refine RO.ext (Ext.newRef e) ?_ (h.ob a w q h1 h2')
      refine upd_ne fun z => ?_
      subst z
      exact hp.1 (List.mem_of_getElem? h2')
    · have e1 : a = g.length := by
        have := (List.getElem?_eq_some_iff.mp h1).1
        simp at this; omega
      subst e1
      simp at h1
      have h2' : (M.m ++ [p])[g.length]? = some q := h2
      rw [← h.len] at h2'
      simp at h2'
      subst h1; subst h2'
      exact ho
  · by_cases z : q = p
    · exact ⟨o, by rw [z, upd_same]⟩
    · have : ¬ M.out q := fun w => hq ⟨fun hm => by
        rcases List.mem_append.mp hm with y | y
        · exact w.1 y
        · exact z (List.mem_singleton.mp y), w.2⟩
      obtain ⟨u', y⟩ := h.th q this
      exact ⟨u', by rw [upd_ne z]; exact y⟩
  · rcases List.mem_append.mp hm with y | y
    · exact h.ap q hq y
    · rw [List.mem_singleton.mp y] at hq
      exact hp.2 hq
/-- a place is written -/
theorem Ext.write {a : Nat} {p : Addr} {o : HO} (h : M.m[a]? = some p) : Ext M H M (upd H p o) :=
  ⟨fun _ h => h, fun _ h => .inl h, List.prefix_refl _, fun q u e hq => by
    rw [upd_ne fun z => hq (by rw [z]; exact List.mem_of_getElem? h)]; exact e, fun _ h => .inl h⟩
theorem HR.write {g : G} (h : HR K T M H g) {a : Nat} {p : Addr} {o : HO} {u : O} (ha : M.m[a]? = some p) (ho : RO K T M (upd H p o) u p) : HR K T M (upd H p o) (g.set a u) := by
  refine ⟨by simp [h.len], h.nd, fun c w q h1 h2 => ?_, fun q hq => ?_, h.ap⟩
  · by_cases hc : c = a
    · subst hc
      have hl : c < g.length := by rw [← h.len]; exact (List.getElem?_eq_some_iff.mp ha).1
      rw [List.getElem?_set_self hl] at h1
      cases h1
      rw [ha] at h2; cases h2
      exact ho
    · rw [List.getElem?_set_ne (Ne.symm hc)] at h1
      refine RO.ext (Ext.write ha) ?_ (h.ob c w q h1 h2)
      refine upd_ne fun z => hc ?_
      subst z
      obtain ⟨l1, e1⟩ := List.getElem?_eq_some_iff.mp ha
      obtain ⟨l2, e2⟩ := List.getElem?_eq_some_iff.mp h2
      exact (List.getElem_inj h.nd).mp (e2.trans e1.symm)
  · obtain ⟨u', y⟩ := h.th q hq
    by_cases z : q = p
    · exact ⟨o, by rw [z, upd_same]⟩
    · exact ⟨u', by rw [upd_ne z]; exact y⟩
theorem HR.at {g : G} (h : HR K T M H g) {a : Nat} {o : O} {p : Addr} (e : g[a]? = some o) (hp : M.m[a]? = some p) : RO K T M H o p := h.ob a o p e hp

theorem RS.ext {g g' : G} {s : KN.St} {σ : L2.St} (r : RS K T M H g s σ) (e : Ext M H M' H') (h : HR K T M' H' g') : RS K T M' H' g' s σ :=
  ⟨h, r.len, fun i d q => by
    obtain ⟨v, h1, h2⟩ := r.sl i d q
    exact ⟨v, h1, RD.ext e d v h2⟩⟩
theorem RS.set {g : G} {s : KN.St} {σ : L2.St} (r : RS K T M H g s σ) {i : Nat} {d : D} {v : V} (hi : i < s.length) (hd : RD K T M H d v) : RS K T M H g (s.set i (some d)) (σ.set i (some v)) := by
  refine ⟨r.hr, by simp [r.len], fun j d' q => ?_⟩
  by_cases hj : j = i
  · subst hj
    rw [List.getElem?_set_self hi] at q
    cases q
    exact ⟨v, by rw [List.getElem?_set_self (by rw [r.len]; exact hi)], hd⟩
  · rw [List.getElem?_set_ne (Ne.symm hj)] at q
    obtain ⟨v', h1, h2⟩ := r.sl j d' q
    exact ⟨v', by rw [List.getElem?_set_ne (Ne.symm hj)]; exact h1, h2⟩
end

/-! ### what a run of ours says -/
section
variable (K : PySem.W.Frag) (T : Tb)
def wpR {A : Type} (W : WX) (σ : L2.St) (M : Mp) (H : Hp) (r : R A) (post : A → Mp → Hp → G → Prop) : Prop :=
  match r with
  | .ok a g => ∀ M' H', Ext M H M' H' → HR K T M' H' g → post a M' H' g
  | .exc x g => ∀ M' H' cls dd, Ext M H M' H' → HR K T M' H' g → RX K T M' H' x cls dd → W cls dd σ H'
  | .st => False
end
section
variable {K : PySem.W.Frag} {T : Tb} {W : WX} {σ : L2.St} {M : Mp} {H : Hp} {A B : Type}
theorem wpR.ext {r : R A} {post : A → Mp → Hp → G → Prop} {M1 : Mp} {H1 : Hp} (h : wpR K T W σ M H r post) (e : Ext M H M1 H1) : wpR K T W σ M1 H1 r post := by
  cases r with
  | ok a g => exact fun M' H' e' => h M' H' (e.trans e')
  | exc x g => exact fun M' H' cls dd e' => h M' H' cls dd (e.trans e')
  | st => exact h
theorem wpR.bind {r : R A} {f : A → G → R B} {post : B → Mp → Hp → G → Prop} {mid : A → Mp → Hp → G → Prop} (h : wpR K T W σ M H (r.bind f) post)
    (k : ∀ a M1 H1 g1, Ext M H M1 H1 → HR K T M1 H1 g1 → wpR K T W σ M1 H1 (f a g1) post → mid a M1 H1 g1) : wpR K T W σ M H r mid := by
  cases r with
  | ok a g => exact fun M' H' e hr => k a M' H' g e hr (wpR.ext (show wpR K T W σ M H (f a g) post from h) e)
  | exc x g => exact h
  | st => exact h
theorem wpR.mono {r : R A} {post mid : A → Mp → Hp → G → Prop} (h : wpR K T W σ M H r post)
    (k : ∀ a M1 H1 g1, Ext M H M1 H1 → HR K T M1 H1 g1 → post a M1 H1 g1 → mid a M1 H1 g1) : wpR K T W σ M H r mid := by
  cases r with
  | ok a g => exact fun M' H' e hr => k a M' H' g e hr (h M' H' e hr)
  | exc x g => exact h
  | st => exact h
theorem wpR.at {a : A} {g : G} {post : A → Mp → Hp → G → Prop} (h : wpR K T W σ M H (.ok a g) post) (hr : HR K T M H g) : post a M H g := h M H (Ext.refl M H) hr
end

theorem _root_.L2.PE.via {X : Cx} {e : Expr} {t t' : TE} (h : PE X e t) (i : ∀ σ H Q, t' σ H Q → t σ H Q) : PE X e t' := ⟨fun pins s σ H Q I hw => h.run pins s σ H Q I (i _ _ _ hw)⟩
theorem _root_.L2.PT.via {X : Cx} {e : Expr} {t t' : TT} (h : PT X e t) (i : ∀ σ H Q, t' σ H Q → t σ H Q) : PT X e t' := ⟨fun pins s σ H Q I hw => h.run pins s σ H Q I (i _ _ _ hw)⟩
theorem _root_.L2.PA.via {X : Cx} {e : List Expr} {t t' : TA} (h : PA X e t) (i : ∀ σ H Q, t' σ H Q → t σ H Q) : PA X e t' := ⟨fun pos pins s σ H Q I hw => h.run pos pins s σ H Q I (i _ _ _ hw)⟩
theorem _root_.L2.PS.via {X : Cx} {e : Stmt} {t t' : TS} (h : PS X e t) (i : ∀ D σ H, t' D σ H → t D σ H) : PS X e t' := ⟨fun pins s σ H D I hw => h.run pins s σ H D I (i _ _ _ hw)⟩
theorem _root_.L2.PSs.via {X : Cx} {e : List Stmt} {t t' : TS} (h : PSs X e t) (i : ∀ D σ H, t' D σ H → t D σ H) : PSs X e t' := ⟨fun pins s σ H D I hw => h.run pins s σ H D I (i _ _ _ hw)⟩

section
variable (X : Cx) (T : Tb) (W : WX)
def lfE (ev : KN.St → G → R D) : TE := fun σ H Q => ∃ M s g, RS X.K T M H g s σ ∧ wpR X.K T W σ M H (ev s g) fun d M' H' _ => ∀ v, RD X.K T M' H' d v → Q v H'
def lfEs (ev : KN.St → G → R (List D)) : TA := fun σ H Q => ∃ M s g, RS X.K T M H g s σ ∧ wpR X.K T W σ M H (ev s g) fun ds M' H' _ => ∀ vs, RDs X.K T M' H' ds vs → Q vs H'
def lfC (ev : KN.St → G → R Bool) : TT := fun σ H Q => ∃ M s g, RS X.K T M H g s σ ∧ wpR X.K T W σ M H (ev s g) fun b _ H' _ => Q b H'
end

end KN

namespace KN
open PySem PySem.Spec PyProof.Rows L2

theorem LIM_eq : LIM = sizeLine := by rw [sizeLine_eq, lim_is]
theorem lim_of {n : Nat} (h : n ≤ LIM) : n ≤ sizeLine := by rw [← LIM_eq]; exact h
theorem six_eq (n d : Nat) (o : Option Int) : six n d o = HT.sIx n d o := by cases o <;> rfl
theorem cut_eq (xs : List V) (lo hi : Option Int) : cut xs lo hi = cutV xs lo hi := by unfold cut cutV; rw [six_eq, six_eq]
theorem ixn_eq (n : Nat) (i : Int) : ixn n i = ixN n i := rfl
theorem cut_map {A B : Type} (f : A → B) (xs : List A) (lo hi : Option Int) : (cut xs lo hi).map f = cut (xs.map f) lo hi := by
  unfold cut; rw [List.map_take, List.map_drop, List.length_map]
theorem cut_len {A : Type} (xs : List A) (lo hi : Option Int) : (cut xs lo hi).length ≤ xs.length := by
  unfold cut
  rw [List.length_take, List.length_drop]
  omega

section
variable {K : PySem.W.Frag} {T : Tb} {M : Mp} {H : Hp} {g : G}
theorem RDs.cut {ds : List D} {vs : List V} (h : RDs K T M H ds vs) (lo hi : Option Int) : RDs K T M H (cut ds lo hi) (cutV vs lo hi) := by
  rw [← cut_eq]
  unfold KN.cut
  rw [h.length]
  exact (h.drop _).take _
theorem RD.new_lst {p : Addr} {ds : List D} {vs : List V} (hr : HR K T M H g) (hp : H p = none) (h : RDs K T M H ds vs) (hl : vs.length ≤ LIM) : RD K T M (upd H p (.lst vs)) (.lst ds) (.ref p) :=
  ⟨p, vs, rfl, ⟨upd_same, hr.out hp⟩, hl, RDs.ext (Ext.new hp) _ _ h⟩
theorem RD.new_tup {p : Addr} {ds : List D} {vs : List V} (hr : HR K T M H g) (hp : H p = none) (h : RDs K T M H ds vs) (hl : vs.length ≤ LIM) : RD K T M (upd H p (.tup vs)) (.tup ds) (.ref p) :=
  ⟨p, vs, rfl, .inl ⟨.inl upd_same, hr.out hp⟩, hl, RDs.ext (Ext.new hp) _ _ h⟩
/-- what a view says -/
theorem RD.view (hr : HR K T M H g) {d : D} {v : V} (h : RD K T M H d v) :
    (∃ a xs p vs, d = .ref a ∧ view g d = .lst xs ∧ v = .ref p ∧ H p = some (.lst vs) ∧ vs.length ≤ LIM ∧ RDs K T M H xs vs) ∨ (∃ a, view g d = .ref a) ∨ view g d = d := by
  cases d with
  | ref a =>
    obtain ⟨p, h1, h2⟩ := h
    unfold KN.view
    cases e : g[a]? with
    | none => exact .inr (.inl ⟨a, by simp [e]⟩)
    | some o =>
      cases o with
      | lst xs =>
        obtain ⟨vs, q1, q2, q3⟩ := hr.at e h1
        exact .inl ⟨a, xs, p, vs, rfl, by simp [e], h2, q1, q2, q3⟩
      | ins c ks fs => exact .inr (.inl ⟨a, by simp [e]⟩)
      | dk k => exact .inr (.inl ⟨a, by simp [e]⟩)
  | _ => exact .inr (.inr rfl)
theorem RD.vint (hr : HR K T M H g) {d : D} {v : V} {i : Int} (h : RD K T M H d v) (e : KN.view g d = .int i) : v = .int i := by
  rcases h.view hr with ⟨a, xs, p, vs, _, e2, _⟩ | ⟨a, e2⟩ | e2
  · rw [e] at e2; cases e2
  · rw [e] at e2; cases e2
  · rw [e] at e2; subst e2; exact h
theorem RD.vstr (hr : HR K T M H g) {d : D} {v : V} {i : Str} (h : RD K T M H d v) (e : KN.view g d = .str i) : v = .str i := by
  rcases h.view hr with ⟨a, xs, p, vs, _, e2, _⟩ | ⟨a, e2⟩ | e2
  · rw [e] at e2; cases e2
  · rw [e] at e2; cases e2
  · rw [e] at e2; subst e2; exact h
theorem RD.vbl (hr : HR K T M H g) {d : D} {v : V} {i : Bool} (h : RD K T M H d v) (e : KN.view g d = .bl i) : v = .bl i := by
  rcases h.view hr with ⟨a, xs, p, vs, _, e2, _⟩ | ⟨a, e2⟩ | e2
  · rw [e] at e2; cases e2
  · rw [e] at e2; cases e2
  · rw [e] at e2; subst e2; exact h
theorem RD.vnon (hr : HR K T M H g) {d : D} {v : V} (h : RD K T M H d v) (e : KN.view g d = .non) : v = .non := by
  rcases h.view hr with ⟨a, xs, p, vs, _, e2, _⟩ | ⟨a, e2⟩ | e2
  · rw [e] at e2; cases e2
  · rw [e] at e2; cases e2
  · rw [e] at e2; subst e2; exact h
theorem RD.vtup (hr : HR K T M H g) {d : D} {v : V} {xs : List D} (h : RD K T M H d v) (e : KN.view g d = .tup xs) : ∃ p vs, v = .ref p ∧ SqT K H p vs ∧ vs.length ≤ LIM ∧ RDs K T M H xs vs := by
  rcases h.view hr with ⟨a, xs, p, vs, _, e2, _⟩ | ⟨a, e2⟩ | e2
  · rw [e] at e2; cases e2
  · rw [e] at e2; cases e2
  · rw [e] at e2; subst e2
    obtain ⟨p, vs, h1, h2, h3, h4⟩ := h
    exact ⟨p, vs, h1, h2.sq, h3, h4⟩
theorem RD.vscr (hr : HR K T M H g) {d : D} {v : V} {xs : List Int} (h : RD K T M H d v) (e : KN.view g d = .scr xs) : ∃ p, v = .ref p ∧ SqL K H p (xs.map V.int) := by
  rcases h.view hr with ⟨a, xs, p, vs, _, e2, _⟩ | ⟨a, e2⟩ | e2
  · rw [e] at e2; cases e2
  · rw [e] at e2; cases e2
  · rw [e] at e2; subst e2
    obtain ⟨p, h1, h2⟩ := h
    exact ⟨p, h1, h2.sq⟩
theorem RD.vlst (hr : HR K T M H g) {d : D} {v : V} {xs : List D} (h : RD K T M H d v) (e : KN.view g d = .lst xs) : ∃ p vs, v = .ref p ∧ H p = some (.lst vs) ∧ vs.length ≤ LIM ∧ RDs K T M H xs vs := by
  rcases h.view hr with ⟨a, ys, p, vs, _, e2, e3, e4, e5, e6⟩ | ⟨a, e2⟩ | e2
  · rw [e] at e2; cases e2
    exact ⟨p, vs, e3, e4, e5, e6⟩
  · rw [e] at e2; cases e2
  · rw [e] at e2; subst e2
    obtain ⟨p, vs, h1, h2, h3, h4⟩ := h
    exact ⟨p, vs, h1, h2.1, h3, h4⟩
theorem RD.vrng (hr : HR K T M H g) {d : D} {v : V} {lo hi : Int} (h : RD K T M H d v) (e : KN.view g d = .rng lo hi) : ∃ p, v = .ref p ∧ H p = some (.rng lo hi) := by
  rcases h.view hr with ⟨a, xs, p, vs, _, e2, _⟩ | ⟨a, e2⟩ | e2
  · rw [e] at e2; cases e2
  · rw [e] at e2; cases e2
  · rw [e] at e2; subst e2
    obtain ⟨p, h1, h2, h3⟩ := h
    exact ⟨p, h1, h2⟩

/-! plain data for == -/
mutual
def toPy : D → PyData
  | .non => .none
  | .bl b => .bool b
  | .int i => .int i
  | .str s => .str s
  | .tup xs => .tuple (toPys xs)
  | .lst xs => .list (toPys xs)
  | _ => .none
def toPys : List D → List PyData
  | [] => []
  | x :: xs => toPy x :: toPys xs
end
mutual
theorem shp_ok : ∀ (n : Nat) (d : D), shp n d = true → (toPy d).canLay0 = true ∧ (toPy d).depth ≤ n
  | n, .non, _ => by simp [toPy, PyData.canLay0, PyData.depth]
  | n, .bl _, _ => by simp [toPy, PyData.canLay0, PyData.depth]
  | n, .int _, _ => by simp [toPy, PyData.canLay0, PyData.depth]
  | n, .str x, h => by
    simp only [shp] at h
    simp only [toPy, PyData.canLay0, PyData.depth, PyData.strOk]
    exact ⟨h, Nat.zero_le _⟩
  | n + 1, .tup xs, h => by
    obtain ⟨h1, h2⟩ := shps_ok n xs (by simpa [shp] using h)
    simp only [toPy, PyData.canLay0, PyData.depth]
    exact ⟨h1, by omega⟩
  | n + 1, .lst xs, h => by
    obtain ⟨h1, h2⟩ := shps_ok n xs (by simpa [shp] using h)
    simp only [toPy, PyData.canLay0, PyData.depth]
    exact ⟨h1, by omega⟩
  | 0, .tup xs, h => by simp [shp] at h
  | 0, .lst xs, h => by simp [shp] at h
  | _, .scr _, h => by simp [shp] at h
  | _, .rng _ _, h => by simp [shp] at h
  | _, .obj _ _ _, h => by simp [shp] at h
  | _, .exn _ _ _, h => by simp [shp] at h
  | _, .ref _, h => by simp [shp] at h
  | _, .fn _, h => by simp [shp] at h
theorem shps_ok : ∀ (n : Nat) (ds : List D), shps n ds = true → PyData.canLayAll0 (toPys ds) = true ∧ PyData.depthAll (toPys ds) ≤ n
  | n, [], _ => by simp [toPys, PyData.canLayAll0, PyData.depthAll]
  | n, d :: ds, h => by
    simp only [shps, Bool.and_eq_true] at h
    obtain ⟨a1, a2⟩ := shp_ok n d h.1
    obtain ⟨b1, b2⟩ := shps_ok n ds h.2
    simp only [toPys, PyData.canLayAll0, PyData.depthAll, a1, b1]
    exact ⟨rfl, by omega⟩
end
mutual
theorem eqv_ok : ∀ (n : Nat) (d e : D), shp n d = true → shp n e = true → PyData.eqv (toPy d) (toPy e) = eqv d e
  | n, d, e, h1, h2 => by
    cases d <;> cases e <;> first
      | (simp [shp] at h1; done)
      | (simp [shp] at h2; done)
      | (simp only [toPy, PyData.eqv, eqv]; done)
      | (cases n with
         | zero => simp [shp] at h1
         | succ n =>
           simp only [toPy, PyData.eqv, eqv]
           exact eqvs_ok n _ _ (by simpa [shp] using h1) (by simpa [shp] using h2))
theorem eqvs_ok : ∀ (n : Nat) (d e : List D), shps n d = true → shps n e = true → PyData.eqvAll (toPys d) (toPys e) = eqvs d e
  | n, [], [], _, _ => by simp [toPys, PyData.eqvAll, eqvs]
  | n, [], _ :: _, _, _ => by simp [toPys, PyData.eqvAll, eqvs]
  | n, _ :: _, [], _, _ => by simp [toPys, PyData.eqvAll, eqvs]
  | n, x :: xs, y :: ys, h1, h2 => by
    simp only [shps, Bool.and_eq_true] at h1 h2
    simp only [toPys, PyData.eqvAll, eqvs]
    rw [eqv_ok n x y h1.1 h2.1, eqvs_ok n xs ys h1.2 h2.2]
end

mutual
theorem RD.dp : ∀ (n : Nat) (d : D) (v : V), shp n d = true → RD K T M H d v → Dp K H v (toPy d)
  | n, .non, v, _, h => by cases h; exact .non
  | n, .bl b, v, _, h => by cases h; exact .bl b
  | n, .int b, v, _, h => by cases h; exact .int b
  | n, .str b, v, _, h => by cases h; exact .str b
  | n + 1, .tup xs, v, hs, h => by
    obtain ⟨p, vs, rfl, h2, h3, h4⟩ := h
    exact .tup h2.sq (RDs.dp n xs vs (by simpa [shp] using hs) h4)
  | n + 1, .lst xs, v, hs, h => by
    obtain ⟨p, vs, rfl, h2, h3, h4⟩ := h
    exact .lst (.inl (.inl h2.1)) (RDs.dp n xs vs (by simpa [shp] using hs) h4)
  | 0, .tup xs, _, h, _ => by simp [shp] at h
  | 0, .lst xs, _, h, _ => by simp [shp] at h
  | _, .scr _, _, h, _ => by simp [shp] at h
  | _, .rng _ _, _, h, _ => by simp [shp] at h
  | _, .obj _ _ _, _, h, _ => by simp [shp] at h
  | _, .exn _ _ _, _, h, _ => by simp [shp] at h
  | _, .ref _, _, h, _ => by simp [shp] at h
  | _, .fn _, _, h, _ => by simp [shp] at h
theorem RDs.dp : ∀ (n : Nat) (ds : List D) (vs : List V), shps n ds = true → RDs K T M H ds vs → DpAll K H vs (toPys ds)
  | n, [], vs, _, h => by cases h; exact .nil
  | n, d :: ds, vs, hs, h => by
    obtain ⟨v, r, rfl, h1, h2⟩ := h
    simp only [shps, Bool.and_eq_true] at hs
    exact .cons (RD.dp n d v hs.1 h1) (RDs.dp n ds r hs.2 h2)
end
theorem RD.dpv (hr : HR K T M H g) {d : D} {v : V} {n : Nat} (hs : shp n (KN.view g d) = true) (h : RD K T M H d v) : Dp K H v (toPy (KN.view g d)) := by
  rcases h.view hr with ⟨a, ys, p, vs, e1, e2, e3, e4, e5, e6⟩ | ⟨a, e2⟩ | e2
  · rw [e2] at hs ⊢
    subst e3
    cases n with
    | zero => simp [shp] at hs
    | succ n => exact .lst (.inl (.inl e4)) (RDs.dp n ys vs (by simpa [shp] using hs) e6)
  · rw [e2] at hs; simp [shp] at hs
  · rw [e2] at hs ⊢
    exact RD.dp n d v hs h
end

/-! ### operators by values -/
section
variable {X : Cx} {T : Tb} {W : WX} {M : Mp} {H : Hp} {g : G} {σ : L2.St}
abbrev PQ (X : Cx) (T : Tb) (Q : VK) : D → Mp → Hp → G → Prop := fun d M' H' _ => ∀ v, RD X.K T M' H' d v → Q v H'

def bop : BO → Operator
  | .add => .Add | .sub => .Sub | .mul => .Mult | .fdiv => .FloorDiv | .mod => .Mod | .pow => .Pow
def rBin (K : PySem.W.Frag) : BO → R2
  | .add => fun x y H Q => rI0 (fun i j => .int (i + j)) x y H Q ∨ (∃ i j, x = .str i ∧ y = .str j ∧ i.length + j.length ≤ sizeLine ∧ Q (.str (i ++ j)) H) ∨ rCatT K x y H Q ∨ rCat x y H Q
  | .sub => rI0 fun i j => .int (i - j)
  | .mul => fun x y H Q => rI CMul (fun i j => .int (i * j)) x y H Q ∨ rRep x y H Q
  | .fdiv => rI CDivN fun i j => .int (i.fdiv j)
  | .mod => rI (fun _ j => j ≠ 0) fun i j => .int (i.fmod j)
  | .pow => rI CPow fun i j => .int (i ^ j.toNat)
theorem op_bin (o : BO) : OpR X (binaryOp (bop o)) (rBin X.K o) := by
  cases o with
  | add => exact op_add.or (op_add_str.or (op_catT.or op_cat))
  | sub => exact op_sub
  | mul => exact op_mul.or op_rep
  | fdiv => exact op_fdivN
  | mod => exact op_modN
  | pow => exact op_pow
theorem small_c {i : Int} (h : small i) : -(2 ^ 64) < i ∧ i < 2 ^ 64 := by
  unfold small at h
  have : (2 : Int) ^ 64 = 18446744073709551616 := by decide
  omega
theorem fin_ok {d : D} {w : V} {Q : VK} (h : wpR X.K T W σ M H (oR (some d) g) (PQ X T Q)) (hr : HR X.K T M H g) (hd : RD X.K T M H d w) : Q w H :=
  (show wpR X.K T W σ M H (R.ok d g) (PQ X T Q) from h) M H (Ext.refl M H) hr w hd
theorem new_ok {d : D} {w : V} {Q : VK} {p : Addr} {o : HO} (h : wpR X.K T W σ M H (oR (some d) g) (PQ X T Q)) (hr : HR X.K T M H g) (hn : H p = none) (hd : RD X.K T M (upd H p o) d w) : Q w (upd H p o) :=
  (show wpR X.K T W σ M H (R.ok d g) (PQ X T Q) from h) M (upd H p o) (Ext.new hn) (hr.new hn) w hd
theorem bin_ok {o : BO} {x y : D} {v u : V} {Q : VK} (hr : HR X.K T M H g) (hx : RD X.K T M H x v) (hy : RD X.K T M H y u) (h : wpR X.K T W σ M H (oR (binD o g x y) g) (PQ X T Q)) : rBin X.K o v u H Q := by
  unfold binD at h
  split at h
  all_goals first
    | exact h.elim
    | skip
  · rename_i i j e1 e2
    exact .inl ⟨i, j, hx.vint hr e1, hy.vint hr e2, fin_ok h hr rfl⟩
  · rename_i i j e1 e2
    exact ⟨i, j, hx.vint hr e1, hy.vint hr e2, fin_ok h hr rfl⟩
  · rename_i i j e1 e2
    split at h
    · rename_i hs
      exact .inl ⟨i, j, hx.vint hr e1, hy.vint hr e2, hs.imp small_c small_c, fin_ok h hr rfl⟩
    · exact h.elim
  · rename_i i j e1 e2
    split at h
    · rename_i hs
      exact ⟨i, j, hx.vint hr e1, hy.vint hr e2, hs, fin_ok h hr rfl⟩
    · exact h.elim
  · rename_i i j e1 e2
    split at h
    · rename_i hs
      exact ⟨i, j, hx.vint hr e1, hy.vint hr e2, hs, fin_ok h hr rfl⟩
    · exact h.elim
  · rename_i i j e1 e2
    split at h
    · rename_i hs
      refine ⟨i, j, hx.vint hr e1, hy.vint hr e2, ⟨hs.1, hs.2.1, ?_⟩, fin_ok h hr rfl⟩
      have := small_c hs.2.2
      have : (2 : Int) ^ 64 = 18446744073709551616 := by decide
      omega
    · exact h.elim
  · rename_i i j e1 e2
    split at h
    · rename_i hs
      exact .inr (.inl ⟨i, j, hx.vstr hr e1, hy.vstr hr e2, lim_of hs, fin_ok h hr rfl⟩)
    · exact h.elim
  · rename_i xs ys e1 e2
    split at h
    · rename_i hs
      obtain ⟨p, vs, rfl, p1, p2, p3⟩ := hx.vtup hr e1
      obtain ⟨q, us, rfl, q1, q2, q3⟩ := hy.vtup hr e2
      have l1 := p3.length
      have l2 := q3.length
      refine .inr (.inr (.inl ⟨p, q, vs, us, rfl, rfl, p1, q1, fun z => hs.1 (List.length_eq_zero_iff.mp (by rw [l1, z]; rfl)), lim_of (by omega), fun z => ?_, fun z r hn => ?_⟩))
      · subst z
        have : ys = [] := List.length_eq_zero_iff.mp l2
        subst this
        rw [List.append_nil] at h
        refine fin_ok h hr ?_
        rcases hx.view hr with ⟨a, _, _, _, _, e3, _⟩ | ⟨a, e3⟩ | e3
        · rw [e1] at e3; cases e3
        · rw [e1] at e3; cases e3
        · rw [← show x = D.tup xs from e3.symm.trans e1]; exact hx
      · exact new_ok h hr hn (RD.new_tup hr hn (p3.append q3) (by simp; omega))
    · exact h.elim
  · rename_i xs ys e1 e2
    split at h
    · rename_i hs
      obtain ⟨p, vs, rfl, p1, p2, p3⟩ := hx.vlst hr e1
      obtain ⟨q, us, rfl, q1, q2, q3⟩ := hy.vlst hr e2
      have l1 := p3.length
      have l2 := q3.length
      refine .inr (.inr (.inr ⟨p, q, vs, us, rfl, rfl, p1, q1, lim_of (by omega), fun r hn => ?_⟩))
      exact new_ok h hr hn (RD.new_lst hr hn (p3.append q3) (by simp; omega))
    · exact h.elim
  · rename_i xs k e1 e2
    split at h
    · rename_i hs
      obtain ⟨p, vs, rfl, p1, p2, p3⟩ := hx.vlst hr e1
      have l1 := p3.length
      refine .inr ⟨p, k, vs, rfl, hy.vint hr e2, p1, by omega, by omega, lim_of (by rw [← l1]; exact hs.2.2), fun r hn => ?_⟩
      have rep : ∀ n : Nat, RDs X.K T M H (List.replicate n xs).flatten (List.replicate n vs).flatten := fun n => by
        induction n with
        | zero => rfl
        | succ n ih => simp only [List.replicate_succ, List.flatten_cons]; exact p3.append ih
      refine new_ok h hr hn (RD.new_lst hr hn (rep _) ?_)
      rw [← (rep k.toNat).length]
      have : (List.replicate k.toNat xs).flatten.length = k.toNat * xs.length := by
        generalize k.toNat = n
        induction n with
        | zero => simp
        | succ n ih => simp [List.replicate_succ, ih, Nat.succ_mul, Nat.add_comm]
      rw [this, Nat.mul_comm]
      exact hs.2.2
    · exact h.elim

/-! ### comparisons -/
def cop : CO → CmpOp
  | .eq => .Eq | .ne => .NotEq | .lt => .Lt | .le => .LtE | .gt => .Gt | .ge => .GtE | .isn => .Is | .isnn => .IsNot | .inn => .In | .nin => .NotIn
def rInD (neg : Bool) : R2 := fun x y H Q => ∃ a o, y = .ref a ∧ DGet H a x o ∧ Q (.bl (if neg then !o.isSome else o.isSome)) H
theorem op_inD (hu : X.A.units + 64 < cLine) : OpR X (compareOp .In) (rInD false) := by
  intro pins s σ H x y v u Q I rx ry h
  obtain ⟨a, o, rfl, g, q⟩ := h
  cases (show u = Value.ref a from ry)
  exact d_in (by omega) I g rx fun s' I' => ⟨.bl o.isSome, H, I', rfl, q⟩
theorem op_ninD (hu : X.A.units + 64 < cLine) : OpR X (compareOp .NotIn) (rInD true) := by
  intro pins s σ H x y v u Q I rx ry h
  obtain ⟨a, o, rfl, g, q⟩ := h
  cases (show u = Value.ref a from ry)
  exact d_notIn (by omega) I g rx fun s' I' => ⟨.bl (!o.isSome), H, I', rfl, q⟩
def rIxDk : R2 := fun x y H Q => ∃ a v, x = .ref a ∧ DGet H a y (some v) ∧ Q v H
theorem ix_dk (hu : X.A.units + 64 < cLine) : IxR X rIxDk := by
  intro value slice pins s σ H x y v u Q I rx ry h hs
  obtain ⟨a, z, rfl, g, q⟩ := h
  cases rx
  exact tail_any (dict_typeIs I g) PySem.F.slot_dict_getitem.lookup (d_getItem (by omega) I g ry fun w' s3 I3 rw' => ⟨z, H, I3, rw', q⟩) hs
def rCmp (K : PySem.W.Frag) : CO → R2
  | .eq => fun x y H Q => rEq x y H Q ∨ rEqD K x y H Q
  | .ne => fun x y H Q => rNe x y H Q ∨ rNeD K x y H Q
  | .lt => rI0 fun i j => .bl (decide (i < j))
  | .le => rI0 fun i j => .bl (decide (i ≤ j))
  | .gt => rI0 fun i j => .bl (decide (j < i))
  | .ge => rI0 fun i j => .bl (decide (j ≤ i))
  | .isn => fun x y H Q => y = .non ∧ Q (.bl (decide (x = .non))) H
  | .isnn => fun x y H Q => y = .non ∧ Q (.bl (!decide (x = .non))) H
  | .inn => fun x y H Q => rInD false x y H Q ∨ rIn K false x y H Q ∨ ∃ (c : Nat) (z : Str), x = .str ⟨#[c]⟩ ∧ y = .str z ∧ Q (.bl (decide (c ∈ z.cps.toList))) H
  | .nin => fun x y H Q => rInD true x y H Q ∨ rIn K true x y H Q ∨ ∃ (c : Nat) (z : Str), x = .str ⟨#[c]⟩ ∧ y = .str z ∧ Q (.bl (!decide (c ∈ z.cps.toList))) H
theorem op_cmp (hu : X.A.units + 64 < cLine) (o : CO) : OpR X (compareOp (cop o)) (rCmp X.K o) := by
  cases o with
  | eq => exact op_eq.or (op_eqD hu)
  | ne => exact op_ne.or (op_neD hu)
  | lt => exact op_lt
  | le => exact op_le
  | gt => exact op_gt
  | ge => exact op_ge
  | isn => exact op_isN
  | isnn => exact op_notN
  | inn => exact (op_inD hu).or (op_in_seq.or op_in_sign)
  | nin => exact (op_ninD hu).or (op_notIn_seq.or op_notIn_sign)
theorem RDs.val {M : Mp} {H : Hp} {k : Ky} : ∀ {kvs : List (Ky × D)} {vs : List (Key × V)}, vs.map (·.1) = kvs.map (·.1) → RDs X.K T M H (kvs.map (·.2)) (vs.map (·.2)) → (valK kvs k = none ∧ valV vs k = none) ∨ ∃ d v, valK kvs k = some d ∧ valV vs k = some v ∧ RD X.K T M H d v
  | [], vs, e, h => by
    cases vs with
    | nil => exact .inl ⟨rfl, rfl⟩
    | cons _ _ => simp at e
  | (k', d) :: kvs, vs, e, h => by
    cases vs with
    | nil => simp at e
    | cons p vs =>
      obtain ⟨v, r, e1, h1, h2⟩ := h
      simp only [List.map_cons, List.cons.injEq] at e e1
      obtain ⟨e2, e3⟩ := e
      obtain ⟨e4, e5⟩ := e1
      by_cases hk : k' = k
      · refine .inr ⟨d, v, by simp [valK, hk], ?_, h1⟩
        rw [valV_pos (by rw [e2]; exact hk), e4]
      · rw [← e5] at h2
        rcases RDs.val (k := k) e3 h2 with ⟨a, b⟩ | ⟨d', v', a, b, c⟩
        · refine .inl ⟨?_, ?_⟩
          · rw [← a]; simp [valK, hk]
          · rw [valV_neg (by rw [e2]; exact hk)]; exact b
        · refine .inr ⟨d', v', ?_, ?_, c⟩
          · rw [← a]; simp [valK, hk]
          · rw [valV_neg (by rw [e2]; exact hk)]; exact b
theorem put_len {kvs : List (Key × V)} {k : Key} {v : V} : (L2.putK kvs k v).length ≤ kvs.length + 1 := by
  unfold L2.putK
  split <;> simp
theorem RDs.put {M : Mp} {H : Hp} {k : Ky} {d : D} {v : V} {kvs : List (Ky × D)} {vs : List (Key × V)} (e : vs.map (·.1) = kvs.map (·.1)) (h : RDs X.K T M H (kvs.map (·.2)) (vs.map (·.2))) (hd : RD X.K T M H d v) :
    (L2.putK vs k v).map (·.1) = (KN.putK kvs k d).map (·.1) ∧ RDs X.K T M H ((KN.putK kvs k d).map (·.2)) ((L2.putK vs k v).map (·.2)) := by
  have ea : (vs.any fun kv => decide (kv.1 = k)) = (kvs.any fun kv => decide (kv.1 = k)) := by
    have e1 : ∀ {A : Type} (l : List (Ky × A)), (l.any fun kv => decide (kv.1 = k)) = ((l.map (·.1)).any fun z => decide (z = k)) := fun l => by rw [List.any_map]; rfl
    rw [e1, e1, e]
  unfold L2.putK KN.putK
  rw [ea]
  split
  · clear ea
    rename_i ea
    clear ea
    constructor
    · rw [List.map_map, List.map_map]
      have e1 : ∀ {A : Type} (a : A) (l : List (Ky × A)), l.map ((fun p : Ky × A => p.1) ∘ fun kv => if kv.1 = k then (kv.1, a) else kv) = l.map (·.1) := fun a l => by
        apply List.map_congr_left
        intro p _
        show (if p.1 = k then (p.1, a) else p).1 = p.1
        split <;> rfl
      rw [e1, e1, e]
    · induction kvs generalizing vs with
      | nil =>
        cases vs with
        | nil => rfl
        | cons _ _ => simp at e
      | cons p kvs ih =>
        cases vs with
        | nil => simp at e
        | cons q vs =>
          simp only [List.map_cons, List.cons.injEq] at e
          obtain ⟨w, r, e1, h1, h2⟩ := h
          simp only [List.map_cons, List.cons.injEq] at e1
          have h2' := h2
          rw [← e1.2] at h2'
          have := ih e.2 h2'
          rw [List.map_cons, List.map_cons, List.map_cons, List.map_cons]
          refine ⟨_, _, rfl, ?_, this⟩
          rw [e.1]
          split
          · exact hd
          · rw [e1.1]; exact h1
  · constructor
    · rw [List.map_append, List.map_append, e]; rfl
    · rw [List.map_append, List.map_append]
      exact h.append ⟨v, [], rfl, hd, rfl⟩
theorem key_ok {M : Mp} {H : Hp} {x : D} {v : V} {k : Ky} (h : RD X.K T M H x v) (e : keyD x = some k) : v = kV k := by
  cases x <;> simp [keyD] at e <;> (subst e; cases h; rfl)
theorem dk_ok {M : Mp} {H : Hp} {g : G} {y : D} {u : V} {kvs : List (Ky × D)} (hr : HR X.K T M H g) (hy : RD X.K T M H y u) (e : dkOf g y = some kvs) :
    ∃ a p vs, y = .ref a ∧ g[a]? = some (.dk kvs) ∧ M.m[a]? = some p ∧ u = .ref p ∧ H p = some (.dK vs) ∧ vs.length ≤ LIM ∧ vs.map (·.1) = kvs.map (·.1) ∧ RDs X.K T M H (kvs.map (·.2)) (vs.map (·.2)) := by
  cases y <;> simp only [dkOf] at e <;> try contradiction
  rename_i a
  split at e
  · rename_i kvs' eg
    cases e
    obtain ⟨p, h1, rfl⟩ := hy
    obtain ⟨vs, q1, q2, q3, q4⟩ := hr.at eg h1
    exact ⟨a, p, vs, rfl, eg, h1, rfl, q1, q2, q3, q4⟩
  · cases e
theorem dget_ok {M : Mp} {H : Hp} {g : G} {x y : D} {v u : V} {kvs : List (Ky × D)} {k : Ky} (hr : HR X.K T M H g) (hx : RD X.K T M H x v) (hy : RD X.K T M H y u) (e : dkOf g y = some kvs) (ek : keyD x = some k) :
    ∃ p o, u = .ref p ∧ DGet H p v o ∧ o.isSome = (valK kvs k).isSome ∧ ∀ d, valK kvs k = some d → ∃ w, o = some w ∧ RD X.K T M H d w := by
  obtain ⟨a, p, vs, rfl, eg, h1, rfl, q1, q2, q3, q4⟩ := dk_ok hr hy e
  have := key_ok hx ek
  subst this
  refine ⟨p, valV vs k, rfl, DGet.k q1, ?_, ?_⟩
  · rcases RDs.val (k := k) q3 q4 with ⟨a, b⟩ | ⟨d', v', a, b, c⟩
    · rw [a, b]; rfl
    · rw [a, b]; rfl
  · intro d ed
    rcases RDs.val (k := k) q3 q4 with ⟨a, b⟩ | ⟨d', v', a, b, c⟩
    · rw [a] at ed; cases ed
    · rw [a] at ed; cases ed; exact ⟨v', b, c⟩
abbrev CQ (Q : VK) : Bool → Mp → Hp → G → Prop := fun b _ H' _ => Q (.bl b) H'
theorem fin_b {k : Bool} {Q : VK} (h : wpR X.K T W σ M H (oR (some k) g) (CQ Q)) (hr : HR X.K T M H g) : Q (.bl k) H :=
  (show wpR X.K T W σ M H (R.ok k g) (CQ Q) from h) M H (Ext.refl M H) hr
theorem shaped_of {n : Nat} {d : D} (h : shp n d = true) (hn : n ≤ 64) : SeqAt.shaped (toPy d) = true := by
  obtain ⟨a, b⟩ := shp_ok n d h
  unfold SeqAt.shaped
  rw [a, decide_eq_true (by omega)]
  rfl
theorem eq_ok {x y : D} {v u : V} {k : Bool} (hr : HR X.K T M H g) (hx : RD X.K T M H x v) (hy : RD X.K T M H y u) (h : eqD g x y = some k) :
    (scal v u = true ∧ k = decide (v = u)) ∨ ∃ d e, Dp X.K H v d ∧ Dp X.K H u e ∧ SeqAt.shaped d = true ∧ SeqAt.shaped e = true ∧ k = PyData.eqv d e := by
  unfold eqD at h
  split at h
  · rename_i s t e1 e2
    cases hx.vstr hr e1
    cases hy.vstr hr e2
    have hk := Option.some.inj h
    refine .inl ⟨rfl, ?_⟩
    rw [← hk]
    by_cases z : s = t
    · subst z; simp
    · rw [decide_eq_false z, decide_eq_false]
      intro q; exact z (V.str.inj q)
  · rename_i s e1 e2
    cases hx.vstr hr e1
    cases hy.vnon hr e2
    have hk := Option.some.inj h
    exact .inl ⟨rfl, by rw [← hk]; rfl⟩
  · rename_i s e1 e2
    cases hx.vnon hr e1
    cases hy.vstr hr e2
    have hk := Option.some.inj h
    exact .inl ⟨rfl, by rw [← hk]; rfl⟩
  · split at h
    · rename_i hs
      refine .inr ⟨_, _, hx.dpv hr hs.1, hy.dpv hr hs.2, shaped_of hs.1 (by decide), shaped_of hs.2 (by decide), ?_⟩
      rw [eqv_ok 60 _ _ hs.1 hs.2]
      exact (Option.some.inj h).symm
    · cases h
theorem flat_ok {d : D} {v : V} (h : RD X.K T M H d v) (f : flatD d = true) : flatV v = true := by
  cases d <;> simp [flatD] at f <;> (cases h; rfl)
theorem flats_ok : ∀ {ds : List D} {vs : List V}, RDs X.K T M H ds vs → ds.all flatD = true → vs.all flatV = true
  | [], vs, h, _ => by cases h; rfl
  | d :: ds, vs, h, f => by
    obtain ⟨v, r, rfl, h1, h2⟩ := h
    simp only [List.all_cons, Bool.and_eq_true] at f ⊢
    exact ⟨flat_ok h1 f.1, flats_ok h2 f.2⟩
theorem eqv_flat {d e : D} {v u : V} (h : RD X.K T M H d v) (f : flatD d = true) (h' : RD X.K T M H e u) (f' : flatD e = true) : eqV v u = eqv d e := by
  cases d <;> simp [flatD] at f <;> cases e <;> simp [flatD] at f' <;> (cases h; cases h'; simp [eqV, eqv])
theorem in_ok {x : D} {v : V} (hx : RD X.K T M H x v) (f : flatD x = true) : ∀ {ds : List D} {vs : List V}, RDs X.K T M H ds vs → ds.all flatD = true → inV v vs = inD x ds
  | [], vs, h, _ => by cases h; rfl
  | d :: ds, vs, h, g => by
    obtain ⟨w, r, rfl, h1, h2⟩ := h
    simp only [List.all_cons, Bool.and_eq_true] at g
    have ih := in_ok hx f h2 g.2
    unfold inV inD at ih ⊢
    rw [List.any_cons, List.any_cons, ih, eqv_flat h1 g.1 hx f]
theorem flat_view {x : D} (f : flatD (view g x) = true) : view g x = x := by
  cases x with
  | ref a =>
    exfalso
    have e : (∃ xs, view g (.ref a) = .lst xs) ∨ view g (.ref a) = .ref a := by
      unfold view
      cases e : g[a]? with
      | none => exact .inr (by simp [e])
      | some o => cases o <;> simp [e]
    rcases e with ⟨xs, e⟩ | e <;> rw [e] at f <;> simp [flatD] at f
  | _ => rfl
theorem isnon_ok {x : D} {v : V} (hx : RD X.K T M H x v) : isNon x = decide (v = .non) := by
  cases x with
  | non => cases hx; rfl
  | bl _ => cases hx; rfl
  | int _ => cases hx; rfl
  | str _ => cases hx; rfl
  | tup _ => obtain ⟨p, vs, rfl, _⟩ := hx; rfl
  | lst _ => obtain ⟨p, vs, rfl, _⟩ := hx; rfl
  | scr _ => obtain ⟨p, rfl, _⟩ := hx; rfl
  | rng _ _ => obtain ⟨p, rfl, _⟩ := hx; rfl
  | obj _ _ _ => obtain ⟨p, dx, fvs, rfl, _⟩ := hx; rfl
  | exn _ _ _ => exact hx.elim
  | ref _ => obtain ⟨p, _, rfl⟩ := hx; rfl
  | fn _ => cases hx; rfl
theorem cmp_ok {o : CO} {x y : D} {v u : V} {Q : VK} (hr : HR X.K T M H g) (hx : RD X.K T M H x v) (hy : RD X.K T M H y u) (h : wpR X.K T W σ M H (oR (cmpD o g x y) g) (CQ Q)) : rCmp X.K o v u H Q := by
  have two : ∀ {f : Int → Int → Bool}, wpR X.K T W σ M H (oR (match view g x, view g y with | .int i, .int j => some (f i j) | _, _ => none) g) (CQ Q) → rI0 (fun i j => .bl (f i j)) v u H Q := fun {f} h => by
    split at h
    · rename_i i j e1 e2
      exact ⟨i, j, hx.vint hr e1, hy.vint hr e2, fin_b h hr⟩
    · exact h.elim
  cases o with
  | eq =>
    show rEq v u H Q ∨ rEqD X.K v u H Q
    cases e : eqD g x y with
    | none => rw [show cmpD .eq g x y = none from e] at h; exact h.elim
    | some k =>
      rw [show cmpD .eq g x y = some k from e] at h
      have q := fin_b h hr
      rcases eq_ok hr hx hy e with ⟨h1, rfl⟩ | ⟨d, e', h1, h2, h3, h4, rfl⟩
      · exact .inl ⟨h1, q⟩
      · exact .inr ⟨d, e', h1, h2, h3, h4, q⟩
  | ne =>
    show rNe v u H Q ∨ rNeD X.K v u H Q
    cases e : eqD g x y with
    | none => rw [show cmpD .ne g x y = none by simp [cmpD, e]] at h; exact h.elim
    | some k =>
      rw [show cmpD .ne g x y = some (!k) by simp [cmpD, e]] at h
      have q := fin_b h hr
      rcases eq_ok hr hx hy e with ⟨h1, rfl⟩ | ⟨d, e', h1, h2, h3, h4, rfl⟩
      · exact .inl ⟨h1, q⟩
      · exact .inr ⟨d, e', h1, h2, h3, h4, q⟩
  | lt => exact two h
  | le => exact two h
  | gt => exact two h
  | ge => exact two h
  | isn =>
    cases y <;> first
      | exact h.elim
      | (cases hy
         refine ⟨rfl, ?_⟩
         rw [← isnon_ok hx]
         exact fin_b h hr)
  | isnn =>
    cases y <;> first
      | exact h.elim
      | (cases hy
         refine ⟨rfl, ?_⟩
         rw [← isnon_ok hx]
         exact fin_b h hr)
  | inn =>
    simp only [cmpD] at h
    split at h
    · rename_i kvs ekv
      cases ek : keyD x with
      | none => rw [ek] at h; exact h.elim
      | some k =>
        rw [ek] at h
        obtain ⟨p, o, rfl, z1, z2, _⟩ := dget_ok hr hx hy ekv ek
        refine .inl ⟨p, o, rfl, z1, ?_⟩
        have q := fin_b h hr
        rw [z2]
        exact q
    · skip
      split at h
      · rename_i _ _ xs e2
        split at h
        · rename_i hs
          obtain ⟨p, vs, rfl, p1, p2, p3⟩ := hy.vlst hr e2
          have ex := flat_view hs.1
          rw [ex] at hs h
          refine .inr (.inl ⟨p, vs, rfl, .inl (.inl (.inl p1)), flat_ok hx hs.1, flats_ok p3 hs.2, ?_⟩)
          rw [in_ok hx hs.1 p3 hs.2]
          exact fin_b h hr
        · exact h.elim
      · rename_i _ _ xs e2
        split at h
        · rename_i hs
          obtain ⟨p, vs, rfl, p1, p2, p3⟩ := hy.vtup hr e2
          have ex := flat_view hs.1
          rw [ex] at hs h
          refine .inr (.inl ⟨p, vs, rfl, .inr p1, flat_ok hx hs.1, flats_ok p3 hs.2, ?_⟩)
          rw [in_ok hx hs.1 p3 hs.2]
          exact fin_b h hr
        · exact h.elim
      · rename_i _ _ s t e1 e2
        cases hx.vstr hr e1
        cases hy.vstr hr e2
        split at h
        · rename_i c ec
          refine .inr (.inr ⟨c, t, ?_, rfl, fin_b h hr⟩)
          obtain ⟨⟨l⟩⟩ := s
          have : l = [c] := ec
          rw [this]
        · exact h.elim
      · exact h.elim
  | nin =>
    simp only [cmpD] at h
    split at h
    · rename_i kvs ekv
      cases ek : keyD x with
      | none => rw [ek] at h; exact h.elim
      | some k =>
        rw [ek] at h
        obtain ⟨p, o, rfl, z1, z2, _⟩ := dget_ok hr hx hy ekv ek
        refine .inl ⟨p, o, rfl, z1, ?_⟩
        have q := fin_b h hr
        rw [z2]
        exact q
    · skip
      split at h
      · rename_i _ _ xs e2
        split at h
        · rename_i hs
          obtain ⟨p, vs, rfl, p1, p2, p3⟩ := hy.vlst hr e2
          have ex := flat_view hs.1
          rw [ex] at hs h
          refine .inr (.inl ⟨p, vs, rfl, .inl (.inl (.inl p1)), flat_ok hx hs.1, flats_ok p3 hs.2, ?_⟩)
          rw [in_ok hx hs.1 p3 hs.2]
          exact fin_b h hr
        · exact h.elim
      · rename_i _ _ xs e2
        split at h
        · rename_i hs
          obtain ⟨p, vs, rfl, p1, p2, p3⟩ := hy.vtup hr e2
          have ex := flat_view hs.1
          rw [ex] at hs h
          refine .inr (.inl ⟨p, vs, rfl, .inr p1, flat_ok hx hs.1, flats_ok p3 hs.2, ?_⟩)
          rw [in_ok hx hs.1 p3 hs.2]
          exact fin_b h hr
        · exact h.elim
      · rename_i _ _ s t e1 e2
        cases hx.vstr hr e1
        cases hy.vstr hr e2
        split at h
        · rename_i c ec
          refine .inr (.inr ⟨c, t, ?_, rfl, fin_b h hr⟩)
          obtain ⟨⟨l⟩⟩ := s
          have : l = [c] := ec
          rw [this]
        · exact h.elim
      · exact h.elim

/-! ### items, slices, truth -/
theorem ix_bind {A : Type} {xs : List A} {i : Int} {v : A} (h : ((ixn xs.length i).bind fun j => xs[j]?) = some v) : ∃ j, ixn xs.length i = some j ∧ xs[j]? = some v := by
  cases e : ixn xs.length i with
  | none => rw [e] at h; cases h
  | some j => rw [e] at h; exact ⟨j, rfl, h⟩
theorem idx_ok {x y : D} {v u : V} {Q : VK} (hr : HR X.K T M H g) (hx : RD X.K T M H x v) (hy : RD X.K T M H y u) (h : wpR X.K T W σ M H (oR (idxD g x y) g) (PQ X T Q)) : rIxDk v u H Q ∨ rIx X.K v u H Q := by
  cases e : idxD g x y with
  | none => rw [e] at h; exact h.elim
  | some d =>
    rw [e] at h
    unfold idxD at e
    split at e
    · rename_i kvs ekv
      cases ek : keyD y with
      | none => rw [ek] at e; cases e
      | some k =>
        rw [ek] at e
        obtain ⟨p, o, rfl, z1, _, z3⟩ := dget_ok hr hy hx ekv ek
        obtain ⟨w, rfl, z4⟩ := z3 d e
        exact .inl ⟨p, w, rfl, z1, fin_ok h hr z4⟩
    · split at e
      · rename_i xs i e1
        cases hy
        obtain ⟨p, vs, rfl, p1, p2, p3⟩ := hx.vlst hr e1
        obtain ⟨j, e2, e3⟩ := ix_bind e
        obtain ⟨w, q1, q2⟩ := p3.get e3
        refine .inr (.inl ⟨p, vs, i, w, rfl, rfl, .inl (.inl p1), ?_, fin_ok h hr q2⟩)
        unfold atI
        rw [← p3.length, ← ixn_eq, e2]
        exact q1
      · rename_i xs i e1
        cases hy
        obtain ⟨p, vs, rfl, p1, p2, p3⟩ := hx.vtup hr e1
        obtain ⟨j, e2, e3⟩ := ix_bind e
        obtain ⟨w, q1, q2⟩ := p3.get e3
        refine .inr (.inr (.inl ⟨p, vs, i, w, rfl, rfl, p1, ?_, fin_ok h hr q2⟩))
        unfold atI
        rw [← p3.length, ← ixn_eq, e2]
        exact q1
      · rename_i xs i e1
        cases hy
        obtain ⟨p, rfl, p1⟩ := hx.vscr hr e1
        cases e4 : ((ixn xs.length i).bind fun j => xs[j]?) with
        | none => rw [e4] at e; cases e
        | some n =>
          rw [e4] at e
          cases e
          obtain ⟨j, e2, e3⟩ := ix_bind e4
          refine .inr (.inl ⟨p, _, i, .int n, rfl, rfl, p1, ?_, fin_ok h hr rfl⟩)
          unfold atI
          rw [List.length_map, ← ixn_eq, e2]
          simp [e3]
      · rename_i s i e1
        cases hy
        cases hx.vstr hr e1
        split at e
        · rename_i hs
          cases e4 : ((ixn s.cps.toList.length i).bind fun j => s.cps.toList[j]?) with
          | none => rw [e4] at e; cases e
          | some c =>
            rw [e4] at e
            cases e
            refine .inr (.inr (.inr ⟨s, i, c, rfl, rfl, lim_of hs, ?_, fin_ok h hr rfl⟩))
            exact e4
        · cases e
      · cases e
end
end KN

namespace KN
open PySem PySem.Spec PyProof.Rows L2

/-! ### slices -/
theorem tuple_whole {prog : Program} {w : World} {A : Around} {E : Value → Shared → Prop} {s : Shared} {t sl : Addr} {items : Array Value} {vl vu : Value} {lo hi : Option Int} {Q : Value → Shared → Prop} (ht : IsTup s.heap t items) (hs : s.heap.IsSliceOf sl vl vu .none) (pl : IsPart vl lo) (pu : IsPart vu hi)
    (hw : HT.sIx items.size 0 lo = 0 ∧ HT.sIx items.size items.size hi = items.size)
    (h : Q (.ref t) s) : wpAny (model prog w) A (getItem (.ref t) (.ref sl)) Q E s := by
  obtain ⟨os, hos, hcs, hds⟩ := id hs
  have hTs : s.TypeIs (.ref sl) "slice" := ⟨os, hos, hcs⟩
  unfold getItem
  try with_reducible refine wpAny_holding ?_
  first | refine wpAny_bind (wpAny_pure ?_) | skip
  refine wpAny_bind (wpAny_sequenceKey ht.typeIs (by decide) ?_)
  refine wpAny_bind (wpAny_callSpecial?_slot (name := Str.ofString "__getitem__") ht.typeIs PyProof.Rows.slot_tuple_getitem
    (wpAny_call_entry PyProof.Rows.slot_tuple_getitem ht.typeIs entry_tuple_getitem ?_ (args_tuple_getitem _ _)))
  show wpAny _ _ (Builtin.Tuple.tupleItemsOf (.ref t) >>= _) _ _ s
  refine wpAny_bind (tupleItemsOf_ ht ?_)
  refine wpAny_bind (wpAny_typeOf hTs ?_)
  rw [if_pos (by decide)]
  refine wpAny_bind (HT.sliceApplied_gen hs pl pu ?_)
  have hyes : ((((HT.sIx items.size 0 lo : Nat) : Int) == 0 && (1 : Int) == 1 && (HT.sIx items.size items.size hi - HT.sIx items.size 0 lo) == items.size) = true) := by
    rw [hw.1, hw.2]
    simp
  show wpAny _ _ (if (((HT.sIx items.size 0 lo : Nat) : Int) == 0 && (1 : Int) == 1 && (HT.sIx items.size items.size hi - HT.sIx items.size 0 lo) == items.size) = true then _ else _) _ _ s
  rw [if_pos hyes]
  refine wpAny_bind ?_
  unfold Builtin.Tuple.tupleIsExact
  refine wpAny_bind (wpAny_typeOf ht.typeIs ?_)
  refine wpAny_pure ?_
  rw [if_pos (by decide)]
  exact wpAny_bind (wpAny_rule (wpAny_pure ⟨_, rfl, wpAny_pure h⟩))

section
variable {X : Cx}
def rSlTW (K : PySem.W.Frag) : V → Option Int → Option Int → Hp → VK → Prop := fun x lo hi H Q => ∃ a xs, x = .ref a ∧ SqT K H a xs ∧
  (HT.sIx xs.length 0 lo = 0 ∧ HT.sIx xs.length xs.length hi = xs.length) ∧ Q (.ref a) H
theorem sl_tupW : SlR X (rSlTW X.K) := by
  intro pins s σ H x v vl vu lo hi sl Q I rx hs pl pu h
  obtain ⟨a, xs, rfl, hx, hw, q⟩ := h
  cases rx
  obtain ⟨its, r, ht, hz⟩ := I.tuple hx
  have hlen : its.toArray.size = xs.length := by rw [List.size_toArray]; exact r.length.symm
  refine ⟨"tuple", _, PyProof.Rows.slot_tuple_getitem.lookup, ht.typeIs, ?_⟩
  exact tuple_whole ht hs pl pu (by rw [hlen]; exact hw) ⟨.ref a, H, I, rfl, q⟩
def rSli (K : PySem.W.Frag) : V → Option Int → Option Int → Hp → VK → Prop := fun x lo hi H Q => rSlL K x lo hi H Q ∨ rSlT K x lo hi H Q ∨ rSlTW K x lo hi H Q ∨ rSlS x lo hi H Q
theorem sl_ok : SlR X (rSli X.K) := sl_list.or (sl_tup.or (sl_tupW.or sl_str))
end

section
variable {X : Cx} {T : Tb} {W : WX} {M : Mp} {H : Hp} {g : G} {σ : L2.St}
theorem sli_ok {x : D} {v : V} {lo hi : Option Int} {Q : VK} (hr : HR X.K T M H g) (hx : RD X.K T M H x v) (h : wpR X.K T W σ M H (oR (sliD g x lo hi) g) (PQ X T Q)) : rSli X.K v lo hi H Q := by
  unfold sliD at h
  split at h
  · rename_i xs e1
    obtain ⟨p, vs, rfl, p1, p2, p3⟩ := hx.vlst hr e1
    exact .inl ⟨p, vs, rfl, .inl (.inl p1), fun q hn => new_ok h hr hn (RD.new_lst hr hn (p3.cut lo hi) (Nat.le_trans (cutV_length _ _ _) p2))⟩
  · rename_i xs e1
    obtain ⟨p, vs, rfl, p1, p2, p3⟩ := hx.vtup hr e1
    have hl := p3.length
    split at h
    · rename_i hs
      refine .inr (.inr (.inl ⟨p, vs, rfl, p1, ?_, ?_⟩))
      · rw [← six_eq, ← six_eq, ← hl]; exact hs
      · refine fin_ok h hr ?_
        rcases hx.view hr with ⟨a, _, _, _, _, e3, _⟩ | ⟨a, e3⟩ | e3
        · rw [e1] at e3; cases e3
        · rw [e1] at e3; cases e3
        · rw [← show x = D.tup xs from e3.symm.trans e1]; exact hx
    · rename_i hs
      refine .inr (.inl ⟨p, vs, rfl, p1, ?_, fun q hn => new_ok h hr hn (RD.new_tup hr hn (p3.cut lo hi) (Nat.le_trans (cutV_length _ _ _) p2))⟩)
      rw [← six_eq, ← six_eq, ← hl]; exact hs
  · rename_i s e1
    cases hx.vstr hr e1
    split at h
    · rename_i hs
      refine .inr (.inr (.inr ⟨s, rfl, lim_of hs, fin_ok h hr ?_⟩))
      show V.str _ = V.str _
      unfold KN.cut cutS
      rw [six_eq, six_eq]
      congr 1
    · exact h.elim
  · exact h.elim

/-! ### truth -/
theorem tru_okD {x : D} {v : V} {Q : Bool → Hp → Prop} (hr : HR X.K T M H g) (hx : RD X.K T M H x v) (h : wpR X.K T W σ M H (oR (truD g x) g) (fun b _ H' _ => Q b H')) : ∃ k, TruV X.K v H k ∧ Q k H := by
  have fin : ∀ {k : Bool}, wpR X.K T W σ M H (oR (some k) g) (fun b _ H' _ => Q b H') → Q k H := fun {k} h => (show wpR X.K T W σ M H (R.ok k g) _ from h) M H (Ext.refl M H) hr
  have emp : ∀ {xs : List D} {vs : List V}, RDs X.K T M H xs vs → (!xs.isEmpty) = !vs.isEmpty := fun {xs vs} r => by
    have := r.length
    cases xs <;> cases vs <;> simp_all
  unfold truD at h
  split at h
  · rename_i kvs ekv
    obtain ⟨a, p, vs, rfl, eg, h1, rfl, q1, q2, q3, q4⟩ := dk_ok hr hx ekv
    refine ⟨_, .inr (.inr ⟨vs, q1, rfl⟩), ?_⟩
    have e : (!kvs.isEmpty) = !vs.isEmpty := by
      cases kvs <;> cases vs <;> simp_all
    rw [← e]
    exact fin h
  · split at h
    · rename_i e1
      cases hx.vnon hr e1
      exact ⟨false, rfl, fin h⟩
    · rename_i b e1
      cases hx.vbl hr e1
      exact ⟨b, rfl, fin h⟩
    · rename_i i e1
      cases hx.vint hr e1
      exact ⟨_, rfl, fin h⟩
    · rename_i xs e1
      obtain ⟨p, vs, rfl, p1, p2, p3⟩ := hx.vlst hr e1
      exact ⟨_, .inl ⟨vs, .inl (.inl p1), emp p3⟩, fin h⟩
    · rename_i xs e1
      obtain ⟨p, vs, rfl, p1, p2, p3⟩ := hx.vtup hr e1
      exact ⟨_, .inr (.inl ⟨vs, p1, emp p3⟩), fin h⟩
    · rename_i s e1
      cases hx.vstr hr e1
      split at h
      · rename_i hs
        exact ⟨_, ⟨lim_of hs, rfl⟩, fin h⟩
      · exact h.elim
    · exact h.elim

/-! ### built-ins -/
def RngL (H : Hp) (p : Addr) (lo hi : Int) : Prop := H p = some (.rng lo hi)
theorem call_listRng (hc : X.calm = true) : CallR X (.type "list") (fun xs H Q => ∃ p lo hi, xs = [.ref p] ∧ H p = some (.rng lo hi) ∧ RgOk lo hi ∧ ∀ q, H q = none → Q (.ref q) (upd H q (.lst (rgV lo hi)))) := by
  intro pins s σ H xs us Q I r h
  obtain ⟨p, a, b, rfl, hp, ⟨b1, b2, b3, b4, b5⟩, q⟩ := h
  obtain ⟨u1, rfl, r1⟩ := vals1 r
  cases r1
  obtain ⟨t, u, v, hr⟩ := I.hok p _ hp
  refine call_list_range (n := (b - a).toNat) (I.ok.hd hc) (a := a) (b := b) (c := 1) (t := t) (u := u) (v := v) hr (small_one b1 b2 b3 b4) (rangeSize_nat a b) b5 fun h' tk acc c' hk e' hi => ?_
  refine ⟨.ref s.heap.objs.size, upd H s.heap.objs.size (.lst (rgV a b)), I.laid hk (Nat.le_refl _) (show ObjOk X.prog X.w _ _ _ (.lst (rgV a b)) from ⟨?_, acc.toList, c', vals_rg hi, ?_⟩), rfl, q _ (I.hok.fresh (Nat.le_refl _))⟩
  · rw [rgV_length, sizeLine_eq]; omega
  · rw [Array.toArray_toList]; exact e'
theorem call_tupRng (hc : X.calm = true) : CallR X (.type "tuple") (fun xs H Q => ∃ p lo hi, xs = [.ref p] ∧ H p = some (.rng lo hi) ∧ RgOk lo hi ∧ ∀ q, H q = none → Q (.ref q) (upd H q (.tup (rgV lo hi)))) := by
  intro pins s σ H xs us Q I r h
  obtain ⟨p, a, b, rfl, hp, ⟨b1, b2, b3, b4, b5⟩, q⟩ := h
  obtain ⟨u1, rfl, r1⟩ := vals1 r
  cases r1
  obtain ⟨t, u, v, hr⟩ := I.hok p _ hp
  refine call_tuple_range (n := (b - a).toNat) (I.ok.hd hc) (a := a) (b := b) (c := 1) (t := t) (u := u) (v := v) hr (small_one b1 b2 b3 b4) (rangeSize_nat a b) b5 fun h' tk acc hk hi => ?_
  have I2 : Inv X pins σ H { s with heap := h', toks := tk } := I.kept hk
  refine ⟨.ref h'.objs.size, upd H h'.objs.size (.tup (rgV a b)), I2.laid (t' := tk) (fun c o e => Heap.get?_push_of_some _ e) (Nat.le_refl _) (show ObjOk X.prog X.w _ _ _ (.tup (rgV a b)) from ⟨?_, acc.toList, vals_rg hi, ?_⟩), rfl, q _ (I2.hok.fresh (Nat.le_refl _))⟩
  · rw [rgV_length, sizeLine_eq]; omega
  · rw [Array.toArray_toList]; exact IsTup.new _ _
theorem call_range1 : CallR X (.type "range") (fun vs H Q => ∃ j, vs = [V.int j] ∧ ∀ p, H p = none → Q (.ref p) (upd H p (.rng 0 j))) := by
  intro pins s σ H vs us Q I r h
  obtain ⟨j, rfl, q⟩ := h
  obtain ⟨u1, rfl, ri⟩ := vals1 r
  obtain ⟨t, rfl⟩ := ri
  refine call_range_1 ⟨.ref s.heap.objs.size, upd H s.heap.objs.size (.rng 0 j), I.laid (fun b o e => Heap.get?_push_of_some _ e) (Nat.le_refl _) ?_, rfl, q _ (I.hok.fresh (Nat.le_refl _))⟩
  exact ⟨_, _, _, Heap.get?_push_size _ rfl⟩

/-- a built-in: is it a class, its name -/
def biN : Bi → Bool × String
  | .len => (false, "len") | .int => (true, "int") | .str => (true, "str") | .bool => (true, "bool") | .abs => (false, "abs")
  | .max => (false, "max") | .min => (false, "min") | .sum => (false, "sum") | .all => (false, "all") | .any => (false, "any")
  | .tuple => (true, "tuple") | .list => (true, "list") | .sorted => (false, "sorted") | .range => (true, "range")
def biV (b : Bi) : Value := if (biN b).1 = true then .type (biN b).2 else .builtin (biN b).2
abbrev RB := List V → Hp → VK → Prop
def rBi (K : PySem.W.Frag) : Bi → RB
  | .len => fun xs H Q => ∃ x n, xs = [x] ∧ LenV K x H n ∧ Q (.int n) H
  | .int => fun xs H Q => (∃ i, xs = [.int i] ∧ Q (.int i) H) ∨ ∃ k, xs = [.bl k] ∧ Q (.int (if k then 1 else 0)) H
  | .str => fun xs H Q => ∃ i, xs = [.int i] ∧ i.natAbs.log2 < 1920 ∧ Q (.str (toString i)) H
  | .bool => fun xs H Q => (∃ i, xs = [.int i] ∧ Q (.bl (i != 0)) H) ∨ ∃ k, xs = [.bl k] ∧ Q (.bl k) H
  | .abs => fun xs H Q => ∃ i, xs = [.int i] ∧ Q (.int (if i < 0 then -i else i)) H
  | .max => fun xs H Q => (∃ i j, xs = [.int i, .int j] ∧ Q (.int (if j > i then j else i)) H) ∨ rMax K xs H Q
  | .min => fun xs H Q => (∃ i j, xs = [.int i, .int j] ∧ Q (.int (if j < i then j else i)) H) ∨ rMin K xs H Q
  | .sum => rSum K
  | .all => rAll K
  | .any => rAny K
  | .tuple => fun xs H Q => (∃ p ys, xs = [.ref p] ∧ ((SqL K H p ys ∧ ∀ l, H l = none → Q (.ref l) (upd H l (.tup ys))) ∨ (SqT K H p ys ∧ Q (.ref p) H))) ∨
      ∃ p lo hi, xs = [.ref p] ∧ H p = some (.rng lo hi) ∧ RgOk lo hi ∧ ∀ q, H q = none → Q (.ref q) (upd H q (.tup (rgV lo hi)))
  | .list => fun xs H Q => (∃ p ys, xs = [.ref p] ∧ (SqL K H p ys ∨ SqT K H p ys) ∧ ∀ l, H l = none → Q (.ref l) (upd H l (.lst ys))) ∨
      (∃ p lo hi, xs = [.ref p] ∧ H p = some (.rng lo hi) ∧ RgOk lo hi ∧ ∀ q, H q = none → Q (.ref q) (upd H q (.lst (rgV lo hi)))) ∨
      ∃ (a : Addr) (kvs : List (Key × V)), xs = [.ref a] ∧ Rd H a (.dK kvs) ∧ ∀ p, H p = none → Q (.ref p) (upd H p (.lst (kvs.map fun kv => kV kv.1)))
  | .sorted => rSortedI K
  | .range => fun vs H Q => (∃ j, vs = [V.int j] ∧ ∀ p, H p = none → Q (.ref p) (upd H p (.rng 0 j))) ∨ ∃ i j, vs = [V.int i, V.int j] ∧ ∀ p, H p = none → Q (.ref p) (upd H p (.rng i j))
theorem bi_rule (hc : X.calm = true) (b : Bi) : CallR X (biV b) (rBi X.K b) := by
  cases b with
  | len => exact call_len
  | int => exact call_int1
  | str => exact call_str_int
  | bool => exact call_bool1
  | abs => exact call_abs
  | max => exact (call_max2 hc).or (cr_max hc)
  | min => exact (call_min2 hc).or (cr_min hc)
  | sum => exact cr_sum hc
  | all => exact cr_all hc
  | any => exact cr_any hc
  | tuple => exact call_tuple_of.or (call_tupRng hc)
  | list => exact call_list_of.or ((call_listRng hc).or (call_listD hc))
  | sorted => exact cr_sortedI
  | range => exact call_range1.or cr_range2

theorem maxI_mem : ∀ {ns : List Int}, ns ≠ [] → maxI ns ∈ ns ∧ ∀ y ∈ ns, y ≤ maxI ns
  | [], h => absurd rfl h
  | [x], _ => by simp [maxI]
  | x :: y :: r, _ => by
    obtain ⟨h1, h2⟩ := maxI_mem (ns := y :: r) (by simp)
    have e : maxI (x :: y :: r) = max x (maxI (y :: r)) := rfl
    rw [e]
    refine ⟨?_, fun z hz => ?_⟩
    · rcases Int.le_total x (maxI (y :: r)) with q | q
      · rw [Int.max_eq_right q]; exact List.mem_cons_of_mem _ h1
      · rw [Int.max_eq_left q]; exact List.mem_cons_self
    · rcases List.mem_cons.mp hz with q | q
      · omega
      · have := h2 z q; omega
theorem minI_mem : ∀ {ns : List Int}, ns ≠ [] → minI ns ∈ ns ∧ ∀ y ∈ ns, minI ns ≤ y
  | [], h => absurd rfl h
  | [x], _ => by simp [minI]
  | x :: y :: r, _ => by
    obtain ⟨h1, h2⟩ := minI_mem (ns := y :: r) (by simp)
    have e : minI (x :: y :: r) = min x (minI (y :: r)) := rfl
    rw [e]
    refine ⟨?_, fun z hz => ?_⟩
    · rcases Int.le_total x (minI (y :: r)) with q | q
      · rw [Int.min_eq_left q]; exact List.mem_cons_self
      · rw [Int.min_eq_right q]; exact List.mem_cons_of_mem _ h1
    · rcases List.mem_cons.mp hz with q | q
      · omega
      · have := h2 z q; omega
theorem sortI_same {ns ms : List Int} (h1 : ms.Perm ns) (h2 : ms.Pairwise (· ≤ ·)) : ms = sortI ns := by
  have hp : (sortI ns).Perm ns := List.mergeSort_perm _ _
  have hs : (sortI ns).Pairwise (· ≤ ·) := by
    have := List.pairwise_mergeSort (le := fun a b : Int => decide (a ≤ b)) (fun a b c h1 h2 => by simp at *; omega) (fun a b => by simp; omega) ns
    exact this.imp fun h => by simpa using h
  exact List.Perm.eq_of_pairwise (fun _ _ _ _ a b => Int.le_antisymm a b) h2 hs (h1.trans hp.symm)
theorem rgV_eq (lo hi : Int) : rgV lo hi = (rangeI lo hi).map V.int := by unfold rgV rangeI; rw [List.map_map]; rfl
theorem rg_of {lo hi : Int} (h : okR lo hi ∧ (hi - lo).toNat ≤ LIM) : RgOk lo hi := by
  obtain ⟨⟨a, b, c, d⟩, e⟩ := h
  have e1 : (2 : Int) ^ 62 = 4611686018427387904 := by decide
  have e2 : (2 : Nat) ^ 24 = 16777216 := by decide
  unfold RgOk
  rw [e1, e2]
  rw [lim_is] at e
  exact ⟨a, b, c, d, e⟩
theorem rangeI_len (lo hi : Int) : (rangeI lo hi).length = (hi - lo).toNat := by unfold rangeI; simp
theorem rds1 {K : PySem.W.Frag} {d : D} {vs : List V} (h : RDs K T M H [d] vs) : ∃ v, vs = [v] ∧ RD K T M H d v := by
  obtain ⟨v, r, rfl, h1, h2⟩ := h
  cases h2
  exact ⟨v, rfl, h1⟩
theorem rds2 {K : PySem.W.Frag} {d e : D} {vs : List V} (h : RDs K T M H [d, e] vs) : ∃ v w, vs = [v, w] ∧ RD K T M H d v ∧ RD K T M H e w := by
  obtain ⟨v, r, rfl, h1, h2⟩ := h
  obtain ⟨w, rfl, h3⟩ := rds1 h2
  exact ⟨v, w, rfl, h1, h3⟩
theorem RD.new_rng {p : Addr} {lo hi : Int} (hr : HR X.K T M H g) (hp : H p = none) : RD X.K T M (upd H p (.rng lo hi)) (.rng lo hi) (.ref p) := ⟨p, rfl, upd_same, hr.out hp⟩
theorem view_back {x : D} {v : V} (hr : HR X.K T M H g) (hx : RD X.K T M H x v) {xs : List D} (e1 : view g x = .tup xs) : RD X.K T M H (.tup xs) v := by
  rcases hx.view hr with ⟨a, _, _, _, _, e3, _⟩ | ⟨a, e3⟩ | e3
  · rw [e1] at e3; cases e3
  · rw [e1] at e3; cases e3
  · rw [← show x = D.tup xs from e3.symm.trans e1]; exact hx

theorem RDs.keys {M : Mp} {H : Hp} : ∀ kvs : List (Ky × D), RDs X.K T M H (kvs.map fun kv => kyD kv.1) (kvs.map fun kv => kV kv.1)
  | [] => rfl
  | (.inl i, _) :: r => ⟨_, _, rfl, rfl, RDs.keys r⟩
  | (.inr i, _) :: r => ⟨_, _, rfl, rfl, RDs.keys r⟩
theorem bi_ok {b : Bi} {ds : List D} {vs : List V} {Q : VK} (hr : HR X.K T M H g) (hx : RDs X.K T M H ds vs) (h : wpR X.K T W σ M H (oR (biD b g ds) g) (PQ X T Q)) : rBi X.K b vs H Q := by
  unfold biD at h
  split at h
  · -- len
    rename_i d
    obtain ⟨v, rfl, hd⟩ := rds1 hx
    split at h
    · rename_i xs e1
      obtain ⟨p, vs, rfl, p1, p2, p3⟩ := hd.vlst hr e1
      exact ⟨_, vs.length, rfl, .inl ⟨vs, .inl (.inl p1), rfl⟩, by rw [← p3.length]; exact fin_ok h hr rfl⟩
    · rename_i xs e1
      obtain ⟨p, vs, rfl, p1, p2, p3⟩ := hd.vtup hr e1
      exact ⟨_, vs.length, rfl, .inr ⟨vs, p1, rfl⟩, by rw [← p3.length]; exact fin_ok h hr rfl⟩
    · rename_i xs e1
      obtain ⟨p, rfl, p1⟩ := hd.vscr hr e1
      exact ⟨_, _, rfl, .inl ⟨_, p1, rfl⟩, by rw [List.length_map]; exact fin_ok h hr rfl⟩
    · rename_i s e1
      cases hd.vstr hr e1
      split at h
      · rename_i hs
        exact ⟨_, _, rfl, ⟨lim_of hs, rfl⟩, fin_ok h hr rfl⟩
      · exact h.elim
    · exact h.elim
  · obtain ⟨v, rfl, hd⟩ := rds1 hx
    cases hd
    exact .inl ⟨_, rfl, fin_ok h hr rfl⟩
  · obtain ⟨v, rfl, hd⟩ := rds1 hx
    cases hd
    exact .inr ⟨_, rfl, fin_ok h hr rfl⟩
  · obtain ⟨v, rfl, hd⟩ := rds1 hx
    cases hd
    split at h
    · rename_i hs
      exact ⟨_, rfl, hs, fin_ok h hr rfl⟩
    · exact h.elim
  · obtain ⟨v, rfl, hd⟩ := rds1 hx
    cases hd
    exact .inl ⟨_, rfl, fin_ok h hr rfl⟩
  · obtain ⟨v, rfl, hd⟩ := rds1 hx
    cases hd
    exact .inr ⟨_, rfl, fin_ok h hr rfl⟩
  · obtain ⟨v, rfl, hd⟩ := rds1 hx
    cases hd
    exact ⟨_, rfl, fin_ok h hr rfl⟩
  · obtain ⟨v, w, rfl, hd, he⟩ := rds2 hx
    cases hd
    cases he
    exact .inl ⟨_, _, rfl, fin_ok h hr rfl⟩
  · obtain ⟨v, w, rfl, hd, he⟩ := rds2 hx
    cases hd
    cases he
    exact .inl ⟨_, _, rfl, fin_ok h hr rfl⟩
  · -- max
    obtain ⟨v, rfl, hd⟩ := rds1 hx
    split at h
    · rename_i xs e1
      obtain ⟨p, vs, rfl, p1, p2, p3⟩ := hd.vlst hr e1
      cases e : KN.intsD xs with
      | none => rw [e] at h; exact h.elim
      | some ns =>
        rw [e] at h
        have hv := RDs.of_ints e p3
        subst hv
        by_cases hn : ns = []
        · rw [Option.bind_some, if_pos hn] at h; exact h.elim
        · rw [Option.bind_some, if_neg hn] at h
          obtain ⟨m1, m2⟩ := maxI_mem hn
          refine .inr ⟨p, ns, rfl, .inl (.inl p1), List.length_pos_iff.mpr hn, fun m h1 h2 => ?_⟩
          have : m = maxI ns := Int.le_antisymm (m2 m h1) (h2 _ m1)
          subst this
          exact fin_ok h hr rfl
    · exact h.elim
  · -- min
    obtain ⟨v, rfl, hd⟩ := rds1 hx
    split at h
    · rename_i xs e1
      obtain ⟨p, vs, rfl, p1, p2, p3⟩ := hd.vlst hr e1
      cases e : KN.intsD xs with
      | none => rw [e] at h; exact h.elim
      | some ns =>
        rw [e] at h
        have hv := RDs.of_ints e p3
        subst hv
        by_cases hn : ns = []
        · rw [Option.bind_some, if_pos hn] at h; exact h.elim
        · rw [Option.bind_some, if_neg hn] at h
          obtain ⟨m1, m2⟩ := minI_mem hn
          refine .inr ⟨p, ns, rfl, .inl (.inl p1), List.length_pos_iff.mpr hn, fun m h1 h2 => ?_⟩
          have : m = minI ns := Int.le_antisymm (h2 _ m1) (m2 m h1)
          subst this
          exact fin_ok h hr rfl
    · exact h.elim
  · -- sum
    obtain ⟨v, rfl, hd⟩ := rds1 hx
    split at h
    · rename_i xs e1
      obtain ⟨p, vs, rfl, p1, p2, p3⟩ := hd.vlst hr e1
      cases e : KN.intsD xs with
      | none => rw [e] at h; exact h.elim
      | some ns =>
        rw [e] at h
        have hv := RDs.of_ints e p3
        subst hv
        exact ⟨p, ns, rfl, .inl (.inl p1), fin_ok h hr rfl⟩
    · exact h.elim
  · -- all
    obtain ⟨v, rfl, hd⟩ := rds1 hx
    split at h
    · rename_i xs e1
      obtain ⟨p, vs, rfl, p1, p2, p3⟩ := hd.vlst hr e1
      cases e : KN.bools xs with
      | none => rw [e] at h; exact h.elim
      | some ns =>
        rw [e] at h
        have hv := RDs.of_bools e p3
        subst hv
        exact ⟨p, ns, rfl, .inl (.inl p1), fin_ok h hr rfl⟩
    · exact h.elim
  · -- any
    obtain ⟨v, rfl, hd⟩ := rds1 hx
    split at h
    · rename_i xs e1
      obtain ⟨p, vs, rfl, p1, p2, p3⟩ := hd.vlst hr e1
      cases e : KN.bools xs with
      | none => rw [e] at h; exact h.elim
      | some ns =>
        rw [e] at h
        have hv := RDs.of_bools e p3
        subst hv
        exact ⟨p, ns, rfl, .inl (.inl p1), fin_ok h hr rfl⟩
    · exact h.elim
  · -- tuple
    obtain ⟨v, rfl, hd⟩ := rds1 hx
    split at h
    · rename_i xs e1
      obtain ⟨p, vs, rfl, p1, p2, p3⟩ := hd.vlst hr e1
      exact .inl ⟨p, vs, rfl, .inl ⟨.inl (.inl p1), fun q hn => new_ok h hr hn (RD.new_tup hr hn p3 p2)⟩⟩
    · rename_i xs e1
      obtain ⟨p, vs, rfl, p1, p2, p3⟩ := hd.vtup hr e1
      exact .inl ⟨p, vs, rfl, .inr ⟨p1, fin_ok h hr (view_back hr hd e1)⟩⟩
    · rename_i lo hi e1
      obtain ⟨p, rfl, p1⟩ := hd.vrng hr e1
      split at h
      · rename_i hs
        refine .inr ⟨p, lo, hi, rfl, p1, rg_of hs, fun q hn => new_ok h hr hn ?_⟩
        rw [rgV_eq]
        exact RD.new_tup hr hn RDs.ints (by rw [List.length_map, rangeI_len]; exact hs.2)
      · exact h.elim
    · exact h.elim
  · -- list
    obtain ⟨v, rfl, hd⟩ := rds1 hx
    split at h
    · rename_i kvs ekv
      obtain ⟨a, p, vs, rfl, eg, h1, rfl, q1, q2, q3, q4⟩ := dk_ok hr hd ekv
      refine .inr (.inr ⟨p, vs, rfl, .inl q1, fun q hn => new_ok h hr hn ?_⟩)
      have e : (vs.map fun kv => kV kv.1) = kvs.map fun kv => kV kv.1 := by
        have := congrArg (List.map kV) q3
        rw [List.map_map, List.map_map] at this
        exact this
      refine RD.new_lst hr hn ?_ (by rw [List.length_map]; exact q2)
      rw [e]
      exact RDs.keys kvs
    · split at h
      · rename_i xs e1
        obtain ⟨p, vs, rfl, p1, p2, p3⟩ := hd.vlst hr e1
        exact .inl ⟨p, vs, rfl, .inl (.inl (.inl p1)), fun q hn => new_ok h hr hn (RD.new_lst hr hn p3 p2)⟩
      · rename_i xs e1
        obtain ⟨p, vs, rfl, p1, p2, p3⟩ := hd.vtup hr e1
        exact .inl ⟨p, vs, rfl, .inr p1, fun q hn => new_ok h hr hn (RD.new_lst hr hn p3 p2)⟩
      · rename_i lo hi e1
        obtain ⟨p, rfl, p1⟩ := hd.vrng hr e1
        split at h
        · rename_i hs
          refine .inr (.inl ⟨p, lo, hi, rfl, p1, rg_of hs, fun q hn => new_ok h hr hn ?_⟩)
          rw [rgV_eq]
          exact RD.new_lst hr hn RDs.ints (by rw [List.length_map, rangeI_len]; exact hs.2)
        · exact h.elim
      · exact h.elim
  · -- sorted
    obtain ⟨v, rfl, hd⟩ := rds1 hx
    split at h
    · rename_i xs e1
      obtain ⟨p, vs, rfl, p1, p2, p3⟩ := hd.vlst hr e1
      cases e : KN.intsD xs with
      | none => rw [e] at h; exact h.elim
      | some ns =>
        rw [e] at h
        have hv := RDs.of_ints e p3
        subst hv
        refine ⟨p, ns, rfl, .inl (.inl p1), fun ms q h1 h2 hn => new_ok h hr hn ?_⟩
        rw [sortI_same h1 h2]
        refine RD.new_lst hr hn RDs.ints ?_
        rw [List.length_map, sortI, List.length_mergeSort]
        rw [List.length_map] at p2
        exact p2
    · exact h.elim
  · obtain ⟨v, rfl, hd⟩ := rds1 hx
    cases hd
    split at h
    · exact .inl ⟨_, rfl, fun q hn => new_ok h hr hn (RD.new_rng hr hn)⟩
    · exact h.elim
  · obtain ⟨v, w, rfl, hd, he⟩ := rds2 hx
    cases hd
    cases he
    split at h
    · exact .inr ⟨_, _, rfl, fun q hn => new_ok h hr hn (RD.new_rng hr hn)⟩
    · exact h.elim
  · exact h.elim
end
end KN

namespace KN
open PySem PySem.Spec PyProof.Rows L2

/-! ### does a term of ours say what the text says -/
structure Ck where
  N : List Str
  sc : Scope
  fc : Str → Bool
  fnm : Nat → Option Str
  cnm : Nat → Option Str

def visB (sc : Scope) (x : Str) : Bool := match sc.names.lookup x with
  | some .local => true | some .cell => true | some .free => true | _ => false
def glB (sc : Scope) (x : Str) : Bool := match sc.names.lookup x with
  | some .globalImplicit => true | _ => false
def locB (c : Ck) (x : Str) : Bool := match c.sc.names.lookup x with
  | some .local => true | some .cell => c.fc x | _ => false
def dbgB (x : Str) : Bool := !(x == ("__debug__" : Str)) && !(x == ("__classdict__" : Str)) && !(x == ("__name__" : Str))
def nmB (c : Ck) (i : Nat) (x : Str) : Bool := decide (c.N[i]? = some x) && visB c.sc x && dbgB x
def stB (c : Ck) (i : Nat) (x : Str) : Bool := decide (c.N[i]? = some x) && locB c x && dbgB x
def noStar : Expr → Bool
  | .Starred .. => false
  | _ => true
def noSlice : Expr → Bool
  | .Slice .. => false
  | _ => true
def noSet : Expr → Bool
  | .Set .. => false
  | _ => true
/-- the test of such an expression is its value's truth -/
def plainTest : Expr → Bool
  | .UnaryOp .Not _ _ => false
  | .BoolOp .. => false
  | .IfExp .. => false
  | .Compare .. => false
  | _ => true
def tyN : Ty → Str
  | .int => "int" | .bool => "bool" | .str => "str" | .list => "list" | .tuple => "tuple"
def kNm (c : Ck) (x : Str) : Expr → Bool
  | .Name y _ => decide (y = x) && glB c.sc x && dbgB x
  | _ => false
def kTyL (c : Ck) : List Ty → List Expr → Bool
  | [], [] => true
  | t :: ts, e :: es => kNm c (tyN t) e && noStar e && kTyL c ts es
  | _, _ => false
def kTy (c : Ck) : List Ty → Expr → Bool
  | [t], .Name y p => kNm c (tyN t) (.Name y p)
  | ts, .Tuple es _ _ => decide (ts.length ≤ 8) && kTyL c ts es
  | _, _ => false
def kTs (c : Ck) : List Nat → List Expr → Bool
  | [], [] => true
  | i :: is, .Name x _ :: es => stB c i x && kTs c is es
  | _, _ => false
def kT (c : Ck) : LT → Expr → Bool
  | .name i, .Name x _ => stB c i x
  | .tup is, .Tuple es _ _ => kTs c is es
  | _, _ => false
def ownN (c : Ck) (t : LT) : List (Str × Nat) := (ownT t).filterMap fun i => (c.N[i]?).map fun x => (x, i)
def Ck.blk (c : Ck) (scope : Scope) : Ck := { c with sc := relS scope c.sc, fc := fun x => scope.names.lookup x == some .cell }

/-- attributeBase of such is the plain value -/
def plainBase : Expr → Bool
  | .Call (.Name _ _) [] [] _ => false
  | _ => true
theorem base_of {e : Expr} {a : Str} {env : Env} (h : plainBase e = true) : attributeBase e a env (eval e env) = eval e env := by
  cases e with
  | Call f xs kws p =>
    cases f with
    | Name n q =>
      cases xs with
      | nil =>
        cases kws with
        | nil => simp [plainBase] at h
        | cons _ _ => rfl
      | cons _ _ => rfl
    | _ => rfl
  | _ => rfl

mutual
def kE (c : Ck) : LE → Expr → Bool
  | .var i, .Name x _ => nmB c i x
  | .int i, .Constant (.int j) _ _ => decide (i = j)
  | .str s, .Constant (.str t) _ _ => decide (s = t)
  | .bl b, .Constant (.bool d) _ _ => decide (b = d)
  | .non, .Constant .none _ _ => true
  | .dnew, .Dict ks vs _ => match ks, vs with
    | [], [] => true
    | _, _ => false
  | .index a e, .Call fn xs kws cp => match fn, xs, kws with
    | .Attribute o name ap, [y], [] => decide (name = ("index" : Str)) && kE c a o && kE c e y && noStar y && plainBase o && (ap.endLine == cp.line)
    | _, _, _ => false
  | .con i, .Name x _ => decide (c.cnm i = some x) && glB c.sc x && dbgB x
  | .tup es, .Tuple xs _ _ => kEs c es xs
  | .lst _ es, .List xs _ => kEs c es xs
  | .bin o a b, .BinOp x p y _ => decide (p = bop o) && kE c a x && kE c b y
  | .neg a, .UnaryOp .USub x _ => kE c a x
  | .cmp o a b, .Compare x ops ys _ => match ops, ys with
    | [p], [y] => decide (p = cop o) && kE c a x && kE c b y && noSet y
    | _, _ => false
  | .chain o o' a b d, .Compare x ops ys _ => match ops, ys with
    | [p, q], [y, z] => decide (p = cop o) && decide (q = cop o') && kE c a x && kE c b y && kE c d z && noSet y && noSet z
    | _, _ => false
  | .and a b, .BoolOp .And xs pos => match xs with
    | [x, y] => kE c a x && kE c b y
    | x :: y :: z :: r => kE c a x && kE c b (.BoolOp .And (y :: z :: r) pos)
    | _ => false
  | .or a b, .BoolOp .Or xs pos => match xs with
    | [x, y] => kE c a x && kE c b y
    | x :: y :: z :: r => kE c a x && kE c b (.BoolOp .Or (y :: z :: r) pos)
    | _ => false
  | .not a, .UnaryOp .Not x _ => kE c a x
  | .ifx d a b, .IfExp t x y _ => kC c d t && kE c a x && kE c b y
  | .idx a b, .Subscript x y _ => kE c a x && kE c b y && noSlice y
  | .sli a lo hi, .Subscript x y _ => match y with
    | .Slice l u none _ => kE c a x && kO c lo l && kO c hi u
    | _ => false
  | .call f es, .Call fn xs kws _ => match fn, xs, kws with
    | .Name x _, y :: ys, [] => decide (c.fnm f = some x) && glB c.sc x && dbgB x && kEs c es (y :: ys)
    | _, _, _ => false
  | .bi b es, .Call fn xs kws _ => match fn, xs, kws with
    | .Name x _, y :: ys, [] => decide (x = ((biN b).2 : Str)) && glB c.sc x && dbgB x && kEs c es (y :: ys)
    | _, _, _ => false
  | .isi a ts, .Call fn xs kws _ => match fn, xs, kws with
    | .Name x _, [y, t], [] => decide (x = ("isinstance" : Str)) && glB c.sc x && dbgB x && kE c a y && noStar y && kTy c ts t
    | _, _, _ => false
  | .comp _ e t s d, .ListComp elt gens scope _ => match gens with
    | [⟨tg, iter, ifs, as⟩] => decide (as = 0) && blkC c.N c.sc scope (ownN c t) && decide ((ownN c t).map (·.2) = ownT t) && kT (c.blk scope) t tg && kI c s iter && noSet iter && kCs (c.blk scope) d ifs && kE (c.blk scope) e elt
    | _ => false
  | _, _ => false
def kEs (c : Ck) : LEs → List Expr → Bool
  | .nil, [] => true
  | .cons e es, x :: xs => kE c e x && noStar x && kEs c es xs
  | _, _ => false
def kO (c : Ck) : LO → Option Expr → Bool
  | .no, none => true
  | .yes e, some x => kE c e x
  | _, _ => false
def kC (c : Ck) : LC → Expr → Bool
  | .val a, x => kE c a x && plainTest x
  | .cmp o a b, .Compare x ops ys _ => match ops, ys with
    | [p], [y] => decide (p = cop o) && kE c a x && kE c b y && noSet y
    | _, _ => false
  | .chain o o' a b d, .Compare x ops ys _ => match ops, ys with
    | [p, q], [y, z] => decide (p = cop o) && decide (q = cop o') && kE c a x && kE c b y && kE c d z && noSet y && noSet z
    | _, _ => false
  | .and a b, .BoolOp .And xs pos => match xs with
    | [x, y] => kC c a x && kC c b y
    | x :: y :: z :: r => kC c a x && kC c b (.BoolOp .And (y :: z :: r) pos)
    | _ => false
  | .or a b, .BoolOp .Or xs pos => match xs with
    | [x, y] => kC c a x && kC c b y
    | x :: y :: z :: r => kC c a x && kC c b (.BoolOp .Or (y :: z :: r) pos)
    | _ => false
  | .not a, .UnaryOp .Not x _ => kC c a x
  | _, _ => false
def kCs (c : Ck) : LCs → List Expr → Bool
  | .no, [] => true
  | .yes d, [x] => kC c d x
  | _, _ => false
def kI (c : Ck) : LI → Expr → Bool
  | .seq e, x => kE c e x
  | .range1 a, .Call fn xs kws _ => match fn, xs, kws with
    | .Name n _, [x], [] => decide (n = ("range" : Str)) && glB c.sc n && dbgB n && kE c a x && noStar x
    | _, _, _ => false
  | .range2 a b, .Call fn xs kws _ => match fn, xs, kws with
    | .Name n _, [x, y], [] => decide (n = ("range" : Str)) && glB c.sc n && dbgB n && kE c a x && kE c b y && noStar x && noStar y
    | _, _, _ => false
  | _, _ => false
end

/-! ### where a term of ours is run -/
def spF (K : PySem.W.Frag) (T : Tb) (call : List D → G → R D) (n : Nat) : Sp := fun vs H Q E => vs.length = n ∧ ∃ M g ds, HR K T M H g ∧ RDs K T M H ds vs ∧ wpR K T (fun c d _ H' => E c d H') [] M H (call ds g) fun d M' H' _ => ∀ v, RD K T M' H' d v → Q v H'
def bltNames : List Str := ["len", "int", "str", "bool", "abs", "max", "min", "sum", "all", "any", "tuple", "list", "sorted", "range", "isinstance"]
structure CallOk (X : Cx) (T : Tb) (F : Fn) (f : Nat) (x : Str) : Prop where
  ok : ∃ (k : Nat) (fd : FuncData) (ps : List Str), X.mg x = some (.ref (T.fad f)) ∧ PySem.W.keepIn X.K (.ref (T.fad f)) = true ∧ Binds X.K fd ps [] ∧ Room k X.A ∧
    FnOk X.prog X.w X.K X.mg X.base (L2.CX X.prog X.w) k (T.fad f) fd ps (spF X.K T (F.call f) ps.length) ∧ ∀ ds g, F.call f ds g ≠ .st → ds.length = ps.length
structure ConOk (X : Cx) (T : Tb) (d : D) (x : Str) : Prop where
  ok : ∃ (u : Value) (v : V), X.mg x = some u ∧ RelV v u ∧ ∀ M H, RD X.K T M H d v
structure Ctx (X : Cx) (c : Ck) (T : Tb) (F : Fn) (W : WX) : Prop where
  hN : X.N = c.N
  nd : c.N.Nodup
  sc : X.env.scope = c.sc
  kd : X.env.scope.kind = .function
  fc : X.fn = c.fc
  calm : X.calm = true
  hu : X.A.units + 64 < cLine
  tk : Takes X W
  po : PassesOwn (model X.prog X.w) X.A X.env X.xe
  bl : ∀ x ∈ bltNames, X.mg x = none
  cal : ∀ f x, c.fnm f = some x → CallOk X T F f x
  con : ∀ i x, c.cnm i = some x → ConOk X T (F.con i) x

section
variable {X : Cx} {c : Ck} {T : Tb} {F : Fn} {W : WX}

theorem vis_of (C : Ctx X c T F W) {x : Str} (h : visB c.sc x = true) : Vis X.env.scope x := by
  rw [C.sc]
  unfold visB at h
  unfold Vis
  split at h
  · rename_i e; exact .inl e
  · rename_i e; exact .inr (.inl e)
  · rename_i e; exact .inr (.inr e)
  · cases h
theorem loc_of (C : Ctx X c T F W) {x : Str} (h : locB c x = true) : L2.Loc X.env.scope x ∧ (X.fn x = true ∨ X.env.scope.names.lookup x = some .local) := by
  rw [C.sc, C.fc]
  unfold locB at h
  unfold L2.Loc
  split at h
  · rename_i e; exact ⟨.inl e, .inr e⟩
  · rename_i e; exact ⟨.inr e, .inl h⟩
  · cases h
theorem gl_of (C : Ctx X c T F W) {x : Str} (h : glB c.sc x = true) : Gl X x := by
  unfold Gl
  show X.env.scope.names.lookup x = _
  rw [C.sc]
  unfold glB at h
  split at h
  · rename_i e; exact e
  · cases h
theorem dbg_of {x : Str} (h : dbgB x = true) : (x == ("__debug__" : Str)) = false ∧ (x == ("__classdict__" : Str)) = false ∧ x ≠ ("__name__" : Str) := by
  unfold dbgB at h
  simp only [Bool.and_eq_true, Bool.not_eq_true'] at h
  exact ⟨h.1.1, h.1.2, fun e => by rw [e] at h; simp at h⟩
theorem nm_of (C : Ctx X c T F W) {i : Nat} {x : Str} (h : nmB c i x = true) : X.N[i]? = some x ∧ Vis X.env.scope x ∧ (x == ("__debug__" : Str)) = false ∧ (x == ("__classdict__" : Str)) = false := by
  unfold nmB at h
  simp only [Bool.and_eq_true, decide_eq_true_eq] at h
  exact ⟨by rw [C.hN]; exact h.1.1, vis_of C h.1.2, (dbg_of h.2).1, (dbg_of h.2).2.1⟩

theorem star_cons {e : Expr} {es : List Expr} {env : Env} (h : noStar e = true) : starEach (e :: es) env = (false, eval e env) :: starEach es env := by
  cases e <;> first | rfl | (simp [noStar] at h)
def noStars : List Expr → Bool
  | [] => true
  | e :: es => noStar e && noStars es
theorem star_any {pos : Pos} {env : Env} : ∀ {es : List Expr}, noStars es = true → (backTo pos (starEach es env)).any (·.1) = false
  | [], _ => rfl
  | e :: es, h => by
    simp only [noStars, Bool.and_eq_true] at h
    rw [star_cons h.1]
    show (false || (backTo pos (starEach es env)).any (·.1)) = false
    rw [star_any h.2]
    rfl
theorem kEs_stars : ∀ {es : LEs} {xs : List Expr}, kEs c es xs = true → noStars xs = true
  | .nil, [], _ => rfl
  | .nil, _ :: _, h => by simp [kEs] at h
  | .cons _ _, [], h => by simp [kEs] at h
  | .cons e es, x :: xs, h => by
    simp only [kEs, Bool.and_eq_true] at h
    simp only [noStars, Bool.and_eq_true]
    exact ⟨h.1.2, kEs_stars h.2⟩
theorem marks_of {op : CmpOp} {y : Expr} (h : noSet y = true) : behindInMarks op y = false := by
  cases y <;> first | rfl | (simp [noSet] at h)
theorem last_of {p q : CmpOp} {y z : Expr} (h : noSet z = true) : lastMarks [p, q] [y, z] = false := by
  show lastMarks [q] [z] = false
  exact marks_of h
theorem ix_of {b : Expr} (h : noSlice b = true) : PlainIx b := by
  intro o i
  cases b <;> first | rfl | (simp [noSlice] at h)
theorem test_of {e : Expr} {env : Env} (h : plainTest e = true) : ∀ whole, isTrue e env whole = (do let v ← whole; standAt e.pos; holding [v] (truthy v)) := by
  intro whole
  cases e with
  | UnaryOp op x p => cases op <;> first | rfl | (simp [plainTest] at h)
  | BoolOp _ _ _ => simp [plainTest] at h
  | IfExp _ _ _ _ => simp [plainTest] at h
  | Compare _ _ _ _ => simp [plainTest] at h
  | _ => rfl
theorem fold_of {e : Expr} {env : Env} (h : noSet e = true) : ∀ x, foldedSetIterable e env x = pure x := by
  intro x
  cases e <;> first | rfl | (simp [noSet] at h)

/-! ### steps -/
theorem lf_two {r : R2} {op : D → D → G → R D} {ea eb : KN.St → G → R D}
    (k : ∀ {M : Mp} {H : Hp} {g : G} {σ : L2.St} {x y : D} {v u : V} {Q : VK}, HR X.K T M H g → RD X.K T M H x v → RD X.K T M H y u → wpR X.K T W σ M H (op x y g) (PQ X T Q) → r v u H Q) {σ : L2.St} {H : Hp} {Q : VK}
    (h : lfE X T W (fun s g => (ea s g).bind fun x g => (eb s g).bind fun y g => op x y g) σ H Q) : tOp r (lfE X T W ea) (lfE X T W eb) σ H Q := by
  obtain ⟨M, s, g, rs, h⟩ := h
  refine ⟨M, s, g, rs, h.bind fun x M1 H1 g1 e1 hr1 h1 v rv => ⟨M1, s, g1, rs.ext e1 hr1, h1.bind fun y M2 H2 g2 e2 hr2 h2 u ru => ?_⟩⟩
  exact k hr2 (RD.ext e2 _ _ rv) ru h2
theorem lf_twoB {r : R2} {op : D → D → G → R Bool} {ea eb : KN.St → G → R D}
    (k : ∀ {M : Mp} {H : Hp} {g : G} {σ : L2.St} {x y : D} {v u : V} {Q : VK}, HR X.K T M H g → RD X.K T M H x v → RD X.K T M H y u → wpR X.K T W σ M H (op x y g) (CQ Q) → r v u H Q) {σ : L2.St} {H : Hp} {Q : Bool → Hp → Prop}
    (h : lfC X T W (fun s g => (ea s g).bind fun x g => (eb s g).bind fun y g => op x y g) σ H Q) : tTest (tOp r (lfE X T W ea) (lfE X T W eb)) σ H Q := by
  obtain ⟨M, s, g, rs, h⟩ := h
  refine ⟨M, s, g, rs, h.bind fun x M1 H1 g1 e1 hr1 h1 v rv => ⟨M1, s, g1, rs.ext e1 hr1, h1.bind fun y M2 H2 g2 e2 hr2 h2 u ru => ?_⟩⟩
  exact k hr2 (RD.ext e2 _ _ rv) ru (h2.mono fun b _ _ _ _ _ q => ⟨b, rfl, q⟩)
theorem s_var (C : Ctx X c T F W) {i : Nat} {x : Str} {pos : Pos} (h : nmB c i x = true) : PE X (.Name x pos) (lfE X T W (evE F (.var i))) := by
  obtain ⟨h1, h2, h3, h4⟩ := nm_of C h
  refine (pe_var h1 h2 h3 h4).via fun σ H Q h => ?_
  obtain ⟨M, s, g, rs, h⟩ := h
  simp only [evE] at h
  split at h
  · rename_i d e
    obtain ⟨v, q1, q2⟩ := rs.sl i d e
    exact ⟨v, q1, h.at rs.hr v q2⟩
  · exact h.elim
theorem lf_con {d : D} {v : V} (hd : ∀ M H, RD X.K T M H d v) {σ : L2.St} {H : Hp} {Q : VK} (h : lfE X T W (fun _ g => .ok d g) σ H Q) : tC v σ H Q := by
  obtain ⟨M, s, g, rs, h⟩ := h
  exact wpR.at h rs.hr v (hd _ _)
theorem s_neg {a : LE} {x : Expr} {pos : Pos} (ha : PE X x (lfE X T W (evE F a))) : PE X (.UnaryOp .USub x pos) (lfE X T W (evE F (.neg a))) := by
  refine (pe_un un_neg ha).via fun σ H Q h => ?_
  obtain ⟨M, s, g, rs, h⟩ := h
  refine ⟨M, s, g, rs, wpR.bind (by simpa only [evE] using h) fun x M1 H1 g1 e1 hr1 h1 v rv => ?_⟩
  cases x <;> first
    | exact h1.elim
    | (cases rv; exact ⟨_, rfl, h1.at hr1 _ rfl⟩)
theorem s_bin {o : BO} {a b : LE} {x y : Expr} {pos : Pos} (ha : PE X x (lfE X T W (evE F a))) (hb : PE X y (lfE X T W (evE F b))) : PE X (.BinOp x (bop o) y pos) (lfE X T W (evE F (.bin o a b))) :=
  (pe_op (op_bin o) ha hb).via fun σ H Q h => lf_two (op := fun x y g => oR (binD o g x y) g) (fun hr hx hy h => bin_ok hr hx hy h) (by simpa only [evE] using h)
theorem s_cmp (C : Ctx X c T F W) {o : CO} {a b : LE} {x y : Expr} {pos : Pos} (hm : noSet y = true) (ha : PE X x (lfE X T W (evE F a))) (hb : PE X y (lfE X T W (evE F b))) : PE X (.Compare x [cop o] [y] pos) (lfE X T W (evE F (.cmp o a b))) :=
  (pe_cmpR (op_cmp C.hu o) ha hb (marks_of hm)).via fun σ H Q h => lf_two (op := fun x y g => (oR (cmpD o g x y) g).bind fun k g => .ok (.bl k) g)
    (fun hr hx hy h => cmp_ok hr hx hy (h.bind fun k M1 H1 g1 e1 hr1 h1 => h1.at hr1 _ rfl)) (by simpa only [evE] using h)
theorem s_cmpC (C : Ctx X c T F W) {o : CO} {a b : LE} {x y : Expr} {pos : Pos} (hm : noSet y = true) (ha : PE X x (lfE X T W (evE F a))) (hb : PE X y (lfE X T W (evE F b))) : PT X (.Compare x [cop o] [y] pos) (lfC X T W (evC F (.cmp o a b))) :=
  (pt_cmpR (op_cmp C.hu o) ha hb (marks_of hm)).via fun σ H Q h => lf_twoB (op := fun x y g => oR (cmpD o g x y) g) (fun hr hx hy h => cmp_ok hr hx hy h) (by simpa only [evC] using h)
theorem s_idx (C : Ctx X c T F W) {a b : LE} {x y : Expr} {pos : Pos} (hm : noSlice y = true) (ha : PE X x (lfE X T W (evE F a))) (hb : PE X y (lfE X T W (evE F b))) : PE X (.Subscript x y pos) (lfE X T W (evE F (.idx a b))) :=
  (pe_ix ((ix_dk C.hu).or ix_seq) ha hb (ix_of hm)).via fun σ H Q h => lf_two (op := fun x y g => oR (idxD g x y) g) (fun hr hx hy h => idx_ok hr hx hy h) (by simpa only [evE] using h)
theorem s_dnew {pos : Pos} : PE X (.Dict [] [] pos) (lfE X T W (evE F .dnew)) := by
  refine pe_dnewK.via fun σ H Q h => ?_
  obtain ⟨M, s, g, rs, h⟩ := h
  intro p hp
  have h' : wpR X.K T W σ M H (R.ok (D.ref g.length) (g ++ [.dk []])) (PQ X T Q) := by simpa only [evE] using h
  have e := Ext.newRef (M := M) (o := .dK []) hp
  exact h' _ _ e (rs.hr.newRef hp ⟨[], upd_same, Nat.zero_le _, rfl, rfl⟩) _ ⟨p, by rw [← rs.hr.len]; simp, rfl⟩
theorem findD_ok {x : D} : ∀ {xs : List D} {n k : Nat}, findD x xs n = some k → ∃ j z, k = n + j ∧ xs[j]? = some z ∧ eqv z x = true ∧ ∀ (m : Nat) z', m < j → xs[m]? = some z' → eqv z' x = false
  | [], n, k, h => by simp [findD] at h
  | y :: r, n, k, h => by
    unfold findD at h
    split at h
    · rename_i e
      cases h
      exact ⟨0, y, rfl, rfl, e, fun m z' hm _ => absurd hm (Nat.not_lt_zero _)⟩
    · rename_i e
      obtain ⟨j, z, h1, h2, h3, h4⟩ := findD_ok h
      refine ⟨j + 1, z, by omega, h2, h3, fun m z' hm hz => ?_⟩
      cases m with
      | zero =>
        cases hz
        cases q : eqv y x
        · rfl
        · exact absurd q e
      | succ m => exact h4 m z' (by omega) hz
theorem s_index {a e : LE} {o y : Expr} {ap cp : Pos} (h1 : noStar y = true) (h2 : plainBase o = true) (h3 : (ap.endLine == cp.line) = true) (ha : PE X o (lfE X T W (evE F a))) (he : PE X y (lfE X T W (evE F e))) : PE X (.Call (.Attribute o "index" ap) [y] [] cp) (lfE X T W (evE F (.index a e))) := by
  refine (pe_bm PySem.F.plainAttrs_list PySem.F.slot_list_index PySem.F.type_list_index mt_index ha (pa_cons he pa_nil (star_cons h1)) (base_of h2) (by rw [star_cons h1]; rfl) h3 (star_cons h1) rfl).via fun σ H Q h => ?_
  obtain ⟨M, s, g, rs, h⟩ := h
  refine ⟨M, s, g, rs, wpR.bind (by simpa only [evE] using h) fun x M1 H1 g1 e1 hr1 h1 v rv => ?_⟩
  split at h1
  · rename_i xs eg
    obtain ⟨p, vs, rfl, p1, p2, p3⟩ := rv.vlst hr1 eg
    refine ⟨.inl ⟨rfl, vs, .inl (.inl p1)⟩, M1, s, g1, rs.ext e1 hr1, wpR.bind h1 fun y M2 H2 g2 e2 hr2 h2 u ru => ?_⟩
    unfold indexD at h2
    split at h2
    · rename_i ys eg2
      obtain ⟨q, ws, eq, q1, q2, q3⟩ := (RD.ext e2 _ _ rv).vlst hr2 eg2
      cases eq
      split at h2
      · rename_i hf
        cases ef : findD y ys 0 with
        | none => rw [ef] at h2; exact h2.elim
        | some k =>
          rw [ef] at h2
          obtain ⟨j, z, rfl, k2, k3, k4⟩ := findD_ok ef
          obtain ⟨w, w1, w2⟩ := q3.get k2
          have fl : ∀ {m : Nat} {z' : D}, ys[m]? = some z' → flatD z' = true := fun hm => List.all_eq_true.mp hf.2 _ (List.mem_of_getElem? hm)
          refine ⟨p, ws, u, j, w, rfl, rfl, .inl (.inl q1), flat_ok ru hf.1, flats_ok q3 hf.2, w1, ?_, fun m z' hm hz => ?_, ?_⟩
          · rw [eqv_flat w2 (fl k2) ru hf.1]; exact k3
          · have hl : m < ys.length := by
              have := (List.getElem?_eq_some_iff.mp k2).1
              omega
            have e5 := List.getElem?_eq_getElem hl
            obtain ⟨w', w3, w4⟩ := q3.get e5
            rw [hz] at w3
            cases w3
            rw [eqv_flat w4 (fl e5) ru hf.1]
            exact k4 m _ hm e5
          · have := fin_ok h2 hr2 (show RD X.K T M2 H2 (.int ((0 + j : Nat) : Int)) (.int ((0 + j : Nat) : Int)) from rfl)
            rwa [Nat.zero_add] at this
      · exact h2.elim
    · exact h2.elim
  · exact h1.elim
theorem s_and {a b : LE} {x y : Expr} {rest : List Expr} {pos : Pos} (ha : PE X x (lfE X T W (evE F a))) (hb : PE X (.BoolOp .And (y :: rest) pos) (lfE X T W (evE F b))) : PE X (.BoolOp .And (x :: y :: rest) pos) (lfE X T W (evE F (.and a b))) := by
  refine (pe_and ha hb).via fun σ H Q h => ?_
  obtain ⟨M, s, g, rs, h⟩ := h
  refine ⟨M, s, g, rs, wpR.bind (by simpa only [evE] using h) fun x M1 H1 g1 e1 hr1 h1 v rv => ?_⟩
  cases x with
  | bl k =>
    cases rv
    refine ⟨k, rfl, ?_⟩
    cases k with
    | true => exact iteT ⟨M1, s, g1, rs.ext e1 hr1, h1⟩
    | false => exact iteF (h1.at hr1 _ rfl)
  | _ => exact h1.elim
theorem s_or {a b : LE} {x y : Expr} {rest : List Expr} {pos : Pos} (ha : PE X x (lfE X T W (evE F a))) (hb : PE X (.BoolOp .Or (y :: rest) pos) (lfE X T W (evE F b))) : PE X (.BoolOp .Or (x :: y :: rest) pos) (lfE X T W (evE F (.or a b))) := by
  refine (pe_or ha hb).via fun σ H Q h => ?_
  obtain ⟨M, s, g, rs, h⟩ := h
  refine ⟨M, s, g, rs, wpR.bind (by simpa only [evE] using h) fun x M1 H1 g1 e1 hr1 h1 v rv => ?_⟩
  cases x with
  | bl k =>
    cases rv
    refine ⟨k, rfl, ?_⟩
    cases k with
    | true => exact iteT (h1.at hr1 _ rfl)
    | false => exact iteF ⟨M1, s, g1, rs.ext e1 hr1, h1⟩
  | _ => exact h1.elim
theorem s_not {a : LE} {x : Expr} {pos : Pos} (ha : PE X x (lfE X T W (evE F a))) : PE X (.UnaryOp .Not x pos) (lfE X T W (evE F (.not a))) := by
  refine (pe_not ha).via fun σ H Q h => ?_
  obtain ⟨M, s, g, rs, h⟩ := h
  refine ⟨M, s, g, rs, wpR.bind (by simpa only [evE] using h) fun x M1 H1 g1 e1 hr1 h1 v rv => ?_⟩
  cases x <;> first
    | exact h1.elim
    | (cases rv; exact ⟨_, rfl, h1.at hr1 _ rfl⟩)
theorem s_ifx {d : LC} {a b : LE} {t x y : Expr} {pos : Pos} (hd : PT X t (lfC X T W (evC F d))) (ha : PE X x (lfE X T W (evE F a))) (hb : PE X y (lfE X T W (evE F b))) : PE X (.IfExp t x y pos) (lfE X T W (evE F (.ifx d a b))) := by
  refine (pe_ifExp hd ha hb).via fun σ H Q h => ?_
  obtain ⟨M, s, g, rs, h⟩ := h
  refine ⟨M, s, g, rs, wpR.bind (by simpa only [evE] using h) fun k M1 H1 g1 e1 hr1 h1 => ?_⟩
  cases k with
  | true => exact iteT ⟨M1, s, g1, rs.ext e1 hr1, h1⟩
  | false => exact iteF ⟨M1, s, g1, rs.ext e1 hr1, h1⟩
theorem s_val {a : LE} {x : Expr} (hp : plainTest x = true) (ha : PE X x (lfE X T W (evE F a))) : PT X x (lfC X T W (evC F (.val a))) := by
  refine (pt_truth ha (test_of hp)).via fun σ H Q h => ?_
  obtain ⟨M, s, g, rs, h⟩ := h
  refine ⟨M, s, g, rs, wpR.bind (by simpa only [evC] using h) fun x M1 H1 g1 e1 hr1 h1 v rv => ?_⟩
  exact tru_okD hr1 rv h1
theorem s_andC {a b : LC} {x y : Expr} {rest : List Expr} {pos : Pos} (ha : PT X x (lfC X T W (evC F a))) (hb : PW X (.BoolOp .And (y :: rest) pos) (lfC X T W (evC F b))) : PW X (.BoolOp .And (x :: y :: rest) pos) (lfC X T W (evC F (.and a b))) := by
  refine ⟨fun wh pins s σ H Q I h => (pw_and ha hb).run wh pins s σ H Q I ?_⟩
  obtain ⟨M, s, g, rs, h⟩ := h
  refine ⟨M, s, g, rs, wpR.bind (by simpa only [evC] using h) fun k M1 H1 g1 e1 hr1 h1 => ?_⟩
  cases k with
  | true => exact iteT ⟨M1, s, g1, rs.ext e1 hr1, h1⟩
  | false => exact iteF (h1.at hr1)
theorem s_orC {a b : LC} {x y : Expr} {rest : List Expr} {pos : Pos} (ha : PT X x (lfC X T W (evC F a))) (hb : PW X (.BoolOp .Or (y :: rest) pos) (lfC X T W (evC F b))) : PW X (.BoolOp .Or (x :: y :: rest) pos) (lfC X T W (evC F (.or a b))) := by
  refine ⟨fun wh pins s σ H Q I h => (pw_or ha hb).run wh pins s σ H Q I ?_⟩
  obtain ⟨M, s, g, rs, h⟩ := h
  refine ⟨M, s, g, rs, wpR.bind (by simpa only [evC] using h) fun k M1 H1 g1 e1 hr1 h1 => ?_⟩
  cases k with
  | true => exact iteT (h1.at hr1)
  | false => exact iteF ⟨M1, s, g1, rs.ext e1 hr1, h1⟩
theorem s_notC {a : LC} {x : Expr} {pos : Pos} (ha : PT X x (lfC X T W (evC F a))) : PT X (.UnaryOp .Not x pos) (lfC X T W (evC F (.not a))) := by
  refine (pt_not ha).via fun σ H Q h => ?_
  obtain ⟨M, s, g, rs, h⟩ := h
  exact ⟨M, s, g, rs, wpR.bind (by simpa only [evC] using h) fun k M1 H1 g1 e1 hr1 h1 => h1.at hr1⟩
theorem s_chain (C : Ctx X c T F W) {o o' : CO} {a b d : LE} {x y z : Expr} {pos : Pos} (hm : noSet z = true) (ha : PE X x (lfE X T W (evE F a))) (hb : PE X y (lfE X T W (evE F b))) (hd : PE X z (lfE X T W (evE F d))) :
    PE X (.Compare x [cop o, cop o'] [y, z] pos) (lfE X T W (evE F (.chain o o' a b d))) := by
  refine (pe_chain (op_cmp C.hu o) (op_cmp C.hu o') ha hb hd (last_of hm)).via fun σ H Q h => ?_
  obtain ⟨M, s, g, rs, h⟩ := h
  refine ⟨M, s, g, rs, wpR.bind (by simpa only [evE] using h) fun x M1 H1 g1 e1 hr1 h1 v rv => ⟨M1, s, g1, rs.ext e1 hr1, h1.bind fun y M2 H2 g2 e2 hr2 h2 u ru => ?_⟩⟩
  refine cmp_ok hr2 (RD.ext e2 _ _ rv) ru (h2.bind fun k M3 H3 g3 e3 hr3 h3 => ⟨k, rfl, ?_⟩)
  cases k with
  | true =>
    rw [if_pos rfl] at h3
    refine iteT ⟨M3, s, g3, rs.ext (e1.trans (e2.trans e3)) hr3, h3.bind fun z M4 H4 g4 e4 hr4 h4 w rw' => ?_⟩
    exact cmp_ok hr4 (RD.ext (e3.trans e4) _ _ ru) rw' (h4.bind fun k M5 H5 g5 e5 hr5 h5 => h5.at hr5 _ rfl)
  | false =>
    rw [if_neg Bool.false_ne_true] at h3
    exact iteF (h3.at hr3 _ rfl)
theorem s_chainC (C : Ctx X c T F W) {o o' : CO} {a b d : LE} {x y z : Expr} {pos : Pos} (hm : noSet z = true) (ha : PE X x (lfE X T W (evE F a))) (hb : PE X y (lfE X T W (evE F b))) (hd : PE X z (lfE X T W (evE F d))) :
    PT X (.Compare x [cop o, cop o'] [y, z] pos) (lfC X T W (evC F (.chain o o' a b d))) := by
  refine (pt_chain (op_cmp C.hu o) (op_cmp C.hu o') ha hb hd (last_of hm)).via fun σ H Q h => ?_
  obtain ⟨M, s, g, rs, h⟩ := h
  refine ⟨M, s, g, rs, wpR.bind (by simpa only [evC] using h) fun x M1 H1 g1 e1 hr1 h1 v rv => ⟨M1, s, g1, rs.ext e1 hr1, h1.bind fun y M2 H2 g2 e2 hr2 h2 u ru => ?_⟩⟩
  refine cmp_ok hr2 (RD.ext e2 _ _ rv) ru (h2.bind fun k M3 H3 g3 e3 hr3 h3 => ⟨k, rfl, ?_⟩)
  cases k with
  | true =>
    rw [if_pos rfl] at h3
    refine iteT ⟨M3, s, g3, rs.ext (e1.trans (e2.trans e3)) hr3, h3.bind fun z M4 H4 g4 e4 hr4 h4 w rw' => ?_⟩
    exact cmp_ok hr4 (RD.ext (e3.trans e4) _ _ ru) rw' (h4.mono fun k _ _ _ _ _ q => ⟨k, rfl, q⟩)
  | false =>
    rw [if_neg Bool.false_ne_true] at h3
    exact iteF ⟨_, rfl, h3.at hr3⟩
theorem s_nil : PA X [] (lfEs X T W (evEs F .nil)) := pa_nil.via fun σ H Q h => by
  obtain ⟨M, s, g, rs, h⟩ := h
  have h' : wpR X.K T W σ M H (R.ok ([] : List D) g) (fun ds M' H' _ => ∀ vs, RDs X.K T M' H' ds vs → Q vs H') := by simpa only [evEs] using h
  exact h'.at rs.hr [] rfl
theorem s_cons {e : LE} {es : LEs} {x : Expr} {xs : List Expr} (hs : noStar x = true) (he : PE X x (lfE X T W (evE F e))) (hr : PA X xs (lfEs X T W (evEs F es))) : PA X (x :: xs) (lfEs X T W (evEs F (.cons e es))) := by
  refine (pa_cons he hr (star_cons hs)).via fun σ H Q h => ?_
  obtain ⟨M, s, g, rs, h⟩ := h
  refine ⟨M, s, g, rs, wpR.bind (by simpa only [evEs] using h) fun x M1 H1 g1 e1 hr1 h1 v rv => ⟨M1, s, g1, rs.ext e1 hr1, h1.bind fun ys M2 H2 g2 e2 hr2 h2 us ru => ?_⟩⟩
  exact h2.at hr2 (v :: us) ⟨v, us, rfl, RD.ext e2 _ _ rv, ru⟩
theorem s_tup {es : LEs} {xs : List Expr} {k : Nat} {pos : Pos} (h : PA X xs (lfEs X T W (evEs F es))) : PE X (.Tuple xs k pos) (lfE X T W (evE F (.tup es))) := by
  refine (pe_tup h).via fun σ H Q h => ?_
  obtain ⟨M, s, g, rs, h⟩ := h
  refine ⟨M, s, g, rs, wpR.bind (by simpa only [evE] using h) fun ds M1 H1 g1 e1 hr1 h1 vs rv => ?_⟩
  split at h1
  · rename_i hl
    have hl' : vs.length ≤ LIM := by rw [← rv.length]; exact hl
    exact ⟨lim_of hl', fun p hp => h1 M1 _ (Ext.new hp) (hr1.new hp) _ (RD.new_tup hr1 hp rv hl')⟩
  · exact h1.elim
theorem mk_ok {mu : Bool} {ds : List D} {vs : List V} {M : Mp} {H : Hp} {g : G} {σ : L2.St} {Q : VK} (hr : HR X.K T M H g) (rv : RDs X.K T M H ds vs) (h : wpR X.K T W σ M H (mkL mu ds g) (PQ X T Q)) : vs.length ≤ LIM ∧ ∀ p, H p = none → Q (.ref p) (upd H p (.lst vs)) := by
  unfold mkL at h
  split at h
  · rename_i hl
    have hl' : vs.length ≤ LIM := by rw [← rv.length]; exact hl
    refine ⟨hl', fun p hp => ?_⟩
    cases mu with
    | true =>
      rw [if_pos rfl] at h
      have e := Ext.newRef (M := M) (o := .lst vs) hp
      exact h _ _ e (hr.newRef hp ⟨vs, upd_same, hl', RDs.ext e _ _ rv⟩) _ ⟨p, by rw [← hr.len]; simp, rfl⟩
    | false =>
      rw [if_neg Bool.false_ne_true] at h
      exact h M _ (Ext.new hp) (hr.new hp) _ (RD.new_lst hr hp rv hl')
  · exact h.elim
theorem s_lst {mu : Bool} {es : LEs} {xs : List Expr} {pos : Pos} (h : PA X xs (lfEs X T W (evEs F es))) : PE X (.List xs pos) (lfE X T W (evE F (.lst mu es))) := by
  refine (pe_lst h).via fun σ H Q h => ?_
  obtain ⟨M, s, g, rs, h⟩ := h
  refine ⟨M, s, g, rs, wpR.bind (by simpa only [evE] using h) fun ds M1 H1 g1 e1 hr1 h1 vs rv => ?_⟩
  obtain ⟨a, b⟩ := mk_ok hr1 rv h1
  exact ⟨lim_of a, b⟩
def lfO (X : Cx) (T : Tb) (W : WX) (ev : KN.St → G → R (Option Int)) : TO := fun σ H Q => ∃ M s g, RS X.K T M H g s σ ∧ wpR X.K T W σ M H (ev s g) fun o _ H' _ => Q o H'
theorem s_oNo : PO X none (lfO X T W (evO F .no)) := ⟨fun pins s σ H Q I h => po_none.run pins s σ H Q I (by
  obtain ⟨M, s, g, rs, h⟩ := h
  exact wpR.at (a := none) (by simpa only [evO] using h) rs.hr)⟩
theorem s_oYes {e : LE} {x : Expr} (he : PE X x (lfE X T W (evE F e))) : PO X (some x) (lfO X T W (evO F (.yes e))) := ⟨fun pins s σ H Q I h => (po_some he).run pins s σ H Q I (by
  obtain ⟨M, s, g, rs, h⟩ := h
  refine ⟨M, s, g, rs, wpR.bind (by simpa only [evO] using h) fun x M1 H1 g1 e1 hr1 h1 v rv => ?_⟩
  cases x with
  | int i => cases rv; exact ⟨i, rfl, wpR.at (a := some i) (by simpa only [asI, oR_some, R.bind_ok] using h1) hr1⟩
  | _ => exact h1.elim)⟩
theorem s_sli {a : LE} {lo hi : LO} {x : Expr} {l u : Option Expr} {p pos : Pos} (ha : PE X x (lfE X T W (evE F a))) (hl : PO X l (lfO X T W (evO F lo))) (hh : PO X u (lfO X T W (evO F hi))) : PE X (.Subscript x (.Slice l u none p) pos) (lfE X T W (evE F (.sli a lo hi))) := by
  refine (pe_slice sl_ok ha hl hh).via fun σ H Q h => ?_
  obtain ⟨M, s, g, rs, h⟩ := h
  refine ⟨M, s, g, rs, wpR.bind (by simpa only [evE] using h) fun x M1 H1 g1 e1 hr1 h1 v rv => ⟨M1, s, g1, rs.ext e1 hr1, h1.bind fun lo M2 H2 g2 e2 hr2 h2 => ⟨M2, s, g2, rs.ext (e1.trans e2) hr2, h2.bind fun hi M3 H3 g3 e3 hr3 h3 => ?_⟩⟩⟩
  exact sli_ok hr3 (RD.ext (e2.trans e3) _ _ rv) h3

/-! ### calls -/
theorem wpR.taken {A : Type} {W1 W2 : WX} {σ1 σ2 : L2.St} {M : Mp} {H : Hp} {r : R A} {post : A → Mp → Hp → G → Prop} (h : wpR X.K T W1 σ1 M H r post) (k : ∀ cls d H', W1 cls d σ1 H' → W2 cls d σ2 H') : wpR X.K T W2 σ2 M H r post := by
  cases r with
  | ok a g => exact h
  | exc x g => exact fun M' H' cls dd e hr hx => k _ _ _ (h M' H' cls dd e hr hx)
  | st => exact h
theorem s_call (C : Ctx X c T F W) {f : Nat} {x : Str} {es : LEs} {y : Expr} {ys : List Expr} {p pos : Pos} (hf : c.fnm f = some x) (hg : glB c.sc x = true) (hd : dbgB x = true) (hk : noStars (y :: ys) = true) (h : PA X (y :: ys) (lfEs X T W (evEs F es))) :
    PE X (.Call (.Name x p) (y :: ys) [] pos) (lfE X T W (evE F (.call f es))) := by
  obtain ⟨k, fd, ps, hm, kp, hb, hr, FN, hlen⟩ := (C.cal f x hf).ok
  simp only [noStars, Bool.and_eq_true] at hk
  refine (pe_callSD (E := fun σ cls d H' => W cls d σ H') FN hr (gl_of C hg) hm kp hb .nil (fun σ => ?_) h (dbg_of hd).1 (star_cons hk.1) (star_any hk.2)).via fun σ H Q h => ?_
  · exact passAt C.tk σ
  · obtain ⟨M, s, g, rs, h⟩ := h
    refine ⟨M, s, g, rs, wpR.bind (by simpa only [evE] using h) fun ds M1 H1 g1 e1 hr1 h1 vs rv => ?_⟩
    have hl : ds.length = ps.length := hlen ds g1 fun z => by rw [z] at h1; exact h1
    exact ⟨by rw [List.append_nil, ← rv.length]; exact hl, M1, g1, ds, hr1, by rw [List.append_nil]; exact rv, h1.taken fun _ _ _ q => q⟩
theorem s_bi (C : Ctx X c T F W) {b : Bi} {es : LEs} {y : Expr} {ys : List Expr} {p pos : Pos} (hg : glB c.sc ((biN b).2 : Str) = true) (hk : noStars (y :: ys) = true) (h : PA X (y :: ys) (lfEs X T W (evEs F es))) :
    PE X (.Call (.Name ((biN b).2 : Str) p) (y :: ys) [] pos) (lfE X T W (evE F (.bi b es))) := by
  simp only [noStars, Bool.and_eq_true] at hk
  have hm : X.mg ((biN b).2 : Str) = none := C.bl _ (by cases b <;> decide)
  have fin : ∀ {σ H Q}, lfE X T W (evE F (.bi b es)) σ H Q → tCB (rBi X.K b) (lfEs X T W (evEs F es)) σ H Q := fun {σ H Q} h => by
    obtain ⟨M, s, g, rs, h⟩ := h
    exact ⟨M, s, g, rs, wpR.bind (by simpa only [evE] using h) fun ds M1 H1 g1 e1 hr1 h1 vs rv => bi_ok hr1 rv h1⟩
  have rule := bi_rule (X := X) C.calm b
  unfold biV at rule
  cases hb : (biN b).1 with
  | true =>
    rw [hb, if_pos rfl] at rule
    refine (pe_callTy rule (gl_of C hg) hm (by cases b <;> first | (cases hb; done) | decide +kernel) h (by cases b <;> decide +kernel) (by cases b <;> decide +kernel) (star_cons hk.1) (star_any hk.2)).via fun σ H Q h => fin h
  | false =>
    rw [hb, if_neg Bool.false_ne_true] at rule
    refine (pe_callB rule (gl_of C hg) hm (by cases b <;> first | (cases hb; done) | decide +kernel) h (by cases b <;> decide +kernel) (by cases b <;> decide +kernel) (star_cons hk.1) (star_any hk.2)).via fun σ H Q h => fin h

/-! ### isinstance -/
def tyT : Ty → String
  | .int => "int" | .bool => "bool" | .str => "str" | .list => "list" | .tuple => "tuple"
def tgS : Tg → String
  | .non => "NoneType" | .bl => "bool" | .int => "int" | .str => "str" | .lst => "list" | .tup => "tuple"
theorem kit_tag (y : Ty) (t : Tg) : kitB (tgS t) (tyT y) = some (isTag y t) := by cases y <;> cases t <;> decide +kernel
theorem kits_tag {K : PySem.W.Frag} (t : Tg) : ∀ ts : List Ty, PySem.W.kitAny K (.type (tgS t)) (ts.map fun y => .type (tyT y)) = some (ts.any fun y => isTag y t)
  | [] => kitAny_nil
  | y :: ts => by
    refine kitAny_cons (b := isTag y t) (kit_ty (kit_tag y t)) (fun e => ?_) fun e => by simp [e]
    rw [List.any_cons, e, Bool.false_or]
    exact kits_tag t ts
theorem tag_of {M : Mp} {H : Hp} {g : G} (hr : HR X.K T M H g) {d : D} {v : V} {t : Tg} (h : RD X.K T M H d v) (e : tagD (view g d) = some t) : TyX X.K H v (.type (tgS t)) := by
  cases ev : view g d <;> rw [ev] at e <;> first
    | (cases e; done)
    | skip
  · cases e; cases h.vnon hr ev; exact .base .non
  · cases e; cases h.vbl hr ev; exact .base (.bl _)
  · cases e; cases h.vint hr ev; exact .base (.int _)
  · cases e; cases h.vstr hr ev; exact .base (.str _)
  · cases e
    obtain ⟨p, vs, rfl, p1, p2, p3⟩ := h.vtup hr ev
    rcases p1 with (p1 | ⟨o, p1⟩) | ⟨o, its, n, k1, k2, _⟩
    · exact .base (.tup p1)
    · exact .fTuple p1
    · exact .kTuple k1 k2
  · cases e
    obtain ⟨p, vs, rfl, p1, p2, p3⟩ := h.vlst hr ev
    exact .base (.lst p1)
theorem nm_ty (C : Ctx X c T F W) {t : Ty} {e : Expr} (h : kNm c (tyN t) e = true) : PE X e (tC (.ty (tyT t))) := by
  unfold kNm at h
  split at h
  · rename_i y p
    simp only [Bool.and_eq_true, decide_eq_true_eq] at h
    obtain ⟨⟨rfl, h2⟩, h3⟩ := h
    obtain ⟨d1, d2, d3⟩ := dbg_of h3
    exact pe_bltn (u := .type (tyT t)) (gl_of C h2) (C.bl _ (by cases t <;> decide)) (by cases t <;> decide +kernel) rfl d3 d1
  · cases h
def tTys (ts : List Ty) : TA := fun _ H Q => Q (ts.map fun y => .ty (tyT y)) H
theorem nm_tys (C : Ctx X c T F W) : ∀ {ts : List Ty} {es : List Expr}, kTyL c ts es = true → PA X es (tTys ts)
  | [], [], _ => pa_nil.via fun σ H Q h => h
  | t :: ts, e :: es, h => by
    simp only [kTyL, Bool.and_eq_true] at h
    exact (pa_cons (nm_ty C h.1.1) (nm_tys C h.2) (star_cons h.1.2)).via fun σ H Q h => h
  | [], _ :: _, h => by simp [kTyL] at h
  | _ :: _, [], h => by simp [kTyL] at h
theorem cls_all : ∀ ts : List Ty, Paired ClsV (ts.map fun y => V.ty (tyT y)) (ts.map fun y => Value.type (tyT y))
  | [] => .nil
  | t :: ts => .cons (.ty _) (cls_all ts)
theorem isi_fin {M : Mp} {H : Hp} {g : G} {σ : L2.St} {x : D} {v : V} {ts : List Ty} {Q : VK} (hr : HR X.K T M H g) (rv : RD X.K T M H x v) (h : wpR X.K T W σ M H ((oR (isTys g x ts) g).bind fun k g => .ok (.bl k) g) (PQ X T Q)) :
    ∃ t, TyX X.K H v (.type (tgS t)) ∧ PySem.W.kitAny X.K (.type (tgS t)) (ts.map fun y => .type (tyT y)) = some (ts.any fun y => isTag y t) ∧ ∀ M' H', Ext M H M' H' → HR X.K T M' H' g → Q (.bl (ts.any fun y => isTag y t)) H' := by
  unfold isTys at h
  cases e : tagD (view g x) with
  | none => rw [e] at h; exact h.elim
  | some t =>
    rw [e] at h
    exact ⟨t, tag_of hr rv e, kits_tag t ts, fun M' H' e' hr' => (show wpR X.K T W σ M H (R.ok (D.bl (ts.any fun y => isTag y t)) g) (PQ X T Q) from h) M' H' e' hr' _ rfl⟩
theorem s_isi (C : Ctx X c T F W) {a : LE} {ts : List Ty} {y t : Expr} {p pos : Pos} (hg : glB c.sc ("isinstance" : Str) = true) (hy : noStar y = true) (ht : kTy c ts t = true) (ha : PE X y (lfE X T W (evE F a))) :
    PE X (.Call (.Name "isinstance" p) [y, t] [] pos) (lfE X T W (evE F (.isi a ts))) := by
  have hm : X.mg ("isinstance" : Str) = none := C.bl _ (by decide)
  have hb : bootBuiltins ("isinstance" : Str) = some (.builtin "isinstance") := by decide +kernel
  unfold kTy at ht
  split at ht
  · rename_i t0 z pz
    refine (pe_callB call_isi (gl_of C hg) hm hb (pa_cons ha (pa_cons (nm_ty C ht) pa_nil) (star_cons hy)) (by decide +kernel) (by decide +kernel) (star_cons hy) rfl).via fun σ H Q h => ?_
    obtain ⟨M, s, g, rs, h⟩ := h
    refine ⟨M, s, g, rs, wpR.bind (by simpa only [evE] using h) fun x M1 H1 g1 e1 hr1 h1 v rv => ?_⟩
    obtain ⟨tg, q1, q2, q3⟩ := isi_fin hr1 rv h1
    refine ⟨v, .ty (tyT t0), _, _, _, rfl, .ty _, q1, ?_, q3 M1 H1 (Ext.refl _ _) hr1⟩
    rw [List.any_cons, List.any_nil, Bool.or_false]
    exact kit_ty (kit_tag t0 tg)
  · rename_i es kk pz
    simp only [Bool.and_eq_true, decide_eq_true_eq] at ht
    obtain ⟨hl, ht⟩ := ht
    refine (pe_callB call_isiT (gl_of C hg) hm hb (pa_cons ha (pa_cons (pe_tup (nm_tys C ht)) pa_nil) (star_cons hy)) (by decide +kernel) (by decide +kernel) (star_cons hy) rfl).via fun σ H Q h => ?_
    obtain ⟨M, s, g, rs, h⟩ := h
    refine ⟨M, s, g, rs, wpR.bind (by simpa only [evE] using h) fun x M1 H1 g1 e1 hr1 h1 v rv => ?_⟩
    refine ⟨by rw [List.length_map, sizeLine_eq]; omega, fun p hp => ?_⟩
    obtain ⟨tg, q1, q2, q3⟩ := isi_fin (hr1.new (o := .tup (ts.map fun y => .ty (tyT y))) hp) (RD.ext (Ext.new hp) _ _ rv) (h1.ext (Ext.new hp))
    exact ⟨v, p, _, _, _, _, rfl, upd_same, cls_all ts, q1, q2, q3 _ _ (Ext.refl _ _) (hr1.new hp)⟩
  · cases ht
end
end KN

namespace KN
open PySem PySem.Spec PyProof.Rows L2

/-! ### what is walked -/
section
variable (K : PySem.W.Frag) (T : Tb)
structure WalkD (J : It) (M1 : Mp) (H1 : Hp) (items : List D) (lk : Option (Nat × List D)) : Prop where
  len : items.length ≤ LIM
  st : ∀ M H g, Ext M1 H1 M H → HR K T M H g → lockOk lk g → ∀ i : Nat, (i < items.length → J.go i H) ∧ (items.length ≤ i → J.stop i H) ∧ ∀ x H', J.yld i H x H' → ∀ d, items[i]? = some d → (Ext M H M H' ∧ HR K T M H' g ∧ RD K T M H' d x)
end
section
variable (X : Cx) (T : Tb) (W : WX)
def lfI (ev : KN.St → G → R (List D × Option (Nat × List D))) : TI := fun σ H Q => ∃ M s g, RS X.K T M H g s σ ∧ wpR X.K T W σ M H (ev s g) fun p M' H' _ => ∀ J, WalkD X.K T J M' H' p.1 p.2 → Q J H'
def wpF (M : Mp) (H : Hp) (r : F) (E : Ends) : Prop :=
  match r with
  | .nx s g => ∀ M' H' σ', Ext M H M' H' → RS X.K T M' H' g s σ' → E.nx σ' H'
  | .rt d g => ∀ M' H' v, Ext M H M' H' → HR X.K T M' H' g → RD X.K T M' H' d v → E.rt v H'
  | .bk s g => ∀ M' H' σ', Ext M H M' H' → RS X.K T M' H' g s σ' → E.bk σ' H'
  | .ct s g => ∀ M' H' σ', Ext M H M' H' → RS X.K T M' H' g s σ' → E.ct σ' H'
  | .ex x s g => ∀ M' H' σ' cls dd, Ext M H M' H' → RS X.K T M' H' g s σ' → RX X.K T M' H' x cls dd → W cls dd σ' H'
  | .st => False
def lfS (ev : KN.St → G → F) : TS := fun E σ H => ∃ M s g, RS X.K T M H g s σ ∧ wpF X T W M H (ev s g) E
end
section
variable {X : Cx} {c : Ck} {T : Tb} {F : Fn} {W : WX}
theorem wpF.ext {r : KN.F} {E : Ends} {M M1 : Mp} {H H1 : Hp} (h : wpF X T W M H r E) (e : Ext M H M1 H1) : wpF X T W M1 H1 r E := by
  cases r with
  | nx s g => exact fun M' H' σ' e' => h M' H' σ' (e.trans e')
  | rt d g => exact fun M' H' v e' => h M' H' v (e.trans e')
  | bk s g => exact fun M' H' σ' e' => h M' H' σ' (e.trans e')
  | ct s g => exact fun M' H' σ' e' => h M' H' σ' (e.trans e')
  | ex x s g => exact fun M' H' σ' cls dd e' => h M' H' σ' cls dd (e.trans e')
  | st => exact h
theorem wpF.imp {r : KN.F} {E E' : Ends} {M : Mp} {H : Hp} (h : wpF X T W M H r E) (k1 : ∀ σ' H', E.nx σ' H' → E'.nx σ' H') (k2 : ∀ v H', E.rt v H' → E'.rt v H') (k3 : ∀ σ' H', E.bk σ' H' → E'.bk σ' H') (k4 : ∀ σ' H', E.ct σ' H' → E'.ct σ' H') : wpF X T W M H r E' := by
  cases r with
  | nx s g => exact fun M' H' σ' e hr => k1 _ _ (h M' H' σ' e hr)
  | rt d g => exact fun M' H' v e hr rv => k2 _ _ (h M' H' v e hr rv)
  | bk s g => exact fun M' H' σ' e hr => k3 _ _ (h M' H' σ' e hr)
  | ct s g => exact fun M' H' σ' e hr => k4 _ _ (h M' H' σ' e hr)
  | ex x s g => exact h
  | st => exact h
/-- an expression's run within a statement -/
theorem wpF.toF {r : R D} {s : KN.St} {k : D → G → KN.F} {E : Ends} {M : Mp} {H : Hp} {σ : L2.St} {g : G} {mid : D → Mp → Hp → G → Prop} (rs : RS X.K T M H g s σ) (h : wpF X T W M H (KN.toF r s k) E)
    (i : ∀ d M1 H1 g1, Ext M H M1 H1 → HR X.K T M1 H1 g1 → wpF X T W M1 H1 (k d g1) E → mid d M1 H1 g1) : wpR X.K T W σ M H r mid := by
  cases r with
  | ok d g1 => exact fun M' H' e hr => i d M' H' g1 e hr (wpF.ext (show wpF X T W M H (k d g1) E from h) e)
  | exc x g1 => exact fun M' H' cls dd e hr hx => h M' H' σ cls dd e (rs.ext e hr) hx
  | st => exact h

/-- a tuple, a list walked as it stands -/
theorem pi_seq {tg l : Expr} {tl : TE} (hl : PE X l tl) : PI X tg l (fun σ H R => tl σ H fun x H1 => ∃ a, x = .ref a ∧ ((∃ xs, SqL X.K H1 a xs) ∧ R (Itl X.K a) H1 ∨ (∃ xs, SqT X.K H1 a xs) ∧ R (Itt X.K a) H1)) := by
  refine ⟨fun pins s σ H R I h => ?_⟩
  refine thn (hl.run pins s σ H _ I h) fun v s1 ⟨x, H1, I1, r1, q1⟩ => ?_
  obtain ⟨a, e, q1⟩ := q1
  subst e
  cases r1
  rcases q1 with ⟨⟨xs, hq⟩, q⟩ | ⟨⟨xs, hq⟩, q⟩
  · obtain ⟨its, rv, p, hz⟩ := I1.list hq
    refine wpAny_pyIter_list p.isList ?_
    refine ⟨s1.heap.objs.size, [s1.heap.objs.size], _, _, H1, rfl, I1.kept (t' := s1.toks) fun b o e => Heap.get?_push_of_some _ e, turn_list a _, ⟨_, Heap.get?_push_size _ rfl, rfl, rfl⟩, fun b hb => ?_, q⟩
    have e : b = s1.heap.objs.size := by simpa using hb
    subst e
    exact I1.fpOk (Nat.le_refl _) (I1.hok.fresh (Nat.le_refl _))
  · obtain ⟨its, rv, p, hz⟩ := I1.tuple hq
    refine wpAny_pyIter_tuple (show s1.heap.IsTuple a its.toArray from p) ?_
    refine ⟨s1.heap.objs.size, [s1.heap.objs.size], _, _, H1, rfl, I1.kept (t' := s1.toks) fun b o e => Heap.get?_push_of_some _ e, turn_tuple a _, ⟨_, Heap.get?_push_size _ rfl, rfl, rfl⟩, fun b hb => ?_, q⟩
    have e : b = s1.heap.objs.size := by simpa using hb
    subst e
    exact I1.fpOk (Nat.le_refl _) (I1.hok.fresh (Nat.le_refl _))
theorem RDs.at {K : PySem.W.Frag} {M : Mp} {H : Hp} {ds : List D} {vs : List V} {i : Nat} {d : D} {v : V} (h : RDs K T M H ds vs) (e : ds[i]? = some d) (e' : vs[i]? = some v) : RD K T M H d v := by
  obtain ⟨w, h1, h2⟩ := h.get e
  rw [e'] at h1; cases h1
  exact h2
theorem walk_tup {K : PySem.W.Frag} {M1 : Mp} {H1 : Hp} {p : Addr} {ds : List D} {vs : List V} (h : TupM K M1 H1 p vs) (r : RDs K T M1 H1 ds vs) (hl : vs.length ≤ LIM) : WalkD K T (Itt K p) M1 H1 ds none := by
  refine ⟨by rw [r.length]; exact hl, fun M H g e hr _ i => ?_⟩
  have h' := (e.tup h).sq
  have r' := RDs.ext e _ _ r
  refine ⟨fun hi => ?_, fun hi => ⟨vs, h', by rw [← r.length]; exact hi⟩, fun x H' y d hd => ?_⟩
  · obtain ⟨v, q1, q2⟩ := r'.get (List.getElem?_eq_getElem hi)
    exact ⟨vs, v, h', q1⟩
  · obtain ⟨rfl, y⟩ := y
    exact ⟨Ext.refl _ _, hr, r'.at hd (y vs h')⟩
theorem walk_lst {K : PySem.W.Frag} {M1 : Mp} {H1 : Hp} {p : Addr} {ds : List D} {vs : List V} (h : H1 p = some (.lst vs) ∧ M1.out p) (r : RDs K T M1 H1 ds vs) (hl : vs.length ≤ LIM) : WalkD K T (Itl K p) M1 H1 ds none := by
  refine ⟨by rw [r.length]; exact hl, fun M H g e hr _ i => ?_⟩
  have h' : SqL K H p vs := .inl (.inl (e.out h.1 h.2).2)
  have r' := RDs.ext e _ _ r
  refine ⟨fun hi => ?_, fun hi => ⟨vs, h', by rw [← r.length]; exact hi⟩, fun x H' y d hd => ?_⟩
  · obtain ⟨v, q1, q2⟩ := r'.get (List.getElem?_eq_getElem hi)
    exact ⟨vs, v, h', q1⟩
  · obtain ⟨rfl, y⟩ := y
    exact ⟨Ext.refl _ _, hr, r'.at hd (y vs h')⟩
theorem walk_ref {K : PySem.W.Frag} {M1 : Mp} {H1 : Hp} {p : Addr} {a : Nat} {ds : List D} (h : M1.m[a]? = some p) (hl : ds.length ≤ LIM) : WalkD K T (Itl K p) M1 H1 ds (some (a, ds)) := by
  refine ⟨hl, fun M H g e hr lk i => ?_⟩
  have hp : M.m[a]? = some p := by
    obtain ⟨t, ht⟩ := e.pre
    rw [← ht, List.getElem?_append_left (List.getElem?_eq_some_iff.mp h).1]
    exact h
  obtain ⟨vs, q1, q2, q3⟩ := hr.at (show g[a]? = some (.lst ds) from lk) hp
  have h' : SqL K H p vs := .inl (.inl q1)
  refine ⟨fun hi => ?_, fun hi => ⟨vs, h', by rw [← q3.length]; exact hi⟩, fun x H' y d hd => ?_⟩
  · obtain ⟨v, z1, z2⟩ := q3.get (List.getElem?_eq_getElem hi)
    exact ⟨vs, v, h', z1⟩
  · obtain ⟨rfl, y⟩ := y
    exact ⟨Ext.refl _ _, hr, q3.at hd (y vs h')⟩
theorem walk_rng {K : PySem.W.Frag} {M1 : Mp} {H1 : Hp} {lo hi : Int} (hn : (hi - lo).toNat ≤ LIM) : WalkD K T (Itr lo (hi - lo).toNat) M1 H1 ((rangeI lo hi).map .int) none := by
  have hl : ((rangeI lo hi).map D.int).length = (hi - lo).toNat := by rw [List.length_map, rangeI_len]
  refine ⟨by rw [hl]; exact hn, fun M H g e hr _ i => ?_⟩
  refine ⟨fun hi => by rw [hl] at hi; exact hi, fun hi => by rw [hl] at hi; exact hi, fun x H' y d hd => ?_⟩
  obtain ⟨rfl, rfl⟩ := y
  refine ⟨Ext.refl _ _, hr, ?_⟩
  unfold rangeI at hd
  rw [List.getElem?_map, List.getElem?_map] at hd
  cases e2 : (List.range (hi - lo).toNat)[i]? with
  | none => rw [e2] at hd; cases hd
  | some k =>
    rw [e2] at hd
    have : k = i := by
      obtain ⟨h1, h2⟩ := List.getElem?_eq_some_iff.mp e2
      rw [List.getElem_range] at h2
      exact h2.symm
    subst this
    cases hd
    rfl
theorem s_seq {tg x : Expr} {e : LE} (he : PE X x (lfE X T W (evE F e))) : PI X tg x (lfI X T W (evI F (.seq e))) := by
  refine ⟨fun pins s σ H R I h => (pi_seq he).run pins s σ H R I ?_⟩
  obtain ⟨M, s, g, rs, h⟩ := h
  refine ⟨M, s, g, rs, wpR.bind (by simpa only [evI] using h) fun x M1 H1 g1 e1 hr1 h1 v rv => ?_⟩
  cases x with
  | tup xs =>
    obtain ⟨p, vs, rfl, q1, q2, q3⟩ := rv
    exact ⟨p, rfl, .inr ⟨⟨vs, q1.sq⟩, wpR.at (a := (xs, none)) h1 hr1 _ (walk_tup q1 q3 q2)⟩⟩
  | lst xs =>
    obtain ⟨p, vs, rfl, q1, q2, q3⟩ := rv
    exact ⟨p, rfl, .inl ⟨⟨vs, .inl (.inl q1.1)⟩, wpR.at (a := (xs, none)) h1 hr1 _ (walk_lst q1 q3 q2)⟩⟩
  | ref a =>
    obtain ⟨p, q1, rfl⟩ := rv
    simp only at h1
    split at h1
    · rename_i xs e
      obtain ⟨vs, z1, z2, z3⟩ := hr1.at e q1
      exact ⟨p, rfl, .inl ⟨⟨vs, .inl (.inl z1)⟩, h1.at hr1 _ (walk_ref q1 (by rw [z3.length]; exact z2))⟩⟩
    · exact h1.elim
  | _ => exact h1.elim
theorem okR_of {lo hi : Int} (h : okR lo hi) : -(2 ^ 62) ≤ lo ∧ lo < 2 ^ 62 ∧ -(2 ^ 62) ≤ hi ∧ hi < 2 ^ 62 := by
  have e1 : (2 : Int) ^ 62 = 4611686018427387904 := by decide
  rw [e1]
  exact h
theorem s_range1 (C : Ctx X c T F W) {tg x : Expr} {a : LE} {p pos : Pos} (hg : glB c.sc ("range" : Str) = true) (hx : noStar x = true) (ha : PE X x (lfE X T W (evE F a))) : PI X tg (.Call (.Name "range" p) [x] [] pos) (lfI X T W (evI F (.range1 a))) := by
  have hm : X.mg ("range" : Str) = none := C.bl _ (by decide)
  refine ⟨fun pins s σ H R I h => (pi_range1 (gl_of C hg) hm (pa_cons ha pa_nil (star_cons hx)) (star_cons hx)).run pins s σ H R I ?_⟩
  obtain ⟨M, s, g, rs, h⟩ := h
  refine ⟨M, s, g, rs, wpR.bind (by simpa only [evI] using h) fun x M1 H1 g1 e1 hr1 h1 v rv => ?_⟩
  cases x with
  | int n =>
    cases rv
    simp only [asI, oR_some, KN.R.bind_ok] at h1
    split at h1
    · rename_i ho
      obtain ⟨b1, b2, b3, b4⟩ := okR_of ho.1
      refine ⟨n, rfl, b3, b4, ?_⟩
      have q := h1.at hr1
      have w := q (Itr 0 (n - 0).toNat) (walk_rng (by rw [Int.sub_zero]; exact ho.2))
      rwa [Int.sub_zero] at w
    · exact h1.elim
  | _ => exact h1.elim
theorem s_range2 (C : Ctx X c T F W) {tg x y : Expr} {a b : LE} {p pos : Pos} (hg : glB c.sc ("range" : Str) = true) (hx : noStar x = true) (hy : noStar y = true) (ha : PE X x (lfE X T W (evE F a))) (hb : PE X y (lfE X T W (evE F b))) :
    PI X tg (.Call (.Name "range" p) [x, y] [] pos) (lfI X T W (evI F (.range2 a b))) := by
  have hm : X.mg ("range" : Str) = none := C.bl _ (by decide)
  refine ⟨fun pins s σ H R I h => (pi_range2 (gl_of C hg) hm (pa_cons ha (pa_cons hb pa_nil (star_cons hy)) (star_cons hx)) (by rw [star_cons hx, star_cons hy]; rfl) (star_cons hy)).run pins s σ H R I ?_⟩
  obtain ⟨M, s, g, rs, h⟩ := h
  refine ⟨M, s, g, rs, wpR.bind (by simpa only [evI] using h) fun x M1 H1 g1 e1 hr1 h1 v rv => ⟨M1, s, g1, rs.ext e1 hr1, h1.bind fun y M2 H2 g2 e2 hr2 h2 u ru => ?_⟩⟩
  cases x with
  | int lo =>
    cases rv
    cases y with
    | int hi =>
      cases ru
      simp only [asI, oR_some, KN.R.bind_ok] at h2
      split at h2
      · rename_i ho
        exact ⟨lo, hi, rfl, okR_of ho.1, h2.at hr2 _ (walk_rng ho.2)⟩
      · exact h2.elim
    | _ => exact h2.elim
  | _ => exact h2.elim
end
end KN

namespace KN
open PySem PySem.Spec PyProof.Rows L2

/-! ### targets -/
def setV : List Nat → List V → L2.St → L2.St
  | i :: is, v :: vs, σ => setV is vs (σ.set i (some v))
  | _, _, σ => σ
theorem RS.setA {K : PySem.W.Frag} {T : Tb} {M : Mp} {H : Hp} {g : G} : ∀ {is : List Nat} {ds : List D} {vs : List V} {s s' : KN.St} {σ : L2.St}, RS K T M H g s σ → RDs K T M H ds vs → setA is ds s = some s' → RS K T M H g s' (setV is vs σ)
  | [], [], vs, s, s', σ, rs, h, e => by cases h; cases e; exact rs
  | [], _ :: _, vs, s, s', σ, rs, h, e => by simp [KN.setA] at e
  | _ :: _, [], vs, s, s', σ, rs, h, e => by simp [KN.setA] at e
  | i :: is, d :: ds, vs, s, s', σ, rs, h, e => by
    obtain ⟨v, r, rfl, h1, h2⟩ := h
    simp only [KN.setA] at e
    split at e
    · rename_i hi
      show RS K T M H g s' (setV is r (σ.set i (some v)))
      exact RS.setA (rs.set hi h1) h2 e
    · cases e
theorem setA_len : ∀ {is : List Nat} {ds : List D} {s s' : KN.St}, setA is ds s = some s' → is.length = ds.length
  | [], [], _, _, _ => rfl
  | [], _ :: _, s, s', e => by simp [KN.setA] at e
  | _ :: _, [], s, s', e => by simp [KN.setA] at e
  | i :: is, d :: ds, s, s', e => by
    simp only [KN.setA] at e
    split at e
    · simp [setA_len e]
    · cases e
theorem wipe_set {σ : L2.St} {i : Nat} {x : Option V} : ∀ {own : List Nat}, i ∈ own → wipe (σ.set i x) own = wipe σ own
  | [], h => by simp at h
  | j :: own, h => by
    show (wipe (σ.set i x) own).set j none = (wipe σ own).set j none
    by_cases hj : i ∈ own
    · rw [wipe_set hj]
    · have e : i = j := by simpa [hj] using h
      subst e
      have aux : ∀ own : List Nat, i ∉ own → wipe (σ.set i x) own = (wipe σ own).set i x := by
        intro own
        induction own with
        | nil => intro _; rfl
        | cons k own ih =>
          intro hk
          have h1 : i ∉ own := fun z => hk (by simp [z])
          have h2 : i ≠ k := fun z => hk (by simp [z])
          show (wipe (σ.set i x) own).set k none = ((wipe σ own).set k none).set i x
          rw [ih h1, List.set_comm _ _ h2]
      rw [aux own hj, List.set_set]
theorem wipe_setV {own : List Nat} : ∀ {is : List Nat} {vs : List V} {σ : L2.St}, (∀ i ∈ is, i ∈ own) → wipe (setV is vs σ) own = wipe σ own
  | [], _, _, _ => rfl
  | _ :: _, [], _, _ => rfl
  | i :: is, v :: vs, σ, h => by
    show wipe (setV is vs (σ.set i (some v))) own = _
    rw [wipe_setV fun j hj => h j (by simp [hj]), wipe_set (h i (by simp))]
theorem wipe_idem {σ : L2.St} : ∀ {own own' : List Nat}, (∀ i ∈ own, i ∈ own') → wipe (wipe σ own) own' = wipe σ own'
  | [], _, _ => rfl
  | i :: own, own', h => by
    show wipe ((wipe σ own).set i none) own' = _
    rw [wipe_set (h i (by simp)), wipe_idem fun j hj => h j (by simp [hj])]
theorem RS.wipe {K : PySem.W.Frag} {T : Tb} {M : Mp} {H : Hp} {g : G} {s : KN.St} {σ : L2.St} (rs : RS K T M H g s σ) : ∀ own : List Nat, RS K T M H g (wipeA s own) (L2.wipe σ own)
  | [] => rs
  | i :: own => by
    have ih := RS.wipe rs own
    refine ⟨ih.hr, by show (((L2.wipe σ own).set i none).length = ((wipeA s own).set i none).length); rw [List.length_set, List.length_set]; exact ih.len, fun j d q => ?_⟩
    have q' : ((wipeA s own).set i none)[j]? = some (some d) := q
    by_cases hj : j = i
    · subst hj
      rw [List.getElem?_set] at q'
      simp at q'
    · rw [List.getElem?_set_ne (Ne.symm hj)] at q'
      obtain ⟨v, h1, h2⟩ := ih.sl j d q'
      refine ⟨v, ?_, h2⟩
      show ((L2.wipe σ own).set i none)[j]? = _
      rw [List.getElem?_set_ne (Ne.symm hj)]
      exact h1

section
variable {X : Cx} {c : Ck} {T : Tb} {F : Fn} {W : WX}
/-- storing an item into a target -/
def lfG (K : PySem.W.Frag) (T : Tb) (t : LT) : TG := fun v σ H Q => ∃ d M s g s', RS K T M H g s σ ∧ RD K T M H d v ∧ setT t d s = some s' ∧ ∀ σ', RS K T M H g s' σ' → (∀ own, (∀ i ∈ ownT t, i ∈ own) → wipe σ' own = wipe σ own) → Q σ' H
def gAll (n : Nat) (is : List Nat) : TGs := fun vs σ H Q => vs.length = n ∧ Q (setV is vs σ) H
/-- what a target asks of where it stands -/
structure TgOk (X : Cx) (c : Ck) : Prop where
  hN : X.N = c.N
  nd : c.N.Nodup
  sc : X.env.scope = c.sc
  fc : X.fn = c.fc
  calm : X.calm = true
theorem Ctx.tg (C : Ctx X c T F W) : TgOk X c := ⟨C.hN, C.nd, C.sc, C.fc, C.calm⟩
theorem st_of (C : TgOk X c) {i : Nat} {x : Str} (h : stB c i x = true) : X.N[i]? = some x ∧ L2.Loc X.env.scope x ∧ (X.fn x = true ∨ X.env.scope.names.lookup x = some .local) := by
  unfold stB at h
  simp only [Bool.and_eq_true, decide_eq_true_eq] at h
  refine ⟨by rw [C.hN]; exact h.1.1, ?_⟩
  have h := h.1.2
  rw [C.sc, C.fc]
  unfold locB at h
  unfold L2.Loc
  split at h
  · rename_i e; exact ⟨.inl e, .inr e⟩
  · rename_i e; exact ⟨.inr e, .inl h⟩
  · cases h
theorem g_all (C : TgOk X c) : ∀ {is : List Nat} {es : List Expr}, kTs c is es = true → PGs X es (gAll is.length is) ∧ (assignEach es X.env).length = is.length ∧ (assignEach es X.env).findIdx? (·.1) = none
  | [], [], _ => ⟨⟨fun pins s σ H vs us Q I r h => pgs_nil.run pins s σ H vs us Q I r (by
      obtain ⟨e, q⟩ := h
      have : vs = [] := List.length_eq_zero_iff.mp e
      subst this
      exact ⟨rfl, q⟩)⟩, rfl, rfl⟩
  | [], _ :: _, h => by simp [kTs] at h
  | i :: is, [], h => by simp [kTs] at h
  | i :: is, e :: es, h => by
    cases e with
    | Name x p =>
      simp only [kTs, Bool.and_eq_true] at h
      obtain ⟨h1, h2, h3⟩ := st_of C h.1
      obtain ⟨k1, k2, k3⟩ := g_all C h.2
      refine ⟨⟨fun pins s σ H vs us Q I r hh => (pgs_cons (pg_name (by rw [C.hN]; exact C.nd) h1 h2 h3) k1).run pins s σ H vs us Q I r ?_⟩, ?_, ?_⟩
      · obtain ⟨e, q⟩ := hh
        cases vs with
        | nil => simp at e
        | cons v vs => exact ⟨v, vs, rfl, by simpa using e, q⟩
      · show ((false, _) :: assignEach es X.env).length = _
        rw [List.length_cons, k2]
        rfl
      · show ((false, _) :: assignEach es X.env).findIdx? (·.1) = none
        rw [List.findIdx?_cons, k3]
        rfl
    | _ => simp [kTs] at h
theorem s_tgt (C : TgOk X c) {t : LT} {e : Expr} (h : kT c t e = true) : PG X e (lfG X.K T t) := by
  cases t with
  | name i =>
    cases e with
    | Name x p =>
      obtain ⟨h1, h2, h3⟩ := st_of C h
      refine ⟨fun pins s σ H v u Q I r hh => (pg_name (by rw [C.hN]; exact C.nd) h1 h2 h3).run pins s σ H v u Q I r ?_⟩
      obtain ⟨d, M, s0, g, s', rs, rd, e, q⟩ := hh
      simp only [setT] at e
      split at e
      · rename_i hi
        cases e
        exact q _ (rs.set hi rd) fun own ho => wipe_set (ho i (by simp [ownT]))
      · cases e
    | _ => simp [kT] at h
  | tup is =>
    cases e with
    | Tuple es k p =>
      obtain ⟨k1, k2, k3⟩ := g_all C (show kTs c is es = true from h)
      refine ⟨fun pins s σ H v u Q I r hh => ?_⟩
      obtain ⟨d, M, s0, g, s', rs, rd, e, q⟩ := hh
      cases d with
      | tup xs =>
        obtain ⟨a, vs, rfl, h1, h2, h3⟩ := rd
        refine (pg_tup (t := gAll is.length is) C.calm k1 k2 k3).run pins s σ H _ u Q I r ⟨a, vs, rfl, h1.sq, by rw [← h3.length]; exact (setA_len e).symm, by rw [← h3.length]; exact (setA_len e).symm, ?_⟩
        exact q _ (RS.setA rs h3 e) fun own ho => wipe_setV ho
      | lst xs =>
        obtain ⟨a, vs, rfl, h1, h2, h3⟩ := rd
        refine (pg_unl (t := gAll is.length is) C.calm k1 k2 k3).run pins s σ H _ u Q I r ⟨a, vs, rfl, .inl (.inl h1.1), by rw [← h3.length]; exact (setA_len e).symm, by rw [← h3.length]; exact (setA_len e).symm, ?_⟩
        exact q _ (RS.setA rs h3 e) fun own ho => wipe_setV ho
      | _ => simp [setT] at e
    | _ => simp [kT] at h

/-! ### comprehensions -/
abbrev W0 : WX := fun _ _ _ _ => False
theorem Ext.hid {M M' : Mp} {H H' : Hp} (e : Ext M H M' H') {p : Addr} {o : HO} (h : H p = none) : Ext M H M' (upd H' p o) :=
  ⟨e.sub, e.bf, e.pre, fun q u hq hm => by rw [upd_ne (ne_of_none hq h)]; exact e.keep q u hq hm, e.fresh⟩
theorem Keeps.hid {M : Mp} {H : Hp} {p : Addr} {o : HO} (h : p ∈ M.b) : Keeps M H M (upd H p o) :=
  ⟨fun q u e ho => ⟨ho, by
    have hne : q ≠ p := fun z => ho.2 (by rw [z]; exact h)
    rw [upd_ne hne]; exact e⟩, fun _ _ h => h⟩
theorem HR.hid {K : PySem.W.Frag} {M : Mp} {H : Hp} {g : G} (hr : HR K T M H g) {p : Addr} {o : HO} (h : p ∈ M.b) : HR K T M (upd H p o) g := by
  refine ⟨hr.len, hr.nd, fun a u q h1 h2 => ?_, fun q hq => ?_, hr.ap⟩
  · refine RO.keeps (Keeps.hid h) ?_ (hr.ob a u q h1 h2)
    refine upd_ne fun z => hr.ap p h ?_
    rw [← z]; exact List.mem_of_getElem? h2
  · obtain ⟨u, z⟩ := hr.th q hq
    by_cases e : q = p
    · exact ⟨o, by rw [e, upd_same]⟩
    · exact ⟨u, by rw [upd_ne e]; exact z⟩
/-- a list that was kept apart is let go: a frozen one, or a place -/
theorem out_done {K : PySem.W.Frag} {M1 M : Mp} {H1 H : Hp} {g g1 : G} {p : Addr} {ds : List D} {vs : List V} {mu : Bool} {Q : VK} {σ : L2.St} (hr1 : HR K T M1 H1 g1) (e : Ext M1 H1 M H) (hr : HR K T M H g) (hp : H1 p = none) (hb : p ∈ M.b) (hv : H p = some (.lst vs)) (r : RDs K T M H ds vs) (hl : vs.length ≤ LIM)
    (h : wpR K T W σ M1 H1 (mkC mu ds g) fun d M' H' _ => ∀ v, RD K T M' H' d v → Q v H') : Q (.ref p) H := by
  have o1 := hr1.out hp
  have pm : p ∉ M.m := hr.ap p hb
  cases mu with
  | false =>
    have k : Keeps M H ⟨M.m, M1.b⟩ H := ⟨fun q u eq ho => ⟨⟨ho.1, fun z => ho.2 (e.sub q z)⟩, eq⟩, fun _ _ h => h⟩
    have h' : wpR K T W σ M1 H1 (KN.R.ok (D.lst ds) g) fun d M' H' _ => ∀ v, RD K T M' H' d v → Q v H' := by simpa only [mkC, Bool.false_eq_true, if_false] using h
    refine h' ⟨M.m, M1.b⟩ H ⟨fun q z => z, fun q z => .inl z, e.pre, e.keep, e.fresh⟩ ⟨hr.len, hr.nd, fun a u q h1 h2 => RO.keeps k rfl (hr.ob a u q h1 h2), fun q hq => hr.th q fun z => hq ⟨z.1, fun y => z.2 (e.sub q y)⟩, fun q z => hr.ap q (e.sub q z)⟩ _ ?_
    exact ⟨p, vs, rfl, ⟨hv, pm, o1.2⟩, hl, RDs.keeps k _ _ r⟩
  | true =>
    have k : Keeps M H ⟨M.m ++ [p], M1.b⟩ H := ⟨fun q u eq ho => ⟨⟨fun z => by
        rcases List.mem_append.mp z with y | y
        · exact ho.1 y
        · rw [List.mem_singleton.mp y] at ho; exact ho.2 hb, fun z => ho.2 (e.sub q z)⟩, eq⟩, fun a q h => by
        rw [List.getElem?_append_left (List.getElem?_eq_some_iff.mp h).1]; exact h⟩
    have h' : wpR K T W σ M1 H1 (KN.R.ok (D.ref g.length) (g ++ [.lst ds])) fun d M' H' _ => ∀ v, RD K T M' H' d v → Q v H' := by simpa only [mkC, if_true] using h
    refine h' ⟨M.m ++ [p], M1.b⟩ H ⟨fun q z => z, fun q z => .inl z, e.pre.trans (List.prefix_append _ _), e.keep, fun q z => ?_⟩ ⟨by simp [hr.len], ?_, fun a u q h1 h2 => ?_, fun q hq => ?_, fun q z hm => ?_⟩ _ ⟨p, by rw [← hr.len]; simp, rfl⟩
    · rcases List.mem_append.mp z with y | y
      · exact e.fresh q y
      · rw [List.mem_singleton.mp y]; exact .inr hp
    · refine List.nodup_append.mpr ⟨hr.nd, by simp, fun x hx y hy => ?_⟩
      rw [List.mem_singleton.mp hy]
      rintro rfl
      exact pm hx
    · by_cases ha : a < g.length
      · rw [List.getElem?_append_left ha] at h1
        have h2' : (M.m ++ [p])[a]? = some q := h2
        rw [List.getElem?_append_left (by rw [hr.len]; exact ha)] at h2'
        exact RO.keeps k rfl (hr.ob a u q h1 h2')
      · have e1 : a = g.length := by
          have := (List.getElem?_eq_some_iff.mp h1).1
          simp at this; omega
        subst e1
        simp at h1
        have h2' : (M.m ++ [p])[g.length]? = some q := h2
        rw [← hr.len] at h2'
        simp at h2'
        subst h1; subst h2'
        exact ⟨vs, hv, hl, RDs.keeps k _ _ r⟩
    · by_cases z : q = p
      · exact ⟨_, by rw [z]; exact hv⟩
      · exact hr.th q fun w => hq ⟨fun hm => by
          rcases List.mem_append.mp hm with y | y
          · exact w.1 y
          · exact z (List.mem_singleton.mp y), fun y => w.2 (e.sub q y)⟩
    · rcases List.mem_append.mp hm with y | y
      · exact hr.ap q (e.sub q z) y
      · rw [List.mem_singleton.mp y] at z; exact o1.2 z
theorem compL_lock {t : LT} {lk : Option (Nat × List D)} {cc : KN.St → G → R Bool} {ee : KN.St → G → R D} {ds : List D} {s : KN.St} {g : G} (h : compL t lk cc ee ds s g ≠ .st) : lockOk lk g := by
  cases ds with
  | nil =>
    rw [compL] at h
    by_cases q : lockOk lk g
    · exact q
    · rw [if_neg q] at h; exact absurd rfl h
  | cons d r =>
    rw [compL] at h
    by_cases q : lockOk lk g
    · exact q
    · rw [if_neg q] at h; exact absurd rfl h
theorem wpR.bindN {K : PySem.W.Frag} {A B : Type} {σ σ2 : L2.St} {M M1 : Mp} {H H1 : Hp} {r : R A} {f : A → G → R B} {post : B → Mp → Hp → G → Prop} {mid : A → Mp → Hp → G → Prop} (h : wpR K T W σ M1 H1 (r.bindN f) post)
    (k : ∀ a M2 H2 g2, wpR K T W σ M1 H1 (f a g2) post → Ext M H M2 H2 → HR K T M2 H2 g2 → mid a M2 H2 g2) : wpR K T W0 σ2 M H r mid := by
  cases r with
  | ok a g => exact fun M' H' e hr => k a M' H' g h e hr
  | exc x g => exact h.elim
  | st => exact h.elim
theorem s_lc (C : Ctx X c T F W) {mu : Bool} {e : LE} {t : LT} {i : LI} {cc : LCs} {elt tg iter : Expr} {ifs : List Expr} {scope : Scope} {pos : Pos} {wi : TI} {own : List (Str × Nat)} (how : own.map (·.2) = ownT t)
    {σ : L2.St} {H : Hp} {Q : VK} (K' : PySem.W.Frag) (hK : K' = X.K)
    (h : lfE X T W (evE F (.comp mu e t i cc)) σ H Q) :
    tLc (lfI X T W (evI F i)) (lfG K' T t) (fun σ H Q => ∃ M s g, RS K' T M H g s σ ∧ wpR K' T W0 σ M H (evCs F cc s g) fun b _ H' _ => Q b H') (fun σ H Q => ∃ M s g, RS K' T M H g s σ ∧ wpR K' T W0 σ M H (evE F e s g) fun d M' H' _ => ∀ v, RD K' T M' H' d v → Q v H') (own.map (·.2)) σ H Q := by
  subst hK
  rw [how]
  obtain ⟨M, s, g, rs, h⟩ := h
  refine ⟨M, s, g, rs, wpR.bind (by simpa only [evE] using h) fun p M1 H1 g1 e1 hr1 h1 J wd p0 hp0 => ?_⟩
  obtain ⟨items, lk⟩ := p
  have rs1 := rs.ext e1 hr1
  simp only at h1 wd
  refine ⟨fun i m H2 => m = items.length - i ∧ i ≤ items.length ∧ ∃ M2 g2 acc vs, Ext M1 H1 M2 H2 ∧ HR X.K T M2 H2 g2 ∧ p0 ∈ M2.b ∧ H2 p0 = some (.lst vs) ∧ RDs X.K T M2 H2 acc vs ∧ vs.length ≤ i ∧
    wpR X.K T W σ M1 H1 ((compL t lk (evCs F cc) (evE F e) (items.drop i) s g2).bind fun xs g => mkC mu (acc ++ xs) g) (PQ X T Q), ⟨items.length, by simp, Nat.zero_le _, ⟨M1.m, p0 :: M1.b⟩, g1, [], [], ?_, ?_, List.mem_cons_self, upd_same, rfl, Nat.zero_le _, by simpa using h1⟩, ?_⟩
  · exact ⟨fun q z => List.mem_cons_of_mem _ z, fun q z => by
      rcases List.mem_cons.mp z with z | z
      · rw [z]; exact .inr (.inr hp0)
      · exact .inl z, List.prefix_refl _, fun q u hq _ => by rw [upd_ne (ne_of_none hq hp0)]; exact hq, fun q z => .inl z⟩
  · have hn := hr1.new (o := HO.lst []) hp0
    have ho := hr1.out hp0
    have k : Keeps M1 H1 ⟨M1.m, p0 :: M1.b⟩ (upd H1 p0 (.lst [])) := ⟨fun q u hq z => ⟨⟨z.1, fun y => by
      rcases List.mem_cons.mp y with y | y
      · rw [y, hp0] at hq; cases hq
      · exact z.2 y⟩, by rw [upd_ne (ne_of_none hq hp0)]; exact hq⟩, fun _ _ h => h⟩
    refine ⟨hr1.len, hr1.nd, fun a u q z1 z2 => RO.keeps k (upd_ne fun z => ho.1 (by rw [← z]; exact List.mem_of_getElem? z2)) (hr1.ob a u q z1 z2), fun q hq => ?_, fun q z hm => ?_⟩
    · by_cases z : q = p0
      · exact ⟨_, by rw [z, upd_same]⟩
      · obtain ⟨u, y⟩ := hr1.th q fun w => hq ⟨w.1, fun y => by
          rcases List.mem_cons.mp y with y | y
          · exact z y
          · exact w.2 y⟩
        exact ⟨u, by rw [upd_ne z]; exact y⟩
    · rcases List.mem_cons.mp z with z | z
      · rw [z] at hm; exact ho.1 hm
      · exact hr1.ap q z hm
  rintro i m H2 ⟨rfl, hi, M2, g2, acc, vs, e2, hr2, hb2, hv2, ra2, hl2, hrest⟩
  have lock : lockOk lk g2 := compL_lock fun z => by rw [z] at hrest; exact hrest
  obtain ⟨w1, w2, w3⟩ := wd.st M2 H2 g2 e2 hr2 lock i
  by_cases hlt : i < items.length
  · refine .inr ⟨w1 hlt, fun H' => ∃ M2 g2 acc vs, Ext M1 H1 M2 H' ∧ HR X.K T M2 H' g2 ∧ p0 ∈ M2.b ∧ H' p0 = some (.lst vs) ∧ RDs X.K T M2 H' acc vs ∧ vs.length ≤ i + 1 ∧
      wpR X.K T W σ M1 H1 ((compL t lk (evCs F cc) (evE F e) (items.drop (i + 1)) s g2).bind fun xs g => mkC mu (acc ++ xs) g) (PQ X T Q), fun H' n => ⟨items.length - (i + 1), by omega, rfl, hlt, n⟩, fun x H3 y => ?_⟩
    have hd : items[i]? = some items[i] := List.getElem?_eq_getElem hlt
    obtain ⟨e3, hr3, rx⟩ := w3 x H3 y _ hd
    rw [List.drop_eq_getElem_cons hlt, compL, if_pos lock] at hrest
    cases es : setT t items[i] (wipeA s (ownT t)) with
    | none => rw [es] at hrest; exact hrest.elim
    | some s1 =>
      rw [es] at hrest
      have rs3 := (rs1.ext (e2.trans e3) hr3).wipe (ownT t)
      refine ⟨items[i], M2, wipeA s (ownT t), g2, s1, rs3, rx, es, fun σ2 rs4 hw => ⟨?_, M2, s1, g2, rs4, ?_⟩⟩
      · rw [hw _ fun j hj => hj]; exact wipe_idem fun j hj => hj
      simp only at hrest
      -- the test
      have step : ∀ {A : Type} {r : R A} {f : A → G → R (List D)}, (r.bindN f).bind (fun xs g => mkC mu (acc ++ xs) g) = r.bindN fun a g => (f a g).bind fun xs g => mkC mu (acc ++ xs) g := fun {A r f} => by cases r <;> rfl
      rw [step] at hrest
      refine wpR.bindN hrest fun b M5 H5 g5 h5 e5 hr5 => ?_
      have p3 : H3 p0 = some (.lst vs) := e3.keep _ _ hv2 (hr2.ap _ hb2)
      have p5 : H5 p0 = some (.lst vs) := e5.keep _ _ p3 (hr3.ap _ hb2)
      have b5 : p0 ∈ M5.b := e5.sub _ hb2
      have e15 := (e2.trans e3).trans e5
      cases b with
      | false =>
        rw [if_neg Bool.false_ne_true] at h5
        refine iteF ⟨M5, g5, acc, vs, e15, hr5, b5, p5, RDs.ext (e3.trans e5) _ _ ra2, by omega, h5⟩
      | true =>
        rw [if_pos rfl] at h5
        refine iteT ⟨M5, s1, g5, rs4.ext e5 hr5, ?_⟩
        rw [step] at h5
        refine wpR.bindN h5 fun y M6 H6 g6 h6 e6 hr6 v rv => ?_
        have p6 : H6 p0 = some (.lst vs) := e6.keep _ _ p5 (hr5.ap _ b5)
        have b6 : p0 ∈ M6.b := e6.sub _ b5
        have k6 : Keeps M6 H6 M6 (upd H6 p0 (.lst (vs ++ [v]))) := Keeps.hid b6
        refine ⟨vs, p6, by have := wd.len; rw [← LIM_eq]; omega, M6, g6, acc ++ [y], vs ++ [v], (e15.trans e6).hid hp0, hr6.hid b6, b6, upd_same, ?_, by simp; omega, ?_⟩
        · refine (RDs.keeps k6 _ _ (RDs.ext ((e3.trans e5).trans e6) _ _ ra2)).append ⟨v, [], rfl, RD.keeps k6 _ _ rv, rfl⟩
        · have step2 : ∀ {r : R (List D)}, (r.bind fun xs g3 => KN.R.ok (y :: xs) g3).bind (fun xs g => mkC mu (acc ++ xs) g) = r.bind fun xs g => mkC mu ((acc ++ [y]) ++ xs) g := fun {r} => by
            cases r with
            | ok a g => show mkC mu (acc ++ y :: a) g = mkC mu ((acc ++ [y]) ++ a) g; rw [List.append_assoc]; rfl
            | exc _ _ => rfl
            | st => rfl
          rw [step2] at h6
          exact h6
  · have ei : i = items.length := by omega
    subst ei
    refine .inl ⟨w2 (Nat.le_refl _), ?_⟩
    rw [List.drop_length, compL, if_pos lock] at hrest
    have hrest' : wpR X.K T W σ M1 H1 (mkC mu acc g2) (PQ X T Q) := by simpa using hrest
    exact out_done hr1 e2 hr2 hp0 hb2 hv2 ra2 (by have := wd.len; omega) hrest'
end
end KN

namespace KN
open PySem PySem.Spec PyProof.Rows L2
section
variable {X : Cx} {c : Ck} {T : Tb} {F : Fn} {W : WX}

theorem Ctx.blk (C : Ctx X c T F W) {scope : Scope} {own : List (Str × Nat)} (ok : BlkOk c.N c.sc scope own) (s : Shared) (H : Hp) (Cc : Addr) (cl : List (Str × Addr)) (fp : List Addr) :
    Ctx (X.blk s H scope (compEnvC scope cl Cc X.env) fp) (c.blk scope) T F W0 where
  hN := C.hN
  nd := C.nd
  sc := by
    show relabel scope X.env = relS scope c.sc
    rw [← C.sc]
    rfl
  kd := ok.kind
  fc := rfl
  calm := C.calm
  hu := C.hu
  tk := takes0
  po := PassesOwn.never
  bl := C.bl
  cal := fun f x h => ⟨(C.cal f x h).ok⟩
  con := fun f x h => ⟨(C.con f x h).ok⟩

theorem s_comp (C : Ctx X c T F W) {mu : Bool} {e : LE} {t : LT} {i : LI} {cc : LCs} {elt tg iter : Expr} {ifs : List Expr} {scope : Scope} {pos : Pos}
    (h1 : blkC c.N c.sc scope (ownN c t) = true) (h2 : (ownN c t).map (·.2) = ownT t) (h3 : kT (c.blk scope) t tg = true) (h4 : noSet iter = true)
    (hi : PI X tg iter (lfI X T W (evI F i)))
    (hc : ∀ {X' : Cx} {c' : Ck} (C' : Ctx X' c' T F W0), c' = c.blk scope → PTs X' ifs (lfC X' T W0 (evCs F cc)))
    (he : ∀ {X' : Cx} {c' : Ck} (C' : Ctx X' c' T F W0), c' = c.blk scope → PE X' elt (lfE X' T W0 (evE F e))) :
    PE X (.ListComp elt [⟨tg, iter, ifs, 0⟩] scope pos) (lfE X T W (evE F (.comp mu e t i cc))) := by
  have ok := blkOk_by h1
  exact (pe_lc C.calm (by rw [C.hN]; exact C.nd) hi (by rw [C.hN, C.sc]; exact ok) (fun s H Cc cl fp => s_tgt (C.blk ok s H Cc cl fp).tg h3) (fun s H Cc cl fp => hc (C.blk ok s H Cc cl fp) rfl) (fun s H Cc cl fp => he (C.blk ok s H Cc cl fp) rfl) (fold_of h4)).via
    fun σ H Q h => s_lc (pos := pos) (elt := elt) (tg := tg) (iter := iter) (ifs := ifs) (scope := scope) (wi := lfI X T W (evI F i)) C h2 X.K rfl h

mutual
theorem sE : ∀ (l : LE) {X : Cx} {c : Ck} {W : WX} (C : Ctx X c T F W) (e : Expr), kE c l e = true → PE X e (lfE X T W (evE F l))
  | .var i, X, c, W, C, e, h => by
    cases e <;> first
      | (exact absurd h Bool.false_ne_true)
      | (exact s_var C (by simpa only [kE] using h))
  | .int i, X, c, W, C, e, h => by
    cases e with
    | Constant v k p =>
      cases v <;> first
        | (exact absurd h Bool.false_ne_true)
        | (simp only [kE, decide_eq_true_eq] at h; subst h; exact pe_int.via fun σ H Q h => lf_con (d := D.int i) (fun _ _ => by unfold RD; rfl) (by simpa only [evE] using h))
    | _ => exact absurd h Bool.false_ne_true
  | .str i, X, c, W, C, e, h => by
    cases e with
    | Constant v k p =>
      cases v <;> first
        | (exact absurd h Bool.false_ne_true)
        | (simp only [kE, decide_eq_true_eq] at h; subst h; exact pe_str.via fun σ H Q h => lf_con (d := D.str i) (fun _ _ => by unfold RD; rfl) (by simpa only [evE] using h))
    | _ => exact absurd h Bool.false_ne_true
  | .bl i, X, c, W, C, e, h => by
    cases e with
    | Constant v k p =>
      cases v <;> first
        | (exact absurd h Bool.false_ne_true)
        | (simp only [kE, decide_eq_true_eq] at h; subst h; exact pe_bl.via fun σ H Q h => lf_con (d := D.bl i) (fun _ _ => by unfold RD; rfl) (by simpa only [evE] using h))
    | _ => exact absurd h Bool.false_ne_true
  | .non, X, c, W, C, e, h => by
    cases e with
    | Constant v k p =>
      cases v <;> first
        | (exact absurd h Bool.false_ne_true)
        | (exact pe_non.via fun σ H Q h => lf_con (d := D.non) (fun _ _ => by unfold RD; rfl) (by simpa only [evE] using h))
    | _ => exact absurd h Bool.false_ne_true
  | .dnew, X, c, W, C, e, h => by
    cases e with
    | Dict ks vs p =>
      simp only [kE] at h
      split at h
      · exact s_dnew
      · cases h
    | _ => exact absurd h Bool.false_ne_true
  | .index a i, X, c, W, C, e, h => by
    cases e with
    | Call fn xs kws q =>
      simp only [kE] at h
      split at h
      · rename_i o name ap y
        simp only [Bool.and_eq_true, decide_eq_true_eq] at h
        obtain ⟨⟨⟨⟨⟨rfl, h1⟩, h2⟩, h3⟩, h4⟩, h5⟩ := h
        exact s_index h3 h4 h5 (sE a C o h1) (sE i C y h2)
      · cases h
    | _ => exact absurd h Bool.false_ne_true
  | .con i, X, c, W, C, e, h => by
    cases e with
    | Name x p =>
      simp only [kE, Bool.and_eq_true, decide_eq_true_eq] at h
      obtain ⟨u, v, q1, q2, q3⟩ := (C.con i x h.1.1).ok
      exact (pe_glob (gl_of C h.1.2) q1 q2 (dbg_of h.2).1).via fun σ H Q h => lf_con q3 (by simpa only [evE] using h)
    | _ => exact absurd h Bool.false_ne_true
  | .tup es, X, c, W, C, e, h => by
    cases e with
    | Tuple xs k p => exact s_tup (sEs es C xs (by simpa only [kE] using h))
    | _ => exact absurd h Bool.false_ne_true
  | .lst mu es, X, c, W, C, e, h => by
    cases e with
    | List xs p => exact s_lst (sEs es C xs (by simpa only [kE] using h))
    | _ => exact absurd h Bool.false_ne_true
  | .bin o a b, X, c, W, C, e, h => by
    cases e with
    | BinOp x p y q =>
      simp only [kE, Bool.and_eq_true, decide_eq_true_eq] at h
      obtain ⟨⟨rfl, h1⟩, h2⟩ := h
      exact s_bin (sE a C x h1) (sE b C y h2)
    | _ => exact absurd h Bool.false_ne_true
  | .neg a, X, c, W, C, e, h => by
    cases e with
    | UnaryOp p x q =>
      cases p with
      | USub => exact s_neg (sE a C x (by simpa only [kE] using h))
      | _ => exact absurd h Bool.false_ne_true
    | _ => exact absurd h Bool.false_ne_true
  | .cmp o a b, X, c, W, C, e, h => by
    cases e with
    | Compare x ops ys q =>
      simp only [kE] at h
      split at h
      · rename_i p y
        simp only [Bool.and_eq_true, decide_eq_true_eq] at h
        obtain ⟨⟨⟨rfl, h1⟩, h2⟩, h3⟩ := h
        exact s_cmp C h3 (sE a C x h1) (sE b C y h2)
      · cases h
    | _ => exact absurd h Bool.false_ne_true
  | .chain o o' a b d, X, c, W, C, e, h => by
    cases e with
    | Compare x ops ys q =>
      simp only [kE] at h
      split at h
      · rename_i p p' y z
        simp only [Bool.and_eq_true, decide_eq_true_eq] at h
        obtain ⟨⟨⟨⟨⟨⟨rfl, rfl⟩, h1⟩, h2⟩, h3⟩, h4⟩, h5⟩ := h
        exact s_chain C h5 (sE a C x h1) (sE b C y h2) (sE d C z h3)
      · cases h
    | _ => exact absurd h Bool.false_ne_true
  | .and a b, X, c, W, C, e, h => by
    cases e with
    | BoolOp op xs pos =>
      cases op with
      | And =>
        simp only [kE] at h
        split at h
        · rename_i x y
          simp only [Bool.and_eq_true] at h
          exact s_and (sE a C x h.1) (pe_one (sE b C y h.2))
        · rename_i x y z r
          simp only [Bool.and_eq_true] at h
          exact s_and (sE a C x h.1) (sE b C _ h.2)
        · cases h
      | Or => exact absurd h Bool.false_ne_true
    | _ => exact absurd h Bool.false_ne_true
  | .or a b, X, c, W, C, e, h => by
    cases e with
    | BoolOp op xs pos =>
      cases op with
      | Or =>
        simp only [kE] at h
        split at h
        · rename_i x y
          simp only [Bool.and_eq_true] at h
          exact s_or (sE a C x h.1) (pe_one (sE b C y h.2))
        · rename_i x y z r
          simp only [Bool.and_eq_true] at h
          exact s_or (sE a C x h.1) (sE b C _ h.2)
        · cases h
      | And => exact absurd h Bool.false_ne_true
    | _ => exact absurd h Bool.false_ne_true
  | .not a, X, c, W, C, e, h => by
    cases e with
    | UnaryOp p x q =>
      cases p with
      | Not => exact s_not (sE a C x (by simpa only [kE] using h))
      | _ => exact absurd h Bool.false_ne_true
    | _ => exact absurd h Bool.false_ne_true
  | .ifx d a b, X, c, W, C, e, h => by
    cases e with
    | IfExp t x y q =>
      simp only [kE, Bool.and_eq_true] at h
      exact s_ifx (sC d C t h.1.1).1 (sE a C x h.1.2) (sE b C y h.2)
    | _ => exact absurd h Bool.false_ne_true
  | .idx a b, X, c, W, C, e, h => by
    cases e with
    | Subscript x y q =>
      simp only [kE, Bool.and_eq_true] at h
      exact s_idx C h.2 (sE a C x h.1.1) (sE b C y h.1.2)
    | _ => exact absurd h Bool.false_ne_true
  | .sli a lo hi, X, c, W, C, e, h => by
    cases e with
    | Subscript x y q =>
      simp only [kE] at h
      split at h
      · rename_i l u p
        simp only [Bool.and_eq_true] at h
        exact s_sli (sE a C x h.1.1) (sO lo C l h.1.2) (sO hi C u h.2)
      · cases h
    | _ => exact absurd h Bool.false_ne_true
  | .call f es, X, c, W, C, e, h => by
    cases e with
    | Call fn xs kws q =>
      simp only [kE] at h
      split at h
      · rename_i x p y ys
        simp only [Bool.and_eq_true, decide_eq_true_eq] at h
        exact s_call C h.1.1.1 h.1.1.2 h.1.2 (kEs_stars h.2) (sEs es C _ h.2)
      · cases h
    | _ => exact absurd h Bool.false_ne_true
  | .bi b es, X, c, W, C, e, h => by
    cases e with
    | Call fn xs kws q =>
      simp only [kE] at h
      split at h
      · rename_i x p y ys
        simp only [Bool.and_eq_true, decide_eq_true_eq] at h
        obtain ⟨⟨⟨rfl, h1⟩, h2⟩, h3⟩ := h
        exact s_bi C h1 (kEs_stars h3) (sEs es C _ h3)
      · cases h
    | _ => exact absurd h Bool.false_ne_true
  | .isi a ts, X, c, W, C, e, h => by
    cases e with
    | Call fn xs kws q =>
      simp only [kE] at h
      split at h
      · rename_i x p y t
        simp only [Bool.and_eq_true, decide_eq_true_eq] at h
        obtain ⟨⟨⟨⟨⟨rfl, h1⟩, h2⟩, h3⟩, h4⟩, h5⟩ := h
        exact s_isi C h1 h4 h5 (sE a C y h3)
      · cases h
    | _ => exact absurd h Bool.false_ne_true
  | .comp mu e' t s d, X, c, W, C, e, h => by
    cases e with
    | ListComp elt gens scope q =>
      simp only [kE] at h
      split at h
      · rename_i tg iter ifs as
        simp only [Bool.and_eq_true, decide_eq_true_eq] at h
        obtain ⟨⟨⟨⟨⟨⟨⟨rfl, h1⟩, h2⟩, h3⟩, h4⟩, h5⟩, h6⟩, h7⟩ := h
        exact s_comp C h1 h2 h3 h5 (sI s C iter h4) (fun C' ec => by subst ec; exact sCs d C' ifs h6) (fun C' ec => by subst ec; exact sE e' C' elt h7)
      · cases h
    | _ => exact absurd h Bool.false_ne_true
theorem sEs : ∀ (l : LEs) {X : Cx} {c : Ck} {W : WX} (C : Ctx X c T F W) (es : List Expr), kEs c l es = true → PA X es (lfEs X T W (evEs F l))
  | .nil, X, c, W, C, es, h => by
    cases es with
    | nil => exact s_nil
    | cons _ _ => exact absurd h Bool.false_ne_true
  | .cons a l, X, c, W, C, es, h => by
    cases es with
    | nil => simp [kEs] at h
    | cons x xs =>
      simp only [kEs, Bool.and_eq_true] at h
      exact s_cons h.1.2 (sE a C x h.1.1) (sEs l C xs h.2)
theorem sO : ∀ (l : LO) {X : Cx} {c : Ck} {W : WX} (C : Ctx X c T F W) (e : Option Expr), kO c l e = true → PO X e (lfO X T W (evO F l))
  | .no, X, c, W, C, e, h => by
    cases e with
    | none => exact s_oNo
    | some _ => exact absurd h Bool.false_ne_true
  | .yes a, X, c, W, C, e, h => by
    cases e with
    | none => exact absurd h Bool.false_ne_true
    | some x => exact s_oYes (sE a C x (by simpa only [kO] using h))
theorem sC : ∀ (l : LC) {X : Cx} {c : Ck} {W : WX} (C : Ctx X c T F W) (e : Expr), kC c l e = true → PT X e (lfC X T W (evC F l)) ∧ ∀ op xs pos, e = .BoolOp op xs pos → PW X e (lfC X T W (evC F l))
  | .val a, X, c, W, C, e, h => by
    simp only [kC, Bool.and_eq_true] at h
    refine ⟨s_val h.2 (sE a C e h.1), fun op xs pos z => ?_⟩
    subst z
    simp [plainTest] at h
  | .cmp o a b, X, c, W, C, e, h => by
    cases e with
    | Compare x ops ys q =>
      simp only [kC] at h
      split at h
      · rename_i p y
        simp only [Bool.and_eq_true, decide_eq_true_eq] at h
        obtain ⟨⟨⟨rfl, h1⟩, h2⟩, h3⟩ := h
        exact ⟨s_cmpC C h3 (sE a C x h1) (sE b C y h2), fun _ _ _ z => nomatch z⟩
      · cases h
    | _ => exact absurd h Bool.false_ne_true
  | .chain o o' a b d, X, c, W, C, e, h => by
    cases e with
    | Compare x ops ys q =>
      simp only [kC] at h
      split at h
      · rename_i p p' y z
        simp only [Bool.and_eq_true, decide_eq_true_eq] at h
        obtain ⟨⟨⟨⟨⟨⟨rfl, rfl⟩, h1⟩, h2⟩, h3⟩, h4⟩, h5⟩ := h
        exact ⟨s_chainC C h5 (sE a C x h1) (sE b C y h2) (sE d C z h3), fun _ _ _ z => nomatch z⟩
      · cases h
    | _ => exact absurd h Bool.false_ne_true
  | .and a b, X, c, W, C, e, h => by
    cases e with
    | BoolOp op xs pos =>
      cases op with
      | And =>
        simp only [kC] at h
        split at h
        · rename_i x y
          simp only [Bool.and_eq_true] at h
          have q := s_andC (pos := pos) (sC a C x h.1).1 (pw_and1 (pos := pos) (sC b C y h.2).1)
          exact ⟨q.pt, fun _ _ _ _ => q⟩
        · rename_i x y z r
          simp only [Bool.and_eq_true] at h
          have q := s_andC (pos := pos) (sC a C x h.1).1 ((sC b C _ h.2).2 _ _ _ rfl)
          exact ⟨q.pt, fun _ _ _ _ => q⟩
        · cases h
      | Or => exact absurd h Bool.false_ne_true
    | _ => exact absurd h Bool.false_ne_true
  | .or a b, X, c, W, C, e, h => by
    cases e with
    | BoolOp op xs pos =>
      cases op with
      | Or =>
        simp only [kC] at h
        split at h
        · rename_i x y
          simp only [Bool.and_eq_true] at h
          have q := s_orC (pos := pos) (sC a C x h.1).1 (pw_or1 (pos := pos) (sC b C y h.2).1)
          exact ⟨q.pt, fun _ _ _ _ => q⟩
        · rename_i x y z r
          simp only [Bool.and_eq_true] at h
          have q := s_orC (pos := pos) (sC a C x h.1).1 ((sC b C _ h.2).2 _ _ _ rfl)
          exact ⟨q.pt, fun _ _ _ _ => q⟩
        · cases h
      | And => exact absurd h Bool.false_ne_true
    | _ => exact absurd h Bool.false_ne_true
  | .not a, X, c, W, C, e, h => by
    cases e with
    | UnaryOp p x q =>
      cases p with
      | Not => exact ⟨s_notC (sC a C x (by simpa only [kC] using h)).1, fun _ _ _ z => nomatch z⟩
      | _ => exact absurd h Bool.false_ne_true
    | _ => exact absurd h Bool.false_ne_true
theorem sCs : ∀ (l : LCs) {X : Cx} {c : Ck} {W : WX} (C : Ctx X c T F W) (es : List Expr), kCs c l es = true → PTs X es (lfC X T W (evCs F l))
  | .no, X, c, W, C, es, h => by
    cases es with
    | nil => exact ⟨fun pins s σ H Q I h => pts_nil.run pins s σ H Q I (by
        obtain ⟨M, s, g, rs, h⟩ := h
        have h' : wpR X.K T W σ M H (KN.R.ok true g) (fun b _ H' _ => Q b H') := by simpa only [evCs] using h
        exact h'.at rs.hr)⟩
    | cons _ _ => exact absurd h Bool.false_ne_true
  | .yes d, X, c, W, C, es, h => by
    cases es with
    | nil => simp [kCs] at h
    | cons x xs =>
      cases xs with
      | nil => exact ⟨fun pins s σ H Q I h' => (pts_one (sC d C x (by simpa only [kCs] using h)).1).run pins s σ H Q I (by simpa only [evCs, lfC] using h')⟩
      | cons _ _ => exact absurd h Bool.false_ne_true
theorem sI : ∀ (l : LI) {X : Cx} {c : Ck} {W : WX} (C : Ctx X c T F W) (e : Expr) {tg : Expr}, kI c l e = true → PI X tg e (lfI X T W (evI F l))
  | .seq a, X, c, W, C, e, tg, h => s_seq (sE a C e (by simpa only [kI] using h))
  | .range1 a, X, c, W, C, e, tg, h => by
    cases e with
    | Call fn xs kws q =>
      simp only [kI] at h
      split at h
      · rename_i n p x
        simp only [Bool.and_eq_true, decide_eq_true_eq] at h
        obtain ⟨⟨⟨⟨rfl, h1⟩, h2⟩, h3⟩, h4⟩ := h
        exact s_range1 C h1 h4 (sE a C x h3)
      · cases h
    | _ => exact absurd h Bool.false_ne_true
  | .range2 a b, X, c, W, C, e, tg, h => by
    cases e with
    | Call fn xs kws q =>
      simp only [kI] at h
      split at h
      · rename_i n p x y
        simp only [Bool.and_eq_true, decide_eq_true_eq] at h
        obtain ⟨⟨⟨⟨⟨⟨rfl, h1⟩, h2⟩, h3⟩, h4⟩, h5⟩, h6⟩ := h
        exact s_range2 C h1 h5 h6 (sE a C x h3) (sE b C y h4)
      · cases h
    | _ => exact absurd h Bool.false_ne_true
end
end
end KN

namespace KN
open PySem PySem.Spec PyProof.Rows L2

def noComp : Expr → Bool
  | .ListComp .. => false | .SetComp .. => false | .DictComp .. => false | _ => true
def noTup : Expr → Bool
  | .Tuple .. => false | _ => true
/-- is such a store done within the comprehension -/
def swB (sc : Scope) (x : Str) (p : Pos) : Expr → Option Bool
  | .ListComp _ _ s vp => match sc.names.lookup x with
    | some .local => some (p.line == vp.line && !(s.names.any fun (n, k) => n == x && (k == .local || k == .cell)))
    | some .cell => some false
    | _ => none
  | .SetComp .. => none
  | .DictComp .. => none
  | _ => some false
def iop : BO → Option Operator
  | .add => some .Add
  | .sub => some .Sub
  | _ => none

mutual
def kS (c : Ck) : LS → Stmt → Bool
  | .expr e, .Expr x _ => kE c e x && noComp x
  | .set i e, .Assign tgs v pos => match tgs with
    | [.Name x p] => stB c i x && kE c e v && (match swB c.sc x p v with
      | some false => true
      | some true => (match v with | .ListComp _ [⟨_, _, _, _⟩] _ _ => true | _ => false)
      | none => false)
    | _ => false
  | .unp is e, .Assign tgs v _ => match tgs with
    | [.Tuple es _ _] => kTs c is es && kE c e v && noTup v && noComp v
    | _ => false
  | .par i j a b, .Assign tgs v _ => match tgs, v with
    | [.Tuple [.Name x px, .Name y py] _ _], .Tuple [u, w] _ _ => decide (c.N[i]? = some x) && decide (c.N[j]? = some y) && decide (c.sc.names.lookup x = some .local) && decide (c.sc.names.lookup y = some .local) && kE c a u && kE c b w && noStar u && noStar w &&
        (py.line == px.line) && !(x == y) && !([u, w].all (foldedForSure 8)) && !([u, w].all (constantsAlone 8))
    | _, _ => false
  | .aug i o e, .AugAssign t p v _ => match t with
    | .Name x _ => stB c i x && decide (iop o = some p) && kE c e v
    | _ => false
  | .seti a b e, .Assign tgs v _ => match tgs with
    | [.Subscript x y _] => kE c a x && kE c b y && kE c e v && noSlice y && noComp v
    | _ => false
  | .augi o a b e, .AugAssign t p v _ => match t with
    | .Subscript x y _ => kE c a x && kE c b y && kE c e v && noSlice y && decide (iop o = some p)
    | _ => false
  | .app a e, .Expr x _ => match x with
    | .Call (.Attribute o name ap) [y] [] cp => decide (name = ("append" : Str)) && kE c a o && kE c e y && noStar y && plainBase o && (ap.endLine == cp.line)
    | _ => false
  | .ite d a b, .If t xs ys _ => kC c d t && kSs c a xs && kSs c b ys
  | .for_ t i b, .For tg iter body els _ => match els with
    | [] => kT c t tg && kI c i iter && noSet iter && kSs c b body
    | _ => false
  | .whl d b, .While t body els _ => match els with
    | [] => kC c d t && kSs c b body
    | _ => false
  | .ret e, .Return v _ => match v with
    | some x => kE c e x
    | none => false
  | .retn, .Return v _ => match v with
    | none => true
    | some _ => false
  | .pass, .Pass _ => true
  | .brk, .Break _ => true
  | .cnt, .Continue _ => true
  | _, _ => false
def kSs (c : Ck) : LSs → List Stmt → Bool
  | .nil, [] => true
  | .cons s r, x :: xs => kS c s x && kSs c r xs
  | _, _ => false
end

section
variable {X : Cx} {c : Ck} {T : Tb} {F : Fn} {W : WX}
theorem swaps_no {e : Expr} {t : Option Expr} {l : Nat} {env : Env} (h : noComp e = true) : swapsWith e t l env = pure false := by
  cases e <;> first | rfl | (simp [noComp] at h)
theorem stack_no {e : Expr} {ts ty : List Expr} {k : Nat} {p : Pos} {env : Env} (h : noTup e = true) : swappedStores [.Tuple ts k p] e env = pure none := by
  cases e <;> first | rfl | (simp [noTup] at h)
/-! ### small statements -/
theorem t_expr {e : LE} {x : Expr} {pos : Pos} (hx : noComp x = true) (he : PE X x (lfE X T W (evE F e))) : PS X (.Expr x pos) (lfS X T W (evS F (.expr e))) := by
  refine (ps_expr he (swaps_no hx)).via fun E σ H h => ?_
  obtain ⟨M, s, g, rs, h⟩ := h
  refine ⟨M, s, g, rs, wpF.toF rs (by simpa only [evS] using h) fun d M1 H1 g1 e1 hr1 h1 v rv => ?_⟩
  exact h1 M1 H1 σ (Ext.refl _ _) (rs.ext e1 hr1)
theorem t_setfin {i : Nat} {e : LE} {te : TE} {E : Ends} {σ : L2.St} {H : Hp} (k : ∀ {σ H Q}, lfE X T W (evE F e) σ H Q → te σ H Q) (h : lfS X T W (evS F (.set i e)) E σ H) : tAsg te (gName i) E σ H := by
  refine k ?_
  obtain ⟨M, s, g, rs, h⟩ := h
  refine ⟨M, s, g, rs, wpF.toF rs (by simpa only [evS] using h) fun d M1 H1 g1 e1 hr1 h1 v rv => ?_⟩
  split at h1
  · rename_i hi
    exact h1 M1 H1 _ (Ext.refl _ _) ((rs.ext e1 hr1).set hi rv)
  · exact h1.elim
theorem t_set (C : Ctx X c T F W) {i : Nat} {e : LE} {x : Str} {v : Expr} {p pos : Pos} (h1 : stB c i x = true) (h2 : swapsWith v (some (.Name x p)) pos.line X.env = pure false) (he : PE X v (lfE X T W (evE F e))) : PS X (.Assign [.Name x p] v pos) (lfS X T W (evS F (.set i e))) := by
  obtain ⟨q1, q2, q3⟩ := st_of C.tg h1
  exact (ps_set (by rw [C.hN]; exact C.nd) q1 q2 he h2 q3).via fun E σ H h => t_setfin id h
theorem t_unp (C : Ctx X c T F W) {is : List Nat} {e : LE} {es : List Expr} {v : Expr} {k : Nat} {p pos : Pos} (h1 : kTs c is es = true) (h2 : noTup v = true) (h3 : noComp v = true) (he : PE X v (lfE X T W (evE F e))) : PS X (.Assign [.Tuple es k p] v pos) (lfS X T W (evS F (.unp is e))) := by
  refine (ps_asg he (s_tgt (T := T) C.tg (t := .tup is) (show kT c (.tup is) (.Tuple es k p) = true from h1)) (show swapsWith v (some (.Tuple es k p)) pos.line X.env = pure false from swaps_no h3) (stack_no (ty := []) h2) rfl).via fun E σ H h => ?_
  obtain ⟨M, s, g, rs, h⟩ := h
  refine ⟨M, s, g, rs, wpF.toF rs (by simpa only [evS] using h) fun d M1 H1 g1 e1 hr1 h1 v rv => ?_⟩
  split at h1
  · rename_i s' es'
    exact ⟨d, M1, s, g1, s', rs.ext e1 hr1, rv, es', fun σ' rs' _ => h1 M1 H1 _ (Ext.refl _ _) rs'⟩
  · exact h1.elim
theorem par_ok {x y : Str} {px py pt pt2 : Pos} {kt k2 : Nat} {u w : Expr} {env : Env} (hk : env.scope.kind = .function) (hx : env.scope.names.lookup x = some .local) (hy : env.scope.names.lookup y = some .local) (hu : noStar u = true) (hw : noStar w = true) (hl : (py.line == px.line) = true) (hxy : (x == y) = false)
    (hf : ([u, w].all (foldedForSure 8)) = false) (hc : ([u, w].all (constantsAlone 8)) = false) : swappedStores [.Tuple [.Name x px, .Name y py] kt pt] (.Tuple [u, w] k2 pt2) env = pure (some [x, y]) := by
  have kx : env.kindOf x = some .local := hx
  have ky : env.kindOf y = some .local := hy
  have hb : env.blockKind = .function := by unfold Env.blockKind; rw [hk]; rfl
  have hs : ([u, w].any fun | .Starred .. => true | _ => false) = false := by
    simp only [List.any_cons, List.any_nil, Bool.or_false, Bool.or_eq_false_iff]
    constructor
    · cases u <;> first | rfl | (simp [noStar] at hu)
    · cases w <;> first | rfl | (simp [noStar] at hw)
  have hl' : py.line = px.line := by simpa using hl
  have hxy' : x ≠ y := by simpa using hxy
  have hd : [x, y].eraseDups = [x, y] := by
    simp [List.eraseDups_cons, hxy'.symm, hxy']
  have kx1 : (env.kindOf x == some NameKind.local) = true := by rw [kx]; rfl
  have ky1 : (env.kindOf y == some NameKind.local) = true := by rw [ky]; rfl
  have go : swappedStores [.Tuple [.Name x px, .Name y py] kt pt] (.Tuple [u, w] k2 pt2) env =
      (if (!(([Expr.Name x px, Expr.Name y py].length == 2 || [Expr.Name x px, Expr.Name y py].length == 3)) || [u, w].length != [Expr.Name x px, Expr.Name y py].length || env.blockKind != .function) = true then pure none
      else if ([u, w].any fun | .Starred .. => true | _ => false) = true then pure none
      else if (([Expr.Name x px, Expr.Name y py].filterMap fun
          | .Name id pos => if (env.kindOf id == some NameKind.local && pos.line == px.line) = true then some id else none
          | _ => none).length != 2 || ([Expr.Name x px, Expr.Name y py].filterMap fun
          | .Name id pos => if (env.kindOf id == some NameKind.local && pos.line == px.line) = true then some id else none
          | _ => none).eraseDups.length != ([Expr.Name x px, Expr.Name y py].filterMap fun
          | .Name id pos => if (env.kindOf id == some NameKind.local && pos.line == px.line) = true then some id else none
          | _ => none).length) = true then pure none
      else if [u, w].all (foldedForSure 8) = true then pure none
      else if [u, w].all (constantsAlone 8) = true then (do unsupported "assign.tuple-of-constant-expressions:order-of-the-stores"; pure (some ([Expr.Name x px, Expr.Name y py].filterMap fun
          | .Name id pos => if (env.kindOf id == some NameKind.local && pos.line == px.line) = true then some id else none
          | _ => none)))
      else pure (some ([Expr.Name x px, Expr.Name y py].filterMap fun
          | .Name id pos => if (env.kindOf id == some NameKind.local && pos.line == px.line) = true then some id else none
          | _ => none))) := by
    unfold swappedStores
    rfl
  have ht : ([Expr.Name x px, Expr.Name y py].filterMap fun
          | .Name id pos => if (env.kindOf id == some NameKind.local && pos.line == px.line) = true then some id else none
          | _ => none) = [x, y] := by
    simp only [List.filterMap_cons, List.filterMap_nil, kx1, ky1, Bool.true_and, hl, beq_self_eq_true, if_true]
  rw [go, ht, hs, hf, hc, hb, hd]
  rfl
theorem t_par (C : Ctx X c T F W) {i j : Nat} {a b : LE} {x y : Str} {u w : Expr} {px py pt pt2 pos : Pos} {kt k2 : Nat} (h1 : c.N[i]? = some x) (h2 : c.N[j]? = some y) (h3 : c.sc.names.lookup x = some .local) (h4 : c.sc.names.lookup y = some .local)
    (ha : PE X u (lfE X T W (evE F a))) (hb : PE X w (lfE X T W (evE F b))) (hu : noStar u = true) (hw : noStar w = true) (hl : (py.line == px.line) = true) (hxy : (x == y) = false) (hf : ([u, w].all (foldedForSure 8)) = false) (hc : ([u, w].all (constantsAlone 8)) = false) :
    PS X (.Assign [.Tuple [.Name x px, .Name y py] kt pt] (.Tuple [u, w] k2 pt2) pos) (lfS X T W (evS F (.par i j a b))) := by
  have hij : i ≠ j := fun e => by
    rw [e, h2] at h1
    have := Option.some.inj h1
    rw [this] at hxy
    simp at hxy
  have l1 : X.env.scope.names.lookup x = some .local := by rw [C.sc]; exact h3
  have l2 : X.env.scope.names.lookup y = some .local := by rw [C.sc]; exact h4
  refine (ps_par (i := i) (j := j) C.calm (by rw [C.hN]; exact C.nd) (by rw [C.hN]; exact h1) (by rw [C.hN]; exact h2) hij l1 l2 (pa_cons ha (pa_cons hb pa_nil (star_cons hw)) (star_cons hu)) (par_ok C.kd l1 l2 hu hw hl hxy hf hc) rfl).via fun E σ H h => ?_
  obtain ⟨M, s, g, rs, h⟩ := h
  refine ⟨M, s, g, rs, wpF.toF rs (by simpa only [evS] using h) fun d M1 H1 g1 e1 hr1 h1 v rv => ⟨M1, s, g1, rs.ext e1 hr1, wpF.toF (rs.ext e1 hr1) h1 fun d2 M2 H2 g2 e2 hr2 h2 v2 rv2 => ?_⟩⟩
  split at h2
  · rename_i hi
    refine ⟨v, v2, rfl, h2 M2 H2 _ (Ext.refl _ _) (((rs.ext (e1.trans e2) hr2).set hi.1 (RD.ext e2 _ _ rv)).set (by rw [List.length_set]; exact hi.2.1) rv2)⟩
  · exact h2.elim
def ipB (o : BO) : TIp := fun x y H Q => ∃ i j, x = .int i ∧ y = .int j ∧ ((o = .add ∧ Q (.int (i + j)) H) ∨ (o = .sub ∧ Q (.int (i - j)) H))
theorem ip_ok {o : BO} {p : Operator} (h : iop o = some p) : PIp X p (ipB o) := by
  intro pins s σ H x y v u Q I r1 r2 hh
  obtain ⟨i, j, e1, e2, q⟩ := hh
  rcases q with ⟨rfl, q⟩ | ⟨rfl, q⟩
  · cases h
    exact ip_add pins s σ H x y v u Q I r1 r2 ⟨i, j, e1, e2, q⟩
  · cases h
    exact ip_sub pins s σ H x y v u Q I r1 r2 ⟨i, j, e1, e2, q⟩
theorem t_aug (C : Ctx X c T F W) {i : Nat} {o : BO} {op : Operator} {e : LE} {x : Str} {v : Expr} {p pos : Pos} (h1 : stB c i x = true) (ho : iop o = some op) (he : PE X v (lfE X T W (evE F e))) : PS X (.AugAssign (.Name x p) op v pos) (lfS X T W (evS F (.aug i o e))) := by
  obtain ⟨q1, q2, q3⟩ := st_of C.tg h1
  refine (ps_aug (by rw [C.hN]; exact C.nd) q1 q2 he (ip_ok ho) q3).via fun E σ H h => ?_
  obtain ⟨M, s, g, rs, h⟩ := h
  simp only [evS] at h
  split at h
  · rename_i d ed
    obtain ⟨w, z1, z2⟩ := rs.sl i d ed
    have hi : i < s.length := (List.getElem?_eq_some_iff.mp ed).1
    refine ⟨w, z1, M, s, g, rs, wpF.toF rs h fun d2 M1 H1 g1 e1 hr1 h1 v2 rv2 => ?_⟩
    have z2' := RD.ext e1 _ _ z2
    split at h1
    · cases z2'
      cases rv2
      exact ⟨_, _, rfl, rfl, .inl ⟨rfl, h1 M1 H1 _ (Ext.refl _ _) ((rs.ext e1 hr1).set hi rfl)⟩⟩
    · cases z2'
      cases rv2
      exact ⟨_, _, rfl, rfl, .inr ⟨rfl, h1 M1 H1 _ (Ext.refl _ _) ((rs.ext e1 hr1).set hi rfl)⟩⟩
    · exact h1.elim
  · exact h.elim
theorem RDs.len_ix {K : PySem.W.Frag} {M : Mp} {H : Hp} {ds : List D} {vs : List V} (h : RDs K T M H ds vs) {i : Int} {j : Nat} (e : ixn ds.length i = some j) : ixN vs.length i = some j := by rw [← h.length]; exact e
theorem put_ok {M : Mp} {H : Hp} {g : G} {s : KN.St} {σ : L2.St} {x y d : D} {xv yv v : V} {E : Ends} (rs : RS X.K T M H g s σ) (hx : RD X.K T M H x xv) (hy : RD X.K T M H y yv) (rv : RD X.K T M H d v) (h : wpF X T W M H (nxO s (putP x y d g)) E) :
    rSetL xv yv v H (fun H' => E.nx σ H') ∨ rSetD xv yv v H (fun H' => E.nx σ H') := by
  cases x <;> simp only [putP] at h <;> try exact h.elim
  rename_i p
  obtain ⟨q, hq, rfl⟩ := hx
  split at h
  · rename_i xs eg
    obtain ⟨vs, z1, z2, z3⟩ := rs.hr.at eg hq
    cases y <;> try exact h.elim
    rename_i i
    cases hy
    simp only at h
    cases ej : ixn xs.length i with
    | none => rw [ej] at h; exact h.elim
    | some j =>
      rw [ej] at h
      refine .inl ⟨q, vs, i, j, rfl, rfl, z1, z3.len_ix ej, ?_⟩
      have e : Ext M H M _ := Ext.write (o := .lst (vs.set j v)) hq
      have hr' : HR X.K T M (upd H q (.lst (vs.set j v))) (g.set p (.lst (xs.set j d))) := rs.hr.write hq ⟨_, upd_same, by rw [List.length_set]; exact z2, RDs.ext e _ _ (z3.set j rv)⟩
      exact h M _ σ e (rs.ext e hr')
  · rename_i kvs eg
    obtain ⟨vs, z1, z2, z3, z4⟩ := rs.hr.at eg hq
    split at h
    · rename_i hl
      cases ek : keyD y with
      | none => rw [ek] at h; exact h.elim
      | some k =>
        rw [ek] at h
        have hk := key_ok hy ek
        subst hk
        have hl' : vs.length < LIM := by
          have := congrArg List.length z3
          rw [List.length_map, List.length_map] at this
          rw [this]; exact hl
        refine .inr ⟨q, _, rfl, DPut.k z1 (by rw [← LIM_eq]; exact hl'), ?_⟩
        have e : Ext M H M _ := Ext.write (o := .dK (L2.putK vs k v)) hq
        obtain ⟨y1, y2⟩ := RDs.put (k := k) z3 z4 rv
        have hr' : HR X.K T M (upd H q (.dK (L2.putK vs k v))) (g.set p (.dk (KN.putK kvs k d))) := rs.hr.write hq ⟨_, upd_same, by have := put_len (kvs := vs) (k := k) (v := v); omega, y1, RDs.ext e _ _ y2⟩
        exact h M _ σ e (rs.ext e hr')
    · exact h.elim
  · exact h.elim
theorem PSet.or {t t' : TSet} (h : PSet X t) (h' : PSet X t') : PSet X (fun o i v H Q => t o i v H Q ∨ t' o i v H Q) := by
  intro pins s σ H o i v ov iv u Q I r1 r2 r3 z
  rcases z with z | z
  · exact h pins s σ H o i v ov iv u Q I r1 r2 r3 z
  · exact h' pins s σ H o i v ov iv u Q I r1 r2 r3 z
theorem set_LD (C : Ctx X c T F W) : PSet X (fun o i v H Q => rSetL o i v H Q ∨ rSetD o i v H Q) := PSet.or set_list (set_dict (by have := C.hu; omega))
theorem t_seti (C : Ctx X c T F W) {a b e : LE} {x y v : Expr} {p pos : Pos} (h1 : noSlice y = true) (h2 : noComp v = true) (ha : PE X x (lfE X T W (evE F a))) (hb : PE X y (lfE X T W (evE F b))) (he : PE X v (lfE X T W (evE F e))) : PS X (.Assign [.Subscript x y p] v pos) (lfS X T W (evS F (.seti a b e))) := by
  refine (ps_asg he (pg_sub ha hb (set_LD C) (fun v => by cases y <;> first | rfl | (simp [noSlice] at h1))) (show swapsWith v (some (.Subscript x y p)) pos.line X.env = pure false from swaps_no h2) rfl rfl).via fun E σ H h => ?_
  obtain ⟨M, s, g, rs, h⟩ := h
  refine ⟨M, s, g, rs, wpF.toF rs (by simpa only [evS] using h) fun d M1 H1 g1 e1 hr1 h1 v rv => ⟨M1, s, g1, rs.ext e1 hr1, wpF.toF (rs.ext e1 hr1) h1 fun d2 M2 H2 g2 e2 hr2 h2 v2 rv2 => ⟨M2, s, g2, rs.ext (e1.trans e2) hr2, wpF.toF (rs.ext (e1.trans e2) hr2) h2 fun d3 M3 H3 g3 e3 hr3 h3 v3 rv3 => ?_⟩⟩⟩
  exact put_ok (rs.ext ((e1.trans e2).trans e3) hr3) (RD.ext e3 _ _ rv2) rv3 (RD.ext (e2.trans e3) _ _ rv) h3
def rGetL : V → V → Hp → VK → Prop := fun x y H Q => ∃ p xs i v, x = .ref p ∧ y = .int i ∧ H p = some (.lst xs) ∧ atI xs i = some v ∧ Q v H
theorem get_list : PGet X rGetL := by
  intro pins s σ H x y v u Q I rx ry h
  obtain ⟨p, xs, i, z, rfl, rfl, hq, he, q⟩ := h
  cases rx
  obtain ⟨t, rfl⟩ := ry
  obtain ⟨its, r, pl, hz⟩ := I.list (SqL.of (K := X.K) hq)
  obtain ⟨j, h1, h2, h3, h4, h5⟩ := atI_get he
  obtain ⟨w, ew, rw'⟩ := r.get h2
  have hl := r.length
  have hn := line63
  have fin : EP X pins σ Q w s := ⟨z, H, I, rw', q⟩
  by_cases h0 : 0 ≤ i
  · have hj : i.toNat = j := by
      rw [seqIndex_of h0 h5] at h1
      exact Option.some.inj h1
    exact wpAny_getItem_list pl.isList h0 (by omega) (by rw [hj]; simpa using ew) fin
  · have hj : (i + (its.toArray.size : Int)).toNat = j := by
      rw [seqIndex_neg (by omega) h4] at h1
      rw [List.size_toArray, ← hl]
      exact Option.some.inj h1
    exact wpAny_getItem_list_neg pl.isList (by omega) (by rw [List.size_toArray] <;> omega) (by omega) (by rw [hj]; simpa using ew) fin
theorem get_dk (hu : X.A.units + 64 < cLine) : PGet X rIxDk := by
  intro pins s σ H x y v u Q I rx ry h
  obtain ⟨a, z, rfl, g, q⟩ := h
  cases rx
  exact d_getItem (by omega) I g ry fun w' s3 I3 rw' => ⟨z, H, I3, rw', q⟩
theorem PGet.or {t t' : V → V → Hp → VK → Prop} (h : PGet X t) (h' : PGet X t') : PGet X (fun x y H Q => t x y H Q ∨ t' x y H Q) := by
  intro pins s σ H x y v u Q I r1 r2 z
  rcases z with z | z
  · exact h pins s σ H x y v u Q I r1 r2 z
  · exact h' pins s σ H x y v u Q I r1 r2 z
theorem get_LD (C : Ctx X c T F W) : PGet X (fun x y H Q => rGetL x y H Q ∨ rIxDk x y H Q) := PGet.or get_list (get_dk C.hu)
theorem getP_ok {M : Mp} {H : Hp} {g : G} {x y d : D} {xv yv : V} (hr : HR X.K T M H g) (hx : RD X.K T M H x xv) (hy : RD X.K T M H y yv) (h : getP g x y = some d) : ∃ w, RD X.K T M H d w ∧ ∀ Q : VK, Q w H → rGetL xv yv H Q ∨ rIxDk xv yv H Q := by
  cases x <;> simp only [getP] at h <;> try contradiction
  rename_i p
  split at h
  · rename_i xs eg
    obtain ⟨q, hq, rfl⟩ := hx
    obtain ⟨vs, y1, y2, y3⟩ := hr.at eg hq
    split at h
    · rename_i i
      cases hy
      obtain ⟨j, ej, eo'⟩ := ix_bind h
      obtain ⟨ov, k1, k2⟩ := y3.get eo'
      exact ⟨ov, k2, fun Q z => .inl ⟨q, vs, i, ov, rfl, rfl, y1, by unfold atI; rw [y3.len_ix ej]; exact k1, z⟩⟩
    · cases h
  · rename_i kvs eg
    cases ek : keyD y with
    | none => rw [ek] at h; cases h
    | some k =>
      rw [ek] at h
      obtain ⟨q, o, rfl, z1, _, z3⟩ := dget_ok hr hy hx (show dkOf g (.ref p) = some kvs by simp only [dkOf, eg]) ek
      obtain ⟨w, rfl, z4⟩ := z3 d h
      exact ⟨w, z4, fun Q z => .inr ⟨q, w, rfl, z1, z⟩⟩
  · cases h
theorem t_augi (C : Ctx X c T F W) {o : BO} {op : Operator} {a b e : LE} {x y v : Expr} {p pos : Pos} (h1 : noSlice y = true) (ho : iop o = some op) (ha : PE X x (lfE X T W (evE F a))) (hb : PE X y (lfE X T W (evE F b))) (he : PE X v (lfE X T W (evE F e))) : PS X (.AugAssign (.Subscript x y p) op v pos) (lfS X T W (evS F (.augi o a b e))) := by
  refine (ps_augS ha hb (get_LD C) he (ip_ok ho) (set_LD C) (fun _ _ _ => by cases y <;> first | rfl | (simp [noSlice] at h1))).via fun E σ H h => ?_
  obtain ⟨M, s, g, rs, h⟩ := h
  refine ⟨M, s, g, rs, wpF.toF rs (by simpa only [evS] using h) fun d M1 H1 g1 e1 hr1 h1 v rv => ⟨M1, s, g1, rs.ext e1 hr1, wpF.toF (rs.ext e1 hr1) h1 fun d2 M2 H2 g2 e2 hr2 h2 v2 rv2 => ?_⟩⟩
  have rs2 := rs.ext (e1.trans e2) hr2
  have rv' := RD.ext e2 _ _ rv
  split at h2
  · rename_i old eo
    obtain ⟨ov, k2, kq⟩ := getP_ok hr2 rv' rv2 eo
    refine kq _ ⟨M2, s, g2, rs2, wpF.toF rs2 h2 fun d3 M3 H3 g3 e3 hr3 h3 v3 rv3 => ?_⟩
    have rs3 := rs2.ext e3 hr3
    have k3 := RD.ext e3 _ _ k2
    split at h3
    · cases k3
      cases rv3
      exact ⟨_, _, rfl, rfl, .inl ⟨rfl, put_ok rs3 (RD.ext e3 _ _ rv') (RD.ext e3 _ _ rv2) (d := .int _) (by unfold RD; rfl) h3⟩⟩
    · cases k3
      cases rv3
      exact ⟨_, _, rfl, rfl, .inr ⟨rfl, put_ok rs3 (RD.ext e3 _ _ rv') (RD.ext e3 _ _ rv2) (d := .int _) (by unfold RD; rfl) h3⟩⟩
    · exact h3.elim
  · exact h2.elim
theorem t_app {a e : LE} {o y : Expr} {ap cp pos : Pos} (h1 : noStar y = true) (h2 : plainBase o = true) (h3 : (ap.endLine == cp.line) = true) (ha : PE X o (lfE X T W (evE F a))) (he : PE X y (lfE X T W (evE F e))) : PS X (.Expr (.Call (.Attribute o "append" ap) [y] [] cp) pos) (lfS X T W (evS F (.app a e))) := by
  refine (ps_expr (pe_bm PySem.F.plainAttrs_list PySem.F.slot_list_append PySem.F.type_list_append mt_append ha (pa_cons he pa_nil (star_cons h1)) (base_of h2) (by rw [star_cons h1]; rfl) h3 (star_cons h1) rfl) rfl).via fun E σ H h => ?_
  obtain ⟨M, s, g, rs, h⟩ := h
  refine ⟨M, s, g, rs, wpF.toF rs (by simpa only [evS] using h) fun d M1 H1 g1 e1 hr1 h1 v rv => ?_⟩
  have rs1 := rs.ext e1 hr1
  split at h1
  · rename_i q
    obtain ⟨w, z1, rfl⟩ := rv
    split at h1
    · rename_i xs eg
      obtain ⟨vs, y1, y2, y3⟩ := hr1.at eg z1
      refine ⟨.inl ⟨rfl, vs, .inl (.inl y1)⟩, M1, s, g1, rs1, wpF.toF rs1 h1 fun d2 M2 H2 g2 e2 hr2 h2 v2 rv2 => ?_⟩
      have rs2 := rs1.ext e2 hr2
      have z2 := e2.keeps.pre _ _ z1
      split at h2
      · rename_i xs' eg'
        obtain ⟨vs', k1, k2, k3⟩ := hr2.at eg' z2
        split at h2
        · rename_i hl
          have hl' : vs'.length < LIM := by rw [← k3.length]; exact hl
          refine ⟨w, vs', v2, rfl, rfl, k1, by rw [← LIM_eq]; exact hl', ?_⟩
          have e : Ext M2 H2 M2 _ := Ext.write (o := .lst (vs' ++ [v2])) z2
          have hr' := hr2.write z2 (o := .lst (vs' ++ [v2])) (u := .lst (xs' ++ [d2])) ⟨_, upd_same, by rw [List.length_append]; exact hl', RDs.ext e _ _ (k3.append ⟨v2, [], rfl, rv2, rfl⟩)⟩
          exact h2 M2 _ σ e (rs2.ext e hr')
        · exact h2.elim
      · exact h2.elim
    · exact h1.elim
  · exact h1.elim
theorem t_ret {e : LE} {x : Expr} {pos : Pos} (he : PE X x (lfE X T W (evE F e))) : PS X (.Return (some x) pos) (lfS X T W (evS F (.ret e))) := by
  refine (ps_ret he).via fun E σ H h => ?_
  obtain ⟨M, s, g, rs, h⟩ := h
  refine ⟨M, s, g, rs, wpF.toF rs (by simpa only [evS] using h) fun d M1 H1 g1 e1 hr1 h1 v rv => ?_⟩
  exact h1 M1 H1 v (Ext.refl _ _) hr1 rv
theorem t_retn {pos : Pos} : PS X (.Return none pos) (lfS X T W (evS F .retn)) := ps_retN.via fun E σ H h => by
  obtain ⟨M, s, g, rs, h⟩ := h
  simp only [evS] at h
  exact h M H .non (Ext.refl _ _) rs.hr (by unfold RD; rfl)
theorem t_ite {d : LC} {a b : LSs} {t : Expr} {xs ys : List Stmt} {pos : Pos} (hd : PT X t (lfC X T W (evC F d))) (ha : PSs X xs (lfS X T W (evSs F a))) (hb : PSs X ys (lfS X T W (evSs F b))) : PS X (.If t xs ys pos) (lfS X T W (evS F (.ite d a b))) := by
  refine (ps_if hd ha hb).via fun E σ H h => ?_
  obtain ⟨M, s, g, rs, h⟩ := h
  simp only [evS] at h
  refine ⟨M, s, g, rs, ?_⟩
  cases e : evC F d s g with
  | ok k g1 =>
    rw [e] at h
    intro M1 H1 e1 hr1
    cases k with
    | true => exact iteT ⟨M1, s, g1, rs.ext e1 hr1, wpF.ext h e1⟩
    | false => exact iteF ⟨M1, s, g1, rs.ext e1 hr1, wpF.ext h e1⟩
  | exc x g1 =>
    rw [e] at h
    exact fun M' H' cls dd e hr hx => h M' H' σ cls dd e (rs.ext e hr) hx
  | st => rw [e] at h; exact h
theorem t_nil : PSs X [] (lfS X T W (evSs F .nil)) := pss_nil.via fun E σ H h => by
  obtain ⟨M, s, g, rs, h⟩ := h
  simp only [evSs] at h
  exact h M H σ (Ext.refl _ _) rs
theorem t_cons {s : LS} {r : LSs} {x : Stmt} {xs : List Stmt} (h1 : PS X x (lfS X T W (evS F s))) (h2 : PSs X xs (lfS X T W (evSs F r))) : PSs X (x :: xs) (lfS X T W (evSs F (.cons s r))) := by
  refine (pss_cons h1 h2).via fun E σ H h => ?_
  obtain ⟨M, s0, g, rs, h⟩ := h
  simp only [evSs] at h
  refine ⟨M, s0, g, rs, ?_⟩
  cases e : evS F s s0 g with
  | nx s1 g1 => rw [e] at h; exact fun M' H' σ' e' rs' => ⟨M', s1, g1, rs', wpF.ext h e'⟩
  | rt d g1 => rw [e] at h; exact h
  | bk s1 g1 => rw [e] at h; exact h
  | ct s1 g1 => rw [e] at h; exact h
  | ex x s1 g1 => rw [e] at h; exact h
  | st => rw [e] at h; exact h
theorem t_for (C : Ctx X c T F W) {t : LT} {i : LI} {b : LSs} {tg iter : Expr} {body : List Stmt} {pos : Pos} (h1 : kT c t tg = true) (h2 : noSet iter = true) (hi : PI X tg iter (lfI X T W (evI F i))) (hb : PSs X body (lfS X T W (evSs F b))) : PS X (.For tg iter body [] pos) (lfS X T W (evS F (.for_ t i b))) := by
  refine (ps_for C.po C.calm hi (s_tgt (T := T) C.tg h1) hb (fold_of h2)).via fun E σ H h => ?_
  obtain ⟨M, s, g, rs, h⟩ := h
  simp only [evS] at h
  refine ⟨M, s, g, rs, ?_⟩
  cases e : evI F i s g with
  | exc x g1 =>
    rw [e] at h
    exact fun M' H' cls dd e hr hx => h M' H' σ cls dd e (rs.ext e hr) hx
  | st => rw [e] at h; exact h
  | ok p g1 =>
    rw [e] at h
    obtain ⟨items, lk⟩ := p
    intro M1 H1 e1 hr1 J wd
    simp only at h wd
    have h := wpF.ext h e1
    refine ⟨fun i m σ2 H2 => m = items.length - i ∧ i ≤ items.length ∧ ∃ M2 s2 g2, RS X.K T M2 H2 g2 s2 σ2 ∧ Ext M1 H1 M2 H2 ∧ wpF X T W M2 H2 (forL t lk (evSs F b) (items.drop i) s2 g2) E, ⟨items.length, by simp, Nat.zero_le _, M1, s, g1, rs.ext e1 hr1, Ext.refl _ _, by simpa using h⟩, ?_⟩
    rintro i m σ2 H2 ⟨rfl, hi, M2, s2, g2, rs2, e2, h2⟩
    have lock : lockOk lk g2 := by
      by_cases q : lockOk lk g2
      · exact q
      · exfalso
        cases hd : items.drop i with
        | nil => rw [hd, forL, if_neg q] at h2; exact h2
        | cons d r => rw [hd, forL, if_neg q] at h2; exact h2
    obtain ⟨w1, w2, w3⟩ := wd.st M2 H2 g2 e2 rs2.hr lock i
    by_cases hlt : i < items.length
    · refine .inr ⟨w1 hlt, fun σ3 H3 => ∃ M3 s3 g3, RS X.K T M3 H3 g3 s3 σ3 ∧ Ext M1 H1 M3 H3 ∧ wpF X T W M3 H3 (forL t lk (evSs F b) (items.drop (i + 1)) s3 g3) E, fun σ3 H3 n => ⟨items.length - (i + 1), by omega, rfl, hlt, n⟩, fun x H3 y => ?_⟩
      have hd : items[i]? = some items[i] := List.getElem?_eq_getElem hlt
      obtain ⟨e3, hr3, rx⟩ := w3 x H3 y _ hd
      rw [List.drop_eq_getElem_cons hlt, forL, if_pos lock] at h2
      cases es : setT t items[i] s2 with
      | none => rw [es] at h2; exact h2.elim
      | some s1 =>
        rw [es] at h2
        refine ⟨items[i], M2, s2, g2, s1, rs2.ext e3 hr3, rx, es, fun σ4 rs4 _ => ⟨M2, s1, g2, rs4, ?_⟩⟩
        simp only at h2
        have h2 := wpF.ext h2 e3
        cases eb : evSs F b s1 g2 with
        | nx s5 g5 => rw [eb] at h2; exact fun M' H' σ' e' rs' => ⟨M', s5, g5, rs', (e2.trans e3).trans e', wpF.ext h2 e'⟩
        | ct s5 g5 => rw [eb] at h2; exact fun M' H' σ' e' rs' => ⟨M', s5, g5, rs', (e2.trans e3).trans e', wpF.ext h2 e'⟩
        | bk s5 g5 => rw [eb] at h2; exact h2
        | rt d g5 => rw [eb] at h2; exact h2
        | ex x s5 g5 => rw [eb] at h2; exact h2
        | st => rw [eb] at h2; exact h2
    · have ei : i = items.length := by omega
      subst ei
      refine .inl ⟨w2 (Nat.le_refl _), ?_⟩
      rw [List.drop_length, forL, if_pos lock] at h2
      exact h2 M2 H2 σ2 (Ext.refl _ _) rs2
theorem t_whl (C : Ctx X c T F W) {d : LC} {b : LSs} {t : Expr} {body : List Stmt} {pos : Pos} (hd : PT X t (lfC X T W (evC F d))) (hb : PSs X body (lfS X T W (evSs F b))) : PS X (.While t body [] pos) (lfS X T W (evS F (.whl d b))) := by
  refine (ps_while C.po hd hb).via fun E σ H h => ?_
  obtain ⟨M, s, g, rs, h⟩ := h
  simp only [evS] at h
  refine ⟨fun n σ2 H2 => ∃ M2 s2 g2, RS X.K T M2 H2 g2 s2 σ2 ∧ wpF X T W M2 H2 (whlL (evC F d) (evSs F b) n s2 g2) E, ⟨F.fuel, M, s, g, rs, h⟩, ?_⟩
  rintro n σ2 H2 ⟨M2, s2, g2, rs2, h2⟩
  cases n with
  | zero => exact h2.elim
  | succ n =>
    rw [whlL] at h2
    refine ⟨M2, s2, g2, rs2, ?_⟩
    cases e : evC F d s2 g2 with
    | exc x g1 =>
      rw [e] at h2
      exact fun M' H' cls dd e hr hx => h2 M' H' σ2 cls dd e (rs2.ext e hr) hx
    | st => rw [e] at h2; exact h2
    | ok k g1 =>
      intro M1 H1 e1 hr1
      cases k with
      | false =>
        rw [e] at h2
        exact iteF (h2 M1 H1 σ2 e1 (rs2.ext e1 hr1))
      | true =>
        rw [e] at h2
        refine iteT ⟨fun σ3 H3 => ∃ M3 s3 g3, RS X.K T M3 H3 g3 s3 σ3 ∧ wpF X T W M3 H3 (whlL (evC F d) (evSs F b) n s3 g3) E, fun σ3 H3 q => ⟨n, Nat.lt_succ_self n, q⟩, M1, s2, g1, rs2.ext e1 hr1, ?_⟩
        have h2 := wpF.ext h2 e1
        cases eb : evSs F b s2 g1 with
        | nx s5 g5 => simp only [eb] at h2; exact fun M' H' σ' e' rs' => ⟨M', s5, g5, rs', wpF.ext h2 e'⟩
        | ct s5 g5 => simp only [eb] at h2; exact fun M' H' σ' e' rs' => ⟨M', s5, g5, rs', wpF.ext h2 e'⟩
        | bk s5 g5 => simp only [eb] at h2; exact h2
        | rt d g5 => simp only [eb] at h2; exact h2
        | ex x s5 g5 => simp only [eb] at h2; exact h2
        | st => simp only [eb] at h2; exact h2
end
end KN

namespace KN
open PySem PySem.Spec PyProof.Rows L2
section
variable {X : Cx} {c : Ck} {T : Tb} {F : Fn} {W : WX}
theorem sw_false {sc : Scope} {x : Str} {p : Pos} {v : Expr} {l : Nat} {env : Env} (hs : env.scope = sc) (hk : env.scope.kind = .function) (h : swB sc x p v = some false) : swapsWith v (some (.Name x p)) l env = pure false := by
  subst hs
  have hb : env.blockKind = .function := by unfold Env.blockKind; rw [hk]; rfl
  cases v with
  | ListComp e gs s vp =>
    simp only [swB] at h
    unfold swapsWith
    split at h
    · rename_i e1
      have ky : env.kindOf x = some .local := e1
      have h2 := Option.some.inj h
      have e2 : (env.blockKind == ScopeKind.function) = true := by rw [hb]; rfl
      have e3 : (env.kindOf x == some NameKind.local) = true := by rw [ky]; rfl
      show pure (env.blockKind == ScopeKind.function && env.kindOf x == some NameKind.local && p.line == vp.line && !(s.names.any fun (n, k) => n == x && (k == .local || k == .cell))) = pure false
      rw [e2, e3, Bool.true_and, Bool.true_and, h2]
    · rename_i e1
      have ky : env.kindOf x = some .cell := e1
      have e3 : (env.kindOf x == some NameKind.local) = false := by rw [ky]; rfl
      show pure (env.blockKind == ScopeKind.function && env.kindOf x == some NameKind.local && p.line == vp.line && !(s.names.any fun (n, k) => n == x && (k == .local || k == .cell))) = pure false
      rw [e3, Bool.and_false, Bool.false_and, Bool.false_and]
    · cases h
  | SetComp _ _ _ _ => simp [swB] at h
  | DictComp _ _ _ _ _ => simp [swB] at h
  | _ => rfl
theorem t_setLc (C : Ctx X c T F W) {k : Nat} {y : Str} {py spos : Pos} {mu : Bool} {e : LE} {t : LT} {i : LI} {cc : LCs} {elt tg iter : Expr} {ifs : List Expr} {scope : Scope} {pos : Pos}
    (hy : stB c k y = true) (hsw : swB c.sc y py (.ListComp elt [⟨tg, iter, ifs, 0⟩] scope pos) = some true)
    (h1 : blkC c.N c.sc scope (ownN c t) = true) (h2 : (ownN c t).map (·.2) = ownT t) (h3 : kT (c.blk scope) t tg = true) (h4 : noSet iter = true)
    (hi : PI X tg iter (lfI X T W (evI F i)))
    (hc : ∀ {X' : Cx} {c' : Ck} (C' : Ctx X' c' T F W0), c' = c.blk scope → PTs X' ifs (lfC X' T W0 (evCs F cc)))
    (he : ∀ {X' : Cx} {c' : Ck} (C' : Ctx X' c' T F W0), c' = c.blk scope → PE X' elt (lfE X' T W0 (evE F e))) :
    PS X (.Assign [.Name y py] (.ListComp elt [⟨tg, iter, ifs, 0⟩] scope pos) spos) (lfS X T W (evS F (.set k (.comp mu e t i cc)))) := by
  have ok := blkOk_by h1
  obtain ⟨q1, q2, q3⟩ := st_of C.tg hy
  simp only [swB] at hsw
  split at hsw
  · rename_i hl
    have hsw := Option.some.inj hsw
    simp only [Bool.and_eq_true, Bool.not_eq_true'] at hsw
    have hl' : X.env.scope.names.lookup y = some .local := by rw [C.sc]; exact hl
    refine (ps_setLc C.calm (by rw [C.hN]; exact C.nd) q1 hl' (sw_true C.kd hl' hsw.1 hsw.2) hi (by rw [C.hN, C.sc]; exact ok) (fun s H Cc cl fp => s_tgt (T := T) (C.blk ok s H Cc cl fp).tg h3) (fun s H Cc cl fp => hc (C.blk ok s H Cc cl fp) rfl) (fun s H Cc cl fp => he (C.blk ok s H Cc cl fp) rfl) (fold_of h4)).via
      fun E σ H h => t_setfin (fun h => s_lc (pos := pos) (elt := elt) (tg := tg) (iter := iter) (ifs := ifs) (scope := scope) (wi := lfI X T W (evI F i)) C h2 X.K rfl h) h
  · cases hsw
  · cases hsw
theorem t_pass {pos : Pos} : PS X (.Pass pos) (lfS X T W (evS F .pass)) := ps_pass.via fun E σ H h => by
  obtain ⟨M, s, g, rs, h⟩ := h
  simp only [evS] at h
  exact h M H σ (Ext.refl _ _) rs
theorem t_brk {pos : Pos} : PS X (.Break pos) (lfS X T W (evS F .brk)) := ps_break.via fun E σ H h => by
  obtain ⟨M, s, g, rs, h⟩ := h
  simp only [evS] at h
  exact h M H σ (Ext.refl _ _) rs
theorem t_cnt {pos : Pos} : PS X (.Continue pos) (lfS X T W (evS F .cnt)) := ps_continue.via fun E σ H h => by
  obtain ⟨M, s, g, rs, h⟩ := h
  simp only [evS] at h
  exact h M H σ (Ext.refl _ _) rs
mutual
theorem sS : ∀ (l : LS) {X : Cx} {c : Ck} {W : WX} (C : Ctx X c T F W) (st : Stmt), kS c l st = true → PS X st (lfS X T W (evS F l))
  | .expr e, X, c, W, C, st, h => by
    cases st with
    | Expr x p =>
      simp only [kS, Bool.and_eq_true] at h
      exact t_expr h.2 (sE e C x h.1)
    | _ => exact absurd h Bool.false_ne_true
  | .set i e, X, c, W, C, st, h => by
    cases st with
    | Assign tgs v pos =>
      simp only [kS] at h
      split at h
      · rename_i x p
        simp only [Bool.and_eq_true] at h
        obtain ⟨⟨h1, h2⟩, h3⟩ := h
        split at h3
        · rename_i e1
          exact t_set C h1 (sw_false C.sc C.kd e1) (sE e C v h2)
        · rename_i e1
          split at h3
          · rename_i elt tg iter ifs as scope q
            cases e with
            | comp mu e' t s d =>
              simp only [kE, Bool.and_eq_true, decide_eq_true_eq] at h2
              obtain ⟨⟨⟨⟨⟨⟨⟨rfl, k1⟩, k2⟩, k3⟩, k4⟩, k5⟩, k6⟩, k7⟩ := h2
              exact t_setLc C h1 e1 k1 k2 k3 k5 (sI s C iter k4) (fun C' ec => by subst ec; exact sCs d C' ifs k6) (fun C' ec => by subst ec; exact sE e' C' elt k7)
            | _ => simp [kE] at h2
          · cases h3
        · cases h3
      · cases h
    | _ => exact absurd h Bool.false_ne_true
  | .unp is e, X, c, W, C, st, h => by
    cases st with
    | Assign tgs v pos =>
      simp only [kS] at h
      split at h
      · rename_i es k p
        simp only [Bool.and_eq_true] at h
        exact t_unp C h.1.1.1 h.1.2 h.2 (sE e C v h.1.1.2)
      · cases h
    | _ => exact absurd h Bool.false_ne_true
  | .par i j a b, X, c, W, C, st, h => by
    cases st with
    | Assign tgs v pos =>
      simp only [kS] at h
      split at h
      · rename_i x px y py kt pt u w k2 pt2
        simp only [Bool.and_eq_true, decide_eq_true_eq, Bool.not_eq_true'] at h
        obtain ⟨⟨⟨⟨⟨⟨⟨⟨⟨⟨⟨h1, h2⟩, h3⟩, h4⟩, h5⟩, h6⟩, h7⟩, h8⟩, h9⟩, h10⟩, h11⟩, h12⟩ := h
        exact t_par C h1 h2 h3 h4 (sE a C u h5) (sE b C w h6) h7 h8 h9 h10 h11 h12
      · cases h
    | _ => exact absurd h Bool.false_ne_true
  | .aug i o e, X, c, W, C, st, h => by
    cases st with
    | AugAssign t p v pos =>
      simp only [kS] at h
      split at h
      · rename_i x q
        simp only [Bool.and_eq_true, decide_eq_true_eq] at h
        exact t_aug C h.1.1 h.1.2 (sE e C v h.2)
      · cases h
    | _ => exact absurd h Bool.false_ne_true
  | .seti a b e, X, c, W, C, st, h => by
    cases st with
    | Assign tgs v pos =>
      simp only [kS] at h
      split at h
      · rename_i x y q
        simp only [Bool.and_eq_true] at h
        exact t_seti C h.1.2 h.2 (sE a C x h.1.1.1.1) (sE b C y h.1.1.1.2) (sE e C v h.1.1.2)
      · cases h
    | _ => exact absurd h Bool.false_ne_true
  | .augi o a b e, X, c, W, C, st, h => by
    cases st with
    | AugAssign t p v pos =>
      simp only [kS] at h
      split at h
      · rename_i x y q
        simp only [Bool.and_eq_true, decide_eq_true_eq] at h
        exact t_augi C h.1.2 h.2 (sE a C x h.1.1.1.1) (sE b C y h.1.1.1.2) (sE e C v h.1.1.2)
      · cases h
    | _ => exact absurd h Bool.false_ne_true
  | .app a e, X, c, W, C, st, h => by
    cases st with
    | Expr x pos =>
      simp only [kS] at h
      split at h
      · rename_i o name ap y cp
        simp only [Bool.and_eq_true, decide_eq_true_eq] at h
        obtain ⟨⟨⟨⟨⟨rfl, h1⟩, h2⟩, h3⟩, h4⟩, h5⟩ := h
        exact t_app h3 h4 h5 (sE a C o h1) (sE e C y h2)
      · cases h
    | _ => exact absurd h Bool.false_ne_true
  | .ite d a b, X, c, W, C, st, h => by
    cases st with
    | If t xs ys pos =>
      simp only [kS, Bool.and_eq_true] at h
      exact t_ite (sC d C t h.1.1).1 (sSs a C xs h.1.2) (sSs b C ys h.2)
    | _ => exact absurd h Bool.false_ne_true
  | .for_ t i b, X, c, W, C, st, h => by
    cases st with
    | For tg iter body els pos =>
      cases els with
      | nil =>
        simp only [kS, Bool.and_eq_true] at h
        exact t_for C h.1.1.1 h.1.2 (sI i C iter h.1.1.2) (sSs b C body h.2)
      | cons _ _ => exact absurd h Bool.false_ne_true
    | _ => exact absurd h Bool.false_ne_true
  | .whl d b, X, c, W, C, st, h => by
    cases st with
    | While t body els pos =>
      cases els with
      | nil =>
        simp only [kS, Bool.and_eq_true] at h
        exact t_whl C (sC d C t h.1).1 (sSs b C body h.2)
      | cons _ _ => exact absurd h Bool.false_ne_true
    | _ => exact absurd h Bool.false_ne_true
  | .ret e, X, c, W, C, st, h => by
    cases st with
    | Return v pos =>
      cases v with
      | none => exact absurd h Bool.false_ne_true
      | some x => exact t_ret (sE e C x (by simpa only [kS] using h))
    | _ => exact absurd h Bool.false_ne_true
  | .retn, X, c, W, C, st, h => by
    cases st with
    | Return v pos =>
      cases v with
      | none => exact t_retn
      | some x => exact absurd h Bool.false_ne_true
    | _ => exact absurd h Bool.false_ne_true
  | LS.pass, X, c, W, C, st, h => by
    cases st with
    | Pass pos => exact t_pass
    | _ => exact absurd h Bool.false_ne_true
  | .brk, X, c, W, C, st, h => by
    cases st with
    | Break pos => exact t_brk
    | _ => exact absurd h Bool.false_ne_true
  | .cnt, X, c, W, C, st, h => by
    cases st with
    | Continue pos => exact t_cnt
    | _ => exact absurd h Bool.false_ne_true
theorem sSs : ∀ (l : LSs) {X : Cx} {c : Ck} {W : WX} (C : Ctx X c T F W) (st : List Stmt), kSs c l st = true → PSs X st (lfS X T W (evSs F l))
  | .nil, X, c, W, C, st, h => by
    cases st with
    | nil => exact t_nil
    | cons _ _ => exact absurd h Bool.false_ne_true
  | .cons s r, X, c, W, C, st, h => by
    cases st with
    | nil => simp [kSs] at h
    | cons x xs =>
      simp only [kSs, Bool.and_eq_true] at h
      exact t_cons (sS s C x h.1) (sSs r C xs h.2)
end
end
end KN

namespace KN
open PySem PySem.Spec PyProof.Rows L2

/-! ### a def's end -/
section
variable {K : PySem.W.Frag} {T : Tb} {M M' : Mp} {H H' : Hp} {g0 g1 : G}
structure Back (M : Mp) (M' : Mp) : Prop where
  pre : M.m <+: M'.m
  sub : ∀ p ∈ M.b, p ∈ M'.b
theorem Back.out (b : Back M M') {p : Addr} (h : M'.out p) : M.out p := ⟨fun z => h.1 (b.pre.subset z), fun z => h.2 (b.sub p z)⟩
theorem Back.at (b : Back M M') {a : Nat} {p : Addr} (h : M.m[a]? = some p) : M'.m[a]? = some p := by
  obtain ⟨t, ht⟩ := b.pre
  rw [← ht, List.getElem?_append_left (List.getElem?_eq_some_iff.mp h).1]
  exact h
theorem TupM.back (b : Back M M') {p : Addr} {vs : List V} (h : TupM K M' H p vs) : TupM K M H p vs := h.imp (fun z => ⟨z.1, b.out z.2⟩) id
theorem ScrM.back (b : Back M M') {p : Addr} {vs : List V} (h : ScrM K M' H p vs) : ScrM K M H p vs := h.imp (fun z => ⟨z.1, b.out z.2⟩) id
mutual
theorem RD.back (b : Back M M') : ∀ (d : D) (v0 v : V), RD K T M H d v0 → RD K T M' H' d v → RD K T M H' d v
  | .non, _, v, _, h => h
  | .bl _, _, v, _, h => h
  | .int _, _, v, _, h => h
  | .str _, _, v, _, h => h
  | .tup xs, _, v, h0, h => by
    obtain ⟨p0, vs0, _, _, _, k⟩ := h0
    obtain ⟨p, vs, e1, h1, h2, h3⟩ := h
    exact ⟨p, vs, e1, h1.back b, h2, RDs.back b xs vs0 vs k h3⟩
  | .lst xs, _, v, h0, h => by
    obtain ⟨p0, vs0, _, _, _, k⟩ := h0
    obtain ⟨p, vs, e1, h1, h2, h3⟩ := h
    exact ⟨p, vs, e1, ⟨h1.1, b.out h1.2⟩, h2, RDs.back b xs vs0 vs k h3⟩
  | .scr xs, _, v, _, h => by
    obtain ⟨p, e1, h1⟩ := h
    exact ⟨p, e1, h1.back b⟩
  | .rng _ _, _, v, _, h => by
    obtain ⟨p, e1, h1, h2⟩ := h
    exact ⟨p, e1, h1, b.out h2⟩
  | .obj c ks fs, _, v, h0, h => by
    obtain ⟨_, _, fv0, _, _, _, k⟩ := h0
    obtain ⟨p, dx, fvs, e1, h1, h2, h3⟩ := h
    exact ⟨p, dx, fvs, e1, ⟨h1.1, b.out h1.2⟩, h2, RDs.back b fs _ _ k h3⟩
  | .exn _ _ _, _, v, _, h => h
  | .ref a, _, v, h0, h => by
    obtain ⟨p0, k1, _⟩ := h0
    obtain ⟨p, h1, h2⟩ := h
    have z := b.at k1
    rw [h1] at z
    have z' := Option.some.inj z
    exact ⟨p0, k1, by rw [h2, z']⟩
  | .fn _, _, v, _, h => h
theorem RDs.back (b : Back M M') : ∀ (ds : List D) (vs0 vs : List V), RDs K T M H ds vs0 → RDs K T M' H' ds vs → RDs K T M H' ds vs
  | [], _, vs, _, h => h
  | d :: ds, _, vs, h0, h => by
    obtain ⟨v0, r0, rfl, k1, k2⟩ := h0
    obtain ⟨v, r, e1, h1, h2⟩ := h
    exact ⟨v, r, e1, RD.back b d v0 v k1 h1, RDs.back b ds r0 r k2 h2⟩
end
theorem RO.back (b : Back M M') {o : O} {p q : Addr} (h0 : RO K T M H o p) (h : RO K T M' H' o q) : RO K T M H' o q := by
  cases o with
  | lst xs =>
    obtain ⟨vs0, _, _, k⟩ := h0
    obtain ⟨vs, h1, h2, h3⟩ := h
    exact ⟨vs, h1, h2, RDs.back b _ _ _ k h3⟩
  | ins c ks fs =>
    obtain ⟨_, fv0, _, _, k⟩ := h0
    obtain ⟨dx, fvs, h1, h2, h3⟩ := h
    exact ⟨dx, fvs, h1, h2, RDs.back b _ _ _ k h3⟩
  | dk kvs =>
    obtain ⟨vs0, _, _, _, k⟩ := h0
    obtain ⟨vs, h1, h2, h3, h4⟩ := h
    exact ⟨vs, h1, h2, h3, RDs.back b _ _ _ k h4⟩
mutual
theorem RD.low {n : Nat} (b : Back M M') (hn : M.m.length = n) : ∀ (d : D) (v : V), low n d = true → RD K T M' H' d v → RD K T M H' d v
  | .non, v, _, h => h
  | .bl _, v, _, h => h
  | .int _, v, _, h => h
  | .str _, v, _, h => h
  | .tup xs, v, l, h => by
    obtain ⟨p, vs, e1, h1, h2, h3⟩ := h
    exact ⟨p, vs, e1, h1.back b, h2, RDs.low b hn xs vs l h3⟩
  | .lst xs, v, l, h => by
    obtain ⟨p, vs, e1, h1, h2, h3⟩ := h
    exact ⟨p, vs, e1, ⟨h1.1, b.out h1.2⟩, h2, RDs.low b hn xs vs l h3⟩
  | .scr xs, v, _, h => by
    obtain ⟨p, e1, h1⟩ := h
    exact ⟨p, e1, h1.back b⟩
  | .rng _ _, v, _, h => by
    obtain ⟨p, e1, h1, h2⟩ := h
    exact ⟨p, e1, h1, b.out h2⟩
  | .obj c ks fs, v, l, h => by
    obtain ⟨p, dx, fvs, e1, h1, h2, h3⟩ := h
    exact ⟨p, dx, fvs, e1, ⟨h1.1, b.out h1.2⟩, h2, RDs.low b hn fs _ l h3⟩
  | .exn _ _ _, v, _, h => h
  | .ref a, v, l, h => by
    obtain ⟨p, z1, z2⟩ := h
    refine ⟨p, ?_, z2⟩
    have ha : a < n := of_decide_eq_true l
    obtain ⟨t, ht⟩ := b.pre
    rw [← ht, List.getElem?_append_left (by rw [hn]; exact ha)] at z1
    exact z1
  | .fn _, v, _, h => h
theorem RDs.low {n : Nat} (b : Back M M') (hn : M.m.length = n) : ∀ (ds : List D) (vs : List V), lows n ds = true → RDs K T M' H' ds vs → RDs K T M H' ds vs
  | [], _, _, h => h
  | d :: ds, vs, l, h => by
    obtain ⟨v, r, e1, h1, h2⟩ := h
    simp only [lows, Bool.and_eq_true] at l
    exact ⟨v, r, e1, RD.low b hn d v l.1 h1, RDs.low b hn ds r l.2 h2⟩
end
theorem RO.low {n : Nat} (b : Back M M') (hn : M.m.length = n) {o : O} {q : Addr} (l : lowO n o = true) (h : RO K T M' H' o q) : RO K T M H' o q := by
  cases o with
  | lst xs =>
    obtain ⟨vs, h1, h2, h3⟩ := h
    exact ⟨vs, h1, h2, RDs.low b hn _ _ l h3⟩
  | ins c ks fs =>
    obtain ⟨dx, fvs, h1, h2, h3⟩ := h
    exact ⟨dx, fvs, h1, h2, RDs.low b hn _ _ l h3⟩
  | dk kvs =>
    obtain ⟨vs, h1, h2, h3, h4⟩ := h
    exact ⟨vs, h1, h2, h3, RDs.low b hn _ _ l h4⟩
theorem HR.back (h0 : HR K T M H g0) (e : Ext M H M' H') (h : HR K T M' H' g1) (hg : OldOk g0 g1) : HR K T M H' (g1.take g0.length) := by
  have b : Back M M' := ⟨e.pre, e.sub⟩
  refine ⟨by rw [h0.len, List.length_take]; have := hg.1; omega, h0.nd, fun a o p q1 q2 => ?_, fun p hp => h.th p fun z => hp (b.out z), h0.ap⟩
  rw [List.getElem?_take] at q1
  split at q1
  · rename_i ha
    have q3 := h.ob a o p q1 (b.at q2)
    rcases hg.2 a o ha q1 with z | z
    · exact RO.back b (h0.ob a o p z q2) q3
    · exact RO.low b h0.len z q3
  · cases q1
theorem Ext.stay (e : Ext M H M' H') : Ext M H M H' := ⟨fun _ h => h, fun _ h => .inl h, List.prefix_refl _, e.keep, fun _ h => .inl h⟩
theorem omap_rds {f : D → Option D} {M1 : Mp} {H1 : Hp} (k : ∀ d r v, f d = some r → RD K T M' H' d v → RD K T M1 H1 r v) : ∀ {ds rs : List D} {vs : List V}, omap f ds = some rs → RDs K T M' H' ds vs → RDs K T M1 H1 rs vs
  | [], rs, vs, e, h => by cases e; exact h
  | d :: ds, rs, vs, e, h => by
    obtain ⟨v, r, rfl, h1, h2⟩ := h
    simp only [omap] at e
    split at e
    · rename_i y ys e1 e2
      cases e
      exact ⟨v, r, rfl, k d y v e1 h1, omap_rds k e2 h2⟩
    · cases e
theorem snap_ok (h0 : HR K T M H g0) (e : Ext M H M' H') (h : HR K T M' H' g1) (hg : OldOk g0 g1) : ∀ (k : Nat) (d r : D) (v : V), snap (g1.drop g0.length) g0.length k d = some r → RD K T M' H' d v → RD K T M H' r v
  | 0, d, r, v, q, _ => by simp [snap] at q
  | k + 1, d, r, v, q, hd => by
    have b : Back M M' := ⟨e.pre, e.sub⟩
    have ih := snap_ok h0 e h hg k
    have fr : ∀ a p, ¬ a < g0.length → M'.m[a]? = some p → M.out p := fun a p ha hp => ⟨fun hm => by
      obtain ⟨j, hj, ej⟩ := List.getElem_of_mem hm
      have q1 : M'.m[j]? = some p := b.at (by rw [← ej]; exact List.getElem?_eq_getElem hj)
      obtain ⟨l1, e1⟩ := List.getElem?_eq_some_iff.mp q1
      obtain ⟨l2, e2⟩ := List.getElem?_eq_some_iff.mp hp
      have := (List.getElem_inj h.nd).mp (e1.trans e2.symm)
      rw [h0.len] at hj
      omega, fun hm => h.ap p (b.sub p hm) (List.mem_of_getElem? hp)⟩
    cases d with
    | tup xs =>
      simp only [snap, Option.map_eq_some_iff] at q
      obtain ⟨ys, e1, rfl⟩ := q
      obtain ⟨p, vs, z1, z2, z3, z4⟩ := hd
      exact ⟨p, vs, z1, z2.back b, z3, omap_rds ih e1 z4⟩
    | lst xs =>
      simp only [snap, Option.map_eq_some_iff] at q
      obtain ⟨ys, e1, rfl⟩ := q
      obtain ⟨p, vs, z1, z2, z3, z4⟩ := hd
      exact ⟨p, vs, z1, ⟨z2.1, b.out z2.2⟩, z3, omap_rds ih e1 z4⟩
    | obj c ks fs =>
      simp only [snap, Option.map_eq_some_iff] at q
      obtain ⟨ys, e1, rfl⟩ := q
      obtain ⟨p, dx, fvs, z1, z2, z3, z4⟩ := hd
      exact ⟨p, dx, fvs, z1, ⟨z2.1, b.out z2.2⟩, z3, omap_rds ih e1 z4⟩
    | exn c ks fs => exact hd.elim
    | ref a =>
      simp only [snap] at q
      obtain ⟨p, z1, z2⟩ := hd
      split at q
      · rename_i ha
        cases q
        refine ⟨p, ?_, z2⟩
        obtain ⟨t, ht⟩ := b.pre
        rw [← ht, List.getElem?_append_left (by rw [h0.len]; exact ha)] at z1
        exact z1
      · rename_i ha
        split at q
        · rename_i xs e1
          simp only [Option.map_eq_some_iff] at q
          obtain ⟨ys, e2, rfl⟩ := q
          have e3 : g1[a]? = some (.lst xs) := by
            rw [List.getElem?_drop] at e1
            rw [← e1]; congr 1; omega
          obtain ⟨vs, y1, y2, y3⟩ := h.at e3 z1
          exact ⟨p, vs, z2, ⟨y1, fr a p ha z1⟩, y2, omap_rds ih e2 y3⟩
        · rename_i c ks fs e1
          simp only [Option.map_eq_some_iff] at q
          obtain ⟨ys, e2, rfl⟩ := q
          have e3 : g1[a]? = some (.ins c ks fs) := by
            rw [List.getElem?_drop] at e1
            rw [← e1]; congr 1; omega
          obtain ⟨dx, fvs, y1, y2, y3⟩ := h.at e3 z1
          exact ⟨p, dx, fvs, z2, ⟨y1, fr a p ha z1⟩, y2, omap_rds ih e2 y3⟩
        · cases q
    | rng lo hi =>
      cases q
      obtain ⟨p, z1, z2, z3⟩ := hd
      exact ⟨p, z1, z2, b.out z3⟩
    | scr ns =>
      cases q
      obtain ⟨p, z1, z2⟩ := hd
      exact ⟨p, z1, z2.back b⟩
    | non => cases q; exact hd
    | bl _ => cases q; exact hd
    | int _ => cases q; exact hd
    | str _ => cases q; exact hd
    | fn _ => cases q; exact hd
theorem exit_ok {W : WX} {σ : L2.St} {keep : Bool} {d : D} {v : V} {Q : VK} (h0 : HR K T M H g0) (e : Ext M H M' H') (h : HR K T M' H' g1) (rv : RD K T M' H' d v)
    (q : wpR K T W σ M H (exitD keep g0 d g1) fun d M' H' _ => ∀ v, RD K T M' H' d v → Q v H') : Q v H' := by
  unfold exitD at q
  split at q
  · exact q M' H' e h v rv
  · split at q
    · exact q M' H' e h v rv
    · split at q
      · rename_i hg
        cases es : snap (g1.drop g0.length) g0.length 60 d with
        | none => rw [es] at q; exact q.elim
        | some r =>
          rw [es] at q
          have q' : wpR K T W σ M H (KN.R.ok r (g1.take g0.length)) fun d M' H' _ => ∀ v, RD K T M' H' d v → Q v H' := q
          exact q' M H' e.stay (h0.back e h hg) v (snap_ok h0 e h hg 60 d r v es rv)
      · exact q M' H' e h v rv
theorem exitX_ok {W : WX} {σ : L2.St} {keep : Bool} {x : D} {cls : Value} {dd : Option Addr} {post : D → Mp → Hp → G → Prop} (h0 : HR K T M H g0) (e : Ext M H M' H') (h : HR K T M' H' g1) (rx : RX K T M' H' x cls dd)
    (q : wpR K T W σ M H (match exitD keep g0 x g1 with | .ok x g => KN.R.exc x g | _ => .st) post) : W cls dd σ H' := by
  have b : Back M M' := ⟨e.pre, e.sub⟩
  cases x with
  | exn c ks fs =>
    obtain ⟨rfl, rx⟩ := rx
    have direct : wpR K T W σ M H (KN.R.exc (D.exn c ks fs) g1) post → W (.ref (T.cad c)) dd σ H' := fun q => q M' H' _ dd e h ⟨rfl, rx⟩
    unfold exitD at q
    split at q
    · rename_i x' g' ex
      split at ex
      · cases ex; exact direct q
      · split at ex
        · cases ex; exact direct q
        · split at ex
          · rename_i hg
            cases es : snap (g1.drop g0.length) g0.length 60 (.exn c ks fs) with
            | none => rw [es] at ex; cases ex
            | some r =>
              rw [es] at ex
              cases ex
              simp only [snap, Option.map_eq_some_iff] at es
              obtain ⟨ys, e1, rfl⟩ := es
              refine q M H' _ dd e.stay (h0.back e h hg) ⟨rfl, ?_⟩
              rcases rx with ⟨rfl, rfl⟩ | ⟨d, fvs, z1, z2, z3, z4, z5⟩
              · cases e1; exact .inl ⟨rfl, rfl⟩
              · exact .inr ⟨d, fvs, z1, z2, b.out z3, z4, omap_rds (snap_ok h0 e h hg 59) e1 z5⟩
          · cases ex; exact direct q
    · exact q.elim
  | _ => exact rx.elim
end

/-! ### all defs of a text -/
structure DefI where
  st : Stmt
  N : List Str
  ps : List Str
/-- a text: its defs by numbers -/
structure Txt where
  P : Nat → Option LF
  dn : Nat → Option Str
  di : Nat → DefI
  cn : Nat → Option Str
  con : Nat → D
  fuel : Nat
def Txt.ck (X : Txt) (f : Nat) : Ck := ⟨(X.di f).N, defScope (X.di f).st, fun _ => true, X.dn, X.cn⟩
/-- what a kernel looks at, one def -/
def Txt.chk (X : Txt) (f : Nat) : Bool := match X.P f with
  | some F => decide (F.np = (X.di f).ps.length) && decide (F.n = (X.di f).N.length) && decide (F.np ≤ F.n) && kSs (X.ck f) F.body (defBody (X.di f).st)
  | none => false
structure TxtOk (X : Txt) (T : Tb) (K : PySem.W.Frag) (mg : Str → Option Value) : Prop where
  sc : ∀ f x, X.dn f = some x → FnScope (X.di f).N (X.di f).ps (defScope (X.di f).st)
  fn : ∀ f x, X.dn f = some x → ∃ fd, Fun K x x (X.di f).st (T.fad f) fd ∧ Binds K fd (X.di f).ps [] ∧ mg x = some (.ref (T.fad f))
  ck : ∀ f x, X.dn f = some x → X.chk f = true
  bl : ∀ x ∈ bltNames, mg x = none
  con : ∀ i x, X.cn i = some x → ∃ (u : Value) (v : V), mg x = some u ∧ RelV v u ∧ ∀ M H, RD K T M H (X.con i) v
noncomputable abbrev Txt.call (X : Txt) (k : Nat) : Nat → List D → G → R D := callF X.P X.con X.fuel k
theorem callF_len {X : Txt} {k f : Nat} {ds : List D} {g : G} {F : LF} (hp : X.P f = some F) (h : X.call k f ds g ≠ .st) : ds.length = F.np := by
  cases k with
  | zero => exact absurd rfl h
  | succ k =>
    simp only [Txt.call, callF, hp] at h
    by_cases q : ds.length = F.np
    · exact q
    · rw [if_neg q] at h; exact absurd rfl h
theorem start_rs {K : PySem.W.Frag} {T : Tb} {M : Mp} {H : Hp} {g : G} {F : LF} {ds : List D} {vs : List V} {N : List Str} (hr : HR K T M H g) (rv : RDs K T M H ds vs) (hl : ds.length = F.np) (hn : F.n = N.length) : RS K T M H g (KN.start F ds) (L2.start N vs) := by
  have e := rv.length
  refine ⟨hr, ?_, fun i d q => ?_⟩
  · unfold KN.start L2.start
    simp [← e, hl, hn]
  · unfold KN.start at q
    by_cases hi : i < ds.length
    · rw [List.getElem?_append_left (by rw [List.length_map]; exact hi), List.getElem?_map] at q
      cases ed : ds[i]? with
      | none => rw [ed] at q; cases q
      | some d' =>
        rw [ed] at q
        cases q
        obtain ⟨v, h1, h2⟩ := rv.get ed
        refine ⟨v, ?_, h2⟩
        unfold L2.start
        rw [List.getElem?_append_left (by rw [List.length_map, ← e]; exact hi), List.getElem?_map, h1]
        rfl
    · rw [List.getElem?_append_right (by rw [List.length_map]; omega), List.getElem?_replicate] at q
      split at q <;> cases q
section
variable {P : Program} {w : World} {K : PySem.W.Frag} {mg : Str → Option Value} {base : Heap} {T : Tb} {X : Txt}
theorem fn_all (O : TxtOk X T K mg) : ∀ (k f : Nat) (x : Str), X.dn f = some x → ∀ fd, Fun K x x (X.di f).st (T.fad f) fd → FnOk P w K mg base (L2.CX P w) k (T.fad f) fd (X.di f).ps (spF K T (X.call k f) (X.di f).ps.length)
  | 0, f, x, hx, fd, hf => by
    refine ⟨fun vs H Q E h => h.1, fun A outer s H args us vs Q E _ _ _ _ h => ?_⟩
    obtain ⟨_, M, g, ds, hr, rv, q⟩ := h
    exact q.elim
  | k + 1, f, x, hx, fd, hf => by
    have S := O.sc f x hx
    have hc := O.ck f x hx
    unfold Txt.chk at hc
    cases hp : X.P f with
    | none => rw [hp] at hc; cases hc
    | some F =>
      rw [hp] at hc
      simp only [Bool.and_eq_true, decide_eq_true_eq] at hc
      obtain ⟨⟨⟨hc1, hc2⟩, hc3⟩, hc4⟩ := hc
      refine hf.okX S (fun vs H Q E h => h.1) fun cdv A outer s H vs Q E hr h => ?_
      obtain ⟨hvl, M, g, ds, hrr, rv, q⟩ := h
      have W : WX := fun cls d _ H' => E cls d H'
      have C : Ctx (cxOf (L2.CX P w) P w K mg base (X.di f).N x (defScope (X.di f).st) (T.fad f) cdv A outer s H E) (X.ck f) T ⟨X.call k, X.con, X.fuel⟩ (fun cls d _ H' => E cls d H') := by
        refine ⟨rfl, S.nd, rfl, S.kind, rfl, rfl, hr.units, takes_of rfl rfl rfl rfl, passes_of rfl, O.bl, fun f' x' hx' => ?_, fun i x' hx' => ⟨O.con i x' hx'⟩⟩
        obtain ⟨fd', hf', hb', hm'⟩ := O.fn f' x' hx'
        refine ⟨k, fd', _, hm', hf'.kp, hb', hr, fn_all O k f' x' hx' fd' hf', fun ds' g' z => ?_⟩
        have hc' := O.ck f' x' hx'
        unfold Txt.chk at hc'
        cases hp' : X.P f' with
        | none => rw [hp'] at hc'; cases hc'
        | some F' =>
          rw [hp'] at hc'
          simp only [Bool.and_eq_true, decide_eq_true_eq] at hc'
          rw [callF_len hp' z]
          exact hc'.1.1.1
      refine ⟨_, sSs F.body C _ hc4, M, KN.start F ds, g, start_rs hrr rv (by rw [hc1, ← hvl]; exact rv.length) hc2, ?_⟩
      have hl : ds.length = F.np := by rw [hc1, ← hvl]; exact rv.length
      have q' : wpR K T (fun c d _ H' => E c d H') [] M H (endF F.keep g (evSs ⟨X.call k, X.con, X.fuel⟩ F.body (KN.start F ds) g)) fun d M' H' _ => ∀ v, RD K T M' H' d v → Q v H' := by
        have e : X.call (k + 1) f ds g = endF F.keep g (evSs ⟨X.call k, X.con, X.fuel⟩ F.body (KN.start F ds) g) := by
          simp only [Txt.call, callF, hp, hl, if_true]
        rw [← e]
        exact q
      cases ev : evSs ⟨X.call k, X.con, X.fuel⟩ F.body (KN.start F ds) g with
      | nx s1 g1 =>
        rw [ev] at q'
        exact fun M' H' σ' e rs' => exit_ok hrr e rs'.hr (d := .non) (v := .non) (by unfold RD; rfl) q'
      | rt d g1 =>
        rw [ev] at q'
        exact fun M' H' v e hr' rv' => exit_ok hrr e hr' rv' q'
      | bk s1 g1 => rw [ev] at q'; exact q'.elim
      | ct s1 g1 => rw [ev] at q'; exact q'.elim
      | ex y s1 g1 =>
        rw [ev] at q'
        exact fun M' H' σ' cls dd e rs' rx => exitX_ok (W := fun c d _ H' => E c d H') (σ := []) hrr e rs'.hr rx q'
      | st => rw [ev] at q'; exact q'.elim

/-- the law -/
def spLaw (K : PySem.W.Frag) : Sp := fun vs H Q _ => ∃ (a : Addr) (ns : List Int), vs = [.ref a] ∧ SqL K H a (ns.map V.int) ∧ ns.length ≤ 63 ∧ ∀ H', Q (.bl true) H'
theorem law_ok (O : TxtOk X T K mg) {k f : Nat} {x : Str} (hx : X.dn f = some x) {fd : FuncData} (hf : Fun K x x (X.di f).st (T.fad f) fd) (h1 : (X.di f).ps.length = 1)
    (h : ∀ ns : List Int, ns.length ≤ 63 → ∃ g, X.call k f [.scr ns] [] = .ok (.bl true) g) : FnOk P w K mg base (L2.CX P w) k (T.fad f) fd (X.di f).ps (spLaw K) := by
  refine (fn_all O k f x hx fd hf).imp fun vs H Q E z => ?_
  obtain ⟨a, ns, rfl, hs, hl, q⟩ := z
  obtain ⟨g, e⟩ := h ns hl
  refine ⟨by rw [h1]; rfl, ⟨[], []⟩, [], [.scr ns], ⟨rfl, List.nodup_nil, fun a o p z => by simp at z, fun p hp => (hp ⟨by simp, by simp⟩).elim, fun p hp => by simp at hp⟩, ⟨_, _, rfl, ⟨a, rfl, ?_⟩, rfl⟩, ?_⟩
  · rcases hs with hs | hs
    · exact .inl ⟨hs, by simp [Mp.out]⟩
    · exact .inr hs
  · rw [e]
    intro M' H' _ _ v rv
    have e2 : v = .bl true := by unfold RD at rv; exact rv
    subst e2
    exact q H'
end
end KN

namespace KN
open PySem PySem.Spec PyProof.Rows L2
/-! ### a text by a list of its defs -/
structure Df where
  num : Nat
  nm : Str
  st : Stmt
  N : List Str
  ps : List Str
  F : LF
def findDf (f : Nat) : List Df → Option Df
  | [] => none
  | d :: r => if d.num = f then some d else findDf f r
theorem look_eq (L : List Df) : (fun f => (findDf f L).map (·.F)) = fun f => lookF f (L.map fun d => (d.num, d.F)) := by
  funext f
  induction L with
  | nil => rfl
  | cons d L ih =>
    simp only [findDf, lookF, List.map_cons]
    split
    · rfl
    · exact ih
def noDf : DefI := ⟨.Pass ⟨0, 0, 0, 0⟩, [], []⟩
def Txt.of (L : List Df) (cn : Nat → Option Str) (con : Nat → D) (fuel : Nat) : Txt where
  P := fun f => (findDf f L).map (·.F)
  dn := fun f => (findDf f L).map (·.nm)
  di := fun f => match findDf f L with
    | some d => ⟨d.st, d.N, d.ps⟩
    | none => noDf
  cn := cn
  con := con
  fuel := fuel
def scB (N ps : List Str) (sc : Scope) : Bool :=
  (match sc.kind with | .function => true | _ => false) && !sc.isCoroutine && !sc.isGenerator && decide N.Nodup && decide (N.take ps.length = ps) &&
  (ps.all fun x => match sc.names.lookup x with | some .local => true | some .cell => true | _ => false) && (sc.names.all fun y => match y.2 with | .free => false | _ => true)
theorem sc_of {N ps : List Str} {sc : Scope} (h : scB N ps sc = true) : FnScope N ps sc := by
  unfold scB at h
  simp only [Bool.and_eq_true, Bool.not_eq_true', decide_eq_true_eq, List.all_eq_true] at h
  obtain ⟨⟨⟨⟨⟨⟨h1, h2⟩, h3⟩, h4⟩, h5⟩, h6⟩, h7⟩ := h
  refine ⟨?_, h2, h3, h4, h5, fun x hx => ?_, fun y hy e => ?_⟩
  · split at h1
    · assumption
    · cases h1
  · have := h6 x hx
    split at this
    · exact .inl (by assumption)
    · exact .inr (by assumption)
    · cases this
  · have := h7 y hy
    rw [e] at this
    cases this
def Df.ok (X : Txt) (d : Df) : Bool := scB d.N d.ps (defScope d.st) && (decide (d.F.np = d.ps.length) && decide (d.F.n = d.N.length) && decide (d.F.np ≤ d.F.n) && kSs ⟨d.N, defScope d.st, fun _ => true, X.dn, X.cn⟩ d.F.body (defBody d.st))
def DefAt (K : PySem.W.Frag) (d : Df) (a : Addr) : Prop := ∃ fd, PySem.W.nsIn K mainGlobals d.nm = some (some (.ref a)) ∧ Fun K d.nm d.nm d.st a fd ∧ Binds K fd d.ps []
inductive DefsAt (K : PySem.W.Frag) : List Df → List Addr → Prop
  | nil : DefsAt K [] []
  | cons {d : Df} {a : Addr} {L : List Df} {A : List Addr} : DefAt K d a → DefsAt K L A → DefsAt K (d :: L) (a :: A)
theorem DefAt.mk {K : PySem.W.Frag} {d : Df} {a : Addr} {oc : Value} {od an : Option Addr} {osl : Array (Option Value)} {kV doc pm cdv ct : Value} (n : PySem.W.nsIn K mainGlobals d.nm = some (some (.ref a)))
    (l : K.lookup a = some ⟨oc, od, .func (PySem.W.fnOf d.nm d.nm (defArgs d.st) (defBody d.st) (defScope d.st) .none kV doc pm an cdv ct), osl⟩) (c : PySem.W.codeIn K cdv d.nm = true) (k : PySem.W.keepIn K (.ref a) = true)
    (h : ∀ (kV doc pm : Value) (an : Option Addr) (cdv ct : Value) (us : List Value), us.length = d.ps.length → bindArgs (PySem.W.fnOf d.nm d.nm (defArgs d.st) (defBody d.st) (defScope d.st) .none kV doc pm an cdv ct) ⟨us, []⟩ = pure (d.ps.zip us)) : DefAt K d a :=
  ⟨_, n, fun_mk l c k, (fun_mk l c k).binds h⟩
def adOf : List Df → List Addr → Nat → Addr
  | d :: L, a :: A, f => if d.num = f then a else adOf L A f
  | _, _, _ => 0
theorem DefsAt.get {K : PySem.W.Frag} {L : List Df} {A : List Addr} (h : DefsAt K L A) {f : Nat} {d : Df} (e : findDf f L = some d) : DefAt K d (adOf L A f) := by
  induction h with
  | nil => cases e
  | cons h1 _ ih =>
    unfold findDf at e
    unfold adOf
    split at e
    · cases e
      rename_i q
      rw [if_pos q]
      exact h1
    · rename_i q
      rw [if_neg q]
      exact ih e
theorem findDf_mem {f : Nat} {d : Df} : ∀ {L : List Df}, findDf f L = some d → d ∈ L ∧ d.num = f
  | [], e => nomatch e
  | x :: L, e => by
    unfold findDf at e
    split at e
    · cases e
      exact ⟨List.mem_cons_self, by assumption⟩
    · obtain ⟨a, b⟩ := findDf_mem e
      exact ⟨List.mem_cons_of_mem _ a, b⟩
def tbOf (L : List Df) (A : List Addr) : Tb := ⟨adOf L A, fun _ => 0, fun _ => ""⟩
theorem txt_ok {L : List Df} {A : List Addr} {cn : Nat → Option Str} {con : Nat → D} {fuel : Nat} {K : PySem.W.Frag} {h : Heap} {mg : Str → Option Value} (X : K.In h) (G : h.Ns mainGlobals mg) (hL : DefsAt K L A)
    (hk : (L.all fun d => d.ok (Txt.of L cn con fuel)) = true) (hz : ∀ x ∈ bltNames, PySem.W.nsIn K mainGlobals x = some none)
    (hc : ∀ i x, cn i = some x → ∃ (u : Value) (v : V), mg x = some u ∧ RelV v u ∧ ∀ M H, RD K (tbOf L A) M H (con i) v) : TxtOk (Txt.of L cn con fuel) (tbOf L A) K mg := by
  have get : ∀ {f x}, (Txt.of L cn con fuel).dn f = some x → ∃ d, findDf f L = some d ∧ d.nm = x ∧ d.ok (Txt.of L cn con fuel) = true := fun {f x} e => by
    have e' : (findDf f L).map (·.nm) = some x := e
    cases ed : findDf f L with
    | none => rw [ed] at e'; cases e'
    | some d =>
      rw [ed] at e'
      exact ⟨d, rfl, Option.some.inj e', List.all_eq_true.mp hk d (findDf_mem ed).1⟩
  have di : ∀ {f d}, findDf f L = some d → (Txt.of L cn con fuel).di f = ⟨d.st, d.N, d.ps⟩ := fun {f d} e => by
    show (match findDf f L with | some d => (⟨d.st, d.N, d.ps⟩ : DefI) | none => noDf) = _
    rw [e]
  refine ⟨fun f x e => ?_, fun f x e => ?_, fun f x e => ?_, fun x hx => PySem.W.mg_none_of X G (hz x hx), fun i x e => hc i x e⟩
  · obtain ⟨d, e1, e2, e3⟩ := get e
    rw [di e1]
    simp only [Df.ok, Bool.and_eq_true] at e3
    exact sc_of e3.1
  · obtain ⟨d, e1, rfl, e3⟩ := get e
    obtain ⟨fd, h1, h2, h3⟩ := hL.get e1
    rw [di e1]
    exact ⟨fd, h2, h3, PySem.W.mg_of X G h1⟩
  · obtain ⟨d, e1, rfl, e3⟩ := get e
    unfold Txt.chk
    have e4 : (Txt.of L cn con fuel).P f = some d.F := by
      show (findDf f L).map (·.F) = _
      rw [e1]; rfl
    rw [e4]
    simp only [Df.ok, Bool.and_eq_true] at e3
    simp only [Txt.ck, di e1, Bool.and_eq_true]
    simpa only [Bool.and_eq_true] using e3.2
/-- what walk_of asks -/
theorem end_ok {L : List Df} {A : List Addr} {cn : Nat → Option Str} {con : Nat → D} {fuel : Nat} {K : PySem.W.Frag} {h : Heap} {mg : Str → Option Value} {P : Program} {w : World} {fa : Addr} {f k : Nat} {d : Df}
    (X : K.In h) (G : h.Ns mainGlobals mg) (hfa : mg d.nm = some (.ref fa)) (hL : DefsAt K L A)
    (hk : (L.all fun d => d.ok (Txt.of L cn con fuel)) = true) (hz : ∀ x ∈ bltNames, PySem.W.nsIn K mainGlobals x = some none)
    (hc : ∀ i x, cn i = some x → ∃ (u : Value) (v : V), mg x = some u ∧ RelV v u ∧ ∀ M H, RD K (tbOf L A) M H (con i) v)
    (hf : findDf f L = some d) (h1 : d.ps.length = 1) (hb : ∀ (kV doc pm : Value) (an : Option Addr) (cdv ct : Value) (v : Value), bindArgs (PySem.W.fnOf d.nm d.nm (defArgs d.st) (defBody d.st) (defScope d.st) .none kV doc pm an cdv ct) ⟨[v], []⟩ = pure (d.ps.zip [v]))
    (hlaw : ∀ ns : List Int, ns.length ≤ 63 → ∃ g, callF (fun f => (findDf f L).map (·.F)) con fuel k f [.scr ns] [] = .ok (.bl true) g) :
    ∃ fd : FuncData, (∀ (s : Shared) (v : Value), BindsTo s fd ⟨[v], []⟩ (d.ps.zip [v])) ∧ ∀ base : Heap, K.In base → base.Ns mainGlobals mg → FnOk P w K mg base (L2.CX P w) k fa fd d.ps (spLaw K) := by
  have O := txt_ok X G hL hk hz hc
  obtain ⟨fd, q1, q2, q3⟩ := hL.get hf
  have e := hfa.symm.trans (PySem.W.mg_of X G q1)
  cases e
  have hdn : (Txt.of L cn con fuel).dn f = some d.nm := by
    show (findDf f L).map (·.nm) = _
    rw [hf]; rfl
  have hdi : (Txt.of L cn con fuel).di f = ⟨d.st, d.N, d.ps⟩ := by
    show (match findDf f L with | some d => (⟨d.st, d.N, d.ps⟩ : DefI) | none => noDf) = _
    rw [hf]
  refine ⟨fd, fun s v => ?_, fun base _ _ => ?_⟩
  · obtain ⟨oc, od, kV, doc, pm, an, cdv, ct, osl, rfl, lk, hcd⟩ := q2.ex
    exact .of_eq (hb kV doc pm an cdv ct v)
  · have F' : Fun K d.nm d.nm ((Txt.of L cn con fuel).di f).st ((tbOf L A).fad f) fd := by rw [hdi]; exact q2
    have r := law_ok (P := P) (w := w) (base := base) (k := k) O hdn F' (by rw [hdi]; exact h1) hlaw
    rw [hdi] at r
    exact r
theorem cx_none {P : Program} : ∀ (w : World) (H : Hp) (s : Shared) (e : Value) (s' : Shared), L2.CX P w [] H s (fun _ _ _ => False) e s' → False := fun w H s e s' ⟨_, _, _, _, _, _, _, _, _, _, _, _, hE⟩ => hE
theorem bl_all {K : PySem.W.Frag} (h0 : PySem.W.nsIn K mainGlobals "len" = some none) (h1 : PySem.W.nsIn K mainGlobals "int" = some none) (h2 : PySem.W.nsIn K mainGlobals "str" = some none) (h3 : PySem.W.nsIn K mainGlobals "bool" = some none) (h4 : PySem.W.nsIn K mainGlobals "abs" = some none) (h5 : PySem.W.nsIn K mainGlobals "max" = some none) (h6 : PySem.W.nsIn K mainGlobals "min" = some none) (h7 : PySem.W.nsIn K mainGlobals "sum" = some none) (h8 : PySem.W.nsIn K mainGlobals "all" = some none) (h9 : PySem.W.nsIn K mainGlobals "any" = some none) (h10 : PySem.W.nsIn K mainGlobals "tuple" = some none) (h11 : PySem.W.nsIn K mainGlobals "list" = some none) (h12 : PySem.W.nsIn K mainGlobals "sorted" = some none) (h13 : PySem.W.nsIn K mainGlobals "range" = some none) (h14 : PySem.W.nsIn K mainGlobals "isinstance" = some none) : ∀ x ∈ bltNames, PySem.W.nsIn K mainGlobals x = some none := by
  intro x hx
  simp only [bltNames, List.mem_cons, List.not_mem_nil, or_false] at hx
  rcases hx with rfl | rfl | rfl | rfl | rfl | rfl | rfl | rfl | rfl | rfl | rfl | rfl | rfl | rfl | rfl <;> assumption
end KN

set_option autoImplicit true
set_option relaxedAutoImplicit true
/-! KQ: the equations of the evaluator, at full arguments -/
namespace KN
@[simp] theorem evE_var (W : Fn) (s : St) (g : G) : evE W (.var i) s g = match s[i]? with
    | some (some d) => .ok d g
    | _ => .st := by first | (simp only [evE]; done) | (simp only [evE]; rfl)
@[simp] theorem evE_int (W : Fn) (s0 : St) (g : G) : evE W (.int i) s0 g = .ok (.int i) g := by first | (simp only [evE]; done) | (simp only [evE]; rfl)
@[simp] theorem evE_str (W : Fn) (s0 : St) (g : G) : evE W (.str x) s0 g = .ok (.str x) g := by first | (simp only [evE]; done) | (simp only [evE]; rfl)
@[simp] theorem evE_bl (W : Fn) (s0 : St) (g : G) : evE W (.bl b) s0 g = .ok (.bl b) g := by first | (simp only [evE]; done) | (simp only [evE]; rfl)
@[simp] theorem evE_non (W : Fn) (s0 : St) (g : G) : evE W (.non) s0 g = .ok .non g := by first | (simp only [evE]; done) | (simp only [evE]; rfl)
@[simp] theorem evE_dnew (W : Fn) (s0 : St) (g : G) : evE W (.dnew) s0 g = .ok (.ref g.length) (g ++ [.dk []]) := by first | (simp only [evE]; done) | (simp only [evE]; rfl)
@[simp] theorem evE_con (W : Fn) (s0 : St) (g : G) : evE W (.con c) s0 g = .ok (W.con c) g := by first | (simp only [evE]; done) | (simp only [evE]; rfl)
@[simp] theorem evE_tup (W : Fn) (s : St) (g : G) : evE W (.tup es) s g = (evEs W es s g).bind fun xs g => if xs.length ≤ LIM then .ok (.tup xs) g else .st := by first | (simp only [evE]; done) | (simp only [evE]; rfl)
@[simp] theorem evE_lst (W : Fn) (s : St) (g : G) : evE W (.lst mu es) s g = (evEs W es s g).bind fun xs g => mkL mu xs g := by first | (simp only [evE]; done) | (simp only [evE]; rfl)
@[simp] theorem evE_bin (W : Fn) (s : St) (g : G) : evE W (.bin o a b) s g = (evE W a s g).bind fun x g => (evE W b s g).bind fun y g => oR (binD o g x y) g := by first | (simp only [evE]; done) | (simp only [evE]; rfl)
@[simp] theorem evE_neg (W : Fn) (s : St) (g : G) : evE W (.neg a) s g = (evE W a s g).bind fun x g => match x with
    | .int i => .ok (.int (-i)) g
    | _ => .st := by first | (simp only [evE]; done) | (simp only [evE]; rfl)
@[simp] theorem evE_cmp (W : Fn) (s : St) (g : G) : evE W (.cmp o a b) s g = (evE W a s g).bind fun x g => (evE W b s g).bind fun y g => (oR (cmpD o g x y) g).bind fun k g => .ok (.bl k) g := by first | (simp only [evE]; done) | (simp only [evE]; rfl)
@[simp] theorem evE_chain (W : Fn) (s : St) (g : G) : evE W (.chain o o' a b c) s g = (evE W a s g).bind fun x g => (evE W b s g).bind fun y g => (oR (cmpD o g x y) g).bind fun k g =>
      if k = true then (evE W c s g).bind fun z g => (oR (cmpD o' g y z) g).bind fun k g => .ok (.bl k) g else .ok (.bl false) g := by first | (simp only [evE]; done) | (simp only [evE]; rfl)
@[simp] theorem evE_and (W : Fn) (s : St) (g : G) : evE W (.and a b) s g = (evE W a s g).bind fun x g => match x with
    | .bl true => evE W b s g
    | .bl false => .ok (.bl false) g
    | _ => .st := by first | (simp only [evE]; done) | (simp only [evE]; rfl)
@[simp] theorem evE_or (W : Fn) (s : St) (g : G) : evE W (.or a b) s g = (evE W a s g).bind fun x g => match x with
    | .bl true => .ok (.bl true) g
    | .bl false => evE W b s g
    | _ => .st := by first | (simp only [evE]; done) | (simp only [evE]; rfl)
@[simp] theorem evE_not (W : Fn) (s : St) (g : G) : evE W (.not a) s g = (evE W a s g).bind fun x g => match x with
    | .bl b => .ok (.bl (!b)) g
    | _ => .st := by first | (simp only [evE]; done) | (simp only [evE]; rfl)
@[simp] theorem evE_ifx (W : Fn) (s : St) (g : G) : evE W (.ifx c a b) s g = (evC W c s g).bind fun k g => if k = true then evE W a s g else evE W b s g := by first | (simp only [evE]; done) | (simp only [evE]; rfl)
@[simp] theorem evE_idx (W : Fn) (s : St) (g : G) : evE W (.idx a b) s g = (evE W a s g).bind fun x g => (evE W b s g).bind fun y g => oR (idxD g x y) g := by first | (simp only [evE]; done) | (simp only [evE]; rfl)
@[simp] theorem evE_sli (W : Fn) (s : St) (g : G) : evE W (.sli a lo hi) s g = (evE W a s g).bind fun x g => (evO W lo s g).bind fun l g => (evO W hi s g).bind fun u g => oR (sliD g x l u) g := by first | (simp only [evE]; done) | (simp only [evE]; rfl)
@[simp] theorem evE_index (W : Fn) (s : St) (g : G) : evE W (.index a e) s g = (evE W a s g).bind fun x g => match view g x with
    | .lst _ => (evE W e s g).bind fun y g => oR (indexD g x y) g
    | _ => .st := by first | (simp only [evE]; done) | (simp only [evE]; rfl)
@[simp] theorem evE_call (W : Fn) (s : St) (g : G) : evE W (.call f es) s g = (evEs W es s g).bind fun xs g => W.call f xs g := by first | (simp only [evE]; done) | (simp only [evE]; rfl)
@[simp] theorem evE_bi (W : Fn) (s : St) (g : G) : evE W (.bi b es) s g = (evEs W es s g).bind fun xs g => oR (biD b g xs) g := by first | (simp only [evE]; done) | (simp only [evE]; rfl)
@[simp] theorem evE_isi (W : Fn) (s : St) (g : G) : evE W (.isi a ts) s g = (evE W a s g).bind fun x g => (oR (isTys g x ts) g).bind fun k g => .ok (.bl k) g := by first | (simp only [evE]; done) | (simp only [evE]; rfl)
@[simp] theorem evE_comp (W : Fn) (s : St) (g : G) : evE W (.comp mu e t i c) s g = (evI W i s g).bind fun p g => (compL t p.2 (evCs W c) (evE W e) p.1 s g).bind fun xs g => mkC mu xs g := by first | (simp only [evE]; done) | (simp only [evE]; rfl)
@[simp] theorem evEs_nil (W : Fn) (s0 : St) (g : G) : evEs W (.nil) s0 g = .ok [] g := by first | (simp only [evEs]; done) | (simp only [evEs]; rfl)
@[simp] theorem evEs_cons (W : Fn) (s : St) (g : G) : evEs W (.cons e es) s g = (evE W e s g).bind fun x g => (evEs W es s g).bind fun xs g => .ok (x :: xs) g := by first | (simp only [evEs]; done) | (simp only [evEs]; rfl)
@[simp] theorem evO_no (W : Fn) (s0 : St) (g : G) : evO W (.no) s0 g = .ok none g := by first | (simp only [evO]; done) | (simp only [evO]; rfl)
@[simp] theorem evO_yes (W : Fn) (s : St) (g : G) : evO W (.yes e) s g = (evE W e s g).bind fun x g => (oR (asI x) g).bind fun i g => .ok (some i) g := by first | (simp only [evO]; done) | (simp only [evO]; rfl)
@[simp] theorem evC_val (W : Fn) (s : St) (g : G) : evC W (.val e) s g = (evE W e s g).bind fun x g => oR (truD g x) g := by first | (simp only [evC]; done) | (simp only [evC]; rfl)
@[simp] theorem evC_cmp (W : Fn) (s : St) (g : G) : evC W (.cmp o a b) s g = (evE W a s g).bind fun x g => (evE W b s g).bind fun y g => oR (cmpD o g x y) g := by first | (simp only [evC]; done) | (simp only [evC]; rfl)
@[simp] theorem evC_chain (W : Fn) (s : St) (g : G) : evC W (.chain o o' a b c) s g = (evE W a s g).bind fun x g => (evE W b s g).bind fun y g => (oR (cmpD o g x y) g).bind fun k g =>
      if k = true then (evE W c s g).bind fun z g => oR (cmpD o' g y z) g else .ok false g := by first | (simp only [evC]; done) | (simp only [evC]; rfl)
@[simp] theorem evC_and (W : Fn) (s : St) (g : G) : evC W (.and a b) s g = (evC W a s g).bind fun k g => if k = true then evC W b s g else .ok false g := by first | (simp only [evC]; done) | (simp only [evC]; rfl)
@[simp] theorem evC_or (W : Fn) (s : St) (g : G) : evC W (.or a b) s g = (evC W a s g).bind fun k g => if k = true then .ok true g else evC W b s g := by first | (simp only [evC]; done) | (simp only [evC]; rfl)
@[simp] theorem evC_not (W : Fn) (s : St) (g : G) : evC W (.not a) s g = (evC W a s g).bind fun k g => .ok (!k) g := by first | (simp only [evC]; done) | (simp only [evC]; rfl)
@[simp] theorem evCs_no (W : Fn) (s0 : St) (g : G) : evCs W (.no) s0 g = .ok true g := by first | (simp only [evCs]; done) | (simp only [evCs]; rfl)
@[simp] theorem evCs_yes (W : Fn) (s : St) (g : G) : evCs W (.yes c) s g = evC W c s g := by first | (simp only [evCs]; done) | (simp only [evCs]; rfl)
theorem evI_seq (W : Fn) (s : St) (g : G) : evI W (.seq e) s g = (evE W e s g).bind fun x g => match x with
    | .tup xs => .ok (xs, none) g
    | .lst xs => .ok (xs, none) g
    | .ref a => match g[a]? with
      | some (.lst xs) => .ok (xs, some (a, xs)) g
      | _ => .st
    | _ => .st := by first | (simp only [evI]; done) | (simp only [evI]; rfl)
theorem evI_range1 (W : Fn) (s : St) (g : G) : evI W (.range1 a) s g = (evE W a s g).bind fun x g => (oR (asI x) g).bind fun n g => if okR 0 n ∧ n.toNat ≤ LIM then .ok ((rangeI 0 n).map .int, none) g else .st := by first | (simp only [evI]; done) | (simp only [evI]; rfl)
theorem evI_range2 (W : Fn) (s : St) (g : G) : evI W (.range2 a b) s g = (evE W a s g).bind fun x g => (evE W b s g).bind fun y g => (oR (asI x) g).bind fun lo g => (oR (asI y) g).bind fun hi g =>
      if okR lo hi ∧ (hi - lo).toNat ≤ LIM then .ok ((rangeI lo hi).map .int, none) g else .st := by first | (simp only [evI]; done) | (simp only [evI]; rfl)
@[simp] theorem evS_expr (W : Fn) (s : St) (g : G) : evS W (.expr e) s g = toF (evE W e s g) s fun _ g => .nx s g := by first | (simp only [evS]; done) | (simp only [evS]; rfl)
@[simp] theorem evS_set (W : Fn) (s : St) (g : G) : evS W (.set i e) s g = toF (evE W e s g) s fun d g => if i < s.length then .nx (s.set i (some d)) g else .st := by first | (simp only [evS]; done) | (simp only [evS]; rfl)
@[simp] theorem evS_unp (W : Fn) (s : St) (g : G) : evS W (.unp is e) s g = toF (evE W e s g) s fun d g => match setT (.tup is) d s with
    | some s' => .nx s' g
    | none => .st := by first | (simp only [evS]; done) | (simp only [evS]; rfl)
@[simp] theorem evS_par (W : Fn) (s : St) (g : G) : evS W (.par i j a b) s g = toF (evE W a s g) s fun x g => toF (evE W b s g) s fun y g =>
      if i < s.length ∧ j < s.length ∧ i ≠ j then .nx ((s.set i (some x)).set j (some y)) g else .st := by first | (simp only [evS]; done) | (simp only [evS]; rfl)
@[simp] theorem evS_aug (W : Fn) (s : St) (g : G) : evS W (.aug i o e) s g = match s[i]? with
    | some (some x) => toF (evE W e s g) s fun y g => match o, x, y with
      | .add, .int p, .int q => .nx (s.set i (some (.int (p + q)))) g
      | .sub, .int p, .int q => .nx (s.set i (some (.int (p - q)))) g
      | _, _, _ => .st
    | _ => .st := by first | (simp only [evS]; done) | (simp only [evS]; rfl)
@[simp] theorem evS_seti (W : Fn) (s : St) (g : G) : evS W (.seti a b e) s g = toF (evE W e s g) s fun v g => toF (evE W a s g) s fun x g => toF (evE W b s g) s fun y g => nxO s (putP x y v g) := by first | (simp only [evS]; done) | (simp only [evS]; rfl)
@[simp] theorem evS_augi (W : Fn) (s : St) (g : G) : evS W (.augi o a b e) s g = toF (evE W a s g) s fun x g => toF (evE W b s g) s fun y g => match getP g x y with
    | some old => toF (evE W e s g) s fun v g => match o, old, v with
      | .add, .int m, .int n => nxO s (putP x y (.int (m + n)) g)
      | .sub, .int m, .int n => nxO s (putP x y (.int (m - n)) g)
      | _, _, _ => .st
    | none => .st := by first | (simp only [evS]; done) | (simp only [evS]; rfl)
@[simp] theorem evS_app (W : Fn) (s : St) (g : G) : evS W (.app a e) s g = toF (evE W a s g) s fun x g => match x with
    | .ref p => match g[p]? with
      | some (.lst _) => toF (evE W e s g) s fun v g => match g[p]? with
        | some (.lst xs) => if xs.length < LIM then .nx s (g.set p (.lst (xs ++ [v]))) else .st
        | _ => .st
      | _ => .st
    | _ => .st := by first | (simp only [evS]; done) | (simp only [evS]; rfl)
@[simp] theorem evS_ite (W : Fn) (s : St) (g : G) : evS W (.ite c a b) s g = match evC W c s g with
    | .ok true g => evSs W a s g
    | .ok false g => evSs W b s g
    | .exc x g => .ex x s g
    | .st => .st := by first | (simp only [evS]; done) | (simp only [evS]; rfl)
@[simp] theorem evS_for_ (W : Fn) (s : St) (g : G) : evS W (.for_ t i b) s g = match evI W i s g with
    | .ok p g => forL t p.2 (evSs W b) p.1 s g
    | .exc x g => .ex x s g
    | .st => .st := by first | (simp only [evS]; done) | (simp only [evS]; rfl)
@[simp] theorem evS_whl (W : Fn) (s : St) (g : G) : evS W (.whl c b) s g = whlL (evC W c) (evSs W b) W.fuel s g := by first | (simp only [evS]; done) | (simp only [evS]; rfl)
@[simp] theorem evS_ret (W : Fn) (s : St) (g : G) : evS W (.ret e) s g = toF (evE W e s g) s fun d g => .rt d g := by first | (simp only [evS]; done) | (simp only [evS]; rfl)
@[simp] theorem evS_retn (W : Fn) (s : St) (g : G) : evS W (.retn) s g = .rt .non g := by first | (simp only [evS]; done) | (simp only [evS]; rfl)
@[simp] theorem evS_pass (W : Fn) (s : St) (g : G) : evS W (.pass) s g = .nx s g := by first | (simp only [evS]; done) | (simp only [evS]; rfl)
@[simp] theorem evS_brk (W : Fn) (s : St) (g : G) : evS W (.brk) s g = .bk s g := by first | (simp only [evS]; done) | (simp only [evS]; rfl)
@[simp] theorem evS_cnt (W : Fn) (s : St) (g : G) : evS W (.cnt) s g = .ct s g := by first | (simp only [evS]; done) | (simp only [evS]; rfl)
@[simp] theorem evSs_nil (W : Fn) (s : St) (g : G) : evSs W (.nil) s g = .nx s g := by first | (simp only [evSs]; done) | (simp only [evSs]; rfl)
@[simp] theorem evSs_cons (W : Fn) (s : St) (g : G) : evSs W (.cons c r) s g = match evS W c s g with
    | .nx s g => evSs W r s g
    | f => f := by first | (simp only [evSs]; done) | (simp only [evSs]; rfl)
end KN

set_option autoImplicit false
set_option relaxedAutoImplicit false
/-! KP: tools for runs in plain Lean -/
namespace KN
/-- what is walked -/
def seqI (d : D) (g : G) : R (List D × Option (Nat × List D)) := match d with
  | .tup xs => .ok (xs, none) g
  | .lst xs => .ok (xs, none) g
  | .ref a => match g[a]? with
    | some (.lst xs) => .ok (xs, some (a, xs)) g
    | _ => .st
  | _ => .st
@[simp] theorem evI_sq (W : Fn) (e : LE) (s : St) (g : G) : evI W (.seq e) s g = (evE W e s g).bind seqI := by
  rw [evI_seq]
  cases evE W e s g with
  | ok a g => cases a <;> rfl
  | exc x g => rfl
  | st => rfl
@[simp] theorem seqI_tup (xs : List D) (g : G) : seqI (.tup xs) g = .ok (xs, none) g := rfl
@[simp] theorem seqI_lst (xs : List D) (g : G) : seqI (.lst xs) g = .ok (xs, none) g := rfl
@[simp] theorem start_eq (F : LF) (ds : List D) : start F ds = ds.map some ++ List.replicate (F.n - F.np) none := rfl
@[simp] theorem asI_int (i : Int) : asI (.int i) = some i := rfl
@[simp] theorem nxO_some (s : St) (g : G) : nxO s (some g) = .nx s g := rfl
@[simp] theorem nxO_none (s : St) : nxO s none = .st := rfl
@[simp] theorem wipeA_nil (s : St) : wipeA s [] = s := rfl
@[simp] theorem wipeA_cons (s : St) (i : Nat) (is : List Nat) : wipeA s (i :: is) = (wipeA s is).set i none := rfl
@[simp] theorem ownT_name (i : Nat) : ownT (.name i) = [i] := rfl
@[simp] theorem ownT_tup (is : List Nat) : ownT (.tup is) = is := rfl
@[simp] theorem setA_nil (s : St) : setA [] [] s = some s := rfl
@[simp] theorem setA_cons (i : Nat) (is : List Nat) (d : D) (ds : List D) (s : St) : setA (i :: is) (d :: ds) s = if i < s.length then setA is ds (s.set i (some d)) else none := rfl
section
variable (g : G) (i j n : Int) (xs ys : List D) (a b : D)
@[simp] theorem dkOf_int : dkOf g (.int i) = none := rfl
@[simp] theorem dkOf_bl (b : Bool) : dkOf g (.bl b) = none := rfl
@[simp] theorem dkOf_non : dkOf g .non = none := rfl
@[simp] theorem dkOf_str (s : PySem.Str) : dkOf g (.str s) = none := rfl
@[simp] theorem dkOf_lst : dkOf g (.lst xs) = none := rfl
@[simp] theorem dkOf_tup : dkOf g (.tup xs) = none := rfl
@[simp] theorem dkOf_scr (ns : List Int) : dkOf g (.scr ns) = none := rfl
@[simp] theorem b_add : binD .add g (.int i) (.int j) = some (.int (i + j)) := rfl
@[simp] theorem b_sub : binD .sub g (.int i) (.int j) = some (.int (i - j)) := rfl
theorem b_mul (h : small i ∨ small j) : binD .mul g (.int i) (.int j) = some (.int (i * j)) := if_pos h
theorem b_fdiv (h : j ≠ 0 ∧ j.natAbs < 1073741824) : binD .fdiv g (.int i) (.int j) = some (.int (i.fdiv j)) := if_pos h
theorem b_mod (h : j ≠ 0) : binD .mod g (.int i) (.int j) = some (.int (i.fmod j)) := if_pos h
theorem b_pow (h : 0 ≤ j ∧ j ≤ 1000000 ∧ small i) : binD .pow g (.int i) (.int j) = some (.int (i ^ j.toNat)) := if_pos h
theorem small_of (h : -18446744073709551616 < i ∧ i < 18446744073709551616) : small i := h
theorem b_cat (h : xs.length + ys.length ≤ LIM) : binD .add g (.lst xs) (.lst ys) = some (.lst (xs ++ ys)) := if_pos h
@[simp] theorem c_lt : cmpD .lt g (.int i) (.int j) = some (decide (i < j)) := rfl
@[simp] theorem c_le : cmpD .le g (.int i) (.int j) = some (decide (i ≤ j)) := rfl
@[simp] theorem c_gt : cmpD .gt g (.int i) (.int j) = some (decide (j < i)) := rfl
@[simp] theorem c_ge : cmpD .ge g (.int i) (.int j) = some (decide (j ≤ i)) := rfl
@[simp] theorem c_eqI : cmpD .eq g (.int i) (.int j) = some (decide (i = j)) := by
  show some (i == j) = _
  by_cases h : i = j <;> simp [h]
@[simp] theorem c_neI : cmpD .ne g (.int i) (.int j) = some (!decide (i = j)) := by
  show some (!(i == j)) = _
  by_cases h : i = j <;> simp [h]
@[simp] theorem c_eqB (x y : Bool) : cmpD .eq g (.bl x) (.bl y) = some (x == y) := rfl
@[simp] theorem c_neB (x y : Bool) : cmpD .ne g (.bl x) (.bl y) = some (!(x == y)) := rfl
@[simp] theorem c_isn : cmpD .isn g a .non = some (isNon a) := rfl
@[simp] theorem c_isnn : cmpD .isnn g a .non = some (!isNon a) := rfl
@[simp] theorem isNon_int : isNon (.int i) = false := rfl
@[simp] theorem isNon_bl (b : Bool) : isNon (.bl b) = false := rfl
@[simp] theorem isNon_tup : isNon (.tup xs) = false := rfl
@[simp] theorem isNon_lst : isNon (.lst xs) = false := rfl
@[simp] theorem isNon_non : isNon .non = true := rfl
@[simp] theorem t_bl (b : Bool) : truD g (.bl b) = some b := rfl
@[simp] theorem t_int : truD g (.int i) = some (i != 0) := rfl
@[simp] theorem t_non : truD g .non = some false := rfl
@[simp] theorem t_lst : truD g (.lst xs) = some (!xs.isEmpty) := rfl
@[simp] theorem t_tup : truD g (.tup xs) = some (!xs.isEmpty) := rfl
@[simp] theorem i_int : biD .int g [.int i] = some (.int i) := rfl
@[simp] theorem i_lenL : biD .len g [.lst xs] = some (.int xs.length) := rfl
@[simp] theorem i_lenT : biD .len g [.tup xs] = some (.int xs.length) := rfl
@[simp] theorem i_lenS (ns : List Int) : biD .len g [.scr ns] = some (.int ns.length) := rfl
@[simp] theorem i_max2 : biD .max g [.int i, .int j] = some (.int (if j > i then j else i)) := rfl
@[simp] theorem i_min2 : biD .min g [.int i, .int j] = some (.int (if j < i then j else i)) := rfl
@[simp] theorem i_tupL : biD .tuple g [.lst xs] = some (.tup xs) := rfl
@[simp] theorem i_tupT : biD .tuple g [.tup xs] = some (.tup xs) := rfl
@[simp] theorem i_listL : biD .list g [.lst xs] = some (.lst xs) := rfl
@[simp] theorem i_listT : biD .list g [.tup xs] = some (.lst xs) := rfl
theorem i_listD (kvs : List (Ky × D)) (h : dkOf g a = some kvs) : biD .list g [a] = some (.lst (kvs.map fun kv => kyD kv.1)) := by
  simp only [biD, h]
theorem i_tupV (h : view g a = .lst xs) : biD .tuple g [a] = some (.tup xs) := by
  simp only [biD, h]
theorem i_sum (ns : List Int) : biD .sum g [.lst (ns.map .int)] = some (.int ns.sum) := by show ((intsD (ns.map .int)).map _) = _; rw [ints_map]; rfl
theorem i_sorted (ns : List Int) : biD .sorted g [.lst (ns.map .int)] = some (.lst ((sortI ns).map .int)) := by show ((intsD (ns.map .int)).map _) = _; rw [ints_map]; rfl
theorem i_max (ns : List Int) (h : ns ≠ []) : biD .max g [.lst (ns.map .int)] = some (.int (maxI ns)) := by
  show ((intsD (ns.map .int)).bind _) = _; rw [ints_map]; simp [h]
theorem i_min (ns : List Int) (h : ns ≠ []) : biD .min g [.lst (ns.map .int)] = some (.int (minI ns)) := by
  show ((intsD (ns.map .int)).bind _) = _; rw [ints_map]; simp [h]
@[simp] theorem x_t0 : idxD g (.tup (a :: xs)) (.int 0) = some a := by simp [idxD, ixn]
@[simp] theorem x_t1 : idxD g (.tup (a :: b :: xs)) (.int 1) = some b := by
  have : ((xs.length : Int) + 1 + 1 > 1) := by omega
  simp [idxD, ixn, this]
@[simp] theorem x_l0 : idxD g (.lst (a :: xs)) (.int 0) = some a := by simp [idxD, ixn]
@[simp] theorem x_l1 : idxD g (.lst (a :: b :: xs)) (.int 1) = some b := by
  have : ((xs.length : Int) + 1 + 1 > 1) := by omega
  simp [idxD, ixn, this]
theorem ixn_pos {n : Nat} {i : Int} (h : 0 ≤ i) (h2 : i < n) : ixn n i = some i.toNat := by unfold ixn; rw [if_pos h, if_pos h2]
theorem ixn_nat {n k : Nat} (h : k < n) : ixn n (k : Nat) = some k := by rw [ixn_pos (by omega) (by omega)]; rfl
theorem x_scr (ns : List Int) (h : 0 ≤ i) (h2 : i < ns.length) : idxD g (.scr ns) (.int i) = some (.int (ns.getD i.toNat 0)) := by
  have h3 : i.toNat < ns.length := by omega
  show Option.map _ ((ixn ns.length i).bind _) = _
  rw [ixn_pos h h2]
  simp [h3]
theorem x_lst {k : Nat} {d : D} (h : xs[k]? = some d) : idxD g (.lst xs) (.int (k : Nat)) = some d := by
  show (ixn xs.length (k : Nat)).bind _ = _
  rw [ixn_nat (List.getElem?_eq_some_iff.mp h).1]
  exact h
theorem x_tup {k : Nat} {d : D} (h : xs[k]? = some d) : idxD g (.tup xs) (.int (k : Nat)) = some d := by
  show (ixn xs.length (k : Nat)).bind _ = _
  rw [ixn_nat (List.getElem?_eq_some_iff.mp h).1]
  exact h
end
@[simp] theorem endF_nx (k : Bool) (g0 g : G) (s : St) : endF k g0 (.nx s g) = exitD k g0 .non g := rfl
@[simp] theorem endF_rt (k : Bool) (g0 g : G) (d : D) : endF k g0 (.rt d g) = exitD k g0 d g := rfl
@[simp] theorem setT_name (i : Nat) (d : D) (s : St) : setT (.name i) d s = if i < s.length then some (s.set i (some d)) else none := rfl
@[simp] theorem setT_tupT (is : List Nat) (xs : List D) (s : St) : setT (.tup is) (.tup xs) s = setA is xs s := rfl
@[simp] theorem setT_tupL (is : List Nat) (xs : List D) (s : St) : setT (.tup is) (.lst xs) s = setA is xs s := rfl
@[simp] theorem lock_none (g : G) : lockOk none g = True := rfl
theorem lock_some (a : Nat) (xs : List D) (g : G) : lockOk (some (a, xs)) g = (g[a]? = some (.lst xs)) := rfl
section
variable (t : LT) (body : St → G → F) (s : St) (g : G) (d : D) (r : List D)
@[simp] theorem forL_nil : forL t none body [] s g = .nx s g := by simp [forL]
theorem forL_cons : forL t none body (d :: r) s g = match setT t d s with
    | none => .st
    | some s1 => match body s1 g with
      | .nx s2 g2 => forL t none body r s2 g2
      | .ct s2 g2 => forL t none body r s2 g2
      | .bk s2 g2 => .nx s2 g2
      | f => f := by
  rw [forL, if_pos (show lockOk none g from trivial)]
  all_goals
    cases setT t d s with
    | none => rfl
    | some s1 =>
      simp only
      cases body s1 g <;> rfl
variable {t body s g d r}
/-- one turn -/
theorem forL_nx {s1 s2 : St} {g2 : G} (h : setT t d s = some s1) (h2 : body s1 g = .nx s2 g2) : forL t none body (d :: r) s g = forL t none body r s2 g2 := by
  rw [forL_cons, h]; simp only [h2]
theorem forL_rt {s1 : St} {g2 : G} {v : D} (h : setT t d s = some s1) (h2 : body s1 g = .rt v g2) : forL t none body (d :: r) s g = .rt v g2 := by
  rw [forL_cons, h]; simp only [h2]
end
section
variable {A : Type} {t : LT} {lk : Option (Nat × List D)} {c : St → G → R Bool} {e : St → G → R D} {s : St} {g : G}
/-- a comprehension that writes nothing -/
theorem comp_pure (f : A → D) (p : A → Bool) (h : A → D) (ys : List A) (hl : lockOk lk g)
    (H : ∀ y ∈ ys, ∃ s1, setT t (f y) (wipeA s (ownT t)) = some s1 ∧ c s1 g = .ok (p y) g ∧ (p y = true → e s1 g = .ok (h y) g)) : compL t lk c e (ys.map f) s g = .ok ((ys.filter p).map h) g := by
  induction ys with
  | nil => simp [compL, hl]
  | cons y ys ih =>
    obtain ⟨s1, h1, h2, h3⟩ := H y (by simp)
    have ih' := ih fun z hz => H z (by simp [hz])
    rw [List.map_cons, compL, if_pos hl, h1]
    simp only [h2, R.bindN_ok]
    cases hp : p y with
    | true => simp [h3 hp, ih', hp]
    | false => simp [ih', hp]
/-- .. that writes -/
def accL {B C : Type} (step : A → B → C × B) : List A → B → List C × B
  | [], b => ([], b)
  | y :: ys, b => ((step y b).1 :: (accL step ys (step y b).2).1, (accL step ys (step y b).2).2)
theorem comp_acc {B : Type} (f : A → D) (step : A → B → D × B) (gg : B → G) (inv : B → Prop) (ys : List A)
    (hl : ∀ b, inv b → lockOk lk (gg b)) (H : ∀ y ∈ ys, ∀ b, inv b → ∃ s1, setT t (f y) (wipeA s (ownT t)) = some s1 ∧ c s1 (gg b) = .ok true (gg b) ∧ e s1 (gg b) = .ok (step y b).1 (gg (step y b).2) ∧ inv (step y b).2) :
    ∀ b, inv b → compL t lk c e (ys.map f) s (gg b) = .ok (accL step ys b).1 (gg (accL step ys b).2) ∧ inv (accL step ys b).2 := by
  induction ys with
  | nil => intro b hb; simp [compL, hl b hb, accL, hb]
  | cons y ys ih =>
    intro b hb
    obtain ⟨s1, h1, h2, h3, h4⟩ := H y (by simp) b hb
    obtain ⟨i1, i2⟩ := ih (fun z hz => H z (by simp [hz])) _ h4
    refine ⟨?_, i2⟩
    rw [List.map_cons, compL, if_pos (hl b hb), h1]
    simp only [h2, R.bindN_ok, if_pos, h3]
    rw [i1]
    rfl
end
theorem evSs_nx {W : Fn} {c : LS} {r : LSs} {s s1 : St} {g g1 : G} (h : evS W c s g = .nx s1 g1) : evSs W (.cons c r) s g = evSs W r s1 g1 := by
  rw [evSs_cons, h]
theorem evSs_rt {W : Fn} {c : LS} {r : LSs} {s : St} {g g1 : G} {d : D} (h : evS W c s g = .rt d g1) : evSs W (.cons c r) s g = .rt d g1 := by
  rw [evSs_cons, h]
/-- an if that is passed -/
theorem evS_skip {W : Fn} {c : LC} {a : LSs} {s : St} {g g1 : G} (h : evC W c s g = .ok false g1) : evS W (.ite c a .nil) s g = .nx s g1 := by
  rw [evS_ite, h]; simp
/-! ### the last place -/
section
variable (g : G) (o o' : O) (xs : List D)
@[simp] theorem set_last : (g ++ [o]).set g.length o' = g ++ [o'] := by
  rw [List.set_append_right _ _ (Nat.le_refl _)]; simp
theorem view_last : view (g ++ [.lst xs]) (.ref g.length) = .lst xs := by
  show (match (g ++ [O.lst xs])[g.length]? with | some (.lst xs) => D.lst xs | _ => .ref g.length) = _
  simp
theorem dkOf_last (kvs : List (Ky × D)) : dkOf (g ++ [.dk kvs]) (.ref g.length) = some kvs := by
  show (match (g ++ [O.dk kvs])[g.length]? with | some (.dk kvs) => some kvs | _ => none) = _
  simp
theorem put_last (kvs : List (Ky × D)) (i : Int) (v : D) (h : kvs.length < LIM) : putP (.ref g.length) (.int i) v (g ++ [.dk kvs]) = some (g ++ [.dk (putK kvs (.inl i) v)]) := by
  show (match (g ++ [O.dk kvs])[g.length]? with
    | some (.lst xs) => _
    | some (.dk kvs) => _
    | _ => _) = _
  simp [h, keyD]
theorem getL_last (i : Int) (d : D) (h : 0 ≤ i) (h2 : xs[i.toNat]? = some d) : getP (g ++ [.lst xs]) (.ref g.length) (.int i) = some d := by
  have h3 := (List.getElem?_eq_some_iff.mp h2).1
  have e : (ixn xs.length i).bind (fun j => xs[j]?) = some d := by rw [ixn_pos h (by omega)]; exact h2
  show (match (g ++ [O.lst xs])[g.length]? with
    | some (.lst xs) => _
    | some (.dk kvs) => _
    | _ => _) = _
  simp [e]
theorem putL_last (i : Int) (v : D) (h : 0 ≤ i) (h2 : i < xs.length) : putP (.ref g.length) (.int i) v (g ++ [.lst xs]) = some (g ++ [.lst (xs.set i.toNat v)]) := by
  show (match (g ++ [O.lst xs])[g.length]? with
    | some (.lst xs) => _
    | some (.dk kvs) => _
    | _ => _) = _
  simp [ixn_pos h h2]
end
@[simp] theorem purs_ints (n : Nat) (ns : List Int) : purs (n + 1) (ns.map D.int) = true := by
  induction ns with
  | nil => rfl
  | cons a r ih => simp [purs, pur, ih]
@[simp] theorem pur_int (n : Nat) (i : Int) : pur (n + 1) (.int i) = true := rfl
@[simp] theorem pur_non (n : Nat) : pur (n + 1) .non = true := rfl
@[simp] theorem pur_bl (n : Nat) (b : Bool) : pur (n + 1) (.bl b) = true := rfl
@[simp] theorem lim0 : 0 ≤ LIM := by rw [lim_is]; decide
@[simp] theorem lim1 : 1 ≤ LIM := by rw [lim_is]; decide
@[simp] theorem lim2 : 2 ≤ LIM := by rw [lim_is]; decide
@[simp] theorem lim3 : 3 ≤ LIM := by rw [lim_is]; decide
@[simp] theorem lim4 : 4 ≤ LIM := by rw [lim_is]; decide
@[simp] theorem lim5 : 5 ≤ LIM := by rw [lim_is]; decide
theorem lim_lt {n : Nat} (h : n ≤ 1000000) : n < LIM := Nat.lt_of_le_of_lt h (by rw [lim_is]; decide)
theorem lim_le {n : Nat} (h : n ≤ 1000000) : n ≤ LIM := Nat.le_of_lt (lim_lt h)
theorem purs_all {n : Nat} {xs : List D} (h : ∀ x ∈ xs, pur n x = true) : purs n xs = true := (purs_iff n xs).mpr h
theorem snap_lst {L : List O} {n k a : Nat} {xs : List D} (h : ¬ a < n) (h2 : L[a - n]? = some (.lst xs)) (h3 : purs k xs = true) : snap L n (k + 1) (.ref a) = some (.lst xs) := by
  unfold snap
  simp only [if_neg h, h2]
  rw [omap_id fun x hx => snap_pur L n k x ((purs_iff k xs).mp h3 x hx)]
  rfl
/-- a def's end: the row is written, a list of its own is told -/
theorem exit_own (o o' : O) (L : G) (xs : List D) (ho : ∀ n, lowO n o' = true) (h3 : purs 59 xs = true) : exitD false (o :: L) (.ref (L.length + 1)) (o' :: (L ++ [.lst xs])) = .ok (.lst xs) (o' :: L) := by
  have := exitD_old (o :: L) (o' :: L) [.lst xs] (.ref (L.length + 1)) (.lst xs) rfl (fun a q ha e => by
    cases a with
    | zero => cases e; exact .inr (ho _)
    | succ a => exact .inl e) (snap_lst (by simp) (by simp) h3) (fun h => nomatch h)
  exact this
@[simp] theorem filter_tt {A : Type} (l : List A) : (l.filter fun _ => true) = l := List.filter_eq_self.mpr fun _ _ => rfl
@[simp] theorem filter_ff {A : Type} (l : List A) : (l.filter fun _ => false) = [] := List.filter_eq_nil_iff.mpr fun _ _ => by simp
/-! ### ranges -/
theorem mem_rangeI {lo hi n : Int} : n ∈ rangeI lo hi ↔ lo ≤ n ∧ n < hi := by
  unfold rangeI
  simp only [List.mem_map, List.mem_range]
  constructor
  · rintro ⟨k, h1, rfl⟩; omega
  · intro h; exact ⟨(n - lo).toNat, by omega, by omega⟩
theorem rangeI_length (lo hi : Int) : (rangeI lo hi).length = (hi - lo).toNat := by simp [rangeI]
theorem rangeI_nil {lo hi : Int} (h : hi ≤ lo) : rangeI lo hi = [] := by
  unfold rangeI
  rw [show (hi - lo).toNat = 0 by omega]; rfl
theorem rangeI_snoc {lo hi : Int} (h : lo ≤ hi) : rangeI lo (hi + 1) = rangeI lo hi ++ [hi] := by
  unfold rangeI
  rw [show (hi + 1 - lo).toNat = (hi - lo).toNat + 1 by omega, List.range_succ, List.map_append]
  simp
  omega
theorem rangeI_get {lo hi : Int} {k : Nat} (h : k < (hi - lo).toNat) : (rangeI lo hi)[k]? = some (lo + k) := by
  unfold rangeI
  simp [h]
theorem rangeI_cons {lo hi : Int} (h : lo < hi) : rangeI lo hi = lo :: rangeI (lo + 1) hi := by
  apply List.ext_getElem?
  intro k
  cases k with
  | zero => rw [rangeI_get (by omega)]; simp
  | succ k =>
    by_cases q : k + 1 < (hi - lo).toNat
    · rw [rangeI_get q, List.getElem?_cons_succ, rangeI_get (by omega)]
      congr 1; omega
    · rw [List.getElem?_eq_none (by rw [rangeI_length]; omega), List.getElem?_cons_succ, List.getElem?_eq_none (by rw [rangeI_length]; omega)]
theorem okR_nat {n : Nat} (h : n ≤ LIM) : okR 0 (n : Int) ∧ (n : Int).toNat ≤ LIM := by
  have e := lim_is
  rw [e] at h ⊢
  unfold okR; omega
theorem rng_items (n : Nat) : ((rangeI 0 (n : Int)).map D.int) = (List.range n).map fun k => D.int (k : Nat) := by
  unfold rangeI; simp
theorem evI_rG {W : Fn} {a : LE} {s : St} {g g' : G} {n : Int} (h : evE W a s g = .ok (.int n) g') (hn : okR 0 n ∧ n.toNat ≤ LIM) : evI W (.range1 a) s g = .ok ((rangeI 0 n).map .int, none) g' := by
  simp only [evI_range1, h, R.bind_ok, asI, oR_some]
  rw [if_pos hn]
/-- range(len(..)) -/
theorem evI_rN {W : Fn} {a : LE} {s : St} {g g' : G} {n : Nat} (h : evE W a s g = .ok (.int (n : Nat)) g') (hn : n ≤ LIM) : evI W (.range1 a) s g = .ok ((List.range n).map fun k => D.int (k : Nat), none) g' := by
  have e := evI_rG h (okR_nat hn)
  rw [rng_items] at e
  exact e
theorem evI_r1 {W : Fn} {a : LE} {s : St} {g g' : G} {n : Int} (h : evE W a s g = .ok (.int n) g') (h1 : -1000000 ≤ n) (h2 : n ≤ 1000000) : evI W (.range1 a) s g = .ok ((rangeI 0 n).map .int, none) g' := by
  have e := lim_is
  simp only [evI_range1, h, R.bind_ok, asI, oR_some]
  rw [if_pos ⟨by unfold okR; omega, by rw [e]; omega⟩]
theorem evI_r2 {W : Fn} {a b : LE} {s : St} {g g' g2 : G} {lo hi : Int} (h : evE W a s g = .ok (.int lo) g') (h' : evE W b s g' = .ok (.int hi) g2) (h1 : -1000000 ≤ lo) (h2 : lo ≤ 1000000) (h3 : -1000000 ≤ hi) (h4 : hi ≤ 1000000) :
    evI W (.range2 a b) s g = .ok ((rangeI lo hi).map .int, none) g2 := by
  have e := lim_is
  simp only [evI_range2, h, h', R.bind_ok, asI, oR_some]
  rw [if_pos ⟨by unfold okR; omega, by rw [e]; omega⟩]
theorem okR_of2 {lo hi : Int} (h1 : -1000000000 ≤ lo) (h2 : lo ≤ 1000000000) (h3 : -1000000000 ≤ hi) (h4 : hi ≤ 1000000000) : okR lo hi := by unfold okR; omega
end KN

namespace KT
open KN
/-- span_length(span) -/
def f0 : LF := { np := 1, n := 1, keep := false, body :=
   (.cons (.ret (.bin .sub (.idx (.var 0) (.int 1)) (.idx (.var 0) (.int 0))))
   .nil) }
/-- has_night(span, night) -/
def f1 : LF := { np := 2, n := 2, keep := false, body :=
   (.cons (.ret (.chain .le .lt (.idx (.var 0) (.int 0)) (.var 1) (.idx (.var 0) (.int 1))))
   .nil) }
/-- turning_nights(spans) -/
def f2 : LF := { np := 1, n := 4, keep := false, body :=
   (.cons (.set 1 .dnew)
   (.cons (.for_ (.tup [2, 3]) (.seq (.var 0))
   (.cons (.seti (.var 1) (.var 2) (.bl true))
   (.cons (.seti (.var 1) (.var 3) (.bl true))
   .nil)))
   (.cons (.ret (.bi .tuple (.cons (.bi .sorted (.cons (.bi .list (.cons (.var 1) .nil)) .nil)) .nil)))
   .nil))) }
/-- load(spans, night) -/
def f3 : LF := { np := 2, n := 3, keep := false, body :=
   (.cons (.ret (.bi .len (.cons (.comp false (.var 2) (.name 2) (.seq (.var 0)) (.yes (.val (.call 1 (.cons (.var 2) (.cons (.var 1) .nil)))))) .nil)))
   .nil) }
/-- load_steps(spans) -/
def f4 : LF := { np := 1, n := 5, keep := false, body :=
   (.cons (.par 1 2 (.lst true .nil) (.int 0))
   (.cons (.for_ (.name 3) (.seq (.call 2 (.cons (.var 0) .nil)))
   (.cons (.set 4 (.call 3 (.cons (.var 0) (.cons (.var 3) .nil))))
   (.cons (.ite (.cmp .ne (.var 4) (.var 2))
   (.cons (.app (.var 1) (.tup (.cons (.var 3) (.cons (.var 4) .nil))))
   (.cons (.set 2 (.var 4))
   .nil))
   .nil)
   .nil)))
   (.cons (.ret (.bi .tuple (.cons (.var 1) .nil)))
   .nil))) }
/-- peak(spans) -/
def f5 : LF := { np := 1, n := 4, keep := false, body :=
   (.cons (.set 1 (.tup (.cons (.int 0) (.cons .non .nil))))
   (.cons (.for_ (.tup [2, 3]) (.seq (.call 4 (.cons (.var 0) .nil)))
   (.cons (.ite (.cmp .gt (.var 3) (.idx (.var 1) (.int 0)))
   (.cons (.set 1 (.tup (.cons (.var 3) (.cons (.var 2) .nil))))
   .nil)
   .nil)
   .nil))
   (.cons (.ret (.var 1))
   .nil))) }
/-- first_over(spans, rooms) -/
def f6 : LF := { np := 2, n := 4, keep := false, body :=
   (.cons (.for_ (.tup [2, 3]) (.seq (.call 4 (.cons (.var 0) .nil)))
   (.cons (.ite (.cmp .gt (.var 3) (.var 1))
   (.cons (.ret (.var 2))
   .nil)
   .nil)
   .nil))
   (.cons (.ret .non)
   .nil)) }
/-- over_spans(spans, rooms) -/
def f7 : LF := { np := 2, n := 6, keep := false, body :=
   (.cons (.par 2 3 (.lst true .nil) .non)
   (.cons (.for_ (.tup [4, 5]) (.seq (.call 4 (.cons (.var 0) .nil)))
   (.cons (.ite (.and (.cmp .gt (.var 5) (.var 1)) (.cmp .isn (.var 3) .non))
   (.cons (.set 3 (.var 4))
   .nil)
   .nil)
   (.cons (.ite (.and (.cmp .le (.var 5) (.var 1)) (.cmp .isnn (.var 3) .non))
   (.cons (.app (.var 2) (.tup (.cons (.var 3) (.cons (.var 4) .nil))))
   (.cons (.set 3 .non)
   .nil))
   .nil)
   .nil)))
   (.cons (.ret (.bi .tuple (.cons (.var 2) .nil)))
   .nil))) }
/-- nights_sold(spans) -/
def f8 : LF := { np := 1, n := 2, keep := false, body :=
   (.cons (.ret (.bi .sum (.cons (.comp false (.call 0 (.cons (.var 1) .nil)) (.name 1) (.seq (.var 0)) .no) .nil)))
   .nil) }
/-- load_row(spans, first, leave) -/
def f9 : LF := { np := 3, n := 7, keep := false, body :=
   (.cons (.set 3 (.comp true (.int 0) (.name 4) (.range2 (.var 1) (.var 2)) .no))
   (.cons (.for_ (.name 5) (.seq (.var 0))
   (.cons (.for_ (.name 6) (.range2 (.bi .max (.cons (.var 1) (.cons (.idx (.var 5) (.int 0)) .nil))) (.bi .min (.cons (.var 2) (.cons (.idx (.var 5) (.int 1)) .nil))))
   (.cons (.augi .add (.var 3) (.bin .sub (.var 6) (.var 1)) (.int 1))
   .nil))
   .nil))
   (.cons (.ret (.bi .tuple (.cons (.var 3) .nil)))
   .nil))) }
/-- _law_taken(row, many) -/
def f1000 : LF := { np := 2, n := 4, keep := false, body :=
   (.cons (.ite (.cmp .gt (.idx (.var 0) (.int 3)) (.int 0))
   (.cons (.set 2 (.bin .mod (.bi .int (.cons (.idx (.var 0) (.int 3)) .nil)) (.var 1)))
   (.cons (.seti (.var 0) (.int 3) (.bin .fdiv (.idx (.var 0) (.int 3)) (.var 1)))
   (.cons (.ret (.var 2))
   .nil)))
   .nil)
   (.cons (.seti (.var 0) (.int 1) (.bin .add (.idx (.var 0) (.int 1)) (.int 1)))
   (.cons (.ite (.cmp .gt (.idx (.var 0) (.int 1)) (.bi .len (.cons (.idx (.var 0) (.int 0)) .nil)))
   (.cons (.seti (.var 0) (.int 2) (.bin .mod (.bi .int (.cons (.bin .add (.bin .mul (.idx (.var 0) (.int 2)) (.int 48271)) (.int 11)) .nil)) (.int 2147483647)))
   (.cons (.ret (.bin .mod (.bi .int (.cons (.bin .fdiv (.idx (.var 0) (.int 2)) (.int 7)) .nil)) (.var 1)))
   .nil))
   .nil)
   (.cons (.set 3 (.idx (.idx (.var 0) (.int 0)) (.bin .sub (.idx (.var 0) (.int 1)) (.int 1))))
   (.cons (.seti (.var 0) (.int 2) (.bin .mod (.bi .int (.cons (.bin .add (.bin .add (.bin .mul (.idx (.var 0) (.int 2)) (.int 48271)) (.var 3)) (.int 11)) .nil)) (.int 2147483647)))
   (.cons (.ite (.cmp .ge (.var 3) (.bin .pow (.int 10) (.int 18)))
   (.cons (.seti (.var 0) (.int 3) (.bin .fdiv (.var 3) (.var 1)))
   .nil)
   .nil)
   (.cons (.ret (.bin .mod (.bi .int (.cons (.var 3) .nil)) (.var 1)))
   .nil))))))) }
/-- _law_pick(row, kinds) -/
def f1001 : LF := { np := 2, n := 2, keep := false, body :=
   (.cons (.ret (.idx (.var 1) (.call 1000 (.cons (.var 0) (.cons (.bi .len (.cons (.var 1) .nil)) .nil)))))
   .nil) }
/-- _law_alike(found, due) -/
def f1002 : LF := { np := 2, n := 3, keep := false, body :=
   (.cons (.ite (.val (.isi (.var 1) [.tuple, .list]))
   (.cons (.ite (.or (.not (.val (.isi (.var 0) [.tuple, .list]))) (.cmp .ne (.isi (.var 0) [.list]) (.isi (.var 1) [.list])))
   (.cons (.ret (.bl false))
   .nil)
   .nil)
   (.cons (.ite (.cmp .ne (.bi .len (.cons (.var 0) .nil)) (.bi .len (.cons (.var 1) .nil)))
   (.cons (.ret (.bl false))
   .nil)
   .nil)
   (.cons (.ret (.cmp .eq (.comp false (.var 2) (.name 2) (.range1 (.bi .len (.cons (.var 1) .nil))) (.yes (.not (.val (.call 1002 (.cons (.idx (.var 0) (.var 2)) (.cons (.idx (.var 1) (.var 2)) .nil))))))) (.lst false .nil)))
   .nil)))
   .nil)
   (.cons (.ite (.or (.cmp .isn (.var 1) .non) (.val (.isi (.var 1) [.str])))
   (.cons (.ret (.and (.cmp .eq (.var 0) (.var 1)) (.cmp .eq (.isi (.var 0) [.str]) (.isi (.var 1) [.str]))))
   .nil)
   .nil)
   (.cons (.ret (.and (.isi (.var 0) [.int]) (.and (.cmp .eq (.isi (.var 0) [.bool]) (.isi (.var 1) [.bool])) (.cmp .eq (.var 0) (.var 1)))))
   .nil))) }
/-- _law_span(row, top, longest) -/
def f1003 : LF := { np := 3, n := 4, keep := false, body :=
   (.cons (.set 3 (.call 1000 (.cons (.var 0) (.cons (.var 1) .nil))))
   (.cons (.ret (.tup (.cons (.var 3) (.cons (.bi .min (.cons (.var 1) (.cons (.bin .add (.bin .add (.var 3) (.int 1)) (.call 1000 (.cons (.var 0) (.cons (.var 2) .nil)))) .nil))) .nil))))
   .nil)) }
/-- _law_spans(row, many, top, longest) -/
def f1004 : LF := { np := 4, n := 6, keep := false, body :=
   (.cons (.set 4 (.lst true .nil))
   (.cons (.for_ (.name 5) (.range1 (.var 1))
   (.cons (.app (.var 4) (.call 1003 (.cons (.var 0) (.cons (.var 2) (.cons (.var 3) .nil)))))
   .nil))
   (.cons (.ret (.var 4))
   .nil))) }
/-- _law_load(spans, night) -/
def f1005 : LF := { np := 2, n := 3, keep := false, body :=
   (.cons (.ret (.bi .len (.cons (.comp false (.int 1) (.name 2) (.seq (.var 0)) (.yes (.chain .le .lt (.idx (.var 2) (.int 0)) (.var 1) (.idx (.var 2) (.int 1))))) .nil)))
   .nil) }
/-- _law_mixed(row, value) -/
def f1006 : LF := { np := 2, n := 2, keep := false, body :=
   (.cons (.ite (.cmp .eq (.call 1000 (.cons (.var 0) (.cons (.int 2) .nil))) (.int 0))
   (.cons (.ret (.bi .list (.cons (.var 1) .nil)))
   .nil)
   .nil)
   (.cons (.ret (.bi .tuple (.cons (.var 1) .nil)))
   .nil)) }
/-- _law_handed(row, spans) -/
def f1007 : LF := { np := 2, n := 3, keep := false, body :=
   (.cons (.ret (.call 1006 (.cons (.var 0) (.cons (.comp false (.call 1006 (.cons (.var 0) (.cons (.var 2) .nil))) (.name 2) (.seq (.var 1)) .no) .nil))))
   .nil) }
/-- law(script) -/
def f1008 : LF := { np := 1, n := 17, keep := false, body :=
   (.cons (.set 1 (.lst true (.cons (.var 0) (.cons (.int 0) (.cons (.int 31) (.cons (.int 0) .nil))))))
   (.cons (.set 2 (.bin .add (.int 1) (.call 1000 (.cons (.var 1) (.cons (.int 60) .nil)))))
   (.cons (.set 3 (.call 1004 (.cons (.var 1) (.cons (.call 1000 (.cons (.var 1) (.cons (.int 31) .nil))) (.cons (.var 2) (.cons (.bin .add (.int 1) (.call 1000 (.cons (.var 1) (.cons (.int 20) .nil)))) .nil))))))
   (.cons (.set 4 (.call 1007 (.cons (.var 1) (.cons (.var 3) .nil))))
   (.cons (.set 5 (.comp false (.call 1005 (.cons (.var 3) (.cons (.var 6) .nil))) (.name 6) (.range1 (.bin .add (.var 2) (.int 1))) .no))
   (.cons (.ite (.cmp .ne (.comp false (.var 6) (.name 6) (.range1 (.bin .add (.var 2) (.int 1))) (.yes (.not (.val (.call 1002 (.cons (.call 3 (.cons (.var 4) (.cons (.var 6) .nil))) (.cons (.idx (.var 5) (.var 6)) .nil))))))) (.lst false .nil))
   (.cons (.ret (.bl false))
   .nil)
   .nil)
   (.cons (.set 7 (.bin .add (.lst false (.cons (.int 0) .nil)) (.var 5)))
   (.cons (.set 8 (.comp false (.tup (.cons (.var 6) (.cons (.idx (.var 5) (.var 6)) .nil))) (.name 6) (.range1 (.bin .add (.var 2) (.int 1))) (.yes (.cmp .ne (.idx (.var 5) (.var 6)) (.idx (.var 7) (.var 6))))))
   (.cons (.ite (.not (.val (.call 1002 (.cons (.call 4 (.cons (.var 4) .nil)) (.cons (.bi .tuple (.cons (.var 8) .nil)) .nil)))))
   (.cons (.ret (.bl false))
   .nil)
   .nil)
   (.cons (.set 9 (.bi .max (.cons (.var 5) .nil)))
   (.cons (.set 10 (.tup (.cons (.int 0) (.cons .non .nil))))
   (.cons (.ite (.cmp .gt (.var 9) (.int 0))
   (.cons (.set 10 (.tup (.cons (.var 9) (.cons (.index (.var 5) (.var 9)) .nil))))
   .nil)
   .nil)
   (.cons (.ite (.not (.val (.call 1002 (.cons (.call 5 (.cons (.var 4) .nil)) (.cons (.var 10) .nil)))))
   (.cons (.ret (.bl false))
   .nil)
   .nil)
   (.cons (.set 11 (.call 1001 (.cons (.var 1) (.cons (.lst false (.cons (.int 0) (.cons (.bi .max (.cons (.int 0) (.cons (.bin .sub (.var 9) (.int 1)) .nil))) (.cons (.var 9) (.cons (.bin .add (.var 9) (.int 1)) (.cons (.call 1000 (.cons (.var 1) (.cons (.int 31) .nil))) .nil)))))) .nil))))
   (.cons (.set 12 (.comp false (.var 6) (.name 6) (.range1 (.bin .add (.var 2) (.int 1))) (.yes (.cmp .gt (.idx (.var 5) (.var 6)) (.var 11)))))
   (.cons (.ite (.not (.val (.call 1002 (.cons (.call 6 (.cons (.var 4) (.cons (.var 11) .nil))) (.cons (.idx (.bin .add (.var 12) (.lst false (.cons .non .nil))) (.int 0)) .nil)))))
   (.cons (.ret (.bl false))
   .nil)
   .nil)
   (.cons (.set 13 (.comp false (.var 6) (.name 6) (.seq (.var 12)) (.yes (.cmp .nin (.bin .sub (.var 6) (.int 1)) (.var 12)))))
   (.cons (.set 14 (.comp false (.var 6) (.name 6) (.seq (.var 12)) (.yes (.cmp .nin (.bin .add (.var 6) (.int 1)) (.var 12)))))
   (.cons (.ite (.not (.val (.call 1002 (.cons (.call 7 (.cons (.var 4) (.cons (.var 11) .nil))) (.cons (.bi .tuple (.cons (.comp false (.tup (.cons (.idx (.var 13) (.var 15)) (.cons (.bin .add (.idx (.var 14) (.var 15)) (.int 1)) .nil))) (.name 15) (.range1 (.bi .len (.cons (.var 13) .nil))) .no) .nil)) .nil)))))
   (.cons (.ret (.bl false))
   .nil)
   .nil)
   (.cons (.ite (.not (.val (.call 1002 (.cons (.call 8 (.cons (.var 4) .nil)) (.cons (.bi .sum (.cons (.var 5) .nil)) .nil)))))
   (.cons (.ret (.bl false))
   .nil)
   .nil)
   (.cons (.set 16 (.call 1003 (.cons (.var 1) (.cons (.var 2) (.cons (.var 2) .nil)))))
   (.cons (.ret (.call 1002 (.cons (.call 9 (.cons (.var 4) (.cons (.idx (.var 16) (.int 0)) (.cons (.idx (.var 16) (.int 1)) .nil)))) (.cons (.bi .tuple (.cons (.sli (.var 5) (.yes (.idx (.var 16) (.int 0))) (.yes (.idx (.var 16) (.int 1)))) .nil)) .nil))))
   .nil)))))))))))))))))))))) }
/-- the defs by their numbers -/
def PG : Nat → Option LF := fun f => lookF f [(0, f0), (1, f1), (2, f2), (3, f3), (4, f4), (5, f5), (6, f6), (7, f7), (8, f8), (9, f9), (1000, f1000), (1001, f1001), (1002, f1002), (1003, f1003), (1004, f1004), (1005, f1005), (1006, f1006), (1007, f1007), (1008, f1008)]
theorem pg0 : PG 0 = some f0 := rfl
theorem pg1 : PG 1 = some f1 := rfl
theorem pg2 : PG 2 = some f2 := rfl
theorem pg3 : PG 3 = some f3 := rfl
theorem pg4 : PG 4 = some f4 := rfl
theorem pg5 : PG 5 = some f5 := rfl
theorem pg6 : PG 6 = some f6 := rfl
theorem pg7 : PG 7 = some f7 := rfl
theorem pg8 : PG 8 = some f8 := rfl
theorem pg9 : PG 9 = some f9 := rfl
theorem pg1000 : PG 1000 = some f1000 := rfl
theorem pg1001 : PG 1001 = some f1001 := rfl
theorem pg1002 : PG 1002 = some f1002 := rfl
theorem pg1003 : PG 1003 = some f1003 := rfl
theorem pg1004 : PG 1004 = some f1004 := rfl
theorem pg1005 : PG 1005 = some f1005 := rfl
theorem pg1006 : PG 1006 = some f1006 := rfl
theorem pg1007 : PG 1007 = some f1007 := rfl
theorem pg1008 : PG 1008 = some f1008 := rfl
def cnG : Nat → Option PySem.Str := fun _ => none
def conG : Nat → D := fun _ => .non
def fuelG : Nat := 1000000000
noncomputable abbrev call : Nat → Nat → List D → G → R D := callF PG conG fuelG
end KT

namespace KT
open KN
structure Row where
  scr : List Int
  pos : Int
  seed : Int
  rest : Int
def rowO (r : Row) : O := .lst [.scr r.scr, .int r.pos, .int r.seed, .int r.rest]
def taken (r : Row) (m : Int) : Int × Row :=
  if 0 < r.rest then (r.rest.fmod m, { r with rest := r.rest.fdiv m })
  else if r.scr.length < r.pos + 1 then ((((r.seed * 48271 + 11).fmod 2147483647).fdiv 7).fmod m, { r with pos := r.pos + 1, seed := (r.seed * 48271 + 11).fmod 2147483647 })
  else
    let c := r.scr.getD r.pos.toNat 0
    (c.fmod m, { r with pos := r.pos + 1, seed := (r.seed * 48271 + c + 11).fmod 2147483647, rest := if 1000000000000000000 ≤ c then c.fdiv m else r.rest })
section
variable (r : Row) (L : G) (v : Int)
@[simp] theorem row_x0 : idxD (rowO r :: L) (.ref 0) (.int 0) = some (.scr r.scr) := rfl
@[simp] theorem row_x1 : idxD (rowO r :: L) (.ref 0) (.int 1) = some (.int r.pos) := rfl
@[simp] theorem row_x2 : idxD (rowO r :: L) (.ref 0) (.int 2) = some (.int r.seed) := rfl
@[simp] theorem row_x3 : idxD (rowO r :: L) (.ref 0) (.int 3) = some (.int r.rest) := rfl
@[simp] theorem row_p1 : putP (.ref 0) (.int 1) (.int v) (rowO r :: L) = some (rowO { r with pos := v } :: L) := rfl
@[simp] theorem row_p2 : putP (.ref 0) (.int 2) (.int v) (rowO r :: L) = some (rowO { r with seed := v } :: L) := rfl
@[simp] theorem row_p3 : putP (.ref 0) (.int 3) (.int v) (rowO r :: L) = some (rowO { r with rest := v } :: L) := rfl
@[simp] theorem low_row (n : Nat) : lowO n (rowO r) = true := rfl
end
theorem exit_row (r r' : Row) (L : G) (d : D) : exitD false (rowO r :: L) d (rowO r' :: L) = .ok d (rowO r' :: L) := exitD_len _ _ _ rfl
theorem small_c : small 48271 := by unfold small; decide
theorem taken_ok (k : Nat) (r : Row) (m : Int) (L : G) (hp : 0 ≤ r.pos) (hm : 0 < m) (hm2 : m < 1073741824) : call (k + 1) 1000 [.ref 0, .int m] (rowO r :: L) = .ok (.int (taken r m).1) (rowO (taken r m).2 :: L) := by
  have n0 : m ≠ 0 := by omega
  have n1 : m.natAbs < 1073741824 := by omega
  unfold call callF
  rw [show PG 1000 = some f1000 from rfl]
  unfold taken
  by_cases h1 : 0 < r.rest
  · simp [f1000, h1, b_mod _ _ _ n0, b_fdiv _ _ _ ⟨n0, n1⟩, exit_row]
  · by_cases h2 : r.scr.length < r.pos + 1
    · simp [f1000, h1, h2, b_mod _ _ _ n0, b_fdiv _ _ _ ⟨n0, n1⟩, exit_row, b_mul _ _ _ (.inr small_c), b_mod _ _ 2147483647 (by decide), b_fdiv _ _ 7 (by decide)]
    · have h3 : r.pos < r.scr.length := by omega
      by_cases h4 : 1000000000000000000 ≤ r.scr.getD r.pos.toNat 0
      all_goals
        have e18 : ∀ g, binD .pow g (.int 10) (.int 18) = some (.int 1000000000000000000) := fun g => by rw [b_pow g _ _ ⟨by decide, by decide, small_of _ (by decide)⟩]; rfl
        have h5 : r.pos + 1 - 1 = r.pos := by omega
        simp [-List.getD_eq_getElem?_getD, f1000, h1, h2, h4, h5, e18, b_mod _ _ _ n0, b_fdiv _ _ _ ⟨n0, n1⟩, exit_row, b_mul _ _ _ (.inr small_c), b_mod _ _ 2147483647 (by decide), x_scr _ _ _ hp h3]
end KT

namespace KT
open KN
/-! ### values that are told alike -/
mutual
noncomputable def pln : Nat → D → Bool
  | _, .non => true
  | _, .bl _ => true
  | _, .int _ => true
  | n + 1, .tup xs => decide (xs.length ≤ LIM) && plns n xs
  | n + 1, .lst xs => decide (xs.length ≤ LIM) && plns n xs
  | _, _ => false
noncomputable def plns : Nat → List D → Bool
  | _, [] => true
  | n, x :: xs => pln n x && plns n xs
end
theorem plns_get {n : Nat} : ∀ {xs : List D} {i : Nat} {d : D}, plns n xs = true → xs[i]? = some d → pln n d = true
  | [], i, d, _, h => by simp at h
  | x :: xs, 0, d, h, e => by
    simp only [plns, Bool.and_eq_true] at h
    cases e; exact h.1
  | x :: xs, i + 1, d, h, e => by
    simp only [plns, Bool.and_eq_true] at h
    exact plns_get h.2 (by simpa using e)
@[simp] theorem is_tupT (g : G) (xs : List D) : isTys g (.tup xs) [.tuple, .list] = some true := rfl
@[simp] theorem is_tupL (g : G) (xs : List D) : isTys g (.lst xs) [.tuple, .list] = some true := rfl
@[simp] theorem is_tupI (g : G) (i : Int) : isTys g (.int i) [.tuple, .list] = some false := rfl
@[simp] theorem is_tupB (g : G) (i : Bool) : isTys g (.bl i) [.tuple, .list] = some false := rfl
@[simp] theorem is_tupN (g : G) : isTys g .non [.tuple, .list] = some false := rfl
@[simp] theorem is_lstT (g : G) (xs : List D) : isTys g (.tup xs) [.list] = some false := rfl
@[simp] theorem is_lstL (g : G) (xs : List D) : isTys g (.lst xs) [.list] = some true := rfl
@[simp] theorem is_strI (g : G) (i : Int) : isTys g (.int i) [.str] = some false := rfl
@[simp] theorem is_strB (g : G) (i : Bool) : isTys g (.bl i) [.str] = some false := rfl
@[simp] theorem is_strN (g : G) : isTys g .non [.str] = some false := rfl
@[simp] theorem is_intI (g : G) (i : Int) : isTys g (.int i) [.int] = some true := rfl
@[simp] theorem is_intB (g : G) (i : Bool) : isTys g (.bl i) [.int] = some true := rfl
@[simp] theorem is_blI (g : G) (i : Int) : isTys g (.int i) [.bool] = some false := rfl
@[simp] theorem is_blB (g : G) (i : Bool) : isTys g (.bl i) [.bool] = some true := rfl
@[simp] theorem eq_nil (g : G) : cmpD .eq g (.lst []) (.lst []) = some true := rfl
@[simp] theorem eq_non (g : G) : cmpD .eq g .non .non = some true := rfl
theorem alike_ok : ∀ (n : Nat) (d : D) (k : Nat) (g : G), pln n d = true → call (k + n + 1) 1002 [d, d] g = .ok (.bl true) g := by
  intro n
  induction n with
  | zero =>
    intro d k g h
    unfold call callF
    rw [show PG 1002 = some f1002 from rfl]
    cases d <;> simp [pln] at h <;> simp [f1002]
  | succ n ih =>
    intro d k g h
    unfold call callF
    rw [show PG 1002 = some f1002 from rfl]
    have seq : ∀ (mk : List D → D) (xs : List D), (∀ g i d, xs[i]? = some d → idxD g (mk xs) (.int (i : Nat)) = some d) → plns n xs = true →
        ∀ s, s = [some (mk xs), some (mk xs), none] → compL (.name 2) none (evCs ⟨callF PG conG fuelG (k + (n + 1)), conG, fuelG⟩ (.yes (.not (.val (.call 1002 (.cons (.idx (.var 0) (.var 2)) (.cons (.idx (.var 1) (.var 2)) .nil))))))) (evE ⟨callF PG conG fuelG (k + (n + 1)), conG, fuelG⟩ (.var 2)) ((List.range xs.length).map fun k => D.int (k : Nat)) s g = .ok [] g := by
      intro mk xs hx hp s hs
      subst hs
      rw [comp_pure (lk := none) (fun k => D.int (k : Nat)) (fun _ => false) (fun k => D.int (k : Nat)) _ trivial]
      · simp
      · intro i hi
        have hi' : i < xs.length := List.mem_range.mp hi
        have e1 := List.getElem?_eq_getElem hi'
        have e2 := hx g i _ e1
        have e3 := ih xs[i] k g (plns_get hp e1)
        unfold call at e3
        rw [show k + n + 1 = k + (n + 1) by omega] at e3
        refine ⟨_, rfl, ?_, fun h => by simp at h⟩
        simp [e2, e3]
    cases d with
    | non => simp [f1002]
    | bl b => simp [f1002]
    | int b => simp [f1002]
    | tup xs =>
      simp only [pln, Bool.and_eq_true, decide_eq_true_eq] at h
      have := seq .tup xs (fun g i d e => x_tup g xs e) h.2
      have hr : evI ⟨callF PG conG fuelG (k + (n + 1)), conG, fuelG⟩ (.range1 (.bi .len (.cons (.var 1) .nil))) [some (D.tup xs), some (D.tup xs), none] g = .ok ((List.range xs.length).map fun k => D.int (k : Nat), none) g := evI_rN (by simp) h.1
      simp [f1002, hr, this _ rfl, mkC, mkL]
    | lst xs =>
      simp only [pln, Bool.and_eq_true, decide_eq_true_eq] at h
      have := seq .lst xs (fun g i d e => x_lst g xs e) h.2
      have hr : evI ⟨callF PG conG fuelG (k + (n + 1)), conG, fuelG⟩ (.range1 (.bi .len (.cons (.var 1) .nil))) [some (D.lst xs), some (D.lst xs), none] g = .ok ((List.range xs.length).map fun k => D.int (k : Nat), none) g := evI_rN (by simp) h.1
      simp [f1002, hr, this _ rfl, mkC, mkL]
    | _ => simp [pln] at h
end KT

namespace KT
open KN
/-! ### spans and loads, as they run -/
abbrev Sp := Bool × Int × Int
def sp (m : Sp) : D := if m.1 then .lst [.int m.2.1, .int m.2.2] else .tup [.int m.2.1, .int m.2.2]
def hd (b : Bool) (ms : List Sp) : D := if b then .lst (ms.map sp) else .tup (ms.map sp)
def hasn (n : Int) (m : Sp) : Bool := decide (m.2.1 ≤ n) && decide (n < m.2.2)
def ld (ms : List Sp) (n : Int) : Int := ((ms.filter (hasn n)).length : Nat)
section
variable (g : G) (m : Sp) (b : Bool) (ms : List Sp) (k : Nat)
@[simp] theorem sp0 : idxD g (sp m) (.int 0) = some (.int m.2.1) := by unfold sp; split <;> simp
@[simp] theorem sp1 : idxD g (sp m) (.int 1) = some (.int m.2.2) := by unfold sp; split <;> simp
@[simp] theorem sp_set (i j : Nat) (s : St) : setT (.tup [i, j]) (sp m) s = setA [i, j] [.int m.2.1, .int m.2.2] s := by unfold sp; split <;> simp
@[simp] theorem seq_hd : seqI (hd b ms) g = .ok (ms.map sp, none) g := by
  unfold hd; split <;> rfl
theorem span_length_ok : call (k + 1) 0 [sp m] g = .ok (.int (m.2.2 - m.2.1)) g := by
  unfold call callF
  rw [show PG 0 = some f0 from rfl]
  simp [f0]
theorem has_ok (n : Int) : call (k + 1) 1 [sp m, .int n] g = .ok (.bl (hasn n m)) g := by
  unfold call callF
  rw [show PG 1 = some f1 from rfl]
  by_cases h : m.2.1 ≤ n <;> simp [f1, hasn, h]
theorem load_ok (n : Int) : call (k + 2) 3 [hd b ms, .int n] g = .ok (.int (ld ms n)) g := by
  unfold call callF
  rw [show PG 3 = some f3 from rfl]
  simp [f3]
  rw [comp_pure (lk := none) sp (hasn n) sp ms trivial]
  · simp [mkC, ld]
  · intro y hy
    have := has_ok g y k n
    unfold call at this
    exact ⟨_, rfl, by simp [this], fun _ => by simp⟩
def addK (K : List Int) (i : Int) : List Int := if i ∈ K then K else K ++ [i]
def dkI (K : List Int) : List (Ky × D) := K.map fun i => (.inl i, .bl true)
theorem putK_dkI (K : List Int) (i : Int) : putK (dkI K) (.inl i) (.bl true) = dkI (addK K i) := by
  have e : ((dkI K).any fun kv => decide (kv.1 = (Sum.inl i : Ky))) = decide (i ∈ K) := by
    unfold dkI
    rw [List.any_map]
    induction K with
    | nil => rfl
    | cons a K ih => simp only [List.any_cons, ih]; simp [eq_comm (a := a)]
  unfold putK addK
  rw [e]
  by_cases h : i ∈ K
  · simp only [h, decide_true, if_true]
    unfold dkI
    rw [List.map_map]
    apply List.map_congr_left
    intro a _
    simp only [Function.comp]
    split <;> rfl
  · simp [h, dkI]
theorem addK_len (K : List Int) (i : Int) : (addK K i).length ≤ K.length + 1 := by unfold addK; split <;> simp
def ends : List Sp → List Int → List Int
  | [], K => K
  | m :: r, K => ends r (addK (addK K m.2.1) m.2.2)
theorem turning_ok (h : ms.length ≤ 1000) : call (k + 1) 2 [hd b ms] g = .ok (.tup ((sortI (ends ms [])).map .int)) g := by
  unfold call callF
  rw [show PG 2 = some f2 from rfl]
  generalize hms : hd b ms = dms
  have loop : ∀ (ms : List Sp) (K : List Int) (x y : Option D), K.length + 2 * ms.length ≤ 4000 → ∃ x' y', forL (.tup [2, 3]) none (evSs ⟨callF PG conG fuelG k, conG, fuelG⟩ (.cons (.seti (.var 1) (.var 2) (.bl true)) (.cons (.seti (.var 1) (.var 3) (.bl true)) .nil))) (ms.map sp) [some dms, some (.ref g.length), x, y] (g ++ [.dk (dkI K)]) = .nx [some dms, some (.ref g.length), x', y'] (g ++ [.dk (dkI (ends ms K))]) := by
    intro ms
    induction ms with
    | nil => intro K x y _; exact ⟨x, y, by simp [ends]⟩
    | cons m ms ih =>
      intro K x y hK
      have l1 := addK_len K m.2.1
      have l2 := addK_len (addK K m.2.1) m.2.2
      have hl := lim_is
      simp only [List.length_cons] at hK
      obtain ⟨x', y', e⟩ := ih (addK (addK K m.2.1) m.2.2) (some (.int m.2.1)) (some (.int m.2.2)) (by omega)
      refine ⟨x', y', ?_⟩
      rw [List.map_cons]
      refine (forL_nx (s1 := [some dms, some (.ref g.length), some (.int m.2.1), some (.int m.2.2)]) (by simp) ?_).trans e
      have p1 := put_last g (dkI K) m.2.1 (.bl true) (by simp [dkI]; omega)
      have p2 := put_last g (dkI (addK K m.2.1)) m.2.2 (.bl true) (by simp [dkI]; omega)
      rw [putK_dkI] at p1 p2
      simp [p1, p2]
  obtain ⟨x', y', e⟩ := loop ms [] none none (by simp; omega)
  subst hms
  rw [show dkI [] = [] from rfl] at e
  simp [f2, e]
  have e2 : biD .list (g ++ [.dk (dkI (ends ms []))]) [.ref g.length] = some (.lst ((ends ms []).map .int)) := by
    have := dkOf_last g (dkI (ends ms []))
    rw [i_listD _ _ _ this]
    simp [dkI, kyD]
  simp [e2, i_sorted]
  exact exitD_pur _ _ _ (by simp [pur])
end
end KT

namespace KT
open KN
def stD (p : Int × Int) : D := .tup [.int p.1, .int p.2]
theorem pur_stD (n : Nat) (p : Int × Int) : pur (n + 2) (stD p) = true := by simp [stD, pur, purs]
theorem purs_stD (n : Nat) (l : List (Int × Int)) : purs (n + 2) (l.map stD) = true := purs_all fun x hx => by
  obtain ⟨p, _, rfl⟩ := List.mem_map.mp hx
  exact pur_stD n p
@[simp] theorem st_set (i j : Nat) (s : St) (p : Int × Int) : setT (.tup [i, j]) (stD p) s = setA [i, j] [.int p.1, .int p.2] s := rfl
def stepsF (ms : List Sp) : List Int → Int → List (Int × Int)
  | [], _ => []
  | n :: r, last => if ld ms n ≠ last then (n, ld ms n) :: stepsF ms r (ld ms n) else stepsF ms r last
theorem stepsF_len (ms : List Sp) : ∀ (T : List Int) (last : Int), (stepsF ms T last).length ≤ T.length
  | [], _ => Nat.le_refl _
  | n :: r, last => by
    unfold stepsF
    have := stepsF_len ms r
    split
    · have := this (ld ms n); simp; omega
    · have := this last; simp; omega
section
variable (g : G) (m : Sp) (b : Bool) (ms : List Sp) (k : Nat)
theorem ends_len : ∀ (ms : List Sp) (K : List Int), (ends ms K).length ≤ K.length + 2 * ms.length
  | [], K => by simp [ends]
  | m :: r, K => by
    unfold ends
    have := ends_len r (addK (addK K m.2.1) m.2.2)
    have l1 := addK_len K m.2.1
    have l2 := addK_len (addK K m.2.1) m.2.2
    simp; omega
def turns : List Int := sortI (ends ms [])
def steps : List (Int × Int) := stepsF ms (turns ms) 0
theorem turns_len (h : ms.length ≤ 1000) : (turns ms).length ≤ 2000 := by
  unfold turns sortI
  rw [List.length_mergeSort]
  have := ends_len ms []
  simp at this; omega
theorem steps_len (h : ms.length ≤ 1000) : (steps ms).length ≤ 2000 := Nat.le_trans (stepsF_len _ _ _) (turns_len ms h)
theorem load_steps_ok (h : ms.length ≤ 1000) : call (k + 3) 4 [hd b ms] g = .ok (.tup ((steps ms).map stD)) g := by
  unfold call callF
  rw [show PG 4 = some f4 from rfl]
  have loop : ∀ (T : List Int) (acc : List (Int × Int)) (last : Int) (x y : Option D), acc.length + T.length ≤ 4000 → ∃ l' x' y', forL (.name 3) none (evSs ⟨callF PG conG fuelG (k + 2), conG, fuelG⟩ (.cons (.set 4 (.call 3 (.cons (.var 0) (.cons (.var 3) .nil)))) (.cons (.ite (.cmp .ne (.var 4) (.var 2)) (.cons (.app (.var 1) (.tup (.cons (.var 3) (.cons (.var 4) .nil)))) (.cons (.set 2 (.var 4)) .nil)) .nil) .nil))) (T.map .int) [some (hd b ms), some (.ref g.length), some (.int last), x, y] (g ++ [.lst (acc.map stD)]) = .nx [some (hd b ms), some (.ref g.length), l', x', y'] (g ++ [.lst ((acc ++ stepsF ms T last).map stD)]) := by
    intro T
    induction T with
    | nil => intro acc last x y _; exact ⟨some (.int last), x, y, by simp [stepsF]⟩
    | cons n T ih =>
      intro acc last x y hl
      simp only [List.length_cons] at hl
      have e1 := load_ok (g ++ [.lst (acc.map stD)]) b ms k n
      unfold call at e1
      by_cases hn : ld ms n = last
      · obtain ⟨l', x', y', e⟩ := ih acc last (some (.int n)) (some (.int (ld ms n))) (by omega)
        refine ⟨l', x', y', ?_⟩
        have : stepsF ms (n :: T) last = stepsF ms T last := by simp [stepsF, hn]
        rw [this, List.map_cons]
        refine (forL_nx (s1 := [some (hd b ms), some (.ref g.length), some (.int last), some (.int n), y]) (by simp) ?_).trans e
        simp [e1, hn]
      · obtain ⟨l', x', y', e⟩ := ih (acc ++ [(n, ld ms n)]) (ld ms n) (some (.int n)) (some (.int (ld ms n))) (by simp; omega)
        refine ⟨l', x', y', ?_⟩
        have : acc ++ stepsF ms (n :: T) last = (acc ++ [(n, ld ms n)]) ++ stepsF ms T (ld ms n) := by simp [stepsF, hn]
        rw [this, List.map_cons]
        refine (forL_nx (s1 := [some (hd b ms), some (.ref g.length), some (.int last), some (.int n), y]) (by simp) ?_).trans e
        simp [e1, hn, lim_lt (show acc.length ≤ 1000000 by omega), stD]
  have ht := turns_len ms h
  obtain ⟨l', x', y', e⟩ := loop (turns ms) [] 0 none none (by simp; omega)
  have e2 := turning_ok (g ++ [.lst []]) b ms (k + 1) h
  unfold call at e2
  simp only [List.map_nil, List.nil_append] at e
  simp only [turns] at e
  simp [f4, mkL, e2, e]
  have e3 : biD .tuple (g ++ [.lst ((stepsF ms (sortI (ends ms [])) 0).map stD)]) [.ref g.length] = some (.tup ((steps ms).map stD)) := by
    rw [i_tupV _ _ _ (view_last _ _)]; rfl
  simp [e3]
  exact exitD_pur _ _ _ (by simp only [pur, purs_stD])
def nD : Option Int → D
  | none => .non
  | some i => .int i
def peakF : List (Int × Int) → Int × Option Int → Int × Option Int
  | [], b => b
  | p :: r, b => peakF r (if p.2 > b.1 then (p.2, some p.1) else b)
def bestD (p : Int × Option Int) : D := .tup [.int p.1, nD p.2]
theorem peak_ok (h : ms.length ≤ 1000) : call (k + 4) 5 [hd b ms] g = .ok (bestD (peakF (steps ms) (0, none))) g := by
  unfold call callF
  rw [show PG 5 = some f5 from rfl]
  have loop : ∀ (T : List (Int × Int)) (p : Int × Option Int) (x y : Option D), ∃ x' y', forL (.tup [2, 3]) none (evSs ⟨callF PG conG fuelG (k + 3), conG, fuelG⟩ (.cons (.ite (.cmp .gt (.var 3) (.idx (.var 1) (.int 0))) (.cons (.set 1 (.tup (.cons (.var 3) (.cons (.var 2) .nil)))) .nil) .nil) .nil)) (T.map stD) [some (hd b ms), some (bestD p), x, y] g = .nx [some (hd b ms), some (bestD (peakF T p)), x', y'] g := by
    intro T
    induction T with
    | nil => intro p x y; exact ⟨x, y, by simp [peakF]⟩
    | cons q T ih =>
      intro p x y
      obtain ⟨x', y', e⟩ := ih (if q.2 > p.1 then (q.2, some q.1) else p) (some (.int q.1)) (some (.int q.2))
      refine ⟨x', y', ?_⟩
      rw [List.map_cons]
      refine (forL_nx (s1 := [some (hd b ms), some (bestD p), some (.int q.1), some (.int q.2)]) (by simp) ?_).trans e
      by_cases hq : p.1 < q.2 <;> simp [hq, bestD, nD]
  obtain ⟨x', y', e⟩ := loop (steps ms) (0, none) none none
  have e2 := load_steps_ok g b ms k h
  unfold call at e2
  simp only [bestD, nD] at e
  simp [f5, e2, e]
  rfl
def firstF (rooms : Int) : List (Int × Int) → Option Int
  | [] => none
  | p :: r => if p.2 > rooms then some p.1 else firstF rooms r
theorem first_over_ok (rooms : Int) (h : ms.length ≤ 1000) : call (k + 4) 6 [hd b ms, .int rooms] g = .ok (nD (firstF rooms (steps ms))) g := by
  unfold call callF
  rw [show PG 6 = some f6 from rfl]
  have loop : ∀ (T : List (Int × Int)) (x y : Option D), ∃ x' y', forL (.tup [2, 3]) none (evSs ⟨callF PG conG fuelG (k + 3), conG, fuelG⟩ (.cons (.ite (.cmp .gt (.var 3) (.var 1)) (.cons (.ret (.var 2)) .nil) .nil) .nil)) (T.map stD) [some (hd b ms), some (.int rooms), x, y] g = (match firstF rooms T with | none => .nx [some (hd b ms), some (.int rooms), x', y'] g | some n => .rt (.int n) g) := by
    intro T
    induction T with
    | nil => intro x y; exact ⟨x, y, by simp [firstF]⟩
    | cons q T ih =>
      intro x y
      obtain ⟨x', y', e⟩ := ih (some (.int q.1)) (some (.int q.2))
      refine ⟨x', y', ?_⟩
      rw [List.map_cons]
      by_cases hq : rooms < q.2
      · rw [forL_rt (s1 := [some (hd b ms), some (.int rooms), some (.int q.1), some (.int q.2)]) (g2 := g) (v := .int q.1) (by simp) (by simp [hq])]
        simp [firstF, hq]
      · have : firstF rooms (q :: T) = firstF rooms T := by simp [firstF, hq]
        rw [this]
        refine (forL_nx (s1 := [some (hd b ms), some (.int rooms), some (.int q.1), some (.int q.2)]) (by simp) ?_).trans e
        simp [hq]
  obtain ⟨x', y', e⟩ := loop (steps ms) none none
  have e2 := load_steps_ok g b ms k h
  unfold call at e2
  simp [f6, e2, e]
  cases firstF rooms (steps ms) <;> simp [nD]
end
end KT

namespace KT
open KN
def overF (rooms : Int) : List (Int × Int) → List (Int × Int) × Option Int → List (Int × Int) × Option Int
  | [], s => s
  | p :: r, s =>
    let b1 := if p.2 > rooms ∧ s.2 = none then some p.1 else s.2
    overF rooms r (match b1 with
      | some q => if p.2 ≤ rooms then (s.1 ++ [(q, p.1)], none) else (s.1, some q)
      | none => (s.1, none))
section
variable (g : G) (m : Sp) (b : Bool) (ms : List Sp) (k : Nat)
@[simp] theorem nD_none : nD none = .non := rfl
@[simp] theorem nD_some (i : Int) : nD (some i) = .int i := rfl
@[simp] theorem isNon_nD (o : Option Int) : isNon (nD o) = o.isNone := by cases o <;> rfl
theorem over_spans_ok (rooms : Int) (h : ms.length ≤ 1000) : call (k + 4) 7 [hd b ms, .int rooms] g = .ok (.tup ((overF rooms (steps ms) ([], none)).1.map stD)) g := by
  unfold call callF
  rw [show PG 7 = some f7 from rfl]
  have loop : ∀ (T : List (Int × Int)) (acc : List (Int × Int)) (o : Option Int) (x y : Option D), acc.length + T.length ≤ 4000 → ∃ s' x' y', forL (.tup [4, 5]) none (evSs ⟨callF PG conG fuelG (k + 3), conG, fuelG⟩ (.cons (.ite (.and (.cmp .gt (.var 5) (.var 1)) (.cmp .isn (.var 3) .non))
   (.cons (.set 3 (.var 4))
   .nil)
   .nil)
   (.cons (.ite (.and (.cmp .le (.var 5) (.var 1)) (.cmp .isnn (.var 3) .non))
   (.cons (.app (.var 2) (.tup (.cons (.var 3) (.cons (.var 4) .nil))))
   (.cons (.set 3 .non)
   .nil))
   .nil)
   .nil))) (T.map stD) [some (hd b ms), some (.int rooms), some (.ref g.length), some (nD o), x, y] (g ++ [.lst (acc.map stD)]) = .nx [some (hd b ms), some (.int rooms), some (.ref g.length), s', x', y'] (g ++ [.lst ((overF rooms T (acc, o)).1.map stD)]) := by
    intro T
    induction T with
    | nil => intro acc o x y _; exact ⟨some (nD o), x, y, by simp [overF]⟩
    | cons q T ih =>
      intro acc o x y hl
      simp only [List.length_cons] at hl
      have hl2 : acc.length < LIM := lim_lt (by omega)
      by_cases hq : rooms < q.2
      · have hq2 : ¬ q.2 ≤ rooms := by omega
        cases o with
        | none =>
          obtain ⟨s', x', y', e⟩ := ih acc (some q.1) (some (.int q.1)) (some (.int q.2)) (by omega)
          refine ⟨s', x', y', ?_⟩
          have : overF rooms (q :: T) (acc, none) = overF rooms T (acc, some q.1) := by simp [overF, hq, hq2]
          rw [this, List.map_cons]
          refine (forL_nx (s1 := [some (hd b ms), some (.int rooms), some (.ref g.length), some .non, some (.int q.1), some (.int q.2)]) (by simp) ?_).trans e
          simp [hq, hq2]
        | some i =>
          obtain ⟨s', x', y', e⟩ := ih acc (some i) (some (.int q.1)) (some (.int q.2)) (by omega)
          refine ⟨s', x', y', ?_⟩
          have : overF rooms (q :: T) (acc, some i) = overF rooms T (acc, some i) := by simp [overF, hq, hq2]
          rw [this, List.map_cons]
          refine (forL_nx (s1 := [some (hd b ms), some (.int rooms), some (.ref g.length), some (.int i), some (.int q.1), some (.int q.2)]) (by simp) ?_).trans e
          simp [hq, hq2]
      · have hq2 : q.2 ≤ rooms := by omega
        cases o with
        | none =>
          obtain ⟨s', x', y', e⟩ := ih acc none (some (.int q.1)) (some (.int q.2)) (by omega)
          refine ⟨s', x', y', ?_⟩
          have : overF rooms (q :: T) (acc, none) = overF rooms T (acc, none) := by simp [overF, hq, hq2]
          rw [this, List.map_cons]
          refine (forL_nx (s1 := [some (hd b ms), some (.int rooms), some (.ref g.length), some .non, some (.int q.1), some (.int q.2)]) (by simp) ?_).trans e
          simp [hq, hq2]
        | some i =>
          obtain ⟨s', x', y', e⟩ := ih (acc ++ [(i, q.1)]) none (some (.int q.1)) (some (.int q.2)) (by simp; omega)
          refine ⟨s', x', y', ?_⟩
          have : overF rooms (q :: T) (acc, some i) = overF rooms T (acc ++ [(i, q.1)], none) := by simp [overF, hq, hq2]
          rw [this, List.map_cons]
          refine (forL_nx (s1 := [some (hd b ms), some (.int rooms), some (.ref g.length), some (.int i), some (.int q.1), some (.int q.2)]) (by simp) ?_).trans e
          simp [hq, hq2, hl2, stD]
  obtain ⟨s', x', y', e⟩ := loop (steps ms) [] none none none (by have := steps_len ms h; simp; omega)
  have e2 := load_steps_ok (g ++ [.lst []]) b ms k h
  unfold call at e2
  simp only [List.map_nil, nD_none] at e
  simp [f7, mkL, e2, e]
  rw [i_tupV _ _ _ (view_last _ _)]
  simp
  exact exitD_pur _ _ _ (by simp only [pur, purs_stD])
theorem nights_sold_ok : call (k + 2) 8 [hd b ms] g = .ok (.int (ms.map fun m => m.2.2 - m.2.1).sum) g := by
  unfold call callF
  rw [show PG 8 = some f8 from rfl]
  simp [f8]
  rw [comp_pure (lk := none) sp (fun _ => true) (fun m => .int (m.2.2 - m.2.1)) ms trivial]
  · have := i_sum g (ms.map fun m => m.2.2 - m.2.1)
    rw [List.map_map] at this
    have e : (fun m : Sp => D.int (m.2.2 - m.2.1)) = D.int ∘ fun m => m.2.2 - m.2.1 := rfl
    have ef : ms.filter (fun _ => true) = ms := List.filter_eq_self.mpr fun _ _ => rfl
    simp [ef, mkC, e, this]
  · intro y hy
    have := span_length_ok g y (k)
    unfold call at this
    exact ⟨_, rfl, by simp, fun _ => by simp [this]⟩
end
end KT

namespace KT
open KN
def cntL (f l : Int) (c : Int → Int) : List D := (rangeI f l).map fun n => D.int (c n)
def bump (c : Int → Int) (n : Int) : Int → Int := fun i => if i = n then c i + 1 else c i
theorem cntL_get {f l n : Int} (c : Int → Int) (h1 : f ≤ n) (h2 : n < l) : (cntL f l c)[(n - f).toNat]? = some (.int (c n)) := by
  unfold cntL
  rw [List.getElem?_map, rangeI_get (by omega)]
  simp
  congr 1; omega
theorem cntL_set {f l n : Int} (c : Int → Int) (h1 : f ≤ n) (h2 : n < l) : (cntL f l c).set (n - f).toNat (.int (c n + 1)) = cntL f l (bump c n) := by
  unfold cntL
  apply List.ext_getElem?
  intro i
  rw [List.getElem?_set, List.getElem?_map, List.getElem?_map]
  by_cases hi : i < (l - f).toNat
  · rw [rangeI_get hi]
    by_cases e : (n - f).toNat = i
    · have : f + (i : Int) = n := by omega
      simp [e, bump, this, rangeI_length, hi]
    · have : ¬ f + (i : Int) = n := by omega
      simp [e, bump, this]
  · have : (rangeI f l)[i]? = none := List.getElem?_eq_none (by rw [rangeI_length]; omega)
    rw [this]
    have : ¬ (n - f).toNat = i := by omega
    simp [this]
theorem cntL_congr {f l : Int} {c c' : Int → Int} (h : ∀ n, f ≤ n → n < l → c n = c' n) : cntL f l c = cntL f l c' := by
  unfold cntL
  apply List.map_congr_left
  intro n hn
  obtain ⟨a, b⟩ := mem_rangeI.mp hn
  rw [h n a b]
theorem foldl_bump (c : Int → Int) : ∀ (N : List Int), N.Nodup → (N.foldl bump c) = fun i => if i ∈ N then c i + 1 else c i
  | [], _ => by simp
  | n :: N, h => by
    rw [List.foldl_cons, foldl_bump _ N (List.nodup_cons.mp h).2]
    funext i
    by_cases e : i = n
    · subst e
      simp [bump, (List.nodup_cons.mp h).1]
    · simp [bump, e]
theorem rangeI_nodup (lo hi : Int) : (rangeI lo hi).Nodup := by
  unfold rangeI
  exact List.pairwise_map.mpr ((List.nodup_range (n := (hi - lo).toNat)).imp fun h e => h (by omega))
section
variable (g : G) (m : Sp) (b : Bool) (ms : List Sp) (k : Nat)
theorem ld_cons (n : Int) : ld (m :: ms) n = (if hasn n m then 1 else 0) + ld ms n := by
  unfold ld
  by_cases h : hasn n m <;> simp [h] <;> omega
theorem load_row_ok (f l : Int) (h0 : 0 ≤ f) (h1 : f ≤ l) (h2 : l ≤ 1000) (hb : ∀ m ∈ ms, 0 ≤ m.2.1 ∧ m.2.1 ≤ 1000 ∧ 0 ≤ m.2.2 ∧ m.2.2 ≤ 1000) : call (k + 1) 9 [hd b ms, .int f, .int l] g = .ok (.tup (cntL f l (ld ms))) g := by
  unfold call callF
  rw [show PG 9 = some f9 from rfl]
  have inner : ∀ (N : List Int) (c : Int → Int) (v : D) (x y z : Option D), (∀ n ∈ N, f ≤ n ∧ n < l) → ∃ z', forL (.name 6) none (evSs ⟨callF PG conG fuelG k, conG, fuelG⟩ (.cons (.augi .add (.var 3) (.bin .sub (.var 6) (.var 1)) (.int 1)) .nil)) (N.map .int) [some v, some (.int f), some (.int l), some (.ref g.length), x, y, z] (g ++ [.lst (cntL f l c)]) = .nx [some v, some (.int f), some (.int l), some (.ref g.length), x, y, z'] (g ++ [.lst (cntL f l (N.foldl bump c))]) := by
    intro N
    induction N with
    | nil => intro c v x y z _; exact ⟨z, by simp⟩
    | cons n N ih =>
      intro c v x y z hN
      obtain ⟨z', e⟩ := ih (bump c n) v x y (some (.int n)) fun n hn => hN n (by simp [hn])
      obtain ⟨a1, a2⟩ := hN n (by simp)
      refine ⟨z', ?_⟩
      rw [List.map_cons]
      refine (forL_nx (s1 := [some v, some (.int f), some (.int l), some (.ref g.length), x, y, some (.int n)]) (by simp) ?_).trans e
      have q1 := getL_last g (cntL f l c) (n - f) _ (by omega) (cntL_get c a1 a2)
      have q2 := putL_last g (cntL f l c) (n - f) (.int (c n + 1)) (by omega) (by unfold cntL; rw [List.length_map, rangeI_length]; omega)
      rw [cntL_set c a1 a2] at q2
      simp [q1, q2]
  have outer : ∀ (ms : List Sp) (c : Int → Int) (v : D) (x y z : Option D), (∀ m ∈ ms, 0 ≤ m.2.1 ∧ m.2.1 ≤ 1000 ∧ 0 ≤ m.2.2 ∧ m.2.2 ≤ 1000) → ∃ y' z', forL (.name 5) none (evSs ⟨callF PG conG fuelG k, conG, fuelG⟩ (.cons (.for_ (.name 6) (.range2 (.bi .max (.cons (.var 1) (.cons (.idx (.var 5) (.int 0)) .nil))) (.bi .min (.cons (.var 2) (.cons (.idx (.var 5) (.int 1)) .nil))))
   (.cons (.augi .add (.var 3) (.bin .sub (.var 6) (.var 1)) (.int 1))
   .nil))
   .nil)) (ms.map sp) [some v, some (.int f), some (.int l), some (.ref g.length), x, y, z] (g ++ [.lst (cntL f l c)]) = .nx [some v, some (.int f), some (.int l), some (.ref g.length), x, y', z'] (g ++ [.lst (cntL f l fun n => c n + ld ms n)]) := by
    intro ms
    induction ms with
    | nil => intro c v x y z _; exact ⟨y, z, by simp [ld]⟩
    | cons m ms ih =>
      intro c v x y z hms
      obtain ⟨m1, m2, m3, m4⟩ := hms m (by simp)
      obtain ⟨z1, e1⟩ := inner (rangeI (if m.2.1 > f then m.2.1 else f) (if m.2.2 < l then m.2.2 else l)) c v x (some (sp m)) z (by
        intro n hn
        obtain ⟨a, b⟩ := mem_rangeI.mp hn
        split at a <;> split at b <;> omega)
      obtain ⟨y', z', e⟩ := ih (fun n => c n + (if hasn n m then 1 else 0)) v x (some (sp m)) z1 fun m hm => hms m (by simp [hm])
      refine ⟨y', z', ?_⟩
      have ec : cntL f l (fun n => c n + ld (m :: ms) n) = cntL f l (fun n => c n + (if hasn n m then 1 else 0) + ld ms n) := cntL_congr fun n _ _ => by rw [ld_cons]; omega
      rw [ec, List.map_cons]
      refine (forL_nx (s1 := [some v, some (.int f), some (.int l), some (.ref g.length), x, some (sp m), z]) (by simp) ?_).trans e
      have e2 : cntL f l ((rangeI (if m.2.1 > f then m.2.1 else f) (if m.2.2 < l then m.2.2 else l)).foldl bump c) = cntL f l (fun n => c n + (if hasn n m then 1 else 0)) := cntL_congr fun n hn1 hn2 => by
        rw [foldl_bump c _ (rangeI_nodup _ _)]
        simp only [mem_rangeI]
        unfold hasn
        by_cases q1 : m.2.1 ≤ n <;> by_cases q2 : n < m.2.2 <;> simp [q1, q2] <;> (split <;> split) <;> omega
      rw [e2] at e1
      have er : evI ⟨callF PG conG fuelG k, conG, fuelG⟩ (.range2 (.bi .max (.cons (.var 1) (.cons (.idx (.var 5) (.int 0)) .nil))) (.bi .min (.cons (.var 2) (.cons (.idx (.var 5) (.int 1)) .nil)))) [some v, some (.int f), some (.int l), some (.ref g.length), x, some (sp m), z] (g ++ [.lst (cntL f l c)]) = .ok ((rangeI (if m.2.1 > f then m.2.1 else f) (if m.2.2 < l then m.2.2 else l)).map .int, none) (g ++ [.lst (cntL f l c)]) :=
        evI_r2 (g' := g ++ [.lst (cntL f l c)]) (by simp) (by simp) (by split <;> omega) (by split <;> omega) (by split <;> omega) (by split <;> omega)
      simp only [evSs_cons, evS_for_, er, e1, evSs_nil]
  obtain ⟨y', z', e⟩ := outer ms (fun _ => 0) (hd b ms) none none none hb
  have er : evI ⟨callF PG conG fuelG k, conG, fuelG⟩ (.range2 (.var 1) (.var 2)) [some (hd b ms), some (.int f), some (.int l), none, none, none, none] g = .ok ((rangeI f l).map .int, none) g := evI_r2 (g' := g) (by simp) (by simp) (by omega) (by omega) (by omega) (by omega)
  have ec : compL (.name 4) none (evCs ⟨callF PG conG fuelG k, conG, fuelG⟩ .no) (evE ⟨callF PG conG fuelG k, conG, fuelG⟩ (.int 0)) ((rangeI f l).map .int) [some (hd b ms), some (.int f), some (.int l), none, none, none, none] g = .ok (cntL f l fun _ => 0) g := by
    rw [comp_pure (lk := none) .int (fun _ => true) (fun _ => .int 0) _ trivial]
    · rw [List.filter_eq_self.mpr fun _ _ => rfl]; rfl
    · intro y _
      exact ⟨_, rfl, by simp, fun _ => by simp⟩
  simp [f9, er, ec, mkC, e]
  rw [i_tupV _ _ _ (view_last _ _)]
  simp
  exact exitD_pur _ _ _ (by simp only [pur]; exact purs_all fun x hx => by obtain ⟨n, _, rfl⟩ := List.mem_map.mp hx; rfl)
end
end KT

namespace KT
open KN
theorem fmod_rng {a m : Int} (h : 0 < m) : 0 ≤ a.fmod m ∧ a.fmod m < m := ⟨Int.fmod_nonneg_of_pos a h, Int.fmod_lt_of_pos a h⟩
theorem taken_rng (r : Row) {m : Int} (h : 0 < m) : 0 ≤ (taken r m).1 ∧ (taken r m).1 < m := by
  unfold taken
  split
  · exact fmod_rng h
  · split
    · exact fmod_rng h
    · exact fmod_rng h
theorem taken_pos (r : Row) (m : Int) (h : 0 ≤ r.pos) : 0 ≤ (taken r m).2.pos := by
  unfold taken
  split
  · exact h
  · split
    · show 0 ≤ r.pos + 1; omega
    · show 0 ≤ r.pos + 1; omega
section
variable (k : Nat) (r : Row) (L : G) (hp : 0 ≤ r.pos)
include hp
theorem pick_ok (xs : List D) (d : D) (h : xs ≠ []) (hl : xs.length ≤ 1000) (hd : xs[(taken r xs.length).1.toNat]? = some d) : call (k + 2) 1001 [.ref 0, .lst xs] (rowO r :: L) = .ok d (rowO (taken r xs.length).2 :: L) := by
  have hx : 0 < xs.length := List.length_pos_iff.mpr h
  have e := taken_ok k r xs.length L hp (by omega) (by omega)
  obtain ⟨a, b⟩ := taken_rng r (m := xs.length) (by omega)
  have e2 : ∀ g, idxD g (.lst xs) (.int (taken r xs.length).1) = some d := fun g => by
    have := x_lst g xs hd
    rwa [show (((taken r xs.length).1.toNat : Nat) : Int) = (taken r xs.length).1 by omega] at this
  unfold call at e ⊢
  rw [callF, show PG 1001 = some f1001 from rfl]
  simp [f1001, e, e2, exit_row]
def spanF (r : Row) (top longest : Int) : (Int × Int) × Row :=
  let t := taken r top
  let u := taken t.2 longest
  ((t.1, if t.1 + 1 + u.1 < top then t.1 + 1 + u.1 else top), u.2)
theorem spanF_pos (top longest : Int) : 0 ≤ (spanF r top longest).2.pos := taken_pos _ _ (taken_pos _ _ hp)
omit hp in
theorem spanF_rng {top longest : Int} (h : 0 < top) (h2 : 0 < longest) : 0 ≤ (spanF r top longest).1.1 ∧ (spanF r top longest).1.1 < (spanF r top longest).1.2 ∧ (spanF r top longest).1.2 ≤ top := by
  obtain ⟨a, b⟩ := taken_rng r h
  obtain ⟨c, d⟩ := taken_rng (taken r top).2 h2
  simp only [spanF]
  split <;> omega
theorem span_ok (top longest : Int) (h1 : 0 < top) (h2 : top < 1000000) (h3 : 0 < longest) (h4 : longest < 1000000) : call (k + 2) 1003 [.ref 0, .int top, .int longest] (rowO r :: L) = .ok (stD (spanF r top longest).1) (rowO (spanF r top longest).2 :: L) := by
  have e := taken_ok k r top L hp h1 (by omega)
  have e2 := taken_ok k (taken r top).2 longest L (taken_pos _ _ hp) h3 (by omega)
  unfold call at e e2 ⊢
  rw [callF, show PG 1003 = some f1003 from rfl]
  simp [f1003, e, e2, exit_row, stD, spanF]
def spansF (top longest : Int) : Nat → Row → List (Int × Int) × Row
  | 0, r => ([], r)
  | n + 1, r => ((spanF r top longest).1 :: (spansF top longest n (spanF r top longest).2).1, (spansF top longest n (spanF r top longest).2).2)
omit hp in
theorem spansF_len (top longest : Int) : ∀ (n : Nat) (r : Row), (spansF top longest n r).1.length = n
  | 0, _ => rfl
  | n + 1, r => by simp [spansF, spansF_len top longest n]
omit hp in
theorem spansF_pos (top longest : Int) : ∀ (n : Nat) (r : Row), 0 ≤ r.pos → 0 ≤ (spansF top longest n r).2.pos
  | 0, _, h => h
  | n + 1, r, h => spansF_pos top longest n _ (spanF_pos r h top longest)
omit hp in
theorem spansF_rng {top longest : Int} (h : 0 < top) (h2 : 0 < longest) : ∀ (n : Nat) (r : Row), ∀ p ∈ (spansF top longest n r).1, 0 ≤ p.1 ∧ p.1 < p.2 ∧ p.2 ≤ top
  | 0, _, p, hp => by simp [spansF] at hp
  | n + 1, r, p, hp => by
    simp only [spansF, List.mem_cons] at hp
    rcases hp with rfl | hp
    · exact spanF_rng r h h2
    · exact spansF_rng h h2 n _ p hp
theorem spans_ok (n : Nat) (top longest : Int) (hn : n ≤ 1000) (h1 : 0 < top) (h2 : top < 1000000) (h3 : 0 < longest) (h4 : longest < 1000000) : call (k + 3) 1004 [.ref 0, .int n, .int top, .int longest] (rowO r :: L) = .ok (.lst ((spansF top longest n r).1.map stD)) (rowO (spansF top longest n r).2 :: L) := by
  have loop : ∀ (N : List Nat) (r : Row) (acc : List (Int × Int)) (x : Option D), 0 ≤ r.pos → acc.length + N.length ≤ 1000 → ∃ x', forL (.name 5) none (evSs ⟨callF PG conG fuelG (k + 2), conG, fuelG⟩ (.cons (.app (.var 4) (.call 1003 (.cons (.var 0) (.cons (.var 2) (.cons (.var 3) .nil))))) .nil)) (N.map fun i => D.int (i : Nat)) [some (.ref 0), some (.int n), some (.int top), some (.int longest), some (.ref (L.length + 1)), x] (rowO r :: (L ++ [.lst (acc.map stD)])) = .nx [some (.ref 0), some (.int n), some (.int top), some (.int longest), some (.ref (L.length + 1)), x'] (rowO (spansF top longest N.length r).2 :: (L ++ [.lst ((acc ++ (spansF top longest N.length r).1).map stD)])) := by
    intro N
    induction N with
    | nil => intro r acc x _ _; exact ⟨x, by simp [spansF]⟩
    | cons i N ih =>
      intro r acc x hp hl
      simp only [List.length_cons] at hl
      obtain ⟨x', e⟩ := ih (spanF r top longest).2 (acc ++ [(spanF r top longest).1]) (some (.int i)) (spanF_pos r hp _ _) (by simp; omega)
      have e1 := span_ok k r (L ++ [.lst (acc.map stD)]) hp top longest h1 h2 h3 h4
      unfold call at e1
      have hl2 : acc.length < LIM := lim_lt (by omega)
      refine ⟨x', ?_⟩
      rw [List.map_cons]
      have es : acc ++ (spansF top longest (i :: N).length r).1 = acc ++ [(spanF r top longest).1] ++ (spansF top longest N.length (spanF r top longest).2).1 := by simp [spansF]
      rw [es]
      refine (forL_nx (s1 := [some (.ref 0), some (.int n), some (.int top), some (.int longest), some (.ref (L.length + 1)), some (.int i)]) (by simp) ?_).trans e
      simp [e1, hl2]
  obtain ⟨x', e⟩ := loop (List.range n) r [] none hp (by simp; omega)
  have er : evI ⟨callF PG conG fuelG (k + 2), conG, fuelG⟩ (.range1 (.var 1)) [some (.ref 0), some (.int n), some (.int top), some (.int longest), some (.ref (L.length + 1)), none] (rowO r :: (L ++ [.lst []])) = .ok ((List.range n).map fun k => D.int (k : Nat), none) (rowO r :: (L ++ [.lst []])) := evI_rN (by simp) (lim_le (by omega))
  unfold call
  rw [callF, show PG 1004 = some f1004 from rfl]
  simp only [List.length_range, List.map_nil, List.nil_append] at e
  simp only [f1004, start, List.length_cons, List.length_nil, if_true, evSs_cons, evS_set, evE_lst, evEs_nil, R.bind_ok, mkL]
  simp only [List.cons_append, List.map_cons, List.map_nil, Nat.reduceSub, List.reduceReplicate, List.nil_append, List.length_cons, List.length_nil, Nat.zero_add, Nat.reduceAdd, Nat.reduceLT, lim0, if_true, toF_ok]
  simp only [List.set_cons_succ, List.set_cons_zero]
  simp only [evS_for_, er]
  simp only [e]
  simp only [evS_ret, evE_var, evSs_nil, List.getElem?_cons_succ, List.getElem?_cons_zero, toF_ok, endF_rt]
  exact exit_own _ _ _ _ (fun n => low_row _ n) (purs_stD 57 _)
end
end KT

namespace KT
open KN
section
variable (k : Nat) (g : G) (r : Row) (L : G)
def ldP (ps : List (Int × Int)) (n : Int) : Int := ((ps.filter fun p => decide (p.1 ≤ n) && decide (n < p.2)).length : Nat)
theorem law_load_ok (ps : List (Int × Int)) (n : Int) : call (k + 1) 1005 [.lst (ps.map stD), .int n] g = .ok (.int (ldP ps n)) g := by
  unfold call
  rw [callF, show PG 1005 = some f1005 from rfl]
  simp [f1005]
  rw [comp_pure (lk := none) stD (fun p => decide (p.1 ≤ n) && decide (n < p.2)) (fun _ => .int 1) ps trivial]
  · simp [mkC, ldP]
  · intro y hy
    refine ⟨_, rfl, ?_, fun _ => by simp⟩
    have e0 : ∀ g, idxD g (stD y) (.int 0) = some (.int y.1) := fun g => by simp [stD]
    have e1 : ∀ g, idxD g (stD y) (.int 1) = some (.int y.2) := fun g => by simp [stD]
    by_cases h : y.1 ≤ n <;> simp [e0, e1, h]
def mixB (r : Row) : Bool := decide ((taken r 2).1 = 0)
theorem mixed_ok (hp : 0 ≤ r.pos) (v : D) (xs : List D) (hv : v = .tup xs ∨ v = .lst xs) : call (k + 2) 1006 [.ref 0, v] (rowO r :: L) = .ok (if mixB r then .lst xs else .tup xs) (rowO (taken r 2).2 :: L) := by
  have e := taken_ok k r 2 L hp (by decide) (by decide)
  unfold call at e ⊢
  rw [callF, show PG 1006 = some f1006 from rfl]
  by_cases h : (taken r 2).1 = 0
  all_goals
    rcases hv with rfl | rfl
    all_goals simp [f1006, e, h, mixB, exit_row]
def handL : List (Int × Int) → Row → List Sp × Row
  | [], r => ([], r)
  | p :: ps, r => ((mixB r, p) :: (handL ps (taken r 2).2).1, (handL ps (taken r 2).2).2)
theorem handL_snd : ∀ (ps : List (Int × Int)) (r : Row), (handL ps r).1.map (·.2) = ps
  | [], _ => rfl
  | p :: ps, r => by simp [handL, handL_snd ps]
theorem handL_pos : ∀ (ps : List (Int × Int)) (r : Row), 0 ≤ r.pos → 0 ≤ (handL ps r).2.pos
  | [], _, h => h
  | p :: ps, r, h => handL_pos ps _ (taken_pos r 2 h)
theorem sp_mix (p : Int × Int) (b : Bool) : (if b then D.lst [.int p.1, .int p.2] else .tup [.int p.1, .int p.2]) = sp (b, p) := rfl
theorem handed_ok (hp : 0 ≤ r.pos) (ps : List (Int × Int)) : call (k + 3) 1007 [.ref 0, .lst (ps.map stD)] (rowO r :: L) = .ok (hd (mixB (handL ps r).2) (handL ps r).1) (rowO (taken (handL ps r).2 2).2 :: L) := by
  have loop : ∀ (ps : List (Int × Int)) (r : Row) (v : D), 0 ≤ r.pos → compL (.name 2) none (evCs ⟨callF PG conG fuelG (k + 2), conG, fuelG⟩ .no) (evE ⟨callF PG conG fuelG (k + 2), conG, fuelG⟩ (.call 1006 (.cons (.var 0) (.cons (.var 2) .nil)))) (ps.map stD) [some (.ref 0), some v, none] (rowO r :: L) = .ok ((handL ps r).1.map sp) (rowO (handL ps r).2 :: L) := by
    intro ps
    induction ps with
    | nil => intro r v _; simp [compL, handL]
    | cons p ps ih =>
      intro r v hp
      have e := mixed_ok k r L hp (stD p) [.int p.1, .int p.2] (.inl rfl)
      unfold call at e
      rw [sp_mix] at e
      have := ih (taken r 2).2 v (taken_pos r 2 hp)
      rw [List.map_cons, compL, if_pos (show lockOk none _ from trivial)]
      simp [e, this, handL]
  have e2 := mixed_ok k (handL ps r).2 L (handL_pos ps r hp) (.lst ((handL ps r).1.map sp)) _ (.inr rfl)
  have e1 := loop ps r (.lst (ps.map stD)) hp
  unfold call at e2 ⊢
  rw [callF, show PG 1007 = some f1007 from rfl]
  simp [f1007, e1, mkC, e2, exit_row]
  rfl
end
end KT

namespace KT
open KN
/-! ### the plain law of loads -/
theorem ld_eq (ms : List Sp) (n : Int) : ld ms n = ldP (ms.map (·.2)) n := by
  unfold ld ldP
  rw [List.filter_map, List.length_map]
  rfl
theorem ld_nonneg (ms : List Sp) (n : Int) : 0 ≤ ld ms n := by unfold ld; omega
theorem mem_addK {K : List Int} {i x : Int} : x ∈ addK K i ↔ x ∈ K ∨ x = i := by
  unfold addK
  split
  · rename_i h
    constructor
    · exact .inl
    · rintro (h' | rfl)
      · exact h'
      · exact h
  · simp
theorem mem_ends {x : Int} : ∀ (ms : List Sp) (K : List Int), x ∈ ends ms K ↔ x ∈ K ∨ ∃ m ∈ ms, x = m.2.1 ∨ x = m.2.2
  | [], K => by simp [ends]
  | m :: r, K => by
    unfold ends
    rw [mem_ends r, mem_addK, mem_addK]
    simp only [List.mem_cons, exists_eq_or_imp]
    constructor
    · rintro (((h | h) | h) | h)
      · exact .inl h
      · exact .inr (.inl (.inl h))
      · exact .inr (.inl (.inr h))
      · exact .inr (.inr h)
    · rintro (h | (h | h) | h)
      · exact .inl (.inl (.inl h))
      · exact .inl (.inl (.inr h))
      · exact .inl (.inr h)
      · exact .inr h
theorem addK_nodup {K : List Int} {i : Int} (h : K.Nodup) : (addK K i).Nodup := by
  unfold addK
  split
  · exact h
  · rename_i q
    refine List.nodup_append.mpr ⟨h, by simp, fun a ha b hb => ?_⟩
    rw [List.mem_singleton.mp hb]
    rintro rfl
    exact q ha
theorem ends_nodup : ∀ (ms : List Sp) (K : List Int), K.Nodup → (ends ms K).Nodup
  | [], K, h => h
  | m :: r, K, h => ends_nodup r _ (addK_nodup (addK_nodup h))
theorem turns_sorted (ms : List Sp) : (turns ms).Pairwise (· < ·) := by
  have hs : (turns ms).Pairwise (· ≤ ·) := by
    have := List.pairwise_mergeSort (le := fun a b : Int => decide (a ≤ b)) (fun a b c h1 h2 => by simp at *; omega) (fun a b => by simp; omega) (ends ms [])
    exact this.imp fun h => by simpa using h
  have hn : (turns ms).Nodup := (List.mergeSort_perm _ _).nodup_iff.mpr (ends_nodup ms [] List.nodup_nil)
  exact hs.imp₂ (fun a b h1 h2 => by omega) hn
theorem mem_turns {ms : List Sp} {x : Int} : x ∈ turns ms ↔ ∃ m ∈ ms, x = m.2.1 ∨ x = m.2.2 := by
  unfold turns sortI
  rw [List.mem_mergeSort, mem_ends]
  simp
/-- where nobody comes or goes the load stays -/
theorem ld_same {ms : List Sp} {n : Int} (h : n ∉ turns ms) : ld ms n = ld ms (n - 1) := by
  have h' : ∀ m ∈ ms, n ≠ m.2.1 ∧ n ≠ m.2.2 := fun m hm => ⟨fun e => h (mem_turns.mpr ⟨m, hm, .inl e⟩), fun e => h (mem_turns.mpr ⟨m, hm, .inr e⟩)⟩
  unfold ld
  congr 2
  apply List.filter_congr
  intro m hm
  obtain ⟨a, b⟩ := h' m hm
  unfold hasn
  have e1 : (m.2.1 ≤ n) ↔ (m.2.1 ≤ n - 1) := by omega
  have e2 : (n < m.2.2) ↔ (n - 1 < m.2.2) := by omega
  simp only [e1, e2]
def chg (f : Int → Int) (lo hi : Int) : List (Int × Int) := ((rangeI lo hi).filter fun n => decide (f n ≠ f (n - 1))).map fun n => (n, f n)
theorem chg_nil {f : Int → Int} {lo hi : Int} (h : hi ≤ lo) : chg f lo hi = [] := by unfold chg; rw [rangeI_nil h]; rfl
theorem chg_cons {f : Int → Int} {lo hi : Int} (h : lo < hi) : chg f lo hi = (if f lo ≠ f (lo - 1) then [(lo, f lo)] else []) ++ chg f (lo + 1) hi := by
  unfold chg
  rw [rangeI_cons h]
  by_cases q : f lo = f (lo - 1) <;> simp [q]
theorem steps_chg (ms : List Sp) (hi : Int) : ∀ (d : Nat) (lo : Int) (T : List Int), (hi - lo).toNat = d → T.Pairwise (· < ·) → (∀ t ∈ T, lo ≤ t ∧ t < hi) → (∀ n, lo ≤ n → n < hi → n ∉ T → ld ms n = ld ms (n - 1)) → stepsF ms T (ld ms (lo - 1)) = chg (ld ms) lo hi
  | 0, lo, T, hd, hs, hT, hn => by
    cases T with
    | nil => rw [chg_nil (by omega)]; rfl
    | cons t r => have := hT t (by simp); omega
  | d + 1, lo, T, hd, hs, hT, hn => by
    rw [chg_cons (by omega)]
    have key : ∀ T' : List Int, T'.Pairwise (· < ·) → (∀ t ∈ T', lo + 1 ≤ t ∧ t < hi) → (∀ n, lo + 1 ≤ n → n < hi → n ∉ T' → ld ms n = ld ms (n - 1)) → stepsF ms T' (ld ms lo) = chg (ld ms) (lo + 1) hi := fun T' a b c => by
      have := steps_chg ms hi d (lo + 1) T' (by omega) a b c
      rwa [show lo + 1 - 1 = lo by omega] at this
    by_cases hl : lo ∈ T
    · cases T with
      | nil => simp at hl
      | cons t r =>
        have et : t = lo := by
          rcases List.mem_cons.mp hl with e | e
          · exact e.symm
          · have h1 := (List.pairwise_cons.mp hs).1 lo e
            have h2 := hT t (by simp)
            omega
        subst et
        have k := key r (List.pairwise_cons.mp hs).2 (fun x hx => ⟨by have := (List.pairwise_cons.mp hs).1 x hx; omega, (hT x (by simp [hx])).2⟩) (fun n h1 h2 h3 => hn n (by omega) h2 (by simp [h3]; omega))
        unfold stepsF
        by_cases q : ld ms t = ld ms (t - 1)
        · rw [if_neg (by simp [q]), if_neg (by simp [q]), ← q, k]; rfl
        · rw [if_pos q, if_pos q, k]; rfl
    · have q := hn lo (Int.le_refl _) (by omega) hl
      rw [if_neg (by simp [q]), ← q]
      exact key T hs (fun x hx => ⟨by
        have := hT x hx
        have : x ≠ lo := fun e => hl (e ▸ hx)
        omega, (hT x hx).2⟩) fun n h1 h2 h3 => hn n (by omega) h2 h3
/-- the steps are the nights at which the load changes -/
theorem steps_eq {ms : List Sp} {size : Int} (h0 : 0 ≤ size) (hb : ∀ m ∈ ms, 0 ≤ m.2.1 ∧ m.2.1 < m.2.2 ∧ m.2.2 ≤ size) : steps ms = chg (ld ms) 0 (size + 1) := by
  have e : ld ms (0 - 1) = 0 := by
    unfold ld
    have : ms.filter (hasn (0 - 1)) = [] := List.filter_eq_nil_iff.mpr fun m hm => by
      have := hb m hm
      unfold hasn
      simp; omega
    rw [this]; rfl
  have := steps_chg ms (size + 1) _ 0 (turns ms) rfl (turns_sorted ms) (fun t ht => by
    obtain ⟨m, hm, q⟩ := mem_turns.mp ht
    have := hb m hm
    omega) fun n _ _ hn => ld_same hn
  rw [e] at this
  exact this
end KT

namespace KT
open KN
def allP (f : Int → Int) (lo hi : Int) : List (Int × Int) := (rangeI lo hi).map fun n => (n, f n)
theorem peakF_low : ∀ (l : List (Int × Int)) (b : Int × Option Int), (∀ p ∈ l, p.2 ≤ b.1) → peakF l b = b
  | [], b, _ => rfl
  | p :: r, b, h => by
    have := h p (by simp)
    unfold peakF
    rw [if_neg (by omega)]
    exact peakF_low r b fun q hq => h q (by simp [hq])
theorem peakF_lt (m : Int) : ∀ (l : List (Int × Int)) (b : Int × Option Int), b.1 < m → (∀ p ∈ l, p.2 < m) → (peakF l b).1 < m
  | [], b, h, _ => h
  | p :: r, b, h, hl => by
    unfold peakF
    refine peakF_lt m r _ ?_ fun q hq => hl q (by simp [hq])
    split
    · exact hl p (by simp)
    · exact h
theorem peakF_app : ∀ (l l' : List (Int × Int)) (b : Int × Option Int), peakF (l ++ l') b = peakF l' (peakF l b)
  | [], _, _ => rfl
  | p :: r, l', b => by simp [peakF, peakF_app r]
theorem peakF_at {l l' : List (Int × Int)} {p : Int × Int} {b : Int × Option Int} (h1 : b.1 < p.2) (h2 : ∀ q ∈ l, q.2 < p.2) (h3 : ∀ q ∈ l', q.2 ≤ p.2) : peakF (l ++ p :: l') b = (p.2, some p.1) := by
  rw [peakF_app]
  show peakF l' (if p.2 > (peakF l b).1 then (p.2, some p.1) else peakF l b) = _
  rw [if_pos (peakF_lt p.2 l b h1 h2)]
  exact peakF_low l' _ h3
theorem peak_all (f : Int → Int) (hi : Int) : ∀ (d : Nat) (lo : Int) (b : Int × Option Int), (hi - lo).toNat = d → f (lo - 1) ≤ b.1 → peakF (chg f lo hi) b = peakF (allP f lo hi) b
  | 0, lo, b, hd, _ => by rw [chg_nil (by omega)]; unfold allP; rw [rangeI_nil (by omega)]; rfl
  | d + 1, lo, b, hd, hb => by
    have hl : lo < hi := by omega
    have e : allP f lo hi = (lo, f lo) :: allP f (lo + 1) hi := by unfold allP; rw [rangeI_cons hl]; rfl
    rw [chg_cons hl, e]
    have key : ∀ b : Int × Option Int, f lo ≤ b.1 → peakF (chg f (lo + 1) hi) b = peakF (allP f (lo + 1) hi) b := fun b h => peak_all f hi d (lo + 1) b (by omega) (by rwa [show lo + 1 - 1 = lo by omega])
    by_cases q : f lo = f (lo - 1)
    · rw [if_neg (by simp [q])]
      have : peakF ((lo, f lo) :: allP f (lo + 1) hi) b = peakF (allP f (lo + 1) hi) b := by
        show peakF (allP f (lo + 1) hi) (if f lo > b.1 then (f lo, some lo) else b) = _
        rw [if_neg (by omega)]
      rw [this]
      exact key b (by omega)
    · rw [if_pos q]
      show peakF (chg f (lo + 1) hi) _ = peakF (allP f (lo + 1) hi) _
      refine key _ ?_
      split
      · exact Int.le_refl _
      · rename_i h; exact Int.not_lt.mp h
theorem first_all (f : Int → Int) (rooms hi : Int) : ∀ (d : Nat) (lo : Int), (hi - lo).toNat = d → f (lo - 1) ≤ rooms → firstF rooms (chg f lo hi) = ((rangeI lo hi).filter fun n => decide (rooms < f n)).head?
  | 0, lo, hd, _ => by rw [chg_nil (by omega), rangeI_nil (by omega)]; rfl
  | d + 1, lo, hd, hb => by
    have hl : lo < hi := by omega
    rw [chg_cons hl, rangeI_cons hl]
    by_cases q : rooms < f lo
    · rw [if_pos (by omega)]
      simp [firstF, q]
    · have ih := first_all f rooms hi d (lo + 1) (by omega) (by rw [show lo + 1 - 1 = lo by omega]; omega)
      have e : ((lo :: rangeI (lo + 1) hi).filter fun n => decide (rooms < f n)) = (rangeI (lo + 1) hi).filter fun n => decide (rooms < f n) := by simp [q]
      rw [e, ← ih]
      split
      · show firstF rooms ((lo, f lo) :: chg f (lo + 1) hi) = _
        unfold firstF
        rw [if_neg (by simp; omega)]
        cases chg f (lo + 1) hi <;> rfl
      · rfl
theorem over_all (f : Int → Int) (rooms hi : Int) : ∀ (d : Nat) (lo : Int) (acc : List (Int × Int)) (o : Option Int), (hi - lo).toNat = d → lo ≤ hi → o.isSome = decide (rooms < f (lo - 1)) →
    let r := overF rooms (chg f lo hi) (acc, o)
    (r.1.map (·.1) ++ r.2.toList = acc.map (·.1) ++ o.toList ++ (rangeI lo hi).filter fun n => decide (rooms < f n) && !decide (rooms < f (n - 1))) ∧
    (r.1.map (·.2) = acc.map (·.2) ++ (rangeI lo hi).filter fun n => !decide (rooms < f n) && decide (rooms < f (n - 1))) ∧ r.2.isSome = decide (rooms < f (hi - 1))
  | 0, lo, acc, o, hd, hl, ho => by
    have e : lo = hi := by omega
    subst e
    rw [chg_nil (Int.le_refl _), rangeI_nil (Int.le_refl _)]
    simp [overF, ho]
  | d + 1, lo, acc, o, hd, _, ho => by
    have hl : lo < hi := by omega
    have key := fun acc o h => over_all f rooms hi d (lo + 1) acc o (by omega) (by omega) h
    rw [show lo + 1 - 1 = lo by omega] at key
    rw [chg_cons hl, rangeI_cons hl]
    by_cases q : f lo = f (lo - 1)
    · rw [if_neg (by simp [q])]
      obtain ⟨k1, k2, k3⟩ := key acc o (by rw [ho, q])
      refine ⟨?_, ?_, k3⟩
      · rw [List.nil_append, k1, List.filter_cons]
        simp [q]
      · rw [List.nil_append, k2, List.filter_cons]
        simp [q]
    · rw [if_pos q]
      by_cases h1 : rooms < f lo <;> by_cases h2 : rooms < f (lo - 1)
      · have : o.isSome = true := by rw [ho]; simp [h2]
        obtain ⟨i, rfl⟩ := Option.isSome_iff_exists.mp this
        have es : overF rooms ([(lo, f lo)] ++ chg f (lo + 1) hi) (acc, some i) = overF rooms (chg f (lo + 1) hi) (acc, some i) := by
          simp [overF, h1, show ¬ f lo ≤ rooms by omega]
        obtain ⟨k1, k2, k3⟩ := key acc (some i) (by simp [h1])
        simp only [es]
        refine ⟨?_, ?_, k3⟩
        · rw [k1, List.filter_cons]; simp [h1, h2]
        · rw [k2, List.filter_cons]; simp [h1, h2]
      · have : o = none := by
          cases o with
          | none => rfl
          | some i => simp [h2] at ho
        subst this
        have es : overF rooms ([(lo, f lo)] ++ chg f (lo + 1) hi) (acc, none) = overF rooms (chg f (lo + 1) hi) (acc, some lo) := by
          simp [overF, h1, show ¬ f lo ≤ rooms by omega]
        obtain ⟨k1, k2, k3⟩ := key acc (some lo) (by simp [h1])
        simp only [es]
        refine ⟨?_, ?_, k3⟩
        · rw [k1, List.filter_cons]; simp [h1, h2]
        · rw [k2, List.filter_cons]; simp [h1, h2]
      · have : o.isSome = true := by rw [ho]; simp [h2]
        obtain ⟨i, rfl⟩ := Option.isSome_iff_exists.mp this
        have es : overF rooms ([(lo, f lo)] ++ chg f (lo + 1) hi) (acc, some i) = overF rooms (chg f (lo + 1) hi) (acc ++ [(i, lo)], none) := by
          simp [overF, h1, show f lo ≤ rooms by omega]
        obtain ⟨k1, k2, k3⟩ := key (acc ++ [(i, lo)]) none (by simp [h1])
        simp only [es]
        refine ⟨?_, ?_, k3⟩
        · rw [k1, List.filter_cons]; simp [h1, h2]
        · rw [k2, List.filter_cons]; simp [h1, h2]
      · have : o = none := by
          cases o with
          | none => rfl
          | some i => simp [h2] at ho
        subst this
        have es : overF rooms ([(lo, f lo)] ++ chg f (lo + 1) hi) (acc, none) = overF rooms (chg f (lo + 1) hi) (acc, none) := by
          simp [overF, h1, show f lo ≤ rooms by omega]
        obtain ⟨k1, k2, k3⟩ := key acc none (by simp [h1])
        simp only [es]
        refine ⟨?_, ?_, k3⟩
        · rw [k1, List.filter_cons]; simp [h1, h2]
        · rw [k2, List.filter_cons]; simp [h1, h2]
end KT

namespace KT
open KN
theorem filter_shift (q : Int → Bool) (lo hi : Int) : ((rangeI lo hi).filter q).map (· + 1) = (rangeI (lo + 1) (hi + 1)).filter fun n => q (n - 1) := by
  have e : rangeI (lo + 1) (hi + 1) = (rangeI lo hi).map (· + 1) := by
    unfold rangeI
    rw [List.map_map, show (hi + 1 - (lo + 1)).toNat = (hi - lo).toNat by omega]
    apply List.map_congr_left
    intro k _
    simp only [Function.comp]; omega
  rw [e, List.filter_map]
  congr 1
  apply List.filter_congr
  intro n _
  simp only [Function.comp]
  rw [show n + 1 - 1 = n by omega]
/-- the nights at which it ends are those behind the last ones -/
theorem closes_eq (f : Int → Int) (rooms S : Int) (hS : 0 ≤ S) (h1 : f (-1) ≤ rooms) (h2 : f S ≤ rooms) :
    ((rangeI 0 (S + 1)).filter fun n => !decide (rooms < f n) && decide (rooms < f (n - 1))) = ((rangeI 0 (S + 1)).filter fun n => decide (rooms < f n) && !decide (rooms < f (n + 1))).map (· + 1) := by
  have e1 := filter_shift (fun n => decide (rooms < f n) && !decide (rooms < f (n + 1))) 0 S
  have e2 : ((rangeI 0 (S + 1)).filter fun n => decide (rooms < f n) && !decide (rooms < f (n + 1))) = (rangeI 0 S).filter fun n => decide (rooms < f n) && !decide (rooms < f (n + 1)) := by
    rw [rangeI_snoc hS, List.filter_append]
    have : ¬ rooms < f S := by omega
    simp [this]
  rw [e2, e1, rangeI_cons (by omega : (0 : Int) < S + 1), List.filter_cons]
  have : ¬ rooms < f (0 - 1) := by
    show ¬ rooms < f (-1)
    omega
  rw [if_neg (by simp; intro _; exact h1)]
  apply List.filter_congr
  intro n _
  rw [show n - 1 + 1 = n by omega, Bool.and_comm]
theorem sum_ind {a b : Int} (h0 : 0 ≤ a) (h : a ≤ b) : ∀ hi : Nat, ((rangeI 0 hi).map fun n => if a ≤ n ∧ n < b then (1 : Int) else 0).sum = min b hi - min a hi
  | 0 => by rw [rangeI_nil (by omega)]; simp; omega
  | hi + 1 => by
    have := sum_ind h0 h hi
    rw [show ((hi + 1 : Nat) : Int) = (hi : Int) + 1 by omega, rangeI_snoc (by omega), List.map_append, List.sum_append, this]
    simp only [List.map_cons, List.map_nil, List.sum_cons, List.sum_nil]
    split <;> omega
theorem sum_add {A : Type} (f g : A → Int) : ∀ l : List A, (l.map fun x => f x + g x).sum = (l.map f).sum + (l.map g).sum
  | [] => rfl
  | x :: l => by simp only [List.map_cons, List.sum_cons, sum_add f g l]; omega
theorem ldP_cons (p : Int × Int) (ps : List (Int × Int)) (n : Int) : ldP (p :: ps) n = (if p.1 ≤ n ∧ n < p.2 then 1 else 0) + ldP ps n := by
  unfold ldP
  by_cases h1 : p.1 ≤ n <;> by_cases h2 : n < p.2 <;> simp [h1, h2] <;> omega
theorem sold_eq (S : Int) (hS : 0 ≤ S) : ∀ ps : List (Int × Int), (∀ p ∈ ps, 0 ≤ p.1 ∧ p.1 < p.2 ∧ p.2 ≤ S) → ((rangeI 0 (S + 1)).map (ldP ps)).sum = (ps.map fun p => p.2 - p.1).sum
  | [], _ => by
    have : ((rangeI 0 (S + 1)).map (ldP [])) = (rangeI 0 (S + 1)).map fun _ => (0 : Int) := List.map_congr_left fun _ _ => rfl
    rw [this]
    induction rangeI 0 (S + 1) with
    | nil => rfl
    | cons a l ih => simpa using ih
  | p :: ps, h => by
    obtain ⟨a, b, c⟩ := h p (by simp)
    have ih := sold_eq S hS ps fun q hq => h q (by simp [hq])
    have e : ((rangeI 0 (S + 1)).map (ldP (p :: ps))) = (rangeI 0 (S + 1)).map fun n => (if p.1 ≤ n ∧ n < p.2 then (1 : Int) else 0) + ldP ps n := List.map_congr_left fun n _ => ldP_cons p ps n
    have s := sum_ind a (Int.le_of_lt b) (S + 1).toNat
    rw [show (((S + 1).toNat : Nat) : Int) = S + 1 by omega] at s
    rw [e, sum_add, s, ih, List.map_cons, List.sum_cons]
    omega
theorem cut_counts (f : Int → D) {S a b : Int} (h0 : 0 ≤ a) (h1 : a ≤ b) (h2 : b ≤ S) : cut ((rangeI 0 (S + 1)).map f) (some a) (some b) = (rangeI a b).map f := by
  unfold cut
  have hl : ((rangeI 0 (S + 1)).map f).length = (S + 1).toNat := by rw [List.length_map, rangeI_length]; simp
  have e1 : six ((rangeI 0 (S + 1)).map f).length 0 (some a) = a.toNat := by
    rw [hl]; unfold six; simp only; rw [if_neg (by omega)]; omega
  have e2 : six ((rangeI 0 (S + 1)).map f).length ((rangeI 0 (S + 1)).map f).length (some b) = b.toNat := by
    rw [hl]; unfold six; simp only; rw [if_neg (by omega)]; omega
  rw [e1, e2]
  apply List.ext_getElem?
  intro k
  rw [List.getElem?_take, List.getElem?_drop, List.getElem?_map, List.getElem?_map]
  by_cases hk : k < b.toNat - a.toNat
  · rw [if_pos hk, rangeI_get (by omega), rangeI_get (by omega)]
    simp only [Option.map_some]
    congr 2; omega
  · rw [if_neg hk, List.getElem?_eq_none (by rw [rangeI_length]; omega)]; rfl
theorem ldP_le (ps : List (Int × Int)) (n : Int) : 0 ≤ ldP ps n ∧ ldP ps n ≤ ps.length := by
  unfold ldP
  have := List.length_filter_le (fun p => decide (p.1 ≤ n) && decide (n < p.2)) ps
  omega
theorem ldP_out {ps : List (Int × Int)} {S n : Int} (h : ∀ p ∈ ps, 0 ≤ p.1 ∧ p.1 < p.2 ∧ p.2 ≤ S) (hn : n < 0 ∨ S ≤ n) : ldP ps n = 0 := by
  unfold ldP
  have : (ps.filter fun p => decide (p.1 ≤ n) && decide (n < p.2)) = [] := List.filter_eq_nil_iff.mpr fun p hp => by
    have := h p hp
    simp; omega
  rw [this]; rfl
end KT

namespace KT
open KN
theorem taken_ex (r : Row) (m : Int) (L : G) (hp : 0 ≤ r.pos) (hm : 0 < m) (hm2 : m < 1073741824) : ∃ t r', callF PG conG fuelG 39 1000 [.ref 0, .int m] (rowO r :: L) = .ok (.int t) (rowO r' :: L) ∧ 0 ≤ t ∧ t < m ∧ 0 ≤ r'.pos :=
  ⟨_, _, taken_ok 38 r m L hp hm hm2, (taken_rng r hm).1, (taken_rng r hm).2, taken_pos r m hp⟩
theorem spans_ex (r : Row) (n : Nat) (top longest : Int) (L : G) (hp : 0 ≤ r.pos) (hn : n ≤ 1000) (h1 : 0 < top) (h2 : top < 1000000) (h3 : 0 < longest) (h4 : longest < 1000000) :
    ∃ (ps : List (Int × Int)) (r' : Row), callF PG conG fuelG 39 1004 [.ref 0, .int n, .int top, .int longest] (rowO r :: L) = .ok (.lst (ps.map stD)) (rowO r' :: L) ∧ 0 ≤ r'.pos ∧ ps.length = n ∧ ∀ p ∈ ps, 0 ≤ p.1 ∧ p.1 < p.2 ∧ p.2 ≤ top :=
  ⟨_, _, spans_ok 36 r L hp n top longest hn h1 h2 h3 h4, spansF_pos _ _ _ _ hp, spansF_len _ _ _ _, spansF_rng h1 h3 _ _⟩
theorem handed_ex (r : Row) (ps : List (Int × Int)) (L : G) (hp : 0 ≤ r.pos) : ∃ (b : Bool) (ms : List Sp) (r' : Row), callF PG conG fuelG 39 1007 [.ref 0, .lst (ps.map stD)] (rowO r :: L) = .ok (hd b ms) (rowO r' :: L) ∧ 0 ≤ r'.pos ∧ ms.map (·.2) = ps :=
  ⟨_, _, _, handed_ok 36 r L hp ps, taken_pos _ _ (handL_pos _ _ hp), handL_snd _ _⟩
theorem pick_ex (r : Row) (xs : List Int) (L : G) (hp : 0 ≤ r.pos) (h : xs ≠ []) (hl : xs.length ≤ 1000) : ∃ (v : Int) (r' : Row), callF PG conG fuelG 39 1001 [.ref 0, .lst (xs.map .int)] (rowO r :: L) = .ok (.int v) (rowO r' :: L) ∧ 0 ≤ r'.pos ∧ v ∈ xs := by
  have hx : 0 < xs.length := List.length_pos_iff.mpr h
  obtain ⟨a, b⟩ := taken_rng r (m := ((xs.map D.int).length : Nat)) (by rw [List.length_map]; omega)
  have hk : (taken r ((xs.map D.int).length : Nat)).1.toNat < xs.length := by rw [List.length_map] at a b ⊢; omega
  exact ⟨_, _, pick_ok 37 r L hp (xs.map .int) (.int (xs[(taken r ((xs.map D.int).length : Nat)).1.toNat])) (by simp [h]) (by simpa using hl) (by rw [List.getElem?_map, List.getElem?_eq_getElem hk]; rfl), taken_pos _ _ hp, List.getElem_mem hk⟩
theorem span_ex (r : Row) (top longest : Int) (L : G) (hp : 0 ≤ r.pos) (h1 : 0 < top) (h2 : top < 1000000) (h3 : 0 < longest) (h4 : longest < 1000000) : ∃ (p : Int × Int) (r' : Row), callF PG conG fuelG 39 1003 [.ref 0, .int top, .int longest] (rowO r :: L) = .ok (stD p) (rowO r' :: L) ∧ 0 ≤ p.1 ∧ p.1 < p.2 ∧ p.2 ≤ top :=
  ⟨_, _, span_ok 37 r L hp top longest h1 h2 h3 h4, spanF_rng r h1 h3⟩
theorem alike_at (n : Nat) (d : D) (g : G) (hn : n ≤ 30) (h : pln n d = true) : callF PG conG fuelG 39 1002 [d, d] g = .ok (.bl true) g := by
  have := alike_ok n d (38 - n) g h
  rwa [show 38 - n + n + 1 = 39 by omega] at this
theorem plns_map {A : Type} (n : Nat) (f : A → D) (l : List A) (h : ∀ x ∈ l, pln n (f x) = true) : plns n (l.map f) = true := by
  induction l with
  | nil => rfl
  | cons x l ih => simp [plns, h x (by simp), ih fun y hy => h y (by simp [hy])]
theorem pln_stD (n : Nat) (p : Int × Int) : pln (n + 1) (stD p) = true := by simp [pln, plns, stD]
theorem pln_tupS (l : List (Int × Int)) (h : l.length ≤ 1000000) : pln 2 (.tup (l.map stD)) = true := by
  simp only [pln, Bool.and_eq_true, decide_eq_true_eq, List.length_map]
  exact ⟨lim_le h, plns_map 1 stD l fun p _ => pln_stD 0 p⟩
theorem pln_tupI (l : List Int) (h : l.length ≤ 1000000) : pln 1 (.tup (l.map .int)) = true := by
  simp only [pln, Bool.and_eq_true, decide_eq_true_eq, List.length_map]
  exact ⟨lim_le h, plns_map 0 .int l fun p _ => rfl⟩
theorem pln_nD (n : Nat) (o : Option Int) : pln n (nD o) = true := by cases o <;> cases n <;> rfl
theorem eqDs_nil (g : G) : cmpD .ne g (.lst []) (.lst []) = some false := rfl
/-- counts[n], before[n] -/
theorem counts_x (g : G) (f : Int → Int) {S n : Int} (h : 0 ≤ n ∧ n < S + 1) : idxD g (.lst ((rangeI 0 (S + 1)).map fun n => D.int (f n))) (.int n) = some (.int (f n)) := by
  have := x_lst g ((rangeI 0 (S + 1)).map fun n => D.int (f n)) (k := n.toNat) (d := .int (f n)) (by
    rw [List.getElem?_map, rangeI_get (by omega)]
    simp only [Option.map_some]
    congr 2; congr 1; omega)
  rwa [show ((n.toNat : Nat) : Int) = n by omega] at this
theorem before_x (g : G) (f : Int → Int) {S n : Int} (h0 : f (-1) = 0) (h : 0 ≤ n ∧ n < S + 1) : idxD g (.lst (D.int 0 :: (rangeI 0 (S + 1)).map fun n => D.int (f n))) (.int n) = some (.int (f (n - 1))) := by
  have := x_lst g (D.int 0 :: (rangeI 0 (S + 1)).map fun n => D.int (f n)) (k := n.toNat) (d := .int (f (n - 1))) (by
    by_cases q : n = 0
    · subst q
      show some (D.int 0) = some (D.int (f (0 - 1)))
      rw [show f (0 - 1) = 0 from h0]
    · obtain ⟨j, hj⟩ : ∃ j : Nat, n = (j : Int) + 1 := ⟨(n - 1).toNat, by omega⟩
      subst hj
      rw [show ((j : Int) + 1).toNat = j + 1 by omega, List.getElem?_cons_succ, List.getElem?_map, rangeI_get (by omega)]
      simp only [Option.map_some]
      congr 2; congr 1; omega)
  rwa [show ((n.toNat : Nat) : Int) = n by omega] at this
end KT

namespace KT
open KN
theorem maxI_mem2 : ∀ {ns : List Int}, ns ≠ [] → maxI ns ∈ ns ∧ ∀ y ∈ ns, y ≤ maxI ns
  | [], h => absurd rfl h
  | [x], _ => by simp [maxI]
  | x :: y :: r, _ => by
    obtain ⟨h1, h2⟩ := maxI_mem2 (ns := y :: r) (by simp)
    have e : maxI (x :: y :: r) = max x (maxI (y :: r)) := rfl
    rw [e]
    refine ⟨?_, fun z hz => ?_⟩
    · rcases Int.le_total x (maxI (y :: r)) with q | q
      · rw [Int.max_eq_right q]; exact List.mem_cons_of_mem _ h1
      · rw [Int.max_eq_left q]; exact List.mem_cons_self
    · rcases List.mem_cons.mp hz with q | q
      · omega
      · have := h2 z q; omega
theorem first_split (f : Int → Int) (m : Int) : ∀ l : List Int, (∃ n ∈ l, f n = m) → ∃ r1 n r2, l = r1 ++ n :: r2 ∧ f n = m ∧ ∀ x ∈ r1, f x ≠ m
  | [], h => by simp at h
  | a :: l, h => by
    by_cases q : f a = m
    · exact ⟨[], a, l, rfl, q, fun x hx => nomatch hx⟩
    · obtain ⟨n, hn, e⟩ := h
      rcases List.mem_cons.mp hn with rfl | hn
      · exact absurd e q
      · obtain ⟨r1, n', r2, e1, e2, e3⟩ := first_split f m l ⟨n, hn, e⟩
        refine ⟨a :: r1, n', r2, by rw [e1]; rfl, e2, fun x hx => ?_⟩
        rcases List.mem_cons.mp hx with rfl | hx
        · exact q
        · exact e3 x hx
theorem findD_at (f : Int → Int) (n : Int) (r2 : List Int) : ∀ (r1 : List Int) (k : Nat), (∀ x ∈ r1, f x ≠ f n) → findD (.int (f n)) ((r1 ++ n :: r2).map fun n => D.int (f n)) k = some (k + r1.length)
  | [], k, _ => by simp [findD, eqv]
  | a :: r1, k, h => by
    have := findD_at f n r2 r1 (k + 1) fun x hx => h x (by simp [hx])
    have ha : f a ≠ f n := h a (by simp)
    simp only [List.cons_append, List.map_cons, findD]
    rw [if_neg (by simp [eqv, ha]), this]
    simp; omega
theorem nin_ok (g : G) (x : Int) (l : List Int) : cmpD .nin g (.int x) (.lst (l.map .int)) = some (!decide (x ∈ l)) := by
  have h1 : (l.map D.int).all flatD = true := by
    rw [List.all_map]
    exact List.all_eq_true.mpr fun _ _ => rfl
  have h2 : inD (.int x) (l.map .int) = decide (x ∈ l) := by
    unfold inD
    rw [List.any_map]
    induction l with
    | nil => rfl
    | cons a l ih =>
      have ih' := ih (by rw [List.all_map]; exact List.all_eq_true.mpr fun _ _ => rfl)
      rw [List.any_cons, ih']
      by_cases h : x = a
      · subst h; simp [eqv]
      · have h2 : (a == x) = false := by simpa using Ne.symm h
        simp [eqv, h, h2]
  show (if flatD (.int x) = true ∧ (l.map D.int).all flatD = true then some (!inD (.int x) (l.map .int)) else none) = _
  rw [if_pos ⟨rfl, h1⟩, h2]
/-- what the law says of the peak -/
theorem peak_law (f : Int → Int) {S : Int} (hS : 0 ≤ S) (h0 : f (-1) = 0) (hn : ∀ n, 0 ≤ f n) (m : Int) (hm : m = maxI ((rangeI 0 (S + 1)).map f)) :
    (m ≤ 0 → peakF (chg f 0 (S + 1)) (0, none) = (0, none)) ∧
    (0 < m → ∃ n : Nat, peakF (chg f 0 (S + 1)) (0, none) = (m, some (n : Int)) ∧ findD (.int m) ((rangeI 0 (S + 1)).map fun n => D.int (f n)) 0 = some n) := by
  have hne : (rangeI 0 (S + 1)).map f ≠ [] := by
    intro e
    have := congrArg List.length e
    rw [List.length_map, rangeI_length] at this
    simp at this; omega
  obtain ⟨m1, m2⟩ := maxI_mem2 hne
  rw [← hm] at m1 m2
  rw [peak_all f (S + 1) _ 0 (0, none) rfl (by show f (-1) ≤ 0; omega)]
  refine ⟨fun h => peakF_low _ _ fun p hp => ?_, fun h => ?_⟩
  · obtain ⟨n, hn', rfl⟩ := List.mem_map.mp hp
    have := m2 (f n) (List.mem_map.mpr ⟨n, hn', rfl⟩)
    show f n ≤ 0
    omega
  · obtain ⟨n0, q1, q2⟩ := List.mem_map.mp m1
    obtain ⟨r1, n, r2, e1, e2, e3⟩ := first_split f m (rangeI 0 (S + 1)) ⟨n0, q1, q2⟩
    have hlen : r1.length < (S + 1).toNat := by
      have := congrArg List.length e1
      rw [rangeI_length, List.length_append, List.length_cons] at this
      omega
    have en : n = (r1.length : Int) := by
      have a := rangeI_get (lo := 0) (hi := S + 1) (k := r1.length) (by omega)
      rw [e1] at a
      simp at a
      omega
    refine ⟨r1.length, ?_, ?_⟩
    · have : allP f 0 (S + 1) = (r1.map fun n => (n, f n)) ++ (n, f n) :: (r2.map fun n => (n, f n)) := by
        unfold allP; rw [e1]; simp
      rw [this, peakF_at (p := (n, f n)) (by show (0 : Int) < f n; omega) (fun q hq => ?_) (fun q hq => ?_)]
      · show (f n, some n) = (m, some (r1.length : Int))
        rw [e2, en]
      · obtain ⟨x, hx, rfl⟩ := List.mem_map.mp hq
        have h1 := e3 x hx
        have h2 := m2 (f x) (List.mem_map.mpr ⟨x, by rw [e1]; simp [hx], rfl⟩)
        show f x < f n
        omega
      · obtain ⟨x, hx, rfl⟩ := List.mem_map.mp hq
        have h2 := m2 (f x) (List.mem_map.mpr ⟨x, by rw [e1]; simp [hx], rfl⟩)
        show f x ≤ f n
        omega
    · have := findD_at f n r2 r1 0 fun x hx => by rw [e2]; exact e3 x hx
      rw [e2, ← e1] at this
      simpa using this
end KT

namespace KT
open KN
theorem law_run (ns : List Int) : ∃ g, callF PG conG fuelG 40 1008 [.scr ns] [] = .ok (.bl true) g := by
  obtain ⟨t, r1, e1, t0, t1, p1⟩ := taken_ex ⟨ns, 0, 31, 0⟩ 60 [] (Int.le_refl _) (by decide) (by decide)
  obtain ⟨u, r2, e2, u0, u1, p2⟩ := taken_ex r1 31 [] p1 (by decide) (by decide)
  obtain ⟨w, r3, e3, w0, w1, p3⟩ := taken_ex r2 20 [] p2 (by decide) (by decide)
  obtain ⟨un, rfl⟩ : ∃ un : Nat, u = (un : Nat) := ⟨u.toNat, by omega⟩
  obtain ⟨S, hS⟩ : ∃ S : Int, S = 1 + t := ⟨_, rfl⟩
  have S1 : 1 ≤ S := by omega
  have S2 : S ≤ 60 := by omega
  obtain ⟨ps, r4, e4, p4, pl, pb⟩ := spans_ex r3 un S (1 + w) [] p3 (by omega) (by omega) (by omega) (by omega) (by omega)
  obtain ⟨b, ms, r5, e5, p5, hms⟩ := handed_ex r4 ps [] p4
  obtain ⟨f, hf⟩ : ∃ f : Int → Int, f = ldP ps := ⟨_, rfl⟩
  have hld : ld ms = f := by funext n; rw [ld_eq, hms, hf]
  have ml : ms.length ≤ 1000 := by
    have := congrArg List.length hms
    rw [List.length_map] at this
    omega
  have mb : ∀ m ∈ ms, 0 ≤ m.2.1 ∧ m.2.1 < m.2.2 ∧ m.2.2 ≤ S := fun m hm => pb m.2 (by rw [← hms]; exact List.mem_map.mpr ⟨m, hm, rfl⟩)
  have hst : steps ms = chg f 0 (S + 1) := by rw [steps_eq (size := S) (by omega) mb, hld]
  have f0' : ∀ n, 0 ≤ f n ∧ f n ≤ 30 := fun n => by rw [hf]; have := ldP_le ps n; omega
  have fm : f (-1) = 0 := by rw [hf]; exact ldP_out pb (.inl (by decide))
  have fS : f S = 0 := by rw [hf]; exact ldP_out pb (.inr (Int.le_refl _))
  obtain ⟨C, hC⟩ : ∃ C : List D, C = (rangeI 0 (S + 1)).map fun n => D.int (f n) := ⟨_, rfl⟩
  have Cx : ∀ g n, 0 ≤ n ∧ n < S + 1 → idxD g (.lst C) (.int n) = some (.int (f n)) := fun g n h => by rw [hC]; exact counts_x g f h
  have Bx : ∀ g n, 0 ≤ n ∧ n < S + 1 → idxD g (.lst (.int 0 :: C)) (.int n) = some (.int (f (n - 1))) := fun g n h => by rw [hC]; exact before_x g f fm h
  have q3 : ∀ g n, callF PG conG fuelG 39 3 [hd b ms, .int n] g = .ok (.int (f n)) g := fun g n => by rw [← hld]; exact load_ok g b ms 37 n
  have q5 : ∀ g n, callF PG conG fuelG 39 1005 [.lst (ps.map stD), .int n] g = .ok (.int (f n)) g := fun g n => by rw [hf]; exact law_load_ok 38 g ps n
  have q4 : ∀ g, callF PG conG fuelG 39 4 [hd b ms] g = .ok (.tup ((chg f 0 (S + 1)).map stD)) g := fun g => by rw [← hst]; exact load_steps_ok g b ms 36 ml
  have clen : (chg f 0 (S + 1)).length ≤ 1000 := by
    unfold chg
    rw [List.length_map]
    have := List.length_filter_le (fun n => decide (f n ≠ f (n - 1))) (rangeI 0 (S + 1))
    rw [rangeI_length] at this
    omega
  suffices h : ∃ s g, evSs ⟨callF PG conG fuelG 39, conG, fuelG⟩ f1008.body (start f1008 [.scr ns]) [] = .rt (.bl true) (rowO s :: g) from by
    obtain ⟨s, g, h⟩ := h
    refine ⟨[], ?_⟩
    show (if [D.scr ns].length = f1008.np then endF f1008.keep [] (evSs ⟨callF PG conG fuelG 39, conG, fuelG⟩ f1008.body (start f1008 [.scr ns]) []) else .st) = _
    rw [if_pos (show [D.scr ns].length = f1008.np from rfl), h]
    exact exitD_pur [] _ _ rfl
  suffices h : ∃ r' : Row, evSs ⟨callF PG conG fuelG 39, conG, fuelG⟩ f1008.body (start f1008 [.scr ns]) [] = .rt (.bl true) [rowO r'] from by
    obtain ⟨r', h⟩ := h
    exact ⟨r', [], h⟩
  obtain ⟨m, hm⟩ : ∃ m : Int, m = maxI ((rangeI 0 (S + 1)).map f) := ⟨_, rfl⟩
  have hm0 := peak_law f (S := S) (by omega) fm (fun n => (f0' n).1) m hm
  have m0 : 0 ≤ m ∧ m ≤ 30 := by
    have hne : (rangeI 0 (S + 1)).map f ≠ [] := by
      intro e
      have := congrArg List.length e
      rw [List.length_map, rangeI_length] at this
      simp at this; omega
    obtain ⟨a, _⟩ := maxI_mem2 hne
    obtain ⟨n, _, e⟩ := List.mem_map.mp a
    have := f0' n
    omega
  obtain ⟨bp, hbp⟩ : ∃ bp, bp = peakF (chg f 0 (S + 1)) (0, none) := ⟨_, rfl⟩
  have q6 : ∀ g, callF PG conG fuelG 39 5 [hd b ms] g = .ok (bestD bp) g := fun g => by rw [hbp, ← hst]; exact peak_ok g b ms 35 ml
  obtain ⟨x7, r7, e7, x70, x71, p7⟩ := taken_ex r5 31 [] p5 (by decide) (by decide)
  obtain ⟨y, hy⟩ : ∃ y : Int, y = if m - 1 > 0 then m - 1 else 0 := ⟨_, rfl⟩
  have y0 : 0 ≤ y := by rw [hy]; split <;> omega
  have hmx : ∀ g, biD .max g [.int 0, .int (m - 1)] = some (.int y) := fun g => by rw [i_max2, hy]
  obtain ⟨Rm, r8, e8, p8, hR⟩ := pick_ex r7 [0, y, m, m + 1, x7] [] p7 (by simp) (by simp)
  have R0 : 0 ≤ Rm := by
    simp only [List.mem_cons, List.not_mem_nil, or_false] at hR
    omega
  obtain ⟨ov, hov⟩ : ∃ ov : List Int, ov = (rangeI 0 (S + 1)).filter fun n => decide (Rm < f n) := ⟨_, rfl⟩
  have q7 : ∀ g, callF PG conG fuelG 39 6 [hd b ms, .int Rm] g = .ok (nD ov.head?) g := fun g => by
    have e := first_over_ok g b ms 35 Rm ml
    rw [hst, first_all f Rm (S + 1) _ 0 rfl (by show f (-1) ≤ Rm; omega), ← hov] at e
    exact e
  obtain ⟨z, hz⟩ : ∃ z, z = overF Rm (chg f 0 (S + 1)) ([], none) := ⟨_, rfl⟩
  have q8 : ∀ g, callF PG conG fuelG 39 7 [hd b ms, .int Rm] g = .ok (.tup (z.1.map stD)) g := fun g => by rw [hz, ← hst]; exact over_spans_ok g b ms 35 Rm ml
  have hov3 := over_all f Rm (S + 1) _ 0 [] none rfl (by omega) (by show false = decide (Rm < f (-1)); rw [fm]; simp; omega)
  simp only [← hz] at hov3
  obtain ⟨z1, z2, z3⟩ := hov3
  have q9 : ∀ g, callF PG conG fuelG 39 8 [hd b ms] g = .ok (.int (((rangeI 0 (S + 1)).map f).sum)) g := fun g => by
    have e := nights_sold_ok g b ms 37
    have : (ms.map fun m => m.2.2 - m.2.1) = ps.map fun p => p.2 - p.1 := by rw [← hms, List.map_map]; rfl
    rw [this, ← sold_eq S (by omega) ps pb, ← hf] at e
    exact e
  obtain ⟨pt, r9, e9, pt0, pt1, pt2⟩ := span_ex r8 S S [] p8 (by omega) (by omega) (by omega) (by omega)
  have q10 : ∀ g, callF PG conG fuelG 39 9 [hd b ms, .int pt.1, .int pt.2] g = .ok (.tup (cntL pt.1 pt.2 f)) g := fun g => by
    rw [← hld]
    exact load_row_ok g b ms 38 pt.1 pt.2 pt0 (by omega) (by omega) fun m hm => by have := mb m hm; omega
  refine ⟨r9, ?_⟩
  have Rg : ∀ {s : St} {g : G} {a : LE}, evE ⟨callF PG conG fuelG 39, conG, fuelG⟩ a s g = .ok (.int (S + 1)) g → evI ⟨callF PG conG fuelG 39, conG, fuelG⟩ (.range1 a) s g = .ok ((rangeI 0 (S + 1)).map .int, none) g := fun h => evI_r1 h (by omega) (by omega)
  refine (evSs_nx (s1 := [some (.scr ns), some (.ref 0), none, none, none, none, none, none, none, none, none, none, none, none, none, none, none]) (g1 := [rowO ⟨ns, 0, 31, 0⟩]) ?_).trans ?_
  · simp [start, f1008, mkL, rowO]
  refine (evSs_nx (s1 := [some (.scr ns), some (.ref 0), some (.int S), none, none, none, none, none, none, none, none, none, none, none, none, none, none]) (g1 := [rowO r1]) ?_).trans ?_
  · simp [e1, hS]
  refine (evSs_nx (s1 := [some (.scr ns), some (.ref 0), some (.int S), some (.lst (ps.map stD)), none, none, none, none, none, none, none, none, none, none, none, none, none]) (g1 := [rowO r4]) ?_).trans ?_
  · simp [e2, e3, e4]
  refine (evSs_nx (s1 := [some (.scr ns), some (.ref 0), some (.int S), some (.lst (ps.map stD)), some (hd b ms), none, none, none, none, none, none, none, none, none, none, none, none]) (g1 := [rowO r5]) ?_).trans ?_
  · simp [e5]
  refine (evSs_nx (s1 := [some (.scr ns), some (.ref 0), some (.int S), some (.lst (ps.map stD)), some (hd b ms), some (.lst C), none, none, none, none, none, none, none, none, none, none, none]) (g1 := [rowO r5]) ?_).trans ?_
  · rw [evS_set, evE_comp, Rg (by simp), KN.R.bind_ok, comp_pure (lk := none) D.int (fun _ => true) (fun n => .int (f n)) _ trivial]
    · simp [mkC, hC]
    · intro n hn
      exact ⟨_, rfl, by simp, fun _ => by simp [q5]⟩
  refine (evSs_nx (s1 := [some (.scr ns), some (.ref 0), some (.int S), some (.lst (ps.map stD)), some (hd b ms), some (.lst C), none, none, none, none, none, none, none, none, none, none, none]) (g1 := [rowO r5]) ?_).trans ?_
  · refine evS_skip ?_
    rw [evC_cmp, evE_comp, Rg (by simp), KN.R.bind_ok, comp_pure (lk := none) D.int (fun _ => false) D.int _ trivial]
    · simp [mkC, mkL, eqDs_nil]
    · intro n hn
      refine ⟨_, rfl, ?_, fun h => by simp at h⟩
      simp [q3, Cx _ n (mem_rangeI.mp hn), alike_at 0 (.int (f n)) _ (by decide) rfl]
  refine (evSs_nx (s1 := [some (.scr ns), some (.ref 0), some (.int S), some (.lst (ps.map stD)), some (hd b ms), some (.lst C), none, some (.lst (.int 0 :: C)), none, none, none, none, none, none, none, none, none]) (g1 := [rowO r5]) ?_).trans ?_
  · have : (1 : Nat) + C.length ≤ LIM := lim_le (by rw [hC, List.length_map, rangeI_length]; omega)
    simp [mkL, b_cat _ [D.int 0] C this]
  refine (evSs_nx (s1 := [some (.scr ns), some (.ref 0), some (.int S), some (.lst (ps.map stD)), some (hd b ms), some (.lst C), none, some (.lst (.int 0 :: C)), some (.lst ((chg f 0 (S + 1)).map stD)), none, none, none, none, none, none, none, none]) (g1 := [rowO r5]) ?_).trans ?_
  · rw [evS_set, evE_comp, Rg (by simp), KN.R.bind_ok, comp_pure (lk := none) D.int (fun n => decide (f n ≠ f (n - 1))) (fun n => stD (n, f n)) _ trivial]
    · simp [mkC, chg, Function.comp_def]
    · intro n hn
      refine ⟨_, rfl, ?_, fun _ => ?_⟩
      · simp [Cx _ n (mem_rangeI.mp hn), Bx _ n (mem_rangeI.mp hn)]
      · simp [Cx _ n (mem_rangeI.mp hn), stD]
  refine (evSs_nx (s1 := [some (.scr ns), some (.ref 0), some (.int S), some (.lst (ps.map stD)), some (hd b ms), some (.lst C), none, some (.lst (.int 0 :: C)), some (.lst ((chg f 0 (S + 1)).map stD)), none, none, none, none, none, none, none, none]) (g1 := [rowO r5]) ?_).trans ?_
  · refine evS_skip ?_
    simp [q4, alike_at 2 _ _ (by decide) (pln_tupS _ (Nat.le_trans clen (by decide)))]
  have emax : ∀ g, biD .max g [.lst C] = some (.int m) := fun g => by
    have := i_max g ((rangeI 0 (S + 1)).map f) (by
      intro e
      have := congrArg List.length e
      rw [List.length_map, rangeI_length] at this
      simp at this; omega)
    rw [List.map_map] at this
    rw [hC, hm]
    exact this
  refine (evSs_nx (s1 := [some (.scr ns), some (.ref 0), some (.int S), some (.lst (ps.map stD)), some (hd b ms), some (.lst C), none, some (.lst (.int 0 :: C)), some (.lst ((chg f 0 (S + 1)).map stD)), some (.int m), none, none, none, none, none, none, none]) (g1 := [rowO r5]) ?_).trans ?_
  · simp [emax]
  refine (evSs_nx (s1 := [some (.scr ns), some (.ref 0), some (.int S), some (.lst (ps.map stD)), some (hd b ms), some (.lst C), none, some (.lst (.int 0 :: C)), some (.lst ((chg f 0 (S + 1)).map stD)), some (.int m), some (bestD (0, none)), none, none, none, none, none, none]) (g1 := [rowO r5]) ?_).trans ?_
  · simp [bestD]
  refine (evSs_nx (s1 := [some (.scr ns), some (.ref 0), some (.int S), some (.lst (ps.map stD)), some (hd b ms), some (.lst C), none, some (.lst (.int 0 :: C)), some (.lst ((chg f 0 (S + 1)).map stD)), some (.int m), some (bestD bp), none, none, none, none, none, none]) (g1 := [rowO r5]) ?_).trans ?_
  · by_cases h : 0 < m
    · obtain ⟨n, h1, h2⟩ := hm0.2 h
      rw [hbp, h1]
      have hx : ∀ g, indexD g (.lst C) (.int m) = some (.int (n : Nat)) := fun g => by
        have fl : C.all flatD = true := by
          rw [hC, List.all_map]
          exact List.all_eq_true.mpr fun _ _ => rfl
        show (if flatD (.int m) = true ∧ C.all flatD = true then (findD (.int m) C 0).map fun n => D.int (n : Nat) else none) = _
        rw [if_pos ⟨rfl, fl⟩, hC, h2]
        rfl
      simp [h, hx, bestD]
    · rw [hbp, hm0.1 (by omega)]
      refine evS_skip ?_
      simp [h]
  refine (evSs_nx (s1 := [some (.scr ns), some (.ref 0), some (.int S), some (.lst (ps.map stD)), some (hd b ms), some (.lst C), none, some (.lst (.int 0 :: C)), some (.lst ((chg f 0 (S + 1)).map stD)), some (.int m), some (bestD bp), none, none, none, none, none, none]) (g1 := [rowO r5]) ?_).trans ?_
  · refine evS_skip ?_
    have hp : pln 2 (bestD bp) = true := by simp [bestD, pln, plns, pln_nD]
    simp [q6, alike_at 2 _ _ (by decide) hp]
  refine (evSs_nx (s1 := [some (.scr ns), some (.ref 0), some (.int S), some (.lst (ps.map stD)), some (hd b ms), some (.lst C), none, some (.lst (.int 0 :: C)), some (.lst ((chg f 0 (S + 1)).map stD)), some (.int m), some (bestD bp), some (.int Rm), none, none, none, none, none]) (g1 := [rowO r8]) ?_).trans ?_
  · simp only [List.map_cons, List.map_nil] at e8
    simp [-i_max2, hmx, e7, e8, mkL]
  refine (evSs_nx (s1 := [some (.scr ns), some (.ref 0), some (.int S), some (.lst (ps.map stD)), some (hd b ms), some (.lst C), none, some (.lst (.int 0 :: C)), some (.lst ((chg f 0 (S + 1)).map stD)), some (.int m), some (bestD bp), some (.int Rm), some (.lst (ov.map .int)), none, none, none, none]) (g1 := [rowO r8]) ?_).trans ?_
  · rw [evS_set, evE_comp, Rg (by simp), KN.R.bind_ok, comp_pure (lk := none) D.int (fun n => decide (Rm < f n)) D.int _ trivial]
    · simp [mkC, hov]
    · intro n hn
      refine ⟨_, rfl, ?_, fun _ => by simp⟩
      simp [Cx _ n (mem_rangeI.mp hn)]
  have ovl : ov.length ≤ 1000 := by
    rw [hov]
    have := List.length_filter_le (fun n => decide (Rm < f n)) (rangeI 0 (S + 1))
    rw [rangeI_length] at this
    omega
  have hb1 : ∀ g, binD .add g (.lst (ov.map .int)) (.lst [.non]) = some (.lst (ov.map .int ++ [.non])) := fun g => b_cat g _ _ (lim_le (by simp; omega))
  have hb2 : ∀ g, idxD g (.lst (ov.map .int ++ [.non])) (.int 0) = some (nD ov.head?) := fun g => by cases ov <;> simp
  have mov : ∀ n, n ∈ ov ↔ (0 ≤ n ∧ n < S + 1) ∧ Rm < f n := fun n => by rw [hov, List.mem_filter, mem_rangeI, decide_eq_true_iff]
  have nin : ∀ (g : G) (x : Int), cmpD .nin g (.int x) (.lst (ov.map .int)) = some (!decide (x ∈ ov)) := fun g x => nin_ok g x ov
  refine (evSs_nx (s1 := [some (.scr ns), some (.ref 0), some (.int S), some (.lst (ps.map stD)), some (hd b ms), some (.lst C), none, some (.lst (.int 0 :: C)), some (.lst ((chg f 0 (S + 1)).map stD)), some (.int m), some (bestD bp), some (.int Rm), some (.lst (ov.map .int)), none, none, none, none]) (g1 := [rowO r8]) ?_).trans ?_
  · refine evS_skip ?_
    simp [mkL, hb1, hb2, q7, alike_at 0 _ _ (by decide) (pln_nD 0 ov.head?)]
  obtain ⟨fs, hfs⟩ : ∃ fs : List Int, fs = ov.filter fun n => !decide (n - 1 ∈ ov) := ⟨_, rfl⟩
  obtain ⟨la, hla⟩ : ∃ la : List Int, la = ov.filter fun n => !decide (n + 1 ∈ ov) := ⟨_, rfl⟩
  refine (evSs_nx (s1 := [some (.scr ns), some (.ref 0), some (.int S), some (.lst (ps.map stD)), some (hd b ms), some (.lst C), none, some (.lst (.int 0 :: C)), some (.lst ((chg f 0 (S + 1)).map stD)), some (.int m), some (bestD bp), some (.int Rm), some (.lst (ov.map .int)), some (.lst (fs.map .int)), none, none, none]) (g1 := [rowO r8]) ?_).trans ?_
  · have sq : ∀ s, s[12]? = some (some (D.lst (ov.map .int))) → evI ⟨callF PG conG fuelG 39, conG, fuelG⟩ (.seq (.var 12)) s [rowO r8] = .ok (ov.map .int, none) [rowO r8] := fun s h => by rw [evI_sq, evE_var, h]; rfl
    rw [evS_set, evE_comp, sq _ rfl, KN.R.bind_ok, comp_pure (lk := none) D.int (fun n => !decide (n - 1 ∈ ov)) D.int _ trivial]
    · simp [mkC, hfs]
    · intro n hn
      refine ⟨_, rfl, ?_, fun _ => by simp⟩
      simp [nin]
  refine (evSs_nx (s1 := [some (.scr ns), some (.ref 0), some (.int S), some (.lst (ps.map stD)), some (hd b ms), some (.lst C), none, some (.lst (.int 0 :: C)), some (.lst ((chg f 0 (S + 1)).map stD)), some (.int m), some (bestD bp), some (.int Rm), some (.lst (ov.map .int)), some (.lst (fs.map .int)), some (.lst (la.map .int)), none, none]) (g1 := [rowO r8]) ?_).trans ?_
  · have sq : ∀ s, s[12]? = some (some (D.lst (ov.map .int))) → evI ⟨callF PG conG fuelG 39, conG, fuelG⟩ (.seq (.var 12)) s [rowO r8] = .ok (ov.map .int, none) [rowO r8] := fun s h => by rw [evI_sq, evE_var, h]; rfl
    rw [evS_set, evE_comp, sq _ rfl, KN.R.bind_ok, comp_pure (lk := none) D.int (fun n => !decide (n + 1 ∈ ov)) D.int _ trivial]
    · simp [mkC, hla]
    · intro n hn
      refine ⟨_, rfl, ?_, fun _ => by simp⟩
      simp [nin]
  have zn : z.2 = none := by
    rw [show S + 1 - 1 = S by omega, fS] at z3
    cases h : z.2 with
    | none => rfl
    | some i => rw [h] at z3; simp at z3; omega
  have zf : fs = z.1.map (·.1) := by
    rw [zn] at z1
    simp only [Option.toList_none, List.append_nil, List.map_nil, List.nil_append] at z1
    rw [z1, hfs]
    have : ov.filter (fun n => !decide (n - 1 ∈ ov)) = ((rangeI 0 (S + 1)).filter fun n => decide (Rm < f n)).filter (fun n => !decide (n - 1 ∈ ov)) := by rw [← hov]
    rw [this, List.filter_filter]
    apply List.filter_congr
    intro n hn
    obtain ⟨a1, a2⟩ := mem_rangeI.mp hn
    have : (n - 1 ∈ ov) ↔ Rm < f (n - 1) := by
      rw [mov]
      constructor
      · exact fun h => h.2
      · intro h
        refine ⟨⟨?_, by omega⟩, h⟩
        by_cases q : n = 0
        · subst q; rw [show (0 : Int) - 1 = -1 from rfl, fm] at h; omega
        · omega
    simp only [this]
    rw [Bool.and_comm]
  have zl : la.map (· + 1) = z.1.map (·.2) := by
    simp only [List.map_nil, List.nil_append] at z2
    rw [z2, closes_eq f Rm S (by omega) (by rw [fm]; omega) (by rw [fS]; omega), hla]
    congr 1
    have : ov.filter (fun n => !decide (n + 1 ∈ ov)) = ((rangeI 0 (S + 1)).filter fun n => decide (Rm < f n)).filter (fun n => !decide (n + 1 ∈ ov)) := by rw [← hov]
    rw [this, List.filter_filter]
    apply List.filter_congr
    intro n hn
    obtain ⟨a1, a2⟩ := mem_rangeI.mp hn
    by_cases q : n = S
    · subst q
      have : ¬ Rm < f n := by rw [fS]; omega
      simp [this]
    · have : (n + 1 ∈ ov) ↔ Rm < f (n + 1) := by
        rw [mov]
        exact ⟨fun h => h.2, fun h => ⟨⟨by omega, by omega⟩, h⟩⟩
      simp only [this]
      rw [Bool.and_comm]
  have zlen : fs.length = z.1.length := by rw [zf, List.length_map]
  have zlen2 : z.1.length ≤ 1000 := by
    rw [← zlen, hfs]
    exact Nat.le_trans (List.length_filter_le _ _) ovl
  refine (evSs_nx (s1 := [some (.scr ns), some (.ref 0), some (.int S), some (.lst (ps.map stD)), some (hd b ms), some (.lst C), none, some (.lst (.int 0 :: C)), some (.lst ((chg f 0 (S + 1)).map stD)), some (.int m), some (bestD bp), some (.int Rm), some (.lst (ov.map .int)), some (.lst (fs.map .int)), some (.lst (la.map .int)), none, none]) (g1 := [rowO r8]) ?_).trans ?_
  · refine evS_skip ?_
    have er : ∀ s : St, s[13]? = some (some (D.lst (fs.map .int))) → evI ⟨callF PG conG fuelG 39, conG, fuelG⟩ (.range1 (.bi .len (.cons (.var 13) .nil))) s [rowO r8] = .ok ((List.range z.1.length).map fun k => D.int (k : Nat), none) [rowO r8] := fun s h => by
      refine evI_rN ?_ (lim_le (by omega))
      simp [h, zlen]
    have ec : ∀ s : St, s = [some (.scr ns), some (.ref 0), some (.int S), some (.lst (ps.map stD)), some (hd b ms), some (.lst C), none, some (.lst (.int 0 :: C)), some (.lst ((chg f 0 (S + 1)).map stD)), some (.int m), some (bestD bp), some (.int Rm), some (.lst (ov.map .int)), some (.lst (fs.map .int)), some (.lst (la.map .int)), none, none] → compL (.name 15) none (evCs ⟨callF PG conG fuelG 39, conG, fuelG⟩ .no) (evE ⟨callF PG conG fuelG 39, conG, fuelG⟩ (.tup (.cons (.idx (.var 13) (.var 15)) (.cons (.bin .add (.idx (.var 14) (.var 15)) (.int 1)) .nil)))) ((List.range z.1.length).map fun k => D.int (k : Nat)) s [rowO r8] = .ok (z.1.map stD) [rowO r8] := fun s hs => by
      subst hs
      rw [comp_pure (lk := none) (fun k : Nat => D.int (k : Nat)) (fun _ => true) (fun k => stD (z.1.getD k (0, 0))) _ trivial]
      · congr 1
        rw [filter_tt]
        apply List.ext_getElem?
        intro i
        rw [List.getElem?_map, List.getElem?_map]
        by_cases hi : i < z.1.length
        · rw [List.getElem?_range hi]
          simp [hi]
        · rw [List.getElem?_eq_none (by rw [List.length_range]; omega), List.getElem?_eq_none (by omega)]; rfl
      · intro k hk
        have hk' : k < z.1.length := List.mem_range.mp hk
        have g1 : fs[k]? = some (z.1[k]).1 := by rw [zf, List.getElem?_map, List.getElem?_eq_getElem hk']; rfl
        have g2 : ∃ l, la[k]? = some l ∧ l + 1 = (z.1[k]).2 := by
          have e : (la.map (· + 1))[k]? = some (z.1[k]).2 := by rw [zl, List.getElem?_map, List.getElem?_eq_getElem hk']; rfl
          rw [List.getElem?_map] at e
          cases h : la[k]? with
          | none => rw [h] at e; cases e
          | some l => rw [h] at e; exact ⟨l, rfl, Option.some.inj e⟩
        obtain ⟨l, g3, g4⟩ := g2
        have i1 : ∀ g, idxD g (.lst (fs.map .int)) (.int (k : Nat)) = some (.int (z.1[k]).1) := fun g => x_lst g _ (by rw [List.getElem?_map, g1]; rfl)
        have i2 : ∀ g, idxD g (.lst (la.map .int)) (.int (k : Nat)) = some (.int l) := fun g => x_lst g _ (by rw [List.getElem?_map, g3]; rfl)
        refine ⟨_, rfl, by simp, fun _ => ?_⟩
        simp [i1, i2, g4, stD, hk']
    simp [er, ec, mkC, q8, alike_at 2 _ _ (by decide) (pln_tupS z.1 (Nat.le_trans zlen2 (by decide)))]
  have esum : ∀ g, biD .sum g [.lst C] = some (.int (((rangeI 0 (S + 1)).map f).sum)) := fun g => by
    have := i_sum g ((rangeI 0 (S + 1)).map f)
    rw [List.map_map] at this
    rw [hC]
    exact this
  refine (evSs_nx (s1 := [some (.scr ns), some (.ref 0), some (.int S), some (.lst (ps.map stD)), some (hd b ms), some (.lst C), none, some (.lst (.int 0 :: C)), some (.lst ((chg f 0 (S + 1)).map stD)), some (.int m), some (bestD bp), some (.int Rm), some (.lst (ov.map .int)), some (.lst (fs.map .int)), some (.lst (la.map .int)), none, none]) (g1 := [rowO r8]) ?_).trans ?_
  · refine evS_skip ?_
    simp [q9, esum, alike_at 0 (.int _) _ (by decide) rfl]
  refine (evSs_nx (s1 := [some (.scr ns), some (.ref 0), some (.int S), some (.lst (ps.map stD)), some (hd b ms), some (.lst C), none, some (.lst (.int 0 :: C)), some (.lst ((chg f 0 (S + 1)).map stD)), some (.int m), some (bestD bp), some (.int Rm), some (.lst (ov.map .int)), some (.lst (fs.map .int)), some (.lst (la.map .int)), none, some (stD pt)]) (g1 := [rowO r9]) ?_).trans ?_
  · simp [e9]
  refine (evSs_rt ?_)
  have s0 : ∀ g, idxD g (stD pt) (.int 0) = some (.int pt.1) := fun g => by simp [stD]
  have s1 : ∀ g, idxD g (stD pt) (.int 1) = some (.int pt.2) := fun g => by simp [stD]
  have sl : ∀ g, sliD g (.lst C) (some pt.1) (some pt.2) = some (.lst (cntL pt.1 pt.2 f)) := fun g => by
    show some (D.lst (cut C (some pt.1) (some pt.2))) = _
    rw [hC, cut_counts _ pt0 (by omega) pt2]
    rfl
  have cl : pln 1 (.tup (cntL pt.1 pt.2 f)) = true := by
    have := pln_tupI ((rangeI pt.1 pt.2).map f) (by rw [List.length_map, rangeI_length]; omega)
    rw [List.map_map] at this
    exact this
  simp [s0, s1, sl, q10, alike_at 1 _ _ (by decide) cl]
end KT

namespace KT
open PySem PySem.Spec PyProof.Rows L2 KN
def topS (i : Nat) : Stmt := PySem.Challenge.pw_keptnights_k03_whole_loads.main.body.getD i (.Pass ⟨0, 0, 0, 0⟩)
def d0 : Df := ⟨0, "span_length", topS 1, ["span"], ["span"], f0⟩
def d1 : Df := ⟨1, "has_night", topS 2, ["span", "night"], ["span", "night"], f1⟩
def d2 : Df := ⟨2, "turning_nights", topS 3, ["spans", "found", "first", "leave"], ["spans"], f2⟩
def d3 : Df := ⟨3, "load", topS 5, ["spans", "night", "span"], ["spans", "night"], f3⟩
def d4 : Df := ⟨4, "load_steps", topS 6, ["spans", "steps", "last", "night", "here"], ["spans"], f4⟩
def d5 : Df := ⟨5, "peak", topS 7, ["spans", "best", "night", "here"], ["spans"], f5⟩
def d6 : Df := ⟨6, "first_over", topS 8, ["spans", "rooms", "night", "here"], ["spans", "rooms"], f6⟩
def d7 : Df := ⟨7, "over_spans", topS 9, ["spans", "rooms", "found", "begun", "night", "here"], ["spans", "rooms"], f7⟩
def d8 : Df := ⟨8, "nights_sold", topS 10, ["spans", "span"], ["spans"], f8⟩
def d9 : Df := ⟨9, "load_row", topS 11, ["spans", "first", "leave", "counts", "_", "span", "night"], ["spans", "first", "leave"], f9⟩
def d1000 : Df := ⟨1000, "_law_taken", topS 13, ["row", "many", "found", "cell"], ["row", "many"], f1000⟩
def d1001 : Df := ⟨1001, "_law_pick", topS 14, ["row", "kinds"], ["row", "kinds"], f1001⟩
def d1002 : Df := ⟨1002, "_law_alike", topS 15, ["found", "due", "k"], ["found", "due"], f1002⟩
def d1003 : Df := ⟨1003, "_law_span", topS 16, ["row", "top", "longest", "first"], ["row", "top", "longest"], f1003⟩
def d1004 : Df := ⟨1004, "_law_spans", topS 17, ["row", "many", "top", "longest", "found", "k"], ["row", "many", "top", "longest"], f1004⟩
def d1005 : Df := ⟨1005, "_law_load", topS 18, ["spans", "night", "span"], ["spans", "night"], f1005⟩
def d1006 : Df := ⟨1006, "_law_mixed", topS 19, ["row", "value"], ["row", "value"], f1006⟩
def d1007 : Df := ⟨1007, "_law_handed", topS 20, ["row", "spans", "span"], ["row", "spans"], f1007⟩
def d1008 : Df := ⟨1008, "law", topS 21, ["script", "row", "size", "spans", "handed", "counts", "night", "before", "steps", "most", "due", "rooms", "over", "firsts", "lasts", "k", "part"], ["script"], f1008⟩
def defsL : List Df := [d0, d1, d2, d3, d4, d5, d6, d7, d8, d9, d1000, d1001, d1002, d1003, d1004, d1005, d1006, d1007, d1008]
theorem defs_ok : (defsL.all fun d => d.ok (Txt.of defsL cnG conG fuelG)) = true := by decide +kernel
theorem pg_eq : (fun f => (findDf f defsL).map (·.F)) = PG := (look_eq defsL).trans rfl
theorem b0 (kV doc pm : Value) (an : Option Addr) (cdv ct : Value) (us : List Value) (hl : us.length = d0.ps.length) : bindArgs (PySem.W.fnOf d0.nm d0.nm (defArgs d0.st) (defBody d0.st) (defScope d0.st) .none kV doc pm an cdv ct) ⟨us, []⟩ = pure (d0.ps.zip us) := match us, hl with
  | [_], _ => rfl
theorem b1 (kV doc pm : Value) (an : Option Addr) (cdv ct : Value) (us : List Value) (hl : us.length = d1.ps.length) : bindArgs (PySem.W.fnOf d1.nm d1.nm (defArgs d1.st) (defBody d1.st) (defScope d1.st) .none kV doc pm an cdv ct) ⟨us, []⟩ = pure (d1.ps.zip us) := match us, hl with
  | [_, _], _ => rfl
theorem b2 (kV doc pm : Value) (an : Option Addr) (cdv ct : Value) (us : List Value) (hl : us.length = d2.ps.length) : bindArgs (PySem.W.fnOf d2.nm d2.nm (defArgs d2.st) (defBody d2.st) (defScope d2.st) .none kV doc pm an cdv ct) ⟨us, []⟩ = pure (d2.ps.zip us) := match us, hl with
  | [_], _ => rfl
theorem b3 (kV doc pm : Value) (an : Option Addr) (cdv ct : Value) (us : List Value) (hl : us.length = d3.ps.length) : bindArgs (PySem.W.fnOf d3.nm d3.nm (defArgs d3.st) (defBody d3.st) (defScope d3.st) .none kV doc pm an cdv ct) ⟨us, []⟩ = pure (d3.ps.zip us) := match us, hl with
  | [_, _], _ => rfl
theorem b4 (kV doc pm : Value) (an : Option Addr) (cdv ct : Value) (us : List Value) (hl : us.length = d4.ps.length) : bindArgs (PySem.W.fnOf d4.nm d4.nm (defArgs d4.st) (defBody d4.st) (defScope d4.st) .none kV doc pm an cdv ct) ⟨us, []⟩ = pure (d4.ps.zip us) := match us, hl with
  | [_], _ => rfl
theorem b5 (kV doc pm : Value) (an : Option Addr) (cdv ct : Value) (us : List Value) (hl : us.length = d5.ps.length) : bindArgs (PySem.W.fnOf d5.nm d5.nm (defArgs d5.st) (defBody d5.st) (defScope d5.st) .none kV doc pm an cdv ct) ⟨us, []⟩ = pure (d5.ps.zip us) := match us, hl with
  | [_], _ => rfl
theorem b6 (kV doc pm : Value) (an : Option Addr) (cdv ct : Value) (us : List Value) (hl : us.length = d6.ps.length) : bindArgs (PySem.W.fnOf d6.nm d6.nm (defArgs d6.st) (defBody d6.st) (defScope d6.st) .none kV doc pm an cdv ct) ⟨us, []⟩ = pure (d6.ps.zip us) := match us, hl with
  | [_, _], _ => rfl
theorem b7 (kV doc pm : Value) (an : Option Addr) (cdv ct : Value) (us : List Value) (hl : us.length = d7.ps.length) : bindArgs (PySem.W.fnOf d7.nm d7.nm (defArgs d7.st) (defBody d7.st) (defScope d7.st) .none kV doc pm an cdv ct) ⟨us, []⟩ = pure (d7.ps.zip us) := match us, hl with
  | [_, _], _ => rfl
theorem b8 (kV doc pm : Value) (an : Option Addr) (cdv ct : Value) (us : List Value) (hl : us.length = d8.ps.length) : bindArgs (PySem.W.fnOf d8.nm d8.nm (defArgs d8.st) (defBody d8.st) (defScope d8.st) .none kV doc pm an cdv ct) ⟨us, []⟩ = pure (d8.ps.zip us) := match us, hl with
  | [_], _ => rfl
theorem b9 (kV doc pm : Value) (an : Option Addr) (cdv ct : Value) (us : List Value) (hl : us.length = d9.ps.length) : bindArgs (PySem.W.fnOf d9.nm d9.nm (defArgs d9.st) (defBody d9.st) (defScope d9.st) .none kV doc pm an cdv ct) ⟨us, []⟩ = pure (d9.ps.zip us) := match us, hl with
  | [_, _, _], _ => rfl
theorem b1000 (kV doc pm : Value) (an : Option Addr) (cdv ct : Value) (us : List Value) (hl : us.length = d1000.ps.length) : bindArgs (PySem.W.fnOf d1000.nm d1000.nm (defArgs d1000.st) (defBody d1000.st) (defScope d1000.st) .none kV doc pm an cdv ct) ⟨us, []⟩ = pure (d1000.ps.zip us) := match us, hl with
  | [_, _], _ => rfl
theorem b1001 (kV doc pm : Value) (an : Option Addr) (cdv ct : Value) (us : List Value) (hl : us.length = d1001.ps.length) : bindArgs (PySem.W.fnOf d1001.nm d1001.nm (defArgs d1001.st) (defBody d1001.st) (defScope d1001.st) .none kV doc pm an cdv ct) ⟨us, []⟩ = pure (d1001.ps.zip us) := match us, hl with
  | [_, _], _ => rfl
theorem b1002 (kV doc pm : Value) (an : Option Addr) (cdv ct : Value) (us : List Value) (hl : us.length = d1002.ps.length) : bindArgs (PySem.W.fnOf d1002.nm d1002.nm (defArgs d1002.st) (defBody d1002.st) (defScope d1002.st) .none kV doc pm an cdv ct) ⟨us, []⟩ = pure (d1002.ps.zip us) := match us, hl with
  | [_, _], _ => rfl
theorem b1003 (kV doc pm : Value) (an : Option Addr) (cdv ct : Value) (us : List Value) (hl : us.length = d1003.ps.length) : bindArgs (PySem.W.fnOf d1003.nm d1003.nm (defArgs d1003.st) (defBody d1003.st) (defScope d1003.st) .none kV doc pm an cdv ct) ⟨us, []⟩ = pure (d1003.ps.zip us) := match us, hl with
  | [_, _, _], _ => rfl
theorem b1004 (kV doc pm : Value) (an : Option Addr) (cdv ct : Value) (us : List Value) (hl : us.length = d1004.ps.length) : bindArgs (PySem.W.fnOf d1004.nm d1004.nm (defArgs d1004.st) (defBody d1004.st) (defScope d1004.st) .none kV doc pm an cdv ct) ⟨us, []⟩ = pure (d1004.ps.zip us) := match us, hl with
  | [_, _, _, _], _ => rfl
theorem b1005 (kV doc pm : Value) (an : Option Addr) (cdv ct : Value) (us : List Value) (hl : us.length = d1005.ps.length) : bindArgs (PySem.W.fnOf d1005.nm d1005.nm (defArgs d1005.st) (defBody d1005.st) (defScope d1005.st) .none kV doc pm an cdv ct) ⟨us, []⟩ = pure (d1005.ps.zip us) := match us, hl with
  | [_, _], _ => rfl
theorem b1006 (kV doc pm : Value) (an : Option Addr) (cdv ct : Value) (us : List Value) (hl : us.length = d1006.ps.length) : bindArgs (PySem.W.fnOf d1006.nm d1006.nm (defArgs d1006.st) (defBody d1006.st) (defScope d1006.st) .none kV doc pm an cdv ct) ⟨us, []⟩ = pure (d1006.ps.zip us) := match us, hl with
  | [_, _], _ => rfl
theorem b1007 (kV doc pm : Value) (an : Option Addr) (cdv ct : Value) (us : List Value) (hl : us.length = d1007.ps.length) : bindArgs (PySem.W.fnOf d1007.nm d1007.nm (defArgs d1007.st) (defBody d1007.st) (defScope d1007.st) .none kV doc pm an cdv ct) ⟨us, []⟩ = pure (d1007.ps.zip us) := match us, hl with
  | [_, _], _ => rfl
theorem b1008 (kV doc pm : Value) (an : Option Addr) (cdv ct : Value) (us : List Value) (hl : us.length = d1008.ps.length) : bindArgs (PySem.W.fnOf d1008.nm d1008.nm (defArgs d1008.st) (defBody d1008.st) (defScope d1008.st) .none kV doc pm an cdv ct) ⟨us, []⟩ = pure (d1008.ps.zip us) := match us, hl with
  | [_], _ => rfl
def depthG : Nat := 40
theorem law_holds : ∀ ns : List Int, ns.length ≤ 63 → ∃ g, KN.callF (fun f => (KN.findDf f defsL).map (·.F)) conG fuelG depthG 1008 [.scr ns] [] = .ok (.bl true) g := fun ns _ => by
  rw [pg_eq]
  exact law_run ns
end KT
open PySem PySem.W PyProof.Rows
set_option maxHeartbeats 0 in
theorem PySem.Challenge.cw_keptnights_k03_whole_loads_holds : PySem.Challenge.rw_keptnights_k03_whole_loads.Holds := by
  w_on; o_law; k_head; (case hw => w_witness2)
  k_fill
  refine L2.walk_of (l := PySem.Challenge.rw_keptnights_k03_whole_loads) (n := 63) (k := KT.depthG) (x := "script") (CX := fun w => L2.CX PySem.Challenge.rw_keptnights_k03_whole_loads.prog w) (sp := fun w => KN.spLaw _) rfl (by decide) rfl ⟨rfl, by decide, by decide⟩ (fun w h Y => PySem.W.kIn_of Y) ?F (fun _ _ a ns hl _ hS => ⟨a, ns, rfl, hS, hl, fun _ => rfl⟩) ?C
  case C => exact KN.cx_none
  case F =>
    intro w mg fa h KX G hmg
    refine' KN.end_ok (f := 1008) (d := KT.d1008) (L := KT.defsL) (cn := KT.cnG) (con := KT.conG) (fuel := KT.fuelG) KX G hmg (.cons (KN.DefAt.mk (d := KT.d0) ?a0 ?l0 ?c0 ?k0 KT.b0) (.cons (KN.DefAt.mk (d := KT.d1) ?a1 ?l1 ?c1 ?k1 KT.b1) (.cons (KN.DefAt.mk (d := KT.d2) ?a2 ?l2 ?c2 ?k2 KT.b2) (.cons (KN.DefAt.mk (d := KT.d3) ?a3 ?l3 ?c3 ?k3 KT.b3) (.cons (KN.DefAt.mk (d := KT.d4) ?a4 ?l4 ?c4 ?k4 KT.b4) (.cons (KN.DefAt.mk (d := KT.d5) ?a5 ?l5 ?c5 ?k5 KT.b5) (.cons (KN.DefAt.mk (d := KT.d6) ?a6 ?l6 ?c6 ?k6 KT.b6) (.cons (KN.DefAt.mk (d := KT.d7) ?a7 ?l7 ?c7 ?k7 KT.b7) (.cons (KN.DefAt.mk (d := KT.d8) ?a8 ?l8 ?c8 ?k8 KT.b8) (.cons (KN.DefAt.mk (d := KT.d9) ?a9 ?l9 ?c9 ?k9 KT.b9) (.cons (KN.DefAt.mk (d := KT.d1000) ?a10 ?l10 ?c10 ?k10 KT.b1000) (.cons (KN.DefAt.mk (d := KT.d1001) ?a11 ?l11 ?c11 ?k11 KT.b1001) (.cons (KN.DefAt.mk (d := KT.d1002) ?a12 ?l12 ?c12 ?k12 KT.b1002) (.cons (KN.DefAt.mk (d := KT.d1003) ?a13 ?l13 ?c13 ?k13 KT.b1003) (.cons (KN.DefAt.mk (d := KT.d1004) ?a14 ?l14 ?c14 ?k14 KT.b1004) (.cons (KN.DefAt.mk (d := KT.d1005) ?a15 ?l15 ?c15 ?k15 KT.b1005) (.cons (KN.DefAt.mk (d := KT.d1006) ?a16 ?l16 ?c16 ?k16 KT.b1006) (.cons (KN.DefAt.mk (d := KT.d1007) ?a17 ?l17 ?c17 ?k17 KT.b1007) (.cons (KN.DefAt.mk (d := KT.d1008) ?a18 ?l18 ?c18 ?k18 KT.b1008) .nil))))))))))))))))))) KT.defs_ok (KN.bl_all ?z0 ?z1 ?z2 ?z3 ?z4 ?z5 ?z6 ?z7 ?z8 ?z9 ?z10 ?z11 ?z12 ?z13 ?z14) (fun i x e => nomatch e) rfl rfl (fun _ _ _ _ _ _ _ => rfl) KT.law_holds
    (case a0 => k_is); (case l0 => k_is); (case c0 => k_is); (case k0 => k_is)
    (case a1 => k_is); (case l1 => k_is); (case c1 => k_is); (case k1 => k_is)
    (case a2 => k_is); (case l2 => k_is); (case c2 => k_is); (case k2 => k_is)
    (case a3 => k_is); (case l3 => k_is); (case c3 => k_is); (case k3 => k_is)
    (case a4 => k_is); (case l4 => k_is); (case c4 => k_is); (case k4 => k_is)
    (case a5 => k_is); (case l5 => k_is); (case c5 => k_is); (case k5 => k_is)
    (case a6 => k_is); (case l6 => k_is); (case c6 => k_is); (case k6 => k_is)
    (case a7 => k_is); (case l7 => k_is); (case c7 => k_is); (case k7 => k_is)
    (case a8 => k_is); (case l8 => k_is); (case c8 => k_is); (case k8 => k_is)
    (case a9 => k_is); (case l9 => k_is); (case c9 => k_is); (case k9 => k_is)
    (case a10 => k_is); (case l10 => k_is); (case c10 => k_is); (case k10 => k_is)
    (case a11 => k_is); (case l11 => k_is); (case c11 => k_is); (case k11 => k_is)
    (case a12 => k_is); (case l12 => k_is); (case c12 => k_is); (case k12 => k_is)
    (case a13 => k_is); (case l13 => k_is); (case c13 => k_is); (case k13 => k_is)
    (case a14 => k_is); (case l14 => k_is); (case c14 => k_is); (case k14 => k_is)
    (case a15 => k_is); (case l15 => k_is); (case c15 => k_is); (case k15 => k_is)
    (case a16 => k_is); (case l16 => k_is); (case c16 => k_is); (case k16 => k_is)
    (case a17 => k_is); (case l17 => k_is); (case c17 => k_is); (case k17 => k_is)
    (case a18 => k_is); (case l18 => k_is); (case c18 => k_is); (case k18 => k_is)
    (case z0 => k_is); (case z1 => k_is); (case z2 => k_is); (case z3 => k_is); (case z4 => k_is); (case z5 => k_is); (case z6 => k_is); (case z7 => k_is); (case z8 => k_is); (case z9 => k_is); (case z10 => k_is); (case z11 => k_is); (case z12 => k_is); (case z13 => k_is); (case z14 => k_is)

