import PyProof.Rows.All
import Wide.All
import OpenK.AllK
import Wide.FinOn
import HandS.ForMost
import HandS.ForSpec
import HandS.Zip
import HandS.SortInts
import HandS.SortKw
import HandS.SortRule
import HandS.Wide
import HandS.WideBits
import KE.SortData
import KE.SortKeyHeap
import KE.KTupSum
import KE.DataMinMax
import HandS.Lambda
import HandS.Style
import HandS.TupAny
import HandS.Conv
import HandS.IsInst
import HandS.More
import HandS.Exc
import KE.KLam
import HandS.SetFor
import HandS.Strs
import HandS.CallSlots
import HandS.CallLocal
import HandS.NoneIn
import HandS.Property
import HandS.OwnEq
import HandS.Codes
import KE.KSortKey
import HandS.Iter
import HandS.Small
import HandS.WordsExc
import HandS.Ends
import HandS.EndTab
import HandS.Defaults
import PySem.Challenge.RW_keptnights_k32_whole_splitting
set_option Elab.async false
set_option linter.all false
set_option maxRecDepth 100000
set_option autoImplicit false
set_option maxHeartbeats 1000000
/-! KN0: a small language with slots, its values, its evaluator. Plain Lean. -/
namespace KN
open PySem (Str)

theorem lim_ex : ∃ n : Nat, n = 16777216 := ⟨_, rfl⟩
/-- 2 to the 24; nothing unfolds it -/
noncomputable def LIM : Nat := Classical.choose lim_ex
theorem lim_is : LIM = 16777216 := Classical.choose_spec lim_ex

/-- values: immutable data, frozen lists, the script, ranges, frozen instances, errors, places in the store, defs -/
inductive D where
  | non
  | bl (b : Bool)
  | int (i : Int)
  | str (s : Str)
  | tup (xs : List D)
  | lst (xs : List D)
  | scr (ns : List Int)
  | rng (lo hi : Int)
  | obj (c : Nat) (ks : List Nat) (fs : List D)
  | exn (c : Nat) (ks : List Nat) (fs : List D)
  | ref (a : Nat)
  | fn (f : Nat)
  deriving Inhabited

inductive O where
  | lst (xs : List D)
  | ins (c : Nat) (ks : List Nat) (fs : List D)
  | dk (kvs : List (Sum Int Str × D))
  deriving Inhabited

abbrev G := List O
abbrev St := List (Option D)

inductive R (A : Type) where
  | ok (a : A) (g : G)
  | exc (x : D) (g : G)
  | st

inductive F where
  | nx (s : St) (g : G)
  | rt (d : D) (g : G)
  | bk (s : St) (g : G)
  | ct (s : St) (g : G)
  | ex (x : D) (s : St) (g : G)
  | st

def R.bind {A B : Type} (r : R A) (f : A → G → R B) : R B :=
  match r with
  | .ok a g => f a g
  | .exc x g => .exc x g
  | .st => .st
@[simp] theorem R.bind_ok {A B : Type} (a : A) (g : G) (f : A → G → R B) : (R.ok a g).bind f = f a g := rfl
@[simp] theorem R.bind_exc {A B : Type} (x : D) (g : G) (f : A → G → R B) : (R.exc x g : R A).bind f = .exc x g := rfl
@[simp] theorem R.bind_st {A B : Type} (f : A → G → R B) : (R.st : R A).bind f = .st := rfl

/-- no error may come -/
def R.bindN {A B : Type} (r : R A) (f : A → G → R B) : R B :=
  match r with
  | .ok a g => f a g
  | _ => .st
@[simp] theorem R.bindN_ok {A B : Type} (a : A) (g : G) (f : A → G → R B) : (R.ok a g).bindN f = f a g := rfl
@[simp] theorem R.bindN_exc {A B : Type} (x : D) (g : G) (f : A → G → R B) : (R.exc x g : R A).bindN f = .st := rfl
@[simp] theorem R.bindN_st {A B : Type} (f : A → G → R B) : (R.st : R A).bindN f = .st := rfl

def oR {A : Type} (o : Option A) (g : G) : R A := match o with | some a => .ok a g | none => .st
@[simp] theorem oR_some {A : Type} (a : A) (g : G) : oR (some a) g = .ok a g := rfl
@[simp] theorem oR_none {A : Type} (g : G) : oR (none : Option A) g = .st := rfl

/-! ### dicts -/
abbrev Ky := Sum Int Str
def keyD : D → Option Ky
  | .int i => some (.inl i)
  | .str s => some (.inr s)
  | _ => none
def kyD : Ky → D
  | .inl i => .int i
  | .inr s => .str s
def valK (kvs : List (Ky × D)) (k : Ky) : Option D := (kvs.find? fun kv => decide (kv.1 = k)).map (·.2)
def putK (kvs : List (Ky × D)) (k : Ky) (v : D) : List (Ky × D) :=
  if (kvs.any fun kv => decide (kv.1 = k)) = true then kvs.map (fun kv => if kv.1 = k then (kv.1, v) else kv) else kvs ++ [(k, v)]
def dkOf (g : G) : D → Option (List (Ky × D))
  | .ref a => match g[a]? with
    | some (.dk kvs) => some kvs
    | _ => none
  | _ => none

/-! ### operators -/
inductive BO where | add | sub | mul | fdiv | mod | pow
  deriving DecidableEq
inductive CO where | eq | ne | lt | le | gt | ge | isn | isnn | inn | nin
  deriving DecidableEq
inductive Bi where | len | int | str | bool | abs | min | max | sum | all | any | tuple | list | sorted | range | divmod
  deriving DecidableEq
inductive Ty where | int | bool | str | list | tuple
  deriving DecidableEq

/-- a place holds a list: its items -/
def view (g : G) : D → D
  | .ref a => match g[a]? with
    | some (.lst xs) => .lst xs
    | _ => .ref a
  | d => d
@[simp] theorem view_non (g : G) : view g .non = .non := rfl
@[simp] theorem view_bl (g : G) (b : Bool) : view g (.bl b) = .bl b := rfl
@[simp] theorem view_int (g : G) (i : Int) : view g (.int i) = .int i := rfl
@[simp] theorem view_str (g : G) (s : Str) : view g (.str s) = .str s := rfl
@[simp] theorem view_tup (g : G) (xs : List D) : view g (.tup xs) = .tup xs := rfl
@[simp] theorem view_lst (g : G) (xs : List D) : view g (.lst xs) = .lst xs := rfl
@[simp] theorem view_scr (g : G) (xs : List Int) : view g (.scr xs) = .scr xs := rfl
@[simp] theorem view_rng (g : G) (a b : Int) : view g (.rng a b) = .rng a b := rfl
@[simp] theorem view_obj (g : G) (c : Nat) (ks : List Nat) (fs : List D) : view g (.obj c ks fs) = .obj c ks fs := rfl

mutual
def eqv : D → D → Bool
  | .non, .non => true
  | .bl a, .bl b => a == b
  | .bl a, .int j => (if a then 1 else 0) == j
  | .int i, .bl b => i == (if b then 1 else 0)
  | .int i, .int j => i == j
  | .str x, .str y => x == y
  | .lst xs, .lst ys => eqvs xs ys
  | .tup xs, .tup ys => eqvs xs ys
  | _, _ => false
def eqvs : List D → List D → Bool
  | [], [] => true
  | x :: xs, y :: ys => eqv x y && eqvs xs ys
  | _, _ => false
end
mutual
/-- plain data, no deeper than n -/
def shp : Nat → D → Bool
  | _, .non => true
  | _, .bl _ => true
  | _, .int _ => true
  | _, .str x => x.cps.all (· < 0x110000)
  | n + 1, .tup xs => shps n xs
  | n + 1, .lst xs => shps n xs
  | _, _ => false
def shps : Nat → List D → Bool
  | _, [] => true
  | n, x :: xs => shp n x && shps n xs
end

def eqD (g : G) (a b : D) : Option Bool :=
  match view g a, view g b with
  | .str s, .str t => some (decide (s = t))
  | .str _, .non => some false
  | .non, .str _ => some false
  | x, y => if shp 60 x = true ∧ shp 60 y = true then some (eqv x y) else none

/-- an item's place, counted from behind below nought -/
def ixn (n : Nat) (i : Int) : Option Nat :=
  if 0 ≤ i then (if i < n then some i.toNat else none) else if -(n : Int) ≤ i then some (i + n).toNat else none
def six (n d : Nat) : Option Int → Nat
  | none => d
  | some v => if v < 0 then (v + (n : Int)).toNat else min v.toNat n
def cut {A : Type} (xs : List A) (lo hi : Option Int) : List A :=
  (xs.drop (six xs.length 0 lo)).take (six xs.length xs.length hi - six xs.length 0 lo)

def small (i : Int) : Prop := -18446744073709551616 < i ∧ i < 18446744073709551616
noncomputable instance (i : Int) : Decidable (small i) := Classical.propDecidable _

noncomputable def binD (o : BO) (g : G) (a b : D) : Option D :=
  match o, view g a, view g b with
  | .add, .int i, .int j => some (.int (i + j))
  | .sub, .int i, .int j => some (.int (i - j))
  | .mul, .int i, .int j => if small i ∨ small j then some (.int (i * j)) else none
  | .fdiv, .int i, .int j => if (j ≠ 0 ∧ j.natAbs < 1073741824) ∨ (0 < j ∧ small j) then some (.int (i.fdiv j)) else none
  | .mod, .int i, .int j => if j ≠ 0 then some (.int (i.fmod j)) else none
  | .pow, .int i, .int j => if 0 ≤ j ∧ j ≤ 1000000 ∧ small i then some (.int (i ^ j.toNat)) else none
  | .add, .str s, .str t => if s.length + t.length ≤ LIM then some (.str (s ++ t)) else none
  | .add, .tup xs, .tup ys => if xs.length + ys.length ≤ LIM then some (.tup (xs ++ ys)) else none
  | .add, .lst xs, .lst ys => if xs.length + ys.length ≤ LIM then some (.lst (xs ++ ys)) else none
  | .mul, .lst xs, .int k => if 0 ≤ k ∧ k ≤ 16777216 ∧ xs.length * k.toNat ≤ LIM then some (.lst (List.replicate k.toNat xs).flatten) else none
  | _, _, _ => none

def lexlt : List D → List D → Option Bool
  | [], [] => some false
  | [], .int _ :: _ => some true
  | .int _ :: _, [] => some false
  | .int i :: xs, .int j :: ys => if i = j then lexlt xs ys else some (decide (i < j))
  | _, _ => none

def flatD : D → Bool
  | .non => true | .bl _ => true | .int _ => true | .str _ => true | _ => false

def inD (x : D) (xs : List D) : Bool := xs.any fun y => eqv y x

def isNon : D → Bool
  | .non => true
  | _ => false
def cmpD (o : CO) (g : G) (a b : D) : Option Bool :=
  match o with
  | .eq => eqD g a b
  | .ne => (eqD g a b).map (!·)
  | .isn => match b with
    | .non => some (isNon a)
    | .bl y => match a with
      | .bl x => some (decide (x = y))
      | _ => none
    | _ => none
  | .isnn => match b with
    | .non => some (!isNon a)
    | .bl y => match a with
      | .bl x => some (!decide (x = y))
      | _ => none
    | _ => none
  | .lt => match view g a, view g b with
    | .int i, .int j => some (decide (i < j))
    | _, _ => none
  | .le => match view g a, view g b with
    | .int i, .int j => some (decide (i ≤ j))
    | _, _ => none
  | .gt => match view g a, view g b with
    | .int i, .int j => some (decide (j < i))
    | _, _ => none
  | .ge => match view g a, view g b with
    | .int i, .int j => some (decide (j ≤ i))
    | _, _ => none
  | .inn => match dkOf g b with
   | some kvs => (keyD a).map fun k => (valK kvs k).isSome
   | none => match view g a, view g b with
    | x, .lst xs => if flatD x = true ∧ xs.all flatD = true then some (inD x xs) else none
    | x, .tup xs => if flatD x = true ∧ xs.all flatD = true then some (inD x xs) else none
    | .str s, .str t => match s.cps.toList with
      | [c] => some (decide (c ∈ t.cps.toList))
      | _ => none
    | _, _ => none
  | .nin => match dkOf g b with
   | some kvs => (keyD a).map fun k => !(valK kvs k).isSome
   | none => match view g a, view g b with
    | x, .lst xs => if flatD x = true ∧ xs.all flatD = true then some (!inD x xs) else none
    | x, .tup xs => if flatD x = true ∧ xs.all flatD = true then some (!inD x xs) else none
    | .str s, .str t => match s.cps.toList with
      | [c] => some (!decide (c ∈ t.cps.toList))
      | _ => none
    | _, _ => none

noncomputable def truD (g : G) (d : D) : Option Bool :=
  match dkOf g d with
  | some kvs => some (!kvs.isEmpty)
  | none => match view g d with
  | .non => some false
  | .bl b => some b
  | .int i => some (i != 0)
  | .lst xs => some (!xs.isEmpty)
  | .tup xs => some (!xs.isEmpty)
  | .str s => if s.length ≤ LIM then some ((s.length : Int) != 0) else none
  | _ => none

noncomputable def idxD (g : G) (a b : D) : Option D :=
  match dkOf g a with
  | some kvs => (keyD b).bind fun k => valK kvs k
  | none => match view g a, b with
  | .lst xs, .int i => (ixn xs.length i).bind fun j => xs[j]?
  | .tup xs, .int i => (ixn xs.length i).bind fun j => xs[j]?
  | .scr ns, .int i => ((ixn ns.length i).bind fun j => ns[j]?).map .int
  | .str s, .int i => if s.length ≤ LIM then ((ixn s.cps.toList.length i).bind fun j => s.cps.toList[j]?).map fun c => .str ⟨#[c]⟩ else none
  | _, _ => none

noncomputable def sliD (g : G) (a : D) (lo hi : Option Int) : Option D :=
  match view g a with
  | .lst xs => some (.lst (cut xs lo hi))
  | .tup xs => if six xs.length 0 lo = 0 ∧ six xs.length xs.length hi = xs.length then some (.tup xs) else some (.tup (cut xs lo hi))
  | .str s => if s.length ≤ LIM then some (.str ⟨(cut s.cps.toList lo hi).toArray⟩) else none
  | _ => none

def intsD : List D → Option (List Int)
  | [] => some []
  | .int i :: r => (intsD r).map (i :: ·)
  | _ :: _ => none
def bools : List D → Option (List Bool)
  | [] => some []
  | .bl i :: r => (bools r).map (i :: ·)
  | _ :: _ => none
@[simp] theorem ints_map (ns : List Int) : intsD (ns.map .int) = some ns := by
  induction ns with
  | nil => rfl
  | cons n r ih => simp [intsD, ih]
@[simp] theorem bools_map (ns : List Bool) : bools (ns.map .bl) = some ns := by
  induction ns with
  | nil => rfl
  | cons n r ih => simp [bools, ih]

/-! least and greatest of rows of ints, nested -/
mutual
def ltT : D → D → Bool
  | .int a, .int b => decide (a < b)
  | .tup xs, .tup ys => ltTs xs ys
  | _, _ => false
def ltTs : List D → List D → Bool
  | [], [] => false
  | [], _ :: _ => true
  | _ :: _, [] => false
  | x :: xs, y :: ys => if eqv x y = true then ltTs xs ys else ltT x y
end
mutual
def alkT : D → D → Bool
  | .int _, .int _ => true
  | .tup xs, .tup ys => alkTs xs ys
  | _, _ => false
def alkTs : List D → List D → Bool
  | x :: xs, y :: ys => alkT x y && alkTs xs ys
  | _, _ => true
end
def bestT (mx : Bool) : List D → Option D
  | [] => none
  | x :: xs => if shps 60 (x :: xs) = true ∧ (x :: xs).all (fun a => (x :: xs).all fun b => alkT a b) = true then
      some (if mx = true then xs.foldl (fun a y => if ltT a y = true then y else a) x else xs.foldl (fun a y => if ltT y a = true then y else a) x) else none
def maxI : List Int → Int
  | [] => 0
  | [x] => x
  | x :: y :: r => max x (maxI (y :: r))
def minI : List Int → Int
  | [] => 0
  | [x] => x
  | x :: y :: r => min x (minI (y :: r))
def sortI (ns : List Int) : List Int := ns.mergeSort fun a b => decide (a ≤ b)
/-- tuples of ints -/
def rowsD : List D → Option (List (List Int))
  | [] => some []
  | .tup xs :: r => match intsD xs, rowsD r with
    | some ns, some rs => some (ns :: rs)
    | _, _ => none
  | _ :: _ => none
def rowD (ns : List Int) : D := .tup (ns.map .int)
theorem intsD_map (ns : List Int) : intsD (ns.map .int) = some ns := ints_map ns
@[simp] theorem rowsD_map (rs : List (List Int)) : rowsD (rs.map rowD) = some rs := by
  induction rs with
  | nil => rfl
  | cons r rs ih => simp [rowsD, rowD, ih]
def sortR (rs : List (List Int)) : List (List Int) := rs.mergeSort fun a b => decide (a ≤ b)
def oneLen (rs : List (List Int)) : Bool := match rs with
  | [] => true
  | r :: _ => decide (1 ≤ r.length) && rs.all fun q => decide (q.length = r.length)
/-- lo, lo + 1, .., hi - 1 -/
def rangeI (lo hi : Int) : List Int := (List.range (hi - lo).toNat).map fun k => lo + (k : Nat)

def seqOf (g : G) (d : D) : Option (List D) :=
  match view g d with
  | .lst xs => some xs
  | .tup xs => some xs
  | _ => none

def okR (lo hi : Int) : Prop := -4611686018427387904 ≤ lo ∧ lo < 4611686018427387904 ∧ -4611686018427387904 ≤ hi ∧ hi < 4611686018427387904
noncomputable instance (lo hi : Int) : Decidable (okR lo hi) := Classical.propDecidable _

noncomputable def biD (b : Bi) (g : G) (ds : List D) : Option D :=
  match b, ds with
  | .len, [d] => match view g d with
    | .lst xs => some (.int xs.length)
    | .tup xs => some (.int xs.length)
    | .scr ns => some (.int ns.length)
    | .str s => if s.length ≤ LIM then some (.int s.length) else none
    | _ => none
  | .int, [.int i] => some (.int i)
  | .int, [.bl b] => some (.int (if b then 1 else 0))
  | .str, [.int i] => if i.natAbs.log2 < 1920 then some (.str (Str.ofString (toString i))) else none
  | .bool, [.int i] => some (.bl (i != 0))
  | .bool, [.bl b] => some (.bl b)
  | .abs, [.int i] => some (.int (if i < 0 then -i else i))
  | .max, [.int i, .int j] => some (.int (if j > i then j else i))
  | .min, [.int i, .int j] => some (.int (if j < i then j else i))
  | .max, [d] => (seqOf g d).bind fun xs => match intsD xs with
    | some ns => if ns = [] then none else some (.int (maxI ns))
    | none => bestT true xs
  | .min, [d] => (seqOf g d).bind fun xs => match intsD xs with
    | some ns => if ns = [] then none else some (.int (minI ns))
    | none => bestT false xs
  | .sum, [d] => (seqOf g d).bind fun xs => (intsD xs).map fun ns => .int ns.sum
  | .all, [d] => match view g d with
    | .lst xs => (bools xs).map fun ns => .bl (ns.all id)
    | _ => none
  | .any, [d] => match view g d with
    | .lst xs => (bools xs).map fun ns => .bl (ns.any id)
    | _ => none
  | .tuple, [d] => match view g d with
    | .lst xs => some (.tup xs)
    | .tup xs => some (.tup xs)
    | .rng lo hi => if okR lo hi ∧ (hi - lo).toNat ≤ LIM then some (.tup ((rangeI lo hi).map .int)) else none
    | _ => none
  | .list, [d] => match dkOf g d with
   | some kvs => some (.lst (kvs.map fun kv => kyD kv.1))
   | none => match view g d with
    | .lst xs => some (.lst xs)
    | .tup xs => some (.lst xs)
    | .rng lo hi => if okR lo hi ∧ (hi - lo).toNat ≤ LIM then some (.lst ((rangeI lo hi).map .int)) else none
    | _ => none
  | .sorted, [d] => match view g d with
    | .lst xs => match intsD xs with
      | some ns => some (.lst ((sortI ns).map .int))
      | none => match rowsD xs with
        | some rs => if oneLen rs = true then some (.lst ((sortR rs).map rowD)) else none
        | none => none
    | _ => none
  | .divmod, [.int i, .int j] => if 0 < j ∧ j < 1073741824 then some (.tup [.int (i / j), .int (i % j)]) else none
  | .range, [.int n] => if okR 0 n then some (.rng 0 n) else none
  | .range, [.int lo, .int hi] => if okR lo hi then some (.rng lo hi) else none
  | _, _ => none

/-- the first place of an item -/
def findD (x : D) : List D → Nat → Option Nat
  | [], _ => none
  | y :: r, n => if eqv y x = true then some n else findD x r (n + 1)
def indexD (g : G) (a x : D) : Option D :=
  match view g a with
  | .lst xs => if flatD x = true ∧ xs.all flatD = true then (findD x xs 0).map fun n => .int (n : Nat) else none
  | _ => none

inductive Tg where | non | bl | int | str | lst | tup
  deriving DecidableEq
def tagD : D → Option Tg
  | .non => some .non
  | .bl _ => some .bl
  | .int _ => some .int
  | .str _ => some .str
  | .lst _ => some .lst
  | .tup _ => some .tup
  | _ => none
def isTag : Ty → Tg → Bool
  | .int, .int => true
  | .int, .bl => true
  | .bool, .bl => true
  | .str, .str => true
  | .list, .lst => true
  | .tuple, .tup => true
  | _, _ => false
/-- an instance: its class, its fields -/
def clsOf (g : G) : D → Option (Nat × List Nat × List D)
  | .obj c ks fs => some (c, ks, fs)
  | .ref a => match g[a]? with
    | some (.ins c ks fs) => some (c, ks, fs)
    | _ => none
  | _ => none
def fldD : List Nat → List D → Nat → Option D
  | k' :: ks, d :: fs, k => if k' = k then some d else fldD ks fs k
  | _, _, _ => none
def putFl : List Nat → List D → Nat → D → List Nat × List D
  | k' :: ks, d :: fs, k, v => if k' = k then (k' :: ks, v :: fs) else (k' :: (putFl ks fs k v).1, d :: (putFl ks fs k v).2)
  | _, _, k, v => ([k], [v])
/-- is it an instance of this own class -/
def isC (g : G) (d : D) (c : Nat) : Option Bool := match clsOf g d with
  | some p => some (p.1 == c)
  | none => (tagD (view g d)).map fun _ => false
/-- is it an instance of one of these -/
def isTys (g : G) (d : D) (ts : List Ty) : Option Bool := (tagD (view g d)).map fun t => ts.any fun y => isTag y t

/-! ### the language -/
inductive LT where
  | name (i : Nat)
  | tup (is : List Nat)
  | two (a b : LT)

/-- keys of lambdas -/
inductive KX where
  | par
  | fre (i : Nat)
  | int (i : Int)
  | idx (a b : KX)
  | neg (a : KX)
  | sub (a b : KX)
mutual
inductive LE where
  | var (i : Nat)
  | int (i : Int)
  | str (s : Str)
  | bl (b : Bool)
  | non
  | dnew
  | con (c : Nat)
  | tup (es : LEs)
  | lst (mu : Bool) (es : LEs)
  | bin (o : BO) (a b : LE)
  | neg (a : LE)
  | cmp (o : CO) (a b : LE)
  | chain (o o' : CO) (a b c : LE)
  | and (a b : LE)
  | or (a b : LE)
  | not (a : LE)
  | ifx (c : LC) (a b : LE)
  | idx (a b : LE)
  | sli (a : LE) (lo hi : LO)
  | index (a e : LE)
  | call (f : Nat) (es : LEs)
  | bi (b : Bi) (es : LEs)
  | isi (a : LE) (ts : List Ty)
  | comp (mu : Bool) (e : LE) (t : LT) (s : LI) (c : LCs)
  | chain3 (o o' o2 : CO) (a b c d : LE)
  | sset (a : LE)
  | mm (mx : Bool) (a d : LE)
  | rev (a : LE)
  | calld (f : Nat) (es : LEs) (ds : List D)
  | fld (a : LE) (k : Nat)
  | new (mu : Bool) (c : Nat) (es : LEs)
  | meth (a : LE) (m : Nat) (es : LEs)
  | isc (a : LE) (c : Nat)
  | eqo (ne : Bool) (a b : LE)
  | skey (tu : Bool) (a : LE) (ks : List KX)
  | fnv (f : Nat)
  | callv (i : Nat) (es : LEs)
  | mlist (a : LE)
inductive LEs where
  | nil
  | cons (e : LE) (es : LEs)
inductive LO where
  | no
  | yes (e : LE)
inductive LC where
  | val (e : LE)
  | cmp (o : CO) (a b : LE)
  | chain (o o' : CO) (a b c : LE)
  | and (a b : LC)
  | or (a b : LC)
  | not (a : LC)
inductive LCs where
  | no
  | yes (c : LC)
inductive LI where
  | seq (e : LE)
  | range1 (a : LE)
  | range2 (a b : LE)
  | range3 (a b c : LE)
  | zip (es : LEs)
  | enum (a : LE)
end

mutual
inductive LS where
  | expr (e : LE)
  | set (i : Nat) (e : LE)
  | unp (is : List Nat) (e : LE)
  | par (i j : Nat) (a b : LE)
  | aug (i : Nat) (o : BO) (e : LE)
  | seti (a b e : LE)
  | seti2 (a b a2 b2 e : LE)
  | augi (o : BO) (a b e : LE)
  | app (a e : LE)
  | par3 (i j l : Nat) (a b c : LE)
  | sfld (a : LE) (k : Nat) (e : LE)
  | afld (a : LE) (k : Nat) (o : BO) (e : LE)
  | never
  | ite (c : LC) (a b : LSs)
  | for_ (t : LT) (s : LI) (b : LSs)
  | whl (c : LC) (b : LSs)
  | ret (e : LE)
  | retn
  | pass
  | brk
  | cnt
inductive LSs where
  | nil
  | cons (s : LS) (r : LSs)
end

/-- a def: its parameters, its slots, its body; keeps: what it made stays in the store -/
structure LF where
  np : Nat
  n : Nat
  body : LSs
  keep : Bool := false

def lookF (f : Nat) : List (Nat × LF) → Option LF
  | [] => none
  | d :: r => if d.1 = f then some d.2 else lookF f r

/-- a class: its __init__, its methods, its properties, its fields -/
structure LCl where
  ini : Nat
  ms : List (Nat × Nat) := []
  prs : List (Nat × Nat) := []
  fl : List Nat := []
def lookN (k : Nat) : List (Nat × Nat) → Option Nat
  | [] => none
  | p :: r => if p.1 = k then some p.2 else lookN k r
structure Fn where
  call : Nat → List D → G → R D
  con : Nat → D
  fuel : Nat
  cls : Nat → Option LCl := fun _ => none

def setA : List Nat → List D → St → Option St
  | [], [], s => some s
  | i :: is, d :: ds, s => if i < s.length then setA is ds (s.set i (some d)) else none
  | _, _, _ => none
def setT (t : LT) (d : D) (s : St) : Option St :=
  match t with
  | .name i => if i < s.length then some (s.set i (some d)) else none
  | .tup is => match d with
    | .tup xs => setA is xs s
    | .lst xs => setA is xs s
    | _ => none
  | .two a b => match d with
    | .tup [x, y] => (setT a x s).bind fun s => setT b y s
    | .lst [x, y] => (setT a x s).bind fun s => setT b y s
    | _ => none
def wipeA (s : St) : List Nat → St
  | [] => s
  | i :: is => (wipeA s is).set i none
def ownT : LT → List Nat
  | .name i => [i]
  | .tup is => is
  | .two a b => ownT a ++ ownT b

/-- what is walked: its items, and the place that must stay as it is -/
abbrev Lk := List (Nat × List D)
def lockOk (lk : Lk) (g : G) : Prop := ∀ p ∈ lk, g[p.1]? = some (.lst p.2)

open Classical in
noncomputable def forL (t : LT) (lk : Lk) (body : St → G → F) : List D → St → G → F
  | [], s, g => if lockOk lk g then .nx s g else .st
  | d :: r, s, g => if lockOk lk g then
      match setT t d s with
      | none => .st
      | some s1 => match body s1 g with
        | .nx s2 g2 => forL t lk body r s2 g2
        | .ct s2 g2 => forL t lk body r s2 g2
        | .bk s2 g2 => .nx s2 g2
        | f => f
    else .st

open Classical in
noncomputable def compL (t : LT) (lk : Lk) (c : St → G → R Bool) (e : St → G → R D) : List D → St → G → R (List D)
  | [], _, g => if lockOk lk g then .ok [] g else .st
  | d :: r, s, g => if lockOk lk g then
      match setT t d (wipeA s (ownT t)) with
      | none => .st
      | some s1 => (c s1 g).bindN fun b g1 => if b = true then (e s1 g1).bindN fun x g2 => (compL t lk c e r s g2).bind fun xs g3 => .ok (x :: xs) g3 else compL t lk c e r s g1
    else .st

def whlL (c : St → G → R Bool) (body : St → G → F) : Nat → St → G → F
  | 0, _, _ => .st
  | n + 1, s, g => match c s g with
    | .ok true g1 => match body s g1 with
      | .nx s2 g2 => whlL c body n s2 g2
      | .ct s2 g2 => whlL c body n s2 g2
      | .bk s2 g2 => .nx s2 g2
      | f => f
    | .ok false g1 => .nx s g1
    | .exc x g1 => .ex x s g1
    | .st => .st

noncomputable def mkL (mu : Bool) (xs : List D) (g : G) : R D :=
  if xs.length ≤ LIM then (if mu = true then .ok (.ref g.length) (g ++ [.lst xs]) else .ok (.lst xs) g) else .st

def mkC (mu : Bool) (xs : List D) (g : G) : R D := if mu = true then .ok (.ref g.length) (g ++ [.lst xs]) else .ok (.lst xs) g

def asI : D → Option Int
  | .int i => some i
  | _ => none

/-! ### a def's end: what it made is forgotten, its value is told without places -/
def omap {A B : Type} (f : A → Option B) : List A → Option (List B)
  | [] => some []
  | x :: r => match f x, omap f r with
    | some y, some ys => some (y :: ys)
    | _, _ => none
theorem omap_id {A : Type} {f : A → Option A} : ∀ {xs : List A}, (∀ x ∈ xs, f x = some x) → omap f xs = some xs
  | [], _ => rfl
  | x :: r, h => by
    simp only [omap]
    rw [h x (by simp), omap_id fun y hy => h y (by simp [hy])]
def snap (L : List O) (n : Nat) : Nat → D → Option D
  | 0, _ => none
  | k + 1, d => match d with
    | .tup xs => (omap (snap L n k) xs).map .tup
    | .lst xs => (omap (snap L n k) xs).map .lst
    | .obj c ks fs => (omap (snap L n k) fs).map (.obj c ks)
    | .exn c ks fs => (omap (snap L n k) fs).map (.exn c ks)
    | .ref a => if a < n then some (.ref a) else match L[a - n]? with
      | some (.lst xs) => (omap (snap L n k) xs).map .lst
      | some (.ins c ks fs) => (omap (snap L n k) fs).map (.obj c ks)
      | _ => none
    | d => some d
mutual
/-- no places within, no deeper than n -/
def pur : Nat → D → Bool
  | 0, _ => false
  | n + 1, .tup xs => purs n xs
  | n + 1, .lst xs => purs n xs
  | n + 1, .obj _ _ xs => purs n xs
  | n + 1, .exn _ _ xs => purs n xs
  | _, .ref _ => false
  | _ + 1, _ => true
def purs : Nat → List D → Bool
  | _, [] => true
  | n, x :: xs => pur n x && purs n xs
end
theorem purs_iff (n : Nat) : ∀ xs : List D, purs n xs = true ↔ ∀ x ∈ xs, pur n x = true
  | [] => by simp [purs]
  | x :: xs => by simp [purs, purs_iff n xs]
theorem snap_pur (L : List O) (m : Nat) : ∀ (n : Nat) (d : D), pur n d = true → snap L m n d = some d
  | 0, d, h => by simp [pur] at h
  | n + 1, d, h => by
    cases d <;> first
      | rfl
      | (simp only [pur, purs_iff] at h
         simp only [snap]
         rw [omap_id fun x hx => snap_pur L m n x (h x hx)]
         rfl)
      | (simp [pur] at h)

mutual
/-- no places from n on within -/
def low (n : Nat) : D → Bool
  | .tup xs => lows n xs
  | .lst xs => lows n xs
  | .obj _ _ xs => lows n xs
  | .exn _ _ xs => lows n xs
  | .ref a => decide (a < n)
  | _ => true
def lows (n : Nat) : List D → Bool
  | [] => true
  | x :: xs => low n x && lows n xs
end
def lowO (n : Nat) : O → Bool
  | .lst xs => lows n xs
  | .ins _ _ xs => lows n xs
  | .dk kvs => lows n (kvs.map (·.2))
@[simp] theorem lows_ints (n : Nat) (ns : List Int) : lows n (ns.map D.int) = true := by
  induction ns with
  | nil => rfl
  | cons a r ih => simp [lows, low, ih]
/-- the old objects are as they were, or hold no new places -/
def OldOk (g0 g : G) : Prop := g0.length ≤ g.length ∧ ∀ a o, a < g0.length → g[a]? = some o → g0[a]? = some o ∨ lowO g0.length o = true

open Classical in
noncomputable def exitD (keep : Bool) (g0 : G) (d : D) (g : G) : R D :=
  if keep = true then .ok d g
  else if g.length = g0.length then .ok d g
  else if OldOk g0 g then oR (snap (g.drop g0.length) g0.length 60 d) (g.take g0.length)
  else .ok d g
theorem exitD_len (g0 g : G) (d : D) (h : g.length = g0.length) : exitD false g0 d g = .ok d g := by simp [exitD, h]
@[simp] theorem exitD_same (g0 : G) (d : D) : exitD false g0 d g0 = .ok d g0 := exitD_len _ _ _ rfl
theorem exitD_old (g0 g1 L : G) (d r : D) (hl : g1.length = g0.length) (h : ∀ a o, a < g0.length → g1[a]? = some o → g0[a]? = some o ∨ lowO g0.length o = true) (hd : snap L g0.length 60 d = some r) (hn : L = [] → r = d) : exitD false g0 d (g1 ++ L) = .ok r g1 := by
  unfold exitD
  rw [if_neg (by simp)]
  have ht : (g1 ++ L).take g0.length = g1 := by rw [← hl]; simp
  have hdr : (g1 ++ L).drop g0.length = L := by rw [← hl]; simp
  split
  · rename_i e
    have : L = [] := by
      rw [List.length_append, hl] at e
      exact List.eq_nil_of_length_eq_zero (by omega)
    rw [hn this, this, List.append_nil]
  · rw [if_pos, hdr, hd, ht]
    · rfl
    · refine ⟨by rw [List.length_append, hl]; omega, fun a o ha e => h a o ha ?_⟩
      rwa [List.getElem?_append_left (by omega)] at e
theorem exitD_app (g0 L : G) (d r : D) (hd : snap L g0.length 60 d = some r) (hn : L = [] → r = d) : exitD false g0 d (g0 ++ L) = .ok r g0 :=
  exitD_old g0 g0 L d r rfl (fun _ _ _ e => .inl e) hd hn
theorem exitD_pur (g0 L : G) (d : D) (h : pur 60 d = true) : exitD false g0 d (g0 ++ L) = .ok d g0 :=
  exitD_app g0 L d d (snap_pur _ _ _ _ h) fun _ => rfl
theorem exitD_set (g0 L : G) (d r : D) (p : Nat) (o : O) (ho : lowO g0.length o = true) (hd : snap L g0.length 60 d = some r) (hn : L = [] → r = d) : exitD false g0 d (g0.set p o ++ L) = .ok r (g0.set p o) := by
  refine exitD_old g0 _ L d r (by simp) (fun a o' ha e => ?_) hd hn
  by_cases h : p = a
  · subst h
    rw [List.getElem?_set_self ha] at e
    cases e
    exact .inr ho
  · rw [List.getElem?_set_ne h] at e
    exact .inl e

/-- C(..) -/
noncomputable def newD (W : Fn) (mu : Bool) (c : Nat) (xs : List D) (g : G) : R D := match W.cls c with
  | none => .st
  | some C => match W.call C.ini (.ref g.length :: xs) (g ++ [.ins c [] []]) with
    | .ok d g' => (match d with
      | .non => exitD mu g (.ref g.length) g'
      | _ => .st)
    | .exc x g' => (match exitD false g x g' with
      | .ok x g2 => .exc x g2
      | _ => .st)
    | .st => .st
/-- the method of a name -/
def methD (W : Fn) (g : G) (x : D) (m : Nat) : Option Nat := match clsOf g x with
  | some p => if p.2.1.contains m = true then none else (W.cls p.1).bind fun C => lookN m C.ms
  | none => none
/-- x.k -/
noncomputable def getF (W : Fn) (k : Nat) (x : D) (g : G) : R D := match clsOf g x with
  | some p => (match W.cls p.1 with
    | none => .st
    | some C => (match lookN k C.prs with
      | some f => (match W.call f [x] g with
        | .ok d g => .ok d g
        | _ => .st)
      | none => if C.fl.contains k = true then oR (fldD p.2.1 p.2.2 k) g else .st))
  | none => .st
/-- x == y by an own __eq__ (its name: 0), else by value -/
noncomputable def eqoD (W : Fn) (ne : Bool) (x y : D) (g : G) : R D := match clsOf g x with
  | some p => (match (W.cls p.1).bind fun C => lookN 0 C.ms with
    | none => .st
    | some f => (W.call f [x, y] g).bind fun d g => match d with
      | .bl b => .ok (.bl (b != ne)) g
      | _ => .st)
  | none => (oR (cmpD (if ne = true then .ne else .eq) g x y) g).bind fun b g => .ok (.bl b) g
/-- sorted(set(..)) of ints -/
def ssetD (g : G) (x : D) : Option D := (seqOf g x).bind fun xs => (intsD xs).bind fun ns => if ns.length < 64 then some (.lst ((sortI ns.eraseDups).map .int)) else none
def mmD (mx : Bool) (g : G) (x d : D) : Option D := match seqOf g x with
  | some xs => (match intsD xs with
    | some ns => if ns = [] then some d else some (.int (if mx = true then maxI ns else minI ns))
    | none => bestT mx xs)
  | none => none
def revD (g : G) (x : D) : Option D := match view g x with
  | .lst xs => some (.lst xs.reverse)
  | _ => none
/-- items, and the place that must stay -/
def srcD (g : G) : D → Option (List D × Lk)
  | .tup xs => some (xs, [])
  | .lst xs => some (xs, [])
  | .ref a => match g[a]? with
    | some (.lst xs) => some (xs, [(a, xs)])
    | _ => none
  | _ => none
def zipD (g : G) : List D → Option (List (List D) × Lk)
  | [] => some ([], [])
  | [d] => (srcD g d).map fun p => (p.1.map fun x => [x], p.2)
  | d :: r => (srcD g d).bind fun p => (zipD g r).map fun q => (List.zipWith (fun x y => x :: y) p.1 q.1, p.2 ++ q.2)
def enumL : Nat → List D → List D
  | _, [] => []
  | n, x :: r => .tup [.int (n : Nat), x] :: enumL (n + 1) r
/-- range(lo, hi, st) -/
def rangeS (lo hi st : Int) : List Int := (List.range (if 0 < st then ((hi - lo + st - 1) / st).toNat else ((lo - hi + (-st) - 1) / (-st)).toNat)).map fun k => lo + (k : Nat) * st
/-- the key of y, and of all -/
def kxD (s : St) (y : D) : KX → Option D
  | .par => some y
  | .fre i => match s[i]? with
    | some (some d) => some d
    | _ => none
  | .int i => some (.int i)
  | .idx a b => match kxD s y a, kxD s y b with
    | some (.lst xs), some (.int i) => (ixn xs.length i).bind fun j => xs[j]?
    | some (.tup xs), some (.int i) => (ixn xs.length i).bind fun j => xs[j]?
    | _, _ => none
  | .neg a => match kxD s y a with
    | some (.int i) => some (.int (-i))
    | _ => none
  | .sub a b => match kxD s y a, kxD s y b with
    | some (.int i), some (.int j) => some (.int (i - j))
    | _, _ => none
def keyOf (s : St) (y : D) : List KX → Option (List Int)
  | [] => some []
  | k :: r => match kxD s y k, keyOf s y r with
    | some (.int i), some is => some (i :: is)
    | _, _ => none
def keyAll (s : St) (ks : List KX) : List D → Option (List (List Int × D))
  | [] => some []
  | y :: r => match keyOf s y ks, keyAll s ks r with
    | some k, some q => some ((k, y) :: q)
    | _, _ => none
/-- sorted(x, key=..): keys are tuples, or bare ints -/
def kle (tu : Bool) (a b : List Int × D) : Bool := if tu = true then decide (a.1 ≤ b.1) else decide (a.1.headD 0 ≤ b.1.headD 0)
def skeyD (tu : Bool) (g : G) (s : St) (ks : List KX) (x : D) : Option D := match view g x with
  | .lst xs => (keyAll s ks xs).map fun q => .lst ((q.mergeSort (kle tu)).map (·.2))
  | _ => none
mutual
noncomputable def evE (W : Fn) : LE → St → G → R D
  | .var i, s, g => match s[i]? with
    | some (some d) => .ok d g
    | _ => .st
  | .int i, _, g => .ok (.int i) g
  | .str x, _, g => .ok (.str x) g
  | .bl b, _, g => .ok (.bl b) g
  | .non, _, g => .ok .non g
  | .dnew, _, g => .ok (.ref g.length) (g ++ [.dk []])
  | .con c, _, g => .ok (W.con c) g
  | .tup es, s, g => (evEs W es s g).bind fun xs g => if xs.length ≤ LIM then .ok (.tup xs) g else .st
  | .lst mu es, s, g => (evEs W es s g).bind fun xs g => mkL mu xs g
  | .bin o a b, s, g => (evE W a s g).bind fun x g => (evE W b s g).bind fun y g => oR (binD o g x y) g
  | .neg a, s, g => (evE W a s g).bind fun x g => match x with
    | .int i => .ok (.int (-i)) g
    | _ => .st
  | .cmp o a b, s, g => (evE W a s g).bind fun x g => (evE W b s g).bind fun y g => (oR (cmpD o g x y) g).bind fun k g => .ok (.bl k) g
  | .chain o o' a b c, s, g => (evE W a s g).bind fun x g => (evE W b s g).bind fun y g => (oR (cmpD o g x y) g).bind fun k g =>
      if k = true then (evE W c s g).bind fun z g => (oR (cmpD o' g y z) g).bind fun k g => .ok (.bl k) g else .ok (.bl false) g
  | .and a b, s, g => (evE W a s g).bind fun x g => match x with
    | .bl true => evE W b s g
    | .bl false => .ok (.bl false) g
    | _ => .st
  | .or a b, s, g => (evE W a s g).bind fun x g => match x with
    | .bl true => .ok (.bl true) g
    | .bl false => evE W b s g
    | _ => .st
  | .not a, s, g => (evE W a s g).bind fun x g => match x with
    | .bl b => .ok (.bl (!b)) g
    | _ => .st
  | .ifx c a b, s, g => (evC W c s g).bind fun k g => if k = true then evE W a s g else evE W b s g
  | .idx a b, s, g => (evE W a s g).bind fun x g => (evE W b s g).bind fun y g => oR (idxD g x y) g
  | .sli a lo hi, s, g => (evE W a s g).bind fun x g => (evO W lo s g).bind fun l g => (evO W hi s g).bind fun u g => oR (sliD g x l u) g
  | .index a e, s, g => (evE W a s g).bind fun x g => match view g x with
    | .lst _ => (evE W e s g).bind fun y g => oR (indexD g x y) g
    | _ => .st
  | .call f es, s, g => (evEs W es s g).bind fun xs g => W.call f xs g
  | .bi b es, s, g => (evEs W es s g).bind fun xs g => oR (biD b g xs) g
  | .isi a ts, s, g => (evE W a s g).bind fun x g => (oR (isTys g x ts) g).bind fun k g => .ok (.bl k) g
  | .comp mu e t i c, s, g => (evI W i s g).bind fun p g => (compL t p.2 (evCs W c) (evE W e) p.1 s g).bind fun xs g => mkC mu xs g
  | .chain3 o o' o2 a b c d, s, g => (evE W a s g).bind fun x g => (evE W b s g).bind fun y g => (oR (cmpD o g x y) g).bind fun k g =>
      if k = true then (evE W c s g).bind fun z g => (oR (cmpD o' g y z) g).bind fun k g => if k = true then (evE W d s g).bind fun w g => (oR (cmpD o2 g z w) g).bind fun k g => .ok (.bl k) g else .ok (.bl false) g else .ok (.bl false) g
  | .sset a, s, g => (evE W a s g).bind fun x g => oR (ssetD g x) g
  | .mm mx a d, s, g => (evE W a s g).bind fun x g => (evE W d s g).bind fun y g => oR (mmD mx g x y) g
  | .rev a, s, g => (evE W a s g).bind fun x g => oR (revD g x) g
  | .calld f es ds, s, g => (evEs W es s g).bind fun xs g => W.call f (xs ++ ds) g
  | .fld a k, s, g => (evE W a s g).bind fun x g => getF W k x g
  | .new mu c es, s, g => (evEs W es s g).bind fun xs g => newD W mu c xs g
  | .meth a m es, s, g => (evE W a s g).bind fun x g => (oR (methD W g x m) g).bind fun f g => (evEs W es s g).bind fun xs g => W.call f (x :: xs) g
  | .isc a c, s, g => (evE W a s g).bind fun x g => (oR (isC g x c) g).bind fun k g => .ok (.bl k) g
  | .eqo ne a b, s, g => (evE W a s g).bind fun x g => (evE W b s g).bind fun y g => eqoD W ne x y g
  | .skey tu a ks, s, g => (evE W a s g).bind fun x g => oR (skeyD tu g s ks x) g
  | .fnv f, _, g => .ok (.fn f) g
  | .mlist a, s, g => (evE W a s g).bind fun x g => match seqOf g x with
    | some xs => mkL true xs g
    | none => .st
  | .callv i es, s, g => match s[i]? with
    | some (some (.fn f)) => (evEs W es s g).bind fun xs g => W.call f xs g
    | _ => .st
noncomputable def evEs (W : Fn) : LEs → St → G → R (List D)
  | .nil, _, g => .ok [] g
  | .cons e es, s, g => (evE W e s g).bind fun x g => (evEs W es s g).bind fun xs g => .ok (x :: xs) g
noncomputable def evO (W : Fn) : LO → St → G → R (Option Int)
  | .no, _, g => .ok none g
  | .yes e, s, g => (evE W e s g).bind fun x g => (oR (asI x) g).bind fun i g => .ok (some i) g
noncomputable def evC (W : Fn) : LC → St → G → R Bool
  | .val e, s, g => (evE W e s g).bind fun x g => oR (truD g x) g
  | .cmp o a b, s, g => (evE W a s g).bind fun x g => (evE W b s g).bind fun y g => oR (cmpD o g x y) g
  | .chain o o' a b c, s, g => (evE W a s g).bind fun x g => (evE W b s g).bind fun y g => (oR (cmpD o g x y) g).bind fun k g =>
      if k = true then (evE W c s g).bind fun z g => oR (cmpD o' g y z) g else .ok false g
  | .and a b, s, g => (evC W a s g).bind fun k g => if k = true then evC W b s g else .ok false g
  | .or a b, s, g => (evC W a s g).bind fun k g => if k = true then .ok true g else evC W b s g
  | .not a, s, g => (evC W a s g).bind fun k g => .ok (!k) g
noncomputable def evCs (W : Fn) : LCs → St → G → R Bool
  | .no, _, g => .ok true g
  | .yes c, s, g => evC W c s g
noncomputable def evI (W : Fn) : LI → St → G → R (List D × Lk)
  | .seq e, s, g => (evE W e s g).bind fun x g => oR (srcD g x) g
  | .range1 a, s, g => (evE W a s g).bind fun x g => (oR (asI x) g).bind fun n g => if okR 0 n ∧ n.toNat ≤ LIM then .ok ((rangeI 0 n).map .int, []) g else .st
  | .range2 a b, s, g => (evE W a s g).bind fun x g => (evE W b s g).bind fun y g => (oR (asI x) g).bind fun lo g => (oR (asI y) g).bind fun hi g =>
      if okR lo hi ∧ (hi - lo).toNat ≤ LIM then .ok ((rangeI lo hi).map .int, []) g else .st
  | .range3 a b c, s, g => (evE W a s g).bind fun x g => (evE W b s g).bind fun y g => (evE W c s g).bind fun z g => (oR (asI x) g).bind fun lo g => (oR (asI y) g).bind fun hi g => (oR (asI z) g).bind fun st g =>
      if okR lo hi ∧ st = -1 ∧ (rangeS lo hi st).length ≤ LIM then .ok ((rangeS lo hi st).map .int, []) g else .st
  | .zip es, s, g => (evEs W es s g).bind fun ds g => (oR (zipD g ds) g).bind fun p g => .ok (p.1.map .tup, p.2) g
  | .enum a, s, g => (evE W a s g).bind fun x g => (oR (srcD g x) g).bind fun p g => .ok (enumL 0 p.1, p.2) g
end

def toF (r : R D) (s : St) (k : D → G → F) : F :=
  match r with
  | .ok d g => k d g
  | .exc x g => .ex x s g
  | .st => .st
@[simp] theorem toF_ok (d : D) (g : G) (s : St) (k : D → G → F) : toF (.ok d g) s k = k d g := rfl
@[simp] theorem toF_exc (d : D) (g : G) (s : St) (k : D → G → F) : toF (.exc d g) s k = .ex d s g := rfl
@[simp] theorem toF_st (s : St) (k : D → G → F) : toF .st s k = .st := rfl

/-- xs[i], d[k] at a place; xs[i] = v, d[k] = v -/
def getP (g : G) (x y : D) : Option D := match x with
  | .ref p => match g[p]? with
    | some (.lst xs) => match y with
      | .int i => (ixn xs.length i).bind fun j => xs[j]?
      | _ => none
    | some (.dk kvs) => (keyD y).bind fun k => valK kvs k
    | _ => none
  | _ => none
/-- x.k = v at a place -/
noncomputable def putA (W : Fn) (x : D) (k : Nat) (v : D) (g : G) : Option G := match x with
  | .ref p => match g[p]? with
    | some (.ins c ks fs) => (match W.cls c with
      | some C => if C.fl.contains k = true ∧ ks.length < 100 ∧ ks.length = fs.length then some (g.set p (.ins c (putFl ks fs k v).1 (putFl ks fs k v).2)) else none
      | none => none)
    | _ => none
  | _ => none
noncomputable def putP (x y v : D) (g : G) : Option G := match x with
  | .ref p => match g[p]? with
    | some (.lst xs) => match y with
      | .int i => (ixn xs.length i).map fun j => g.set p (.lst (xs.set j v))
      | _ => none
    | some (.dk kvs) => if kvs.length < LIM then (keyD y).map fun k => g.set p (.dk (putK kvs k v)) else none
    | _ => none
  | _ => none
def nxO (s : St) : Option G → F
  | some g => .nx s g
  | none => .st

mutual
noncomputable def evS (W : Fn) : LS → St → G → F
  | .expr e, s, g => toF (evE W e s g) s fun _ g => .nx s g
  | .set i e, s, g => toF (evE W e s g) s fun d g => if i < s.length then .nx (s.set i (some d)) g else .st
  | .unp is e, s, g => toF (evE W e s g) s fun d g => match setT (.tup is) d s with
    | some s' => .nx s' g
    | none => .st
  | .par i j a b, s, g => toF (evE W a s g) s fun x g => toF (evE W b s g) s fun y g =>
      if i < s.length ∧ j < s.length ∧ i ≠ j then .nx ((s.set i (some x)).set j (some y)) g else .st
  | .aug i o e, s, g => match s[i]? with
    | some (some x) => toF (evE W e s g) s fun y g => match o, x, y with
      | .add, .int p, .int q => .nx (s.set i (some (.int (p + q)))) g
      | .sub, .int p, .int q => .nx (s.set i (some (.int (p - q)))) g
      | _, _, _ => .st
    | _ => .st
  | .seti a b e, s, g => toF (evE W e s g) s fun v g => toF (evE W a s g) s fun x g => toF (evE W b s g) s fun y g => nxO s (putP x y v g)
  | .seti2 a b a2 b2 e, s, g => toF (evE W e s g) s fun v g => match v with
    | .tup [p, q] => toF (evE W a s g) s fun x g => toF (evE W b s g) s fun y g => match putP x y p g with
      | some g => toF (evE W a2 s g) s fun x g => toF (evE W b2 s g) s fun y g => nxO s (putP x y q g)
      | none => .st
    | _ => .st
  | .augi o a b e, s, g => toF (evE W a s g) s fun x g => toF (evE W b s g) s fun y g => match getP g x y with
    | some old => toF (evE W e s g) s fun v g => match o, old, v with
      | .add, .int m, .int n => nxO s (putP x y (.int (m + n)) g)
      | .sub, .int m, .int n => nxO s (putP x y (.int (m - n)) g)
      | _, _, _ => .st
    | none => .st
  | .app a e, s, g => toF (evE W a s g) s fun x g => match x with
    | .ref p => match g[p]? with
      | some (.lst _) => toF (evE W e s g) s fun v g => match g[p]? with
        | some (.lst xs) => if xs.length < LIM then .nx s (g.set p (.lst (xs ++ [v]))) else .st
        | _ => .st
      | _ => .st
    | _ => .st
  | .par3 i j l a b c, s, g => toF (evE W a s g) s fun x g => toF (evE W b s g) s fun y g => toF (evE W c s g) s fun z g =>
      if i < s.length ∧ j < s.length ∧ l < s.length ∧ i ≠ j ∧ i ≠ l ∧ j ≠ l then .nx (((s.set i (some x)).set j (some y)).set l (some z)) g else .st
  | .sfld a k e, s, g => toF (evE W e s g) s fun v g => toF (evE W a s g) s fun x g => nxO s (putA W x k v g)
  | .afld a k o e, s, g => toF (evE W a s g) s fun x g => match clsOf g x with
    | some p => (match W.cls p.1 with
      | some C => (match fldD p.2.1 p.2.2 k with
        | some old => if C.fl.contains k = true then toF (evE W e s g) s fun v g => if (clsOf g x).map (·.1) = some p.1 then (match o, old, v with
          | .add, .int m, .int n => nxO s (putA W x k (.int (m + n)) g)
          | .sub, .int m, .int n => nxO s (putA W x k (.int (m - n)) g)
          | _, _, _ => .st) else .st else .st
        | none => .st)
      | none => .st)
    | none => .st
  | .never, _, _ => .st
  | .ite c a b, s, g => match evC W c s g with
    | .ok true g => evSs W a s g
    | .ok false g => evSs W b s g
    | .exc x g => .ex x s g
    | .st => .st
  | .for_ t i b, s, g => match evI W i s g with
    | .ok p g => forL t p.2 (evSs W b) p.1 s g
    | .exc x g => .ex x s g
    | .st => .st
  | .whl c b, s, g => whlL (evC W c) (evSs W b) W.fuel s g
  | .ret e, s, g => toF (evE W e s g) s fun d g => .rt d g
  | .retn, s, g => .rt .non g
  | .pass, s, g => .nx s g
  | .brk, s, g => .bk s g
  | .cnt, s, g => .ct s g
noncomputable def evSs (W : Fn) : LSs → St → G → F
  | .nil, s, g => .nx s g
  | .cons c r, s, g => match evS W c s g with
    | .nx s g => evSs W r s g
    | f => f
end

def start (F : LF) (ds : List D) : St := ds.map some ++ List.replicate (F.n - F.np) none

noncomputable def endF (keep : Bool) (g0 : G) : F → R D
  | .nx _ g => exitD keep g0 .non g
  | .rt d g => exitD keep g0 d g
  | .ex x _ g => match exitD keep g0 x g with
    | .ok x g => .exc x g
    | _ => .st
  | _ => .st

noncomputable def callF (P : Nat → Option LF) (con : Nat → D) (cls : Nat → Option LCl) (fuel : Nat) : Nat → Nat → List D → G → R D
  | 0, _, _, _ => .st
  | k + 1, f, ds, g => match P f with
    | none => .st
    | some F => if ds.length = F.np then endF F.keep g (evSs ⟨callF P con cls fuel k, con, fuel, cls⟩ F.body (start F ds) g) else .st

/-- constants by their numbers -/
def conOf (C : List (Str × Int)) (i : Nat) : D := match C[i]? with
  | some p => .int p.2
  | none => .non
end KN

set_option autoImplicit true
set_option relaxedAutoImplicit true
/-! KQ: the equations of the evaluator, at full arguments -/
namespace KN
@[simp] theorem evE_var (W : Fn) (s : St) (g : G) : evE W (.var i) s g = match s[i]? with
    | some (some d) => .ok d g
    | _ => .st := by first | (simp only [evE]; done) | (simp only [evE]; rfl)
@[simp] theorem evE_int (W : Fn) (s0 : St) (g : G) : evE W (.int i) s0 g = .ok (.int i) g := by first | (simp only [evE]; done) | (simp only [evE]; rfl)
@[simp] theorem evE_str (W : Fn) (s0 : St) (g : G) : evE W (.str x) s0 g = .ok (.str x) g := by first | (simp only [evE]; done) | (simp only [evE]; rfl)
@[simp] theorem evE_bl (W : Fn) (s0 : St) (g : G) : evE W (.bl b) s0 g = .ok (.bl b) g := by first | (simp only [evE]; done) | (simp only [evE]; rfl)
@[simp] theorem evE_non (W : Fn) (s0 : St) (g : G) : evE W (.non) s0 g = .ok .non g := by first | (simp only [evE]; done) | (simp only [evE]; rfl)
@[simp] theorem evE_dnew (W : Fn) (s0 : St) (g : G) : evE W (.dnew) s0 g = .ok (.ref g.length) (g ++ [.dk []]) := by first | (simp only [evE]; done) | (simp only [evE]; rfl)
@[simp] theorem evE_con (W : Fn) (s0 : St) (g : G) : evE W (.con c) s0 g = .ok (W.con c) g := by first | (simp only [evE]; done) | (simp only [evE]; rfl)
@[simp] theorem evE_tup (W : Fn) (s : St) (g : G) : evE W (.tup es) s g = (evEs W es s g).bind fun xs g => if xs.length ≤ LIM then .ok (.tup xs) g else .st := by first | (simp only [evE]; done) | (simp only [evE]; rfl)
@[simp] theorem evE_lst (W : Fn) (s : St) (g : G) : evE W (.lst mu es) s g = (evEs W es s g).bind fun xs g => mkL mu xs g := by first | (simp only [evE]; done) | (simp only [evE]; rfl)
@[simp] theorem evE_bin (W : Fn) (s : St) (g : G) : evE W (.bin o a b) s g = (evE W a s g).bind fun x g => (evE W b s g).bind fun y g => oR (binD o g x y) g := by first | (simp only [evE]; done) | (simp only [evE]; rfl)
@[simp] theorem evE_neg (W : Fn) (s : St) (g : G) : evE W (.neg a) s g = (evE W a s g).bind fun x g => match x with
    | .int i => .ok (.int (-i)) g
    | _ => .st := by first | (simp only [evE]; done) | (simp only [evE]; rfl)
@[simp] theorem evE_cmp (W : Fn) (s : St) (g : G) : evE W (.cmp o a b) s g = (evE W a s g).bind fun x g => (evE W b s g).bind fun y g => (oR (cmpD o g x y) g).bind fun k g => .ok (.bl k) g := by first | (simp only [evE]; done) | (simp only [evE]; rfl)
@[simp] theorem evE_chain (W : Fn) (s : St) (g : G) : evE W (.chain o o' a b c) s g = (evE W a s g).bind fun x g => (evE W b s g).bind fun y g => (oR (cmpD o g x y) g).bind fun k g =>
      if k = true then (evE W c s g).bind fun z g => (oR (cmpD o' g y z) g).bind fun k g => .ok (.bl k) g else .ok (.bl false) g := by first | (simp only [evE]; done) | (simp only [evE]; rfl)
@[simp] theorem evE_and (W : Fn) (s : St) (g : G) : evE W (.and a b) s g = (evE W a s g).bind fun x g => match x with
    | .bl true => evE W b s g
    | .bl false => .ok (.bl false) g
    | _ => .st := by first | (simp only [evE]; done) | (simp only [evE]; rfl)
@[simp] theorem evE_or (W : Fn) (s : St) (g : G) : evE W (.or a b) s g = (evE W a s g).bind fun x g => match x with
    | .bl true => .ok (.bl true) g
    | .bl false => evE W b s g
    | _ => .st := by first | (simp only [evE]; done) | (simp only [evE]; rfl)
@[simp] theorem evE_not (W : Fn) (s : St) (g : G) : evE W (.not a) s g = (evE W a s g).bind fun x g => match x with
    | .bl b => .ok (.bl (!b)) g
    | _ => .st := by first | (simp only [evE]; done) | (simp only [evE]; rfl)
@[simp] theorem evE_ifx (W : Fn) (s : St) (g : G) : evE W (.ifx c a b) s g = (evC W c s g).bind fun k g => if k = true then evE W a s g else evE W b s g := by first | (simp only [evE]; done) | (simp only [evE]; rfl)
@[simp] theorem evE_idx (W : Fn) (s : St) (g : G) : evE W (.idx a b) s g = (evE W a s g).bind fun x g => (evE W b s g).bind fun y g => oR (idxD g x y) g := by first | (simp only [evE]; done) | (simp only [evE]; rfl)
@[simp] theorem evE_sli (W : Fn) (s : St) (g : G) : evE W (.sli a lo hi) s g = (evE W a s g).bind fun x g => (evO W lo s g).bind fun l g => (evO W hi s g).bind fun u g => oR (sliD g x l u) g := by first | (simp only [evE]; done) | (simp only [evE]; rfl)
@[simp] theorem evE_index (W : Fn) (s : St) (g : G) : evE W (.index a e) s g = (evE W a s g).bind fun x g => match view g x with
    | .lst _ => (evE W e s g).bind fun y g => oR (indexD g x y) g
    | _ => .st := by first | (simp only [evE]; done) | (simp only [evE]; rfl)
@[simp] theorem evE_call (W : Fn) (s : St) (g : G) : evE W (.call f es) s g = (evEs W es s g).bind fun xs g => W.call f xs g := by first | (simp only [evE]; done) | (simp only [evE]; rfl)
@[simp] theorem evE_bi (W : Fn) (s : St) (g : G) : evE W (.bi b es) s g = (evEs W es s g).bind fun xs g => oR (biD b g xs) g := by first | (simp only [evE]; done) | (simp only [evE]; rfl)
@[simp] theorem evE_isi (W : Fn) (s : St) (g : G) : evE W (.isi a ts) s g = (evE W a s g).bind fun x g => (oR (isTys g x ts) g).bind fun k g => .ok (.bl k) g := by first | (simp only [evE]; done) | (simp only [evE]; rfl)
@[simp] theorem evE_comp (W : Fn) (s : St) (g : G) : evE W (.comp mu e t i c) s g = (evI W i s g).bind fun p g => (compL t p.2 (evCs W c) (evE W e) p.1 s g).bind fun xs g => mkC mu xs g := by first | (simp only [evE]; done) | (simp only [evE]; rfl)
@[simp] theorem evE_chain3 (W : Fn) (s : St) (g : G) : evE W (.chain3 o o' o2 a b c d) s g = (evE W a s g).bind fun x g => (evE W b s g).bind fun y g => (oR (cmpD o g x y) g).bind fun k g =>
      if k = true then (evE W c s g).bind fun z g => (oR (cmpD o' g y z) g).bind fun k g => if k = true then (evE W d s g).bind fun w g => (oR (cmpD o2 g z w) g).bind fun k g => .ok (.bl k) g else .ok (.bl false) g else .ok (.bl false) g := by first | (simp only [evE]; done) | (simp only [evE]; rfl)
@[simp] theorem evE_sset (W : Fn) (s : St) (g : G) : evE W (.sset a) s g = (evE W a s g).bind fun x g => oR (ssetD g x) g := by first | (simp only [evE]; done) | (simp only [evE]; rfl)
@[simp] theorem evE_mm (W : Fn) (s : St) (g : G) : evE W (.mm mx a d) s g = (evE W a s g).bind fun x g => (evE W d s g).bind fun y g => oR (mmD mx g x y) g := by first | (simp only [evE]; done) | (simp only [evE]; rfl)
@[simp] theorem evE_rev (W : Fn) (s : St) (g : G) : evE W (.rev a) s g = (evE W a s g).bind fun x g => oR (revD g x) g := by first | (simp only [evE]; done) | (simp only [evE]; rfl)
@[simp] theorem evE_calld (W : Fn) (s : St) (g : G) : evE W (.calld f es ds) s g = (evEs W es s g).bind fun xs g => W.call f (xs ++ ds) g := by first | (simp only [evE]; done) | (simp only [evE]; rfl)
@[simp] theorem evE_fld (W : Fn) (s : St) (g : G) : evE W (.fld a k) s g = (evE W a s g).bind fun x g => getF W k x g := by first | (simp only [evE]; done) | (simp only [evE]; rfl)
@[simp] theorem evE_new (W : Fn) (s : St) (g : G) : evE W (.new mu c es) s g = (evEs W es s g).bind fun xs g => newD W mu c xs g := by first | (simp only [evE]; done) | (simp only [evE]; rfl)
@[simp] theorem evE_meth (W : Fn) (s : St) (g : G) : evE W (.meth a m es) s g = (evE W a s g).bind fun x g => (oR (methD W g x m) g).bind fun f g => (evEs W es s g).bind fun xs g => W.call f (x :: xs) g := by first | (simp only [evE]; done) | (simp only [evE]; rfl)
@[simp] theorem evE_isc (W : Fn) (s : St) (g : G) : evE W (.isc a c) s g = (evE W a s g).bind fun x g => (oR (isC g x c) g).bind fun k g => .ok (.bl k) g := by first | (simp only [evE]; done) | (simp only [evE]; rfl)
@[simp] theorem evE_eqo (W : Fn) (s : St) (g : G) : evE W (.eqo ne a b) s g = (evE W a s g).bind fun x g => (evE W b s g).bind fun y g => eqoD W ne x y g := by first | (simp only [evE]; done) | (simp only [evE]; rfl)
@[simp] theorem evE_skey (W : Fn) (s : St) (g : G) : evE W (.skey tu a ks) s g = (evE W a s g).bind fun x g => oR (skeyD tu g s ks x) g := by first | (simp only [evE]; done) | (simp only [evE]; rfl)
@[simp] theorem evE_fnv (W : Fn) (s0 : St) (g : G) : evE W (.fnv f) s0 g = .ok (.fn f) g := by first | (simp only [evE]; done) | (simp only [evE]; rfl)
@[simp] theorem evE_mlist (W : Fn) (s : St) (g : G) : evE W (.mlist a) s g = (evE W a s g).bind fun x g => match seqOf g x with
    | some xs => mkL true xs g
    | none => .st := by first | (simp only [evE]; done) | (simp only [evE]; rfl)
@[simp] theorem evE_callv (W : Fn) (s : St) (g : G) : evE W (.callv i es) s g = match s[i]? with
    | some (some (.fn f)) => (evEs W es s g).bind fun xs g => W.call f xs g
    | _ => .st := by first | (simp only [evE]; done) | (simp only [evE]; rfl)
@[simp] theorem evEs_nil (W : Fn) (s0 : St) (g : G) : evEs W (.nil) s0 g = .ok [] g := by first | (simp only [evEs]; done) | (simp only [evEs]; rfl)
@[simp] theorem evEs_cons (W : Fn) (s : St) (g : G) : evEs W (.cons e es) s g = (evE W e s g).bind fun x g => (evEs W es s g).bind fun xs g => .ok (x :: xs) g := by first | (simp only [evEs]; done) | (simp only [evEs]; rfl)
@[simp] theorem evO_no (W : Fn) (s0 : St) (g : G) : evO W (.no) s0 g = .ok none g := by first | (simp only [evO]; done) | (simp only [evO]; rfl)
@[simp] theorem evO_yes (W : Fn) (s : St) (g : G) : evO W (.yes e) s g = (evE W e s g).bind fun x g => (oR (asI x) g).bind fun i g => .ok (some i) g := by first | (simp only [evO]; done) | (simp only [evO]; rfl)
@[simp] theorem evC_val (W : Fn) (s : St) (g : G) : evC W (.val e) s g = (evE W e s g).bind fun x g => oR (truD g x) g := by first | (simp only [evC]; done) | (simp only [evC]; rfl)
@[simp] theorem evC_cmp (W : Fn) (s : St) (g : G) : evC W (.cmp o a b) s g = (evE W a s g).bind fun x g => (evE W b s g).bind fun y g => oR (cmpD o g x y) g := by first | (simp only [evC]; done) | (simp only [evC]; rfl)
@[simp] theorem evC_chain (W : Fn) (s : St) (g : G) : evC W (.chain o o' a b c) s g = (evE W a s g).bind fun x g => (evE W b s g).bind fun y g => (oR (cmpD o g x y) g).bind fun k g =>
      if k = true then (evE W c s g).bind fun z g => oR (cmpD o' g y z) g else .ok false g := by first | (simp only [evC]; done) | (simp only [evC]; rfl)
@[simp] theorem evC_and (W : Fn) (s : St) (g : G) : evC W (.and a b) s g = (evC W a s g).bind fun k g => if k = true then evC W b s g else .ok false g := by first | (simp only [evC]; done) | (simp only [evC]; rfl)
@[simp] theorem evC_or (W : Fn) (s : St) (g : G) : evC W (.or a b) s g = (evC W a s g).bind fun k g => if k = true then .ok true g else evC W b s g := by first | (simp only [evC]; done) | (simp only [evC]; rfl)
@[simp] theorem evC_not (W : Fn) (s : St) (g : G) : evC W (.not a) s g = (evC W a s g).bind fun k g => .ok (!k) g := by first | (simp only [evC]; done) | (simp only [evC]; rfl)
@[simp] theorem evCs_no (W : Fn) (s0 : St) (g : G) : evCs W (.no) s0 g = .ok true g := by first | (simp only [evCs]; done) | (simp only [evCs]; rfl)
@[simp] theorem evCs_yes (W : Fn) (s : St) (g : G) : evCs W (.yes c) s g = evC W c s g := by first | (simp only [evCs]; done) | (simp only [evCs]; rfl)
theorem evI_seq (W : Fn) (s : St) (g : G) : evI W (.seq e) s g = (evE W e s g).bind fun x g => oR (srcD g x) g := by first | (simp only [evI]; done) | (simp only [evI]; rfl)
theorem evI_range1 (W : Fn) (s : St) (g : G) : evI W (.range1 a) s g = (evE W a s g).bind fun x g => (oR (asI x) g).bind fun n g => if okR 0 n ∧ n.toNat ≤ LIM then .ok ((rangeI 0 n).map .int, []) g else .st := by first | (simp only [evI]; done) | (simp only [evI]; rfl)
theorem evI_range2 (W : Fn) (s : St) (g : G) : evI W (.range2 a b) s g = (evE W a s g).bind fun x g => (evE W b s g).bind fun y g => (oR (asI x) g).bind fun lo g => (oR (asI y) g).bind fun hi g =>
      if okR lo hi ∧ (hi - lo).toNat ≤ LIM then .ok ((rangeI lo hi).map .int, []) g else .st := by first | (simp only [evI]; done) | (simp only [evI]; rfl)
theorem evI_range3 (W : Fn) (s : St) (g : G) : evI W (.range3 a b c) s g = (evE W a s g).bind fun x g => (evE W b s g).bind fun y g => (evE W c s g).bind fun z g => (oR (asI x) g).bind fun lo g => (oR (asI y) g).bind fun hi g => (oR (asI z) g).bind fun st g =>
      if okR lo hi ∧ st = -1 ∧ (rangeS lo hi st).length ≤ LIM then .ok ((rangeS lo hi st).map .int, []) g else .st := by first | (simp only [evI]; done) | (simp only [evI]; rfl)
theorem evI_zip (W : Fn) (s : St) (g : G) : evI W (.zip es) s g = (evEs W es s g).bind fun ds g => (oR (zipD g ds) g).bind fun p g => .ok (p.1.map .tup, p.2) g := by first | (simp only [evI]; done) | (simp only [evI]; rfl)
theorem evI_enum (W : Fn) (s : St) (g : G) : evI W (.enum a) s g = (evE W a s g).bind fun x g => (oR (srcD g x) g).bind fun p g => .ok (enumL 0 p.1, p.2) g := by first | (simp only [evI]; done) | (simp only [evI]; rfl)
@[simp] theorem evS_expr (W : Fn) (s : St) (g : G) : evS W (.expr e) s g = toF (evE W e s g) s fun _ g => .nx s g := by first | (simp only [evS]; done) | (simp only [evS]; rfl)
@[simp] theorem evS_set (W : Fn) (s : St) (g : G) : evS W (.set i e) s g = toF (evE W e s g) s fun d g => if i < s.length then .nx (s.set i (some d)) g else .st := by first | (simp only [evS]; done) | (simp only [evS]; rfl)
@[simp] theorem evS_unp (W : Fn) (s : St) (g : G) : evS W (.unp is e) s g = toF (evE W e s g) s fun d g => match setT (.tup is) d s with
    | some s' => .nx s' g
    | none => .st := by first | (simp only [evS]; done) | (simp only [evS]; rfl)
@[simp] theorem evS_par (W : Fn) (s : St) (g : G) : evS W (.par i j a b) s g = toF (evE W a s g) s fun x g => toF (evE W b s g) s fun y g =>
      if i < s.length ∧ j < s.length ∧ i ≠ j then .nx ((s.set i (some x)).set j (some y)) g else .st := by first | (simp only [evS]; done) | (simp only [evS]; rfl)
@[simp] theorem evS_aug (W : Fn) (s : St) (g : G) : evS W (.aug i o e) s g = match s[i]? with
    | some (some x) => toF (evE W e s g) s fun y g => match o, x, y with
      | .add, .int p, .int q => .nx (s.set i (some (.int (p + q)))) g
      | .sub, .int p, .int q => .nx (s.set i (some (.int (p - q)))) g
      | _, _, _ => .st
    | _ => .st := by first | (simp only [evS]; done) | (simp only [evS]; rfl)
@[simp] theorem evS_seti (W : Fn) (s : St) (g : G) : evS W (.seti a b e) s g = toF (evE W e s g) s fun v g => toF (evE W a s g) s fun x g => toF (evE W b s g) s fun y g => nxO s (putP x y v g) := by first | (simp only [evS]; done) | (simp only [evS]; rfl)
@[simp] theorem evS_seti2 (W : Fn) (s : St) (g : G) : evS W (.seti2 a b a2 b2 e) s g = toF (evE W e s g) s fun v g => match v with
    | .tup [p, q] => toF (evE W a s g) s fun x g => toF (evE W b s g) s fun y g => match putP x y p g with
      | some g => toF (evE W a2 s g) s fun x g => toF (evE W b2 s g) s fun y g => nxO s (putP x y q g)
      | none => .st
    | _ => .st := by first | (simp only [evS]; done) | (simp only [evS]; rfl)
@[simp] theorem evS_augi (W : Fn) (s : St) (g : G) : evS W (.augi o a b e) s g = toF (evE W a s g) s fun x g => toF (evE W b s g) s fun y g => match getP g x y with
    | some old => toF (evE W e s g) s fun v g => match o, old, v with
      | .add, .int m, .int n => nxO s (putP x y (.int (m + n)) g)
      | .sub, .int m, .int n => nxO s (putP x y (.int (m - n)) g)
      | _, _, _ => .st
    | none => .st := by first | (simp only [evS]; done) | (simp only [evS]; rfl)
@[simp] theorem evS_app (W : Fn) (s : St) (g : G) : evS W (.app a e) s g = toF (evE W a s g) s fun x g => match x with
    | .ref p => match g[p]? with
      | some (.lst _) => toF (evE W e s g) s fun v g => match g[p]? with
        | some (.lst xs) => if xs.length < LIM then .nx s (g.set p (.lst (xs ++ [v]))) else .st
        | _ => .st
      | _ => .st
    | _ => .st := by first | (simp only [evS]; done) | (simp only [evS]; rfl)
@[simp] theorem evS_par3 (W : Fn) (s : St) (g : G) : evS W (.par3 i j l a b c) s g = toF (evE W a s g) s fun x g => toF (evE W b s g) s fun y g => toF (evE W c s g) s fun z g =>
      if i < s.length ∧ j < s.length ∧ l < s.length ∧ i ≠ j ∧ i ≠ l ∧ j ≠ l then .nx (((s.set i (some x)).set j (some y)).set l (some z)) g else .st := by first | (simp only [evS]; done) | (simp only [evS]; rfl)
@[simp] theorem evS_sfld (W : Fn) (s : St) (g : G) : evS W (.sfld a k e) s g = toF (evE W e s g) s fun v g => toF (evE W a s g) s fun x g => nxO s (putA W x k v g) := by first | (simp only [evS]; done) | (simp only [evS]; rfl)
@[simp] theorem evS_afld (W : Fn) (s : St) (g : G) : evS W (.afld a k o e) s g = toF (evE W a s g) s fun x g => match clsOf g x with
    | some p => (match W.cls p.1 with
      | some C => (match fldD p.2.1 p.2.2 k with
        | some old => if C.fl.contains k = true then toF (evE W e s g) s fun v g => if (clsOf g x).map (·.1) = some p.1 then (match o, old, v with
          | .add, .int m, .int n => nxO s (putA W x k (.int (m + n)) g)
          | .sub, .int m, .int n => nxO s (putA W x k (.int (m - n)) g)
          | _, _, _ => .st) else .st else .st
        | none => .st)
      | none => .st)
    | none => .st := by first | (simp only [evS]; done) | (simp only [evS]; rfl)
@[simp] theorem evS_never (W : Fn) (s0 : St) (g0 : G) : evS W (.never) s0 g0 = .st := by first | (simp only [evS]; done) | (simp only [evS]; rfl)
@[simp] theorem evS_ite (W : Fn) (s : St) (g : G) : evS W (.ite c a b) s g = match evC W c s g with
    | .ok true g => evSs W a s g
    | .ok false g => evSs W b s g
    | .exc x g => .ex x s g
    | .st => .st := by first | (simp only [evS]; done) | (simp only [evS]; rfl)
@[simp] theorem evS_for_ (W : Fn) (s : St) (g : G) : evS W (.for_ t i b) s g = match evI W i s g with
    | .ok p g => forL t p.2 (evSs W b) p.1 s g
    | .exc x g => .ex x s g
    | .st => .st := by first | (simp only [evS]; done) | (simp only [evS]; rfl)
@[simp] theorem evS_whl (W : Fn) (s : St) (g : G) : evS W (.whl c b) s g = whlL (evC W c) (evSs W b) W.fuel s g := by first | (simp only [evS]; done) | (simp only [evS]; rfl)
@[simp] theorem evS_ret (W : Fn) (s : St) (g : G) : evS W (.ret e) s g = toF (evE W e s g) s fun d g => .rt d g := by first | (simp only [evS]; done) | (simp only [evS]; rfl)
@[simp] theorem evS_retn (W : Fn) (s : St) (g : G) : evS W (.retn) s g = .rt .non g := by first | (simp only [evS]; done) | (simp only [evS]; rfl)
@[simp] theorem evS_pass (W : Fn) (s : St) (g : G) : evS W (.pass) s g = .nx s g := by first | (simp only [evS]; done) | (simp only [evS]; rfl)
@[simp] theorem evS_brk (W : Fn) (s : St) (g : G) : evS W (.brk) s g = .bk s g := by first | (simp only [evS]; done) | (simp only [evS]; rfl)
@[simp] theorem evS_cnt (W : Fn) (s : St) (g : G) : evS W (.cnt) s g = .ct s g := by first | (simp only [evS]; done) | (simp only [evS]; rfl)
@[simp] theorem evSs_nil (W : Fn) (s : St) (g : G) : evSs W (.nil) s g = .nx s g := by first | (simp only [evSs]; done) | (simp only [evSs]; rfl)
@[simp] theorem evSs_cons (W : Fn) (s : St) (g : G) : evSs W (.cons c r) s g = match evS W c s g with
    | .nx s g => evSs W r s g
    | f => f := by first | (simp only [evSs]; done) | (simp only [evSs]; rfl)
end KN

set_option autoImplicit false
set_option relaxedAutoImplicit false
/-! KP: tools for runs in plain Lean -/
namespace KN
/-- what is walked -/
def seqI (d : D) (g : G) : R (List D × Lk) := oR (srcD g d) g
@[simp] theorem evI_sq (W : Fn) (e : LE) (s : St) (g : G) : evI W (.seq e) s g = (evE W e s g).bind seqI := evI_seq W s g
@[simp] theorem seqI_tup (xs : List D) (g : G) : seqI (.tup xs) g = .ok (xs, []) g := rfl
@[simp] theorem seqI_lst (xs : List D) (g : G) : seqI (.lst xs) g = .ok (xs, []) g := rfl
theorem seqI_ref {a : Nat} {xs : List D} {g : G} (h : g[a]? = some (.lst xs)) : seqI (.ref a) g = .ok (xs, [(a, xs)]) g := by
  simp only [seqI, srcD, h, oR_some]
@[simp] theorem srcD_tup (xs : List D) (g : G) : srcD g (.tup xs) = some (xs, []) := rfl
@[simp] theorem srcD_lst (xs : List D) (g : G) : srcD g (.lst xs) = some (xs, []) := rfl
@[simp] theorem start_eq (F : LF) (ds : List D) : start F ds = ds.map some ++ List.replicate (F.n - F.np) none := rfl
@[simp] theorem asI_int (i : Int) : asI (.int i) = some i := rfl
@[simp] theorem nxO_some (s : St) (g : G) : nxO s (some g) = .nx s g := rfl
@[simp] theorem nxO_none (s : St) : nxO s none = .st := rfl
@[simp] theorem wipeA_nil (s : St) : wipeA s [] = s := rfl
@[simp] theorem wipeA_cons (s : St) (i : Nat) (is : List Nat) : wipeA s (i :: is) = (wipeA s is).set i none := rfl
@[simp] theorem ownT_name (i : Nat) : ownT (.name i) = [i] := rfl
@[simp] theorem ownT_tup (is : List Nat) : ownT (.tup is) = is := rfl
@[simp] theorem setA_nil (s : St) : setA [] [] s = some s := rfl
@[simp] theorem setA_cons (i : Nat) (is : List Nat) (d : D) (ds : List D) (s : St) : setA (i :: is) (d :: ds) s = if i < s.length then setA is ds (s.set i (some d)) else none := rfl
section
variable (g : G) (i j n : Int) (xs ys : List D) (a b : D)
@[simp] theorem dkOf_int : dkOf g (.int i) = none := rfl
@[simp] theorem dkOf_bl (b : Bool) : dkOf g (.bl b) = none := rfl
@[simp] theorem dkOf_non : dkOf g .non = none := rfl
@[simp] theorem dkOf_str (s : PySem.Str) : dkOf g (.str s) = none := rfl
@[simp] theorem dkOf_lst : dkOf g (.lst xs) = none := rfl
@[simp] theorem dkOf_tup : dkOf g (.tup xs) = none := rfl
@[simp] theorem dkOf_scr (ns : List Int) : dkOf g (.scr ns) = none := rfl
@[simp] theorem b_add : binD .add g (.int i) (.int j) = some (.int (i + j)) := rfl
@[simp] theorem b_sub : binD .sub g (.int i) (.int j) = some (.int (i - j)) := rfl
theorem b_mul (h : small i ∨ small j) : binD .mul g (.int i) (.int j) = some (.int (i * j)) := if_pos h
theorem b_fdiv (h : j ≠ 0 ∧ j.natAbs < 1073741824) : binD .fdiv g (.int i) (.int j) = some (.int (i.fdiv j)) := if_pos (.inl h)
theorem b_mod (h : j ≠ 0) : binD .mod g (.int i) (.int j) = some (.int (i.fmod j)) := if_pos h
theorem b_pow (h : 0 ≤ j ∧ j ≤ 1000000 ∧ small i) : binD .pow g (.int i) (.int j) = some (.int (i ^ j.toNat)) := if_pos h
theorem small_of (h : -18446744073709551616 < i ∧ i < 18446744073709551616) : small i := h
theorem b_cat (h : xs.length + ys.length ≤ LIM) : binD .add g (.lst xs) (.lst ys) = some (.lst (xs ++ ys)) := if_pos h
@[simp] theorem c_lt : cmpD .lt g (.int i) (.int j) = some (decide (i < j)) := rfl
@[simp] theorem c_le : cmpD .le g (.int i) (.int j) = some (decide (i ≤ j)) := rfl
@[simp] theorem c_gt : cmpD .gt g (.int i) (.int j) = some (decide (j < i)) := rfl
@[simp] theorem c_ge : cmpD .ge g (.int i) (.int j) = some (decide (j ≤ i)) := rfl
@[simp] theorem c_eqI : cmpD .eq g (.int i) (.int j) = some (decide (i = j)) := by
  show some (i == j) = _
  by_cases h : i = j <;> simp [h]
@[simp] theorem c_neI : cmpD .ne g (.int i) (.int j) = some (!decide (i = j)) := by
  show some (!(i == j)) = _
  by_cases h : i = j <;> simp [h]
@[simp] theorem c_eqB (x y : Bool) : cmpD .eq g (.bl x) (.bl y) = some (x == y) := rfl
@[simp] theorem c_neB (x y : Bool) : cmpD .ne g (.bl x) (.bl y) = some (!(x == y)) := rfl
@[simp] theorem c_isn : cmpD .isn g a .non = some (isNon a) := rfl
@[simp] theorem c_isnn : cmpD .isnn g a .non = some (!isNon a) := rfl
@[simp] theorem isNon_int : isNon (.int i) = false := rfl
@[simp] theorem isNon_bl (b : Bool) : isNon (.bl b) = false := rfl
@[simp] theorem isNon_tup : isNon (.tup xs) = false := rfl
@[simp] theorem isNon_lst : isNon (.lst xs) = false := rfl
@[simp] theorem isNon_non : isNon .non = true := rfl
@[simp] theorem t_bl (b : Bool) : truD g (.bl b) = some b := rfl
@[simp] theorem t_int : truD g (.int i) = some (i != 0) := rfl
@[simp] theorem t_non : truD g .non = some false := rfl
@[simp] theorem t_lst : truD g (.lst xs) = some (!xs.isEmpty) := rfl
@[simp] theorem t_tup : truD g (.tup xs) = some (!xs.isEmpty) := rfl
@[simp] theorem i_int : biD .int g [.int i] = some (.int i) := rfl
@[simp] theorem i_lenL : biD .len g [.lst xs] = some (.int xs.length) := rfl
@[simp] theorem i_lenT : biD .len g [.tup xs] = some (.int xs.length) := rfl
@[simp] theorem i_lenS (ns : List Int) : biD .len g [.scr ns] = some (.int ns.length) := rfl
@[simp] theorem i_max2 : biD .max g [.int i, .int j] = some (.int (if j > i then j else i)) := rfl
@[simp] theorem i_min2 : biD .min g [.int i, .int j] = some (.int (if j < i then j else i)) := rfl
@[simp] theorem i_tupL : biD .tuple g [.lst xs] = some (.tup xs) := rfl
@[simp] theorem i_tupT : biD .tuple g [.tup xs] = some (.tup xs) := rfl
@[simp] theorem i_listL : biD .list g [.lst xs] = some (.lst xs) := rfl
@[simp] theorem i_listT : biD .list g [.tup xs] = some (.lst xs) := rfl
theorem i_listD (kvs : List (Ky × D)) (h : dkOf g a = some kvs) : biD .list g [a] = some (.lst (kvs.map fun kv => kyD kv.1)) := by
  simp only [biD, h]
theorem i_tupV (h : view g a = .lst xs) : biD .tuple g [a] = some (.tup xs) := by
  simp only [biD, h]
theorem i_sum (ns : List Int) : biD .sum g [.lst (ns.map .int)] = some (.int ns.sum) := by show ((intsD (ns.map .int)).map _) = _; rw [ints_map]; rfl
theorem i_sumT (ns : List Int) : biD .sum g [.tup (ns.map .int)] = some (.int ns.sum) := by show ((intsD (ns.map .int)).map _) = _; rw [ints_map]; rfl
theorem b_fdivW (h : 0 < j ∧ small j) : binD .fdiv g (.int i) (.int j) = some (.int (i.fdiv j)) := if_pos (.inr h)
theorem i_sorted (ns : List Int) : biD .sorted g [.lst (ns.map .int)] = some (.lst ((sortI ns).map .int)) := by
  simp only [biD, view_lst, ints_map]
theorem i_sortR (rs : List (List Int)) (h : oneLen rs = true) : biD .sorted g [.lst (rs.map rowD)] = some (.lst ((sortR rs).map rowD)) := by
  cases rs with
  | nil => simp [biD, intsD, sortI, sortR]
  | cons r rs =>
    have e : intsD ((r :: rs).map rowD) = none := rfl
    simp only [biD, view_lst, e, rowsD_map, h, if_true]
theorem i_max (ns : List Int) (h : ns ≠ []) : biD .max g [.lst (ns.map .int)] = some (.int (maxI ns)) := by
  simp only [biD]; rw [show seqOf g (.lst (ns.map .int)) = some (ns.map .int) from rfl]; simp [ints_map, h]
theorem i_min (ns : List Int) (h : ns ≠ []) : biD .min g [.lst (ns.map .int)] = some (.int (minI ns)) := by
  simp only [biD]; rw [show seqOf g (.lst (ns.map .int)) = some (ns.map .int) from rfl]; simp [ints_map, h]
@[simp] theorem x_t0 : idxD g (.tup (a :: xs)) (.int 0) = some a := by simp [idxD, ixn]
@[simp] theorem x_t1 : idxD g (.tup (a :: b :: xs)) (.int 1) = some b := by
  have : ((xs.length : Int) + 1 + 1 > 1) := by omega
  simp [idxD, ixn, this]
@[simp] theorem x_l0 : idxD g (.lst (a :: xs)) (.int 0) = some a := by simp [idxD, ixn]
@[simp] theorem x_l1 : idxD g (.lst (a :: b :: xs)) (.int 1) = some b := by
  have : ((xs.length : Int) + 1 + 1 > 1) := by omega
  simp [idxD, ixn, this]
theorem ixn_pos {n : Nat} {i : Int} (h : 0 ≤ i) (h2 : i < n) : ixn n i = some i.toNat := by unfold ixn; rw [if_pos h, if_pos h2]
theorem ixn_nat {n k : Nat} (h : k < n) : ixn n (k : Nat) = some k := by rw [ixn_pos (by omega) (by omega)]; rfl
theorem x_scr (ns : List Int) (h : 0 ≤ i) (h2 : i < ns.length) : idxD g (.scr ns) (.int i) = some (.int (ns.getD i.toNat 0)) := by
  have h3 : i.toNat < ns.length := by omega
  show Option.map _ ((ixn ns.length i).bind _) = _
  rw [ixn_pos h h2]
  simp [h3]
theorem x_lst {k : Nat} {d : D} (h : xs[k]? = some d) : idxD g (.lst xs) (.int (k : Nat)) = some d := by
  show (ixn xs.length (k : Nat)).bind _ = _
  rw [ixn_nat (List.getElem?_eq_some_iff.mp h).1]
  exact h
theorem x_tup {k : Nat} {d : D} (h : xs[k]? = some d) : idxD g (.tup xs) (.int (k : Nat)) = some d := by
  show (ixn xs.length (k : Nat)).bind _ = _
  rw [ixn_nat (List.getElem?_eq_some_iff.mp h).1]
  exact h
end
@[simp] theorem endF_nx (k : Bool) (g0 g : G) (s : St) : endF k g0 (.nx s g) = exitD k g0 .non g := rfl
@[simp] theorem endF_rt (k : Bool) (g0 g : G) (d : D) : endF k g0 (.rt d g) = exitD k g0 d g := rfl
@[simp] theorem setT_name (i : Nat) (d : D) (s : St) : setT (.name i) d s = if i < s.length then some (s.set i (some d)) else none := rfl
@[simp] theorem setT_tupT (is : List Nat) (xs : List D) (s : St) : setT (.tup is) (.tup xs) s = setA is xs s := rfl
@[simp] theorem setT_tupL (is : List Nat) (xs : List D) (s : St) : setT (.tup is) (.lst xs) s = setA is xs s := rfl
theorem lock_nil (g : G) : lockOk [] g := fun _ h => by cases h
@[simp] theorem lock_none (g : G) : lockOk [] g = True := by simp [lockOk]
theorem lock_some (a : Nat) (xs : List D) (g : G) : lockOk [(a, xs)] g = (g[a]? = some (.lst xs)) := by simp [lockOk]
section
variable (t : LT) (body : St → G → F) (s : St) (g : G) (d : D) (r : List D)
@[simp] theorem forL_nil : forL t [] body [] s g = .nx s g := by simp [forL]
theorem forL_cons : forL t [] body (d :: r) s g = match setT t d s with
    | none => .st
    | some s1 => match body s1 g with
      | .nx s2 g2 => forL t [] body r s2 g2
      | .ct s2 g2 => forL t [] body r s2 g2
      | .bk s2 g2 => .nx s2 g2
      | f => f := by
  rw [forL, if_pos (show lockOk [] g from (lock_none g).mpr trivial)]
  all_goals
    cases setT t d s with
    | none => rfl
    | some s1 =>
      simp only
      cases body s1 g <;> rfl
variable {t body s g d r}
/-- one turn -/
theorem forL_nx {s1 s2 : St} {g2 : G} (h : setT t d s = some s1) (h2 : body s1 g = .nx s2 g2) : forL t [] body (d :: r) s g = forL t [] body r s2 g2 := by
  rw [forL_cons, h]; simp only [h2]
theorem forL_rt {s1 : St} {g2 : G} {v : D} (h : setT t d s = some s1) (h2 : body s1 g = .rt v g2) : forL t [] body (d :: r) s g = .rt v g2 := by
  rw [forL_cons, h]; simp only [h2]
end
section
variable {A : Type} {t : LT} {lk : Lk} {c : St → G → R Bool} {e : St → G → R D} {s : St} {g : G}
/-- a comprehension that writes nothing -/
theorem comp_pure (f : A → D) (p : A → Bool) (h : A → D) (ys : List A) (hl : lockOk lk g)
    (H : ∀ y ∈ ys, ∃ s1, setT t (f y) (wipeA s (ownT t)) = some s1 ∧ c s1 g = .ok (p y) g ∧ (p y = true → e s1 g = .ok (h y) g)) : compL t lk c e (ys.map f) s g = .ok ((ys.filter p).map h) g := by
  induction ys with
  | nil => simp [compL, hl]
  | cons y ys ih =>
    obtain ⟨s1, h1, h2, h3⟩ := H y (by simp)
    have ih' := ih fun z hz => H z (by simp [hz])
    rw [List.map_cons, compL, if_pos hl, h1]
    simp only [h2, R.bindN_ok]
    cases hp : p y with
    | true => simp [h3 hp, ih', hp]
    | false => simp [ih', hp]
/-- .. that writes -/
def accL {B C : Type} (step : A → B → C × B) : List A → B → List C × B
  | [], b => ([], b)
  | y :: ys, b => ((step y b).1 :: (accL step ys (step y b).2).1, (accL step ys (step y b).2).2)
theorem comp_acc {B : Type} (f : A → D) (step : A → B → D × B) (gg : B → G) (inv : B → Prop) (ys : List A)
    (hl : ∀ b, inv b → lockOk lk (gg b)) (H : ∀ y ∈ ys, ∀ b, inv b → ∃ s1, setT t (f y) (wipeA s (ownT t)) = some s1 ∧ c s1 (gg b) = .ok true (gg b) ∧ e s1 (gg b) = .ok (step y b).1 (gg (step y b).2) ∧ inv (step y b).2) :
    ∀ b, inv b → compL t lk c e (ys.map f) s (gg b) = .ok (accL step ys b).1 (gg (accL step ys b).2) ∧ inv (accL step ys b).2 := by
  induction ys with
  | nil => intro b hb; simp [compL, hl b hb, accL, hb]
  | cons y ys ih =>
    intro b hb
    obtain ⟨s1, h1, h2, h3, h4⟩ := H y (by simp) b hb
    obtain ⟨i1, i2⟩ := ih (fun z hz => H z (by simp [hz])) _ h4
    refine ⟨?_, i2⟩
    rw [List.map_cons, compL, if_pos (hl b hb), h1]
    simp only [h2, R.bindN_ok, if_pos, h3]
    rw [i1]
    rfl
end
theorem evSs_nx {W : Fn} {c : LS} {r : LSs} {s s1 : St} {g g1 : G} (h : evS W c s g = .nx s1 g1) : evSs W (.cons c r) s g = evSs W r s1 g1 := by
  rw [evSs_cons, h]
theorem evSs_rt {W : Fn} {c : LS} {r : LSs} {s : St} {g g1 : G} {d : D} (h : evS W c s g = .rt d g1) : evSs W (.cons c r) s g = .rt d g1 := by
  rw [evSs_cons, h]
/-- an if that is passed -/
theorem evS_skip {W : Fn} {c : LC} {a : LSs} {s : St} {g g1 : G} (h : evC W c s g = .ok false g1) : evS W (.ite c a .nil) s g = .nx s g1 := by
  rw [evS_ite, h]; simp
/-! ### the last place -/
section
variable (g : G) (o o' : O) (xs : List D)
@[simp] theorem set_last : (g ++ [o]).set g.length o' = g ++ [o'] := by
  rw [List.set_append_right _ _ (Nat.le_refl _)]; simp
theorem view_last : view (g ++ [.lst xs]) (.ref g.length) = .lst xs := by
  show (match (g ++ [O.lst xs])[g.length]? with | some (.lst xs) => D.lst xs | _ => .ref g.length) = _
  simp
theorem dkOf_last (kvs : List (Ky × D)) : dkOf (g ++ [.dk kvs]) (.ref g.length) = some kvs := by
  show (match (g ++ [O.dk kvs])[g.length]? with | some (.dk kvs) => some kvs | _ => none) = _
  simp
theorem put_last (kvs : List (Ky × D)) (i : Int) (v : D) (h : kvs.length < LIM) : putP (.ref g.length) (.int i) v (g ++ [.dk kvs]) = some (g ++ [.dk (putK kvs (.inl i) v)]) := by
  show (match (g ++ [O.dk kvs])[g.length]? with
    | some (.lst xs) => _
    | some (.dk kvs) => _
    | _ => _) = _
  simp [h, keyD]
theorem getL_last (i : Int) (d : D) (h : 0 ≤ i) (h2 : xs[i.toNat]? = some d) : getP (g ++ [.lst xs]) (.ref g.length) (.int i) = some d := by
  have h3 := (List.getElem?_eq_some_iff.mp h2).1
  have e : (ixn xs.length i).bind (fun j => xs[j]?) = some d := by rw [ixn_pos h (by omega)]; exact h2
  show (match (g ++ [O.lst xs])[g.length]? with
    | some (.lst xs) => _
    | some (.dk kvs) => _
    | _ => _) = _
  simp [e]
theorem putL_last (i : Int) (v : D) (h : 0 ≤ i) (h2 : i < xs.length) : putP (.ref g.length) (.int i) v (g ++ [.lst xs]) = some (g ++ [.lst (xs.set i.toNat v)]) := by
  show (match (g ++ [O.lst xs])[g.length]? with
    | some (.lst xs) => _
    | some (.dk kvs) => _
    | _ => _) = _
  simp [ixn_pos h h2]
end
@[simp] theorem purs_ints (n : Nat) (ns : List Int) : purs (n + 1) (ns.map D.int) = true := by
  induction ns with
  | nil => rfl
  | cons a r ih => simp [purs, pur, ih]
@[simp] theorem pur_int (n : Nat) (i : Int) : pur (n + 1) (.int i) = true := rfl
@[simp] theorem pur_non (n : Nat) : pur (n + 1) .non = true := rfl
@[simp] theorem pur_bl (n : Nat) (b : Bool) : pur (n + 1) (.bl b) = true := rfl
@[simp] theorem lim0 : 0 ≤ LIM := by rw [lim_is]; decide
@[simp] theorem lim1 : 1 ≤ LIM := by rw [lim_is]; decide
@[simp] theorem lim2 : 2 ≤ LIM := by rw [lim_is]; decide
@[simp] theorem lim3 : 3 ≤ LIM := by rw [lim_is]; decide
@[simp] theorem lim4 : 4 ≤ LIM := by rw [lim_is]; decide
@[simp] theorem lim5 : 5 ≤ LIM := by rw [lim_is]; decide
theorem lim_lt {n : Nat} (h : n ≤ 1000000) : n < LIM := Nat.lt_of_le_of_lt h (by rw [lim_is]; decide)
theorem lim_le {n : Nat} (h : n ≤ 1000000) : n ≤ LIM := Nat.le_of_lt (lim_lt h)
theorem purs_all {n : Nat} {xs : List D} (h : ∀ x ∈ xs, pur n x = true) : purs n xs = true := (purs_iff n xs).mpr h
theorem snap_lst {L : List O} {n k a : Nat} {xs : List D} (h : ¬ a < n) (h2 : L[a - n]? = some (.lst xs)) (h3 : purs k xs = true) : snap L n (k + 1) (.ref a) = some (.lst xs) := by
  unfold snap
  simp only [if_neg h, h2]
  rw [omap_id fun x hx => snap_pur L n k x ((purs_iff k xs).mp h3 x hx)]
  rfl
/-- a def's end: the row is written, a list of its own is told -/
theorem exit_own (o o' : O) (L : G) (xs : List D) (ho : ∀ n, lowO n o' = true) (h3 : purs 59 xs = true) : exitD false (o :: L) (.ref (L.length + 1)) (o' :: (L ++ [.lst xs])) = .ok (.lst xs) (o' :: L) := by
  have := exitD_old (o :: L) (o' :: L) [.lst xs] (.ref (L.length + 1)) (.lst xs) rfl (fun a q ha e => by
    cases a with
    | zero => cases e; exact .inr (ho _)
    | succ a => exact .inl e) (snap_lst (by simp) (by simp) h3) (fun h => nomatch h)
  exact this
@[simp] theorem filter_tt {A : Type} (l : List A) : (l.filter fun _ => true) = l := List.filter_eq_self.mpr fun _ _ => rfl
@[simp] theorem filter_ff {A : Type} (l : List A) : (l.filter fun _ => false) = [] := List.filter_eq_nil_iff.mpr fun _ _ => by simp
/-! ### ranges -/
theorem mem_rangeI {lo hi n : Int} : n ∈ rangeI lo hi ↔ lo ≤ n ∧ n < hi := by
  unfold rangeI
  simp only [List.mem_map, List.mem_range]
  constructor
  · rintro ⟨k, h1, rfl⟩; omega
  · intro h; exact ⟨(n - lo).toNat, by omega, by omega⟩
theorem rangeI_length (lo hi : Int) : (rangeI lo hi).length = (hi - lo).toNat := by simp [rangeI]
theorem rangeI_nil {lo hi : Int} (h : hi ≤ lo) : rangeI lo hi = [] := by
  unfold rangeI
  rw [show (hi - lo).toNat = 0 by omega]; rfl
theorem rangeI_snoc {lo hi : Int} (h : lo ≤ hi) : rangeI lo (hi + 1) = rangeI lo hi ++ [hi] := by
  unfold rangeI
  rw [show (hi + 1 - lo).toNat = (hi - lo).toNat + 1 by omega, List.range_succ, List.map_append]
  simp
  omega
theorem rangeI_get {lo hi : Int} {k : Nat} (h : k < (hi - lo).toNat) : (rangeI lo hi)[k]? = some (lo + k) := by
  unfold rangeI
  simp [h]
theorem rangeI_cons {lo hi : Int} (h : lo < hi) : rangeI lo hi = lo :: rangeI (lo + 1) hi := by
  apply List.ext_getElem?
  intro k
  cases k with
  | zero => rw [rangeI_get (by omega)]; simp
  | succ k =>
    by_cases q : k + 1 < (hi - lo).toNat
    · rw [rangeI_get q, List.getElem?_cons_succ, rangeI_get (by omega)]
      congr 1; omega
    · rw [List.getElem?_eq_none (by rw [rangeI_length]; omega), List.getElem?_cons_succ, List.getElem?_eq_none (by rw [rangeI_length]; omega)]
theorem okR_nat {n : Nat} (h : n ≤ LIM) : okR 0 (n : Int) ∧ (n : Int).toNat ≤ LIM := by
  have e := lim_is
  rw [e] at h ⊢
  unfold okR; omega
theorem rng_items (n : Nat) : ((rangeI 0 (n : Int)).map D.int) = (List.range n).map fun k => D.int (k : Nat) := by
  unfold rangeI; simp
theorem evI_rG {W : Fn} {a : LE} {s : St} {g g' : G} {n : Int} (h : evE W a s g = .ok (.int n) g') (hn : okR 0 n ∧ n.toNat ≤ LIM) : evI W (.range1 a) s g = .ok ((rangeI 0 n).map .int, []) g' := by
  simp only [evI_range1, h, R.bind_ok, asI, oR_some]
  rw [if_pos hn]
/-- range(len(..)) -/
theorem evI_rN {W : Fn} {a : LE} {s : St} {g g' : G} {n : Nat} (h : evE W a s g = .ok (.int (n : Nat)) g') (hn : n ≤ LIM) : evI W (.range1 a) s g = .ok ((List.range n).map fun k => D.int (k : Nat), []) g' := by
  have e := evI_rG h (okR_nat hn)
  rw [rng_items] at e
  exact e
theorem evI_r1 {W : Fn} {a : LE} {s : St} {g g' : G} {n : Int} (h : evE W a s g = .ok (.int n) g') (h1 : -1000000 ≤ n) (h2 : n ≤ 1000000) : evI W (.range1 a) s g = .ok ((rangeI 0 n).map .int, []) g' := by
  have e := lim_is
  simp only [evI_range1, h, R.bind_ok, asI, oR_some]
  rw [if_pos ⟨by unfold okR; omega, by rw [e]; omega⟩]
theorem evI_r2 {W : Fn} {a b : LE} {s : St} {g g' g2 : G} {lo hi : Int} (h : evE W a s g = .ok (.int lo) g') (h' : evE W b s g' = .ok (.int hi) g2) (h1 : -1000000 ≤ lo) (h2 : lo ≤ 1000000) (h3 : -1000000 ≤ hi) (h4 : hi ≤ 1000000) :
    evI W (.range2 a b) s g = .ok ((rangeI lo hi).map .int, []) g2 := by
  have e := lim_is
  simp only [evI_range2, h, h', R.bind_ok, asI, oR_some]
  rw [if_pos ⟨by unfold okR; omega, by rw [e]; omega⟩]
theorem okR_of2 {lo hi : Int} (h1 : -1000000000 ≤ lo) (h2 : lo ≤ 1000000000) (h3 : -1000000000 ≤ hi) (h4 : hi ≤ 1000000000) : okR lo hi := by unfold okR; omega
end KN

/-! KR: rules for runs with posts -/
namespace KN
def post (N : St → G → Prop) (V : D → G → Prop) (E : D → G → Prop) : F → Prop
  | .nx s g => N s g
  | .rt v g => V v g
  | .ex x _ g => E x g
  | _ => False
section
variable {t : LT} {lk : Lk} {body : St → G → F} {N : St → G → Prop} {V E : D → G → Prop}
theorem forL_post {A : Type} (f : A → D) (I : List A → St → G → Prop) (hl : ∀ l s g, I l s g → lockOk lk g)
    (H : ∀ y r s g, I (y :: r) s g → ∃ s1, setT t (f y) s = some s1 ∧ ((∃ s2 g2, body s1 g = .nx s2 g2 ∧ I r s2 g2) ∨ (∃ s2 g2, body s1 g = .ct s2 g2 ∧ I r s2 g2) ∨ (∃ s2 g2, body s1 g = .bk s2 g2 ∧ N s2 g2) ∨ (∃ v g2, body s1 g = .rt v g2 ∧ V v g2) ∨ (∃ x s2 g2, body s1 g = .ex x s2 g2 ∧ E x g2)))
    (H0 : ∀ s g, I [] s g → N s g) : ∀ ys s g, I ys s g → post N V E (forL t lk body (ys.map f) s g) := by
  intro ys
  induction ys with
  | nil =>
    intro s g h
    rw [List.map_nil, forL, if_pos (hl _ _ _ h)]
    exact H0 s g h
  | cons y r ih =>
    intro s g h
    obtain ⟨s1, h1, h2⟩ := H y r s g h
    rw [List.map_cons, forL, if_pos (hl _ _ _ h), h1]
    rcases h2 with ⟨s2, g2, h2, h3⟩ | ⟨s2, g2, h2, h3⟩ | ⟨s2, g2, h2, h3⟩ | ⟨v, g2, h2, h3⟩ | ⟨x, s2, g2, h2, h3⟩
    · simp only [h2]; exact ih _ _ h3
    · simp only [h2]; exact ih _ _ h3
    · simp only [h2]; exact h3
    · simp only [h2]; exact h3
    · simp only [h2]; exact h3
theorem whlL_post {c : St → G → R Bool} (I : Nat → St → G → Prop)
    (H : ∀ n s g, I n s g → (∃ g1, c s g = .ok false g1 ∧ N s g1) ∨ (∃ g1, c s g = .ok true g1 ∧ ((∃ s2 g2 m, (body s g1 = .nx s2 g2 ∨ body s g1 = .ct s2 g2) ∧ m < n ∧ I m s2 g2) ∨ (∃ s2 g2, body s g1 = .bk s2 g2 ∧ N s2 g2) ∨ (∃ v g2, body s g1 = .rt v g2 ∧ V v g2) ∨ (∃ x s2 g2, body s g1 = .ex x s2 g2 ∧ E x g2)))) :
    ∀ fuel n s g, n < fuel → I n s g → post N V E (whlL c body fuel s g) := by
  intro fuel
  induction fuel with
  | zero => intro n s g h; omega
  | succ fuel ih =>
    intro n s g hf h
    rw [whlL]
    rcases H n s g h with ⟨g1, h1, h2⟩ | ⟨g1, h1, h2⟩
    · simp only [h1]; exact h2
    · rcases h2 with ⟨s2, g2, m, h2, h3, h4⟩ | ⟨s2, g2, h2, h3⟩ | ⟨v, g2, h2, h3⟩ | ⟨x, s2, g2, h2, h3⟩
      · rcases h2 with h2 | h2
        · simp only [h1, h2]; exact ih m _ _ (by omega) h4
        · simp only [h1, h2]; exact ih m _ _ (by omega) h4
      · simp only [h1, h2]; exact h3
      · simp only [h1, h2]; exact h3
      · simp only [h1, h2]; exact h3
theorem post_cons {W : Fn} {c : LS} {r : LSs} {s : St} {g : G} {N' : St → G → Prop} (h : post N V E (evS W c s g)) (h2 : ∀ s1 g1, N s1 g1 → post N' V E (evSs W r s1 g1)) : post N' V E (evSs W (.cons c r) s g) := by
  rw [evSs_cons]
  generalize evS W c s g = x at h
  cases x with
  | nx s1 g1 => exact h2 s1 g1 h
  | rt v g1 => exact h
  | ex x s1 g1 => exact h
  | bk => exact h.elim
  | ct => exact h.elim
  | st => exact h.elim
theorem post_nx {W : Fn} {c : LS} {r : LSs} {s s1 : St} {g g1 : G} (h : evS W c s g = .nx s1 g1) (h2 : post N V E (evSs W r s1 g1)) : post N V E (evSs W (.cons c r) s g) := by
  rw [evSs_cons, h]; exact h2
theorem post_mono {N' : St → G → Prop} {V' E' : D → G → Prop} {x : F} (h : post N V E x) (h1 : ∀ s g, N s g → N' s g) (h2 : ∀ v g, V v g → V' v g) (h3 : ∀ v g, E v g → E' v g) : post N' V' E' x := by
  cases x with
  | nx s1 g1 => exact h1 _ _ h
  | rt v g1 => exact h2 _ _ h
  | ex x s1 g1 => exact h3 _ _ h
  | bk => exact h.elim
  | ct => exact h.elim
  | st => exact h.elim
end
/-- a run that ends in a value: what the def gives -/
theorem end_rt {keep : Bool} {g : G} {x : F} {d : D} {g' : G} {V : D → G → Prop} (h : post (fun _ _ => False) V (fun _ _ => False) x) (hV : ∀ v g1, V v g1 → exitD keep g v g1 = .ok d g') : endF keep g x = .ok d g' := by
  cases x with
  | rt v g1 => exact hV _ _ h
  | nx s1 g1 => exact h.elim
  | ex x s1 g1 => exact h.elim
  | bk => exact h.elim
  | ct => exact h.elim
  | st => exact h.elim
/-- a comprehension without a place, of items that write nothing -/
theorem comp_pur {A : Type} {t : LT} {c : St → G → R Bool} {e : St → G → R D} {s : St} {g : G} (f : A → D) (p : A → Bool) (h : A → D) (ys : List A)
    (H : ∀ y ∈ ys, ∃ s1, setT t (f y) (wipeA s (ownT t)) = some s1 ∧ c s1 g = .ok (p y) g ∧ (p y = true → e s1 g = .ok (h y) g)) : compL t [] c e (ys.map f) s g = .ok ((ys.filter p).map h) g :=
  comp_pure f p h ys (lock_nil _) H
/-! ### a list at a place -/
section
variable {g : G} {a : Nat} {xs : List D} (h : g[a]? = some (.lst xs))
include h
theorem view_at : view g (.ref a) = .lst xs := by simp only [view, h]
theorem dkOf_at : dkOf g (.ref a) = none := by simp only [dkOf, h]
theorem len_at : biD .len g [.ref a] = some (.int xs.length) := by simp only [biD, view_at h]
theorem tup_at : biD .tuple g [.ref a] = some (.tup xs) := i_tupV _ _ _ (view_at h)
theorem list_at : biD .list g [.ref a] = some (.lst xs) := by simp only [biD, dkOf_at h, view_at h]
theorem idx_at {i : Nat} {d : D} (e : xs[i]? = some d) : idxD g (.ref a) (.int (i : Nat)) = some d := by
  simp only [idxD, dkOf_at h, view_at h]
  rw [ixn_nat (List.getElem?_eq_some_iff.mp e).1]
  exact e
theorem put_at {i : Nat} (v : D) (e : i < xs.length) : putP (.ref a) (.int (i : Nat)) v g = some (g.set a (.lst (xs.set i v))) := by
  simp only [putP, h, ixn_nat e, Option.map_some]
theorem putI_at {i : Int} (v : D) (e0 : 0 ≤ i) (e : i < xs.length) : putP (.ref a) (.int i) v g = some (g.set a (.lst (xs.set i.toNat v))) := by
  simp only [putP, h, ixn_pos e0 e, Option.map_some]
theorem getP_at {i : Nat} {d : D} (e : xs[i]? = some d) : getP g (.ref a) (.int (i : Nat)) = some d := by
  simp only [getP, h]
  rw [ixn_nat (List.getElem?_eq_some_iff.mp e).1]
  exact e
theorem tru_at : truD g (.ref a) = some (!xs.isEmpty) := by simp only [truD, dkOf_at h, view_at h]
end
@[simp] theorem at0 (g : G) (o : O) (r : G) : (g ++ o :: r)[g.length]? = some o := by simp
@[simp] theorem at1 (g : G) (o o2 : O) (r : G) : (g ++ o :: o2 :: r)[g.length + 1]? = some o2 := by simp
@[simp] theorem at2 (g : G) (o o2 o3 : O) (r : G) : (g ++ o :: o2 :: o3 :: r)[g.length + 2]? = some o3 := by simp
@[simp] theorem st0 (g : G) (o o' : O) (r : G) : (g ++ o :: r).set g.length o' = g ++ o' :: r := by
  rw [List.set_append_right _ _ (Nat.le_refl _)]; simp
@[simp] theorem st1 (g : G) (o o2 o' : O) (r : G) : (g ++ o :: o2 :: r).set (g.length + 1) o' = g ++ o :: o' :: r := by
  rw [List.set_append_right _ _ (by omega)]; simp
@[simp] theorem st2 (g : G) (o o2 o3 o' : O) (r : G) : (g ++ o :: o2 :: o3 :: r).set (g.length + 2) o' = g ++ o :: o2 :: o' :: r := by
  rw [List.set_append_right _ _ (by omega)]; simp
theorem comp_const {t : LT} {W : Fn} {s : St} {g : G} {A : Type} (f : A → D) (ys : List A) (i : Nat) (hi : i < s.length) (v : Int) : compL (.name i) [] (evCs W .no) (evE W (.int v)) (ys.map f) s g = .ok ((List.replicate ys.length v).map .int) g := by
  rw [comp_pur f (fun _ => true) (fun _ => .int v) ys fun y _ => ⟨(s.set i none).set i (some (f y)), by simp [hi], by simp, fun _ => by simp⟩]
  simp only [filter_tt, List.map_replicate]
  simp [List.eq_replicate_iff]
theorem range_drop {n m i : Nat} {r : List Nat} (h : (List.range n).drop m = i :: r) : i = m ∧ m < n ∧ r = (List.range n).drop (m + 1) := by
  have hm : m < n := by
    refine Classical.byContradiction fun hc => ?_
    rw [List.drop_eq_nil_of_le (by simp; omega)] at h
    cases h
  rw [List.drop_eq_getElem_cons (by simpa using hm)] at h
  simp only [List.getElem_range, List.cons.injEq] at h
  exact ⟨h.1.symm, hm, h.2.symm⟩
section
variable {t : LT} {lk : Lk} {body : St → G → F} {N : St → G → Prop} {V E : D → G → Prop}
/-- a loop over a counted row -/
theorem forL_range (f : Nat → D) (n : Nat) (J : Nat → St → G → Prop) (hl : ∀ m s g, J m s g → lockOk lk g)
    (H : ∀ m s g, m < n → J m s g → ∃ s1, setT t (f m) s = some s1 ∧ ((∃ s2 g2, body s1 g = .nx s2 g2 ∧ J (m + 1) s2 g2) ∨ (∃ s2 g2, body s1 g = .ct s2 g2 ∧ J (m + 1) s2 g2) ∨ (∃ s2 g2, body s1 g = .bk s2 g2 ∧ N s2 g2) ∨ (∃ v g2, body s1 g = .rt v g2 ∧ V v g2) ∨ (∃ x s2 g2, body s1 g = .ex x s2 g2 ∧ E x g2)))
    (H0 : ∀ s g, J n s g → N s g) (s : St) (g : G) (h : J 0 s g) : post N V E (forL t lk body ((List.range n).map f) s g) := by
  refine forL_post f (fun r s g => ∃ m, r = (List.range n).drop m ∧ m ≤ n ∧ J m s g) (fun _ s g ⟨m, _, _, hj⟩ => hl m s g hj) ?_ ?_ _ _ _ ⟨0, by simp, Nat.zero_le _, h⟩
  · rintro i r s g ⟨m, e, _, hj⟩
    obtain ⟨rfl, hm, rfl⟩ := range_drop e.symm
    obtain ⟨s1, h1, h2⟩ := H i s g hm hj
    refine ⟨s1, h1, ?_⟩
    rcases h2 with ⟨s2, g2, h2, h3⟩ | ⟨s2, g2, h2, h3⟩ | h2 | h2 | h2
    · exact .inl ⟨s2, g2, h2, i + 1, rfl, hm, h3⟩
    · exact .inr (.inl ⟨s2, g2, h2, i + 1, rfl, hm, h3⟩)
    · exact .inr (.inr (.inl h2))
    · exact .inr (.inr (.inr (.inl h2)))
    · exact .inr (.inr (.inr (.inr h2)))
  · rintro s g ⟨m, e, hm, hj⟩
    have := congrArg List.length e
    simp at this
    exact H0 s g (by rwa [show n = m by omega])
theorem post_cases {x : F} (h : post N V E x) : (∃ s g, x = .nx s g ∧ N s g) ∨ (∃ v g, x = .rt v g ∧ V v g) ∨ (∃ d s g, x = .ex d s g ∧ E d g) := by
  cases x with
  | nx s g => exact .inl ⟨s, g, rfl, h⟩
  | rt v g => exact .inr (.inl ⟨v, g, rfl, h⟩)
  | ex d s g => exact .inr (.inr ⟨d, s, g, rfl, h⟩)
  | bk => exact h.elim
  | ct => exact h.elim
  | st => exact h.elim
end
/-! ### a list, a tuple, or a place of a list -/
def SeqV (g : G) (v : D) (xs : List D) : Prop := v = .lst xs ∨ v = .tup xs ∨ ∃ a, v = .ref a ∧ g[a]? = some (.lst xs)
section
variable {g : G} {v : D} {xs : List D} (h : SeqV g v xs)
include h
theorem SeqV.isrow : isTys g v [.list, .tuple] = some true ∧ isTys g v [.tuple, .list] = some true := by
  rcases h with rfl | rfl | ⟨a, rfl, e⟩
  · exact ⟨rfl, rfl⟩
  · exact ⟨rfl, rfl⟩
  · simp [isTys, view_at e, tagD, isTag]
theorem SeqV.len : biD .len g [v] = some (.int xs.length) := by
  rcases h with rfl | rfl | ⟨a, rfl, e⟩
  · simp
  · simp
  · exact len_at e
theorem SeqV.idx {i : Nat} {d : D} (e : xs[i]? = some d) : idxD g v (.int (i : Nat)) = some d := by
  rcases h with rfl | rfl | ⟨a, rfl, e2⟩
  · exact x_lst _ _ e
  · exact x_tup _ _ e
  · exact idx_at e2 e
theorem SeqV.src : ∃ lk, srcD g v = some (xs, lk) ∧ lockOk lk g := by
  rcases h with rfl | rfl | ⟨a, rfl, e⟩
  · exact ⟨[], rfl, lock_nil _⟩
  · exact ⟨[], rfl, lock_nil _⟩
  · exact ⟨[(a, xs)], by simp only [srcD, e], (lock_some a xs g).mpr e⟩
theorem SeqV.tup : biD .tuple g [v] = some (.tup xs) := by
  rcases h with rfl | rfl | ⟨a, rfl, e⟩
  · simp
  · simp
  · exact tup_at e
theorem SeqV.list : biD .list g [v] = some (.lst xs) := by
  rcases h with rfl | rfl | ⟨a, rfl, e⟩
  · simp
  · simp
  · exact list_at e
end
theorem i_all (g : G) (bs : List Bool) : biD .all g [.lst (bs.map .bl)] = some (.bl (bs.all id)) := by simp [biD]
theorem i_any (g : G) (bs : List Bool) : biD .any g [.lst (bs.map .bl)] = some (.bl (bs.any id)) := by simp [biD]
theorem enum_rng : ∀ (xs : List D) (n : Nat), enumL n xs = (List.range xs.length).map fun i => .tup [.int ((n + i : Nat) : Int), xs.getD i .non]
  | [], n => rfl
  | x :: r, n => by
    rw [enumL, enum_rng r (n + 1), List.length_cons, List.range_succ_eq_map, List.map_cons, List.map_map]
    congr 1
    apply List.map_congr_left
    intro i _
    simp only [Function.comp, List.getD_cons_succ]
    congr 3
    omega
theorem shps_int (n : Nat) (ns : List Int) : shps n (ns.map .int) = true := by
  induction ns with
  | nil => cases n <;> rfl
  | cons a r ih =>
    have : shp n (.int a) = true := by cases n <;> rfl
    simp [shps, this, ih]
theorem eqL_nilI (g : G) (ns : List Int) : cmpD .eq g (.lst (ns.map .int)) (.lst []) = some ns.isEmpty := by
  have : shps 59 (ns.map .int) = true := shps_int 59 ns
  cases ns with
  | nil => rfl
  | cons a r =>
    simp only [cmpD, eqD, view_lst, shp, this]
    rfl
theorem neL_nilI (g : G) (ns : List Int) : cmpD .ne g (.lst (ns.map .int)) (.lst []) = some (!ns.isEmpty) := by
  have h := eqL_nilI g ns
  simp only [cmpD] at h ⊢
  rw [h]; rfl
theorem neL_nilN (g : G) (ns : List Nat) : cmpD .ne g (.lst (ns.map fun i => D.int (i : Nat))) (.lst []) = some (!ns.isEmpty) := by
  have := neL_nilI g (ns.map fun i => ((i : Nat) : Int))
  rw [List.map_map] at this
  rw [show (ns.map fun i => D.int (i : Nat)) = ns.map (D.int ∘ fun i => ((i : Nat) : Int)) from rfl, this]
  cases ns <;> rfl
theorem eqL_nilN (g : G) (ns : List Nat) : cmpD .eq g (.lst (ns.map fun i => D.int (i : Nat))) (.lst []) = some ns.isEmpty := by
  have := eqL_nilI g (ns.map fun i => ((i : Nat) : Int))
  rw [List.map_map] at this
  rw [show (ns.map fun i => D.int (i : Nat)) = ns.map (D.int ∘ fun i => ((i : Nat) : Int)) from rfl, this]
  cases ns <;> rfl
theorem all_not_filter {A : Type} (p : A → Bool) : ∀ l : List A, l.all (fun j => !p j) = (l.filter p).isEmpty
  | [] => rfl
  | a :: l => by
    rw [List.all_cons, List.filter_cons, all_not_filter p l]
    cases p a <;> simp
section
variable {g : G}
theorem inD_ints (n : Int) (l : List Int) : inD (.int n) (l.map .int) = decide (n ∈ l) := by
  unfold inD
  rw [List.any_map]
  induction l with
  | nil => rfl
  | cons a l ih =>
    rw [List.any_cons, ih]
    have h : (a == n) = decide (a = n) := by by_cases h : a = n <;> simp [h]
    simp [eqv, h, eq_comm (a := n)]
theorem flat_ints (l : List Int) : (l.map D.int).all flatD = true := by simp [flatD]
theorem c_inn (n : Int) (l : List Int) : cmpD .inn g (.int n) (.lst (l.map .int)) = some (decide (n ∈ l)) := by
  simp only [cmpD, dkOf_lst, view_int, view_lst, flat_ints, inD_ints, and_self, if_true]
  rfl
theorem c_nin (n : Int) (l : List Int) : cmpD .nin g (.int n) (.lst (l.map .int)) = some (!decide (n ∈ l)) := by
  simp only [cmpD, dkOf_lst, view_int, view_lst, flat_ints, inD_ints, and_self, if_true]
  rfl
end
@[simp] theorem lim6 : 6 ≤ LIM := by rw [lim_is]; decide
@[simp] theorem lim7 : 7 ≤ LIM := by rw [lim_is]; decide
@[simp] theorem lim8 : 8 ≤ LIM := by rw [lim_is]; decide
@[simp] theorem lim9 : 9 ≤ LIM := by rw [lim_is]; decide
@[simp] theorem lim10 : 10 ≤ LIM := by rw [lim_is]; decide
@[simp] theorem lim11 : 11 ≤ LIM := by rw [lim_is]; decide
@[simp] theorem lim12 : 12 ≤ LIM := by rw [lim_is]; decide
@[simp] theorem lim13 : 13 ≤ LIM := by rw [lim_is]; decide
@[simp] theorem lim14 : 14 ≤ LIM := by rw [lim_is]; decide
@[simp] theorem lim15 : 15 ≤ LIM := by rw [lim_is]; decide
@[simp] theorem lim16 : 16 ≤ LIM := by rw [lim_is]; decide
@[simp] theorem lim17 : 17 ≤ LIM := by rw [lim_is]; decide
@[simp] theorem lim18 : 18 ≤ LIM := by rw [lim_is]; decide
@[simp] theorem lim19 : 19 ≤ LIM := by rw [lim_is]; decide
@[simp] theorem lim20 : 20 ≤ LIM := by rw [lim_is]; decide
@[simp] theorem lim21 : 21 ≤ LIM := by rw [lim_is]; decide
@[simp] theorem lim22 : 22 ≤ LIM := by rw [lim_is]; decide
@[simp] theorem lim23 : 23 ≤ LIM := by rw [lim_is]; decide
@[simp] theorem lim24 : 24 ≤ LIM := by rw [lim_is]; decide
@[simp] theorem lim25 : 25 ≤ LIM := by rw [lim_is]; decide
@[simp] theorem lim26 : 26 ≤ LIM := by rw [lim_is]; decide
@[simp] theorem lim27 : 27 ≤ LIM := by rw [lim_is]; decide
@[simp] theorem lim28 : 28 ≤ LIM := by rw [lim_is]; decide
@[simp] theorem lim29 : 29 ≤ LIM := by rw [lim_is]; decide
@[simp] theorem lim30 : 30 ≤ LIM := by rw [lim_is]; decide
@[simp] theorem lim31 : 31 ≤ LIM := by rw [lim_is]; decide
@[simp] theorem lim32 : 32 ≤ LIM := by rw [lim_is]; decide
/-! ### zips -/
theorem zip2 {g : G} {a b : D} {xs ys : List D} {l1 l2 : Lk} (h1 : srcD g a = some (xs, l1)) (h2 : srcD g b = some (ys, l2)) (hl : ys.length = xs.length) :
    zipD g [a, b] = some ((List.range xs.length).map fun i => [xs.getD i .non, ys.getD i .non], l1 ++ l2) := by
  simp only [zipD, h1, h2, Option.bind_some, Option.map_some]
  congr 2
  apply List.ext_getElem?
  intro i
  rw [List.getElem?_zipWith]
  by_cases hi : i < xs.length
  · simp [hi, show i < ys.length by omega]
  · simp [show xs.length ≤ i by omega]
theorem zip3 {g : G} {a b c : D} {xs ys zs : List D} {l1 l2 l3 : Lk} (h1 : srcD g a = some (xs, l1)) (h2 : srcD g b = some (ys, l2)) (h3 : srcD g c = some (zs, l3)) (hl : ys.length = xs.length) (hl2 : zs.length = xs.length) :
    zipD g [a, b, c] = some ((List.range xs.length).map fun i => [xs.getD i .non, ys.getD i .non, zs.getD i .non], l1 ++ (l2 ++ l3)) := by
  simp only [zipD, h1, h2, h3, Option.bind_some, Option.map_some]
  congr 2
  apply List.ext_getElem?
  intro i
  rw [List.getElem?_zipWith, List.getElem?_zipWith]
  by_cases hi : i < xs.length
  · simp [hi, show i < ys.length by omega, show i < zs.length by omega]
  · simp [show xs.length ≤ i by omega]
theorem evI_zip2 {W : Fn} {s : St} {g : G} {a b : LE} {x y : D} {xs ys : List D} {l1 l2 : Lk} (e1 : evE W a s g = .ok x g) (e2 : evE W b s g = .ok y g) (h1 : srcD g x = some (xs, l1)) (h2 : srcD g y = some (ys, l2)) (hl : ys.length = xs.length) :
    evI W (.zip (.cons a (.cons b .nil))) s g = .ok ((List.range xs.length).map fun i => D.tup [xs.getD i .non, ys.getD i .non], l1 ++ l2) g := by
  simp only [evI_zip, evEs_cons, evEs_nil, e1, e2, R.bind_ok, zip2 h1 h2 hl, oR_some, List.map_map]
  rfl
theorem evI_zip3 {W : Fn} {s : St} {g : G} {a b c : LE} {x y z : D} {xs ys zs : List D} {l1 l2 l3 : Lk} (e1 : evE W a s g = .ok x g) (e2 : evE W b s g = .ok y g) (e3 : evE W c s g = .ok z g) (h1 : srcD g x = some (xs, l1)) (h2 : srcD g y = some (ys, l2)) (h3 : srcD g z = some (zs, l3)) (hl : ys.length = xs.length) (hl2 : zs.length = xs.length) :
    evI W (.zip (.cons a (.cons b (.cons c .nil)))) s g = .ok ((List.range xs.length).map fun i => D.tup [xs.getD i .non, ys.getD i .non, zs.getD i .non], l1 ++ (l2 ++ l3)) g := by
  simp only [evI_zip, evEs_cons, evEs_nil, e1, e2, e3, R.bind_ok, zip3 h1 h2 h3 hl hl2, oR_some, List.map_map]
  rfl
theorem lock_app {l1 l2 : Lk} {g : G} (h1 : lockOk l1 g) (h2 : lockOk l2 g) : lockOk (l1 ++ l2) g := fun p hp => (List.mem_append.mp hp).elim (h1 p) (h2 p)
/-! ### plain lists against [] -/
def flat0 : D → Bool
  | .int _ => true
  | .non => true
  | .bl _ => true
  | _ => false
theorem shps_flat0 (n : Nat) (l : List D) (h : l.all flat0 = true) : shps n l = true := by
  induction l with
  | nil => cases n <;> rfl
  | cons a r ih =>
    simp only [List.all_cons, Bool.and_eq_true] at h
    have : shp n a = true := by
      have := h.1
      cases a <;> first
        | (simp [flat0] at this; done)
        | (cases n <;> rfl)
    simp [shps, this, ih h.2]
theorem eqL_nil0 (g : G) (l : List D) (h : l.all flat0 = true) : cmpD .eq g (.lst l) (.lst []) = some l.isEmpty := by
  have : shps 59 l = true := shps_flat0 59 l h
  cases l with
  | nil => rfl
  | cons a r =>
    simp only [cmpD, eqD, view_lst, shp, this]
    rfl
theorem neL_nil0 (g : G) (l : List D) (h : l.all flat0 = true) : cmpD .ne g (.lst l) (.lst []) = some (!l.isEmpty) := by
  have h := eqL_nil0 g l h
  simp only [cmpD] at h ⊢
  rw [h]; rfl
theorem eqvs_ints : ∀ (a b : List Int), eqvs (a.map .int) (b.map .int) = decide (a = b)
  | [], [] => by simp [eqvs]
  | [], _ :: _ => by simp [eqvs]
  | _ :: _, [] => by simp [eqvs]
  | x :: a, y :: b => by
    have h := eqvs_ints a b
    simp only [List.map_cons, eqvs, h]
    by_cases c : x = y <;> simp [c, eqv]
theorem eqL_ints (g : G) (a b : List Int) : cmpD .eq g (.lst (a.map .int)) (.lst (b.map .int)) = some (decide (a = b)) := by
  have h1 : shps 59 (a.map .int) = true := shps_int 59 a
  have h2 : shps 59 (b.map .int) = true := shps_int 59 b
  simp only [cmpD, eqD, view_lst, shp, h1, h2, eqv, eqvs_ints]
  rfl
theorem neL_ints (g : G) (a b : List Int) : cmpD .ne g (.lst (a.map .int)) (.lst (b.map .int)) = some (!decide (a = b)) := by
  have h := eqL_ints g a b
  simp only [cmpD] at h ⊢
  rw [h]; rfl
/-! ### the best of pairs -/
def prD (p : Int × Int) : D := .tup [.int p.1, .int p.2]
theorem fold_mem {A : Type} (f : A → A → A) (hf : ∀ a b, f a b = a ∨ f a b = b) : ∀ (xs : List A) (x : A), xs.foldl f x ∈ x :: xs
  | [], x => List.mem_cons_self
  | y :: ys, x => by
    rw [List.foldl_cons]
    have := fold_mem f hf ys (f x y)
    rcases List.mem_cons.mp this with h | h
    · rw [h]
      rcases hf x y with e | e <;> rw [e] <;> simp
    · exact List.mem_cons_of_mem _ (List.mem_cons_of_mem _ h)
theorem shps_pr (n : Nat) : ∀ ps : List (Int × Int), shps (n + 1) (ps.map prD) = true
  | [] => by simp [shps]
  | p :: ps => by simp [shps, prD, shp, shps_pr n ps]
theorem best_pr (mx : Bool) (ps : List (Int × Int)) (h : ps ≠ []) : ∃ p ∈ ps, bestT mx (ps.map prD) = some (prD p) := by
  cases ps with
  | nil => exact absurd rfl h
  | cons q qs =>
    have h1 : shps 60 (prD q :: qs.map prD) = true := by simpa using shps_pr 59 (q :: qs)
    have h2 : (prD q :: qs.map prD).all (fun a => (prD q :: qs.map prD).all fun b => alkT a b) = true := by
      refine List.all_eq_true.mpr fun a ha => List.all_eq_true.mpr fun b hb => ?_
      have ha : a ∈ (q :: qs).map prD := by simpa using ha
      have hb : b ∈ (q :: qs).map prD := by simpa using hb
      obtain ⟨a', _, rfl⟩ := List.mem_map.mp ha
      obtain ⟨b', _, rfl⟩ := List.mem_map.mp hb
      rfl
    have key : ∀ d, d ∈ prD q :: qs.map prD → ∃ p ∈ q :: qs, d = prD p := fun d hd => by
      have hd : d ∈ (q :: qs).map prD := by simpa using hd
      obtain ⟨p, hp, e⟩ := List.mem_map.mp hd
      exact ⟨p, hp, e.symm⟩
    simp only [List.map_cons, bestT]
    rw [if_pos ⟨h1, h2⟩]
    cases mx with
    | true =>
      simp only [if_true]
      obtain ⟨p, hp, e⟩ := key _ (fold_mem (fun a y => if ltT a y = true then y else a) (fun a b => by by_cases c : ltT a b = true <;> simp [c]) (qs.map prD) (prD q))
      exact ⟨p, hp, by rw [e]⟩
    | false =>
      simp only [Bool.false_eq_true, if_false]
      obtain ⟨p, hp, e⟩ := key _ (fold_mem (fun a y => if ltT y a = true then y else a) (fun a b => by by_cases c : ltT b a = true <;> simp [c]) (qs.map prD) (prD q))
      exact ⟨p, hp, by rw [e]⟩
theorem ints_pr (ps : List (Int × Int)) (h : ps ≠ []) : intsD (ps.map prD) = none := by
  cases ps with
  | nil => exact absurd rfl h
  | cons p ps => rfl
theorem i_minP {g : G} (ps : List (Int × Int)) (h : ps ≠ []) : ∃ p ∈ ps, biD .min g [.lst (ps.map prD)] = some (prD p) := by
  obtain ⟨p, hp, e⟩ := best_pr false ps h
  exact ⟨p, hp, by simp only [biD]; rw [show seqOf g (.lst (ps.map prD)) = some (ps.map prD) from rfl]; simp [ints_pr ps h, e]⟩
theorem i_minPa {g : G} {a : Nat} (ps : List (Int × Int)) (hg : g[a]? = some (.lst (ps.map prD))) (h : ps ≠ []) : ∃ p ∈ ps, biD .min g [.ref a] = some (prD p) := by
  obtain ⟨p, hp, e⟩ := best_pr false ps h
  exact ⟨p, hp, by simp only [biD]; simp [seqOf, view, hg, ints_pr ps h, e]⟩
theorem mm_minP {g : G} (ps : List (Int × Int)) (d : D) (h : ps ≠ []) : ∃ p ∈ ps, mmD false g (.lst (ps.map prD)) d = some (prD p) := by
  obtain ⟨p, hp, e⟩ := best_pr false ps h
  exact ⟨p, hp, by simp only [mmD]; simp [seqOf, view, ints_pr ps h, e]⟩
theorem mm_nil {g : G} (mx : Bool) (d : D) : mmD mx g (.lst []) d = some d := by simp [mmD, seqOf, view, intsD]
end KN

namespace KZ
open PySem PySem.Spec PyProof.Rows L2
open PySem.Sem (wp)
/-! ### an iterator over a tuple (b) or a list -/
def SIt (b : Bool) (h : Heap) (it l : Addr) (i : Nat) : Prop := match b with
  | true => h.IsTupleIter it l i
  | false => h.IsListIter it l i
def SSq (b : Bool) (h : Heap) (l : Addr) (xs : Array Value) : Prop := match b with
  | true => h.IsTuple l xs
  | false => h.IsList l xs
abbrev IsTu (h : Heap) (T : Addr) (xs : Array Value) : Prop := h.get? T = some { cls := .type "tuple", data := .seq xs }
theorem SIt.ext {b : Bool} {h h' : Heap} {it l : Addr} {i : Nat} (x : SIt b h it l i) (e : ∀ o, h.get? it = some o → h'.get? it = some o) : SIt b h' it l i := by
  cases b <;> (obtain ⟨o, ho, r⟩ := x; exact ⟨o, e _ ho, r⟩)
theorem SIt.lt {b : Bool} {h : Heap} {it l : Addr} {i : Nat} (x : SIt b h it l i) : it < h.objs.size := by
  cases b <;> (obtain ⟨o, ho, r⟩ := x; exact Heap.lt_size ho)
theorem SIt.ob {b : Bool} {h : Heap} {it l : Addr} {i : Nat} (x : SIt b h it l i) : ∃ o, h.get? it = some o ∧ ∀ v, o.data ≠ .cell v := by
  cases b <;> (obtain ⟨o, ho, hc, hd⟩ := x; exact ⟨o, ho, fun v q => by rw [hd] at q; cases q⟩)
theorem SSq.ext {b : Bool} {h h' : Heap} {l : Addr} {xs : Array Value} (x : SSq b h l xs) (e : ∀ o, h.get? l = some o → h'.get? l = some o) : SSq b h' l xs := by
  cases b <;> (obtain ⟨o, ho, r⟩ := x; exact ⟨o, e _ ho, r⟩)
theorem SSq.lt {b : Bool} {h : Heap} {l : Addr} {xs : Array Value} (x : SSq b h l xs) : l < h.objs.size := by
  cases b <;> (obtain ⟨o, ho, r⟩ := x; exact Heap.lt_size ho)
section
variable {prog : Program} {w : World} {A : Around} {E : Value → Shared → Prop} {s : Shared}
theorem sit_item {b : Bool} {it l : Addr} {i : Nat} {xs : Array Value} {x : Value} {Q : Value → Shared → Prop} (hit : SIt b s.heap it l i) (hl : SSq b s.heap l xs) (hx : xs[i]? = some x)
    (hQ : ∀ h', SIt b h' it l (i + 1) → (∀ c o, c ≠ it → s.heap.get? c = some o → h'.get? c = some o) → h'.objs.size = s.heap.objs.size → Q x { s with heap := h' }) : wpAny (model prog w) A (Builtin.SmallTypes.nextOf (.ref it)) Q E s := by
  cases b with
  | true => exact RZ.nextOf_tuple_item hit hl hx fun h' a c => hQ h' a c.extBut c.1
  | false => exact wpAny_nextOf_list_item hit hl hx fun h' a c => hQ h' a c.extBut c.1
theorem sit_end {b : Bool} {it l : Addr} {i : Nat} {xs : Array Value} {Q : Value → Shared → Prop} (hh : A.handled = none) (hit : SIt b s.heap it l i) (hl : SSq b s.heap l xs) (hx : xs[i]? = none)
    (hE : ∀ h' e, (∀ c o, c ≠ it → s.heap.get? c = some o → h'.get? c = some o) → (∃ o, h'.get? e = some o ∧ o.cls = .type "StopIteration") → E (.ref e) { s with heap := h' }) : wpAny (model prog w) A (Builtin.SmallTypes.nextOf (.ref it)) Q E s := by
  cases b with
  | true => exact RZ.nextOf_tuple_end hh hit hl hx fun h' e a c => hE h' e a c
  | false => exact wpAny_nextOf_list_end hh hit hl hx fun h' e a c => hE h' e a c
theorem upd_tu {T : Addr} {xs : Array Value} {x : Value} {k : Nat} {Q : Unit → Shared → Prop} (hT : IsTu s.heap T xs) (hsz : xs.size ≤ 4)
    (h : ∀ h', IsTu h' T (xs.setIfInBounds k x) → (∀ c o, c ≠ T → s.heap.get? c = some o → h'.get? c = some o) → h'.objs.size = s.heap.objs.size → Q () { s with heap := h' }) : wpAny (model prog w) A (updateSeq T (·.setIfInBounds k x)) Q E s := by
  have l4 : 4 ≤ sizeLine := by decide
  refine wpAny_updateSeq (hz := Nat.le_trans hsz l4) (_hz' := by rw [Array.size_setIfInBounds]; omega) hT rfl (h _ ?_ (Heap.SameBut.update ..).extBut (Heap.SameBut.update ..).1)
  show (s.heap.update T _).get? T = _
  rw [Heap.get?_update_self _ hT rfl]
  simp [Obj.mapSeq]

/-! ### zip of 2 -/
theorem zip2_item {z TI TO i1 i2 l1 l2 : Addr} {b1 b2 : Bool} {n : Nat} {xs1 xs2 : Array Value} {a1 a2 : Value} {x1 x2 : Value} {Q : Value → Shared → Prop} (nd : [z, TI, TO, i1, i2].Nodup) (sr : ∀ l ∈ [l1, l2], l ∉ [z, TI, TO, i1, i2])
    (hz : IsZip s.heap z TI TO .none) (hTI : IsTu s.heap TI #[.ref i1, .ref i2]) (hTO : IsTu s.heap TO #[a1, a2]) (h1 : SIt b1 s.heap i1 l1 n) (hl1 : SSq b1 s.heap l1 xs1) (h2 : SIt b2 s.heap i2 l2 n) (hl2 : SSq b2 s.heap l2 xs2) (hx1 : xs1[n]? = some x1) (hx2 : xs2[n]? = some x2)
    (hQ : ∀ h', IsZip h' z TI TO (rawInt s.heap.objs.size) → IsTu h' TO #[x1, x2] → SIt b1 h' i1 l1 (n + 1) → SIt b2 h' i2 l2 (n + 1) → IsTu h' s.heap.objs.size #[x1, x2] → h'.objs.size = s.heap.objs.size + 1 → (∀ c o, c ∉ [z, TO, i1, i2] → s.heap.get? c = some o → h'.get? c = some o) → Q (.ref s.heap.objs.size) { s with heap := h' }) :
    wpAny (model prog w) A (Builtin.«zip.__next__» ⟨[.ref z], []⟩) (fun fin s' => ∃ v, fin = .done (.ret v) ∧ Q v s') E s := by
  have nz : ∀ c, c ∉ [z, TO, i1, i2] → c ≠ z := fun c h q => h (by simp [q])
  show wpAny _ _ (field (.ref z) 2 >>= _) _ _ _
  refine wpAny_bind (wpAny_field hz rfl (x := .bool false) rfl ?_)
  show wpAny _ _ (field (.ref z) 3 >>= _) _ _ _
  refine wpAny_bind (wpAny_field hz rfl (x := .ref TI) rfl ?_)
  refine wpAny_bind (wpAny_seqItems hTI rfl ?_)
  show wpAny _ _ (Builtin.SmallTypes.ownedTupleIsFree (.ref z) >>= _) _ _ _
  refine wpAny_bind ?_
  unfold Builtin.SmallTypes.ownedTupleIsFree
  refine wpAny_bind (wpAny_field hz rfl (x := .none) rfl (wpAny_pure ?_))
  simp only [if_true]
  refine wpAny_bind (wpAny_rule ?_)
  refine wpAny_bind (wpAny_field hz rfl (x := .ref TO) rfl ?_)
  refine wpAny_bind (wpAny_setField_rec hz (by simp) fun g0 hz0 sb0 => ?_)
  replace hz0 : IsZip g0 z TI TO .ellipsis := hz0
  have k0 : ∀ c o, c ≠ z → s.heap.get? c = some o → g0.get? c = some o := sb0.extBut
  have e0 : g0.objs.size = s.heap.objs.size := sb0.1
  have t0 : IsTu g0 TO #[a1, a2] := k0 _ _ (by intro q; subst q; simp at nd) hTO
  refine wpAny_bind ?_
  simp only [List.zipIdx_cons, List.zipIdx_nil, List.forIn_cons, List.forIn_nil]
  have p1 : SIt b1 g0 i1 l1 n := h1.ext fun o q => k0 _ _ (by intro q; subst q; simp at nd) q
  have q1 : SSq b1 g0 l1 xs1 := hl1.ext fun o q => k0 _ _ (by intro q; subst q; simp at sr) q
  have p2 : SIt b2 g0 i2 l2 n := h2.ext fun o q => k0 _ _ (by intro q; subst q; simp at nd) q
  have q2 : SSq b2 g0 l2 xs2 := hl2.ext fun o q => k0 _ _ (by intro q; subst q; simp at sr) q
  refine wpAny_bind (wpAny_bind (wpAny_onRaise ?_))
  show wpAny _ _ (Builtin.SmallTypes.nextOf (.ref i1) >>= _) _ _ _
  refine wpAny_bind (sit_item p1 q1 hx1 fun u1 r1 m1 v1 => wpAny_pure ?_)
  have tt1 : IsTu u1 TO #[a1, a2] := m1 _ _ (by intro q; subst q; simp at nd) t0
  refine wpAny_bind (wpAny_seqItems tt1 rfl ?_)
  refine wpAny_bind (upd_tu tt1 (by simp) fun g1 t1 w1 y1 => ?_)
  replace t1 : IsTu g1 TO #[x1, a2] := t1
  have k1 : ∀ c o, c ≠ z → c ≠ TO → c ≠ i1 → s.heap.get? c = some o → g1.get? c = some o := fun c o cz cT c1 e => w1 _ _ cT (m1 _ _ c1 (k0 c o cz  e))
  have e1 : g1.objs.size = s.heap.objs.size := by rw [y1, v1, e0]
  have hz1 : IsZip g1 z TI TO .ellipsis := w1 _ _ (by intro q; subst q; simp at nd) (m1 _ _ (by intro q; subst q; simp at nd) hz0)
  have r1' : SIt b1 g1 i1 l1 (n + 1) := r1.ext fun o q => w1 _ _ (by intro q; subst q; simp at nd) q
  replace p2 : SIt b2 g1 i2 l2 n := p2.ext fun o q => w1 _ _ (by intro q; subst q; simp at nd) (m1 _ _ (by intro q; subst q; simp at nd) q)
  replace q2 : SSq b2 g1 l2 xs2 := q2.ext fun o q => w1 _ _ (by intro q; subst q; simp at sr) (m1 _ _ (by intro q; subst q; simp at sr) q)
  refine wpAny_bind (wpAny_letGo (wpAny_pure ?_))
  refine wpAny_bind (wpAny_bind (wpAny_onRaise ?_))
  show wpAny _ _ (Builtin.SmallTypes.nextOf (.ref i2) >>= _) _ _ _
  refine wpAny_bind (sit_item p2 q2 hx2 fun u2 r2 m2 v2 => wpAny_pure ?_)
  have tt2 : IsTu u2 TO #[x1, a2] := m2 _ _ (by intro q; subst q; simp at nd) t1
  refine wpAny_bind (wpAny_seqItems tt2 rfl ?_)
  refine wpAny_bind (upd_tu tt2 (by simp) fun g2 t2 w2 y2 => ?_)
  replace t2 : IsTu g2 TO #[x1, x2] := t2
  have k2 : ∀ c o, c ≠ z → c ≠ TO → c ≠ i1 → c ≠ i2 → s.heap.get? c = some o → g2.get? c = some o := fun c o cz cT c1 c2 e => w2 _ _ cT (m2 _ _ c2 (k1 c o cz cT c1 e))
  have e2 : g2.objs.size = s.heap.objs.size := by rw [y2, v2, e1]
  have hz2 : IsZip g2 z TI TO .ellipsis := w2 _ _ (by intro q; subst q; simp at nd) (m2 _ _ (by intro q; subst q; simp at nd) hz1)
  have r2' : SIt b2 g2 i2 l2 (n + 1) := r2.ext fun o q => w2 _ _ (by intro q; subst q; simp at nd) q
  replace r1' : SIt b1 g2 i1 l1 (n + 1) := r1'.ext fun o q => w2 _ _ (by intro q; subst q; simp at nd) (m2 _ _ (by intro q; subst q; simp at nd) q)
  refine wpAny_bind (wpAny_letGo (wpAny_pure (wpAny_pure ?_)))
  refine wpAny_bind (wpAny_seqItems t2 rfl ?_)
  refine wpAny_bind (wpAny_newTuple ?_)
  show wpAny _ _ (Builtin.SmallTypes.ownedTupleHandOut (.ref z) (.ref g2.objs.size) >>= _) _ _ _
  refine wpAny_bind ?_
  unfold Builtin.SmallTypes.ownedTupleHandOut
  have hzlt : z < g2.objs.size := Heap.lt_size hz2
  have hz6 : IsZip (g2.push { cls := .type "tuple", data := .seq #[x1, x2] }) z TI TO .ellipsis := Heap.get?_push_of_some _ hz2
  refine wpAny_bind (wpAny_setField_rec hz6 (by simp) fun f7 hz7 s7 => ?_)
  replace hz7 : IsZip f7 z TI TO (rawInt g2.objs.size) := hz7
  refine wpAny_setField_rec hz7 (by simp) fun f8 hz8 s8 => ?_
  replace hz8 : IsZip f8 z TI TO (rawInt g2.objs.size) := hz8
  have up : ∀ c o, c ≠ z → g2.get? c = some o → f8.get? c = some o := fun c o c1 e => s8.extBut _ _ c1 (s7.extBut _ _ c1 (Heap.get?_push_of_some _ e))
  have hT8 : IsTu f8 g2.objs.size #[x1, x2] := s8.extBut _ _ (Nat.ne_of_gt hzlt) (s7.extBut _ _ (Nat.ne_of_gt hzlt) (Heap.get?_push_size _ rfl))
  have z8 : f8.objs.size = g2.objs.size + 1 := by rw [s8.1, s7.1, Heap.size_push]
  rw [e2] at hz8 hT8 z8
  refine wpAny_pure ⟨_, rfl, ?_⟩
  show Q (.ref g2.objs.size) _
  rw [e2]
  refine hQ f8 hz8 (up _ _ (by intro q; subst q; simp at nd) t2) (r1'.ext fun o q => up _ _ (by intro q; subst q; simp at nd) q) (r2'.ext fun o q => up _ _ (by intro q; subst q; simp at nd) q) hT8 z8 fun c o hc e => up c o (nz c hc) (k2 c o (nz c hc) (fun q => hc (by simp [q])) (fun q => hc (by simp [q])) (fun q => hc (by simp [q])) e)
theorem zip2_end {z TI TO i1 i2 l1 l2 : Addr} {b1 b2 : Bool} {n : Nat} {xs1 xs2 : Array Value} {a1 a2 : Value} {Q : Fin → Shared → Prop} (hh : A.handled = none) (nd : [z, TI, TO, i1, i2].Nodup) (sr : ∀ l ∈ [l1, l2], l ∉ [z, TI, TO, i1, i2])
    (hz : IsZip s.heap z TI TO .none) (hTI : IsTu s.heap TI #[.ref i1, .ref i2]) (hTO : IsTu s.heap TO #[a1, a2]) (h1 : SIt b1 s.heap i1 l1 n) (hl1 : SSq b1 s.heap l1 xs1) (h2 : SIt b2 s.heap i2 l2 n) (hl2 : SSq b2 s.heap l2 xs2) (hend : xs1[n]? = none ∨ xs2[n]? = none)
    (hE : ∀ h' e, (∀ c o, c ∉ [z, TO, i1, i2] → s.heap.get? c = some o → h'.get? c = some o) → (∃ o, h'.get? e = some o ∧ o.cls = .type "StopIteration") → E (.ref e) { s with heap := h' }) :
    wpAny (model prog w) A (Builtin.«zip.__next__» ⟨[.ref z], []⟩) Q E s := by
  have nz : ∀ c, c ∉ [z, TO, i1, i2] → c ≠ z := fun c h q => h (by simp [q])
  show wpAny _ _ (field (.ref z) 2 >>= _) _ _ _
  refine wpAny_bind (wpAny_field hz rfl (x := .bool false) rfl ?_)
  show wpAny _ _ (field (.ref z) 3 >>= _) _ _ _
  refine wpAny_bind (wpAny_field hz rfl (x := .ref TI) rfl ?_)
  refine wpAny_bind (wpAny_seqItems hTI rfl ?_)
  show wpAny _ _ (Builtin.SmallTypes.ownedTupleIsFree (.ref z) >>= _) _ _ _
  refine wpAny_bind ?_
  unfold Builtin.SmallTypes.ownedTupleIsFree
  refine wpAny_bind (wpAny_field hz rfl (x := .none) rfl (wpAny_pure ?_))
  simp only [if_true]
  refine wpAny_bind (wpAny_rule ?_)
  refine wpAny_bind (wpAny_field hz rfl (x := .ref TO) rfl ?_)
  refine wpAny_bind (wpAny_setField_rec hz (by simp) fun g0 hz0 sb0 => ?_)
  replace hz0 : IsZip g0 z TI TO .ellipsis := hz0
  have k0 : ∀ c o, c ≠ z → s.heap.get? c = some o → g0.get? c = some o := sb0.extBut
  have t0 : IsTu g0 TO #[a1, a2] := k0 _ _ (by intro q; subst q; simp at nd) hTO
  refine wpAny_bind ?_
  simp only [List.zipIdx_cons, List.zipIdx_nil, List.forIn_cons, List.forIn_nil]
  have p1 : SIt b1 g0 i1 l1 n := h1.ext fun o q => k0 _ _ (by intro q; subst q; simp at nd) q
  have q1 : SSq b1 g0 l1 xs1 := hl1.ext fun o q => k0 _ _ (by intro q; subst q; simp at sr) q
  have p2 : SIt b2 g0 i2 l2 n := h2.ext fun o q => k0 _ _ (by intro q; subst q; simp at nd) q
  have q2 : SSq b2 g0 l2 xs2 := hl2.ext fun o q => k0 _ _ (by intro q; subst q; simp at sr) q
  refine wpAny_bind (wpAny_bind (wpAny_onRaise ?_))
  show wpAny _ _ (Builtin.SmallTypes.nextOf (.ref i1) >>= _) _ _ _
  cases hx1 : xs1[n]? with
  | none =>
    refine wpAny_bind (sit_end hh p1 q1 hx1 fun f e kf he => ?_)
    obtain ⟨oe, hoe, hce⟩ := he
    have hzf : IsZip f z TI TO .ellipsis := kf _ _ (by intro q; subst q; simp at nd) hz0
    have hez : e ≠ z := fun q => by subst q; rw [hzf] at hoe; cases hoe; simp at hce
    exact wpAny_setField_rec hzf (by simp) fun f3 _ s3 => hE f3 e (fun c o hc x => s3.extBut _ _ (nz c hc) (kf _ _ (fun q => hc (by simp [q])) (k0 c o (nz c hc)  x))) ⟨oe, s3.extBut _ _ hez hoe, hce⟩
  | some x1 =>
    refine wpAny_bind (sit_item p1 q1 hx1 fun u1 r1 m1 v1 => wpAny_pure ?_)
    have tt1 : IsTu u1 TO #[a1, a2] := m1 _ _ (by intro q; subst q; simp at nd) t0
    refine wpAny_bind (wpAny_seqItems tt1 rfl ?_)
    refine wpAny_bind (upd_tu tt1 (by simp) fun g1 t1 w1 y1 => ?_)
    replace t1 : IsTu g1 TO #[x1, a2] := t1
    have k1 : ∀ c o, c ≠ z → c ≠ TO → c ≠ i1 → s.heap.get? c = some o → g1.get? c = some o := fun c o cz cT c1 e => w1 _ _ cT (m1 _ _ c1 (k0 c o cz  e))
    have hz1 : IsZip g1 z TI TO .ellipsis := w1 _ _ (by intro q; subst q; simp at nd) (m1 _ _ (by intro q; subst q; simp at nd) hz0)
    replace p2 : SIt b2 g1 i2 l2 n := p2.ext fun o q => w1 _ _ (by intro q; subst q; simp at nd) (m1 _ _ (by intro q; subst q; simp at nd) q)
    replace q2 : SSq b2 g1 l2 xs2 := q2.ext fun o q => w1 _ _ (by intro q; subst q; simp at sr) (m1 _ _ (by intro q; subst q; simp at sr) q)
    refine wpAny_bind (wpAny_letGo (wpAny_pure ?_))
    refine wpAny_bind (wpAny_bind (wpAny_onRaise ?_))
    show wpAny _ _ (Builtin.SmallTypes.nextOf (.ref i2) >>= _) _ _ _
    cases hx2 : xs2[n]? with
    | none =>
      refine wpAny_bind (sit_end hh p2 q2 hx2 fun f e kf he => ?_)
      obtain ⟨oe, hoe, hce⟩ := he
      have hzf : IsZip f z TI TO .ellipsis := kf _ _ (by intro q; subst q; simp at nd) hz1
      have hez : e ≠ z := fun q => by subst q; rw [hzf] at hoe; cases hoe; simp at hce
      exact wpAny_setField_rec hzf (by simp) fun f3 _ s3 => hE f3 e (fun c o hc x => s3.extBut _ _ (nz c hc) (kf _ _ (fun q => hc (by simp [q])) (k1 c o (nz c hc) (fun q => hc (by simp [q])) (fun q => hc (by simp [q])) x))) ⟨oe, s3.extBut _ _ hez hoe, hce⟩
    | some x2 =>
      exfalso
      rcases hend with h | h <;> simp_all
/-! ### zip of 3 -/
theorem zip3_item {z TI TO i1 i2 i3 l1 l2 l3 : Addr} {b1 b2 b3 : Bool} {n : Nat} {xs1 xs2 xs3 : Array Value} {a1 a2 a3 : Value} {x1 x2 x3 : Value} {Q : Value → Shared → Prop} (nd : [z, TI, TO, i1, i2, i3].Nodup) (sr : ∀ l ∈ [l1, l2, l3], l ∉ [z, TI, TO, i1, i2, i3])
    (hz : IsZip s.heap z TI TO .none) (hTI : IsTu s.heap TI #[.ref i1, .ref i2, .ref i3]) (hTO : IsTu s.heap TO #[a1, a2, a3]) (h1 : SIt b1 s.heap i1 l1 n) (hl1 : SSq b1 s.heap l1 xs1) (h2 : SIt b2 s.heap i2 l2 n) (hl2 : SSq b2 s.heap l2 xs2) (h3 : SIt b3 s.heap i3 l3 n) (hl3 : SSq b3 s.heap l3 xs3) (hx1 : xs1[n]? = some x1) (hx2 : xs2[n]? = some x2) (hx3 : xs3[n]? = some x3)
    (hQ : ∀ h', IsZip h' z TI TO (rawInt s.heap.objs.size) → IsTu h' TO #[x1, x2, x3] → SIt b1 h' i1 l1 (n + 1) → SIt b2 h' i2 l2 (n + 1) → SIt b3 h' i3 l3 (n + 1) → IsTu h' s.heap.objs.size #[x1, x2, x3] → h'.objs.size = s.heap.objs.size + 1 → (∀ c o, c ∉ [z, TO, i1, i2, i3] → s.heap.get? c = some o → h'.get? c = some o) → Q (.ref s.heap.objs.size) { s with heap := h' }) :
    wpAny (model prog w) A (Builtin.«zip.__next__» ⟨[.ref z], []⟩) (fun fin s' => ∃ v, fin = .done (.ret v) ∧ Q v s') E s := by
  have nz : ∀ c, c ∉ [z, TO, i1, i2, i3] → c ≠ z := fun c h q => h (by simp [q])
  show wpAny _ _ (field (.ref z) 2 >>= _) _ _ _
  refine wpAny_bind (wpAny_field hz rfl (x := .bool false) rfl ?_)
  show wpAny _ _ (field (.ref z) 3 >>= _) _ _ _
  refine wpAny_bind (wpAny_field hz rfl (x := .ref TI) rfl ?_)
  refine wpAny_bind (wpAny_seqItems hTI rfl ?_)
  show wpAny _ _ (Builtin.SmallTypes.ownedTupleIsFree (.ref z) >>= _) _ _ _
  refine wpAny_bind ?_
  unfold Builtin.SmallTypes.ownedTupleIsFree
  refine wpAny_bind (wpAny_field hz rfl (x := .none) rfl (wpAny_pure ?_))
  simp only [if_true]
  refine wpAny_bind (wpAny_rule ?_)
  refine wpAny_bind (wpAny_field hz rfl (x := .ref TO) rfl ?_)
  refine wpAny_bind (wpAny_setField_rec hz (by simp) fun g0 hz0 sb0 => ?_)
  replace hz0 : IsZip g0 z TI TO .ellipsis := hz0
  have k0 : ∀ c o, c ≠ z → s.heap.get? c = some o → g0.get? c = some o := sb0.extBut
  have e0 : g0.objs.size = s.heap.objs.size := sb0.1
  have t0 : IsTu g0 TO #[a1, a2, a3] := k0 _ _ (by intro q; subst q; simp at nd) hTO
  refine wpAny_bind ?_
  simp only [List.zipIdx_cons, List.zipIdx_nil, List.forIn_cons, List.forIn_nil]
  have p1 : SIt b1 g0 i1 l1 n := h1.ext fun o q => k0 _ _ (by intro q; subst q; simp at nd) q
  have q1 : SSq b1 g0 l1 xs1 := hl1.ext fun o q => k0 _ _ (by intro q; subst q; simp at sr) q
  have p2 : SIt b2 g0 i2 l2 n := h2.ext fun o q => k0 _ _ (by intro q; subst q; simp at nd) q
  have q2 : SSq b2 g0 l2 xs2 := hl2.ext fun o q => k0 _ _ (by intro q; subst q; simp at sr) q
  have p3 : SIt b3 g0 i3 l3 n := h3.ext fun o q => k0 _ _ (by intro q; subst q; simp at nd) q
  have q3 : SSq b3 g0 l3 xs3 := hl3.ext fun o q => k0 _ _ (by intro q; subst q; simp at sr) q
  refine wpAny_bind (wpAny_bind (wpAny_onRaise ?_))
  show wpAny _ _ (Builtin.SmallTypes.nextOf (.ref i1) >>= _) _ _ _
  refine wpAny_bind (sit_item p1 q1 hx1 fun u1 r1 m1 v1 => wpAny_pure ?_)
  have tt1 : IsTu u1 TO #[a1, a2, a3] := m1 _ _ (by intro q; subst q; simp at nd) t0
  refine wpAny_bind (wpAny_seqItems tt1 rfl ?_)
  refine wpAny_bind (upd_tu tt1 (by simp) fun g1 t1 w1 y1 => ?_)
  replace t1 : IsTu g1 TO #[x1, a2, a3] := t1
  have k1 : ∀ c o, c ≠ z → c ≠ TO → c ≠ i1 → s.heap.get? c = some o → g1.get? c = some o := fun c o cz cT c1 e => w1 _ _ cT (m1 _ _ c1 (k0 c o cz  e))
  have e1 : g1.objs.size = s.heap.objs.size := by rw [y1, v1, e0]
  have hz1 : IsZip g1 z TI TO .ellipsis := w1 _ _ (by intro q; subst q; simp at nd) (m1 _ _ (by intro q; subst q; simp at nd) hz0)
  have r1' : SIt b1 g1 i1 l1 (n + 1) := r1.ext fun o q => w1 _ _ (by intro q; subst q; simp at nd) q
  replace p2 : SIt b2 g1 i2 l2 n := p2.ext fun o q => w1 _ _ (by intro q; subst q; simp at nd) (m1 _ _ (by intro q; subst q; simp at nd) q)
  replace q2 : SSq b2 g1 l2 xs2 := q2.ext fun o q => w1 _ _ (by intro q; subst q; simp at sr) (m1 _ _ (by intro q; subst q; simp at sr) q)
  replace p3 : SIt b3 g1 i3 l3 n := p3.ext fun o q => w1 _ _ (by intro q; subst q; simp at nd) (m1 _ _ (by intro q; subst q; simp at nd) q)
  replace q3 : SSq b3 g1 l3 xs3 := q3.ext fun o q => w1 _ _ (by intro q; subst q; simp at sr) (m1 _ _ (by intro q; subst q; simp at sr) q)
  refine wpAny_bind (wpAny_letGo (wpAny_pure ?_))
  refine wpAny_bind (wpAny_bind (wpAny_onRaise ?_))
  show wpAny _ _ (Builtin.SmallTypes.nextOf (.ref i2) >>= _) _ _ _
  refine wpAny_bind (sit_item p2 q2 hx2 fun u2 r2 m2 v2 => wpAny_pure ?_)
  have tt2 : IsTu u2 TO #[x1, a2, a3] := m2 _ _ (by intro q; subst q; simp at nd) t1
  refine wpAny_bind (wpAny_seqItems tt2 rfl ?_)
  refine wpAny_bind (upd_tu tt2 (by simp) fun g2 t2 w2 y2 => ?_)
  replace t2 : IsTu g2 TO #[x1, x2, a3] := t2
  have k2 : ∀ c o, c ≠ z → c ≠ TO → c ≠ i1 → c ≠ i2 → s.heap.get? c = some o → g2.get? c = some o := fun c o cz cT c1 c2 e => w2 _ _ cT (m2 _ _ c2 (k1 c o cz cT c1 e))
  have e2 : g2.objs.size = s.heap.objs.size := by rw [y2, v2, e1]
  have hz2 : IsZip g2 z TI TO .ellipsis := w2 _ _ (by intro q; subst q; simp at nd) (m2 _ _ (by intro q; subst q; simp at nd) hz1)
  have r2' : SIt b2 g2 i2 l2 (n + 1) := r2.ext fun o q => w2 _ _ (by intro q; subst q; simp at nd) q
  replace r1' : SIt b1 g2 i1 l1 (n + 1) := r1'.ext fun o q => w2 _ _ (by intro q; subst q; simp at nd) (m2 _ _ (by intro q; subst q; simp at nd) q)
  replace p3 : SIt b3 g2 i3 l3 n := p3.ext fun o q => w2 _ _ (by intro q; subst q; simp at nd) (m2 _ _ (by intro q; subst q; simp at nd) q)
  replace q3 : SSq b3 g2 l3 xs3 := q3.ext fun o q => w2 _ _ (by intro q; subst q; simp at sr) (m2 _ _ (by intro q; subst q; simp at sr) q)
  refine wpAny_bind (wpAny_letGo (wpAny_pure ?_))
  refine wpAny_bind (wpAny_bind (wpAny_onRaise ?_))
  show wpAny _ _ (Builtin.SmallTypes.nextOf (.ref i3) >>= _) _ _ _
  refine wpAny_bind (sit_item p3 q3 hx3 fun u3 r3 m3 v3 => wpAny_pure ?_)
  have tt3 : IsTu u3 TO #[x1, x2, a3] := m3 _ _ (by intro q; subst q; simp at nd) t2
  refine wpAny_bind (wpAny_seqItems tt3 rfl ?_)
  refine wpAny_bind (upd_tu tt3 (by simp) fun g3 t3 w3 y3 => ?_)
  replace t3 : IsTu g3 TO #[x1, x2, x3] := t3
  have k3 : ∀ c o, c ≠ z → c ≠ TO → c ≠ i1 → c ≠ i2 → c ≠ i3 → s.heap.get? c = some o → g3.get? c = some o := fun c o cz cT c1 c2 c3 e => w3 _ _ cT (m3 _ _ c3 (k2 c o cz cT c1 c2 e))
  have e3 : g3.objs.size = s.heap.objs.size := by rw [y3, v3, e2]
  have hz3 : IsZip g3 z TI TO .ellipsis := w3 _ _ (by intro q; subst q; simp at nd) (m3 _ _ (by intro q; subst q; simp at nd) hz2)
  have r3' : SIt b3 g3 i3 l3 (n + 1) := r3.ext fun o q => w3 _ _ (by intro q; subst q; simp at nd) q
  replace r1' : SIt b1 g3 i1 l1 (n + 1) := r1'.ext fun o q => w3 _ _ (by intro q; subst q; simp at nd) (m3 _ _ (by intro q; subst q; simp at nd) q)
  replace r2' : SIt b2 g3 i2 l2 (n + 1) := r2'.ext fun o q => w3 _ _ (by intro q; subst q; simp at nd) (m3 _ _ (by intro q; subst q; simp at nd) q)
  refine wpAny_bind (wpAny_letGo (wpAny_pure (wpAny_pure ?_)))
  refine wpAny_bind (wpAny_seqItems t3 rfl ?_)
  refine wpAny_bind (wpAny_newTuple ?_)
  show wpAny _ _ (Builtin.SmallTypes.ownedTupleHandOut (.ref z) (.ref g3.objs.size) >>= _) _ _ _
  refine wpAny_bind ?_
  unfold Builtin.SmallTypes.ownedTupleHandOut
  have hzlt : z < g3.objs.size := Heap.lt_size hz3
  have hz6 : IsZip (g3.push { cls := .type "tuple", data := .seq #[x1, x2, x3] }) z TI TO .ellipsis := Heap.get?_push_of_some _ hz3
  refine wpAny_bind (wpAny_setField_rec hz6 (by simp) fun f7 hz7 s7 => ?_)
  replace hz7 : IsZip f7 z TI TO (rawInt g3.objs.size) := hz7
  refine wpAny_setField_rec hz7 (by simp) fun f8 hz8 s8 => ?_
  replace hz8 : IsZip f8 z TI TO (rawInt g3.objs.size) := hz8
  have up : ∀ c o, c ≠ z → g3.get? c = some o → f8.get? c = some o := fun c o c1 e => s8.extBut _ _ c1 (s7.extBut _ _ c1 (Heap.get?_push_of_some _ e))
  have hT8 : IsTu f8 g3.objs.size #[x1, x2, x3] := s8.extBut _ _ (Nat.ne_of_gt hzlt) (s7.extBut _ _ (Nat.ne_of_gt hzlt) (Heap.get?_push_size _ rfl))
  have z8 : f8.objs.size = g3.objs.size + 1 := by rw [s8.1, s7.1, Heap.size_push]
  rw [e3] at hz8 hT8 z8
  refine wpAny_pure ⟨_, rfl, ?_⟩
  show Q (.ref g3.objs.size) _
  rw [e3]
  refine hQ f8 hz8 (up _ _ (by intro q; subst q; simp at nd) t3) (r1'.ext fun o q => up _ _ (by intro q; subst q; simp at nd) q) (r2'.ext fun o q => up _ _ (by intro q; subst q; simp at nd) q) (r3'.ext fun o q => up _ _ (by intro q; subst q; simp at nd) q) hT8 z8 fun c o hc e => up c o (nz c hc) (k3 c o (nz c hc) (fun q => hc (by simp [q])) (fun q => hc (by simp [q])) (fun q => hc (by simp [q])) (fun q => hc (by simp [q])) e)
theorem zip3_end {z TI TO i1 i2 i3 l1 l2 l3 : Addr} {b1 b2 b3 : Bool} {n : Nat} {xs1 xs2 xs3 : Array Value} {a1 a2 a3 : Value} {Q : Fin → Shared → Prop} (hh : A.handled = none) (nd : [z, TI, TO, i1, i2, i3].Nodup) (sr : ∀ l ∈ [l1, l2, l3], l ∉ [z, TI, TO, i1, i2, i3])
    (hz : IsZip s.heap z TI TO .none) (hTI : IsTu s.heap TI #[.ref i1, .ref i2, .ref i3]) (hTO : IsTu s.heap TO #[a1, a2, a3]) (h1 : SIt b1 s.heap i1 l1 n) (hl1 : SSq b1 s.heap l1 xs1) (h2 : SIt b2 s.heap i2 l2 n) (hl2 : SSq b2 s.heap l2 xs2) (h3 : SIt b3 s.heap i3 l3 n) (hl3 : SSq b3 s.heap l3 xs3) (hend : xs1[n]? = none ∨ xs2[n]? = none ∨ xs3[n]? = none)
    (hE : ∀ h' e, (∀ c o, c ∉ [z, TO, i1, i2, i3] → s.heap.get? c = some o → h'.get? c = some o) → (∃ o, h'.get? e = some o ∧ o.cls = .type "StopIteration") → E (.ref e) { s with heap := h' }) :
    wpAny (model prog w) A (Builtin.«zip.__next__» ⟨[.ref z], []⟩) Q E s := by
  have nz : ∀ c, c ∉ [z, TO, i1, i2, i3] → c ≠ z := fun c h q => h (by simp [q])
  show wpAny _ _ (field (.ref z) 2 >>= _) _ _ _
  refine wpAny_bind (wpAny_field hz rfl (x := .bool false) rfl ?_)
  show wpAny _ _ (field (.ref z) 3 >>= _) _ _ _
  refine wpAny_bind (wpAny_field hz rfl (x := .ref TI) rfl ?_)
  refine wpAny_bind (wpAny_seqItems hTI rfl ?_)
  show wpAny _ _ (Builtin.SmallTypes.ownedTupleIsFree (.ref z) >>= _) _ _ _
  refine wpAny_bind ?_
  unfold Builtin.SmallTypes.ownedTupleIsFree
  refine wpAny_bind (wpAny_field hz rfl (x := .none) rfl (wpAny_pure ?_))
  simp only [if_true]
  refine wpAny_bind (wpAny_rule ?_)
  refine wpAny_bind (wpAny_field hz rfl (x := .ref TO) rfl ?_)
  refine wpAny_bind (wpAny_setField_rec hz (by simp) fun g0 hz0 sb0 => ?_)
  replace hz0 : IsZip g0 z TI TO .ellipsis := hz0
  have k0 : ∀ c o, c ≠ z → s.heap.get? c = some o → g0.get? c = some o := sb0.extBut
  have t0 : IsTu g0 TO #[a1, a2, a3] := k0 _ _ (by intro q; subst q; simp at nd) hTO
  refine wpAny_bind ?_
  simp only [List.zipIdx_cons, List.zipIdx_nil, List.forIn_cons, List.forIn_nil]
  have p1 : SIt b1 g0 i1 l1 n := h1.ext fun o q => k0 _ _ (by intro q; subst q; simp at nd) q
  have q1 : SSq b1 g0 l1 xs1 := hl1.ext fun o q => k0 _ _ (by intro q; subst q; simp at sr) q
  have p2 : SIt b2 g0 i2 l2 n := h2.ext fun o q => k0 _ _ (by intro q; subst q; simp at nd) q
  have q2 : SSq b2 g0 l2 xs2 := hl2.ext fun o q => k0 _ _ (by intro q; subst q; simp at sr) q
  have p3 : SIt b3 g0 i3 l3 n := h3.ext fun o q => k0 _ _ (by intro q; subst q; simp at nd) q
  have q3 : SSq b3 g0 l3 xs3 := hl3.ext fun o q => k0 _ _ (by intro q; subst q; simp at sr) q
  refine wpAny_bind (wpAny_bind (wpAny_onRaise ?_))
  show wpAny _ _ (Builtin.SmallTypes.nextOf (.ref i1) >>= _) _ _ _
  cases hx1 : xs1[n]? with
  | none =>
    refine wpAny_bind (sit_end hh p1 q1 hx1 fun f e kf he => ?_)
    obtain ⟨oe, hoe, hce⟩ := he
    have hzf : IsZip f z TI TO .ellipsis := kf _ _ (by intro q; subst q; simp at nd) hz0
    have hez : e ≠ z := fun q => by subst q; rw [hzf] at hoe; cases hoe; simp at hce
    exact wpAny_setField_rec hzf (by simp) fun f3 _ s3 => hE f3 e (fun c o hc x => s3.extBut _ _ (nz c hc) (kf _ _ (fun q => hc (by simp [q])) (k0 c o (nz c hc)  x))) ⟨oe, s3.extBut _ _ hez hoe, hce⟩
  | some x1 =>
    refine wpAny_bind (sit_item p1 q1 hx1 fun u1 r1 m1 v1 => wpAny_pure ?_)
    have tt1 : IsTu u1 TO #[a1, a2, a3] := m1 _ _ (by intro q; subst q; simp at nd) t0
    refine wpAny_bind (wpAny_seqItems tt1 rfl ?_)
    refine wpAny_bind (upd_tu tt1 (by simp) fun g1 t1 w1 y1 => ?_)
    replace t1 : IsTu g1 TO #[x1, a2, a3] := t1
    have k1 : ∀ c o, c ≠ z → c ≠ TO → c ≠ i1 → s.heap.get? c = some o → g1.get? c = some o := fun c o cz cT c1 e => w1 _ _ cT (m1 _ _ c1 (k0 c o cz  e))
    have hz1 : IsZip g1 z TI TO .ellipsis := w1 _ _ (by intro q; subst q; simp at nd) (m1 _ _ (by intro q; subst q; simp at nd) hz0)
    replace p2 : SIt b2 g1 i2 l2 n := p2.ext fun o q => w1 _ _ (by intro q; subst q; simp at nd) (m1 _ _ (by intro q; subst q; simp at nd) q)
    replace q2 : SSq b2 g1 l2 xs2 := q2.ext fun o q => w1 _ _ (by intro q; subst q; simp at sr) (m1 _ _ (by intro q; subst q; simp at sr) q)
    replace p3 : SIt b3 g1 i3 l3 n := p3.ext fun o q => w1 _ _ (by intro q; subst q; simp at nd) (m1 _ _ (by intro q; subst q; simp at nd) q)
    replace q3 : SSq b3 g1 l3 xs3 := q3.ext fun o q => w1 _ _ (by intro q; subst q; simp at sr) (m1 _ _ (by intro q; subst q; simp at sr) q)
    refine wpAny_bind (wpAny_letGo (wpAny_pure ?_))
    refine wpAny_bind (wpAny_bind (wpAny_onRaise ?_))
    show wpAny _ _ (Builtin.SmallTypes.nextOf (.ref i2) >>= _) _ _ _
    cases hx2 : xs2[n]? with
    | none =>
      refine wpAny_bind (sit_end hh p2 q2 hx2 fun f e kf he => ?_)
      obtain ⟨oe, hoe, hce⟩ := he
      have hzf : IsZip f z TI TO .ellipsis := kf _ _ (by intro q; subst q; simp at nd) hz1
      have hez : e ≠ z := fun q => by subst q; rw [hzf] at hoe; cases hoe; simp at hce
      exact wpAny_setField_rec hzf (by simp) fun f3 _ s3 => hE f3 e (fun c o hc x => s3.extBut _ _ (nz c hc) (kf _ _ (fun q => hc (by simp [q])) (k1 c o (nz c hc) (fun q => hc (by simp [q])) (fun q => hc (by simp [q])) x))) ⟨oe, s3.extBut _ _ hez hoe, hce⟩
    | some x2 =>
      refine wpAny_bind (sit_item p2 q2 hx2 fun u2 r2 m2 v2 => wpAny_pure ?_)
      have tt2 : IsTu u2 TO #[x1, a2, a3] := m2 _ _ (by intro q; subst q; simp at nd) t1
      refine wpAny_bind (wpAny_seqItems tt2 rfl ?_)
      refine wpAny_bind (upd_tu tt2 (by simp) fun g2 t2 w2 y2 => ?_)
      replace t2 : IsTu g2 TO #[x1, x2, a3] := t2
      have k2 : ∀ c o, c ≠ z → c ≠ TO → c ≠ i1 → c ≠ i2 → s.heap.get? c = some o → g2.get? c = some o := fun c o cz cT c1 c2 e => w2 _ _ cT (m2 _ _ c2 (k1 c o cz cT c1 e))
      have hz2 : IsZip g2 z TI TO .ellipsis := w2 _ _ (by intro q; subst q; simp at nd) (m2 _ _ (by intro q; subst q; simp at nd) hz1)
      replace p3 : SIt b3 g2 i3 l3 n := p3.ext fun o q => w2 _ _ (by intro q; subst q; simp at nd) (m2 _ _ (by intro q; subst q; simp at nd) q)
      replace q3 : SSq b3 g2 l3 xs3 := q3.ext fun o q => w2 _ _ (by intro q; subst q; simp at sr) (m2 _ _ (by intro q; subst q; simp at sr) q)
      refine wpAny_bind (wpAny_letGo (wpAny_pure ?_))
      refine wpAny_bind (wpAny_bind (wpAny_onRaise ?_))
      show wpAny _ _ (Builtin.SmallTypes.nextOf (.ref i3) >>= _) _ _ _
      cases hx3 : xs3[n]? with
      | none =>
        refine wpAny_bind (sit_end hh p3 q3 hx3 fun f e kf he => ?_)
        obtain ⟨oe, hoe, hce⟩ := he
        have hzf : IsZip f z TI TO .ellipsis := kf _ _ (by intro q; subst q; simp at nd) hz2
        have hez : e ≠ z := fun q => by subst q; rw [hzf] at hoe; cases hoe; simp at hce
        exact wpAny_setField_rec hzf (by simp) fun f3 _ s3 => hE f3 e (fun c o hc x => s3.extBut _ _ (nz c hc) (kf _ _ (fun q => hc (by simp [q])) (k2 c o (nz c hc) (fun q => hc (by simp [q])) (fun q => hc (by simp [q])) (fun q => hc (by simp [q])) x))) ⟨oe, s3.extBut _ _ hez hoe, hce⟩
      | some x3 =>
        exfalso
        rcases hend with h | h | h <;> simp_all
/-! ### zip of 4 -/
theorem zip4_item {z TI TO i1 i2 i3 i4 l1 l2 l3 l4 : Addr} {b1 b2 b3 b4 : Bool} {n : Nat} {xs1 xs2 xs3 xs4 : Array Value} {a1 a2 a3 a4 : Value} {x1 x2 x3 x4 : Value} {Q : Value → Shared → Prop} (nd : [z, TI, TO, i1, i2, i3, i4].Nodup) (sr : ∀ l ∈ [l1, l2, l3, l4], l ∉ [z, TI, TO, i1, i2, i3, i4])
    (hz : IsZip s.heap z TI TO .none) (hTI : IsTu s.heap TI #[.ref i1, .ref i2, .ref i3, .ref i4]) (hTO : IsTu s.heap TO #[a1, a2, a3, a4]) (h1 : SIt b1 s.heap i1 l1 n) (hl1 : SSq b1 s.heap l1 xs1) (h2 : SIt b2 s.heap i2 l2 n) (hl2 : SSq b2 s.heap l2 xs2) (h3 : SIt b3 s.heap i3 l3 n) (hl3 : SSq b3 s.heap l3 xs3) (h4 : SIt b4 s.heap i4 l4 n) (hl4 : SSq b4 s.heap l4 xs4) (hx1 : xs1[n]? = some x1) (hx2 : xs2[n]? = some x2) (hx3 : xs3[n]? = some x3) (hx4 : xs4[n]? = some x4)
    (hQ : ∀ h', IsZip h' z TI TO (rawInt s.heap.objs.size) → IsTu h' TO #[x1, x2, x3, x4] → SIt b1 h' i1 l1 (n + 1) → SIt b2 h' i2 l2 (n + 1) → SIt b3 h' i3 l3 (n + 1) → SIt b4 h' i4 l4 (n + 1) → IsTu h' s.heap.objs.size #[x1, x2, x3, x4] → h'.objs.size = s.heap.objs.size + 1 → (∀ c o, c ∉ [z, TO, i1, i2, i3, i4] → s.heap.get? c = some o → h'.get? c = some o) → Q (.ref s.heap.objs.size) { s with heap := h' }) :
    wpAny (model prog w) A (Builtin.«zip.__next__» ⟨[.ref z], []⟩) (fun fin s' => ∃ v, fin = .done (.ret v) ∧ Q v s') E s := by
  have nz : ∀ c, c ∉ [z, TO, i1, i2, i3, i4] → c ≠ z := fun c h q => h (by simp [q])
  show wpAny _ _ (field (.ref z) 2 >>= _) _ _ _
  refine wpAny_bind (wpAny_field hz rfl (x := .bool false) rfl ?_)
  show wpAny _ _ (field (.ref z) 3 >>= _) _ _ _
  refine wpAny_bind (wpAny_field hz rfl (x := .ref TI) rfl ?_)
  refine wpAny_bind (wpAny_seqItems hTI rfl ?_)
  show wpAny _ _ (Builtin.SmallTypes.ownedTupleIsFree (.ref z) >>= _) _ _ _
  refine wpAny_bind ?_
  unfold Builtin.SmallTypes.ownedTupleIsFree
  refine wpAny_bind (wpAny_field hz rfl (x := .none) rfl (wpAny_pure ?_))
  simp only [if_true]
  refine wpAny_bind (wpAny_rule ?_)
  refine wpAny_bind (wpAny_field hz rfl (x := .ref TO) rfl ?_)
  refine wpAny_bind (wpAny_setField_rec hz (by simp) fun g0 hz0 sb0 => ?_)
  replace hz0 : IsZip g0 z TI TO .ellipsis := hz0
  have k0 : ∀ c o, c ≠ z → s.heap.get? c = some o → g0.get? c = some o := sb0.extBut
  have e0 : g0.objs.size = s.heap.objs.size := sb0.1
  have t0 : IsTu g0 TO #[a1, a2, a3, a4] := k0 _ _ (by intro q; subst q; simp at nd) hTO
  refine wpAny_bind ?_
  simp only [List.zipIdx_cons, List.zipIdx_nil, List.forIn_cons, List.forIn_nil]
  have p1 : SIt b1 g0 i1 l1 n := h1.ext fun o q => k0 _ _ (by intro q; subst q; simp at nd) q
  have q1 : SSq b1 g0 l1 xs1 := hl1.ext fun o q => k0 _ _ (by intro q; subst q; simp at sr) q
  have p2 : SIt b2 g0 i2 l2 n := h2.ext fun o q => k0 _ _ (by intro q; subst q; simp at nd) q
  have q2 : SSq b2 g0 l2 xs2 := hl2.ext fun o q => k0 _ _ (by intro q; subst q; simp at sr) q
  have p3 : SIt b3 g0 i3 l3 n := h3.ext fun o q => k0 _ _ (by intro q; subst q; simp at nd) q
  have q3 : SSq b3 g0 l3 xs3 := hl3.ext fun o q => k0 _ _ (by intro q; subst q; simp at sr) q
  have p4 : SIt b4 g0 i4 l4 n := h4.ext fun o q => k0 _ _ (by intro q; subst q; simp at nd) q
  have q4 : SSq b4 g0 l4 xs4 := hl4.ext fun o q => k0 _ _ (by intro q; subst q; simp at sr) q
  refine wpAny_bind (wpAny_bind (wpAny_onRaise ?_))
  show wpAny _ _ (Builtin.SmallTypes.nextOf (.ref i1) >>= _) _ _ _
  refine wpAny_bind (sit_item p1 q1 hx1 fun u1 r1 m1 v1 => wpAny_pure ?_)
  have tt1 : IsTu u1 TO #[a1, a2, a3, a4] := m1 _ _ (by intro q; subst q; simp at nd) t0
  refine wpAny_bind (wpAny_seqItems tt1 rfl ?_)
  refine wpAny_bind (upd_tu tt1 (by simp) fun g1 t1 w1 y1 => ?_)
  replace t1 : IsTu g1 TO #[x1, a2, a3, a4] := t1
  have k1 : ∀ c o, c ≠ z → c ≠ TO → c ≠ i1 → s.heap.get? c = some o → g1.get? c = some o := fun c o cz cT c1 e => w1 _ _ cT (m1 _ _ c1 (k0 c o cz  e))
  have e1 : g1.objs.size = s.heap.objs.size := by rw [y1, v1, e0]
  have hz1 : IsZip g1 z TI TO .ellipsis := w1 _ _ (by intro q; subst q; simp at nd) (m1 _ _ (by intro q; subst q; simp at nd) hz0)
  have r1' : SIt b1 g1 i1 l1 (n + 1) := r1.ext fun o q => w1 _ _ (by intro q; subst q; simp at nd) q
  replace p2 : SIt b2 g1 i2 l2 n := p2.ext fun o q => w1 _ _ (by intro q; subst q; simp at nd) (m1 _ _ (by intro q; subst q; simp at nd) q)
  replace q2 : SSq b2 g1 l2 xs2 := q2.ext fun o q => w1 _ _ (by intro q; subst q; simp at sr) (m1 _ _ (by intro q; subst q; simp at sr) q)
  replace p3 : SIt b3 g1 i3 l3 n := p3.ext fun o q => w1 _ _ (by intro q; subst q; simp at nd) (m1 _ _ (by intro q; subst q; simp at nd) q)
  replace q3 : SSq b3 g1 l3 xs3 := q3.ext fun o q => w1 _ _ (by intro q; subst q; simp at sr) (m1 _ _ (by intro q; subst q; simp at sr) q)
  replace p4 : SIt b4 g1 i4 l4 n := p4.ext fun o q => w1 _ _ (by intro q; subst q; simp at nd) (m1 _ _ (by intro q; subst q; simp at nd) q)
  replace q4 : SSq b4 g1 l4 xs4 := q4.ext fun o q => w1 _ _ (by intro q; subst q; simp at sr) (m1 _ _ (by intro q; subst q; simp at sr) q)
  refine wpAny_bind (wpAny_letGo (wpAny_pure ?_))
  refine wpAny_bind (wpAny_bind (wpAny_onRaise ?_))
  show wpAny _ _ (Builtin.SmallTypes.nextOf (.ref i2) >>= _) _ _ _
  refine wpAny_bind (sit_item p2 q2 hx2 fun u2 r2 m2 v2 => wpAny_pure ?_)
  have tt2 : IsTu u2 TO #[x1, a2, a3, a4] := m2 _ _ (by intro q; subst q; simp at nd) t1
  refine wpAny_bind (wpAny_seqItems tt2 rfl ?_)
  refine wpAny_bind (upd_tu tt2 (by simp) fun g2 t2 w2 y2 => ?_)
  replace t2 : IsTu g2 TO #[x1, x2, a3, a4] := t2
  have k2 : ∀ c o, c ≠ z → c ≠ TO → c ≠ i1 → c ≠ i2 → s.heap.get? c = some o → g2.get? c = some o := fun c o cz cT c1 c2 e => w2 _ _ cT (m2 _ _ c2 (k1 c o cz cT c1 e))
  have e2 : g2.objs.size = s.heap.objs.size := by rw [y2, v2, e1]
  have hz2 : IsZip g2 z TI TO .ellipsis := w2 _ _ (by intro q; subst q; simp at nd) (m2 _ _ (by intro q; subst q; simp at nd) hz1)
  have r2' : SIt b2 g2 i2 l2 (n + 1) := r2.ext fun o q => w2 _ _ (by intro q; subst q; simp at nd) q
  replace r1' : SIt b1 g2 i1 l1 (n + 1) := r1'.ext fun o q => w2 _ _ (by intro q; subst q; simp at nd) (m2 _ _ (by intro q; subst q; simp at nd) q)
  replace p3 : SIt b3 g2 i3 l3 n := p3.ext fun o q => w2 _ _ (by intro q; subst q; simp at nd) (m2 _ _ (by intro q; subst q; simp at nd) q)
  replace q3 : SSq b3 g2 l3 xs3 := q3.ext fun o q => w2 _ _ (by intro q; subst q; simp at sr) (m2 _ _ (by intro q; subst q; simp at sr) q)
  replace p4 : SIt b4 g2 i4 l4 n := p4.ext fun o q => w2 _ _ (by intro q; subst q; simp at nd) (m2 _ _ (by intro q; subst q; simp at nd) q)
  replace q4 : SSq b4 g2 l4 xs4 := q4.ext fun o q => w2 _ _ (by intro q; subst q; simp at sr) (m2 _ _ (by intro q; subst q; simp at sr) q)
  refine wpAny_bind (wpAny_letGo (wpAny_pure ?_))
  refine wpAny_bind (wpAny_bind (wpAny_onRaise ?_))
  show wpAny _ _ (Builtin.SmallTypes.nextOf (.ref i3) >>= _) _ _ _
  refine wpAny_bind (sit_item p3 q3 hx3 fun u3 r3 m3 v3 => wpAny_pure ?_)
  have tt3 : IsTu u3 TO #[x1, x2, a3, a4] := m3 _ _ (by intro q; subst q; simp at nd) t2
  refine wpAny_bind (wpAny_seqItems tt3 rfl ?_)
  refine wpAny_bind (upd_tu tt3 (by simp) fun g3 t3 w3 y3 => ?_)
  replace t3 : IsTu g3 TO #[x1, x2, x3, a4] := t3
  have k3 : ∀ c o, c ≠ z → c ≠ TO → c ≠ i1 → c ≠ i2 → c ≠ i3 → s.heap.get? c = some o → g3.get? c = some o := fun c o cz cT c1 c2 c3 e => w3 _ _ cT (m3 _ _ c3 (k2 c o cz cT c1 c2 e))
  have e3 : g3.objs.size = s.heap.objs.size := by rw [y3, v3, e2]
  have hz3 : IsZip g3 z TI TO .ellipsis := w3 _ _ (by intro q; subst q; simp at nd) (m3 _ _ (by intro q; subst q; simp at nd) hz2)
  have r3' : SIt b3 g3 i3 l3 (n + 1) := r3.ext fun o q => w3 _ _ (by intro q; subst q; simp at nd) q
  replace r1' : SIt b1 g3 i1 l1 (n + 1) := r1'.ext fun o q => w3 _ _ (by intro q; subst q; simp at nd) (m3 _ _ (by intro q; subst q; simp at nd) q)
  replace r2' : SIt b2 g3 i2 l2 (n + 1) := r2'.ext fun o q => w3 _ _ (by intro q; subst q; simp at nd) (m3 _ _ (by intro q; subst q; simp at nd) q)
  replace p4 : SIt b4 g3 i4 l4 n := p4.ext fun o q => w3 _ _ (by intro q; subst q; simp at nd) (m3 _ _ (by intro q; subst q; simp at nd) q)
  replace q4 : SSq b4 g3 l4 xs4 := q4.ext fun o q => w3 _ _ (by intro q; subst q; simp at sr) (m3 _ _ (by intro q; subst q; simp at sr) q)
  refine wpAny_bind (wpAny_letGo (wpAny_pure ?_))
  refine wpAny_bind (wpAny_bind (wpAny_onRaise ?_))
  show wpAny _ _ (Builtin.SmallTypes.nextOf (.ref i4) >>= _) _ _ _
  refine wpAny_bind (sit_item p4 q4 hx4 fun u4 r4 m4 v4 => wpAny_pure ?_)
  have tt4 : IsTu u4 TO #[x1, x2, x3, a4] := m4 _ _ (by intro q; subst q; simp at nd) t3
  refine wpAny_bind (wpAny_seqItems tt4 rfl ?_)
  refine wpAny_bind (upd_tu tt4 (by simp) fun g4 t4 w4 y4 => ?_)
  replace t4 : IsTu g4 TO #[x1, x2, x3, x4] := t4
  have k4 : ∀ c o, c ≠ z → c ≠ TO → c ≠ i1 → c ≠ i2 → c ≠ i3 → c ≠ i4 → s.heap.get? c = some o → g4.get? c = some o := fun c o cz cT c1 c2 c3 c4 e => w4 _ _ cT (m4 _ _ c4 (k3 c o cz cT c1 c2 c3 e))
  have e4 : g4.objs.size = s.heap.objs.size := by rw [y4, v4, e3]
  have hz4 : IsZip g4 z TI TO .ellipsis := w4 _ _ (by intro q; subst q; simp at nd) (m4 _ _ (by intro q; subst q; simp at nd) hz3)
  have r4' : SIt b4 g4 i4 l4 (n + 1) := r4.ext fun o q => w4 _ _ (by intro q; subst q; simp at nd) q
  replace r1' : SIt b1 g4 i1 l1 (n + 1) := r1'.ext fun o q => w4 _ _ (by intro q; subst q; simp at nd) (m4 _ _ (by intro q; subst q; simp at nd) q)
  replace r2' : SIt b2 g4 i2 l2 (n + 1) := r2'.ext fun o q => w4 _ _ (by intro q; subst q; simp at nd) (m4 _ _ (by intro q; subst q; simp at nd) q)
  replace r3' : SIt b3 g4 i3 l3 (n + 1) := r3'.ext fun o q => w4 _ _ (by intro q; subst q; simp at nd) (m4 _ _ (by intro q; subst q; simp at nd) q)
  refine wpAny_bind (wpAny_letGo (wpAny_pure (wpAny_pure ?_)))
  refine wpAny_bind (wpAny_seqItems t4 rfl ?_)
  refine wpAny_bind (wpAny_newTuple ?_)
  show wpAny _ _ (Builtin.SmallTypes.ownedTupleHandOut (.ref z) (.ref g4.objs.size) >>= _) _ _ _
  refine wpAny_bind ?_
  unfold Builtin.SmallTypes.ownedTupleHandOut
  have hzlt : z < g4.objs.size := Heap.lt_size hz4
  have hz6 : IsZip (g4.push { cls := .type "tuple", data := .seq #[x1, x2, x3, x4] }) z TI TO .ellipsis := Heap.get?_push_of_some _ hz4
  refine wpAny_bind (wpAny_setField_rec hz6 (by simp) fun f7 hz7 s7 => ?_)
  replace hz7 : IsZip f7 z TI TO (rawInt g4.objs.size) := hz7
  refine wpAny_setField_rec hz7 (by simp) fun f8 hz8 s8 => ?_
  replace hz8 : IsZip f8 z TI TO (rawInt g4.objs.size) := hz8
  have up : ∀ c o, c ≠ z → g4.get? c = some o → f8.get? c = some o := fun c o c1 e => s8.extBut _ _ c1 (s7.extBut _ _ c1 (Heap.get?_push_of_some _ e))
  have hT8 : IsTu f8 g4.objs.size #[x1, x2, x3, x4] := s8.extBut _ _ (Nat.ne_of_gt hzlt) (s7.extBut _ _ (Nat.ne_of_gt hzlt) (Heap.get?_push_size _ rfl))
  have z8 : f8.objs.size = g4.objs.size + 1 := by rw [s8.1, s7.1, Heap.size_push]
  rw [e4] at hz8 hT8 z8
  refine wpAny_pure ⟨_, rfl, ?_⟩
  show Q (.ref g4.objs.size) _
  rw [e4]
  refine hQ f8 hz8 (up _ _ (by intro q; subst q; simp at nd) t4) (r1'.ext fun o q => up _ _ (by intro q; subst q; simp at nd) q) (r2'.ext fun o q => up _ _ (by intro q; subst q; simp at nd) q) (r3'.ext fun o q => up _ _ (by intro q; subst q; simp at nd) q) (r4'.ext fun o q => up _ _ (by intro q; subst q; simp at nd) q) hT8 z8 fun c o hc e => up c o (nz c hc) (k4 c o (nz c hc) (fun q => hc (by simp [q])) (fun q => hc (by simp [q])) (fun q => hc (by simp [q])) (fun q => hc (by simp [q])) (fun q => hc (by simp [q])) e)
theorem zip4_end {z TI TO i1 i2 i3 i4 l1 l2 l3 l4 : Addr} {b1 b2 b3 b4 : Bool} {n : Nat} {xs1 xs2 xs3 xs4 : Array Value} {a1 a2 a3 a4 : Value} {Q : Fin → Shared → Prop} (hh : A.handled = none) (nd : [z, TI, TO, i1, i2, i3, i4].Nodup) (sr : ∀ l ∈ [l1, l2, l3, l4], l ∉ [z, TI, TO, i1, i2, i3, i4])
    (hz : IsZip s.heap z TI TO .none) (hTI : IsTu s.heap TI #[.ref i1, .ref i2, .ref i3, .ref i4]) (hTO : IsTu s.heap TO #[a1, a2, a3, a4]) (h1 : SIt b1 s.heap i1 l1 n) (hl1 : SSq b1 s.heap l1 xs1) (h2 : SIt b2 s.heap i2 l2 n) (hl2 : SSq b2 s.heap l2 xs2) (h3 : SIt b3 s.heap i3 l3 n) (hl3 : SSq b3 s.heap l3 xs3) (h4 : SIt b4 s.heap i4 l4 n) (hl4 : SSq b4 s.heap l4 xs4) (hend : xs1[n]? = none ∨ xs2[n]? = none ∨ xs3[n]? = none ∨ xs4[n]? = none)
    (hE : ∀ h' e, (∀ c o, c ∉ [z, TO, i1, i2, i3, i4] → s.heap.get? c = some o → h'.get? c = some o) → (∃ o, h'.get? e = some o ∧ o.cls = .type "StopIteration") → E (.ref e) { s with heap := h' }) :
    wpAny (model prog w) A (Builtin.«zip.__next__» ⟨[.ref z], []⟩) Q E s := by
  have nz : ∀ c, c ∉ [z, TO, i1, i2, i3, i4] → c ≠ z := fun c h q => h (by simp [q])
  show wpAny _ _ (field (.ref z) 2 >>= _) _ _ _
  refine wpAny_bind (wpAny_field hz rfl (x := .bool false) rfl ?_)
  show wpAny _ _ (field (.ref z) 3 >>= _) _ _ _
  refine wpAny_bind (wpAny_field hz rfl (x := .ref TI) rfl ?_)
  refine wpAny_bind (wpAny_seqItems hTI rfl ?_)
  show wpAny _ _ (Builtin.SmallTypes.ownedTupleIsFree (.ref z) >>= _) _ _ _
  refine wpAny_bind ?_
  unfold Builtin.SmallTypes.ownedTupleIsFree
  refine wpAny_bind (wpAny_field hz rfl (x := .none) rfl (wpAny_pure ?_))
  simp only [if_true]
  refine wpAny_bind (wpAny_rule ?_)
  refine wpAny_bind (wpAny_field hz rfl (x := .ref TO) rfl ?_)
  refine wpAny_bind (wpAny_setField_rec hz (by simp) fun g0 hz0 sb0 => ?_)
  replace hz0 : IsZip g0 z TI TO .ellipsis := hz0
  have k0 : ∀ c o, c ≠ z → s.heap.get? c = some o → g0.get? c = some o := sb0.extBut
  have t0 : IsTu g0 TO #[a1, a2, a3, a4] := k0 _ _ (by intro q; subst q; simp at nd) hTO
  refine wpAny_bind ?_
  simp only [List.zipIdx_cons, List.zipIdx_nil, List.forIn_cons, List.forIn_nil]
  have p1 : SIt b1 g0 i1 l1 n := h1.ext fun o q => k0 _ _ (by intro q; subst q; simp at nd) q
  have q1 : SSq b1 g0 l1 xs1 := hl1.ext fun o q => k0 _ _ (by intro q; subst q; simp at sr) q
  have p2 : SIt b2 g0 i2 l2 n := h2.ext fun o q => k0 _ _ (by intro q; subst q; simp at nd) q
  have q2 : SSq b2 g0 l2 xs2 := hl2.ext fun o q => k0 _ _ (by intro q; subst q; simp at sr) q
  have p3 : SIt b3 g0 i3 l3 n := h3.ext fun o q => k0 _ _ (by intro q; subst q; simp at nd) q
  have q3 : SSq b3 g0 l3 xs3 := hl3.ext fun o q => k0 _ _ (by intro q; subst q; simp at sr) q
  have p4 : SIt b4 g0 i4 l4 n := h4.ext fun o q => k0 _ _ (by intro q; subst q; simp at nd) q
  have q4 : SSq b4 g0 l4 xs4 := hl4.ext fun o q => k0 _ _ (by intro q; subst q; simp at sr) q
  refine wpAny_bind (wpAny_bind (wpAny_onRaise ?_))
  show wpAny _ _ (Builtin.SmallTypes.nextOf (.ref i1) >>= _) _ _ _
  cases hx1 : xs1[n]? with
  | none =>
    refine wpAny_bind (sit_end hh p1 q1 hx1 fun f e kf he => ?_)
    obtain ⟨oe, hoe, hce⟩ := he
    have hzf : IsZip f z TI TO .ellipsis := kf _ _ (by intro q; subst q; simp at nd) hz0
    have hez : e ≠ z := fun q => by subst q; rw [hzf] at hoe; cases hoe; simp at hce
    exact wpAny_setField_rec hzf (by simp) fun f3 _ s3 => hE f3 e (fun c o hc x => s3.extBut _ _ (nz c hc) (kf _ _ (fun q => hc (by simp [q])) (k0 c o (nz c hc)  x))) ⟨oe, s3.extBut _ _ hez hoe, hce⟩
  | some x1 =>
    refine wpAny_bind (sit_item p1 q1 hx1 fun u1 r1 m1 v1 => wpAny_pure ?_)
    have tt1 : IsTu u1 TO #[a1, a2, a3, a4] := m1 _ _ (by intro q; subst q; simp at nd) t0
    refine wpAny_bind (wpAny_seqItems tt1 rfl ?_)
    refine wpAny_bind (upd_tu tt1 (by simp) fun g1 t1 w1 y1 => ?_)
    replace t1 : IsTu g1 TO #[x1, a2, a3, a4] := t1
    have k1 : ∀ c o, c ≠ z → c ≠ TO → c ≠ i1 → s.heap.get? c = some o → g1.get? c = some o := fun c o cz cT c1 e => w1 _ _ cT (m1 _ _ c1 (k0 c o cz  e))
    have hz1 : IsZip g1 z TI TO .ellipsis := w1 _ _ (by intro q; subst q; simp at nd) (m1 _ _ (by intro q; subst q; simp at nd) hz0)
    replace p2 : SIt b2 g1 i2 l2 n := p2.ext fun o q => w1 _ _ (by intro q; subst q; simp at nd) (m1 _ _ (by intro q; subst q; simp at nd) q)
    replace q2 : SSq b2 g1 l2 xs2 := q2.ext fun o q => w1 _ _ (by intro q; subst q; simp at sr) (m1 _ _ (by intro q; subst q; simp at sr) q)
    replace p3 : SIt b3 g1 i3 l3 n := p3.ext fun o q => w1 _ _ (by intro q; subst q; simp at nd) (m1 _ _ (by intro q; subst q; simp at nd) q)
    replace q3 : SSq b3 g1 l3 xs3 := q3.ext fun o q => w1 _ _ (by intro q; subst q; simp at sr) (m1 _ _ (by intro q; subst q; simp at sr) q)
    replace p4 : SIt b4 g1 i4 l4 n := p4.ext fun o q => w1 _ _ (by intro q; subst q; simp at nd) (m1 _ _ (by intro q; subst q; simp at nd) q)
    replace q4 : SSq b4 g1 l4 xs4 := q4.ext fun o q => w1 _ _ (by intro q; subst q; simp at sr) (m1 _ _ (by intro q; subst q; simp at sr) q)
    refine wpAny_bind (wpAny_letGo (wpAny_pure ?_))
    refine wpAny_bind (wpAny_bind (wpAny_onRaise ?_))
    show wpAny _ _ (Builtin.SmallTypes.nextOf (.ref i2) >>= _) _ _ _
    cases hx2 : xs2[n]? with
    | none =>
      refine wpAny_bind (sit_end hh p2 q2 hx2 fun f e kf he => ?_)
      obtain ⟨oe, hoe, hce⟩ := he
      have hzf : IsZip f z TI TO .ellipsis := kf _ _ (by intro q; subst q; simp at nd) hz1
      have hez : e ≠ z := fun q => by subst q; rw [hzf] at hoe; cases hoe; simp at hce
      exact wpAny_setField_rec hzf (by simp) fun f3 _ s3 => hE f3 e (fun c o hc x => s3.extBut _ _ (nz c hc) (kf _ _ (fun q => hc (by simp [q])) (k1 c o (nz c hc) (fun q => hc (by simp [q])) (fun q => hc (by simp [q])) x))) ⟨oe, s3.extBut _ _ hez hoe, hce⟩
    | some x2 =>
      refine wpAny_bind (sit_item p2 q2 hx2 fun u2 r2 m2 v2 => wpAny_pure ?_)
      have tt2 : IsTu u2 TO #[x1, a2, a3, a4] := m2 _ _ (by intro q; subst q; simp at nd) t1
      refine wpAny_bind (wpAny_seqItems tt2 rfl ?_)
      refine wpAny_bind (upd_tu tt2 (by simp) fun g2 t2 w2 y2 => ?_)
      replace t2 : IsTu g2 TO #[x1, x2, a3, a4] := t2
      have k2 : ∀ c o, c ≠ z → c ≠ TO → c ≠ i1 → c ≠ i2 → s.heap.get? c = some o → g2.get? c = some o := fun c o cz cT c1 c2 e => w2 _ _ cT (m2 _ _ c2 (k1 c o cz cT c1 e))
      have hz2 : IsZip g2 z TI TO .ellipsis := w2 _ _ (by intro q; subst q; simp at nd) (m2 _ _ (by intro q; subst q; simp at nd) hz1)
      replace p3 : SIt b3 g2 i3 l3 n := p3.ext fun o q => w2 _ _ (by intro q; subst q; simp at nd) (m2 _ _ (by intro q; subst q; simp at nd) q)
      replace q3 : SSq b3 g2 l3 xs3 := q3.ext fun o q => w2 _ _ (by intro q; subst q; simp at sr) (m2 _ _ (by intro q; subst q; simp at sr) q)
      replace p4 : SIt b4 g2 i4 l4 n := p4.ext fun o q => w2 _ _ (by intro q; subst q; simp at nd) (m2 _ _ (by intro q; subst q; simp at nd) q)
      replace q4 : SSq b4 g2 l4 xs4 := q4.ext fun o q => w2 _ _ (by intro q; subst q; simp at sr) (m2 _ _ (by intro q; subst q; simp at sr) q)
      refine wpAny_bind (wpAny_letGo (wpAny_pure ?_))
      refine wpAny_bind (wpAny_bind (wpAny_onRaise ?_))
      show wpAny _ _ (Builtin.SmallTypes.nextOf (.ref i3) >>= _) _ _ _
      cases hx3 : xs3[n]? with
      | none =>
        refine wpAny_bind (sit_end hh p3 q3 hx3 fun f e kf he => ?_)
        obtain ⟨oe, hoe, hce⟩ := he
        have hzf : IsZip f z TI TO .ellipsis := kf _ _ (by intro q; subst q; simp at nd) hz2
        have hez : e ≠ z := fun q => by subst q; rw [hzf] at hoe; cases hoe; simp at hce
        exact wpAny_setField_rec hzf (by simp) fun f3 _ s3 => hE f3 e (fun c o hc x => s3.extBut _ _ (nz c hc) (kf _ _ (fun q => hc (by simp [q])) (k2 c o (nz c hc) (fun q => hc (by simp [q])) (fun q => hc (by simp [q])) (fun q => hc (by simp [q])) x))) ⟨oe, s3.extBut _ _ hez hoe, hce⟩
      | some x3 =>
        refine wpAny_bind (sit_item p3 q3 hx3 fun u3 r3 m3 v3 => wpAny_pure ?_)
        have tt3 : IsTu u3 TO #[x1, x2, a3, a4] := m3 _ _ (by intro q; subst q; simp at nd) t2
        refine wpAny_bind (wpAny_seqItems tt3 rfl ?_)
        refine wpAny_bind (upd_tu tt3 (by simp) fun g3 t3 w3 y3 => ?_)
        replace t3 : IsTu g3 TO #[x1, x2, x3, a4] := t3
        have k3 : ∀ c o, c ≠ z → c ≠ TO → c ≠ i1 → c ≠ i2 → c ≠ i3 → s.heap.get? c = some o → g3.get? c = some o := fun c o cz cT c1 c2 c3 e => w3 _ _ cT (m3 _ _ c3 (k2 c o cz cT c1 c2 e))
        have hz3 : IsZip g3 z TI TO .ellipsis := w3 _ _ (by intro q; subst q; simp at nd) (m3 _ _ (by intro q; subst q; simp at nd) hz2)
        replace p4 : SIt b4 g3 i4 l4 n := p4.ext fun o q => w3 _ _ (by intro q; subst q; simp at nd) (m3 _ _ (by intro q; subst q; simp at nd) q)
        replace q4 : SSq b4 g3 l4 xs4 := q4.ext fun o q => w3 _ _ (by intro q; subst q; simp at sr) (m3 _ _ (by intro q; subst q; simp at sr) q)
        refine wpAny_bind (wpAny_letGo (wpAny_pure ?_))
        refine wpAny_bind (wpAny_bind (wpAny_onRaise ?_))
        show wpAny _ _ (Builtin.SmallTypes.nextOf (.ref i4) >>= _) _ _ _
        cases hx4 : xs4[n]? with
        | none =>
          refine wpAny_bind (sit_end hh p4 q4 hx4 fun f e kf he => ?_)
          obtain ⟨oe, hoe, hce⟩ := he
          have hzf : IsZip f z TI TO .ellipsis := kf _ _ (by intro q; subst q; simp at nd) hz3
          have hez : e ≠ z := fun q => by subst q; rw [hzf] at hoe; cases hoe; simp at hce
          exact wpAny_setField_rec hzf (by simp) fun f3 _ s3 => hE f3 e (fun c o hc x => s3.extBut _ _ (nz c hc) (kf _ _ (fun q => hc (by simp [q])) (k3 c o (nz c hc) (fun q => hc (by simp [q])) (fun q => hc (by simp [q])) (fun q => hc (by simp [q])) (fun q => hc (by simp [q])) x))) ⟨oe, s3.extBut _ _ hez hoe, hce⟩
        | some x4 =>
          exfalso
          rcases hend with h | h | h | h <;> simp_all
end
end KZ

namespace KZ
open PySem PySem.Spec PyProof.Rows L2
open PySem.Sem (wp)
abbrev itO (b : Bool) (l : Addr) : Obj := match b with
  | true => { cls := .type "tuple_iterator", data := .fields #[.ref l, .int 0 0] }
  | false => { cls := .type "list_iterator", data := .fields #[.ref l, .int 0 0] }
section
variable {prog : Program} {w : World} {A : Around} {E : Value → Shared → Prop} {s : Shared}
theorem sit_iter {b : Bool} {l : Addr} {xs : Array Value} {Q : Value → Shared → Prop} (h : SSq b s.heap l xs) (hQ : Q (.ref s.heap.objs.size) { s with heap := s.heap.push (itO b l) }) : wpAny (model prog w) A (pyIter (.ref l)) Q E s := by
  cases b with
  | true => exact wpAny_pyIter_tuple h hQ
  | false => exact wpAny_pyIter_list h hQ
theorem SSq.push {b : Bool} {h : Heap} {l : Addr} {xs : Array Value} (x : SSq b h l xs) (o : Obj) : SSq b (h.push o) l xs := x.ext fun _ q => Heap.get?_push_of_some _ q
theorem sit_new {b : Bool} {h' : Heap} {it l : Addr} (e : h'.get? it = some (itO b l)) : SIt b h' it l 0 := by
  cases b <;> exact ⟨_, e, rfl, rfl⟩

theorem zip2_nx {z TI TO i1 i2 l1 l2 : Addr} {b1 b2 : Bool} {n : Nat} {xs1 xs2 : Array Value} {a1 a2 : Value} {x1 x2 : Value} {Q : Option Value → Shared → Prop} (nd : [z, TI, TO, i1, i2].Nodup) (sr : ∀ l ∈ [l1, l2], l ∉ [z, TI, TO, i1, i2])
    (hz : IsZip s.heap z TI TO .none) (hTI : IsTu s.heap TI #[.ref i1, .ref i2]) (hTO : IsTu s.heap TO #[a1, a2]) (h1 : SIt b1 s.heap i1 l1 n) (hl1 : SSq b1 s.heap l1 xs1) (h2 : SIt b2 s.heap i2 l2 n) (hl2 : SSq b2 s.heap l2 xs2) (hx1 : xs1[n]? = some x1) (hx2 : xs2[n]? = some x2)
    (hQ : ∀ h', IsZip h' z TI TO (rawInt s.heap.objs.size) → IsTu h' TO #[x1, x2] → SIt b1 h' i1 l1 (n + 1) → SIt b2 h' i2 l2 (n + 1) → IsTu h' s.heap.objs.size #[x1, x2] → h'.objs.size = s.heap.objs.size + 1 → (∀ c o, c ∉ [z, TO, i1, i2] → s.heap.get? c = some o → h'.get? c = some o) → Q (some (.ref s.heap.objs.size)) { s with heap := h' }) :
    wpAny (model prog w) A (pyNext (.ref z)) Q E s := by
  have hT : s.TypeIs (.ref z) "zip" := ⟨_, hz, rfl⟩
  unfold pyNext
  exact wpAny_bind (wpAny_attempt (wpAny_callSpecial?_slot (name := Str.ofString "__next__") hT F.slot_zip_next
    (wpAny_call_entry F.slot_zip_next hT F.entry_zip_next (zip2_item nd sr hz hTI hTO h1 hl1 h2 hl2 hx1 hx2 fun h' q0 q1 q2 q3 q4 q5 q6 => wpAny_pure (hQ h' q0 q1 q2 q3 q4 q5 q6)) (F.args_zip_next_1 _))))
theorem zip2_nxe {z TI TO i1 i2 l1 l2 : Addr} {b1 b2 : Bool} {n : Nat} {xs1 xs2 : Array Value} {a1 a2 : Value} {Q : Option Value → Shared → Prop} (hh : A.handled = none) (nd : [z, TI, TO, i1, i2].Nodup) (sr : ∀ l ∈ [l1, l2], l ∉ [z, TI, TO, i1, i2])
    (hz : IsZip s.heap z TI TO .none) (hTI : IsTu s.heap TI #[.ref i1, .ref i2]) (hTO : IsTu s.heap TO #[a1, a2]) (h1 : SIt b1 s.heap i1 l1 n) (hl1 : SSq b1 s.heap l1 xs1) (h2 : SIt b2 s.heap i2 l2 n) (hl2 : SSq b2 s.heap l2 xs2) (hend : xs1[n]? = none ∨ xs2[n]? = none)
    (hQ : ∀ h', (∀ c o, c ∉ [z, TO, i1, i2] → s.heap.get? c = some o → h'.get? c = some o) → Q none { s with heap := h' }) : wpAny (model prog w) A (pyNext (.ref z)) Q E s := by
  have hT : s.TypeIs (.ref z) "zip" := ⟨_, hz, rfl⟩
  unfold pyNext
  refine wpAny_bind (wpAny_attempt (wpAny_callSpecial?_slot (name := Str.ofString "__next__") hT F.slot_zip_next
    (wpAny_call_entry F.slot_zip_next hT F.entry_zip_next (zip2_end hh nd sr hz hTI hTO h1 hl1 h2 hl2 hend fun h' e hk he => ?_) (F.args_zip_next_1 _))))
  obtain ⟨o, ho, hc⟩ := he
  refine wpAny_bind (wpAny_isInstance (T := "StopIteration") (b := true) ⟨o, ho, hc⟩ isSubtype_stop ?_)
  exact wpAny_pure (hQ _ hk)
abbrev y2H0 (h : Heap) : Heap := h
abbrev y2I1 (h : Heap) (b1 : Bool) (b2 : Bool) (l1 : Addr) (l2 : Addr) : Heap := h.push (itO b1 l1)
abbrev y2I2 (h : Heap) (b1 : Bool) (b2 : Bool) (l1 : Addr) (l2 : Addr) : Heap := (y2I1 h b1 b2 l1 l2).push (itO b2 l2)
abbrev y2T (h : Heap) (b1 : Bool) (b2 : Bool) (l1 : Addr) (l2 : Addr) : Heap := (y2I2 h b1 b2 l1 l2).push { cls := .type "tuple", data := .seq #[.ref h.objs.size, .ref (y2I1 h b1 b2 l1 l2).objs.size] }
abbrev y2O (h : Heap) (b1 : Bool) (b2 : Bool) (l1 : Addr) (l2 : Addr) : Heap := (y2T h b1 b2 l1 l2).push { cls := .type "tuple", data := .seq #[.none, .none] }
abbrev y2Z (h : Heap) (b1 : Bool) (b2 : Bool) (l1 : Addr) (l2 : Addr) : Heap := (y2O h b1 b2 l1 l2).push { cls := .type "zip", data := .fields #[.none, .bool false, .bool false, .ref (y2I2 h b1 b2 l1 l2).objs.size, .ref (y2T h b1 b2 l1 l2).objs.size] }
theorem meets_zip2 (b1 : Bool) (b2 : Bool) (l1 : Addr) (l2 : Addr) {xs1 xs2 : Array Value} :
    Meets (Builtin.«zip.__new__» ⟨[.type "zip", .ref l1, .ref l2], []⟩) (fun _ R s => SSq b1 s.heap l1 xs1 ∧ SSq b2 s.heap l2 xs2 ∧
      R (.ok (.ret (.ref (y2O s.heap b1 b2 l1 l2).objs.size))) { s with heap := y2Z s.heap b1 b2 l1 l2 }) :=
  .of_wp fun prog w A R s h => by
    obtain ⟨hp, g, d, tk, os⟩ := s
    obtain ⟨hl1, hl2, h⟩ := h
    have hsub := sub_zip
    have hL1 : SSq b1 (Shared.heap ⟨hp, g, d, tk, os⟩) l1 xs1 := hl1
    have hL2 : SSq b2 (Shared.heap ⟨y2I1 hp b1 b2 l1 l2, g, d, tk, os⟩) l2 xs2 := (hl2).push _
    wp_walk using sit_iter hL1, sit_iter hL2
    exact ⟨_, rfl, h⟩
theorem tc_zip2 (x1 x2 : Value) : checkTypeCall "zip" ⟨[x1, x2], []⟩ = pure () := by kernel_rfl
theorem nc_zip2 (x1 x2 : Value) : checkBuiltinCall "zip.__new__" ⟨[.type "zip", x1, x2], []⟩ = pure () := by kernel_rfl
theorem ao_zip2 (o x1 x2 : Value) : argsOk "object.__init__" ⟨[o, x1, x2], []⟩ := by unfold argsOk; kernel_rfl
theorem call_zip2 {l1 l2 : Addr} {b1 b2 : Bool} {xs1 xs2 : Array Value} {Q : Value → Shared → Prop} (hl1 : SSq b1 s.heap l1 xs1) (hl2 : SSq b2 s.heap l2 xs2)
    (h : ∀ h', IsZip h' (s.heap.objs.size + 4) (s.heap.objs.size + 2) (s.heap.objs.size + 3) .none → IsTu h' (s.heap.objs.size + 2) #[.ref s.heap.objs.size, .ref (s.heap.objs.size + 1)] → IsTu h' (s.heap.objs.size + 3) #[.none, .none] → SIt b1 h' s.heap.objs.size l1 0 → SIt b2 h' (s.heap.objs.size + 1) l2 0 → (∀ c o, s.heap.get? c = some o → h'.get? c = some o) → Q (.ref (s.heap.objs.size + 4)) { s with heap := h' }) :
    wpAny (model prog w) A (call (.type "zip") [.ref l1, .ref l2]) Q E s := by
  refine callType_new F.called_zip (by decide) (tc_zip2 _ _) (nc_zip2 _ _) (fun obj => ao_zip2 obj _ _) F.entry_zip_new (meets_zip2 _ _ _ _) ⟨hl1, hl2, ?_⟩
  have z1 : (y2I1 s.heap b1 b2 l1 l2).objs.size = s.heap.objs.size + 1 := Heap.size_push ..
  have z2 : (y2I2 s.heap b1 b2 l1 l2).objs.size = s.heap.objs.size + 2 := by rw [Heap.size_push, z1]
  have zT : (y2T s.heap b1 b2 l1 l2).objs.size = s.heap.objs.size + 3 := by rw [Heap.size_push, z2]
  have zO : (y2O s.heap b1 b2 l1 l2).objs.size = s.heap.objs.size + 4 := by rw [Heap.size_push, zT]
  have gz : (y2Z s.heap b1 b2 l1 l2).get? (y2O s.heap b1 b2 l1 l2).objs.size = some _ := Heap.get?_push_size _ rfl
  have gO : (y2Z s.heap b1 b2 l1 l2).get? (y2T s.heap b1 b2 l1 l2).objs.size = some _ := Heap.get?_push_of_some _ (Heap.get?_push_size _ rfl)
  have gT : (y2Z s.heap b1 b2 l1 l2).get? (y2I2 s.heap b1 b2 l1 l2).objs.size = some _ := Heap.get?_push_of_some _ (Heap.get?_push_of_some _ (Heap.get?_push_size _ rfl))
  have gi1 : (y2Z s.heap b1 b2 l1 l2).get? s.heap.objs.size = some (itO b1 l1) := by
    cases b1 <;> exact Heap.get?_push_of_some _ (Heap.get?_push_of_some _ (Heap.get?_push_of_some _ (Heap.get?_push_of_some _ (Heap.get?_push_size _ rfl))))
  have gi2 : (y2Z s.heap b1 b2 l1 l2).get? (y2I1 s.heap b1 b2 l1 l2).objs.size = some (itO b2 l2) := by
    cases b2 <;> exact Heap.get?_push_of_some _ (Heap.get?_push_of_some _ (Heap.get?_push_of_some _ (Heap.get?_push_size _ rfl)))
  show _ ∧ _
  rw [z2, zT, zO] at gz
  rw [z1, z2] at gT
  rw [zT] at gO
  rw [z1] at gi2
  rw [zO]
  exact ⟨⟨_, gz, rfl⟩, h _ gz gT gO (sit_new gi1) (sit_new gi2) fun c o x => Heap.get?_push_of_some _ (Heap.get?_push_of_some _ (Heap.get?_push_of_some _ (Heap.get?_push_of_some _ (Heap.get?_push_of_some _ x))))⟩
theorem zip3_nx {z TI TO i1 i2 i3 l1 l2 l3 : Addr} {b1 b2 b3 : Bool} {n : Nat} {xs1 xs2 xs3 : Array Value} {a1 a2 a3 : Value} {x1 x2 x3 : Value} {Q : Option Value → Shared → Prop} (nd : [z, TI, TO, i1, i2, i3].Nodup) (sr : ∀ l ∈ [l1, l2, l3], l ∉ [z, TI, TO, i1, i2, i3])
    (hz : IsZip s.heap z TI TO .none) (hTI : IsTu s.heap TI #[.ref i1, .ref i2, .ref i3]) (hTO : IsTu s.heap TO #[a1, a2, a3]) (h1 : SIt b1 s.heap i1 l1 n) (hl1 : SSq b1 s.heap l1 xs1) (h2 : SIt b2 s.heap i2 l2 n) (hl2 : SSq b2 s.heap l2 xs2) (h3 : SIt b3 s.heap i3 l3 n) (hl3 : SSq b3 s.heap l3 xs3) (hx1 : xs1[n]? = some x1) (hx2 : xs2[n]? = some x2) (hx3 : xs3[n]? = some x3)
    (hQ : ∀ h', IsZip h' z TI TO (rawInt s.heap.objs.size) → IsTu h' TO #[x1, x2, x3] → SIt b1 h' i1 l1 (n + 1) → SIt b2 h' i2 l2 (n + 1) → SIt b3 h' i3 l3 (n + 1) → IsTu h' s.heap.objs.size #[x1, x2, x3] → h'.objs.size = s.heap.objs.size + 1 → (∀ c o, c ∉ [z, TO, i1, i2, i3] → s.heap.get? c = some o → h'.get? c = some o) → Q (some (.ref s.heap.objs.size)) { s with heap := h' }) :
    wpAny (model prog w) A (pyNext (.ref z)) Q E s := by
  have hT : s.TypeIs (.ref z) "zip" := ⟨_, hz, rfl⟩
  unfold pyNext
  exact wpAny_bind (wpAny_attempt (wpAny_callSpecial?_slot (name := Str.ofString "__next__") hT F.slot_zip_next
    (wpAny_call_entry F.slot_zip_next hT F.entry_zip_next (zip3_item nd sr hz hTI hTO h1 hl1 h2 hl2 h3 hl3 hx1 hx2 hx3 fun h' q0 q1 q2 q3 q4 q5 q6 q7 => wpAny_pure (hQ h' q0 q1 q2 q3 q4 q5 q6 q7)) (F.args_zip_next_1 _))))
theorem zip3_nxe {z TI TO i1 i2 i3 l1 l2 l3 : Addr} {b1 b2 b3 : Bool} {n : Nat} {xs1 xs2 xs3 : Array Value} {a1 a2 a3 : Value} {Q : Option Value → Shared → Prop} (hh : A.handled = none) (nd : [z, TI, TO, i1, i2, i3].Nodup) (sr : ∀ l ∈ [l1, l2, l3], l ∉ [z, TI, TO, i1, i2, i3])
    (hz : IsZip s.heap z TI TO .none) (hTI : IsTu s.heap TI #[.ref i1, .ref i2, .ref i3]) (hTO : IsTu s.heap TO #[a1, a2, a3]) (h1 : SIt b1 s.heap i1 l1 n) (hl1 : SSq b1 s.heap l1 xs1) (h2 : SIt b2 s.heap i2 l2 n) (hl2 : SSq b2 s.heap l2 xs2) (h3 : SIt b3 s.heap i3 l3 n) (hl3 : SSq b3 s.heap l3 xs3) (hend : xs1[n]? = none ∨ xs2[n]? = none ∨ xs3[n]? = none)
    (hQ : ∀ h', (∀ c o, c ∉ [z, TO, i1, i2, i3] → s.heap.get? c = some o → h'.get? c = some o) → Q none { s with heap := h' }) : wpAny (model prog w) A (pyNext (.ref z)) Q E s := by
  have hT : s.TypeIs (.ref z) "zip" := ⟨_, hz, rfl⟩
  unfold pyNext
  refine wpAny_bind (wpAny_attempt (wpAny_callSpecial?_slot (name := Str.ofString "__next__") hT F.slot_zip_next
    (wpAny_call_entry F.slot_zip_next hT F.entry_zip_next (zip3_end hh nd sr hz hTI hTO h1 hl1 h2 hl2 h3 hl3 hend fun h' e hk he => ?_) (F.args_zip_next_1 _))))
  obtain ⟨o, ho, hc⟩ := he
  refine wpAny_bind (wpAny_isInstance (T := "StopIteration") (b := true) ⟨o, ho, hc⟩ isSubtype_stop ?_)
  exact wpAny_pure (hQ _ hk)
abbrev y3H0 (h : Heap) : Heap := h
abbrev y3I1 (h : Heap) (b1 : Bool) (b2 : Bool) (b3 : Bool) (l1 : Addr) (l2 : Addr) (l3 : Addr) : Heap := h.push (itO b1 l1)
abbrev y3I2 (h : Heap) (b1 : Bool) (b2 : Bool) (b3 : Bool) (l1 : Addr) (l2 : Addr) (l3 : Addr) : Heap := (y3I1 h b1 b2 b3 l1 l2 l3).push (itO b2 l2)
abbrev y3I3 (h : Heap) (b1 : Bool) (b2 : Bool) (b3 : Bool) (l1 : Addr) (l2 : Addr) (l3 : Addr) : Heap := (y3I2 h b1 b2 b3 l1 l2 l3).push (itO b3 l3)
abbrev y3T (h : Heap) (b1 : Bool) (b2 : Bool) (b3 : Bool) (l1 : Addr) (l2 : Addr) (l3 : Addr) : Heap := (y3I3 h b1 b2 b3 l1 l2 l3).push { cls := .type "tuple", data := .seq #[.ref h.objs.size, .ref (y3I1 h b1 b2 b3 l1 l2 l3).objs.size, .ref (y3I2 h b1 b2 b3 l1 l2 l3).objs.size] }
abbrev y3O (h : Heap) (b1 : Bool) (b2 : Bool) (b3 : Bool) (l1 : Addr) (l2 : Addr) (l3 : Addr) : Heap := (y3T h b1 b2 b3 l1 l2 l3).push { cls := .type "tuple", data := .seq #[.none, .none, .none] }
abbrev y3Z (h : Heap) (b1 : Bool) (b2 : Bool) (b3 : Bool) (l1 : Addr) (l2 : Addr) (l3 : Addr) : Heap := (y3O h b1 b2 b3 l1 l2 l3).push { cls := .type "zip", data := .fields #[.none, .bool false, .bool false, .ref (y3I3 h b1 b2 b3 l1 l2 l3).objs.size, .ref (y3T h b1 b2 b3 l1 l2 l3).objs.size] }
theorem meets_zip3 (b1 : Bool) (b2 : Bool) (b3 : Bool) (l1 : Addr) (l2 : Addr) (l3 : Addr) {xs1 xs2 xs3 : Array Value} :
    Meets (Builtin.«zip.__new__» ⟨[.type "zip", .ref l1, .ref l2, .ref l3], []⟩) (fun _ R s => SSq b1 s.heap l1 xs1 ∧ SSq b2 s.heap l2 xs2 ∧ SSq b3 s.heap l3 xs3 ∧
      R (.ok (.ret (.ref (y3O s.heap b1 b2 b3 l1 l2 l3).objs.size))) { s with heap := y3Z s.heap b1 b2 b3 l1 l2 l3 }) :=
  .of_wp fun prog w A R s h => by
    obtain ⟨hp, g, d, tk, os⟩ := s
    obtain ⟨hl1, hl2, hl3, h⟩ := h
    have hsub := sub_zip
    have hL1 : SSq b1 (Shared.heap ⟨hp, g, d, tk, os⟩) l1 xs1 := hl1
    have hL2 : SSq b2 (Shared.heap ⟨y3I1 hp b1 b2 b3 l1 l2 l3, g, d, tk, os⟩) l2 xs2 := (hl2).push _
    have hL3 : SSq b3 (Shared.heap ⟨y3I2 hp b1 b2 b3 l1 l2 l3, g, d, tk, os⟩) l3 xs3 := ((hl3).push _).push _
    wp_walk using sit_iter hL1, sit_iter hL2, sit_iter hL3
    exact ⟨_, rfl, h⟩
theorem tc_zip3 (x1 x2 x3 : Value) : checkTypeCall "zip" ⟨[x1, x2, x3], []⟩ = pure () := by kernel_rfl
theorem nc_zip3 (x1 x2 x3 : Value) : checkBuiltinCall "zip.__new__" ⟨[.type "zip", x1, x2, x3], []⟩ = pure () := by kernel_rfl
theorem ao_zip3 (o x1 x2 x3 : Value) : argsOk "object.__init__" ⟨[o, x1, x2, x3], []⟩ := by unfold argsOk; kernel_rfl
theorem call_zip3 {l1 l2 l3 : Addr} {b1 b2 b3 : Bool} {xs1 xs2 xs3 : Array Value} {Q : Value → Shared → Prop} (hl1 : SSq b1 s.heap l1 xs1) (hl2 : SSq b2 s.heap l2 xs2) (hl3 : SSq b3 s.heap l3 xs3)
    (h : ∀ h', IsZip h' (s.heap.objs.size + 5) (s.heap.objs.size + 3) (s.heap.objs.size + 4) .none → IsTu h' (s.heap.objs.size + 3) #[.ref s.heap.objs.size, .ref (s.heap.objs.size + 1), .ref (s.heap.objs.size + 2)] → IsTu h' (s.heap.objs.size + 4) #[.none, .none, .none] → SIt b1 h' s.heap.objs.size l1 0 → SIt b2 h' (s.heap.objs.size + 1) l2 0 → SIt b3 h' (s.heap.objs.size + 2) l3 0 → (∀ c o, s.heap.get? c = some o → h'.get? c = some o) → Q (.ref (s.heap.objs.size + 5)) { s with heap := h' }) :
    wpAny (model prog w) A (call (.type "zip") [.ref l1, .ref l2, .ref l3]) Q E s := by
  refine callType_new F.called_zip (by decide) (tc_zip3 _ _ _) (nc_zip3 _ _ _) (fun obj => ao_zip3 obj _ _ _) F.entry_zip_new (meets_zip3 _ _ _ _ _ _) ⟨hl1, hl2, hl3, ?_⟩
  have z1 : (y3I1 s.heap b1 b2 b3 l1 l2 l3).objs.size = s.heap.objs.size + 1 := Heap.size_push ..
  have z2 : (y3I2 s.heap b1 b2 b3 l1 l2 l3).objs.size = s.heap.objs.size + 2 := by rw [Heap.size_push, z1]
  have z3 : (y3I3 s.heap b1 b2 b3 l1 l2 l3).objs.size = s.heap.objs.size + 3 := by rw [Heap.size_push, z2]
  have zT : (y3T s.heap b1 b2 b3 l1 l2 l3).objs.size = s.heap.objs.size + 4 := by rw [Heap.size_push, z3]
  have zO : (y3O s.heap b1 b2 b3 l1 l2 l3).objs.size = s.heap.objs.size + 5 := by rw [Heap.size_push, zT]
  have gz : (y3Z s.heap b1 b2 b3 l1 l2 l3).get? (y3O s.heap b1 b2 b3 l1 l2 l3).objs.size = some _ := Heap.get?_push_size _ rfl
  have gO : (y3Z s.heap b1 b2 b3 l1 l2 l3).get? (y3T s.heap b1 b2 b3 l1 l2 l3).objs.size = some _ := Heap.get?_push_of_some _ (Heap.get?_push_size _ rfl)
  have gT : (y3Z s.heap b1 b2 b3 l1 l2 l3).get? (y3I3 s.heap b1 b2 b3 l1 l2 l3).objs.size = some _ := Heap.get?_push_of_some _ (Heap.get?_push_of_some _ (Heap.get?_push_size _ rfl))
  have gi1 : (y3Z s.heap b1 b2 b3 l1 l2 l3).get? s.heap.objs.size = some (itO b1 l1) := by
    cases b1 <;> exact Heap.get?_push_of_some _ (Heap.get?_push_of_some _ (Heap.get?_push_of_some _ (Heap.get?_push_of_some _ (Heap.get?_push_of_some _ (Heap.get?_push_size _ rfl)))))
  have gi2 : (y3Z s.heap b1 b2 b3 l1 l2 l3).get? (y3I1 s.heap b1 b2 b3 l1 l2 l3).objs.size = some (itO b2 l2) := by
    cases b2 <;> exact Heap.get?_push_of_some _ (Heap.get?_push_of_some _ (Heap.get?_push_of_some _ (Heap.get?_push_of_some _ (Heap.get?_push_size _ rfl))))
  have gi3 : (y3Z s.heap b1 b2 b3 l1 l2 l3).get? (y3I2 s.heap b1 b2 b3 l1 l2 l3).objs.size = some (itO b3 l3) := by
    cases b3 <;> exact Heap.get?_push_of_some _ (Heap.get?_push_of_some _ (Heap.get?_push_of_some _ (Heap.get?_push_size _ rfl)))
  show _ ∧ _
  rw [z3, zT, zO] at gz
  rw [z1, z2, z3] at gT
  rw [zT] at gO
  rw [z1] at gi2
  rw [z2] at gi3
  rw [zO]
  exact ⟨⟨_, gz, rfl⟩, h _ gz gT gO (sit_new gi1) (sit_new gi2) (sit_new gi3) fun c o x => Heap.get?_push_of_some _ (Heap.get?_push_of_some _ (Heap.get?_push_of_some _ (Heap.get?_push_of_some _ (Heap.get?_push_of_some _ (Heap.get?_push_of_some _ x)))))⟩
theorem zip4_nx {z TI TO i1 i2 i3 i4 l1 l2 l3 l4 : Addr} {b1 b2 b3 b4 : Bool} {n : Nat} {xs1 xs2 xs3 xs4 : Array Value} {a1 a2 a3 a4 : Value} {x1 x2 x3 x4 : Value} {Q : Option Value → Shared → Prop} (nd : [z, TI, TO, i1, i2, i3, i4].Nodup) (sr : ∀ l ∈ [l1, l2, l3, l4], l ∉ [z, TI, TO, i1, i2, i3, i4])
    (hz : IsZip s.heap z TI TO .none) (hTI : IsTu s.heap TI #[.ref i1, .ref i2, .ref i3, .ref i4]) (hTO : IsTu s.heap TO #[a1, a2, a3, a4]) (h1 : SIt b1 s.heap i1 l1 n) (hl1 : SSq b1 s.heap l1 xs1) (h2 : SIt b2 s.heap i2 l2 n) (hl2 : SSq b2 s.heap l2 xs2) (h3 : SIt b3 s.heap i3 l3 n) (hl3 : SSq b3 s.heap l3 xs3) (h4 : SIt b4 s.heap i4 l4 n) (hl4 : SSq b4 s.heap l4 xs4) (hx1 : xs1[n]? = some x1) (hx2 : xs2[n]? = some x2) (hx3 : xs3[n]? = some x3) (hx4 : xs4[n]? = some x4)
    (hQ : ∀ h', IsZip h' z TI TO (rawInt s.heap.objs.size) → IsTu h' TO #[x1, x2, x3, x4] → SIt b1 h' i1 l1 (n + 1) → SIt b2 h' i2 l2 (n + 1) → SIt b3 h' i3 l3 (n + 1) → SIt b4 h' i4 l4 (n + 1) → IsTu h' s.heap.objs.size #[x1, x2, x3, x4] → h'.objs.size = s.heap.objs.size + 1 → (∀ c o, c ∉ [z, TO, i1, i2, i3, i4] → s.heap.get? c = some o → h'.get? c = some o) → Q (some (.ref s.heap.objs.size)) { s with heap := h' }) :
    wpAny (model prog w) A (pyNext (.ref z)) Q E s := by
  have hT : s.TypeIs (.ref z) "zip" := ⟨_, hz, rfl⟩
  unfold pyNext
  exact wpAny_bind (wpAny_attempt (wpAny_callSpecial?_slot (name := Str.ofString "__next__") hT F.slot_zip_next
    (wpAny_call_entry F.slot_zip_next hT F.entry_zip_next (zip4_item nd sr hz hTI hTO h1 hl1 h2 hl2 h3 hl3 h4 hl4 hx1 hx2 hx3 hx4 fun h' q0 q1 q2 q3 q4 q5 q6 q7 q8 => wpAny_pure (hQ h' q0 q1 q2 q3 q4 q5 q6 q7 q8)) (F.args_zip_next_1 _))))
theorem zip4_nxe {z TI TO i1 i2 i3 i4 l1 l2 l3 l4 : Addr} {b1 b2 b3 b4 : Bool} {n : Nat} {xs1 xs2 xs3 xs4 : Array Value} {a1 a2 a3 a4 : Value} {Q : Option Value → Shared → Prop} (hh : A.handled = none) (nd : [z, TI, TO, i1, i2, i3, i4].Nodup) (sr : ∀ l ∈ [l1, l2, l3, l4], l ∉ [z, TI, TO, i1, i2, i3, i4])
    (hz : IsZip s.heap z TI TO .none) (hTI : IsTu s.heap TI #[.ref i1, .ref i2, .ref i3, .ref i4]) (hTO : IsTu s.heap TO #[a1, a2, a3, a4]) (h1 : SIt b1 s.heap i1 l1 n) (hl1 : SSq b1 s.heap l1 xs1) (h2 : SIt b2 s.heap i2 l2 n) (hl2 : SSq b2 s.heap l2 xs2) (h3 : SIt b3 s.heap i3 l3 n) (hl3 : SSq b3 s.heap l3 xs3) (h4 : SIt b4 s.heap i4 l4 n) (hl4 : SSq b4 s.heap l4 xs4) (hend : xs1[n]? = none ∨ xs2[n]? = none ∨ xs3[n]? = none ∨ xs4[n]? = none)
    (hQ : ∀ h', (∀ c o, c ∉ [z, TO, i1, i2, i3, i4] → s.heap.get? c = some o → h'.get? c = some o) → Q none { s with heap := h' }) : wpAny (model prog w) A (pyNext (.ref z)) Q E s := by
  have hT : s.TypeIs (.ref z) "zip" := ⟨_, hz, rfl⟩
  unfold pyNext
  refine wpAny_bind (wpAny_attempt (wpAny_callSpecial?_slot (name := Str.ofString "__next__") hT F.slot_zip_next
    (wpAny_call_entry F.slot_zip_next hT F.entry_zip_next (zip4_end hh nd sr hz hTI hTO h1 hl1 h2 hl2 h3 hl3 h4 hl4 hend fun h' e hk he => ?_) (F.args_zip_next_1 _))))
  obtain ⟨o, ho, hc⟩ := he
  refine wpAny_bind (wpAny_isInstance (T := "StopIteration") (b := true) ⟨o, ho, hc⟩ isSubtype_stop ?_)
  exact wpAny_pure (hQ _ hk)
abbrev y4H0 (h : Heap) : Heap := h
abbrev y4I1 (h : Heap) (b1 : Bool) (b2 : Bool) (b3 : Bool) (b4 : Bool) (l1 : Addr) (l2 : Addr) (l3 : Addr) (l4 : Addr) : Heap := h.push (itO b1 l1)
abbrev y4I2 (h : Heap) (b1 : Bool) (b2 : Bool) (b3 : Bool) (b4 : Bool) (l1 : Addr) (l2 : Addr) (l3 : Addr) (l4 : Addr) : Heap := (y4I1 h b1 b2 b3 b4 l1 l2 l3 l4).push (itO b2 l2)
abbrev y4I3 (h : Heap) (b1 : Bool) (b2 : Bool) (b3 : Bool) (b4 : Bool) (l1 : Addr) (l2 : Addr) (l3 : Addr) (l4 : Addr) : Heap := (y4I2 h b1 b2 b3 b4 l1 l2 l3 l4).push (itO b3 l3)
abbrev y4I4 (h : Heap) (b1 : Bool) (b2 : Bool) (b3 : Bool) (b4 : Bool) (l1 : Addr) (l2 : Addr) (l3 : Addr) (l4 : Addr) : Heap := (y4I3 h b1 b2 b3 b4 l1 l2 l3 l4).push (itO b4 l4)
abbrev y4T (h : Heap) (b1 : Bool) (b2 : Bool) (b3 : Bool) (b4 : Bool) (l1 : Addr) (l2 : Addr) (l3 : Addr) (l4 : Addr) : Heap := (y4I4 h b1 b2 b3 b4 l1 l2 l3 l4).push { cls := .type "tuple", data := .seq #[.ref h.objs.size, .ref (y4I1 h b1 b2 b3 b4 l1 l2 l3 l4).objs.size, .ref (y4I2 h b1 b2 b3 b4 l1 l2 l3 l4).objs.size, .ref (y4I3 h b1 b2 b3 b4 l1 l2 l3 l4).objs.size] }
abbrev y4O (h : Heap) (b1 : Bool) (b2 : Bool) (b3 : Bool) (b4 : Bool) (l1 : Addr) (l2 : Addr) (l3 : Addr) (l4 : Addr) : Heap := (y4T h b1 b2 b3 b4 l1 l2 l3 l4).push { cls := .type "tuple", data := .seq #[.none, .none, .none, .none] }
abbrev y4Z (h : Heap) (b1 : Bool) (b2 : Bool) (b3 : Bool) (b4 : Bool) (l1 : Addr) (l2 : Addr) (l3 : Addr) (l4 : Addr) : Heap := (y4O h b1 b2 b3 b4 l1 l2 l3 l4).push { cls := .type "zip", data := .fields #[.none, .bool false, .bool false, .ref (y4I4 h b1 b2 b3 b4 l1 l2 l3 l4).objs.size, .ref (y4T h b1 b2 b3 b4 l1 l2 l3 l4).objs.size] }
theorem meets_zip4 (b1 : Bool) (b2 : Bool) (b3 : Bool) (b4 : Bool) (l1 : Addr) (l2 : Addr) (l3 : Addr) (l4 : Addr) {xs1 xs2 xs3 xs4 : Array Value} :
    Meets (Builtin.«zip.__new__» ⟨[.type "zip", .ref l1, .ref l2, .ref l3, .ref l4], []⟩) (fun _ R s => SSq b1 s.heap l1 xs1 ∧ SSq b2 s.heap l2 xs2 ∧ SSq b3 s.heap l3 xs3 ∧ SSq b4 s.heap l4 xs4 ∧
      R (.ok (.ret (.ref (y4O s.heap b1 b2 b3 b4 l1 l2 l3 l4).objs.size))) { s with heap := y4Z s.heap b1 b2 b3 b4 l1 l2 l3 l4 }) :=
  .of_wp fun prog w A R s h => by
    obtain ⟨hp, g, d, tk, os⟩ := s
    obtain ⟨hl1, hl2, hl3, hl4, h⟩ := h
    have hsub := sub_zip
    have hL1 : SSq b1 (Shared.heap ⟨hp, g, d, tk, os⟩) l1 xs1 := hl1
    have hL2 : SSq b2 (Shared.heap ⟨y4I1 hp b1 b2 b3 b4 l1 l2 l3 l4, g, d, tk, os⟩) l2 xs2 := (hl2).push _
    have hL3 : SSq b3 (Shared.heap ⟨y4I2 hp b1 b2 b3 b4 l1 l2 l3 l4, g, d, tk, os⟩) l3 xs3 := ((hl3).push _).push _
    have hL4 : SSq b4 (Shared.heap ⟨y4I3 hp b1 b2 b3 b4 l1 l2 l3 l4, g, d, tk, os⟩) l4 xs4 := (((hl4).push _).push _).push _
    wp_walk using sit_iter hL1, sit_iter hL2, sit_iter hL3, sit_iter hL4
    exact ⟨_, rfl, h⟩
theorem tc_zip4 (x1 x2 x3 x4 : Value) : checkTypeCall "zip" ⟨[x1, x2, x3, x4], []⟩ = pure () := by kernel_rfl
theorem nc_zip4 (x1 x2 x3 x4 : Value) : checkBuiltinCall "zip.__new__" ⟨[.type "zip", x1, x2, x3, x4], []⟩ = pure () := by kernel_rfl
theorem ao_zip4 (o x1 x2 x3 x4 : Value) : argsOk "object.__init__" ⟨[o, x1, x2, x3, x4], []⟩ := by unfold argsOk; kernel_rfl
theorem call_zip4 {l1 l2 l3 l4 : Addr} {b1 b2 b3 b4 : Bool} {xs1 xs2 xs3 xs4 : Array Value} {Q : Value → Shared → Prop} (hl1 : SSq b1 s.heap l1 xs1) (hl2 : SSq b2 s.heap l2 xs2) (hl3 : SSq b3 s.heap l3 xs3) (hl4 : SSq b4 s.heap l4 xs4)
    (h : ∀ h', IsZip h' (s.heap.objs.size + 6) (s.heap.objs.size + 4) (s.heap.objs.size + 5) .none → IsTu h' (s.heap.objs.size + 4) #[.ref s.heap.objs.size, .ref (s.heap.objs.size + 1), .ref (s.heap.objs.size + 2), .ref (s.heap.objs.size + 3)] → IsTu h' (s.heap.objs.size + 5) #[.none, .none, .none, .none] → SIt b1 h' s.heap.objs.size l1 0 → SIt b2 h' (s.heap.objs.size + 1) l2 0 → SIt b3 h' (s.heap.objs.size + 2) l3 0 → SIt b4 h' (s.heap.objs.size + 3) l4 0 → (∀ c o, s.heap.get? c = some o → h'.get? c = some o) → Q (.ref (s.heap.objs.size + 6)) { s with heap := h' }) :
    wpAny (model prog w) A (call (.type "zip") [.ref l1, .ref l2, .ref l3, .ref l4]) Q E s := by
  refine callType_new F.called_zip (by decide) (tc_zip4 _ _ _ _) (nc_zip4 _ _ _ _) (fun obj => ao_zip4 obj _ _ _ _) F.entry_zip_new (meets_zip4 _ _ _ _ _ _ _ _) ⟨hl1, hl2, hl3, hl4, ?_⟩
  have z1 : (y4I1 s.heap b1 b2 b3 b4 l1 l2 l3 l4).objs.size = s.heap.objs.size + 1 := Heap.size_push ..
  have z2 : (y4I2 s.heap b1 b2 b3 b4 l1 l2 l3 l4).objs.size = s.heap.objs.size + 2 := by rw [Heap.size_push, z1]
  have z3 : (y4I3 s.heap b1 b2 b3 b4 l1 l2 l3 l4).objs.size = s.heap.objs.size + 3 := by rw [Heap.size_push, z2]
  have z4 : (y4I4 s.heap b1 b2 b3 b4 l1 l2 l3 l4).objs.size = s.heap.objs.size + 4 := by rw [Heap.size_push, z3]
  have zT : (y4T s.heap b1 b2 b3 b4 l1 l2 l3 l4).objs.size = s.heap.objs.size + 5 := by rw [Heap.size_push, z4]
  have zO : (y4O s.heap b1 b2 b3 b4 l1 l2 l3 l4).objs.size = s.heap.objs.size + 6 := by rw [Heap.size_push, zT]
  have gz : (y4Z s.heap b1 b2 b3 b4 l1 l2 l3 l4).get? (y4O s.heap b1 b2 b3 b4 l1 l2 l3 l4).objs.size = some _ := Heap.get?_push_size _ rfl
  have gO : (y4Z s.heap b1 b2 b3 b4 l1 l2 l3 l4).get? (y4T s.heap b1 b2 b3 b4 l1 l2 l3 l4).objs.size = some _ := Heap.get?_push_of_some _ (Heap.get?_push_size _ rfl)
  have gT : (y4Z s.heap b1 b2 b3 b4 l1 l2 l3 l4).get? (y4I4 s.heap b1 b2 b3 b4 l1 l2 l3 l4).objs.size = some _ := Heap.get?_push_of_some _ (Heap.get?_push_of_some _ (Heap.get?_push_size _ rfl))
  have gi1 : (y4Z s.heap b1 b2 b3 b4 l1 l2 l3 l4).get? s.heap.objs.size = some (itO b1 l1) := by
    cases b1 <;> exact Heap.get?_push_of_some _ (Heap.get?_push_of_some _ (Heap.get?_push_of_some _ (Heap.get?_push_of_some _ (Heap.get?_push_of_some _ (Heap.get?_push_of_some _ (Heap.get?_push_size _ rfl))))))
  have gi2 : (y4Z s.heap b1 b2 b3 b4 l1 l2 l3 l4).get? (y4I1 s.heap b1 b2 b3 b4 l1 l2 l3 l4).objs.size = some (itO b2 l2) := by
    cases b2 <;> exact Heap.get?_push_of_some _ (Heap.get?_push_of_some _ (Heap.get?_push_of_some _ (Heap.get?_push_of_some _ (Heap.get?_push_of_some _ (Heap.get?_push_size _ rfl)))))
  have gi3 : (y4Z s.heap b1 b2 b3 b4 l1 l2 l3 l4).get? (y4I2 s.heap b1 b2 b3 b4 l1 l2 l3 l4).objs.size = some (itO b3 l3) := by
    cases b3 <;> exact Heap.get?_push_of_some _ (Heap.get?_push_of_some _ (Heap.get?_push_of_some _ (Heap.get?_push_of_some _ (Heap.get?_push_size _ rfl))))
  have gi4 : (y4Z s.heap b1 b2 b3 b4 l1 l2 l3 l4).get? (y4I3 s.heap b1 b2 b3 b4 l1 l2 l3 l4).objs.size = some (itO b4 l4) := by
    cases b4 <;> exact Heap.get?_push_of_some _ (Heap.get?_push_of_some _ (Heap.get?_push_of_some _ (Heap.get?_push_size _ rfl)))
  show _ ∧ _
  rw [z4, zT, zO] at gz
  rw [z1, z2, z3, z4] at gT
  rw [zT] at gO
  rw [z1] at gi2
  rw [z2] at gi3
  rw [z3] at gi4
  rw [zO]
  exact ⟨⟨_, gz, rfl⟩, h _ gz gT gO (sit_new gi1) (sit_new gi2) (sit_new gi3) (sit_new gi4) fun c o x => Heap.get?_push_of_some _ (Heap.get?_push_of_some _ (Heap.get?_push_of_some _ (Heap.get?_push_of_some _ (Heap.get?_push_of_some _ (Heap.get?_push_of_some _ (Heap.get?_push_of_some _ x))))))⟩
end

/-! ### over the layer -/
def SqB (K : PySem.W.Frag) (H : Hp) (b : Bool) (l : Addr) (xs : List V) : Prop := match b with
  | true => SqT K H l xs
  | false => SqL K H l xs
theorem inv_sq {X : Cx} {pins : List (Addr × Obj)} {σ : L2.St} {H : Hp} {s : Shared} {b : Bool} {l : Addr} {xs : List V} (I : Inv X pins σ H s) (h : SqB X.K H b l xs) : ∃ its : List Value, Vals xs its ∧ SSq b s.heap l its.toArray := by
  cases b with
  | true => obtain ⟨its, rv, p, _⟩ := I.tuple h; exact ⟨its, rv, p⟩
  | false => obtain ⟨its, rv, p, _⟩ := I.list h; exact ⟨its, rv, p.isList⟩
theorem inv_sqi {X : Cx} {pins : List (Addr × Obj)} {σ : L2.St} {H : Hp} {s : Shared} {b : Bool} {l : Addr} {xs ys : List V} (I : Inv X pins σ H s) (h : SqB X.K H b l xs) (h' : SqB X.K H b l ys) : xs = ys := by
  cases b with
  | true => exact I.tuple_inj h h'
  | false => exact I.list_inj h h'

def ItZ2 (K : PySem.W.Frag) (b1 : Bool) (b2 : Bool) (l1 : Addr) (l2 : Addr) : It :=
  ⟨fun i H => ∃ (xs1 xs2 : List V) (x1 x2 : V), SqB K H b1 l1 xs1 ∧ SqB K H b2 l2 xs2 ∧ xs1[i]? = some x1 ∧ xs2[i]? = some x2,
    fun i H v H' => ∃ T x1 x2, v = .ref T ∧ H T = none ∧ H' = upd H T (.tup [x1, x2]) ∧ (∀ ys, SqB K H b1 l1 ys → ys[i]? = some x1) ∧ (∀ ys, SqB K H b2 l2 ys → ys[i]? = some x2),
    fun i H => ∃ xs1 xs2 : List V, SqB K H b1 l1 xs1 ∧ SqB K H b2 l2 xs2 ∧ (xs1.length ≤ i ∨ xs2.length ≤ i)⟩
theorem turn_z2 {P : Program} {w : World} {K : PySem.W.Frag} {elts : List Expr} {kk : Nat} {tpos : Pos} {z TI TO i1 i2 l1 l2 : Addr} {b1 b2 : Bool} (nd : [z, TI, TO, i1, i2].Nodup) (sr : ∀ l ∈ [l1, l2], l ∉ [z, TI, TO, i1, i2]) :
    Turn P w K (.Tuple elts kk tpos) (ItZ2 K b1 b2 l1 l2) [z, TI, TO, i1, i2] z (fun i h => IsZip h z TI TO .none ∧ IsTu h TI #[.ref i1, .ref i2] ∧ (∃ a1 a2, IsTu h TO #[a1, a2]) ∧ SIt b1 h i1 l1 i ∧ SIt b2 h i2 l2 i) where
  mem := by simp
  obj := fun i h st c hc => by
    obtain ⟨hz, hTI, ⟨_, _, hTO⟩, h1, h2⟩ := st
    have e' : c = z ∨ c = TI ∨ c = TO ∨ c = i1 ∨ c = i2 := by simpa using hc
    rcases e' with q | q | q | q | q
    · rw [q]; exact ⟨_, hz, fun v q => nomatch q⟩
    · rw [q]; exact ⟨_, hTI, fun v q => nomatch q⟩
    · rw [q]; exact ⟨_, hTO, fun v q => nomatch q⟩
    · rw [q]; exact h1.ob
    · rw [q]; exact h2.ob
  keep := fun i h h' st k => by
    obtain ⟨hz, hTI, ⟨a1, a2, hTO⟩, h1, h2⟩ := st
    exact ⟨k z (by simp) _ hz, k TI (by simp) _ hTI, ⟨a1, a2, k TO (by simp) _ hTO⟩, h1.ext fun o q => k i1 (by simp) o q, h2.ext fun o q => k i2 (by simp) o q⟩
  item := by
    intro X hP hw hK hc i pins s σ H E I hf st hg
    subst hP hw hK
    obtain ⟨hz, hTI, ⟨a1, a2, hTO⟩, h1, h2⟩ := st
    obtain ⟨xs1, xs2, x1, x2, hq1, hq2, hx1, hx2⟩ := hg
    obtain ⟨its1, rv1, p1⟩ := inv_sq I hq1
    obtain ⟨u1, hu1, ru1⟩ := rv1.get hx1
    obtain ⟨its2, rv2, p2⟩ := inv_sq I hq2
    obtain ⟨u2, hu2, ru2⟩ := rv2.get hx2
    have hzl : z < s.heap.objs.size := Heap.lt_size hz
    refine zip2_nx nd sr hz hTI hTO h1 p1 h2 p2 (by simpa using hu1) (by simpa using hu2) fun h' z' TO' r1 r2 hT hsz hk => ?_
    refine ⟨_, rfl, wpAny_letOwnedTupleGo_zip (s := { s with heap := h' }) z' fun h'' z'' sb => ?_⟩
    have hT2 : h''.get? s.heap.objs.size = some { cls := .type "tuple", data := .seq #[u1, u2] } := (sb.2 _ (Nat.ne_of_gt hzl)).trans hT
    have new : ObjOk X.prog X.w (upd H s.heap.objs.size (.tup [x1, x2])) h'' s.heap.objs.size (.tup [x1, x2]) :=
      ⟨by show 2 ≤ sizeLine; decide, [u1, u2], .cons ru1 (.cons ru2 (.nil)), ⟨_, hT2, rfl, _, rfl⟩⟩
    have I1 : Inv X pins σ (upd H s.heap.objs.size (.tup [x1, x2])) { s with heap := h'' } :=
      I.turnedNew (t' := s.toks) (ch := [z, TI, TO, i1, i2]) (fun c o hb q => (sb.2 c (fun q' => hb (by simp [q']))).trans (hk c o (fun hm => hb (by simp only [List.mem_cons, List.not_mem_nil, or_false] at hm; rcases hm with q | q | q | q <;> simp [q])) q)) hf (Nat.le_refl _) new
    refine ⟨.ref s.heap.objs.size, _, I1, rfl, ⟨_, x1, x2, rfl, I.hok.fresh (Nat.le_refl _), rfl, fun l hl => by rw [inv_sqi I hl hq1]; exact hx1, fun l hl => by rw [inv_sqi I hl hq2]; exact hx2⟩, ⟨z'', ?_, ⟨u1, u2, ?_⟩, r1.ext fun o q => (sb.2 _ (by intro q; subst q; simp at nd)).trans q, r2.ext fun o q => (sb.2 _ (by intro q; subst q; simp at nd)).trans q⟩, fun c hcm => ?_⟩
    · exact (sb.2 _ (by intro q; subst q; simp at nd)).trans (hk _ _ (by intro q; simp only [List.mem_cons, List.not_mem_nil, or_false] at q; rcases q with q | q | q | q <;> (subst q; simp at nd)) hTI)
    · exact (sb.2 _ (by intro q; subst q; simp at nd)).trans TO'
    · have hlt : c < s.heap.objs.size := by
        have e' : c = z ∨ c = TI ∨ c = TO ∨ c = i1 ∨ c = i2 := by simpa using hcm
        rcases e' with q | q | q | q | q
        · rw [q]; exact hzl
        · rw [q]; exact Heap.lt_size hTI
        · rw [q]; exact Heap.lt_size hTO
        · rw [q]; exact h1.lt
        · rw [q]; exact h2.lt
      rw [upd_ne (Nat.ne_of_lt hlt)]
      exact (hf c hcm).1
  done := by
    intro X hP hw hK hc i pins s σ H E I hf st hg
    subst hP hw hK
    obtain ⟨hz, hTI, ⟨a1, a2, hTO⟩, h1, h2⟩ := st
    obtain ⟨xs1, xs2, hq1, hq2, hend⟩ := hg
    obtain ⟨its1, rv1, p1⟩ := inv_sq I hq1
    have e1 := rv1.length
    obtain ⟨its2, rv2, p2⟩ := inv_sq I hq2
    have e2 := rv2.length
    have he : its1.toArray[i]? = none ∨ its2.toArray[i]? = none := by
      rcases hend with q | q
      · exact .inl (by simp; omega)
      · exact .inr ((by simp; omega))
    exact zip2_nxe (I.ok.hd hc) nd sr hz hTI hTO h1 p1 h2 p2 he fun h' hk => ⟨rfl, I.turnedL (t' := s.toks) (ch := [z, TI, TO, i1, i2]) (fun c o hb q => hk c o (fun hm => hb (by simp only [List.mem_cons, List.not_mem_nil, or_false] at hm; rcases hm with q | q | q | q <;> simp [q])) q) hf⟩
  self := fun A i s Q E st h => wpAny_pyIter_zip st.1 h
def iZ2 (K : PySem.W.Frag) (ta : TA) : TI := fun σ H R => ta σ H fun vs H1 => ∃ b1 b2 l1 l2 xs1 xs2, vs = [.ref l1, .ref l2] ∧ (SqB K H1 b1 l1 xs1 ∧ SqB K H1 b2 l2 xs2) ∧ R (ItZ2 K b1 b2 l1 l2) H1
theorem pi_z2 {X : Cx} {e1 e2 : Expr} {ta : TA} {p pos tpos : Pos} {elts : List Expr} {kk : Nat} (hg : Gl X "zip") (hm : X.mg "zip" = none) (ha : PA X [e1, e2] ta)
    (hs : starEach [e1, e2] X.env = (false, eval e1 X.env) :: starEach [e2] X.env) (hpl : (backTo pos (starEach [e2] X.env)).any (·.1) = false) :
    PI X (.Tuple elts kk tpos) (.Call (.Name "zip" p) [e1, e2] [] pos) (iZ2 X.K ta) := by
  refine ⟨fun pins s σ H R I h => ?_⟩
  refine Call_ (ld_blt I hg hm PyProof.Rows.boot_zip (PyProof.Rows.callWith_type1 (thn (ha.run pos pins s σ H _ I h) fun us s1 ⟨vs, H1, I1, r1, q1⟩ => ?_) hs hpl))
  obtain ⟨b1, b2, l1, l2, xs1, xs2, ex, ⟨hq1, hq2⟩, q⟩ := q1
  subst ex
  cases r1 with
  | @cons _ w1 _ us1 y1 t1 =>
  cases t1 with
  | @cons _ w2 _ us2 y2 t2 =>
  cases t2
  obtain rfl : w1 = Value.ref l1 := y1
  obtain rfl : w2 = Value.ref l2 := y2
  obtain ⟨its1, rv1, p1⟩ := inv_sq I1 hq1
  obtain ⟨its2, rv2, p2⟩ := inv_sq I1 hq2
  have fr : ∀ c, c ∈ [(s1.heap.objs.size + 4), (s1.heap.objs.size + 2), (s1.heap.objs.size + 3), s1.heap.objs.size, (s1.heap.objs.size + 1)] → FpOk X pins H1 c := fun c hcm => by
    have hle : s1.heap.objs.size ≤ c := by
      simp only [List.mem_cons, List.not_mem_nil, or_false] at hcm
      rcases hcm with z | z | z | z | z <;> (rw [z]; first | exact Nat.le_refl _ | exact Nat.le_add_right _ _)
    exact I1.fpOk hle (I1.hok.fresh hle)
  refine call_zip2 p1 p2 fun h' hz hTI hTO h1 h2 hk => wpAny_pyIter_zip hz ?_
  have I2 : Inv X pins σ H1 { s1 with heap := h' } := I1.kept (t' := s1.toks) hk
  have lt1 : l1 < s1.heap.objs.size := p1.lt
  have lt2 : l2 < s1.heap.objs.size := p2.lt
  refine ⟨(s1.heap.objs.size + 4), [(s1.heap.objs.size + 4), (s1.heap.objs.size + 2), (s1.heap.objs.size + 3), s1.heap.objs.size, (s1.heap.objs.size + 1)], _, _, H1, rfl, I2, turn_z2 (TI := (s1.heap.objs.size + 2)) (TO := (s1.heap.objs.size + 3)) (i1 := s1.heap.objs.size) (i2 := (s1.heap.objs.size + 1)) ?_ ?_, ⟨hz, hTI, ⟨_, _, hTO⟩, h1, h2⟩, fr, q⟩
  · generalize s1.heap.objs.size = n
    simp only [List.nodup_cons, List.mem_cons, List.not_mem_nil, or_false, not_or, List.nodup_nil, and_true, not_false_eq_true]
    first | (simp; done) | (refine ⟨?_, ?_⟩ <;> simp) | omega
  · intro l hl hl2
    simp only [List.mem_cons, List.not_mem_nil, or_false] at hl hl2
    have hlt : l < s1.heap.objs.size := by rcases hl with q | q <;> (subst q; assumption)
    have hge : s1.heap.objs.size ≤ l := by
      rcases hl2 with q | q | q | q | q <;> (rw [q]; first | exact Nat.le_refl _ | exact Nat.le_add_right _ _)
    exact Nat.lt_irrefl _ (Nat.lt_of_lt_of_le hlt hge)
def ItZ3 (K : PySem.W.Frag) (b1 : Bool) (b2 : Bool) (b3 : Bool) (l1 : Addr) (l2 : Addr) (l3 : Addr) : It :=
  ⟨fun i H => ∃ (xs1 xs2 xs3 : List V) (x1 x2 x3 : V), SqB K H b1 l1 xs1 ∧ SqB K H b2 l2 xs2 ∧ SqB K H b3 l3 xs3 ∧ xs1[i]? = some x1 ∧ xs2[i]? = some x2 ∧ xs3[i]? = some x3,
    fun i H v H' => ∃ T x1 x2 x3, v = .ref T ∧ H T = none ∧ H' = upd H T (.tup [x1, x2, x3]) ∧ (∀ ys, SqB K H b1 l1 ys → ys[i]? = some x1) ∧ (∀ ys, SqB K H b2 l2 ys → ys[i]? = some x2) ∧ (∀ ys, SqB K H b3 l3 ys → ys[i]? = some x3),
    fun i H => ∃ xs1 xs2 xs3 : List V, SqB K H b1 l1 xs1 ∧ SqB K H b2 l2 xs2 ∧ SqB K H b3 l3 xs3 ∧ (xs1.length ≤ i ∨ xs2.length ≤ i ∨ xs3.length ≤ i)⟩
theorem turn_z3 {P : Program} {w : World} {K : PySem.W.Frag} {elts : List Expr} {kk : Nat} {tpos : Pos} {z TI TO i1 i2 i3 l1 l2 l3 : Addr} {b1 b2 b3 : Bool} (nd : [z, TI, TO, i1, i2, i3].Nodup) (sr : ∀ l ∈ [l1, l2, l3], l ∉ [z, TI, TO, i1, i2, i3]) :
    Turn P w K (.Tuple elts kk tpos) (ItZ3 K b1 b2 b3 l1 l2 l3) [z, TI, TO, i1, i2, i3] z (fun i h => IsZip h z TI TO .none ∧ IsTu h TI #[.ref i1, .ref i2, .ref i3] ∧ (∃ a1 a2 a3, IsTu h TO #[a1, a2, a3]) ∧ SIt b1 h i1 l1 i ∧ SIt b2 h i2 l2 i ∧ SIt b3 h i3 l3 i) where
  mem := by simp
  obj := fun i h st c hc => by
    obtain ⟨hz, hTI, ⟨_, _, _, hTO⟩, h1, h2, h3⟩ := st
    have e' : c = z ∨ c = TI ∨ c = TO ∨ c = i1 ∨ c = i2 ∨ c = i3 := by simpa using hc
    rcases e' with q | q | q | q | q | q
    · rw [q]; exact ⟨_, hz, fun v q => nomatch q⟩
    · rw [q]; exact ⟨_, hTI, fun v q => nomatch q⟩
    · rw [q]; exact ⟨_, hTO, fun v q => nomatch q⟩
    · rw [q]; exact h1.ob
    · rw [q]; exact h2.ob
    · rw [q]; exact h3.ob
  keep := fun i h h' st k => by
    obtain ⟨hz, hTI, ⟨a1, a2, a3, hTO⟩, h1, h2, h3⟩ := st
    exact ⟨k z (by simp) _ hz, k TI (by simp) _ hTI, ⟨a1, a2, a3, k TO (by simp) _ hTO⟩, h1.ext fun o q => k i1 (by simp) o q, h2.ext fun o q => k i2 (by simp) o q, h3.ext fun o q => k i3 (by simp) o q⟩
  item := by
    intro X hP hw hK hc i pins s σ H E I hf st hg
    subst hP hw hK
    obtain ⟨hz, hTI, ⟨a1, a2, a3, hTO⟩, h1, h2, h3⟩ := st
    obtain ⟨xs1, xs2, xs3, x1, x2, x3, hq1, hq2, hq3, hx1, hx2, hx3⟩ := hg
    obtain ⟨its1, rv1, p1⟩ := inv_sq I hq1
    obtain ⟨u1, hu1, ru1⟩ := rv1.get hx1
    obtain ⟨its2, rv2, p2⟩ := inv_sq I hq2
    obtain ⟨u2, hu2, ru2⟩ := rv2.get hx2
    obtain ⟨its3, rv3, p3⟩ := inv_sq I hq3
    obtain ⟨u3, hu3, ru3⟩ := rv3.get hx3
    have hzl : z < s.heap.objs.size := Heap.lt_size hz
    refine zip3_nx nd sr hz hTI hTO h1 p1 h2 p2 h3 p3 (by simpa using hu1) (by simpa using hu2) (by simpa using hu3) fun h' z' TO' r1 r2 r3 hT hsz hk => ?_
    refine ⟨_, rfl, wpAny_letOwnedTupleGo_zip (s := { s with heap := h' }) z' fun h'' z'' sb => ?_⟩
    have hT2 : h''.get? s.heap.objs.size = some { cls := .type "tuple", data := .seq #[u1, u2, u3] } := (sb.2 _ (Nat.ne_of_gt hzl)).trans hT
    have new : ObjOk X.prog X.w (upd H s.heap.objs.size (.tup [x1, x2, x3])) h'' s.heap.objs.size (.tup [x1, x2, x3]) :=
      ⟨by show 3 ≤ sizeLine; decide, [u1, u2, u3], .cons ru1 (.cons ru2 (.cons ru3 (.nil))), ⟨_, hT2, rfl, _, rfl⟩⟩
    have I1 : Inv X pins σ (upd H s.heap.objs.size (.tup [x1, x2, x3])) { s with heap := h'' } :=
      I.turnedNew (t' := s.toks) (ch := [z, TI, TO, i1, i2, i3]) (fun c o hb q => (sb.2 c (fun q' => hb (by simp [q']))).trans (hk c o (fun hm => hb (by simp only [List.mem_cons, List.not_mem_nil, or_false] at hm; rcases hm with q | q | q | q | q <;> simp [q])) q)) hf (Nat.le_refl _) new
    refine ⟨.ref s.heap.objs.size, _, I1, rfl, ⟨_, x1, x2, x3, rfl, I.hok.fresh (Nat.le_refl _), rfl, fun l hl => by rw [inv_sqi I hl hq1]; exact hx1, fun l hl => by rw [inv_sqi I hl hq2]; exact hx2, fun l hl => by rw [inv_sqi I hl hq3]; exact hx3⟩, ⟨z'', ?_, ⟨u1, u2, u3, ?_⟩, r1.ext fun o q => (sb.2 _ (by intro q; subst q; simp at nd)).trans q, r2.ext fun o q => (sb.2 _ (by intro q; subst q; simp at nd)).trans q, r3.ext fun o q => (sb.2 _ (by intro q; subst q; simp at nd)).trans q⟩, fun c hcm => ?_⟩
    · exact (sb.2 _ (by intro q; subst q; simp at nd)).trans (hk _ _ (by intro q; simp only [List.mem_cons, List.not_mem_nil, or_false] at q; rcases q with q | q | q | q | q <;> (subst q; simp at nd)) hTI)
    · exact (sb.2 _ (by intro q; subst q; simp at nd)).trans TO'
    · have hlt : c < s.heap.objs.size := by
        have e' : c = z ∨ c = TI ∨ c = TO ∨ c = i1 ∨ c = i2 ∨ c = i3 := by simpa using hcm
        rcases e' with q | q | q | q | q | q
        · rw [q]; exact hzl
        · rw [q]; exact Heap.lt_size hTI
        · rw [q]; exact Heap.lt_size hTO
        · rw [q]; exact h1.lt
        · rw [q]; exact h2.lt
        · rw [q]; exact h3.lt
      rw [upd_ne (Nat.ne_of_lt hlt)]
      exact (hf c hcm).1
  done := by
    intro X hP hw hK hc i pins s σ H E I hf st hg
    subst hP hw hK
    obtain ⟨hz, hTI, ⟨a1, a2, a3, hTO⟩, h1, h2, h3⟩ := st
    obtain ⟨xs1, xs2, xs3, hq1, hq2, hq3, hend⟩ := hg
    obtain ⟨its1, rv1, p1⟩ := inv_sq I hq1
    have e1 := rv1.length
    obtain ⟨its2, rv2, p2⟩ := inv_sq I hq2
    have e2 := rv2.length
    obtain ⟨its3, rv3, p3⟩ := inv_sq I hq3
    have e3 := rv3.length
    have he : its1.toArray[i]? = none ∨ its2.toArray[i]? = none ∨ its3.toArray[i]? = none := by
      rcases hend with q | q | q
      · exact .inl (by simp; omega)
      · exact .inr (.inl (by simp; omega))
      · exact .inr (.inr ((by simp; omega)))
    exact zip3_nxe (I.ok.hd hc) nd sr hz hTI hTO h1 p1 h2 p2 h3 p3 he fun h' hk => ⟨rfl, I.turnedL (t' := s.toks) (ch := [z, TI, TO, i1, i2, i3]) (fun c o hb q => hk c o (fun hm => hb (by simp only [List.mem_cons, List.not_mem_nil, or_false] at hm; rcases hm with q | q | q | q | q <;> simp [q])) q) hf⟩
  self := fun A i s Q E st h => wpAny_pyIter_zip st.1 h
def iZ3 (K : PySem.W.Frag) (ta : TA) : TI := fun σ H R => ta σ H fun vs H1 => ∃ b1 b2 b3 l1 l2 l3 xs1 xs2 xs3, vs = [.ref l1, .ref l2, .ref l3] ∧ (SqB K H1 b1 l1 xs1 ∧ SqB K H1 b2 l2 xs2 ∧ SqB K H1 b3 l3 xs3) ∧ R (ItZ3 K b1 b2 b3 l1 l2 l3) H1
theorem pi_z3 {X : Cx} {e1 e2 e3 : Expr} {ta : TA} {p pos tpos : Pos} {elts : List Expr} {kk : Nat} (hg : Gl X "zip") (hm : X.mg "zip" = none) (ha : PA X [e1, e2, e3] ta)
    (hs : starEach [e1, e2, e3] X.env = (false, eval e1 X.env) :: starEach [e2, e3] X.env) (hpl : (backTo pos (starEach [e2, e3] X.env)).any (·.1) = false) :
    PI X (.Tuple elts kk tpos) (.Call (.Name "zip" p) [e1, e2, e3] [] pos) (iZ3 X.K ta) := by
  refine ⟨fun pins s σ H R I h => ?_⟩
  refine Call_ (ld_blt I hg hm PyProof.Rows.boot_zip (PyProof.Rows.callWith_type1 (thn (ha.run pos pins s σ H _ I h) fun us s1 ⟨vs, H1, I1, r1, q1⟩ => ?_) hs hpl))
  obtain ⟨b1, b2, b3, l1, l2, l3, xs1, xs2, xs3, ex, ⟨hq1, hq2, hq3⟩, q⟩ := q1
  subst ex
  cases r1 with
  | @cons _ w1 _ us1 y1 t1 =>
  cases t1 with
  | @cons _ w2 _ us2 y2 t2 =>
  cases t2 with
  | @cons _ w3 _ us3 y3 t3 =>
  cases t3
  obtain rfl : w1 = Value.ref l1 := y1
  obtain rfl : w2 = Value.ref l2 := y2
  obtain rfl : w3 = Value.ref l3 := y3
  obtain ⟨its1, rv1, p1⟩ := inv_sq I1 hq1
  obtain ⟨its2, rv2, p2⟩ := inv_sq I1 hq2
  obtain ⟨its3, rv3, p3⟩ := inv_sq I1 hq3
  have fr : ∀ c, c ∈ [(s1.heap.objs.size + 5), (s1.heap.objs.size + 3), (s1.heap.objs.size + 4), s1.heap.objs.size, (s1.heap.objs.size + 1), (s1.heap.objs.size + 2)] → FpOk X pins H1 c := fun c hcm => by
    have hle : s1.heap.objs.size ≤ c := by
      simp only [List.mem_cons, List.not_mem_nil, or_false] at hcm
      rcases hcm with z | z | z | z | z | z <;> (rw [z]; first | exact Nat.le_refl _ | exact Nat.le_add_right _ _)
    exact I1.fpOk hle (I1.hok.fresh hle)
  refine call_zip3 p1 p2 p3 fun h' hz hTI hTO h1 h2 h3 hk => wpAny_pyIter_zip hz ?_
  have I2 : Inv X pins σ H1 { s1 with heap := h' } := I1.kept (t' := s1.toks) hk
  have lt1 : l1 < s1.heap.objs.size := p1.lt
  have lt2 : l2 < s1.heap.objs.size := p2.lt
  have lt3 : l3 < s1.heap.objs.size := p3.lt
  refine ⟨(s1.heap.objs.size + 5), [(s1.heap.objs.size + 5), (s1.heap.objs.size + 3), (s1.heap.objs.size + 4), s1.heap.objs.size, (s1.heap.objs.size + 1), (s1.heap.objs.size + 2)], _, _, H1, rfl, I2, turn_z3 (TI := (s1.heap.objs.size + 3)) (TO := (s1.heap.objs.size + 4)) (i1 := s1.heap.objs.size) (i2 := (s1.heap.objs.size + 1)) (i3 := (s1.heap.objs.size + 2)) ?_ ?_, ⟨hz, hTI, ⟨_, _, _, hTO⟩, h1, h2, h3⟩, fr, q⟩
  · generalize s1.heap.objs.size = n
    simp only [List.nodup_cons, List.mem_cons, List.not_mem_nil, or_false, not_or, List.nodup_nil, and_true, not_false_eq_true]
    first | (simp; done) | (refine ⟨?_, ?_⟩ <;> simp) | omega
  · intro l hl hl2
    simp only [List.mem_cons, List.not_mem_nil, or_false] at hl hl2
    have hlt : l < s1.heap.objs.size := by rcases hl with q | q | q <;> (subst q; assumption)
    have hge : s1.heap.objs.size ≤ l := by
      rcases hl2 with q | q | q | q | q | q <;> (rw [q]; first | exact Nat.le_refl _ | exact Nat.le_add_right _ _)
    exact Nat.lt_irrefl _ (Nat.lt_of_lt_of_le hlt hge)
def ItZ4 (K : PySem.W.Frag) (b1 : Bool) (b2 : Bool) (b3 : Bool) (b4 : Bool) (l1 : Addr) (l2 : Addr) (l3 : Addr) (l4 : Addr) : It :=
  ⟨fun i H => ∃ (xs1 xs2 xs3 xs4 : List V) (x1 x2 x3 x4 : V), SqB K H b1 l1 xs1 ∧ SqB K H b2 l2 xs2 ∧ SqB K H b3 l3 xs3 ∧ SqB K H b4 l4 xs4 ∧ xs1[i]? = some x1 ∧ xs2[i]? = some x2 ∧ xs3[i]? = some x3 ∧ xs4[i]? = some x4,
    fun i H v H' => ∃ T x1 x2 x3 x4, v = .ref T ∧ H T = none ∧ H' = upd H T (.tup [x1, x2, x3, x4]) ∧ (∀ ys, SqB K H b1 l1 ys → ys[i]? = some x1) ∧ (∀ ys, SqB K H b2 l2 ys → ys[i]? = some x2) ∧ (∀ ys, SqB K H b3 l3 ys → ys[i]? = some x3) ∧ (∀ ys, SqB K H b4 l4 ys → ys[i]? = some x4),
    fun i H => ∃ xs1 xs2 xs3 xs4 : List V, SqB K H b1 l1 xs1 ∧ SqB K H b2 l2 xs2 ∧ SqB K H b3 l3 xs3 ∧ SqB K H b4 l4 xs4 ∧ (xs1.length ≤ i ∨ xs2.length ≤ i ∨ xs3.length ≤ i ∨ xs4.length ≤ i)⟩
theorem turn_z4 {P : Program} {w : World} {K : PySem.W.Frag} {elts : List Expr} {kk : Nat} {tpos : Pos} {z TI TO i1 i2 i3 i4 l1 l2 l3 l4 : Addr} {b1 b2 b3 b4 : Bool} (nd : [z, TI, TO, i1, i2, i3, i4].Nodup) (sr : ∀ l ∈ [l1, l2, l3, l4], l ∉ [z, TI, TO, i1, i2, i3, i4]) :
    Turn P w K (.Tuple elts kk tpos) (ItZ4 K b1 b2 b3 b4 l1 l2 l3 l4) [z, TI, TO, i1, i2, i3, i4] z (fun i h => IsZip h z TI TO .none ∧ IsTu h TI #[.ref i1, .ref i2, .ref i3, .ref i4] ∧ (∃ a1 a2 a3 a4, IsTu h TO #[a1, a2, a3, a4]) ∧ SIt b1 h i1 l1 i ∧ SIt b2 h i2 l2 i ∧ SIt b3 h i3 l3 i ∧ SIt b4 h i4 l4 i) where
  mem := by simp
  obj := fun i h st c hc => by
    obtain ⟨hz, hTI, ⟨_, _, _, _, hTO⟩, h1, h2, h3, h4⟩ := st
    have e' : c = z ∨ c = TI ∨ c = TO ∨ c = i1 ∨ c = i2 ∨ c = i3 ∨ c = i4 := by simpa using hc
    rcases e' with q | q | q | q | q | q | q
    · rw [q]; exact ⟨_, hz, fun v q => nomatch q⟩
    · rw [q]; exact ⟨_, hTI, fun v q => nomatch q⟩
    · rw [q]; exact ⟨_, hTO, fun v q => nomatch q⟩
    · rw [q]; exact h1.ob
    · rw [q]; exact h2.ob
    · rw [q]; exact h3.ob
    · rw [q]; exact h4.ob
  keep := fun i h h' st k => by
    obtain ⟨hz, hTI, ⟨a1, a2, a3, a4, hTO⟩, h1, h2, h3, h4⟩ := st
    exact ⟨k z (by simp) _ hz, k TI (by simp) _ hTI, ⟨a1, a2, a3, a4, k TO (by simp) _ hTO⟩, h1.ext fun o q => k i1 (by simp) o q, h2.ext fun o q => k i2 (by simp) o q, h3.ext fun o q => k i3 (by simp) o q, h4.ext fun o q => k i4 (by simp) o q⟩
  item := by
    intro X hP hw hK hc i pins s σ H E I hf st hg
    subst hP hw hK
    obtain ⟨hz, hTI, ⟨a1, a2, a3, a4, hTO⟩, h1, h2, h3, h4⟩ := st
    obtain ⟨xs1, xs2, xs3, xs4, x1, x2, x3, x4, hq1, hq2, hq3, hq4, hx1, hx2, hx3, hx4⟩ := hg
    obtain ⟨its1, rv1, p1⟩ := inv_sq I hq1
    obtain ⟨u1, hu1, ru1⟩ := rv1.get hx1
    obtain ⟨its2, rv2, p2⟩ := inv_sq I hq2
    obtain ⟨u2, hu2, ru2⟩ := rv2.get hx2
    obtain ⟨its3, rv3, p3⟩ := inv_sq I hq3
    obtain ⟨u3, hu3, ru3⟩ := rv3.get hx3
    obtain ⟨its4, rv4, p4⟩ := inv_sq I hq4
    obtain ⟨u4, hu4, ru4⟩ := rv4.get hx4
    have hzl : z < s.heap.objs.size := Heap.lt_size hz
    refine zip4_nx nd sr hz hTI hTO h1 p1 h2 p2 h3 p3 h4 p4 (by simpa using hu1) (by simpa using hu2) (by simpa using hu3) (by simpa using hu4) fun h' z' TO' r1 r2 r3 r4 hT hsz hk => ?_
    refine ⟨_, rfl, wpAny_letOwnedTupleGo_zip (s := { s with heap := h' }) z' fun h'' z'' sb => ?_⟩
    have hT2 : h''.get? s.heap.objs.size = some { cls := .type "tuple", data := .seq #[u1, u2, u3, u4] } := (sb.2 _ (Nat.ne_of_gt hzl)).trans hT
    have new : ObjOk X.prog X.w (upd H s.heap.objs.size (.tup [x1, x2, x3, x4])) h'' s.heap.objs.size (.tup [x1, x2, x3, x4]) :=
      ⟨by show 4 ≤ sizeLine; decide, [u1, u2, u3, u4], .cons ru1 (.cons ru2 (.cons ru3 (.cons ru4 (.nil)))), ⟨_, hT2, rfl, _, rfl⟩⟩
    have I1 : Inv X pins σ (upd H s.heap.objs.size (.tup [x1, x2, x3, x4])) { s with heap := h'' } :=
      I.turnedNew (t' := s.toks) (ch := [z, TI, TO, i1, i2, i3, i4]) (fun c o hb q => (sb.2 c (fun q' => hb (by simp [q']))).trans (hk c o (fun hm => hb (by simp only [List.mem_cons, List.not_mem_nil, or_false] at hm; rcases hm with q | q | q | q | q | q <;> simp [q])) q)) hf (Nat.le_refl _) new
    refine ⟨.ref s.heap.objs.size, _, I1, rfl, ⟨_, x1, x2, x3, x4, rfl, I.hok.fresh (Nat.le_refl _), rfl, fun l hl => by rw [inv_sqi I hl hq1]; exact hx1, fun l hl => by rw [inv_sqi I hl hq2]; exact hx2, fun l hl => by rw [inv_sqi I hl hq3]; exact hx3, fun l hl => by rw [inv_sqi I hl hq4]; exact hx4⟩, ⟨z'', ?_, ⟨u1, u2, u3, u4, ?_⟩, r1.ext fun o q => (sb.2 _ (by intro q; subst q; simp at nd)).trans q, r2.ext fun o q => (sb.2 _ (by intro q; subst q; simp at nd)).trans q, r3.ext fun o q => (sb.2 _ (by intro q; subst q; simp at nd)).trans q, r4.ext fun o q => (sb.2 _ (by intro q; subst q; simp at nd)).trans q⟩, fun c hcm => ?_⟩
    · exact (sb.2 _ (by intro q; subst q; simp at nd)).trans (hk _ _ (by intro q; simp only [List.mem_cons, List.not_mem_nil, or_false] at q; rcases q with q | q | q | q | q | q <;> (subst q; simp at nd)) hTI)
    · exact (sb.2 _ (by intro q; subst q; simp at nd)).trans TO'
    · have hlt : c < s.heap.objs.size := by
        have e' : c = z ∨ c = TI ∨ c = TO ∨ c = i1 ∨ c = i2 ∨ c = i3 ∨ c = i4 := by simpa using hcm
        rcases e' with q | q | q | q | q | q | q
        · rw [q]; exact hzl
        · rw [q]; exact Heap.lt_size hTI
        · rw [q]; exact Heap.lt_size hTO
        · rw [q]; exact h1.lt
        · rw [q]; exact h2.lt
        · rw [q]; exact h3.lt
        · rw [q]; exact h4.lt
      rw [upd_ne (Nat.ne_of_lt hlt)]
      exact (hf c hcm).1
  done := by
    intro X hP hw hK hc i pins s σ H E I hf st hg
    subst hP hw hK
    obtain ⟨hz, hTI, ⟨a1, a2, a3, a4, hTO⟩, h1, h2, h3, h4⟩ := st
    obtain ⟨xs1, xs2, xs3, xs4, hq1, hq2, hq3, hq4, hend⟩ := hg
    obtain ⟨its1, rv1, p1⟩ := inv_sq I hq1
    have e1 := rv1.length
    obtain ⟨its2, rv2, p2⟩ := inv_sq I hq2
    have e2 := rv2.length
    obtain ⟨its3, rv3, p3⟩ := inv_sq I hq3
    have e3 := rv3.length
    obtain ⟨its4, rv4, p4⟩ := inv_sq I hq4
    have e4 := rv4.length
    have he : its1.toArray[i]? = none ∨ its2.toArray[i]? = none ∨ its3.toArray[i]? = none ∨ its4.toArray[i]? = none := by
      rcases hend with q | q | q | q
      · exact .inl (by simp; omega)
      · exact .inr (.inl (by simp; omega))
      · exact .inr (.inr (.inl (by simp; omega)))
      · exact .inr (.inr (.inr ((by simp; omega))))
    exact zip4_nxe (I.ok.hd hc) nd sr hz hTI hTO h1 p1 h2 p2 h3 p3 h4 p4 he fun h' hk => ⟨rfl, I.turnedL (t' := s.toks) (ch := [z, TI, TO, i1, i2, i3, i4]) (fun c o hb q => hk c o (fun hm => hb (by simp only [List.mem_cons, List.not_mem_nil, or_false] at hm; rcases hm with q | q | q | q | q | q <;> simp [q])) q) hf⟩
  self := fun A i s Q E st h => wpAny_pyIter_zip st.1 h
def iZ4 (K : PySem.W.Frag) (ta : TA) : TI := fun σ H R => ta σ H fun vs H1 => ∃ b1 b2 b3 b4 l1 l2 l3 l4 xs1 xs2 xs3 xs4, vs = [.ref l1, .ref l2, .ref l3, .ref l4] ∧ (SqB K H1 b1 l1 xs1 ∧ SqB K H1 b2 l2 xs2 ∧ SqB K H1 b3 l3 xs3 ∧ SqB K H1 b4 l4 xs4) ∧ R (ItZ4 K b1 b2 b3 b4 l1 l2 l3 l4) H1
theorem pi_z4 {X : Cx} {e1 e2 e3 e4 : Expr} {ta : TA} {p pos tpos : Pos} {elts : List Expr} {kk : Nat} (hg : Gl X "zip") (hm : X.mg "zip" = none) (ha : PA X [e1, e2, e3, e4] ta)
    (hs : starEach [e1, e2, e3, e4] X.env = (false, eval e1 X.env) :: starEach [e2, e3, e4] X.env) (hpl : (backTo pos (starEach [e2, e3, e4] X.env)).any (·.1) = false) :
    PI X (.Tuple elts kk tpos) (.Call (.Name "zip" p) [e1, e2, e3, e4] [] pos) (iZ4 X.K ta) := by
  refine ⟨fun pins s σ H R I h => ?_⟩
  refine Call_ (ld_blt I hg hm PyProof.Rows.boot_zip (PyProof.Rows.callWith_type1 (thn (ha.run pos pins s σ H _ I h) fun us s1 ⟨vs, H1, I1, r1, q1⟩ => ?_) hs hpl))
  obtain ⟨b1, b2, b3, b4, l1, l2, l3, l4, xs1, xs2, xs3, xs4, ex, ⟨hq1, hq2, hq3, hq4⟩, q⟩ := q1
  subst ex
  cases r1 with
  | @cons _ w1 _ us1 y1 t1 =>
  cases t1 with
  | @cons _ w2 _ us2 y2 t2 =>
  cases t2 with
  | @cons _ w3 _ us3 y3 t3 =>
  cases t3 with
  | @cons _ w4 _ us4 y4 t4 =>
  cases t4
  obtain rfl : w1 = Value.ref l1 := y1
  obtain rfl : w2 = Value.ref l2 := y2
  obtain rfl : w3 = Value.ref l3 := y3
  obtain rfl : w4 = Value.ref l4 := y4
  obtain ⟨its1, rv1, p1⟩ := inv_sq I1 hq1
  obtain ⟨its2, rv2, p2⟩ := inv_sq I1 hq2
  obtain ⟨its3, rv3, p3⟩ := inv_sq I1 hq3
  obtain ⟨its4, rv4, p4⟩ := inv_sq I1 hq4
  have fr : ∀ c, c ∈ [(s1.heap.objs.size + 6), (s1.heap.objs.size + 4), (s1.heap.objs.size + 5), s1.heap.objs.size, (s1.heap.objs.size + 1), (s1.heap.objs.size + 2), (s1.heap.objs.size + 3)] → FpOk X pins H1 c := fun c hcm => by
    have hle : s1.heap.objs.size ≤ c := by
      simp only [List.mem_cons, List.not_mem_nil, or_false] at hcm
      rcases hcm with z | z | z | z | z | z | z <;> (rw [z]; first | exact Nat.le_refl _ | exact Nat.le_add_right _ _)
    exact I1.fpOk hle (I1.hok.fresh hle)
  refine call_zip4 p1 p2 p3 p4 fun h' hz hTI hTO h1 h2 h3 h4 hk => wpAny_pyIter_zip hz ?_
  have I2 : Inv X pins σ H1 { s1 with heap := h' } := I1.kept (t' := s1.toks) hk
  have lt1 : l1 < s1.heap.objs.size := p1.lt
  have lt2 : l2 < s1.heap.objs.size := p2.lt
  have lt3 : l3 < s1.heap.objs.size := p3.lt
  have lt4 : l4 < s1.heap.objs.size := p4.lt
  refine ⟨(s1.heap.objs.size + 6), [(s1.heap.objs.size + 6), (s1.heap.objs.size + 4), (s1.heap.objs.size + 5), s1.heap.objs.size, (s1.heap.objs.size + 1), (s1.heap.objs.size + 2), (s1.heap.objs.size + 3)], _, _, H1, rfl, I2, turn_z4 (TI := (s1.heap.objs.size + 4)) (TO := (s1.heap.objs.size + 5)) (i1 := s1.heap.objs.size) (i2 := (s1.heap.objs.size + 1)) (i3 := (s1.heap.objs.size + 2)) (i4 := (s1.heap.objs.size + 3)) ?_ ?_, ⟨hz, hTI, ⟨_, _, _, _, hTO⟩, h1, h2, h3, h4⟩, fr, q⟩
  · generalize s1.heap.objs.size = n
    simp only [List.nodup_cons, List.mem_cons, List.not_mem_nil, or_false, not_or, List.nodup_nil, and_true, not_false_eq_true]
    first | (simp; done) | (refine ⟨?_, ?_⟩ <;> simp) | omega
  · intro l hl hl2
    simp only [List.mem_cons, List.not_mem_nil, or_false] at hl hl2
    have hlt : l < s1.heap.objs.size := by rcases hl with q | q | q | q <;> (subst q; assumption)
    have hge : s1.heap.objs.size ≤ l := by
      rcases hl2 with q | q | q | q | q | q | q <;> (rw [q]; first | exact Nat.le_refl _ | exact Nat.le_add_right _ _)
    exact Nat.lt_irrefl _ (Nat.lt_of_lt_of_le hlt hge)
end KZ

/-! KZ3: enumerate of a list or a tuple -/
namespace KZ
open PySem PySem.Spec PyProof.Rows L2
open PySem.Sem (wp)
section
variable {prog : Program} {w : World} {A : Around} {E : Value → Shared → Prop} {s : Shared}
theorem en_item {b : Bool} {e it l : Addr} {i : Nat} {xs : Array Value} {x old : Value} {Q : Value → Shared → Prop} (he : IsEnum s.heap e it i old) (hit : SIt b s.heap it l i) (hl : SSq b s.heap l xs) (hx : xs[i]? = some x) (hne : e ≠ it)
    (hQ : ∀ h', IsEnumOut h' e it ((i : Int) + 1) x s.heap.objs.size → SIt b h' it l (i + 1) → IsTu h' s.heap.objs.size #[.int i s.toks, x] → h'.objs.size = s.heap.objs.size + 1 →
      (∀ c o, c ≠ e → c ≠ it → s.heap.get? c = some o → h'.get? c = some o) → Q (.ref s.heap.objs.size) { s with heap := h', toks := s.toks + 1 }) :
    wpAny (model prog w) A (Builtin.«enumerate.__next__» ⟨[.ref e], []⟩) (fun fin s' => ∃ v, fin = .done (.ret v) ∧ Q v s') E s := by
  obtain ⟨hp, g, d, tk, os⟩ := s
  show wpAny _ _ (field (.ref e) 2 >>= _) _ _ _
  refine wpAny_bind (wpAny_field he rfl (x := .ref it) rfl ?_)
  refine wpAny_bind (sit_item hit hl hx fun h1 t1 k1 z1 => ?_)
  replace k1 : ∀ c o, c ≠ it → hp.get? c = some o → h1.get? c = some o := k1
  have e1 : IsEnum h1 e it i old := k1 _ _ hne he
  show wpAny _ _ (field (.ref e) 3 >>= _) _ _ ⟨h1, g, d, tk, os⟩
  refine wpAny_bind (wpAny_field e1 rfl (x := rawInt i) rfl ?_)
  show wpAny _ _ (field (.ref e) 4 >>= _) _ _ ⟨h1, g, d, tk, os⟩
  refine wpAny_bind (wpAny_field e1 rfl (x := .none) rfl ?_)
  show wpAny _ _ (mkInt i >>= _) _ _ ⟨h1, g, d, tk, os⟩
  refine wpAny_bind (wpAny_mkInt ?_)
  show wpAny _ _ (setField (.ref e) 3 (rawInt ((i : Int) + 1)) >>= _) _ _ ⟨h1, g, d, tk + 1, os⟩
  refine wpAny_bind (wpAny_setField_rec e1 (by simp) fun h2 e2 s2 => ?_)
  replace s2 : Heap.SameBut e h1 h2 := s2
  replace e2 : IsEnum h2 e it ((i : Int) + 1) old := e2
  show wpAny _ _ (setField (.ref e) 4 .none >>= _) _ _ ⟨h2, g, d, tk + 1, os⟩
  refine wpAny_bind (wpAny_setField_rec e2 (by simp) fun h3 e3 s3 => ?_)
  replace s3 : Heap.SameBut e h2 h3 := s3
  replace e3 : IsEnum h3 e it ((i : Int) + 1) old := e3
  show wpAny _ _ (newTuple [.int i tk, x] >>= _) _ _ ⟨h3, g, d, tk + 1, os⟩
  refine wpAny_bind (wpAny_newTuple ?_)
  have z3 : h3.objs.size = hp.objs.size := by rw [s3.1, s2.1, z1]
  have hel : e < hp.objs.size := Heap.lt_size he
  obtain ⟨h4, eh4⟩ : ∃ h4, h4 = h3.push { cls := .type "tuple", data := .seq #[.int i tk, x] } := ⟨_, rfl⟩
  have e4 : IsEnum h4 e it ((i : Int) + 1) old := by rw [eh4]; exact Heap.get?_push_of_some _ e3
  have t4 : IsTu h4 hp.objs.size #[.int i tk, x] := by rw [eh4, ← z3]; exact Heap.get?_push_size _ rfl
  have z4 : h4.objs.size = hp.objs.size + 1 := by rw [eh4, Heap.size_push, z3]
  have k4 : ∀ c o, c ≠ e → c ≠ it → hp.get? c = some o → h4.get? c = some o := fun c o c1 c2 q => by
    rw [eh4]; exact Heap.get?_push_of_some _ (s3.extBut c o c1 (s2.extBut c o c1 (k1 c o c2 q)))
  have i4 : SIt b h4 it l (i + 1) := t1.ext fun o q => by
    rw [eh4]; exact Heap.get?_push_of_some _ (s3.extBut _ o (Ne.symm hne) (s2.extBut _ o (Ne.symm hne) q))
  rw [← eh4]
  show wpAny _ _ (Builtin.SmallTypes.ownedTupleIsFree (.ref e) >>= _) _ _ ⟨h4, g, d, tk + 1, os⟩
  rw [z3]
  refine wpAny_bind ?_
  unfold Builtin.SmallTypes.ownedTupleIsFree
  refine wpAny_bind (wpAny_field e4 rfl (x := .none) rfl (wpAny_pure ?_))
  simp only [if_true]
  refine wpAny_bind (wpAny_rule ?_)
  refine wpAny_bind (wpAny_field e4 rfl (x := old) rfl ?_)
  refine wpAny_bind (wpAny_setField_rec e4 (by simp) fun h5 e5 s5 => ?_)
  replace s5 : Heap.SameBut e h4 h5 := s5
  replace e5 : IsEnum h5 e it ((i : Int) + 1) x := e5
  show wpAny _ _ (Builtin.SmallTypes.ownedTupleHandOut (.ref e) (.ref hp.objs.size) >>= _) _ _ ⟨h5, g, d, tk + 1, os⟩
  refine wpAny_bind ?_
  unfold Builtin.SmallTypes.ownedTupleHandOut
  refine wpAny_bind (wpAny_setField_rec e5 (by simp) fun h6 e6 s6 => ?_)
  replace s6 : Heap.SameBut e h5 h6 := s6
  replace e6 : IsEnumOut h6 e it ((i : Int) + 1) x hp.objs.size := e6
  refine wpAny_setField_rec e6 (by simp) fun h7 e7 s7 => ?_
  replace s7 : Heap.SameBut e h6 h7 := s7
  replace e7 : IsEnumOut h7 e it ((i : Int) + 1) x hp.objs.size := e7
  have up : ∀ c o, c ≠ e → h4.get? c = some o → h7.get? c = some o := fun c o c1 q => s7.extBut c o c1 (s6.extBut c o c1 (s5.extBut c o c1 q))
  refine wpAny_bind (wpAny_letGo (wpAny_pure ⟨_, rfl, hQ h7 e7 (i4.ext fun o q => up _ o (Ne.symm hne) q) (up _ _ (Nat.ne_of_gt hel) t4) ?_ fun c o c1 c2 q => up c o c1 (k4 c o c1 c2 q)⟩))
  rw [s7.1, s6.1, s5.1, z4]
theorem en_nx {b : Bool} {e it l : Addr} {i : Nat} {xs : Array Value} {x old : Value} {Q : Option Value → Shared → Prop} (he : IsEnum s.heap e it i old) (hit : SIt b s.heap it l i) (hl : SSq b s.heap l xs) (hx : xs[i]? = some x) (hne : e ≠ it)
    (hQ : ∀ h', IsEnumOut h' e it ((i : Int) + 1) x s.heap.objs.size → SIt b h' it l (i + 1) → IsTu h' s.heap.objs.size #[.int i s.toks, x] → h'.objs.size = s.heap.objs.size + 1 →
      (∀ c o, c ≠ e → c ≠ it → s.heap.get? c = some o → h'.get? c = some o) → Q (some (.ref s.heap.objs.size)) { s with heap := h', toks := s.toks + 1 }) : wpAny (model prog w) A (pyNext (.ref e)) Q E s := by
  have hT : s.TypeIs (.ref e) "enumerate" := ⟨_, he, rfl⟩
  unfold pyNext
  exact wpAny_bind (wpAny_attempt (wpAny_callSpecial?_slot (name := Str.ofString "__next__") hT F.slot_enumerate_next
    (wpAny_call_entry F.slot_enumerate_next hT F.entry_enumerate_next (en_item he hit hl hx hne fun h' a b c d k => wpAny_pure (hQ h' a b c d k)) (F.args_enumerate_next_1 _))))
theorem en_nxe {b : Bool} {e it l : Addr} {i : Nat} {xs : Array Value} {old : Value} {Q : Option Value → Shared → Prop} (hh : A.handled = none) (he : IsEnum s.heap e it i old) (hit : SIt b s.heap it l i) (hl : SSq b s.heap l xs) (hx : xs[i]? = none)
    (hQ : ∀ h', (∀ c o, c ≠ it → s.heap.get? c = some o → h'.get? c = some o) → Q none { s with heap := h' }) : wpAny (model prog w) A (pyNext (.ref e)) Q E s := by
  have hT : s.TypeIs (.ref e) "enumerate" := ⟨_, he, rfl⟩
  unfold pyNext
  refine wpAny_bind (wpAny_attempt (wpAny_callSpecial?_slot (name := Str.ofString "__next__") hT F.slot_enumerate_next
    (wpAny_call_entry F.slot_enumerate_next hT F.entry_enumerate_next ?_ (F.args_enumerate_next_1 _))))
  show wpAny _ _ (field (.ref e) 2 >>= _) _ _ _
  refine wpAny_bind (wpAny_field he rfl (x := .ref it) rfl ?_)
  refine wpAny_bind (sit_end hh hit hl hx fun h' y he' hx' => ?_)
  obtain ⟨o, ho, hc⟩ := hx'
  refine wpAny_bind (wpAny_isInstance (T := "StopIteration") (b := true) ⟨o, ho, hc⟩ isSubtype_stop ?_)
  exact wpAny_pure (hQ _ he')
end
abbrev eH (h : Heap) (b : Bool) (l : Addr) : Heap := (h.push (itO b l)).push { cls := .type "enumerate", data := .fields #[.none, .bool false, .ref h.objs.size, rawInt 0, .none, .none] }
theorem meets_enT (l : Addr) (xs : Array Value) (n : Nat) (dct : Option Addr) (sl : Array (Option Value)) :
    Meets (Builtin.«enumerate.__new__» ⟨[.type "enumerate", .ref l], []⟩) (fun _ R s => s.heap.get? l = some { cls := .type "tuple", dict := dct, data := .seq xs n, slots := sl } ∧
      R (.ok (.ret (.ref (s.heap.push (itO true l)).objs.size))) { s with heap := eH s.heap true l }) :=
  .of_wp fun prog w A R s h => by
    obtain ⟨hp, g, d, tk, os⟩ := s
    obtain ⟨hl, h⟩ := h
    have hsub := sub_enumerate
    have hL : Heap.IsTuple (Shared.heap ⟨hp, g, d, tk, os⟩) l xs := ⟨_, hl, rfl, n, rfl⟩
    wp_walk using AutoSeq1.wpAny_loadPart' hl
    refine wpAny_stack_any fun st => wpAny_pure ?_
    split
    · rename_i c _ _ _ _ _
      cases (c == Value.type "enumerate")
      · wp_walk using AutoSeq1.wpAny_loadPart' hl, wpAny_pyIter_tuple hL
        exact ⟨_, rfl, h⟩
      · wp_walk using AutoSeq1.wpAny_loadPart' hl, wpAny_pyIter_tuple hL
        exact ⟨_, rfl, h⟩
    · wp_walk using AutoSeq1.wpAny_loadPart' hl, wpAny_pyIter_tuple hL
      exact ⟨_, rfl, h⟩
section
variable {prog : Program} {w : World} {A : Around} {E : Value → Shared → Prop} {s : Shared}
theorem call_en {b : Bool} {l : Addr} {xs : Array Value} {Q : Value → Shared → Prop} (hl : SSq b s.heap l xs)
    (h : ∀ h', IsEnum h' (s.heap.objs.size + 1) s.heap.objs.size 0 .none → SIt b h' s.heap.objs.size l 0 → (∀ c o, s.heap.get? c = some o → h'.get? c = some o) → Q (.ref (s.heap.objs.size + 1)) { s with heap := h' }) :
    wpAny (model prog w) A (call (.type "enumerate") [.ref l]) Q E s := by
  cases b with
  | false => exact call_enumerate_list hl fun h' a c _ d => h h' a c d
  | true =>
    obtain ⟨⟨c, dct, dt, sl⟩, hl, hc, n, hd⟩ := hl
    replace hc : c = .type "tuple" := hc
    replace hd : dt = .seq xs n := hd
    subst hc hd
    refine callType_new F.called_enumerate (by decide) (F.typeCall_enumerate_1 _) (F.newCall_enumerate_1 _) (fun obj => F.args_object_init_2 obj _) F.entry_enumerate_new (meets_enT l xs n dct sl) ⟨hl, ?_⟩
    have hz : (s.heap.push (itO true l)).objs.size = s.heap.objs.size + 1 := Heap.size_push ..
    show _ ∧ _
    rw [hz]
    have he : (eH s.heap true l).get? (s.heap.push (itO true l)).objs.size = some _ := Heap.get?_push_size _ rfl
    rw [hz] at he
    exact ⟨⟨_, he, rfl⟩, h _ he ⟨_, Heap.get?_push_of_some _ (Heap.get?_push_size _ rfl), rfl, rfl⟩ fun c o y => Heap.get?_push_of_some _ (Heap.get?_push_of_some _ y)⟩
end
def ItE (K : PySem.W.Frag) (b : Bool) (l : Addr) : It :=
  ⟨fun i H => ∃ (xs : List V) (x : V), SqB K H b l xs ∧ xs[i]? = some x,
    fun i H v H' => ∃ T x, v = .ref T ∧ H T = none ∧ H' = upd H T (.tup [.int (i : Nat), x]) ∧ ∀ ys, SqB K H b l ys → ys[i]? = some x,
    fun i H => ∃ xs : List V, SqB K H b l xs ∧ xs.length ≤ i⟩
theorem turn_e {P : Program} {w : World} {K : PySem.W.Frag} {elts : List Expr} {kk : Nat} {tpos : Pos} {b : Bool} {l e it : Addr} (hne : e ≠ it) :
    Turn P w K (.Tuple elts kk tpos) (ItE K b l) [e, it] e (fun i h => (∃ old, IsEnum h e it ((i : Nat) : Int) old) ∧ SIt b h it l i) where
  mem := by simp
  obj := fun i h st c hc => by
    obtain ⟨⟨old, he⟩, hi⟩ := st
    have e' : c = e ∨ c = it := by simpa using hc
    rcases e' with q | q
    · rw [q]; exact ⟨_, he, fun v q => nomatch q⟩
    · rw [q]; exact hi.ob
  keep := fun i h h' st k => by
    obtain ⟨⟨old, he⟩, hi⟩ := st
    exact ⟨⟨old, k e (by simp) _ he⟩, hi.ext fun o q => k it (by simp) o q⟩
  item := by
    intro X hP hw hK hc i pins s σ H E I hf st hg
    subst hP hw hK
    obtain ⟨⟨old, he⟩, hi⟩ := st
    obtain ⟨xs, x, hq, hx⟩ := hg
    obtain ⟨its, rv, p⟩ := inv_sq I hq
    obtain ⟨u, hu, ru⟩ := rv.get hx
    have hel : e < s.heap.objs.size := Heap.lt_size he
    refine en_nx he hi p (x := u) (by simpa using hu) hne fun h' ho hi' hT hsz hk => ?_
    refine ⟨_, rfl, wpAny_letOwnedTupleGo_enum (s := { s with heap := h', toks := s.toks + 1 }) ho fun h'' he' sb => ?_⟩
    have hT2 : h''.get? s.heap.objs.size = some { cls := .type "tuple", data := .seq #[.int i s.toks, u] } := (sb.2 _ (Nat.ne_of_gt hel)).trans hT
    have new : ObjOk X.prog X.w (upd H s.heap.objs.size (.tup [.int (i : Nat), x])) h'' s.heap.objs.size (.tup [.int (i : Nat), x]) :=
      ⟨by show 2 ≤ sizeLine; decide, [.int i s.toks, u], .cons ⟨_, rfl⟩ (.cons ru .nil), ⟨_, hT2, rfl, _, rfl⟩⟩
    have I1 : Inv X pins σ (upd H s.heap.objs.size (.tup [.int (i : Nat), x])) { s with heap := h'', toks := s.toks + 1 } :=
      I.turnedNew (ch := [e, it]) (fun c o hb q => (sb.2 c (fun z => hb (by simp [z]))).trans (hk c o (fun z => hb (by simp [z])) (fun z => hb (by simp [z])) q)) hf (Nat.le_refl _) new
    refine ⟨.ref s.heap.objs.size, _, I1, rfl, ⟨_, x, rfl, I.hok.fresh (Nat.le_refl _), rfl, fun ys hy => by rw [inv_sqi I hy hq]; exact hx⟩, ⟨⟨u, ?_⟩, hi'.ext fun o q => (sb.2 it (Ne.symm hne)).trans q⟩, fun c hcm => ?_⟩
    · have e1 : ((i + 1 : Nat) : Int) = (i : Int) + 1 := by omega
      rw [e1]; exact he'
    · have hlt : c < s.heap.objs.size := by
        have e' : c = e ∨ c = it := by simpa using hcm
        rcases e' with q | q
        · rw [q]; exact hel
        · rw [q]; exact hi.lt
      rw [upd_ne (Nat.ne_of_lt hlt)]
      exact (hf c hcm).1
  done := by
    intro X hP hw hK hc i pins s σ H E I hf st hg
    subst hP hw hK
    obtain ⟨⟨old, he⟩, hi⟩ := st
    obtain ⟨xs, hq, hend⟩ := hg
    obtain ⟨its, rv, p⟩ := inv_sq I hq
    have hl := rv.length
    exact en_nxe (I.ok.hd hc) he hi p (by simp; omega) fun h' hk => ⟨rfl, I.turnedL (t' := s.toks) (ch := [e, it]) (fun c o hb q => hk c o (fun z => hb (by simp [z])) q) hf⟩
  self := fun A i s Q E st h => let ⟨⟨_, he⟩, _⟩ := st; wpAny_pyIter_enum he h
def iE (K : PySem.W.Frag) (ta : TA) : TI := fun σ H R => ta σ H fun vs H1 => ∃ b l xs, vs = [.ref l] ∧ SqB K H1 b l xs ∧ R (ItE K b l) H1
theorem pi_e {X : Cx} {e : Expr} {ta : TA} {p pos tpos : Pos} {elts : List Expr} {kk : Nat} (hg : Gl X "enumerate") (hm : X.mg "enumerate" = none) (ha : PA X [e] ta) (hs : starEach [e] X.env = [(false, eval e X.env)]) :
    PI X (.Tuple elts kk tpos) (.Call (.Name "enumerate" p) [e] [] pos) (iE X.K ta) := by
  refine ⟨fun pins s σ H R I h => ?_⟩
  refine Call_ (ld_blt I hg hm boot_enumerate (PyProof.Rows.callWith_type1 (thn (ha.run pos pins s σ H _ I h) fun us s1 ⟨vs, H1, I1, r1, q1⟩ => ?_) hs rfl))
  obtain ⟨b, l, xs, ex, hq, q⟩ := q1
  subst ex
  cases r1 with
  | @cons _ w1 _ us1 y1 t1 =>
  cases t1
  obtain rfl : w1 = Value.ref l := y1
  obtain ⟨its, rv, p1⟩ := inv_sq I1 hq
  refine call_en p1 fun h' he hit hk => wpAny_pyIter_enum he ?_
  have I2 : Inv X pins σ H1 { s1 with heap := h' } := I1.kept (t' := s1.toks) hk
  refine ⟨s1.heap.objs.size + 1, [s1.heap.objs.size + 1, s1.heap.objs.size], _, _, H1, rfl, I2, turn_e (e := s1.heap.objs.size + 1) (it := s1.heap.objs.size) (Nat.succ_ne_self _), ⟨⟨.none, he⟩, hit⟩, fun c hc => ?_, q⟩
  have hle : s1.heap.objs.size ≤ c := by
    simp only [List.mem_cons, List.not_mem_nil, or_false] at hc
    rcases hc with z | z <;> (rw [z]; first | exact Nat.le_refl _ | exact Nat.le_add_right _ _)
  exact I1.fpOk hle (I1.hok.fresh hle)
end KZ

/-! KM: sums, least and greatest items, sorted lists of rows of ints, over lists and tuples -/
namespace KM
open PySem PySem.Spec PyProof.Rows L2 KZ
open PySem.W (AlikeAll min_list_data min_tuple_data max_list_data max_tuple_data min_list_default min_tuple_default max_list_default max_tuple_default minD_ints maxD_ints dataLe dataLe_rows alikeAll AllAlike Sortable EachIs sorted_data depth_ints)
theorem reads_ints {h : Heap} : ∀ {ns : List Int} {us : List Value}, Vals (ns.map V.int) us → ReadsAll h us (ns.map .int) []
  | [], _, .nil => .nil
  | n :: ns, _, .cons r rr => by
    obtain ⟨t, rfl⟩ := r
    exact ReadsAll.cons (as := []) (bs := []) (.int _ _) (reads_ints rr)
/-- at v: a tuple of the ints -/
def RowV (K : PySem.W.Frag) (H : Hp) (v : V) (r : List Int) : Prop := ∃ p, v = .ref p ∧ SqT K H p (r.map V.int)
section
variable {X : Cx} {pins : List (Addr × Obj)} {σ : L2.St} {H : Hp} {s : Shared}
theorem reads_row (I : Inv X pins σ H s) {v : V} {u : Value} {r : List Int} (rv : RelV v u) (h : RowV X.K H v r) : Reads s.heap u (.tuple (r.map .int)) [] := by
  obtain ⟨p, rfl, hs⟩ := h
  obtain rfl : u = Value.ref p := rv
  obtain ⟨its, ri, ⟨o, ho, hc, n, hd⟩, _⟩ := I.tuple hs
  exact .tuple ho hc hd (by simpa using reads_ints ri)
theorem reads_rows (I : Inv X pins σ H s) : ∀ {vs : List V} {us : List Value} {rs : List (List Int)}, Vals vs us → Paired (RowV X.K H) vs rs → ReadsAll s.heap us (rs.map fun r => .tuple (r.map .int)) []
  | _, _, _, .nil, .nil => .nil
  | _, _, _, .cons a b, .cons c d => ReadsAll.cons (as := []) (bs := []) (reads_row I a c) (reads_rows I b d)
def rSumB (K : PySem.W.Frag) : List V → Hp → VK → Prop := fun vs H Q => ∃ (b : Bool) (p : Addr) (ns : List Int), vs = [V.ref p] ∧ SqB K H b p (ns.map V.int) ∧ Q (.int ns.sum) H
theorem preSum_list (xs : Array (Int × Tok)) : ∀ n, n ≤ xs.size → preSum (numAt xs) n = ((xs.toList.take n).map (·.1)).sum := by
  intro n
  induction n with
  | zero => intro _; rfl
  | succ n ih =>
    intro h
    have e : preSum (numAt xs) (n + 1) = preSum (numAt xs) n + numAt xs n := rfl
    have hl : n < xs.toList.length := by simp; omega
    rw [e, ih (by omega), List.take_succ_eq_append_getElem hl]
    simp [numAt, show n < xs.size by omega]
theorem cr_sumB (hc : X.calm = true) : CallR X (.builtin "sum") (rSumB X.K) := by
  intro pins s σ H vs us Q I r h
  obtain ⟨b, p, ns, rfl, hs, q⟩ := h
  cases b with
  | false => exact cr_sum hc pins s σ H _ us Q I r ⟨p, ns, rfl, hs, q⟩
  | true =>
    obtain ⟨its, rv, hl, _⟩ := I.tuple hs
    rw [Vals.ref1 r]
    have hi := rv.ints
    obtain ⟨xs, e⟩ := hi.allInts.items
    have hn : numsOf (intItems xs).toList = ns := by rw [← e]; exact hi.numsOf
    rw [nums_intItems] at hn
    rw [e] at hl
    refine PySem.W.ktm_sumG (I.ok.hd hc) hl fun h' tk t' hk => ⟨.int _, H, I.kept hk, ⟨_, rfl⟩, ?_⟩
    have e2 : preSum (numAt xs) xs.size = ns.sum := by
      rw [preSum_list xs xs.size (Nat.le_refl _), ← hn]
      rw [show xs.size = xs.toList.length by simp, List.take_length]
    rw [e2]
    exact q
theorem alikeI (ns : List Int) : AlikeAll (ns.map PyData.int) := by
  refine ⟨fun x hx y hy => ?_, fun x hx => ?_⟩
  · obtain ⟨a, _, rfl⟩ := List.mem_map.mp hx
    obtain ⟨b, _, rfl⟩ := List.mem_map.mp hy
    rfl
  · obtain ⟨a, _, rfl⟩ := List.mem_map.mp hx
    intro z; cases z
theorem depthI : ∀ ns : List Int, PyData.depthAll (ns.map PyData.int) = 0 := depth_ints
/-- the greatest (mx) or the least -/
def mostF (mx : Bool) (n : Int) (ns : List Int) : Int := match mx with
  | true => ns.foldl max n
  | false => ns.foldl min n
def rMostB (K : PySem.W.Frag) (mx : Bool) : List V → Hp → VK → Prop := fun vs H Q => ∃ (b : Bool) (p : Addr) (n : Int) (ns : List Int), vs = [V.ref p] ∧ SqB K H b p ((n :: ns).map V.int) ∧ Q (.int (mostF mx n ns)) H
def mostN : Bool → String
  | true => "max"
  | false => "min"
theorem cr_mostB (hc : X.calm = true) (hu : X.A.units + 64 < cLine) (mx : Bool) : CallR X (.builtin (mostN mx)) (rMostB X.K mx) := by
  intro pins s σ H vs us Q I r h
  obtain ⟨b, p, n, ns, rfl, hs, q⟩ := h
  obtain ⟨its, rv, hl⟩ := inv_sq I hs
  rw [Vals.ref1 r]
  have hr : ReadsAll s.heap its.toArray.toList (PyData.int n :: ns.map PyData.int) [] := by simpa using reads_ints rv
  have hd : X.A.units + 1 + PyData.depthAll (PyData.int n :: ns.map PyData.int) < cLine := by
    have := depthI (n :: ns)
    rw [List.map_cons] at this
    rw [this]; omega
  have fin : ∀ (v : Value) (h' : Heap) (tk : Nat) (bs : List Addr), Reads h' v (.int (mostF mx n ns)) bs → (∀ c o, s.heap.get? c = some o → h'.get? c = some o) → EP X pins σ Q v { s with heap := h', toks := tk } := fun v h' tk bs rd k => by
    cases rd with
    | int i t => exact ⟨.int _, H, I.kept k, ⟨t, rfl⟩, q⟩
  cases mx <;> cases b
  · refine min_list_data (I.ok.hd hc) hl hr (alikeI (n :: ns)) hd fun i v h' tk bs _ rd k => ?_
    rw [minD_ints] at rd
    exact fin v h' tk bs rd k
  · refine min_tuple_data (I.ok.hd hc) hl hr (alikeI (n :: ns)) hd fun i v h' tk bs _ rd k => ?_
    rw [minD_ints] at rd
    exact fin v h' tk bs rd k
  · refine max_list_data (I.ok.hd hc) hl hr (alikeI (n :: ns)) hd fun i v h' tk bs _ rd k => ?_
    rw [maxD_ints] at rd
    exact fin v h' tk bs rd k
  · refine max_tuple_data (I.ok.hd hc) hl hr (alikeI (n :: ns)) hd fun i v h' tk bs _ rd k => ?_
    rw [maxD_ints] at rd
    exact fin v h' tk bs rd k
/-- .. with default= -/
def rMostD (K : PySem.W.Frag) (mx : Bool) : List V → List V → Hp → VK → Prop := fun vs zs H Q => ∃ (b : Bool) (p : Addr) (ns : List Int) (d : V), vs = [V.ref p] ∧ zs = [d] ∧ SqB K H b p (ns.map V.int) ∧
  (ns = [] → Q d H) ∧ ∀ n r, ns = n :: r → Q (.int (mostF mx n r)) H
theorem cr_mostD (hc : X.calm = true) (hu : X.A.units + 64 < cLine) (mx : Bool) : CallRK X (.builtin (mostN mx)) [Str.ofString "default"] (rMostD X.K mx) := by
  intro pins s σ H xs zs us ws Q I r rz h
  obtain ⟨b, p, ns, d, rfl, rfl, hs, q0, q1⟩ := h
  obtain ⟨its, rv, hl⟩ := inv_sq I hs
  rw [Vals.ref1 r]
  cases rz with
  | @cons _ w _ ws2 rd rz2 =>
  cases rz2
  have hr : ReadsAll s.heap its.toArray.toList (ns.map PyData.int) [] := by simpa using reads_ints rv
  have hd : X.A.units + 1 + PyData.depthAll (ns.map PyData.int) < cLine := by rw [depthI]; omega
  have fin0 : ns = [] → ∀ (h' : Heap) (tk : Nat), (∀ c o, s.heap.get? c = some o → h'.get? c = some o) → EP X pins σ Q w { s with heap := h', toks := tk } := fun e h' tk k => ⟨_, H, I.kept k, rd, q0 e⟩
  have nn : ∀ {y : PyData} {ys : List PyData}, ns.map PyData.int = y :: ys → ∃ n r, ns = n :: r ∧ y = .int n ∧ ys = r.map .int := fun {y ys} e => by
    cases ns with
    | nil => cases e
    | cons n r => cases e; exact ⟨n, r, rfl, rfl, rfl⟩
  have fin : ∀ n r, ns = n :: r → ∀ (v : Value) (h' : Heap) (tk : Nat) (bs : List Addr), Reads h' v (.int (mostF mx n r)) bs → (∀ c o, s.heap.get? c = some o → h'.get? c = some o) → EP X pins σ Q v { s with heap := h', toks := tk } := fun n r e v h' tk bs rd k => by
    cases rd with
    | int i t => exact ⟨.int _, H, I.kept k, ⟨t, rfl⟩, q1 n r e⟩
  have z0 : ns.map PyData.int = [] → ns = [] := fun e => List.map_eq_nil_iff.mp e
  cases mx <;> cases b
  · refine min_list_default (I.ok.hd hc) hl hr (alikeI ns) hd (fun e => fin0 (z0 e)) fun y ys i v h' tk bs e _ rd k => ?_
    obtain ⟨n, r, e1, rfl, rfl⟩ := nn e
    rw [minD_ints] at rd
    exact fin n r e1 v h' tk bs rd k
  · refine min_tuple_default (I.ok.hd hc) hl hr (alikeI ns) hd (fun e => fin0 (z0 e)) fun y ys i v h' tk bs e _ rd k => ?_
    obtain ⟨n, r, e1, rfl, rfl⟩ := nn e
    rw [minD_ints] at rd
    exact fin n r e1 v h' tk bs rd k
  · refine max_list_default (I.ok.hd hc) hl hr (alikeI ns) hd (fun e => fin0 (z0 e)) fun y ys i v h' tk bs e _ rd k => ?_
    obtain ⟨n, r, e1, rfl, rfl⟩ := nn e
    rw [maxD_ints] at rd
    exact fin n r e1 v h' tk bs rd k
  · refine max_tuple_default (I.ok.hd hc) hl hr (alikeI ns) hd (fun e => fin0 (z0 e)) fun y ys i v h' tk bs e _ rd k => ?_
    obtain ⟨n, r, e1, rfl, rfl⟩ := nn e
    rw [maxD_ints] at rd
    exact fin n r e1 v h' tk bs rd k
/-- the best of alike data -/
def bestP (mx : Bool) (x : PyData) (xs : List PyData) : PyData := match mx with
  | true => PySem.W.maxD x xs
  | false => PySem.W.minD x xs
theorem reads_at {h : Heap} : ∀ {us : List Value} {ds : List PyData} {as : List Addr}, ReadsAll h us ds as → ∀ (i : Nat) (u : Value), us[i]? = some u → ∃ d bs, ds[i]? = some d ∧ Reads h u d bs
  | _, _, _, .nil, i, u, e => by simp at e
  | _, _, _, .cons (as := as) r rr, 0, u, e => by cases e; exact ⟨_, as, rfl, r⟩
  | _, _, _, .cons r rr, i + 1, u, e => reads_at rr i u (by simpa using e)
theorem vals_at : ∀ {vs : List V} {us : List Value}, Vals vs us → ∀ (i : Nat) (u : Value), us[i]? = some u → ∃ v, vs[i]? = some v ∧ RelV v u
  | _, _, .nil, i, u, e => by simp at e
  | _, _, .cons r rr, 0, u, e => by cases e; exact ⟨_, rfl, r⟩
  | _, _, .cons r rr, i + 1, u, e => vals_at rr i u (by simpa using e)
def rBest (K : PySem.W.Frag) (mx : Bool) : List V → Hp → VK → Prop := fun vs H Q => ∃ (b : Bool) (p : Addr) (ws : List V) (x : PyData) (xs : List PyData), vs = [V.ref p] ∧ SqB K H b p ws ∧ DpAll K H ws (x :: xs) ∧ AlikeAll (x :: xs) ∧ PyData.canLayAll0 (x :: xs) = true ∧ PyData.depthAll (x :: xs) ≤ 60 ∧
  ∀ (i : Nat) (v : V), ws[i]? = some v → (x :: xs)[i]? = some (bestP mx x xs) → Q v H
theorem cr_best (hc : X.calm = true) (hu : X.A.units + 64 < cLine) (mx : Bool) : CallR X (.builtin (mostN mx)) (rBest X.K mx) := by
  intro pins s σ H vs us Q I r h
  obtain ⟨b, p, ws, x, xs, rfl, hs, hdp, hal, hcl, hdd, q⟩ := h
  obtain ⟨its, rv, hl⟩ := inv_sq I hs
  rw [Vals.ref1 r]
  obtain ⟨as, hr0⟩ := Dp.readsAll I _ _ _ hdp rv
  have hr : ReadsAll s.heap its.toArray.toList (x :: xs) as := by simpa using hr0
  have hd : X.A.units + 1 + PyData.depthAll (x :: xs) < cLine := by omega
  have fin : ∀ (i : Nat) (v : Value) (h' : Heap) (tk : Nat) (bs : List Addr), its.toArray[i]? = some v → Reads h' v (bestP mx x xs) bs → (∀ c o, s.heap.get? c = some o → h'.get? c = some o) → EP X pins σ Q v { s with heap := h', toks := tk } := fun i v h' tk bs e rd k => by
    have e : its[i]? = some v := by simpa using e
    obtain ⟨d, cs, e1, r1⟩ := reads_at hr0 i v e
    obtain ⟨w, e2, r2⟩ := vals_at rv i v e
    have e3 : d = bestP mx x xs := (PySem.Reads.unique (Reads.keeps k r1) _ _ rd).1
    subst e3
    exact ⟨w, H, I.kept k, r2, q i w e2 e1⟩
  cases mx <;> cases b
  · exact min_list_data (I.ok.hd hc) hl hr hal hd fun i v h' tk bs e rd k => fin i v h' tk bs e rd k
  · exact min_tuple_data (I.ok.hd hc) hl hr hal hd fun i v h' tk bs e rd k => fin i v h' tk bs e rd k
  · exact max_list_data (I.ok.hd hc) hl hr hal hd fun i v h' tk bs e rd k => fin i v h' tk bs e rd k
  · exact max_tuple_data (I.ok.hd hc) hl hr hal hd fun i v h' tk bs e rd k => fin i v h' tk bs e rd k
def rBestD (K : PySem.W.Frag) (mx : Bool) : List V → List V → Hp → VK → Prop := fun vs zs H Q => ∃ (b : Bool) (p : Addr) (ws : List V) (x : PyData) (xs : List PyData) (d : V), vs = [V.ref p] ∧ zs = [d] ∧ SqB K H b p ws ∧ DpAll K H ws (x :: xs) ∧ AlikeAll (x :: xs) ∧ PyData.canLayAll0 (x :: xs) = true ∧ PyData.depthAll (x :: xs) ≤ 60 ∧
  ∀ (i : Nat) (v : V), ws[i]? = some v → (x :: xs)[i]? = some (bestP mx x xs) → Q v H
theorem cr_bestD (hc : X.calm = true) (hu : X.A.units + 64 < cLine) (mx : Bool) : CallRK X (.builtin (mostN mx)) [Str.ofString "default"] (rBestD X.K mx) := by
  intro pins s σ H vs zs us ws0 Q I r rz h
  obtain ⟨b, p, ws, x, xs, d, rfl, rfl, hs, hdp, hal, hcl, hdd, q⟩ := h
  obtain ⟨its, rv, hl⟩ := inv_sq I hs
  rw [Vals.ref1 r]
  cases rz with
  | @cons _ w _ ws2 rd rz2 =>
  cases rz2
  obtain ⟨as, hr0⟩ := Dp.readsAll I _ _ _ hdp rv
  have hr : ReadsAll s.heap its.toArray.toList (x :: xs) as := by simpa using hr0
  have hd : X.A.units + 1 + PyData.depthAll (x :: xs) < cLine := by omega
  have fin : ∀ (i : Nat) (v : Value) (h' : Heap) (tk : Nat) (bs : List Addr), its.toArray[i]? = some v → Reads h' v (bestP mx x xs) bs → (∀ c o, s.heap.get? c = some o → h'.get? c = some o) → EP X pins σ Q v { s with heap := h', toks := tk } := fun i v h' tk bs e rd k => by
    have e : its[i]? = some v := by simpa using e
    obtain ⟨d, cs, e1, r1⟩ := reads_at hr0 i v e
    obtain ⟨w, e2, r2⟩ := vals_at rv i v e
    have e3 : d = bestP mx x xs := (PySem.Reads.unique (Reads.keeps k r1) _ _ rd).1
    subst e3
    exact ⟨w, H, I.kept k, r2, q i w e2 e1⟩
  cases mx <;> cases b
  · exact min_list_default (I.ok.hd hc) hl hr hal hd (fun e => nomatch e) fun y ys i v h' tk bs e0 e rd k => by cases e0; exact fin i v h' tk bs e rd k
  · exact min_tuple_default (I.ok.hd hc) hl hr hal hd (fun e => nomatch e) fun y ys i v h' tk bs e0 e rd k => by cases e0; exact fin i v h' tk bs e rd k
  · exact max_list_default (I.ok.hd hc) hl hr hal hd (fun e => nomatch e) fun y ys i v h' tk bs e0 e rd k => by cases e0; exact fin i v h' tk bs e rd k
  · exact max_tuple_default (I.ok.hd hc) hl hr hal hd (fun e => nomatch e) fun y ys i v h' tk bs e0 e rd k => by cases e0; exact fin i v h' tk bs e rd k
/-! ### sorted rows of ints -/
def leR (a b : List Int) : Bool := decide (a ≤ b)
theorem dataLe_rowsT : dataLe false (fun r : List Int => PyData.tuple (r.map .int)) = leR := by
  have h := dataLe_rows (β := List Int) id
  rw [show leR = fun p q : List Int => decide (id p ≤ id q) from rfl, ← h]
  rfl
def SameLen (rs : List (List Int)) : Prop := ∀ r ∈ rs, 1 ≤ r.length ∧ ∀ q ∈ rs, q.length = r.length
theorem alike_rows : ∀ (a b : List Int), a.length = b.length → alikeAll (a.map PyData.int) (b.map PyData.int) = true
  | [], [], _ => rfl
  | [], _ :: _, h => by cases h
  | _ :: _, [], h => by cases h
  | x :: a, y :: b, h => by
    have := alike_rows a b (by simpa using h)
    simp only [List.map_cons, alikeAll, this, Bool.and_true]
    rfl
theorem rows_alike {rs : List (List Int)} (h : SameLen rs) : AllAlike (rs.map fun r => PyData.tuple (r.map .int)) := by
  intro d hd d' hd'
  obtain ⟨a, ha, rfl⟩ := List.mem_map.mp hd
  obtain ⟨b, hb, rfl⟩ := List.mem_map.mp hd'
  exact alike_rows a b ((h b hb).2 a ha)
theorem rows_sortable {rs : List (List Int)} (h : SameLen rs) : Sortable (rs.map fun r => PyData.tuple (r.map .int)) := .inl fun d hd => by
  obtain ⟨a, ha, rfl⟩ := List.mem_map.mp hd
  cases a with
  | nil => have := (h _ ha).1; simp at this
  | cons x r => exact ⟨_, _, rfl⟩
theorem depth_row (r : List Int) : (PyData.tuple (r.map PyData.int)).depth ≤ 1 := by
  simp only [PyData.depth, depthI]
  omega
theorem each_of {Pv : V → List Int → Prop} : ∀ {vs : List V} {us : List Value} {rs : List (List Int)}, Vals vs us → Paired Pv vs rs → EachIs (fun u r => ∃ v, RelV v u ∧ Pv v r) us rs
  | _, _, _, .nil, .nil => .nil
  | _, _, _, .cons a b, .cons c d => .cons ⟨_, a, c⟩ (each_of b d)
theorem each_back {Pv : V → List Int → Prop} : ∀ {us : List Value} {rs : List (List Int)}, EachIs (fun u r => ∃ v, RelV v u ∧ Pv v r) us rs → ∃ vs, Vals vs us ∧ Paired Pv vs rs
  | _, _, .nil => ⟨[], .nil, .nil⟩
  | _, _, .cons ⟨v, a, b⟩ t => by
    obtain ⟨vs, h1, h2⟩ := each_back t
    exact ⟨v :: vs, .cons a h1, .cons b h2⟩
def rSortR (K : PySem.W.Frag) : List V → Hp → VK → Prop := fun vs H Q => ∃ (Pv : V → List Int → Prop) (a : Addr) (xs : List V) (rs : List (List Int)), (∀ v r, Pv v r → RowV K H v r) ∧ vs = [V.ref a] ∧ SqL K H a xs ∧ Paired Pv xs rs ∧ SameLen rs ∧
  ∀ ys p, Paired Pv ys (rs.mergeSort leR) → H p = none → Q (.ref p) (upd H p (.lst ys))
theorem cr_sortR (hu : X.A.units + 64 < cLine) : CallR X (.builtin "sorted") (rSortR X.K) := by
  intro pins s σ H vs us Q I r h
  obtain ⟨Pv, a, xs, rs, hP, rfl, hs, pr, hl, q⟩ := h
  obtain ⟨its, rv, hL, hz⟩ := I.list hs
  rw [Vals.ref1 r]
  have len : rs.length = xs.length := pr.length.symm
  have e0 := each_of rv pr
  refine sorted_data (enc := fun r : List Int => PyData.tuple (r.map .int)) hL.isList e0 (e0.mono fun u r ⟨v, z1, z2⟩ => ⟨[], reads_row I z1 (hP _ _ z2)⟩) (rows_alike hl) (rows_sortable hl) (by rw [len]; exact hz)
    (fun b _ => by have := depth_row b; omega) fun out ho eo => ?_
  rw [dataLe_rowsT] at eo
  obtain ⟨ys, y1, y2⟩ := each_back eo
  obtain ⟨ep, he'⟩ := PyProof.Rows.sortedAll_at s.heap its out.toArray
  have hlen : ys.length ≤ sizeLine := by rw [y1.length, ho, len]; exact hz
  exact ⟨.ref _, upd H (s.heap.objs.size + 1) (.lst ys), I.laid (t' := s.toks) (fun _ _ => PyProof.Rows.sortedAll_old) (Nat.le_succ _) ⟨hlen, out, ep, y1, he'⟩, rfl, q _ _ y2 (I.hok.fresh (Nat.le_succ _))⟩
end
end KM

namespace KN
open PySem PySem.Spec PyProof.Rows L2

structure Tb where
  fad : Nat → Addr
  cad : Nat → Addr
  knm : Nat → Str
  tabs : List (Addr × Str) := []
  /-- the defs of the text -/
  has : Nat → Bool := fun _ => false

/-- where the places stand (m), and what is kept apart (b) -/
structure Mp where
  m : List Addr
  b : List Addr
def Mp.out (M : Mp) (p : Addr) : Prop := p ∉ M.m ∧ p ∉ M.b

section
variable (K : PySem.W.Frag) (T : Tb)

def TupM (M : Mp) (H : Hp) (p : Addr) (vs : List V) : Prop :=
  (Rd H p (.tup vs) ∧ M.out p) ∨ ∃ (o : Obj) (its : Array Value) (n : Nat), K.lookup p = some o ∧ o.cls = .type "tuple" ∧ o.data = .seq its n ∧ its.size ≤ sizeLine ∧ Vals vs its.toList
def ScrM (M : Mp) (H : Hp) (p : Addr) (vs : List V) : Prop :=
  (Rd H p (.lst vs) ∧ M.out p) ∨ ∃ (o : Obj) (its : Array Value) (n : Nat), K.lookup p = some o ∧ o.cls = .type "list" ∧ o.dict = none ∧ o.data = .seq its n ∧ its.size ≤ sizeLine ∧ Vals vs its.toList
theorem TupM.sq {M : Mp} {H : Hp} {p : Addr} {vs : List V} (h : TupM K M H p vs) : SqT K H p vs := h.imp (·.1) id
theorem ScrM.sq {M : Mp} {H : Hp} {p : Addr} {vs : List V} (h : ScrM K M H p vs) : SqL K H p vs := h.imp (·.1) id

mutual
/-- a value of ours stands for a value of the layer -/
def RD (M : Mp) (H : Hp) : D → V → Prop
  | .non, v => v = .non
  | .bl b, v => v = .bl b
  | .int i, v => v = .int i
  | .str s, v => v = .str s
  | .tup xs, v => ∃ p vs, v = .ref p ∧ TupM K M H p vs ∧ vs.length ≤ LIM ∧ RDs M H xs vs
  | .lst xs, v => ∃ p vs, v = .ref p ∧ (H p = some (.lst vs) ∧ M.out p) ∧ vs.length ≤ LIM ∧ RDs M H xs vs
  | .scr ns, v => ∃ p, v = .ref p ∧ ScrM K M H p (ns.map V.int)
  | .rng lo hi, v => ∃ p, v = .ref p ∧ H p = some (.rng lo hi) ∧ M.out p
  | .obj c ks fs, v => ∃ p dx fvs, v = .ref p ∧ (H p = some (.ins (T.cad c) dx fvs) ∧ M.out p) ∧ fvs.map (·.1) = ks.map T.knm ∧ RDs M H fs (fvs.map (·.2))
  | .exn _ _ _, _ => False
  | .ref a, v => ∃ p, M.m[a]? = some p ∧ v = .ref p
  | .fn f, v => v = .ref (T.fad f) ∧ T.has f = true
def RDs (M : Mp) (H : Hp) : List D → List V → Prop
  | [], vs => vs = []
  | d :: ds, vs => ∃ v r, vs = v :: r ∧ RD M H d v ∧ RDs M H ds r
end

/-- a raised one: its class, its own dict -/
def RX (M : Mp) (H : Hp) : D → Value → Option Addr → Prop
  | .exn c ks fs, cls, dd => cls = .ref (T.cad c) ∧ ((ks = [] ∧ fs = []) ∨ ∃ d fvs, dd = some d ∧ H d = some (.xd fvs) ∧ M.out d ∧ fvs.map (·.1) = ks.map T.knm ∧ RDs K T M H fs (fvs.map (·.2)))
  | _, _, _ => False

def RO (M : Mp) (H : Hp) : O → Addr → Prop
  | .lst xs, p => ∃ vs, H p = some (.lst vs) ∧ vs.length ≤ LIM ∧ RDs K T M H xs vs
  | .ins c ks fs, p => ∃ dx fvs, H p = some (.ins (T.cad c) dx fvs) ∧ fvs.map (·.1) = ks.map T.knm ∧ RDs K T M H fs (fvs.map (·.2))
  | .dk kvs, p => ∃ vs : List (Key × V), H p = some (.dK vs) ∧ vs.length ≤ LIM ∧ vs.map (·.1) = kvs.map (·.1) ∧ RDs K T M H (kvs.map (·.2)) (vs.map (·.2))

structure HR (M : Mp) (H : Hp) (g : G) : Prop where
  len : M.m.length = g.length
  nd : M.m.Nodup
  ob : ∀ (a : Nat) o p, g[a]? = some o → M.m[a]? = some p → RO K T M H o p
  th : ∀ p, ¬ M.out p → ∃ o, H p = some o ∧ ∀ ps, o ≠ .tbl ps
  ap : ∀ p ∈ M.b, p ∉ M.m
  tb : LamX.Tabs T.tabs H

structure RS (M : Mp) (H : Hp) (g : G) (s : KN.St) (σ : L2.St) : Prop where
  hr : HR K T M H g
  len : σ.length = s.length
  sl : ∀ (i : Nat) d, s[i]? = some (some d) → ∃ v, σ[i]? = some (some v) ∧ RD K T M H d v
end

/-- nothing, or a code object's table -/
def Non (H : Hp) (p : Addr) : Prop := ∀ o, H p = some o → ∃ ps, o = .tbl ps
theorem Non.of {H : Hp} {p : Addr} (h : H p = none) : Non H p := fun o e => by rw [h] at e; cases e
theorem Non.no {H : Hp} {p : Addr} {o : HO} (n : Non H p) (h : H p = some o) (nt : ∀ ps, o ≠ .tbl ps) : False := by
  obtain ⟨ps, e⟩ := n o h
  exact nt ps e
structure Ext (M : Mp) (H : Hp) (M' : Mp) (H' : Hp) : Prop where
  sub : ∀ p ∈ M.b, p ∈ M'.b
  bf : ∀ p ∈ M'.b, p ∈ M.b ∨ p ∈ M.m ∨ Non H p
  pre : M.m <+: M'.m
  keep : ∀ p o, H p = some o → p ∉ M.m → (∀ ps, o ≠ .tbl ps) → H' p = some o
  fresh : ∀ p ∈ M'.m, p ∈ M.m ∨ Non H p

theorem Ext.refl (M : Mp) (H : Hp) : Ext M H M H := ⟨fun _ h => h, fun _ h => .inl h, List.prefix_refl _, fun _ _ h _ _ => h, fun _ h => .inl h⟩
theorem Ext.gone {M M1 : Mp} {H H1 : Hp} (a : Ext M H M1 H1) {p : Addr} (z : Non H1 p) : p ∈ M.m ∨ Non H p := by
  by_cases hm : p ∈ M.m
  · exact .inl hm
  · refine .inr fun o e => ?_
    by_cases nt : ∃ ps, o = .tbl ps
    · exact nt
    · exact (z.no (a.keep p o e hm fun ps q => nt ⟨ps, q⟩) fun ps q => nt ⟨ps, q⟩).elim
theorem Ext.trans {M M1 M2 : Mp} {H H1 H2 : Hp} (a : Ext M H M1 H1) (b : Ext M1 H1 M2 H2) : Ext M H M2 H2 := by
  refine ⟨fun p h => b.sub p (a.sub p h), fun p h => ?_, a.pre.trans b.pre, fun p o h hp nt => ?_, fun p hp => ?_⟩
  · rcases b.bf p h with z | z | z
    · exact a.bf p z
    · exact .inr (a.fresh p z)
    · exact .inr (a.gone z)
  · have h1 := a.keep p o h hp nt
    refine b.keep p o h1 (fun hm => ?_) nt
    rcases a.fresh p hm with z | z
    · exact hp z
    · exact z.no h nt
  · rcases b.fresh p hp with z | z
    · exact a.fresh p z
    · exact a.gone z
theorem Ext.out {M M' : Mp} {H H' : Hp} (e : Ext M H M' H') {p : Addr} {o : HO} (h : H p = some o) (hp : M.out p) (nt : ∀ ps, o ≠ HO.tbl ps := by intro ps z; cases z) : M'.out p ∧ H' p = some o := by
  refine ⟨⟨fun hm => ?_, fun hm => ?_⟩, e.keep p o h hp.1 nt⟩
  · rcases e.fresh p hm with z | z
    · exact hp.1 z
    · exact z.no h nt
  · rcases e.bf p hm with z | z | z
    · exact hp.2 z
    · exact hp.1 z
    · exact z.no h nt

section
variable {K : PySem.W.Frag} {T : Tb} {M M' : Mp} {H H' : Hp}

theorem Ext.tup (e : Ext M H M' H') {p : Addr} {vs : List V} (h : TupM K M H p vs) : TupM K M' H' p vs := by
  rcases h with ⟨h | ⟨o, h⟩, ho⟩ | h
  · exact .inl ⟨.inl (e.out h ho).2, (e.out h ho).1⟩
  · exact .inl ⟨.inr ⟨o, (e.out h ho).2⟩, (e.out h ho).1⟩
  · exact .inr h
theorem Ext.scr (e : Ext M H M' H') {p : Addr} {vs : List V} (h : ScrM K M H p vs) : ScrM K M' H' p vs := by
  rcases h with ⟨h | ⟨o, h⟩, ho⟩ | h
  · exact .inl ⟨.inl (e.out h ho).2, (e.out h ho).1⟩
  · exact .inl ⟨.inr ⟨o, (e.out h ho).2⟩, (e.out h ho).1⟩
  · exact .inr h

/-- what values lean on stays -/
structure Keeps (M : Mp) (H : Hp) (M' : Mp) (H' : Hp) : Prop where
  out : ∀ p o, H p = some o → M.out p → (∀ ps, o ≠ .tbl ps) → M'.out p ∧ H' p = some o
  pre : ∀ (a : Nat) p, M.m[a]? = some p → M'.m[a]? = some p
theorem Ext.keeps (e : Ext M H M' H') : Keeps M H M' H' := ⟨fun p o h ho nt => e.out h ho nt, fun a p h => by
  obtain ⟨t, ht⟩ := e.pre
  rw [← ht, List.getElem?_append_left (List.getElem?_eq_some_iff.mp h).1]
  exact h⟩
theorem Keeps.tup (e : Keeps M H M' H') {p : Addr} {vs : List V} (h : TupM K M H p vs) : TupM K M' H' p vs := by
  rcases h with ⟨h | ⟨o, h⟩, ho⟩ | h
  · exact .inl ⟨.inl (e.out _ _ h ho (fun _ z => by cases z)).2, (e.out _ _ h ho (fun _ z => by cases z)).1⟩
  · exact .inl ⟨.inr ⟨o, (e.out _ _ h ho (fun _ z => by cases z)).2⟩, (e.out _ _ h ho (fun _ z => by cases z)).1⟩
  · exact .inr h
theorem Keeps.scr (e : Keeps M H M' H') {p : Addr} {vs : List V} (h : ScrM K M H p vs) : ScrM K M' H' p vs := by
  rcases h with ⟨h | ⟨o, h⟩, ho⟩ | h
  · exact .inl ⟨.inl (e.out _ _ h ho (fun _ z => by cases z)).2, (e.out _ _ h ho (fun _ z => by cases z)).1⟩
  · exact .inl ⟨.inr ⟨o, (e.out _ _ h ho (fun _ z => by cases z)).2⟩, (e.out _ _ h ho (fun _ z => by cases z)).1⟩
  · exact .inr h
mutual
theorem RD.keeps (e : Keeps M H M' H') : ∀ (d : D) (v : V), RD K T M H d v → RD K T M' H' d v
  | .non, v, h => h
  | .bl _, v, h => h
  | .int _, v, h => h
  | .str _, v, h => h
  | .tup xs, v, h => by
    obtain ⟨p, vs, e1, h1, h2, h3⟩ := h
    exact ⟨p, vs, e1, e.tup h1, h2, RDs.keeps e xs vs h3⟩
  | .lst xs, v, h => by
    obtain ⟨p, vs, e1, h1, h2, h3⟩ := h
    have q := e.out _ _ h1.1 h1.2 (fun _ z => by cases z)
    exact ⟨p, vs, e1, ⟨q.2, q.1⟩, h2, RDs.keeps e xs vs h3⟩
  | .scr xs, v, h => by
    obtain ⟨p, e1, h1⟩ := h
    exact ⟨p, e1, e.scr h1⟩
  | .rng a b, v, h => by
    obtain ⟨p, e1, h1, h2⟩ := h
    have q := e.out _ _ h1 h2 (fun _ z => by cases z)
    exact ⟨p, e1, q.2, q.1⟩
  | .obj c ks fs, v, h => by
    obtain ⟨p, dx, fvs, e1, h1, h2, h3⟩ := h
    have q := e.out _ _ h1.1 h1.2 (fun _ z => by cases z)
    exact ⟨p, dx, fvs, e1, ⟨q.2, q.1⟩, h2, RDs.keeps e fs _ h3⟩
  | .exn _ _ _, v, h => h
  | .ref a, v, h => by
    obtain ⟨p, h1, h2⟩ := h
    exact ⟨p, e.pre _ _ h1, h2⟩
  | .fn _, v, h => h
theorem RDs.keeps (e : Keeps M H M' H') : ∀ (ds : List D) (vs : List V), RDs K T M H ds vs → RDs K T M' H' ds vs
  | [], vs, h => h
  | d :: ds, vs, h => by
    obtain ⟨v, r, e1, h1, h2⟩ := h
    exact ⟨v, r, e1, RD.keeps e d v h1, RDs.keeps e ds r h2⟩
end
theorem RD.ext (e : Ext M H M' H') (d : D) (v : V) (h : RD K T M H d v) : RD K T M' H' d v := RD.keeps e.keeps d v h
theorem RDs.ext (e : Ext M H M' H') (ds : List D) (vs : List V) (h : RDs K T M H ds vs) : RDs K T M' H' ds vs := RDs.keeps e.keeps ds vs h
theorem RO.keeps (e : Keeps M H M' H') {o : O} {p : Addr} (hp : H' p = H p) (h : RO K T M H o p) : RO K T M' H' o p := by
  cases o with
  | lst xs =>
    obtain ⟨vs, h1, h2, h3⟩ := h
    exact ⟨vs, hp.trans h1, h2, RDs.keeps e _ _ h3⟩
  | ins c ks fs =>
    obtain ⟨dx, fvs, h1, h2, h3⟩ := h
    exact ⟨dx, fvs, hp.trans h1, h2, RDs.keeps e _ _ h3⟩
  | dk kvs =>
    obtain ⟨vs, h1, h2, h3, h4⟩ := h
    exact ⟨vs, hp.trans h1, h2, h3, RDs.keeps e _ _ h4⟩

theorem RDs.length : ∀ {ds : List D} {vs : List V}, RDs K T M H ds vs → ds.length = vs.length
  | [], vs, h => by cases h; rfl
  | d :: ds, vs, h => by
    obtain ⟨v, r, rfl, h1, h2⟩ := h
    simp [RDs.length h2]
theorem RDs.get : ∀ {ds : List D} {vs : List V} {i : Nat} {d : D}, RDs K T M H ds vs → ds[i]? = some d → ∃ v, vs[i]? = some v ∧ RD K T M H d v
  | [], vs, i, d, h, e => by simp at e
  | x :: ds, vs, i, d, h, e => by
    obtain ⟨v, r, rfl, h1, h2⟩ := h
    cases i with
    | zero => simp at e; subst e; exact ⟨v, rfl, h1⟩
    | succ i => simpa using RDs.get (i := i) h2 (by simpa using e)
theorem RDs.append : ∀ {ds es : List D} {vs ws : List V}, RDs K T M H ds vs → RDs K T M H es ws → RDs K T M H (ds ++ es) (vs ++ ws)
  | [], es, vs, ws, h, h' => by cases h; exact h'
  | x :: ds, es, vs, ws, h, h' => by
    obtain ⟨v, r, rfl, h1, h2⟩ := h
    exact ⟨v, r ++ ws, rfl, h1, RDs.append h2 h'⟩
theorem RDs.set : ∀ {ds : List D} {vs : List V} (i : Nat) {d : D} {v : V}, RDs K T M H ds vs → RD K T M H d v → RDs K T M H (ds.set i d) (vs.set i v)
  | [], vs, i, d, v, h, _ => by cases h; rfl
  | x :: ds, vs, i, d, v, h, hd => by
    obtain ⟨v', r, rfl, h1, h2⟩ := h
    cases i with
    | zero => exact ⟨v, r, rfl, hd, h2⟩
    | succ i => exact ⟨v', r.set i v, rfl, h1, RDs.set i h2 hd⟩
theorem RDs.take : ∀ {ds : List D} {vs : List V} (n : Nat), RDs K T M H ds vs → RDs K T M H (ds.take n) (vs.take n)
  | _, _, 0, _ => by rfl
  | [], vs, n + 1, h => by cases h; rfl
  | x :: ds, vs, n + 1, h => by
    obtain ⟨v, r, rfl, h1, h2⟩ := h
    exact ⟨v, r.take n, rfl, h1, RDs.take n h2⟩
theorem RDs.drop : ∀ {ds : List D} {vs : List V} (n : Nat), RDs K T M H ds vs → RDs K T M H (ds.drop n) (vs.drop n)
  | ds, vs, 0, h => by simpa using h
  | [], vs, n + 1, h => by cases h; rfl
  | x :: ds, vs, n + 1, h => by
    obtain ⟨v, r, rfl, h1, h2⟩ := h
    simpa using RDs.drop n h2
theorem RDs.ints {ns : List Int} : RDs K T M H (ns.map D.int) (ns.map V.int) := by
  induction ns with
  | nil => rfl
  | cons n r ih => exact ⟨_, _, rfl, rfl, ih⟩
theorem RDs.of_ints : ∀ {ds : List D} {ns : List Int} {vs : List V}, KN.intsD ds = some ns → RDs K T M H ds vs → vs = ns.map V.int
  | [], ns, vs, e, h => by simp [KN.intsD] at e; subst e; exact h
  | d :: ds, ns, vs, e, h => by
    obtain ⟨v, r, rfl, h1, h2⟩ := h
    cases d <;> simp [KN.intsD] at e
    obtain ⟨ms, e1, rfl⟩ := e
    cases h1
    rw [RDs.of_ints e1 h2]; rfl
theorem RDs.of_bools : ∀ {ds : List D} {ns : List Bool} {vs : List V}, KN.bools ds = some ns → RDs K T M H ds vs → vs = ns.map V.bl
  | [], ns, vs, e, h => by simp [KN.bools] at e; subst e; exact h
  | d :: ds, ns, vs, e, h => by
    obtain ⟨v, r, rfl, h1, h2⟩ := h
    cases d <;> simp [KN.bools] at e
    obtain ⟨ms, e1, rfl⟩ := e
    cases h1
    rw [RDs.of_bools e1 h2]; rfl

/-- a new object, no place -/
theorem Ext.new {p : Addr} {o : HO} (h : H p = none) : Ext M H M (upd H p o) :=
  ⟨fun _ h => h, fun _ h => .inl h, List.prefix_refl _, fun q u e _ _ => by rw [upd_ne (ne_of_none e h)]; exact e, fun _ h => .inl h⟩
theorem RO.ext (e : Ext M H M' H') {o : O} {p : Addr} (hp : H' p = H p) (h : RO K T M H o p) : RO K T M' H' o p := by
  cases o with
  | lst xs =>
    obtain ⟨vs, h1, h2, h3⟩ := h
    exact ⟨vs, hp.trans h1, h2, RDs.ext e _ _ h3⟩
  | ins c ks fs =>
    obtain ⟨dx, fvs, h1, h2, h3⟩ := h
    exact ⟨dx, fvs, hp.trans h1, h2, RDs.ext e _ _ h3⟩
  | dk kvs =>
    obtain ⟨vs, h1, h2, h3, h4⟩ := h
    exact ⟨vs, hp.trans h1, h2, h3, RDs.ext e _ _ h4⟩
theorem HR.out {g : G} (h : HR K T M H g) {p : Addr} (e : H p = none) : M.out p := by
  by_cases q : M.out p
  · exact q
  · obtain ⟨o, z, _⟩ := h.th p q
    rw [e] at z; cases z
theorem tabs_new {L : List (Addr × Str)} (h : LamX.Tabs L H) {p : Addr} {o : HO} (e : H p = none) : LamX.Tabs L (upd H p o) := h.ext fun b u z => by rw [upd_ne (ne_of_none z e)]; exact z
theorem tabs_put {L : List (Addr × Str)} (h : LamX.Tabs L H) {p : Addr} {o u : HO} (e : H p = some u) (n1 : ∀ ps, u ≠ .tbl ps) (n2 : ∀ c q, u ≠ LamX.CodeO c q) : LamX.Tabs L (upd H p o) := by
  intro x hx
  obtain ⟨ps, h1, h2, h3⟩ := h x hx
  refine ⟨ps, by rw [upd_ne fun z => n1 ps (Option.some.inj (e.symm.trans (by rw [← z]; exact h1)))]; exact h1, h2, fun pos cv z => ?_⟩
  obtain ⟨c, e1, e2⟩ := h3 pos cv z
  exact ⟨c, e1, by rw [upd_ne fun y => n2 c x.2 (Option.some.inj (e.symm.trans (by rw [← y]; exact e2)))]; exact e2⟩
theorem RO.kind {o : O} {p : Addr} (h : RO K T M H o p) : ∃ u, H p = some u ∧ (∀ ps, u ≠ .tbl ps) ∧ ∀ c q, u ≠ LamX.CodeO c q := by
  cases o with
  | lst xs => obtain ⟨vs, h1, _⟩ := h; exact ⟨_, h1, fun _ z => (by cases z), fun _ _ z => (by unfold LamX.CodeO at z; cases z)⟩
  | ins c ks fs => obtain ⟨dx, fvs, h1, _⟩ := h; exact ⟨_, h1, fun _ z => (by cases z), fun _ _ z => (by unfold LamX.CodeO at z; cases z)⟩
  | dk kvs => obtain ⟨vs, h1, _⟩ := h; exact ⟨_, h1, fun _ z => (by cases z), fun _ _ z => (by unfold LamX.CodeO at z; cases z)⟩
theorem HR.place {g : G} (h : HR K T M H g) {a : Nat} {p : Addr} (ha : M.m[a]? = some p) : ∃ u, H p = some u ∧ (∀ ps, u ≠ .tbl ps) ∧ ∀ c q, u ≠ LamX.CodeO c q := by
  have hl : a < g.length := by rw [← h.len]; exact (List.getElem?_eq_some_iff.mp ha).1
  exact (h.ob a _ p (List.getElem?_eq_getElem hl) ha).kind
theorem HR.new {g : G} (h : HR K T M H g) {p : Addr} {o : HO} (e : H p = none) : HR K T M (upd H p o) g := by
  refine ⟨h.len, h.nd, fun a u q h1 h2 => ?_, fun q hq => ?_, h.ap, tabs_new h.tb e⟩
  · have ho := h.ob a u q h1 h2
    refine RO.ext (Ext.new e) ?_ ho
    refine upd_ne fun z => ?_
    subst z
    exact (h.out e).1 (List.mem_of_getElem? h2)
  · obtain ⟨u, z, zt⟩ := h.th q hq
    exact ⟨u, by rw [upd_ne (ne_of_none z e)]; exact z, zt⟩
/-- .. that is a place -/
theorem Ext.newRef {p : Addr} {o : HO} (h : H p = none) : Ext M H ⟨M.m ++ [p], M.b⟩ (upd H p o) :=
  ⟨fun _ h => h, fun _ h => .inl h, List.prefix_append _ _, fun q u e _ _ => by rw [upd_ne (ne_of_none e h)]; exact e, fun q hq => by
    rcases List.mem_append.mp hq with z | z
    · exact .inl z
    · rw [List.mem_singleton.mp z]; exact .inr (.of h)⟩
theorem HR.newRef {g : G} (h : HR K T M H g) {p : Addr} {o : HO} {u : O} (e : H p = none) (ho : RO K T ⟨M.m ++ [p], M.b⟩ (upd H p o) u p) : HR K T ⟨M.m ++ [p], M.b⟩ (upd H p o) (g ++ [u]) := by
  have hp := h.out e
  refine ⟨by simp [h.len], ?_, fun a w q h1 h2 => ?_, fun q hq => ?_, fun q hq hm => ?_, tabs_new h.tb e⟩
  · refine List.nodup_append.mpr ⟨h.nd, by simp, fun x hx y hy => ?_⟩
    rw [List.mem_singleton.mp hy]
    rintro rfl
    exact hp.1 hx
  · by_cases ha : a < g.length
    · rw [List.getElem?_append_left ha] at h1
      have h2' : (M.m ++ [p])[a]? = some q := h2
      rw [List.getElem?_append_left (by rw [h.len]; exact ha)] at h2'
      refine RO.ext (Ext.newRef e) ?_ (h.ob a w q h1 h2')
      refine upd_ne fun z => ?_
      subst z
      exact hp.1 (List.mem_of_getElem? h2')
    · have e1 : a = g.length := by
        have := (List.getElem?_eq_some_iff.mp h1).1
        simp at this; omega
      subst e1
      simp at h1
      have h2' : (M.m ++ [p])[g.length]? = some q := h2
      rw [← h.len] at h2'
      simp at h2'
      subst h1; subst h2'
      exact ho
  · by_cases z : q = p
    · obtain ⟨u2, y1, y2, _⟩ := ho.kind
      exact ⟨u2, by rw [z]; exact y1, y2⟩
    · have : ¬ M.out q := fun w => hq ⟨fun hm => by
        rcases List.mem_append.mp hm with y | y
        · exact w.1 y
        · exact z (List.mem_singleton.mp y), w.2⟩
      obtain ⟨u', y, yt⟩ := h.th q this
      exact ⟨u', by rw [upd_ne z]; exact y, yt⟩
  · rcases List.mem_append.mp hm with y | y
    · exact h.ap q hq y
    · rw [List.mem_singleton.mp y] at hq
      exact hp.2 hq
/-- a place is written -/
theorem Ext.write {a : Nat} {p : Addr} {o : HO} (h : M.m[a]? = some p) : Ext M H M (upd H p o) :=
  ⟨fun _ h => h, fun _ h => .inl h, List.prefix_refl _, fun q u e hq _ => by
    rw [upd_ne fun z => hq (by rw [z]; exact List.mem_of_getElem? h)]; exact e, fun _ h => .inl h⟩
theorem HR.write {g : G} (h : HR K T M H g) {a : Nat} {p : Addr} {o : HO} {u : O} (ha : M.m[a]? = some p) (ho : RO K T M (upd H p o) u p) : HR K T M (upd H p o) (g.set a u) := by
  obtain ⟨u0, k1, k2, k3⟩ := h.place ha
  refine ⟨by simp [h.len], h.nd, fun c w q h1 h2 => ?_, fun q hq => ?_, h.ap, tabs_put h.tb k1 k2 k3⟩
  · by_cases hc : c = a
    · subst hc
      have hl : c < g.length := by rw [← h.len]; exact (List.getElem?_eq_some_iff.mp ha).1
      rw [List.getElem?_set_self hl] at h1
      cases h1
      rw [ha] at h2; cases h2
      exact ho
    · rw [List.getElem?_set_ne (Ne.symm hc)] at h1
      refine RO.ext (Ext.write ha) ?_ (h.ob c w q h1 h2)
      refine upd_ne fun z => hc ?_
      subst z
      obtain ⟨l1, e1⟩ := List.getElem?_eq_some_iff.mp ha
      obtain ⟨l2, e2⟩ := List.getElem?_eq_some_iff.mp h2
      exact (List.getElem_inj h.nd).mp (e2.trans e1.symm)
  · obtain ⟨u', y, yt⟩ := h.th q hq
    by_cases z : q = p
    · obtain ⟨u2, y1, y2, _⟩ := ho.kind
      exact ⟨u2, by rw [z]; exact y1, y2⟩
    · exact ⟨u', by rw [upd_ne z]; exact y, yt⟩
theorem HR.at {g : G} (h : HR K T M H g) {a : Nat} {o : O} {p : Addr} (e : g[a]? = some o) (hp : M.m[a]? = some p) : RO K T M H o p := h.ob a o p e hp

theorem RS.ext {g g' : G} {s : KN.St} {σ : L2.St} (r : RS K T M H g s σ) (e : Ext M H M' H') (h : HR K T M' H' g') : RS K T M' H' g' s σ :=
  ⟨h, r.len, fun i d q => by
    obtain ⟨v, h1, h2⟩ := r.sl i d q
    exact ⟨v, h1, RD.ext e d v h2⟩⟩
theorem RS.set {g : G} {s : KN.St} {σ : L2.St} (r : RS K T M H g s σ) {i : Nat} {d : D} {v : V} (hi : i < s.length) (hd : RD K T M H d v) : RS K T M H g (s.set i (some d)) (σ.set i (some v)) := by
  refine ⟨r.hr, by simp [r.len], fun j d' q => ?_⟩
  by_cases hj : j = i
  · subst hj
    rw [List.getElem?_set_self hi] at q
    cases q
    exact ⟨v, by rw [List.getElem?_set_self (by rw [r.len]; exact hi)], hd⟩
  · rw [List.getElem?_set_ne (Ne.symm hj)] at q
    obtain ⟨v', h1, h2⟩ := r.sl j d' q
    exact ⟨v', by rw [List.getElem?_set_ne (Ne.symm hj)]; exact h1, h2⟩
end

/-! ### what a run of ours says -/
section
variable (K : PySem.W.Frag) (T : Tb)
def wpR {A : Type} (W : WX) (σ : L2.St) (M : Mp) (H : Hp) (r : R A) (post : A → Mp → Hp → G → Prop) : Prop :=
  match r with
  | .ok a g => ∀ M' H', Ext M H M' H' → HR K T M' H' g → post a M' H' g
  | .exc x g => ∀ M' H' cls dd, Ext M H M' H' → HR K T M' H' g → RX K T M' H' x cls dd → W cls dd σ H'
  | .st => False
end
section
variable {K : PySem.W.Frag} {T : Tb} {W : WX} {σ : L2.St} {M : Mp} {H : Hp} {A B : Type}
theorem wpR.ext {r : R A} {post : A → Mp → Hp → G → Prop} {M1 : Mp} {H1 : Hp} (h : wpR K T W σ M H r post) (e : Ext M H M1 H1) : wpR K T W σ M1 H1 r post := by
  cases r with
  | ok a g => exact fun M' H' e' => h M' H' (e.trans e')
  | exc x g => exact fun M' H' cls dd e' => h M' H' cls dd (e.trans e')
  | st => exact h
theorem wpR.bind {r : R A} {f : A → G → R B} {post : B → Mp → Hp → G → Prop} {mid : A → Mp → Hp → G → Prop} (h : wpR K T W σ M H (r.bind f) post)
    (k : ∀ a M1 H1 g1, Ext M H M1 H1 → HR K T M1 H1 g1 → wpR K T W σ M1 H1 (f a g1) post → mid a M1 H1 g1) : wpR K T W σ M H r mid := by
  cases r with
  | ok a g => exact fun M' H' e hr => k a M' H' g e hr (wpR.ext (show wpR K T W σ M H (f a g) post from h) e)
  | exc x g => exact h
  | st => exact h
theorem wpR.mono {r : R A} {post mid : A → Mp → Hp → G → Prop} (h : wpR K T W σ M H r post)
    (k : ∀ a M1 H1 g1, Ext M H M1 H1 → HR K T M1 H1 g1 → post a M1 H1 g1 → mid a M1 H1 g1) : wpR K T W σ M H r mid := by
  cases r with
  | ok a g => exact fun M' H' e hr => k a M' H' g e hr (h M' H' e hr)
  | exc x g => exact h
  | st => exact h
theorem wpR.at {a : A} {g : G} {post : A → Mp → Hp → G → Prop} (h : wpR K T W σ M H (.ok a g) post) (hr : HR K T M H g) : post a M H g := h M H (Ext.refl M H) hr
end

theorem _root_.L2.PE.via {X : Cx} {e : Expr} {t t' : TE} (h : PE X e t) (i : ∀ σ H Q, t' σ H Q → t σ H Q) : PE X e t' := ⟨fun pins s σ H Q I hw => h.run pins s σ H Q I (i _ _ _ hw)⟩
theorem _root_.L2.PT.via {X : Cx} {e : Expr} {t t' : TT} (h : PT X e t) (i : ∀ σ H Q, t' σ H Q → t σ H Q) : PT X e t' := ⟨fun pins s σ H Q I hw => h.run pins s σ H Q I (i _ _ _ hw)⟩
theorem _root_.L2.PA.via {X : Cx} {e : List Expr} {t t' : TA} (h : PA X e t) (i : ∀ σ H Q, t' σ H Q → t σ H Q) : PA X e t' := ⟨fun pos pins s σ H Q I hw => h.run pos pins s σ H Q I (i _ _ _ hw)⟩
theorem _root_.L2.PS.via {X : Cx} {e : Stmt} {t t' : TS} (h : PS X e t) (i : ∀ D σ H, t' D σ H → t D σ H) : PS X e t' := ⟨fun pins s σ H D I hw => h.run pins s σ H D I (i _ _ _ hw)⟩
theorem _root_.L2.PSs.via {X : Cx} {e : List Stmt} {t t' : TS} (h : PSs X e t) (i : ∀ D σ H, t' D σ H → t D σ H) : PSs X e t' := ⟨fun pins s σ H D I hw => h.run pins s σ H D I (i _ _ _ hw)⟩

section
variable (X : Cx) (T : Tb) (W : WX)
def lfE (ev : KN.St → G → R D) : TE := fun σ H Q => ∃ M s g, RS X.K T M H g s σ ∧ wpR X.K T W σ M H (ev s g) fun d M' H' _ => ∀ v, RD X.K T M' H' d v → Q v H'
def lfEs (ev : KN.St → G → R (List D)) : TA := fun σ H Q => ∃ M s g, RS X.K T M H g s σ ∧ wpR X.K T W σ M H (ev s g) fun ds M' H' _ => ∀ vs, RDs X.K T M' H' ds vs → Q vs H'
def lfC (ev : KN.St → G → R Bool) : TT := fun σ H Q => ∃ M s g, RS X.K T M H g s σ ∧ wpR X.K T W σ M H (ev s g) fun b _ H' _ => Q b H'
end

end KN

namespace KN
open PySem PySem.Spec PyProof.Rows L2

theorem LIM_eq : LIM = sizeLine := by rw [sizeLine_eq, lim_is]
theorem lim_of {n : Nat} (h : n ≤ LIM) : n ≤ sizeLine := by rw [← LIM_eq]; exact h
theorem six_eq (n d : Nat) (o : Option Int) : six n d o = HT.sIx n d o := by cases o <;> rfl
theorem cut_eq (xs : List V) (lo hi : Option Int) : cut xs lo hi = cutV xs lo hi := by unfold cut cutV; rw [six_eq, six_eq]
theorem ixn_eq (n : Nat) (i : Int) : ixn n i = ixN n i := rfl
theorem cut_map {A B : Type} (f : A → B) (xs : List A) (lo hi : Option Int) : (cut xs lo hi).map f = cut (xs.map f) lo hi := by
  unfold cut; rw [List.map_take, List.map_drop, List.length_map]
theorem cut_len {A : Type} (xs : List A) (lo hi : Option Int) : (cut xs lo hi).length ≤ xs.length := by
  unfold cut
  rw [List.length_take, List.length_drop]
  omega

section
variable {K : PySem.W.Frag} {T : Tb} {M : Mp} {H : Hp} {g : G}
theorem RDs.cut {ds : List D} {vs : List V} (h : RDs K T M H ds vs) (lo hi : Option Int) : RDs K T M H (cut ds lo hi) (cutV vs lo hi) := by
  rw [← cut_eq]
  unfold KN.cut
  rw [h.length]
  exact (h.drop _).take _
theorem RD.new_lst {p : Addr} {ds : List D} {vs : List V} (hr : HR K T M H g) (hp : H p = none) (h : RDs K T M H ds vs) (hl : vs.length ≤ LIM) : RD K T M (upd H p (.lst vs)) (.lst ds) (.ref p) :=
  ⟨p, vs, rfl, ⟨upd_same, hr.out hp⟩, hl, RDs.ext (Ext.new hp) _ _ h⟩
theorem RD.new_tup {p : Addr} {ds : List D} {vs : List V} (hr : HR K T M H g) (hp : H p = none) (h : RDs K T M H ds vs) (hl : vs.length ≤ LIM) : RD K T M (upd H p (.tup vs)) (.tup ds) (.ref p) :=
  ⟨p, vs, rfl, .inl ⟨.inl upd_same, hr.out hp⟩, hl, RDs.ext (Ext.new hp) _ _ h⟩
/-- what a view says -/
theorem RD.view (hr : HR K T M H g) {d : D} {v : V} (h : RD K T M H d v) :
    (∃ a xs p vs, d = .ref a ∧ view g d = .lst xs ∧ v = .ref p ∧ H p = some (.lst vs) ∧ vs.length ≤ LIM ∧ RDs K T M H xs vs) ∨ (∃ a, view g d = .ref a) ∨ view g d = d := by
  cases d with
  | ref a =>
    obtain ⟨p, h1, h2⟩ := h
    unfold KN.view
    cases e : g[a]? with
    | none => exact .inr (.inl ⟨a, by simp [e]⟩)
    | some o =>
      cases o with
      | lst xs =>
        obtain ⟨vs, q1, q2, q3⟩ := hr.at e h1
        exact .inl ⟨a, xs, p, vs, rfl, by simp [e], h2, q1, q2, q3⟩
      | ins c ks fs => exact .inr (.inl ⟨a, by simp [e]⟩)
      | dk k => exact .inr (.inl ⟨a, by simp [e]⟩)
  | _ => exact .inr (.inr rfl)
theorem RD.vint (hr : HR K T M H g) {d : D} {v : V} {i : Int} (h : RD K T M H d v) (e : KN.view g d = .int i) : v = .int i := by
  rcases h.view hr with ⟨a, xs, p, vs, _, e2, _⟩ | ⟨a, e2⟩ | e2
  · rw [e] at e2; cases e2
  · rw [e] at e2; cases e2
  · rw [e] at e2; subst e2; exact h
theorem RD.vstr (hr : HR K T M H g) {d : D} {v : V} {i : Str} (h : RD K T M H d v) (e : KN.view g d = .str i) : v = .str i := by
  rcases h.view hr with ⟨a, xs, p, vs, _, e2, _⟩ | ⟨a, e2⟩ | e2
  · rw [e] at e2; cases e2
  · rw [e] at e2; cases e2
  · rw [e] at e2; subst e2; exact h
theorem RD.vbl (hr : HR K T M H g) {d : D} {v : V} {i : Bool} (h : RD K T M H d v) (e : KN.view g d = .bl i) : v = .bl i := by
  rcases h.view hr with ⟨a, xs, p, vs, _, e2, _⟩ | ⟨a, e2⟩ | e2
  · rw [e] at e2; cases e2
  · rw [e] at e2; cases e2
  · rw [e] at e2; subst e2; exact h
theorem RD.vnon (hr : HR K T M H g) {d : D} {v : V} (h : RD K T M H d v) (e : KN.view g d = .non) : v = .non := by
  rcases h.view hr with ⟨a, xs, p, vs, _, e2, _⟩ | ⟨a, e2⟩ | e2
  · rw [e] at e2; cases e2
  · rw [e] at e2; cases e2
  · rw [e] at e2; subst e2; exact h
theorem RD.vtup (hr : HR K T M H g) {d : D} {v : V} {xs : List D} (h : RD K T M H d v) (e : KN.view g d = .tup xs) : ∃ p vs, v = .ref p ∧ SqT K H p vs ∧ vs.length ≤ LIM ∧ RDs K T M H xs vs := by
  rcases h.view hr with ⟨a, xs, p, vs, _, e2, _⟩ | ⟨a, e2⟩ | e2
  · rw [e] at e2; cases e2
  · rw [e] at e2; cases e2
  · rw [e] at e2; subst e2
    obtain ⟨p, vs, h1, h2, h3, h4⟩ := h
    exact ⟨p, vs, h1, h2.sq, h3, h4⟩
theorem RD.vscr (hr : HR K T M H g) {d : D} {v : V} {xs : List Int} (h : RD K T M H d v) (e : KN.view g d = .scr xs) : ∃ p, v = .ref p ∧ SqL K H p (xs.map V.int) := by
  rcases h.view hr with ⟨a, xs, p, vs, _, e2, _⟩ | ⟨a, e2⟩ | e2
  · rw [e] at e2; cases e2
  · rw [e] at e2; cases e2
  · rw [e] at e2; subst e2
    obtain ⟨p, h1, h2⟩ := h
    exact ⟨p, h1, h2.sq⟩
theorem RD.vlst (hr : HR K T M H g) {d : D} {v : V} {xs : List D} (h : RD K T M H d v) (e : KN.view g d = .lst xs) : ∃ p vs, v = .ref p ∧ H p = some (.lst vs) ∧ vs.length ≤ LIM ∧ RDs K T M H xs vs := by
  rcases h.view hr with ⟨a, ys, p, vs, _, e2, e3, e4, e5, e6⟩ | ⟨a, e2⟩ | e2
  · rw [e] at e2; cases e2
    exact ⟨p, vs, e3, e4, e5, e6⟩
  · rw [e] at e2; cases e2
  · rw [e] at e2; subst e2
    obtain ⟨p, vs, h1, h2, h3, h4⟩ := h
    exact ⟨p, vs, h1, h2.1, h3, h4⟩
theorem RD.vrng (hr : HR K T M H g) {d : D} {v : V} {lo hi : Int} (h : RD K T M H d v) (e : KN.view g d = .rng lo hi) : ∃ p, v = .ref p ∧ H p = some (.rng lo hi) := by
  rcases h.view hr with ⟨a, xs, p, vs, _, e2, _⟩ | ⟨a, e2⟩ | e2
  · rw [e] at e2; cases e2
  · rw [e] at e2; cases e2
  · rw [e] at e2; subst e2
    obtain ⟨p, h1, h2, h3⟩ := h
    exact ⟨p, h1, h2⟩

theorem RD.vseq (hr : HR K T M H g) {d : D} {v : V} {xs : List D} (h : RD K T M H d v) (e : KN.seqOf g d = some xs) : ∃ b p vs, v = .ref p ∧ KZ.SqB K H b p vs ∧ vs.length ≤ LIM ∧ RDs K T M H xs vs := by
  unfold KN.seqOf at e
  split at e
  · rename_i ys ev
    cases e
    obtain ⟨p, vs, h1, h2, h3, h4⟩ := h.vlst hr ev
    exact ⟨false, p, vs, h1, .inl (.inl h2), h3, h4⟩
  · rename_i ys ev
    cases e
    obtain ⟨p, vs, h1, h2, h3, h4⟩ := h.vtup hr ev
    exact ⟨true, p, vs, h1, h2, h3, h4⟩
  · cases e
/-! plain data for == -/
mutual
def toPy : D → PyData
  | .non => .none
  | .bl b => .bool b
  | .int i => .int i
  | .str s => .str s
  | .tup xs => .tuple (toPys xs)
  | .lst xs => .list (toPys xs)
  | _ => .none
def toPys : List D → List PyData
  | [] => []
  | x :: xs => toPy x :: toPys xs
end
mutual
theorem shp_ok : ∀ (n : Nat) (d : D), shp n d = true → (toPy d).canLay0 = true ∧ (toPy d).depth ≤ n
  | n, .non, _ => by simp [toPy, PyData.canLay0, PyData.depth]
  | n, .bl _, _ => by simp [toPy, PyData.canLay0, PyData.depth]
  | n, .int _, _ => by simp [toPy, PyData.canLay0, PyData.depth]
  | n, .str x, h => by
    simp only [shp] at h
    simp only [toPy, PyData.canLay0, PyData.depth, PyData.strOk]
    exact ⟨h, Nat.zero_le _⟩
  | n + 1, .tup xs, h => by
    obtain ⟨h1, h2⟩ := shps_ok n xs (by simpa [shp] using h)
    simp only [toPy, PyData.canLay0, PyData.depth]
    exact ⟨h1, by omega⟩
  | n + 1, .lst xs, h => by
    obtain ⟨h1, h2⟩ := shps_ok n xs (by simpa [shp] using h)
    simp only [toPy, PyData.canLay0, PyData.depth]
    exact ⟨h1, by omega⟩
  | 0, .tup xs, h => by simp [shp] at h
  | 0, .lst xs, h => by simp [shp] at h
  | _, .scr _, h => by simp [shp] at h
  | _, .rng _ _, h => by simp [shp] at h
  | _, .obj _ _ _, h => by simp [shp] at h
  | _, .exn _ _ _, h => by simp [shp] at h
  | _, .ref _, h => by simp [shp] at h
  | _, .fn _, h => by simp [shp] at h
theorem shps_ok : ∀ (n : Nat) (ds : List D), shps n ds = true → PyData.canLayAll0 (toPys ds) = true ∧ PyData.depthAll (toPys ds) ≤ n
  | n, [], _ => by simp [toPys, PyData.canLayAll0, PyData.depthAll]
  | n, d :: ds, h => by
    simp only [shps, Bool.and_eq_true] at h
    obtain ⟨a1, a2⟩ := shp_ok n d h.1
    obtain ⟨b1, b2⟩ := shps_ok n ds h.2
    simp only [toPys, PyData.canLayAll0, PyData.depthAll, a1, b1]
    exact ⟨rfl, by omega⟩
end
mutual
theorem eqv_ok : ∀ (n : Nat) (d e : D), shp n d = true → shp n e = true → PyData.eqv (toPy d) (toPy e) = eqv d e
  | n, d, e, h1, h2 => by
    cases d <;> cases e <;> first
      | (simp [shp] at h1; done)
      | (simp [shp] at h2; done)
      | (simp only [toPy, PyData.eqv, eqv]; done)
      | (cases n with
         | zero => simp [shp] at h1
         | succ n =>
           simp only [toPy, PyData.eqv, eqv]
           exact eqvs_ok n _ _ (by simpa [shp] using h1) (by simpa [shp] using h2))
theorem eqvs_ok : ∀ (n : Nat) (d e : List D), shps n d = true → shps n e = true → PyData.eqvAll (toPys d) (toPys e) = eqvs d e
  | n, [], [], _, _ => by simp [toPys, PyData.eqvAll, eqvs]
  | n, [], _ :: _, _, _ => by simp [toPys, PyData.eqvAll, eqvs]
  | n, _ :: _, [], _, _ => by simp [toPys, PyData.eqvAll, eqvs]
  | n, x :: xs, y :: ys, h1, h2 => by
    simp only [shps, Bool.and_eq_true] at h1 h2
    simp only [toPys, PyData.eqvAll, eqvs]
    rw [eqv_ok n x y h1.1 h2.1, eqvs_ok n xs ys h1.2 h2.2]
end

mutual
theorem RD.dp : ∀ (n : Nat) (d : D) (v : V), shp n d = true → RD K T M H d v → Dp K H v (toPy d)
  | n, .non, v, _, h => by cases h; exact .non
  | n, .bl b, v, _, h => by cases h; exact .bl b
  | n, .int b, v, _, h => by cases h; exact .int b
  | n, .str b, v, _, h => by cases h; exact .str b
  | n + 1, .tup xs, v, hs, h => by
    obtain ⟨p, vs, rfl, h2, h3, h4⟩ := h
    exact .tup h2.sq (RDs.dp n xs vs (by simpa [shp] using hs) h4)
  | n + 1, .lst xs, v, hs, h => by
    obtain ⟨p, vs, rfl, h2, h3, h4⟩ := h
    exact .lst (.inl (.inl h2.1)) (RDs.dp n xs vs (by simpa [shp] using hs) h4)
  | 0, .tup xs, _, h, _ => by simp [shp] at h
  | 0, .lst xs, _, h, _ => by simp [shp] at h
  | _, .scr _, _, h, _ => by simp [shp] at h
  | _, .rng _ _, _, h, _ => by simp [shp] at h
  | _, .obj _ _ _, _, h, _ => by simp [shp] at h
  | _, .exn _ _ _, _, h, _ => by simp [shp] at h
  | _, .ref _, _, h, _ => by simp [shp] at h
  | _, .fn _, _, h, _ => by simp [shp] at h
theorem RDs.dp : ∀ (n : Nat) (ds : List D) (vs : List V), shps n ds = true → RDs K T M H ds vs → DpAll K H vs (toPys ds)
  | n, [], vs, _, h => by cases h; exact .nil
  | n, d :: ds, vs, hs, h => by
    obtain ⟨v, r, rfl, h1, h2⟩ := h
    simp only [shps, Bool.and_eq_true] at hs
    exact .cons (RD.dp n d v hs.1 h1) (RDs.dp n ds r hs.2 h2)
end
theorem RD.dpv (hr : HR K T M H g) {d : D} {v : V} {n : Nat} (hs : shp n (KN.view g d) = true) (h : RD K T M H d v) : Dp K H v (toPy (KN.view g d)) := by
  rcases h.view hr with ⟨a, ys, p, vs, e1, e2, e3, e4, e5, e6⟩ | ⟨a, e2⟩ | e2
  · rw [e2] at hs ⊢
    subst e3
    cases n with
    | zero => simp [shp] at hs
    | succ n => exact .lst (.inl (.inl e4)) (RDs.dp n ys vs (by simpa [shp] using hs) e6)
  · rw [e2] at hs; simp [shp] at hs
  · rw [e2] at hs ⊢
    exact RD.dp n d v hs h
end

/-! ### operators by values -/
section
variable {X : Cx} {T : Tb} {W : WX} {M : Mp} {H : Hp} {g : G} {σ : L2.St}
abbrev PQ (X : Cx) (T : Tb) (Q : VK) : D → Mp → Hp → G → Prop := fun d M' H' _ => ∀ v, RD X.K T M' H' d v → Q v H'

def bop : BO → Operator
  | .add => .Add | .sub => .Sub | .mul => .Mult | .fdiv => .FloorDiv | .mod => .Mod | .pow => .Pow
def rBin (K : PySem.W.Frag) : BO → R2
  | .add => fun x y H Q => rI0 (fun i j => .int (i + j)) x y H Q ∨ (∃ i j, x = .str i ∧ y = .str j ∧ i.length + j.length ≤ sizeLine ∧ Q (.str (i ++ j)) H) ∨ rCatA K x y H Q ∨ rCat x y H Q
  | .sub => rI0 fun i j => .int (i - j)
  | .mul => fun x y H Q => rI CMul (fun i j => .int (i * j)) x y H Q ∨ rRep x y H Q
  | .fdiv => fun x y H Q => rI CDivN (fun i j => .int (i.fdiv j)) x y H Q ∨ rI CDivW (fun i j => .int (i / j)) x y H Q
  | .mod => rI (fun _ j => j ≠ 0) fun i j => .int (i.fmod j)
  | .pow => rI CPow fun i j => .int (i ^ j.toNat)
theorem op_bin (o : BO) : OpR X (binaryOp (bop o)) (rBin X.K o) := by
  cases o with
  | add => exact op_add.or (op_add_str.or (op_catA.or op_cat))
  | sub => exact op_sub
  | mul => exact op_mul.or op_rep
  | fdiv => exact op_fdivN.or op_fdivW
  | mod => exact op_modN
  | pow => exact op_pow
theorem small_c {i : Int} (h : small i) : -(2 ^ 64) < i ∧ i < 2 ^ 64 := by
  unfold small at h
  have : (2 : Int) ^ 64 = 18446744073709551616 := by decide
  omega
theorem fin_ok {d : D} {w : V} {Q : VK} (h : wpR X.K T W σ M H (oR (some d) g) (PQ X T Q)) (hr : HR X.K T M H g) (hd : RD X.K T M H d w) : Q w H :=
  (show wpR X.K T W σ M H (R.ok d g) (PQ X T Q) from h) M H (Ext.refl M H) hr w hd
theorem new_ok {d : D} {w : V} {Q : VK} {p : Addr} {o : HO} (h : wpR X.K T W σ M H (oR (some d) g) (PQ X T Q)) (hr : HR X.K T M H g) (hn : H p = none) (hd : RD X.K T M (upd H p o) d w) : Q w (upd H p o) :=
  (show wpR X.K T W σ M H (R.ok d g) (PQ X T Q) from h) M (upd H p o) (Ext.new hn) (hr.new hn) w hd
theorem bin_ok {o : BO} {x y : D} {v u : V} {Q : VK} (hr : HR X.K T M H g) (hx : RD X.K T M H x v) (hy : RD X.K T M H y u) (h : wpR X.K T W σ M H (oR (binD o g x y) g) (PQ X T Q)) : rBin X.K o v u H Q := by
  unfold binD at h
  split at h
  all_goals first
    | exact h.elim
    | skip
  · rename_i i j e1 e2
    exact .inl ⟨i, j, hx.vint hr e1, hy.vint hr e2, fin_ok h hr rfl⟩
  · rename_i i j e1 e2
    exact ⟨i, j, hx.vint hr e1, hy.vint hr e2, fin_ok h hr rfl⟩
  · rename_i i j e1 e2
    split at h
    · rename_i hs
      exact .inl ⟨i, j, hx.vint hr e1, hy.vint hr e2, hs.imp small_c small_c, fin_ok h hr rfl⟩
    · exact h.elim
  · rename_i i j e1 e2
    split at h
    · rename_i hs
      rcases hs with hs | ⟨hs, hs2⟩
      · exact .inl ⟨i, j, hx.vint hr e1, hy.vint hr e2, hs, fin_ok h hr rfl⟩
      · refine .inr ⟨i, j, hx.vint hr e1, hy.vint hr e2, ?_, fin_ok h hr ?_⟩
        · have h64 := small_c hs2
          exact wide_div (b := 64) hs (by omega) (by decide) (by decide)
        · rw [Int.fdiv_eq_ediv_of_nonneg _ (Int.le_of_lt hs)]; rfl
    · exact h.elim
  · rename_i i j e1 e2
    split at h
    · rename_i hs
      exact ⟨i, j, hx.vint hr e1, hy.vint hr e2, hs, fin_ok h hr rfl⟩
    · exact h.elim
  · rename_i i j e1 e2
    split at h
    · rename_i hs
      refine ⟨i, j, hx.vint hr e1, hy.vint hr e2, ⟨hs.1, hs.2.1, ?_⟩, fin_ok h hr rfl⟩
      have := small_c hs.2.2
      have : (2 : Int) ^ 64 = 18446744073709551616 := by decide
      omega
    · exact h.elim
  · rename_i i j e1 e2
    split at h
    · rename_i hs
      exact .inr (.inl ⟨i, j, hx.vstr hr e1, hy.vstr hr e2, lim_of hs, fin_ok h hr rfl⟩)
    · exact h.elim
  · rename_i xs ys e1 e2
    split at h
    · rename_i hs
      obtain ⟨p, vs, rfl, p1, p2, p3⟩ := hx.vtup hr e1
      obtain ⟨q, us, rfl, q1, q2, q3⟩ := hy.vtup hr e2
      have l1 := p3.length
      have l2 := q3.length
      refine .inr (.inr (.inl ⟨p, q, vs, us, rfl, rfl, p1, q1, lim_of (by omega), fun z => ?_, fun _ z => ?_, fun _ z r hn => ?_⟩))
      · subst z
        have : xs = [] := List.length_eq_zero_iff.mp l1
        subst this
        rw [List.nil_append] at h
        refine fin_ok h hr ?_
        rcases hy.view hr with ⟨a, _, _, _, _, e3, _⟩ | ⟨a, e3⟩ | e3
        · rw [e2] at e3; cases e3
        · rw [e2] at e3; cases e3
        · rw [← show y = D.tup ys from e3.symm.trans e2]; exact hy
      · subst z
        have : ys = [] := List.length_eq_zero_iff.mp l2
        subst this
        rw [List.append_nil] at h
        refine fin_ok h hr ?_
        rcases hx.view hr with ⟨a, _, _, _, _, e3, _⟩ | ⟨a, e3⟩ | e3
        · rw [e1] at e3; cases e3
        · rw [e1] at e3; cases e3
        · rw [← show x = D.tup xs from e3.symm.trans e1]; exact hx
      · exact new_ok h hr hn (RD.new_tup hr hn (p3.append q3) (by simp; omega))
    · exact h.elim
  · rename_i xs ys e1 e2
    split at h
    · rename_i hs
      obtain ⟨p, vs, rfl, p1, p2, p3⟩ := hx.vlst hr e1
      obtain ⟨q, us, rfl, q1, q2, q3⟩ := hy.vlst hr e2
      have l1 := p3.length
      have l2 := q3.length
      refine .inr (.inr (.inr ⟨p, q, vs, us, rfl, rfl, p1, q1, lim_of (by omega), fun r hn => ?_⟩))
      exact new_ok h hr hn (RD.new_lst hr hn (p3.append q3) (by simp; omega))
    · exact h.elim
  · rename_i xs k e1 e2
    split at h
    · rename_i hs
      obtain ⟨p, vs, rfl, p1, p2, p3⟩ := hx.vlst hr e1
      have l1 := p3.length
      refine .inr ⟨p, k, vs, rfl, hy.vint hr e2, p1, by omega, by omega, lim_of (by rw [← l1]; exact hs.2.2), fun r hn => ?_⟩
      have rep : ∀ n : Nat, RDs X.K T M H (List.replicate n xs).flatten (List.replicate n vs).flatten := fun n => by
        induction n with
        | zero => rfl
        | succ n ih => simp only [List.replicate_succ, List.flatten_cons]; exact p3.append ih
      refine new_ok h hr hn (RD.new_lst hr hn (rep _) ?_)
      rw [← (rep k.toNat).length]
      have : (List.replicate k.toNat xs).flatten.length = k.toNat * xs.length := by
        generalize k.toNat = n
        induction n with
        | zero => simp
        | succ n ih => simp [List.replicate_succ, ih, Nat.succ_mul, Nat.add_comm]
      rw [this, Nat.mul_comm]
      exact hs.2.2
    · exact h.elim

/-! ### comparisons -/
def cop : CO → CmpOp
  | .eq => .Eq | .ne => .NotEq | .lt => .Lt | .le => .LtE | .gt => .Gt | .ge => .GtE | .isn => .Is | .isnn => .IsNot | .inn => .In | .nin => .NotIn
def rInD (neg : Bool) : R2 := fun x y H Q => ∃ a o, y = .ref a ∧ DGet H a x o ∧ Q (.bl (if neg then !o.isSome else o.isSome)) H
theorem op_inD (hu : X.A.units + 64 < cLine) : OpR X (compareOp .In) (rInD false) := by
  intro pins s σ H x y v u Q I rx ry h
  obtain ⟨a, o, rfl, g, q⟩ := h
  cases (show u = Value.ref a from ry)
  exact d_in (by omega) I g rx fun s' I' => ⟨.bl o.isSome, H, I', rfl, q⟩
theorem op_ninD (hu : X.A.units + 64 < cLine) : OpR X (compareOp .NotIn) (rInD true) := by
  intro pins s σ H x y v u Q I rx ry h
  obtain ⟨a, o, rfl, g, q⟩ := h
  cases (show u = Value.ref a from ry)
  exact d_notIn (by omega) I g rx fun s' I' => ⟨.bl (!o.isSome), H, I', rfl, q⟩
def rIxDk : R2 := fun x y H Q => ∃ a v, x = .ref a ∧ DGet H a y (some v) ∧ Q v H
theorem ix_dk (hu : X.A.units + 64 < cLine) : IxR X rIxDk := by
  intro value slice pins s σ H x y v u Q I rx ry h hs
  obtain ⟨a, z, rfl, g, q⟩ := h
  cases rx
  exact tail_any (dict_typeIs I g) PySem.F.slot_dict_getitem.lookup (d_getItem (by omega) I g ry fun w' s3 I3 rw' => ⟨z, H, I3, rw', q⟩) hs
def rCmp (K : PySem.W.Frag) : CO → R2
  | .eq => fun x y H Q => rEq x y H Q ∨ rEqD K x y H Q
  | .ne => fun x y H Q => rNe x y H Q ∨ rNeD K x y H Q
  | .lt => rI0 fun i j => .bl (decide (i < j))
  | .le => rI0 fun i j => .bl (decide (i ≤ j))
  | .gt => rI0 fun i j => .bl (decide (j < i))
  | .ge => rI0 fun i j => .bl (decide (j ≤ i))
  | .isn => fun x y H Q => (y = .non ∧ Q (.bl (decide (x = .non))) H) ∨ rIsB x y H Q
  | .isnn => fun x y H Q => (y = .non ∧ Q (.bl (!decide (x = .non))) H) ∨ rNotB x y H Q
  | .inn => fun x y H Q => rInD false x y H Q ∨ rIn K false x y H Q ∨ ∃ (c : Nat) (z : Str), x = .str ⟨#[c]⟩ ∧ y = .str z ∧ Q (.bl (decide (c ∈ z.cps.toList))) H
  | .nin => fun x y H Q => rInD true x y H Q ∨ rIn K true x y H Q ∨ ∃ (c : Nat) (z : Str), x = .str ⟨#[c]⟩ ∧ y = .str z ∧ Q (.bl (!decide (c ∈ z.cps.toList))) H
theorem op_cmp (hu : X.A.units + 64 < cLine) (o : CO) : OpR X (compareOp (cop o)) (rCmp X.K o) := by
  cases o with
  | eq => exact op_eq.or (op_eqD hu)
  | ne => exact op_ne.or (op_neD hu)
  | lt => exact op_lt
  | le => exact op_le
  | gt => exact op_gt
  | ge => exact op_ge
  | isn => exact op_isN.or op_isBl
  | isnn => exact op_notN.or op_notBl
  | inn => exact (op_inD hu).or (op_in_seq.or op_in_sign)
  | nin => exact (op_ninD hu).or (op_notIn_seq.or op_notIn_sign)
theorem RDs.val {M : Mp} {H : Hp} {k : Ky} : ∀ {kvs : List (Ky × D)} {vs : List (Key × V)}, vs.map (·.1) = kvs.map (·.1) → RDs X.K T M H (kvs.map (·.2)) (vs.map (·.2)) → (valK kvs k = none ∧ valV vs k = none) ∨ ∃ d v, valK kvs k = some d ∧ valV vs k = some v ∧ RD X.K T M H d v
  | [], vs, e, h => by
    cases vs with
    | nil => exact .inl ⟨rfl, rfl⟩
    | cons _ _ => simp at e
  | (k', d) :: kvs, vs, e, h => by
    cases vs with
    | nil => simp at e
    | cons p vs =>
      obtain ⟨v, r, e1, h1, h2⟩ := h
      simp only [List.map_cons, List.cons.injEq] at e e1
      obtain ⟨e2, e3⟩ := e
      obtain ⟨e4, e5⟩ := e1
      by_cases hk : k' = k
      · refine .inr ⟨d, v, by simp [valK, hk], ?_, h1⟩
        rw [valV_pos (by rw [e2]; exact hk), e4]
      · rw [← e5] at h2
        rcases RDs.val (k := k) e3 h2 with ⟨a, b⟩ | ⟨d', v', a, b, c⟩
        · refine .inl ⟨?_, ?_⟩
          · rw [← a]; simp [valK, hk]
          · rw [valV_neg (by rw [e2]; exact hk)]; exact b
        · refine .inr ⟨d', v', ?_, ?_, c⟩
          · rw [← a]; simp [valK, hk]
          · rw [valV_neg (by rw [e2]; exact hk)]; exact b
theorem put_len {kvs : List (Key × V)} {k : Key} {v : V} : (L2.putK kvs k v).length ≤ kvs.length + 1 := by
  unfold L2.putK
  split <;> simp
theorem RDs.put {M : Mp} {H : Hp} {k : Ky} {d : D} {v : V} {kvs : List (Ky × D)} {vs : List (Key × V)} (e : vs.map (·.1) = kvs.map (·.1)) (h : RDs X.K T M H (kvs.map (·.2)) (vs.map (·.2))) (hd : RD X.K T M H d v) :
    (L2.putK vs k v).map (·.1) = (KN.putK kvs k d).map (·.1) ∧ RDs X.K T M H ((KN.putK kvs k d).map (·.2)) ((L2.putK vs k v).map (·.2)) := by
  have ea : (vs.any fun kv => decide (kv.1 = k)) = (kvs.any fun kv => decide (kv.1 = k)) := by
    have e1 : ∀ {A : Type} (l : List (Ky × A)), (l.any fun kv => decide (kv.1 = k)) = ((l.map (·.1)).any fun z => decide (z = k)) := fun l => by rw [List.any_map]; rfl
    rw [e1, e1, e]
  unfold L2.putK KN.putK
  rw [ea]
  split
  · clear ea
    rename_i ea
    clear ea
    constructor
    · rw [List.map_map, List.map_map]
      have e1 : ∀ {A : Type} (a : A) (l : List (Ky × A)), l.map ((fun p : Ky × A => p.1) ∘ fun kv => if kv.1 = k then (kv.1, a) else kv) = l.map (·.1) := fun a l => by
        apply List.map_congr_left
        intro p _
        show (if p.1 = k then (p.1, a) else p).1 = p.1
        split <;> rfl
      rw [e1, e1, e]
    · induction kvs generalizing vs with
      | nil =>
        cases vs with
        | nil => rfl
        | cons _ _ => simp at e
      | cons p kvs ih =>
        cases vs with
        | nil => simp at e
        | cons q vs =>
          simp only [List.map_cons, List.cons.injEq] at e
          obtain ⟨w, r, e1, h1, h2⟩ := h
          simp only [List.map_cons, List.cons.injEq] at e1
          have h2' := h2
          rw [← e1.2] at h2'
          have := ih e.2 h2'
          rw [List.map_cons, List.map_cons, List.map_cons, List.map_cons]
          refine ⟨_, _, rfl, ?_, this⟩
          rw [e.1]
          split
          · exact hd
          · rw [e1.1]; exact h1
  · constructor
    · rw [List.map_append, List.map_append, e]; rfl
    · rw [List.map_append, List.map_append]
      exact h.append ⟨v, [], rfl, hd, rfl⟩
theorem key_ok {M : Mp} {H : Hp} {x : D} {v : V} {k : Ky} (h : RD X.K T M H x v) (e : keyD x = some k) : v = kV k := by
  cases x <;> simp [keyD] at e <;> (subst e; cases h; rfl)
theorem dk_ok {M : Mp} {H : Hp} {g : G} {y : D} {u : V} {kvs : List (Ky × D)} (hr : HR X.K T M H g) (hy : RD X.K T M H y u) (e : dkOf g y = some kvs) :
    ∃ a p vs, y = .ref a ∧ g[a]? = some (.dk kvs) ∧ M.m[a]? = some p ∧ u = .ref p ∧ H p = some (.dK vs) ∧ vs.length ≤ LIM ∧ vs.map (·.1) = kvs.map (·.1) ∧ RDs X.K T M H (kvs.map (·.2)) (vs.map (·.2)) := by
  cases y <;> simp only [dkOf] at e <;> try contradiction
  rename_i a
  split at e
  · rename_i kvs' eg
    cases e
    obtain ⟨p, h1, rfl⟩ := hy
    obtain ⟨vs, q1, q2, q3, q4⟩ := hr.at eg h1
    exact ⟨a, p, vs, rfl, eg, h1, rfl, q1, q2, q3, q4⟩
  · cases e
theorem dget_ok {M : Mp} {H : Hp} {g : G} {x y : D} {v u : V} {kvs : List (Ky × D)} {k : Ky} (hr : HR X.K T M H g) (hx : RD X.K T M H x v) (hy : RD X.K T M H y u) (e : dkOf g y = some kvs) (ek : keyD x = some k) :
    ∃ p o, u = .ref p ∧ DGet H p v o ∧ o.isSome = (valK kvs k).isSome ∧ ∀ d, valK kvs k = some d → ∃ w, o = some w ∧ RD X.K T M H d w := by
  obtain ⟨a, p, vs, rfl, eg, h1, rfl, q1, q2, q3, q4⟩ := dk_ok hr hy e
  have := key_ok hx ek
  subst this
  refine ⟨p, valV vs k, rfl, DGet.k q1, ?_, ?_⟩
  · rcases RDs.val (k := k) q3 q4 with ⟨a, b⟩ | ⟨d', v', a, b, c⟩
    · rw [a, b]; rfl
    · rw [a, b]; rfl
  · intro d ed
    rcases RDs.val (k := k) q3 q4 with ⟨a, b⟩ | ⟨d', v', a, b, c⟩
    · rw [a] at ed; cases ed
    · rw [a] at ed; cases ed; exact ⟨v', b, c⟩
abbrev CQ (Q : VK) : Bool → Mp → Hp → G → Prop := fun b _ H' _ => Q (.bl b) H'
theorem fin_b {k : Bool} {Q : VK} (h : wpR X.K T W σ M H (oR (some k) g) (CQ Q)) (hr : HR X.K T M H g) : Q (.bl k) H :=
  (show wpR X.K T W σ M H (R.ok k g) (CQ Q) from h) M H (Ext.refl M H) hr
theorem shaped_of {n : Nat} {d : D} (h : shp n d = true) (hn : n ≤ 64) : SeqAt.shaped (toPy d) = true := by
  obtain ⟨a, b⟩ := shp_ok n d h
  unfold SeqAt.shaped
  rw [a, decide_eq_true (by omega)]
  rfl
theorem eq_ok {x y : D} {v u : V} {k : Bool} (hr : HR X.K T M H g) (hx : RD X.K T M H x v) (hy : RD X.K T M H y u) (h : eqD g x y = some k) :
    (scal v u = true ∧ k = decide (v = u)) ∨ ∃ d e, Dp X.K H v d ∧ Dp X.K H u e ∧ SeqAt.shaped d = true ∧ SeqAt.shaped e = true ∧ k = PyData.eqv d e := by
  unfold eqD at h
  split at h
  · rename_i s t e1 e2
    cases hx.vstr hr e1
    cases hy.vstr hr e2
    have hk := Option.some.inj h
    refine .inl ⟨rfl, ?_⟩
    rw [← hk]
    by_cases z : s = t
    · subst z; simp
    · rw [decide_eq_false z, decide_eq_false]
      intro q; exact z (V.str.inj q)
  · rename_i s e1 e2
    cases hx.vstr hr e1
    cases hy.vnon hr e2
    have hk := Option.some.inj h
    exact .inl ⟨rfl, by rw [← hk]; rfl⟩
  · rename_i s e1 e2
    cases hx.vnon hr e1
    cases hy.vstr hr e2
    have hk := Option.some.inj h
    exact .inl ⟨rfl, by rw [← hk]; rfl⟩
  · split at h
    · rename_i hs
      refine .inr ⟨_, _, hx.dpv hr hs.1, hy.dpv hr hs.2, shaped_of hs.1 (by decide), shaped_of hs.2 (by decide), ?_⟩
      rw [eqv_ok 60 _ _ hs.1 hs.2]
      exact (Option.some.inj h).symm
    · cases h
theorem flat_ok {d : D} {v : V} (h : RD X.K T M H d v) (f : flatD d = true) : flatV v = true := by
  cases d <;> simp [flatD] at f <;> (cases h; rfl)
theorem flats_ok : ∀ {ds : List D} {vs : List V}, RDs X.K T M H ds vs → ds.all flatD = true → vs.all flatV = true
  | [], vs, h, _ => by cases h; rfl
  | d :: ds, vs, h, f => by
    obtain ⟨v, r, rfl, h1, h2⟩ := h
    simp only [List.all_cons, Bool.and_eq_true] at f ⊢
    exact ⟨flat_ok h1 f.1, flats_ok h2 f.2⟩
theorem eqv_flat {d e : D} {v u : V} (h : RD X.K T M H d v) (f : flatD d = true) (h' : RD X.K T M H e u) (f' : flatD e = true) : eqV v u = eqv d e := by
  cases d <;> simp [flatD] at f <;> cases e <;> simp [flatD] at f' <;> (cases h; cases h'; simp [eqV, eqv])
theorem in_ok {x : D} {v : V} (hx : RD X.K T M H x v) (f : flatD x = true) : ∀ {ds : List D} {vs : List V}, RDs X.K T M H ds vs → ds.all flatD = true → inV v vs = inD x ds
  | [], vs, h, _ => by cases h; rfl
  | d :: ds, vs, h, g => by
    obtain ⟨w, r, rfl, h1, h2⟩ := h
    simp only [List.all_cons, Bool.and_eq_true] at g
    have ih := in_ok hx f h2 g.2
    unfold inV inD at ih ⊢
    rw [List.any_cons, List.any_cons, ih, eqv_flat h1 g.1 hx f]
theorem flat_view {x : D} (f : flatD (view g x) = true) : view g x = x := by
  cases x with
  | ref a =>
    exfalso
    have e : (∃ xs, view g (.ref a) = .lst xs) ∨ view g (.ref a) = .ref a := by
      unfold view
      cases e : g[a]? with
      | none => exact .inr (by simp [e])
      | some o => cases o <;> simp [e]
    rcases e with ⟨xs, e⟩ | e <;> rw [e] at f <;> simp [flatD] at f
  | _ => rfl
theorem isnon_ok {x : D} {v : V} (hx : RD X.K T M H x v) : isNon x = decide (v = .non) := by
  cases x with
  | non => cases hx; rfl
  | bl _ => cases hx; rfl
  | int _ => cases hx; rfl
  | str _ => cases hx; rfl
  | tup _ => obtain ⟨p, vs, rfl, _⟩ := hx; rfl
  | lst _ => obtain ⟨p, vs, rfl, _⟩ := hx; rfl
  | scr _ => obtain ⟨p, rfl, _⟩ := hx; rfl
  | rng _ _ => obtain ⟨p, rfl, _⟩ := hx; rfl
  | obj _ _ _ => obtain ⟨p, dx, fvs, rfl, _⟩ := hx; rfl
  | exn _ _ _ => exact hx.elim
  | ref _ => obtain ⟨p, _, rfl⟩ := hx; rfl
  | fn _ => obtain ⟨rfl, _⟩ := hx; rfl
theorem cmp_ok {o : CO} {x y : D} {v u : V} {Q : VK} (hr : HR X.K T M H g) (hx : RD X.K T M H x v) (hy : RD X.K T M H y u) (h : wpR X.K T W σ M H (oR (cmpD o g x y) g) (CQ Q)) : rCmp X.K o v u H Q := by
  have two : ∀ {f : Int → Int → Bool}, wpR X.K T W σ M H (oR (match view g x, view g y with | .int i, .int j => some (f i j) | _, _ => none) g) (CQ Q) → rI0 (fun i j => .bl (f i j)) v u H Q := fun {f} h => by
    split at h
    · rename_i i j e1 e2
      exact ⟨i, j, hx.vint hr e1, hy.vint hr e2, fin_b h hr⟩
    · exact h.elim
  cases o with
  | eq =>
    show rEq v u H Q ∨ rEqD X.K v u H Q
    cases e : eqD g x y with
    | none => rw [show cmpD .eq g x y = none from e] at h; exact h.elim
    | some k =>
      rw [show cmpD .eq g x y = some k from e] at h
      have q := fin_b h hr
      rcases eq_ok hr hx hy e with ⟨h1, rfl⟩ | ⟨d, e', h1, h2, h3, h4, rfl⟩
      · exact .inl ⟨h1, q⟩
      · exact .inr ⟨d, e', h1, h2, h3, h4, q⟩
  | ne =>
    show rNe v u H Q ∨ rNeD X.K v u H Q
    cases e : eqD g x y with
    | none => rw [show cmpD .ne g x y = none by simp [cmpD, e]] at h; exact h.elim
    | some k =>
      rw [show cmpD .ne g x y = some (!k) by simp [cmpD, e]] at h
      have q := fin_b h hr
      rcases eq_ok hr hx hy e with ⟨h1, rfl⟩ | ⟨d, e', h1, h2, h3, h4, rfl⟩
      · exact .inl ⟨h1, q⟩
      · exact .inr ⟨d, e', h1, h2, h3, h4, q⟩
  | lt => exact two h
  | le => exact two h
  | gt => exact two h
  | ge => exact two h
  | isn =>
    cases y <;> first
      | exact h.elim
      | (cases hy
         refine .inl ⟨rfl, ?_⟩
         rw [← isnon_ok hx]
         exact fin_b h hr)
      | (cases hy
         cases x <;> first
           | exact h.elim
           | (cases hx
              exact .inr ⟨_, _, rfl, rfl, fin_b h hr⟩))
  | isnn =>
    cases y <;> first
      | exact h.elim
      | (cases hy
         refine .inl ⟨rfl, ?_⟩
         rw [← isnon_ok hx]
         exact fin_b h hr)
      | (cases hy
         cases x <;> first
           | exact h.elim
           | (cases hx
              exact .inr ⟨_, _, rfl, rfl, fin_b h hr⟩))
  | inn =>
    simp only [cmpD] at h
    split at h
    · rename_i kvs ekv
      cases ek : keyD x with
      | none => rw [ek] at h; exact h.elim
      | some k =>
        rw [ek] at h
        obtain ⟨p, o, rfl, z1, z2, _⟩ := dget_ok hr hx hy ekv ek
        refine .inl ⟨p, o, rfl, z1, ?_⟩
        have q := fin_b h hr
        rw [z2]
        exact q
    · skip
      split at h
      · rename_i _ _ xs e2
        split at h
        · rename_i hs
          obtain ⟨p, vs, rfl, p1, p2, p3⟩ := hy.vlst hr e2
          have ex := flat_view hs.1
          rw [ex] at hs h
          refine .inr (.inl ⟨p, vs, rfl, .inl (.inl (.inl p1)), flat_ok hx hs.1, flats_ok p3 hs.2, ?_⟩)
          rw [in_ok hx hs.1 p3 hs.2]
          exact fin_b h hr
        · exact h.elim
      · rename_i _ _ xs e2
        split at h
        · rename_i hs
          obtain ⟨p, vs, rfl, p1, p2, p3⟩ := hy.vtup hr e2
          have ex := flat_view hs.1
          rw [ex] at hs h
          refine .inr (.inl ⟨p, vs, rfl, .inr p1, flat_ok hx hs.1, flats_ok p3 hs.2, ?_⟩)
          rw [in_ok hx hs.1 p3 hs.2]
          exact fin_b h hr
        · exact h.elim
      · rename_i _ _ s t e1 e2
        cases hx.vstr hr e1
        cases hy.vstr hr e2
        split at h
        · rename_i c ec
          refine .inr (.inr ⟨c, t, ?_, rfl, fin_b h hr⟩)
          obtain ⟨⟨l⟩⟩ := s
          have : l = [c] := ec
          rw [this]
        · exact h.elim
      · exact h.elim
  | nin =>
    simp only [cmpD] at h
    split at h
    · rename_i kvs ekv
      cases ek : keyD x with
      | none => rw [ek] at h; exact h.elim
      | some k =>
        rw [ek] at h
        obtain ⟨p, o, rfl, z1, z2, _⟩ := dget_ok hr hx hy ekv ek
        refine .inl ⟨p, o, rfl, z1, ?_⟩
        have q := fin_b h hr
        rw [z2]
        exact q
    · skip
      split at h
      · rename_i _ _ xs e2
        split at h
        · rename_i hs
          obtain ⟨p, vs, rfl, p1, p2, p3⟩ := hy.vlst hr e2
          have ex := flat_view hs.1
          rw [ex] at hs h
          refine .inr (.inl ⟨p, vs, rfl, .inl (.inl (.inl p1)), flat_ok hx hs.1, flats_ok p3 hs.2, ?_⟩)
          rw [in_ok hx hs.1 p3 hs.2]
          exact fin_b h hr
        · exact h.elim
      · rename_i _ _ xs e2
        split at h
        · rename_i hs
          obtain ⟨p, vs, rfl, p1, p2, p3⟩ := hy.vtup hr e2
          have ex := flat_view hs.1
          rw [ex] at hs h
          refine .inr (.inl ⟨p, vs, rfl, .inr p1, flat_ok hx hs.1, flats_ok p3 hs.2, ?_⟩)
          rw [in_ok hx hs.1 p3 hs.2]
          exact fin_b h hr
        · exact h.elim
      · rename_i _ _ s t e1 e2
        cases hx.vstr hr e1
        cases hy.vstr hr e2
        split at h
        · rename_i c ec
          refine .inr (.inr ⟨c, t, ?_, rfl, fin_b h hr⟩)
          obtain ⟨⟨l⟩⟩ := s
          have : l = [c] := ec
          rw [this]
        · exact h.elim
      · exact h.elim

/-! ### items, slices, truth -/
theorem ix_bind {A : Type} {xs : List A} {i : Int} {v : A} (h : ((ixn xs.length i).bind fun j => xs[j]?) = some v) : ∃ j, ixn xs.length i = some j ∧ xs[j]? = some v := by
  cases e : ixn xs.length i with
  | none => rw [e] at h; cases h
  | some j => rw [e] at h; exact ⟨j, rfl, h⟩
theorem idx_ok {x y : D} {v u : V} {Q : VK} (hr : HR X.K T M H g) (hx : RD X.K T M H x v) (hy : RD X.K T M H y u) (h : wpR X.K T W σ M H (oR (idxD g x y) g) (PQ X T Q)) : rIxDk v u H Q ∨ rIx X.K v u H Q := by
  cases e : idxD g x y with
  | none => rw [e] at h; exact h.elim
  | some d =>
    rw [e] at h
    unfold idxD at e
    split at e
    · rename_i kvs ekv
      cases ek : keyD y with
      | none => rw [ek] at e; cases e
      | some k =>
        rw [ek] at e
        obtain ⟨p, o, rfl, z1, _, z3⟩ := dget_ok hr hy hx ekv ek
        obtain ⟨w, rfl, z4⟩ := z3 d e
        exact .inl ⟨p, w, rfl, z1, fin_ok h hr z4⟩
    · split at e
      · rename_i xs i e1
        cases hy
        obtain ⟨p, vs, rfl, p1, p2, p3⟩ := hx.vlst hr e1
        obtain ⟨j, e2, e3⟩ := ix_bind e
        obtain ⟨w, q1, q2⟩ := p3.get e3
        refine .inr (.inl ⟨p, vs, i, w, rfl, rfl, .inl (.inl p1), ?_, fin_ok h hr q2⟩)
        unfold atI
        rw [← p3.length, ← ixn_eq, e2]
        exact q1
      · rename_i xs i e1
        cases hy
        obtain ⟨p, vs, rfl, p1, p2, p3⟩ := hx.vtup hr e1
        obtain ⟨j, e2, e3⟩ := ix_bind e
        obtain ⟨w, q1, q2⟩ := p3.get e3
        refine .inr (.inr (.inl ⟨p, vs, i, w, rfl, rfl, p1, ?_, fin_ok h hr q2⟩))
        unfold atI
        rw [← p3.length, ← ixn_eq, e2]
        exact q1
      · rename_i xs i e1
        cases hy
        obtain ⟨p, rfl, p1⟩ := hx.vscr hr e1
        cases e4 : ((ixn xs.length i).bind fun j => xs[j]?) with
        | none => rw [e4] at e; cases e
        | some n =>
          rw [e4] at e
          cases e
          obtain ⟨j, e2, e3⟩ := ix_bind e4
          refine .inr (.inl ⟨p, _, i, .int n, rfl, rfl, p1, ?_, fin_ok h hr rfl⟩)
          unfold atI
          rw [List.length_map, ← ixn_eq, e2]
          simp [e3]
      · rename_i s i e1
        cases hy
        cases hx.vstr hr e1
        split at e
        · rename_i hs
          cases e4 : ((ixn s.cps.toList.length i).bind fun j => s.cps.toList[j]?) with
          | none => rw [e4] at e; cases e
          | some c =>
            rw [e4] at e
            cases e
            refine .inr (.inr (.inr ⟨s, i, c, rfl, rfl, lim_of hs, ?_, fin_ok h hr rfl⟩))
            exact e4
        · cases e
      · cases e
end
end KN

namespace KN
open PySem PySem.Spec PyProof.Rows L2
/-! ### the best of nested rows of ints -/
section
open PyProof.Rows PySem.Calls
open PySem.W (dataLt keyToks keyToksAll alike alikeAll dataLt_cons dataLt_int dataLt_tuple AlikeAll)
mutual
theorem alkT_ok : ∀ (d e : D), alkT d e = true → alike (toPy d) (toPy e) = true
  | .int _, e, h => by cases e <;> first | (simp [alkT] at h; done) | rfl
  | .tup xs, e, h => by
    cases e <;> first | (simp [alkT] at h; done) | skip
    rename_i ys
    simp only [toPy, alike]
    exact alkTs_ok xs ys (by simpa [alkT] using h)
  | .non, _, h => by simp [alkT] at h
  | .bl _, _, h => by simp [alkT] at h
  | .str _, _, h => by simp [alkT] at h
  | .lst _, _, h => by simp [alkT] at h
  | .scr _, _, h => by simp [alkT] at h
  | .rng _ _, _, h => by simp [alkT] at h
  | .obj _ _ _, _, h => by simp [alkT] at h
  | .exn _ _ _, _, h => by simp [alkT] at h
  | .ref _, _, h => by simp [alkT] at h
  | .fn _, _, h => by simp [alkT] at h
theorem alkTs_ok : ∀ (d e : List D), alkTs d e = true → alikeAll (toPys d) (toPys e) = true
  | [], [], _ => rfl
  | [], _ :: _, _ => by simp [toPys, alikeAll]
  | _ :: _, [], _ => by simp [toPys, alikeAll]
  | x :: xs, y :: ys, h => by
    simp only [alkTs, Bool.and_eq_true] at h
    simp only [toPys, alikeAll, Bool.and_eq_true]
    exact ⟨alkT_ok x y h.1, alkTs_ok xs ys h.2⟩
end
mutual
theorem ltT_ok : ∀ (n : Nat) (d e : D), shp n d = true → shp n e = true → alkT d e = true → dataLt (toPy d) (toPy e) = ltT d e
  | n, .int a, e, _, _, h => by
    cases e <;> first | (simp [alkT] at h; done) | skip
    simp only [toPy, ltT]
    exact dataLt_int _ _
  | 0, .tup xs, e, h1, _, h => by simp [shp] at h1
  | n + 1, .tup xs, e, h1, h2, h => by
    cases e <;> first | (simp [alkT] at h; done) | skip
    rename_i ys
    simp only [toPy, ltT]
    rw [dataLt_tuple]
    exact ltTs_ok n xs ys (by simpa [shp] using h1) (by simpa [shp] using h2) (by simpa [alkT] using h)
  | _, .non, _, _, _, h => by simp [alkT] at h
  | _, .bl _, _, _, _, h => by simp [alkT] at h
  | _, .str _, _, _, _, h => by simp [alkT] at h
  | _, .lst _, _, _, _, h => by simp [alkT] at h
  | _, .scr _, _, _, _, h => by simp [alkT] at h
  | _, .rng _ _, _, _, _, h => by simp [alkT] at h
  | _, .obj _ _ _, _, _, _, h => by simp [alkT] at h
  | _, .exn _ _ _, _, _, _, h => by simp [alkT] at h
  | _, .ref _, _, _, _, h => by simp [alkT] at h
  | _, .fn _, _, _, _, h => by simp [alkT] at h
theorem ltTs_ok : ∀ (n : Nat) (d e : List D), shps n d = true → shps n e = true → alkTs d e = true → PyProof.Rows.lexLt itemOrd (keyToksAll (toPys d)) (keyToksAll (toPys e)) = ltTs d e
  | n, [], [], _, _, _ => by simp only [toPys, ltTs]; rfl
  | n, [], y :: ys, _, _, _ => by
    simp only [toPys, ltTs, keyToksAll]
    rw [PyProof.Rows.lex_diff (O := itemOrd) (by simp)]
    rfl
  | n, x :: xs, [], _, _, _ => by
    simp only [toPys, ltTs, keyToksAll]
    rw [PyProof.Rows.lex_diff (O := itemOrd) (by simp)]
    rfl
  | n, x :: xs, y :: ys, h1, h2, h => by
    simp only [alkTs, Bool.and_eq_true] at h
    simp only [shps, Bool.and_eq_true] at h1 h2
    simp only [toPys, ltTs]
    rw [dataLt_cons (alkT_ok x y h.1), eqv_ok n x y h1.1 h2.1, ltTs_ok n xs ys h1.2 h2.2 h.2, ltT_ok n x y h1.1 h2.1 h.1]
end
mutual
theorem toPy_inj : ∀ (n : Nat) (d e : D), shp n d = true → shp n e = true → toPy d = toPy e → d = e
  | n, d, e, h1, h2, h => by
    cases d <;> cases e <;> first
      | (simp [shp] at h1; done)
      | (simp [shp] at h2; done)
      | (simp [toPy] at h; done)
      | rfl
      | (simp only [toPy, PyData.bool.injEq, PyData.int.injEq, PyData.str.injEq] at h; subst h; rfl)
      | (cases n with
         | zero => simp [shp] at h1
         | succ n =>
           simp only [toPy, PyData.tuple.injEq, PyData.list.injEq] at h
           rw [toPys_inj n _ _ (by simpa [shp] using h1) (by simpa [shp] using h2) h])
theorem toPys_inj : ∀ (n : Nat) (d e : List D), shps n d = true → shps n e = true → toPys d = toPys e → d = e
  | n, [], [], _, _, _ => rfl
  | n, [], _ :: _, _, _, h => by simp [toPys] at h
  | n, _ :: _, [], _, _, h => by simp [toPys] at h
  | n, x :: xs, y :: ys, h1, h2, h => by
    simp only [shps, Bool.and_eq_true] at h1 h2
    simp only [toPys, List.cons.injEq] at h
    rw [toPy_inj n x y h1.1 h2.1 h.1, toPys_inj n xs ys h1.2 h2.2 h.2]
end
theorem toPys_map : ∀ (xs : List D), toPys xs = xs.map toPy
  | [] => rfl
  | x :: xs => by simp only [toPys, List.map_cons, toPys_map xs]
theorem shps_mem {n : Nat} : ∀ {xs : List D}, shps n xs = true → ∀ x ∈ xs, shp n x = true
  | [], _, x, h => by cases h
  | y :: ys, h, x, hx => by
    simp only [shps, Bool.and_eq_true] at h
    rcases List.mem_cons.mp hx with rfl | hx
    · exact h.1
    · exact shps_mem h.2 x hx
/-- the fold's end stands among the items -/
theorem best_fold {S : List D} (mx : Bool) (hs : ∀ x ∈ S, shp 60 x = true) (ha : ∀ x ∈ S, ∀ y ∈ S, alkT x y = true) : ∀ (xs : List D) (x : D), x ∈ S → (∀ y ∈ xs, y ∈ S) →
    KM.bestP mx (toPy x) (toPys xs) = toPy (if mx = true then xs.foldl (fun a y => if ltT a y = true then y else a) x else xs.foldl (fun a y => if ltT y a = true then y else a) x) ∧
    (if mx = true then xs.foldl (fun a y => if ltT a y = true then y else a) x else xs.foldl (fun a y => if ltT y a = true then y else a) x) ∈ S
  | [], x, hx, _ => by cases mx <;> exact ⟨rfl, hx⟩
  | y :: ys, x, hx, h => by
    have hy : y ∈ S := h y List.mem_cons_self
    have hr : ∀ z ∈ ys, z ∈ S := fun z hz => h z (List.mem_cons_of_mem _ hz)
    cases mx with
    | true =>
      have e := ltT_ok 60 x y (hs x hx) (hs y hy) (ha x hx y hy)
      simp only [if_true, List.foldl_cons, toPys]
      by_cases q : ltT x y = true
      · rw [if_pos q]
        have := best_fold true hs ha ys y hy hr
        simp only [if_true] at this
        refine ⟨?_, this.2⟩
        rw [← this.1]
        show PySem.W.maxD _ (_ :: _) = PySem.W.maxD _ _
        unfold PySem.W.maxD
        rw [List.foldl_cons, if_pos (by rw [e]; exact q)]
      · rw [if_neg q]
        have := best_fold true hs ha ys x hx hr
        simp only [if_true] at this
        refine ⟨?_, this.2⟩
        rw [← this.1]
        show PySem.W.maxD _ (_ :: _) = PySem.W.maxD _ _
        unfold PySem.W.maxD
        rw [List.foldl_cons, if_neg (by rw [e]; exact q)]
    | false =>
      have e := ltT_ok 60 y x (hs y hy) (hs x hx) (ha y hy x hx)
      simp only [Bool.false_eq_true, if_false, List.foldl_cons, toPys]
      by_cases q : ltT y x = true
      · rw [if_pos q]
        have := best_fold false hs ha ys y hy hr
        simp only [Bool.false_eq_true, if_false] at this
        refine ⟨?_, this.2⟩
        rw [← this.1]
        show PySem.W.minD _ (_ :: _) = PySem.W.minD _ _
        unfold PySem.W.minD
        rw [List.foldl_cons, if_pos (by rw [e]; exact q)]
      · rw [if_neg q]
        have := best_fold false hs ha ys x hx hr
        simp only [Bool.false_eq_true, if_false] at this
        refine ⟨?_, this.2⟩
        rw [← this.1]
        show PySem.W.minD _ (_ :: _) = PySem.W.minD _ _
        unfold PySem.W.minD
        rw [List.foldl_cons, if_neg (by rw [e]; exact q)]
theorem RDs.atB {K : PySem.W.Frag} {T : Tb} {M : Mp} {H : Hp} : ∀ {ds : List D} {vs : List V}, RDs K T M H ds vs → ∀ (i : Nat) (v : V), vs[i]? = some v → ∃ d, ds[i]? = some d ∧ RD K T M H d v
  | [], vs, h, i, v, e => by cases h; simp at e
  | d :: ds, vs, h, i, v, e => by
    obtain ⟨w, r, rfl, h1, h2⟩ := h
    cases i with
    | zero => cases e; exact ⟨d, rfl, h1⟩
    | succ i => exact RDs.atB h2 i v (by simpa using e)
theorem best_ok {K : PySem.W.Frag} {T : Tb} {M : Mp} {H : Hp} {mx : Bool} {ds : List D} {d : D} {ws : List V} (h : bestT mx ds = some d) (rv : RDs K T M H ds ws) :
    ∃ x xs, DpAll K H ws (x :: xs) ∧ AlikeAll (x :: xs) ∧ PyData.canLayAll0 (x :: xs) = true ∧ PyData.depthAll (x :: xs) ≤ 60 ∧ ∀ (i : Nat) (v : V), ws[i]? = some v → (x :: xs)[i]? = some (KM.bestP mx x xs) → RD K T M H d v := by
  cases ds with
  | nil => cases h
  | cons y ys =>
    simp only [bestT] at h
    split at h
    · rename_i q
      obtain ⟨q1, q2⟩ := q
      have hs := shps_mem q1
      have ha : ∀ x ∈ y :: ys, ∀ z ∈ y :: ys, alkT x z = true := fun x hx z hz => by
        have := List.all_eq_true.mp q2 x hx
        exact List.all_eq_true.mp this z hz
      cases h
      obtain ⟨f1, f2⟩ := best_fold mx hs ha ys y List.mem_cons_self (fun z hz => List.mem_cons_of_mem _ hz)
      obtain ⟨s1, s2⟩ := shps_ok 60 (y :: ys) q1
      refine ⟨toPy y, toPys ys, RDs.dp 60 _ _ q1 rv, ⟨fun a hA b hB => ?_, fun a hA e => ?_⟩, s1, s2, fun i v e1 e2 => ?_⟩
      · have hA : a ∈ toPys (y :: ys) := hA
        have hB : b ∈ toPys (y :: ys) := hB
        rw [toPys_map] at hA hB
        obtain ⟨a', p1, rfl⟩ := List.mem_map.mp hA
        obtain ⟨b', p2, rfl⟩ := List.mem_map.mp hB
        exact alkT_ok _ _ (ha _ p1 _ p2)
      · have hA : a ∈ toPys (y :: ys) := hA
        rw [toPys_map] at hA
        obtain ⟨a', p1, rfl⟩ := List.mem_map.mp hA
        have := ha _ p1 _ p1
        cases a' <;> first | (simp [alkT] at this; done) | (simp [toPy] at e; done)
      · have e2 : (toPys (y :: ys))[i]? = some (KM.bestP mx (toPy y) (toPys ys)) := e2
        obtain ⟨c, c1, c2⟩ := rv.atB i v e1
        rw [toPys_map, List.getElem?_map, c1, f1] at e2
        have e3 := toPy_inj 60 _ _ (hs _ (List.mem_of_getElem? c1)) (hs _ f2) (Option.some.inj e2)
        rw [e3] at c2
        exact c2
    · cases h
end
section
variable {X : Cx}
theorem cr_mostX (hc : X.calm = true) (hu : X.A.units + 64 < cLine) (mx : Bool) : CallRK X (.builtin (KM.mostN mx)) [Str.ofString "default"] (fun vs zs H Q => KM.rMostD X.K mx vs zs H Q ∨ KM.rBestD X.K mx vs zs H Q) := by
  intro pins s σ H vs zs us ws Q I r rz h
  rcases h with h | h
  · exact KM.cr_mostD hc hu mx pins s σ H vs zs us ws Q I r rz h
  · exact KM.cr_bestD hc hu mx pins s σ H vs zs us ws Q I r rz h
end
end KN

namespace KN
open PySem PySem.Spec PyProof.Rows L2

/-! ### slices -/
theorem tuple_whole {prog : Program} {w : World} {A : Around} {E : Value → Shared → Prop} {s : Shared} {t sl : Addr} {items : Array Value} {vl vu : Value} {lo hi : Option Int} {Q : Value → Shared → Prop} (ht : IsTup s.heap t items) (hs : s.heap.IsSliceOf sl vl vu .none) (pl : IsPart vl lo) (pu : IsPart vu hi)
    (hw : HT.sIx items.size 0 lo = 0 ∧ HT.sIx items.size items.size hi = items.size)
    (h : Q (.ref t) s) : wpAny (model prog w) A (getItem (.ref t) (.ref sl)) Q E s := by
  obtain ⟨os, hos, hcs, hds⟩ := id hs
  have hTs : s.TypeIs (.ref sl) "slice" := ⟨os, hos, hcs⟩
  unfold getItem
  try with_reducible refine wpAny_holding ?_
  first | refine wpAny_bind (wpAny_pure ?_) | skip
  refine wpAny_bind (wpAny_sequenceKey ht.typeIs (by decide) ?_)
  refine wpAny_bind (wpAny_callSpecial?_slot (name := Str.ofString "__getitem__") ht.typeIs PyProof.Rows.slot_tuple_getitem
    (wpAny_call_entry PyProof.Rows.slot_tuple_getitem ht.typeIs entry_tuple_getitem ?_ (args_tuple_getitem _ _)))
  show wpAny _ _ (Builtin.Tuple.tupleItemsOf (.ref t) >>= _) _ _ s
  refine wpAny_bind (tupleItemsOf_ ht ?_)
  refine wpAny_bind (wpAny_typeOf hTs ?_)
  rw [if_pos (by decide)]
  refine wpAny_bind (HT.sliceApplied_gen hs pl pu ?_)
  have hyes : ((((HT.sIx items.size 0 lo : Nat) : Int) == 0 && (1 : Int) == 1 && (HT.sIx items.size items.size hi - HT.sIx items.size 0 lo) == items.size) = true) := by
    rw [hw.1, hw.2]
    simp
  show wpAny _ _ (if (((HT.sIx items.size 0 lo : Nat) : Int) == 0 && (1 : Int) == 1 && (HT.sIx items.size items.size hi - HT.sIx items.size 0 lo) == items.size) = true then _ else _) _ _ s
  rw [if_pos hyes]
  refine wpAny_bind ?_
  unfold Builtin.Tuple.tupleIsExact
  refine wpAny_bind (wpAny_typeOf ht.typeIs ?_)
  refine wpAny_pure ?_
  rw [if_pos (by decide)]
  exact wpAny_bind (wpAny_rule (wpAny_pure ⟨_, rfl, wpAny_pure h⟩))

section
variable {X : Cx}
def rSlTW (K : PySem.W.Frag) : V → Option Int → Option Int → Hp → VK → Prop := fun x lo hi H Q => ∃ a xs, x = .ref a ∧ SqT K H a xs ∧
  (HT.sIx xs.length 0 lo = 0 ∧ HT.sIx xs.length xs.length hi = xs.length) ∧ Q (.ref a) H
theorem sl_tupW : SlR X (rSlTW X.K) := by
  intro pins s σ H x v vl vu lo hi sl Q I rx hs pl pu h
  obtain ⟨a, xs, rfl, hx, hw, q⟩ := h
  cases rx
  obtain ⟨its, r, ht, hz⟩ := I.tuple hx
  have hlen : its.toArray.size = xs.length := by rw [List.size_toArray]; exact r.length.symm
  refine ⟨"tuple", _, PyProof.Rows.slot_tuple_getitem.lookup, ht.typeIs, ?_⟩
  exact tuple_whole ht hs pl pu (by rw [hlen]; exact hw) ⟨.ref a, H, I, rfl, q⟩
def rSli (K : PySem.W.Frag) : V → Option Int → Option Int → Hp → VK → Prop := fun x lo hi H Q => rSlL K x lo hi H Q ∨ rSlT K x lo hi H Q ∨ rSlTW K x lo hi H Q ∨ rSlS x lo hi H Q
theorem sl_ok : SlR X (rSli X.K) := sl_list.or (sl_tup.or (sl_tupW.or sl_str))
end

section
variable {X : Cx} {T : Tb} {W : WX} {M : Mp} {H : Hp} {g : G} {σ : L2.St}
theorem sli_ok {x : D} {v : V} {lo hi : Option Int} {Q : VK} (hr : HR X.K T M H g) (hx : RD X.K T M H x v) (h : wpR X.K T W σ M H (oR (sliD g x lo hi) g) (PQ X T Q)) : rSli X.K v lo hi H Q := by
  unfold sliD at h
  split at h
  · rename_i xs e1
    obtain ⟨p, vs, rfl, p1, p2, p3⟩ := hx.vlst hr e1
    exact .inl ⟨p, vs, rfl, .inl (.inl p1), fun q hn => new_ok h hr hn (RD.new_lst hr hn (p3.cut lo hi) (Nat.le_trans (cutV_length _ _ _) p2))⟩
  · rename_i xs e1
    obtain ⟨p, vs, rfl, p1, p2, p3⟩ := hx.vtup hr e1
    have hl := p3.length
    split at h
    · rename_i hs
      refine .inr (.inr (.inl ⟨p, vs, rfl, p1, ?_, ?_⟩))
      · rw [← six_eq, ← six_eq, ← hl]; exact hs
      · refine fin_ok h hr ?_
        rcases hx.view hr with ⟨a, _, _, _, _, e3, _⟩ | ⟨a, e3⟩ | e3
        · rw [e1] at e3; cases e3
        · rw [e1] at e3; cases e3
        · rw [← show x = D.tup xs from e3.symm.trans e1]; exact hx
    · rename_i hs
      refine .inr (.inl ⟨p, vs, rfl, p1, ?_, fun q hn => new_ok h hr hn (RD.new_tup hr hn (p3.cut lo hi) (Nat.le_trans (cutV_length _ _ _) p2))⟩)
      rw [← six_eq, ← six_eq, ← hl]; exact hs
  · rename_i s e1
    cases hx.vstr hr e1
    split at h
    · rename_i hs
      refine .inr (.inr (.inr ⟨s, rfl, lim_of hs, fin_ok h hr ?_⟩))
      show V.str _ = V.str _
      unfold KN.cut cutS
      rw [six_eq, six_eq]
      congr 1
    · exact h.elim
  · exact h.elim

/-! ### truth -/
theorem tru_okD {x : D} {v : V} {Q : Bool → Hp → Prop} (hr : HR X.K T M H g) (hx : RD X.K T M H x v) (h : wpR X.K T W σ M H (oR (truD g x) g) (fun b _ H' _ => Q b H')) : ∃ k, TruV X.K v H k ∧ Q k H := by
  have fin : ∀ {k : Bool}, wpR X.K T W σ M H (oR (some k) g) (fun b _ H' _ => Q b H') → Q k H := fun {k} h => (show wpR X.K T W σ M H (R.ok k g) _ from h) M H (Ext.refl M H) hr
  have emp : ∀ {xs : List D} {vs : List V}, RDs X.K T M H xs vs → (!xs.isEmpty) = !vs.isEmpty := fun {xs vs} r => by
    have := r.length
    cases xs <;> cases vs <;> simp_all
  unfold truD at h
  split at h
  · rename_i kvs ekv
    obtain ⟨a, p, vs, rfl, eg, h1, rfl, q1, q2, q3, q4⟩ := dk_ok hr hx ekv
    refine ⟨_, .inr (.inr ⟨vs, q1, rfl⟩), ?_⟩
    have e : (!kvs.isEmpty) = !vs.isEmpty := by
      cases kvs <;> cases vs <;> simp_all
    rw [← e]
    exact fin h
  · split at h
    · rename_i e1
      cases hx.vnon hr e1
      exact ⟨false, rfl, fin h⟩
    · rename_i b e1
      cases hx.vbl hr e1
      exact ⟨b, rfl, fin h⟩
    · rename_i i e1
      cases hx.vint hr e1
      exact ⟨_, rfl, fin h⟩
    · rename_i xs e1
      obtain ⟨p, vs, rfl, p1, p2, p3⟩ := hx.vlst hr e1
      exact ⟨_, .inl ⟨vs, .inl (.inl p1), emp p3⟩, fin h⟩
    · rename_i xs e1
      obtain ⟨p, vs, rfl, p1, p2, p3⟩ := hx.vtup hr e1
      exact ⟨_, .inr (.inl ⟨vs, p1, emp p3⟩), fin h⟩
    · rename_i s e1
      cases hx.vstr hr e1
      split at h
      · rename_i hs
        exact ⟨_, ⟨lim_of hs, rfl⟩, fin h⟩
      · exact h.elim
    · exact h.elim

/-! ### built-ins -/
def RngL (H : Hp) (p : Addr) (lo hi : Int) : Prop := H p = some (.rng lo hi)
theorem call_listRng (hc : X.calm = true) : CallR X (.type "list") (fun xs H Q => ∃ p lo hi, xs = [.ref p] ∧ H p = some (.rng lo hi) ∧ RgOk lo hi ∧ ∀ q, H q = none → Q (.ref q) (upd H q (.lst (rgV lo hi)))) := by
  intro pins s σ H xs us Q I r h
  obtain ⟨p, a, b, rfl, hp, ⟨b1, b2, b3, b4, b5⟩, q⟩ := h
  obtain ⟨u1, rfl, r1⟩ := vals1 r
  cases r1
  obtain ⟨t, u, v, hr⟩ := I.hok p _ hp
  refine call_list_range (n := (b - a).toNat) (I.ok.hd hc) (a := a) (b := b) (c := 1) (t := t) (u := u) (v := v) hr (small_one b1 b2 b3 b4) (rangeSize_nat a b) b5 fun h' tk acc c' hk e' hi => ?_
  refine ⟨.ref s.heap.objs.size, upd H s.heap.objs.size (.lst (rgV a b)), I.laid hk (Nat.le_refl _) (show ObjOk X.prog X.w _ _ _ (.lst (rgV a b)) from ⟨?_, acc.toList, c', vals_rg hi, ?_⟩), rfl, q _ (I.hok.fresh (Nat.le_refl _))⟩
  · rw [rgV_length, sizeLine_eq]; omega
  · rw [Array.toArray_toList]; exact e'
theorem call_tupRng (hc : X.calm = true) : CallR X (.type "tuple") (fun xs H Q => ∃ p lo hi, xs = [.ref p] ∧ H p = some (.rng lo hi) ∧ RgOk lo hi ∧ ∀ q, H q = none → Q (.ref q) (upd H q (.tup (rgV lo hi)))) := by
  intro pins s σ H xs us Q I r h
  obtain ⟨p, a, b, rfl, hp, ⟨b1, b2, b3, b4, b5⟩, q⟩ := h
  obtain ⟨u1, rfl, r1⟩ := vals1 r
  cases r1
  obtain ⟨t, u, v, hr⟩ := I.hok p _ hp
  refine call_tuple_range (n := (b - a).toNat) (I.ok.hd hc) (a := a) (b := b) (c := 1) (t := t) (u := u) (v := v) hr (small_one b1 b2 b3 b4) (rangeSize_nat a b) b5 fun h' tk acc hk hi => ?_
  have I2 : Inv X pins σ H { s with heap := h', toks := tk } := I.kept hk
  refine ⟨.ref h'.objs.size, upd H h'.objs.size (.tup (rgV a b)), I2.laid (t' := tk) (fun c o e => Heap.get?_push_of_some _ e) (Nat.le_refl _) (show ObjOk X.prog X.w _ _ _ (.tup (rgV a b)) from ⟨?_, acc.toList, vals_rg hi, ?_⟩), rfl, q _ (I2.hok.fresh (Nat.le_refl _))⟩
  · rw [rgV_length, sizeLine_eq]; omega
  · rw [Array.toArray_toList]; exact IsTup.new _ _
theorem call_range1 : CallR X (.type "range") (fun vs H Q => ∃ j, vs = [V.int j] ∧ ∀ p, H p = none → Q (.ref p) (upd H p (.rng 0 j))) := by
  intro pins s σ H vs us Q I r h
  obtain ⟨j, rfl, q⟩ := h
  obtain ⟨u1, rfl, ri⟩ := vals1 r
  obtain ⟨t, rfl⟩ := ri
  refine call_range_1 ⟨.ref s.heap.objs.size, upd H s.heap.objs.size (.rng 0 j), I.laid (fun b o e => Heap.get?_push_of_some _ e) (Nat.le_refl _) ?_, rfl, q _ (I.hok.fresh (Nat.le_refl _))⟩
  exact ⟨_, _, _, Heap.get?_push_size _ rfl⟩

/-- a built-in: is it a class, its name -/
def biN : Bi → Bool × String
  | .len => (false, "len") | .int => (true, "int") | .str => (true, "str") | .bool => (true, "bool") | .abs => (false, "abs")
  | .max => (false, "max") | .min => (false, "min") | .sum => (false, "sum") | .all => (false, "all") | .any => (false, "any")
  | .tuple => (true, "tuple") | .list => (true, "list") | .sorted => (false, "sorted") | .range => (true, "range") | .divmod => (false, "divmod")
def biV (b : Bi) : Value := if (biN b).1 = true then .type (biN b).2 else .builtin (biN b).2
abbrev RB := List V → Hp → VK → Prop
def rBi (K : PySem.W.Frag) : Bi → RB
  | .len => fun xs H Q => ∃ x n, xs = [x] ∧ LenV K x H n ∧ Q (.int n) H
  | .int => fun xs H Q => (∃ i, xs = [.int i] ∧ Q (.int i) H) ∨ ∃ k, xs = [.bl k] ∧ Q (.int (if k then 1 else 0)) H
  | .str => fun xs H Q => ∃ i, xs = [.int i] ∧ i.natAbs.log2 < 1920 ∧ Q (.str (toString i)) H
  | .bool => fun xs H Q => (∃ i, xs = [.int i] ∧ Q (.bl (i != 0)) H) ∨ ∃ k, xs = [.bl k] ∧ Q (.bl k) H
  | .abs => fun xs H Q => ∃ i, xs = [.int i] ∧ Q (.int (if i < 0 then -i else i)) H
  | .max => fun xs H Q => (∃ i j, xs = [.int i, .int j] ∧ Q (.int (if j > i then j else i)) H) ∨ KM.rMostB K true xs H Q ∨ KM.rBest K true xs H Q
  | .min => fun xs H Q => (∃ i j, xs = [.int i, .int j] ∧ Q (.int (if j < i then j else i)) H) ∨ KM.rMostB K false xs H Q ∨ KM.rBest K false xs H Q
  | .sum => KM.rSumB K
  | .all => rAll K
  | .any => rAny K
  | .tuple => fun xs H Q => (∃ p ys, xs = [.ref p] ∧ ((SqL K H p ys ∧ ∀ l, H l = none → Q (.ref l) (upd H l (.tup ys))) ∨ (SqT K H p ys ∧ Q (.ref p) H))) ∨
      ∃ p lo hi, xs = [.ref p] ∧ H p = some (.rng lo hi) ∧ RgOk lo hi ∧ ∀ q, H q = none → Q (.ref q) (upd H q (.tup (rgV lo hi)))
  | .list => fun xs H Q => (∃ p ys, xs = [.ref p] ∧ (SqL K H p ys ∨ SqT K H p ys) ∧ ∀ l, H l = none → Q (.ref l) (upd H l (.lst ys))) ∨
      (∃ p lo hi, xs = [.ref p] ∧ H p = some (.rng lo hi) ∧ RgOk lo hi ∧ ∀ q, H q = none → Q (.ref q) (upd H q (.lst (rgV lo hi)))) ∨
      ∃ (a : Addr) (kvs : List (Key × V)), xs = [.ref a] ∧ Rd H a (.dK kvs) ∧ ∀ p, H p = none → Q (.ref p) (upd H p (.lst (kvs.map fun kv => kV kv.1)))
  | .sorted => fun vs H Q => rSortedI K vs H Q ∨ KM.rSortR K vs H Q
  | .divmod => fun xs H Q => ∃ i j, xs = [.int i, .int j] ∧ CDiv i j ∧ ∀ p, H p = none → Q (.ref p) (upd H p (.tup [.int (i / j), .int (i % j)]))
  | .range => fun vs H Q => (∃ j, vs = [V.int j] ∧ ∀ p, H p = none → Q (.ref p) (upd H p (.rng 0 j))) ∨ ∃ i j, vs = [V.int i, V.int j] ∧ ∀ p, H p = none → Q (.ref p) (upd H p (.rng i j))
theorem bi_rule (hc : X.calm = true) (hu : X.A.units + 64 < cLine) (b : Bi) : CallR X (biV b) (rBi X.K b) := by
  cases b with
  | len => exact call_len
  | int => exact call_int1
  | str => exact call_str_int
  | bool => exact call_bool1
  | abs => exact call_abs
  | max => exact (call_max2 hc).or ((KM.cr_mostB hc hu true).or (KM.cr_best hc hu true))
  | min => exact (call_min2 hc).or ((KM.cr_mostB hc hu false).or (KM.cr_best hc hu false))
  | sum => exact KM.cr_sumB hc
  | all => exact cr_all hc
  | any => exact cr_any hc
  | tuple => exact call_tuple_of.or (call_tupRng hc)
  | list => exact call_list_of.or ((call_listRng hc).or (call_listD hc))
  | sorted => exact cr_sortedI.or (KM.cr_sortR hu)
  | divmod => exact call_divmod
  | range => exact call_range1.or cr_range2

theorem maxI_mem : ∀ {ns : List Int}, ns ≠ [] → maxI ns ∈ ns ∧ ∀ y ∈ ns, y ≤ maxI ns
  | [], h => absurd rfl h
  | [x], _ => by simp [maxI]
  | x :: y :: r, _ => by
    obtain ⟨h1, h2⟩ := maxI_mem (ns := y :: r) (by simp)
    have e : maxI (x :: y :: r) = max x (maxI (y :: r)) := rfl
    rw [e]
    refine ⟨?_, fun z hz => ?_⟩
    · rcases Int.le_total x (maxI (y :: r)) with q | q
      · rw [Int.max_eq_right q]; exact List.mem_cons_of_mem _ h1
      · rw [Int.max_eq_left q]; exact List.mem_cons_self
    · rcases List.mem_cons.mp hz with q | q
      · omega
      · have := h2 z q; omega
theorem minI_mem : ∀ {ns : List Int}, ns ≠ [] → minI ns ∈ ns ∧ ∀ y ∈ ns, minI ns ≤ y
  | [], h => absurd rfl h
  | [x], _ => by simp [minI]
  | x :: y :: r, _ => by
    obtain ⟨h1, h2⟩ := minI_mem (ns := y :: r) (by simp)
    have e : minI (x :: y :: r) = min x (minI (y :: r)) := rfl
    rw [e]
    refine ⟨?_, fun z hz => ?_⟩
    · rcases Int.le_total x (minI (y :: r)) with q | q
      · rw [Int.min_eq_left q]; exact List.mem_cons_self
      · rw [Int.min_eq_right q]; exact List.mem_cons_of_mem _ h1
    · rcases List.mem_cons.mp hz with q | q
      · omega
      · have := h2 z q; omega
theorem sortI_same {ns ms : List Int} (h1 : ms.Perm ns) (h2 : ms.Pairwise (· ≤ ·)) : ms = sortI ns := by
  have hp : (sortI ns).Perm ns := List.mergeSort_perm _ _
  have hs : (sortI ns).Pairwise (· ≤ ·) := by
    have := List.pairwise_mergeSort (le := fun a b : Int => decide (a ≤ b)) (fun a b c h1 h2 => by simp at *; omega) (fun a b => by simp; omega) ns
    exact this.imp fun h => by simpa using h
  exact List.Perm.eq_of_pairwise (fun _ _ _ _ a b => Int.le_antisymm a b) h2 hs (h1.trans hp.symm)
theorem foldl_maxI : ∀ (r : List Int) (x : Int), KM.mostF true x r = maxI (x :: r)
  | [], x => rfl
  | y :: r, x => by
    have ih := foldl_maxI r (max x y)
    have e : KM.mostF true x (y :: r) = KM.mostF true (max x y) r := rfl
    rw [e, ih]
    cases r with
    | nil => rfl
    | cons z r =>
      show max (max x y) (maxI (z :: r)) = max x (max y (maxI (z :: r)))
      omega
theorem foldl_minI : ∀ (r : List Int) (x : Int), KM.mostF false x r = minI (x :: r)
  | [], x => rfl
  | y :: r, x => by
    have ih := foldl_minI r (min x y)
    have e : KM.mostF false x (y :: r) = KM.mostF false (min x y) r := rfl
    rw [e, ih]
    cases r with
    | nil => rfl
    | cons z r =>
      show min (min x y) (minI (z :: r)) = min x (min y (minI (z :: r)))
      omega
theorem row_v {M : Mp} {H : Hp} {v : V} {r : List Int} (h : RD X.K T M H (rowD r) v) : KM.RowV X.K H v r := by
  obtain ⟨p, us, rfl, q1, q2, q3⟩ := h
  have hv := RDs.of_ints (ints_map r) q3
  subst hv
  exact ⟨p, rfl, q1.sq⟩
theorem intsD_eq : ∀ {xs : List D} {ns : List Int}, KN.intsD xs = some ns → xs = ns.map .int
  | [], ns, e => by cases e; rfl
  | x :: xs, ns, e => by
    cases x <;> simp [KN.intsD] at e
    obtain ⟨ms, e3, rfl⟩ := e
    rw [intsD_eq e3]; rfl
theorem rowsD_eq : ∀ {ds : List D} {rs : List (List Int)}, KN.rowsD ds = some rs → ds = rs.map rowD
  | [], rs, e => by cases e; rfl
  | d :: ds, rs, e => by
    cases d with
    | tup xs =>
      simp only [KN.rowsD] at e
      split at e
      · rename_i ns qs e1 e2
        cases e
        rw [rowsD_eq e2, intsD_eq e1]; rfl
      · cases e
    | _ => simp [KN.rowsD] at e
theorem rds_rows {M : Mp} {H : Hp} : ∀ {rs : List (List Int)} {vs : List V}, RDs X.K T M H (rs.map rowD) vs → Paired (fun v r => RD X.K T M H (rowD r) v) vs rs
  | [], vs, h => by cases h; exact .nil
  | r :: rs, vs, h => by
    obtain ⟨v, us, rfl, h1, h2⟩ := h
    exact .cons h1 (rds_rows h2)
theorem rows_rds {M : Mp} {H : Hp} : ∀ {vs : List V} {rs : List (List Int)}, Paired (fun v r => RD X.K T M H (rowD r) v) vs rs → RDs X.K T M H (rs.map rowD) vs
  | _, _, .nil => rfl
  | _, _, .cons a b => ⟨_, _, rfl, a, rows_rds b⟩
theorem same_of {rs : List (List Int)} (h : oneLen rs = true) : KM.SameLen rs := by
  intro r hr
  cases rs with
  | nil => cases hr
  | cons q qs =>
    simp only [oneLen, Bool.and_eq_true, decide_eq_true_eq, List.all_eq_true] at h
    have e1 := h.2 r hr
    exact ⟨by omega, fun q' hq' => by rw [h.2 q' hq', e1]⟩
theorem rgV_eq (lo hi : Int) : rgV lo hi = (rangeI lo hi).map V.int := by unfold rgV rangeI; rw [List.map_map]; rfl
theorem rg_of {lo hi : Int} (h : okR lo hi ∧ (hi - lo).toNat ≤ LIM) : RgOk lo hi := by
  obtain ⟨⟨a, b, c, d⟩, e⟩ := h
  have e1 : (2 : Int) ^ 62 = 4611686018427387904 := by decide
  have e2 : (2 : Nat) ^ 24 = 16777216 := by decide
  unfold RgOk
  rw [e1, e2]
  rw [lim_is] at e
  exact ⟨a, b, c, d, e⟩
theorem rangeI_len (lo hi : Int) : (rangeI lo hi).length = (hi - lo).toNat := by unfold rangeI; simp
theorem rds1 {K : PySem.W.Frag} {d : D} {vs : List V} (h : RDs K T M H [d] vs) : ∃ v, vs = [v] ∧ RD K T M H d v := by
  obtain ⟨v, r, rfl, h1, h2⟩ := h
  cases h2
  exact ⟨v, rfl, h1⟩
theorem rds2 {K : PySem.W.Frag} {d e : D} {vs : List V} (h : RDs K T M H [d, e] vs) : ∃ v w, vs = [v, w] ∧ RD K T M H d v ∧ RD K T M H e w := by
  obtain ⟨v, r, rfl, h1, h2⟩ := h
  obtain ⟨w, rfl, h3⟩ := rds1 h2
  exact ⟨v, w, rfl, h1, h3⟩
theorem RD.new_rng {p : Addr} {lo hi : Int} (hr : HR X.K T M H g) (hp : H p = none) : RD X.K T M (upd H p (.rng lo hi)) (.rng lo hi) (.ref p) := ⟨p, rfl, upd_same, hr.out hp⟩
theorem view_back {x : D} {v : V} (hr : HR X.K T M H g) (hx : RD X.K T M H x v) {xs : List D} (e1 : view g x = .tup xs) : RD X.K T M H (.tup xs) v := by
  rcases hx.view hr with ⟨a, _, _, _, _, e3, _⟩ | ⟨a, e3⟩ | e3
  · rw [e1] at e3; cases e3
  · rw [e1] at e3; cases e3
  · rw [← show x = D.tup xs from e3.symm.trans e1]; exact hx

theorem RDs.keys {M : Mp} {H : Hp} : ∀ kvs : List (Ky × D), RDs X.K T M H (kvs.map fun kv => kyD kv.1) (kvs.map fun kv => kV kv.1)
  | [] => rfl
  | (.inl i, _) :: r => ⟨_, _, rfl, rfl, RDs.keys r⟩
  | (.inr i, _) :: r => ⟨_, _, rfl, rfl, RDs.keys r⟩
theorem bi_ok {b : Bi} {ds : List D} {vs : List V} {Q : VK} (hr : HR X.K T M H g) (hx : RDs X.K T M H ds vs) (h : wpR X.K T W σ M H (oR (biD b g ds) g) (PQ X T Q)) : rBi X.K b vs H Q := by
  unfold biD at h
  split at h
  · -- len
    rename_i d
    obtain ⟨v, rfl, hd⟩ := rds1 hx
    split at h
    · rename_i xs e1
      obtain ⟨p, vs, rfl, p1, p2, p3⟩ := hd.vlst hr e1
      exact ⟨_, vs.length, rfl, .inl ⟨vs, .inl (.inl p1), rfl⟩, by rw [← p3.length]; exact fin_ok h hr rfl⟩
    · rename_i xs e1
      obtain ⟨p, vs, rfl, p1, p2, p3⟩ := hd.vtup hr e1
      exact ⟨_, vs.length, rfl, .inr ⟨vs, p1, rfl⟩, by rw [← p3.length]; exact fin_ok h hr rfl⟩
    · rename_i xs e1
      obtain ⟨p, rfl, p1⟩ := hd.vscr hr e1
      exact ⟨_, _, rfl, .inl ⟨_, p1, rfl⟩, by rw [List.length_map]; exact fin_ok h hr rfl⟩
    · rename_i s e1
      cases hd.vstr hr e1
      split at h
      · rename_i hs
        exact ⟨_, _, rfl, ⟨lim_of hs, rfl⟩, fin_ok h hr rfl⟩
      · exact h.elim
    · exact h.elim
  · obtain ⟨v, rfl, hd⟩ := rds1 hx
    cases hd
    exact .inl ⟨_, rfl, fin_ok h hr rfl⟩
  · obtain ⟨v, rfl, hd⟩ := rds1 hx
    cases hd
    exact .inr ⟨_, rfl, fin_ok h hr rfl⟩
  · obtain ⟨v, rfl, hd⟩ := rds1 hx
    cases hd
    split at h
    · rename_i hs
      exact ⟨_, rfl, hs, fin_ok h hr rfl⟩
    · exact h.elim
  · obtain ⟨v, rfl, hd⟩ := rds1 hx
    cases hd
    exact .inl ⟨_, rfl, fin_ok h hr rfl⟩
  · obtain ⟨v, rfl, hd⟩ := rds1 hx
    cases hd
    exact .inr ⟨_, rfl, fin_ok h hr rfl⟩
  · obtain ⟨v, rfl, hd⟩ := rds1 hx
    cases hd
    exact ⟨_, rfl, fin_ok h hr rfl⟩
  · obtain ⟨v, w, rfl, hd, he⟩ := rds2 hx
    cases hd
    cases he
    exact .inl ⟨_, _, rfl, fin_ok h hr rfl⟩
  · obtain ⟨v, w, rfl, hd, he⟩ := rds2 hx
    cases hd
    cases he
    exact .inl ⟨_, _, rfl, fin_ok h hr rfl⟩
  · -- max
    obtain ⟨v, rfl, hd⟩ := rds1 hx
    cases es : KN.seqOf g _ with
    | none => rw [es] at h; exact h.elim
    | some xs =>
      rw [es, Option.bind_some] at h
      obtain ⟨b, p, vs, rfl, p1, p2, p3⟩ := hd.vseq hr es
      cases e : KN.intsD xs with
      | none =>
        rw [e] at h
        simp only at h
        cases eb : bestT true xs with
        | none => rw [eb] at h; exact h.elim
        | some d =>
          rw [eb] at h
          obtain ⟨y, ys, z1, z2, z3, z4, z5⟩ := best_ok eb p3
          exact .inr (.inr ⟨b, p, vs, y, ys, rfl, p1, z1, z2, z3, z4, fun i v e1 e2 => fin_ok h hr (z5 i v e1 e2)⟩)
      | some ns =>
        rw [e] at h
        simp only at h
        have hv := RDs.of_ints e p3
        subst hv
        cases ns with
        | nil => rw [if_pos rfl] at h; exact h.elim
        | cons n r =>
          rw [if_neg (by simp)] at h
          exact .inr (.inl ⟨b, p, n, r, rfl, p1, by rw [foldl_maxI]; exact fin_ok h hr rfl⟩)
  · -- min
    obtain ⟨v, rfl, hd⟩ := rds1 hx
    cases es : KN.seqOf g _ with
    | none => rw [es] at h; exact h.elim
    | some xs =>
      rw [es, Option.bind_some] at h
      obtain ⟨b, p, vs, rfl, p1, p2, p3⟩ := hd.vseq hr es
      cases e : KN.intsD xs with
      | none =>
        rw [e] at h
        simp only at h
        cases eb : bestT false xs with
        | none => rw [eb] at h; exact h.elim
        | some d =>
          rw [eb] at h
          obtain ⟨y, ys, z1, z2, z3, z4, z5⟩ := best_ok eb p3
          exact .inr (.inr ⟨b, p, vs, y, ys, rfl, p1, z1, z2, z3, z4, fun i v e1 e2 => fin_ok h hr (z5 i v e1 e2)⟩)
      | some ns =>
        rw [e] at h
        simp only at h
        have hv := RDs.of_ints e p3
        subst hv
        cases ns with
        | nil => rw [if_pos rfl] at h; exact h.elim
        | cons n r =>
          rw [if_neg (by simp)] at h
          exact .inr (.inl ⟨b, p, n, r, rfl, p1, by rw [foldl_minI]; exact fin_ok h hr rfl⟩)
  · -- sum
    obtain ⟨v, rfl, hd⟩ := rds1 hx
    cases es : KN.seqOf g _ with
    | none => rw [es] at h; exact h.elim
    | some xs =>
      rw [es, Option.bind_some] at h
      obtain ⟨b, p, vs, rfl, p1, p2, p3⟩ := hd.vseq hr es
      cases e : KN.intsD xs with
      | none => rw [e] at h; exact h.elim
      | some ns =>
        rw [e] at h
        have hv := RDs.of_ints e p3
        subst hv
        exact ⟨b, p, ns, rfl, p1, fin_ok h hr rfl⟩
  · -- all
    obtain ⟨v, rfl, hd⟩ := rds1 hx
    split at h
    · rename_i xs e1
      obtain ⟨p, vs, rfl, p1, p2, p3⟩ := hd.vlst hr e1
      cases e : KN.bools xs with
      | none => rw [e] at h; exact h.elim
      | some ns =>
        rw [e] at h
        have hv := RDs.of_bools e p3
        subst hv
        exact ⟨p, ns, rfl, .inl (.inl p1), fin_ok h hr rfl⟩
    · exact h.elim
  · -- any
    obtain ⟨v, rfl, hd⟩ := rds1 hx
    split at h
    · rename_i xs e1
      obtain ⟨p, vs, rfl, p1, p2, p3⟩ := hd.vlst hr e1
      cases e : KN.bools xs with
      | none => rw [e] at h; exact h.elim
      | some ns =>
        rw [e] at h
        have hv := RDs.of_bools e p3
        subst hv
        exact ⟨p, ns, rfl, .inl (.inl p1), fin_ok h hr rfl⟩
    · exact h.elim
  · -- tuple
    obtain ⟨v, rfl, hd⟩ := rds1 hx
    split at h
    · rename_i xs e1
      obtain ⟨p, vs, rfl, p1, p2, p3⟩ := hd.vlst hr e1
      exact .inl ⟨p, vs, rfl, .inl ⟨.inl (.inl p1), fun q hn => new_ok h hr hn (RD.new_tup hr hn p3 p2)⟩⟩
    · rename_i xs e1
      obtain ⟨p, vs, rfl, p1, p2, p3⟩ := hd.vtup hr e1
      exact .inl ⟨p, vs, rfl, .inr ⟨p1, fin_ok h hr (view_back hr hd e1)⟩⟩
    · rename_i lo hi e1
      obtain ⟨p, rfl, p1⟩ := hd.vrng hr e1
      split at h
      · rename_i hs
        refine .inr ⟨p, lo, hi, rfl, p1, rg_of hs, fun q hn => new_ok h hr hn ?_⟩
        rw [rgV_eq]
        exact RD.new_tup hr hn RDs.ints (by rw [List.length_map, rangeI_len]; exact hs.2)
      · exact h.elim
    · exact h.elim
  · -- list
    obtain ⟨v, rfl, hd⟩ := rds1 hx
    split at h
    · rename_i kvs ekv
      obtain ⟨a, p, vs, rfl, eg, h1, rfl, q1, q2, q3, q4⟩ := dk_ok hr hd ekv
      refine .inr (.inr ⟨p, vs, rfl, .inl q1, fun q hn => new_ok h hr hn ?_⟩)
      have e : (vs.map fun kv => kV kv.1) = kvs.map fun kv => kV kv.1 := by
        have := congrArg (List.map kV) q3
        rw [List.map_map, List.map_map] at this
        exact this
      refine RD.new_lst hr hn ?_ (by rw [List.length_map]; exact q2)
      rw [e]
      exact RDs.keys kvs
    · split at h
      · rename_i xs e1
        obtain ⟨p, vs, rfl, p1, p2, p3⟩ := hd.vlst hr e1
        exact .inl ⟨p, vs, rfl, .inl (.inl (.inl p1)), fun q hn => new_ok h hr hn (RD.new_lst hr hn p3 p2)⟩
      · rename_i xs e1
        obtain ⟨p, vs, rfl, p1, p2, p3⟩ := hd.vtup hr e1
        exact .inl ⟨p, vs, rfl, .inr p1, fun q hn => new_ok h hr hn (RD.new_lst hr hn p3 p2)⟩
      · rename_i lo hi e1
        obtain ⟨p, rfl, p1⟩ := hd.vrng hr e1
        split at h
        · rename_i hs
          refine .inr (.inl ⟨p, lo, hi, rfl, p1, rg_of hs, fun q hn => new_ok h hr hn ?_⟩)
          rw [rgV_eq]
          exact RD.new_lst hr hn RDs.ints (by rw [List.length_map, rangeI_len]; exact hs.2)
        · exact h.elim
      · exact h.elim
  · -- sorted
    obtain ⟨v, rfl, hd⟩ := rds1 hx
    split at h
    · rename_i xs e1
      obtain ⟨p, vs, rfl, p1, p2, p3⟩ := hd.vlst hr e1
      cases e : KN.intsD xs with
      | some ns =>
        rw [e] at h
        have hv := RDs.of_ints e p3
        subst hv
        refine .inl ⟨p, ns, rfl, .inl (.inl p1), fun ms q h1 h2 hn => new_ok h hr hn ?_⟩
        rw [sortI_same h1 h2]
        refine RD.new_lst hr hn RDs.ints ?_
        rw [List.length_map, sortI, List.length_mergeSort]
        rw [List.length_map] at p2
        exact p2
      | none =>
        rw [e] at h
        simp only at h
        cases e2 : KN.rowsD xs with
        | none => rw [e2] at h; exact h.elim
        | some rs =>
          rw [e2] at h
          simp only at h
          split at h
          · rename_i hl
            have k2 := rowsD_eq e2
            subst k2
            have k1 := rds_rows p3
            have hlen : rs.length = vs.length := k1.length.symm
            refine .inr ⟨_, p, vs, rs, fun _ _ => row_v, rfl, .inl (.inl p1), k1, same_of hl, fun ys q hy hn => new_ok h hr hn (RD.new_lst hr hn (rows_rds hy) ?_)⟩
            rw [hy.length, List.length_mergeSort, hlen]
            exact p2
          · exact h.elim
    · exact h.elim
  · -- divmod
    obtain ⟨v, w, rfl, hd, he⟩ := rds2 hx
    cases hd
    cases he
    split at h
    · rename_i hj
      refine ⟨_, _, rfl, hj, fun q hn => new_ok h hr hn (RD.new_tup hr hn (ds := [.int _, .int _]) ⟨_, _, rfl, rfl, _, _, rfl, rfl, rfl⟩ ?_)⟩
      show 2 ≤ LIM
      rw [lim_is]; decide
    · exact h.elim
  · obtain ⟨v, rfl, hd⟩ := rds1 hx
    cases hd
    split at h
    · exact .inl ⟨_, rfl, fun q hn => new_ok h hr hn (RD.new_rng hr hn)⟩
    · exact h.elim
  · obtain ⟨v, w, rfl, hd, he⟩ := rds2 hx
    cases hd
    cases he
    split at h
    · exact .inr ⟨_, _, rfl, fun q hn => new_ok h hr hn (RD.new_rng hr hn)⟩
    · exact h.elim
  · exact h.elim
end
end KN

namespace KN
open PySem PySem.Spec PyProof.Rows L2
/-! ### a def's end -/
section
variable {K : PySem.W.Frag} {T : Tb} {M M' : Mp} {H H' : Hp} {g0 g1 : G}
structure Back (M : Mp) (M' : Mp) : Prop where
  pre : M.m <+: M'.m
  sub : ∀ p ∈ M.b, p ∈ M'.b
theorem Back.out (b : Back M M') {p : Addr} (h : M'.out p) : M.out p := ⟨fun z => h.1 (b.pre.subset z), fun z => h.2 (b.sub p z)⟩
theorem Back.at (b : Back M M') {a : Nat} {p : Addr} (h : M.m[a]? = some p) : M'.m[a]? = some p := by
  obtain ⟨t, ht⟩ := b.pre
  rw [← ht, List.getElem?_append_left (List.getElem?_eq_some_iff.mp h).1]
  exact h
theorem TupM.back (b : Back M M') {p : Addr} {vs : List V} (h : TupM K M' H p vs) : TupM K M H p vs := h.imp (fun z => ⟨z.1, b.out z.2⟩) id
theorem ScrM.back (b : Back M M') {p : Addr} {vs : List V} (h : ScrM K M' H p vs) : ScrM K M H p vs := h.imp (fun z => ⟨z.1, b.out z.2⟩) id
mutual
theorem RD.back (b : Back M M') : ∀ (d : D) (v0 v : V), RD K T M H d v0 → RD K T M' H' d v → RD K T M H' d v
  | .non, _, v, _, h => h
  | .bl _, _, v, _, h => h
  | .int _, _, v, _, h => h
  | .str _, _, v, _, h => h
  | .tup xs, _, v, h0, h => by
    obtain ⟨p0, vs0, _, _, _, k⟩ := h0
    obtain ⟨p, vs, e1, h1, h2, h3⟩ := h
    exact ⟨p, vs, e1, h1.back b, h2, RDs.back b xs vs0 vs k h3⟩
  | .lst xs, _, v, h0, h => by
    obtain ⟨p0, vs0, _, _, _, k⟩ := h0
    obtain ⟨p, vs, e1, h1, h2, h3⟩ := h
    exact ⟨p, vs, e1, ⟨h1.1, b.out h1.2⟩, h2, RDs.back b xs vs0 vs k h3⟩
  | .scr xs, _, v, _, h => by
    obtain ⟨p, e1, h1⟩ := h
    exact ⟨p, e1, h1.back b⟩
  | .rng _ _, _, v, _, h => by
    obtain ⟨p, e1, h1, h2⟩ := h
    exact ⟨p, e1, h1, b.out h2⟩
  | .obj c ks fs, _, v, h0, h => by
    obtain ⟨_, _, fv0, _, _, _, k⟩ := h0
    obtain ⟨p, dx, fvs, e1, h1, h2, h3⟩ := h
    exact ⟨p, dx, fvs, e1, ⟨h1.1, b.out h1.2⟩, h2, RDs.back b fs _ _ k h3⟩
  | .exn _ _ _, _, v, _, h => h
  | .ref a, _, v, h0, h => by
    obtain ⟨p0, k1, _⟩ := h0
    obtain ⟨p, h1, h2⟩ := h
    have z := b.at k1
    rw [h1] at z
    have z' := Option.some.inj z
    exact ⟨p0, k1, by rw [h2, z']⟩
  | .fn _, _, v, _, h => h
theorem RDs.back (b : Back M M') : ∀ (ds : List D) (vs0 vs : List V), RDs K T M H ds vs0 → RDs K T M' H' ds vs → RDs K T M H' ds vs
  | [], _, vs, _, h => h
  | d :: ds, _, vs, h0, h => by
    obtain ⟨v0, r0, rfl, k1, k2⟩ := h0
    obtain ⟨v, r, e1, h1, h2⟩ := h
    exact ⟨v, r, e1, RD.back b d v0 v k1 h1, RDs.back b ds r0 r k2 h2⟩
end
theorem RO.back (b : Back M M') {o : O} {p q : Addr} (h0 : RO K T M H o p) (h : RO K T M' H' o q) : RO K T M H' o q := by
  cases o with
  | lst xs =>
    obtain ⟨vs0, _, _, k⟩ := h0
    obtain ⟨vs, h1, h2, h3⟩ := h
    exact ⟨vs, h1, h2, RDs.back b _ _ _ k h3⟩
  | ins c ks fs =>
    obtain ⟨_, fv0, _, _, k⟩ := h0
    obtain ⟨dx, fvs, h1, h2, h3⟩ := h
    exact ⟨dx, fvs, h1, h2, RDs.back b _ _ _ k h3⟩
  | dk kvs =>
    obtain ⟨vs0, _, _, _, k⟩ := h0
    obtain ⟨vs, h1, h2, h3, h4⟩ := h
    exact ⟨vs, h1, h2, h3, RDs.back b _ _ _ k h4⟩
mutual
theorem RD.low {n : Nat} (b : Back M M') (hn : M.m.length = n) : ∀ (d : D) (v : V), low n d = true → RD K T M' H' d v → RD K T M H' d v
  | .non, v, _, h => h
  | .bl _, v, _, h => h
  | .int _, v, _, h => h
  | .str _, v, _, h => h
  | .tup xs, v, l, h => by
    obtain ⟨p, vs, e1, h1, h2, h3⟩ := h
    exact ⟨p, vs, e1, h1.back b, h2, RDs.low b hn xs vs l h3⟩
  | .lst xs, v, l, h => by
    obtain ⟨p, vs, e1, h1, h2, h3⟩ := h
    exact ⟨p, vs, e1, ⟨h1.1, b.out h1.2⟩, h2, RDs.low b hn xs vs l h3⟩
  | .scr xs, v, _, h => by
    obtain ⟨p, e1, h1⟩ := h
    exact ⟨p, e1, h1.back b⟩
  | .rng _ _, v, _, h => by
    obtain ⟨p, e1, h1, h2⟩ := h
    exact ⟨p, e1, h1, b.out h2⟩
  | .obj c ks fs, v, l, h => by
    obtain ⟨p, dx, fvs, e1, h1, h2, h3⟩ := h
    exact ⟨p, dx, fvs, e1, ⟨h1.1, b.out h1.2⟩, h2, RDs.low b hn fs _ l h3⟩
  | .exn _ _ _, v, _, h => h
  | .ref a, v, l, h => by
    obtain ⟨p, z1, z2⟩ := h
    refine ⟨p, ?_, z2⟩
    have ha : a < n := of_decide_eq_true l
    obtain ⟨t, ht⟩ := b.pre
    rw [← ht, List.getElem?_append_left (by rw [hn]; exact ha)] at z1
    exact z1
  | .fn _, v, _, h => h
theorem RDs.low {n : Nat} (b : Back M M') (hn : M.m.length = n) : ∀ (ds : List D) (vs : List V), lows n ds = true → RDs K T M' H' ds vs → RDs K T M H' ds vs
  | [], _, _, h => h
  | d :: ds, vs, l, h => by
    obtain ⟨v, r, e1, h1, h2⟩ := h
    simp only [lows, Bool.and_eq_true] at l
    exact ⟨v, r, e1, RD.low b hn d v l.1 h1, RDs.low b hn ds r l.2 h2⟩
end
theorem RO.low {n : Nat} (b : Back M M') (hn : M.m.length = n) {o : O} {q : Addr} (l : lowO n o = true) (h : RO K T M' H' o q) : RO K T M H' o q := by
  cases o with
  | lst xs =>
    obtain ⟨vs, h1, h2, h3⟩ := h
    exact ⟨vs, h1, h2, RDs.low b hn _ _ l h3⟩
  | ins c ks fs =>
    obtain ⟨dx, fvs, h1, h2, h3⟩ := h
    exact ⟨dx, fvs, h1, h2, RDs.low b hn _ _ l h3⟩
  | dk kvs =>
    obtain ⟨vs, h1, h2, h3, h4⟩ := h
    exact ⟨vs, h1, h2, h3, RDs.low b hn _ _ l h4⟩
theorem HR.back (h0 : HR K T M H g0) (e : Ext M H M' H') (h : HR K T M' H' g1) (hg : OldOk g0 g1) : HR K T M H' (g1.take g0.length) := by
  have b : Back M M' := ⟨e.pre, e.sub⟩
  refine ⟨by rw [h0.len, List.length_take]; have := hg.1; omega, h0.nd, fun a o p q1 q2 => ?_, fun p hp => h.th p fun z => hp (b.out z), h0.ap, h.tb⟩
  rw [List.getElem?_take] at q1
  split at q1
  · rename_i ha
    have q3 := h.ob a o p q1 (b.at q2)
    rcases hg.2 a o ha q1 with z | z
    · exact RO.back b (h0.ob a o p z q2) q3
    · exact RO.low b h0.len z q3
  · cases q1
theorem Ext.stay (e : Ext M H M' H') : Ext M H M H' := ⟨fun _ h => h, fun _ h => .inl h, List.prefix_refl _, e.keep, fun _ h => .inl h⟩
theorem omap_rds {f : D → Option D} {M1 : Mp} {H1 : Hp} (k : ∀ d r v, f d = some r → RD K T M' H' d v → RD K T M1 H1 r v) : ∀ {ds rs : List D} {vs : List V}, omap f ds = some rs → RDs K T M' H' ds vs → RDs K T M1 H1 rs vs
  | [], rs, vs, e, h => by cases e; exact h
  | d :: ds, rs, vs, e, h => by
    obtain ⟨v, r, rfl, h1, h2⟩ := h
    simp only [omap] at e
    split at e
    · rename_i y ys e1 e2
      cases e
      exact ⟨v, r, rfl, k d y v e1 h1, omap_rds k e2 h2⟩
    · cases e
theorem snap_ok (h0 : HR K T M H g0) (e : Ext M H M' H') (h : HR K T M' H' g1) (hg : OldOk g0 g1) : ∀ (k : Nat) (d r : D) (v : V), snap (g1.drop g0.length) g0.length k d = some r → RD K T M' H' d v → RD K T M H' r v
  | 0, d, r, v, q, _ => by simp [snap] at q
  | k + 1, d, r, v, q, hd => by
    have b : Back M M' := ⟨e.pre, e.sub⟩
    have ih := snap_ok h0 e h hg k
    have fr : ∀ a p, ¬ a < g0.length → M'.m[a]? = some p → M.out p := fun a p ha hp => ⟨fun hm => by
      obtain ⟨j, hj, ej⟩ := List.getElem_of_mem hm
      have q1 : M'.m[j]? = some p := b.at (by rw [← ej]; exact List.getElem?_eq_getElem hj)
      obtain ⟨l1, e1⟩ := List.getElem?_eq_some_iff.mp q1
      obtain ⟨l2, e2⟩ := List.getElem?_eq_some_iff.mp hp
      have := (List.getElem_inj h.nd).mp (e1.trans e2.symm)
      rw [h0.len] at hj
      omega, fun hm => h.ap p (b.sub p hm) (List.mem_of_getElem? hp)⟩
    cases d with
    | tup xs =>
      simp only [snap, Option.map_eq_some_iff] at q
      obtain ⟨ys, e1, rfl⟩ := q
      obtain ⟨p, vs, z1, z2, z3, z4⟩ := hd
      exact ⟨p, vs, z1, z2.back b, z3, omap_rds ih e1 z4⟩
    | lst xs =>
      simp only [snap, Option.map_eq_some_iff] at q
      obtain ⟨ys, e1, rfl⟩ := q
      obtain ⟨p, vs, z1, z2, z3, z4⟩ := hd
      exact ⟨p, vs, z1, ⟨z2.1, b.out z2.2⟩, z3, omap_rds ih e1 z4⟩
    | obj c ks fs =>
      simp only [snap, Option.map_eq_some_iff] at q
      obtain ⟨ys, e1, rfl⟩ := q
      obtain ⟨p, dx, fvs, z1, z2, z3, z4⟩ := hd
      exact ⟨p, dx, fvs, z1, ⟨z2.1, b.out z2.2⟩, z3, omap_rds ih e1 z4⟩
    | exn c ks fs => exact hd.elim
    | ref a =>
      simp only [snap] at q
      obtain ⟨p, z1, z2⟩ := hd
      split at q
      · rename_i ha
        cases q
        refine ⟨p, ?_, z2⟩
        obtain ⟨t, ht⟩ := b.pre
        rw [← ht, List.getElem?_append_left (by rw [h0.len]; exact ha)] at z1
        exact z1
      · rename_i ha
        split at q
        · rename_i xs e1
          simp only [Option.map_eq_some_iff] at q
          obtain ⟨ys, e2, rfl⟩ := q
          have e3 : g1[a]? = some (.lst xs) := by
            rw [List.getElem?_drop] at e1
            rw [← e1]; congr 1; omega
          obtain ⟨vs, y1, y2, y3⟩ := h.at e3 z1
          exact ⟨p, vs, z2, ⟨y1, fr a p ha z1⟩, y2, omap_rds ih e2 y3⟩
        · rename_i c ks fs e1
          simp only [Option.map_eq_some_iff] at q
          obtain ⟨ys, e2, rfl⟩ := q
          have e3 : g1[a]? = some (.ins c ks fs) := by
            rw [List.getElem?_drop] at e1
            rw [← e1]; congr 1; omega
          obtain ⟨dx, fvs, y1, y2, y3⟩ := h.at e3 z1
          exact ⟨p, dx, fvs, z2, ⟨y1, fr a p ha z1⟩, y2, omap_rds ih e2 y3⟩
        · cases q
    | rng lo hi =>
      cases q
      obtain ⟨p, z1, z2, z3⟩ := hd
      exact ⟨p, z1, z2, b.out z3⟩
    | scr ns =>
      cases q
      obtain ⟨p, z1, z2⟩ := hd
      exact ⟨p, z1, z2.back b⟩
    | non => cases q; exact hd
    | bl _ => cases q; exact hd
    | int _ => cases q; exact hd
    | str _ => cases q; exact hd
    | fn _ => cases q; exact hd
theorem exit_ok {W : WX} {σ : L2.St} {keep : Bool} {d : D} {v : V} {Q : VK} (h0 : HR K T M H g0) (e : Ext M H M' H') (h : HR K T M' H' g1) (rv : RD K T M' H' d v)
    (q : wpR K T W σ M H (exitD keep g0 d g1) fun d M' H' _ => ∀ v, RD K T M' H' d v → Q v H') : Q v H' := by
  unfold exitD at q
  split at q
  · exact q M' H' e h v rv
  · split at q
    · exact q M' H' e h v rv
    · split at q
      · rename_i hg
        cases es : snap (g1.drop g0.length) g0.length 60 d with
        | none => rw [es] at q; exact q.elim
        | some r =>
          rw [es] at q
          have q' : wpR K T W σ M H (KN.R.ok r (g1.take g0.length)) fun d M' H' _ => ∀ v, RD K T M' H' d v → Q v H' := q
          exact q' M H' e.stay (h0.back e h hg) v (snap_ok h0 e h hg 60 d r v es rv)
      · exact q M' H' e h v rv
theorem exitX_ok {W : WX} {σ : L2.St} {keep : Bool} {x : D} {cls : Value} {dd : Option Addr} {post : D → Mp → Hp → G → Prop} (h0 : HR K T M H g0) (e : Ext M H M' H') (h : HR K T M' H' g1) (rx : RX K T M' H' x cls dd)
    (q : wpR K T W σ M H (match exitD keep g0 x g1 with | .ok x g => KN.R.exc x g | _ => .st) post) : W cls dd σ H' := by
  have b : Back M M' := ⟨e.pre, e.sub⟩
  cases x with
  | exn c ks fs =>
    obtain ⟨rfl, rx⟩ := rx
    have direct : wpR K T W σ M H (KN.R.exc (D.exn c ks fs) g1) post → W (.ref (T.cad c)) dd σ H' := fun q => q M' H' _ dd e h ⟨rfl, rx⟩
    unfold exitD at q
    split at q
    · rename_i x' g' ex
      split at ex
      · cases ex; exact direct q
      · split at ex
        · cases ex; exact direct q
        · split at ex
          · rename_i hg
            cases es : snap (g1.drop g0.length) g0.length 60 (.exn c ks fs) with
            | none => rw [es] at ex; cases ex
            | some r =>
              rw [es] at ex
              cases ex
              simp only [snap, Option.map_eq_some_iff] at es
              obtain ⟨ys, e1, rfl⟩ := es
              refine q M H' _ dd e.stay (h0.back e h hg) ⟨rfl, ?_⟩
              rcases rx with ⟨rfl, rfl⟩ | ⟨d, fvs, z1, z2, z3, z4, z5⟩
              · cases e1; exact .inl ⟨rfl, rfl⟩
              · exact .inr ⟨d, fvs, z1, z2, b.out z3, z4, omap_rds (snap_ok h0 e h hg 59) e1 z5⟩
          · cases ex; exact direct q
    · exact q.elim
  | _ => exact rx.elim
end


/-! ### instances -/
section
variable {K : PySem.W.Frag} {T : Tb} {M : Mp} {H : Hp} {g : G}
theorem RD.inst (hr : HR K T M H g) {d : D} {v : V} {c : Nat} {ks : List Nat} {fs : List D} (h : RD K T M H d v) (e : clsOf g d = some (c, ks, fs)) :
    ∃ p dx fvs, v = .ref p ∧ H p = some (.ins (T.cad c) dx fvs) ∧ fvs.map (·.1) = ks.map T.knm ∧ RDs K T M H fs (fvs.map (·.2)) := by
  cases d with
  | obj c' ks' fs' =>
    cases e
    obtain ⟨p, dx, fvs, e1, h1, h2, h3⟩ := h
    exact ⟨p, dx, fvs, e1, h1.1, h2, h3⟩
  | ref a =>
    obtain ⟨p, h1, h2⟩ := h
    simp only [clsOf] at e
    split at e
    · rename_i eg
      cases e
      obtain ⟨dx, fvs, q1, q2, q3⟩ := hr.at eg h1
      exact ⟨p, dx, fvs, h2, q1, q2, q3⟩
    · cases e
  | _ => cases e
theorem fld_look (inj : ∀ a b, T.knm a = T.knm b → a = b) {k : Nat} {d : D} : ∀ {ks : List Nat} {fs : List D} {fvs : List (Str × V)}, fvs.map (·.1) = ks.map T.knm → RDs K T M H fs (fvs.map (·.2)) → fldD ks fs k = some d → ∃ v, fvs.lookup (T.knm k) = some v ∧ RD K T M H d v
  | [], fs, fvs, _, _, e => by cases fs <;> simp [fldD] at e
  | k' :: ks, [], fvs, _, _, e => by simp [fldD] at e
  | k' :: ks, f :: fs, [], h1, _, _ => by simp at h1
  | k' :: ks, f :: fs, (x, v) :: fvs, h1, h2, e => by
    simp only [List.map_cons, List.cons.injEq] at h1
    obtain ⟨v', r, e2, q1, q2⟩ := h2
    simp only [List.map_cons, List.cons.injEq] at e2
    obtain ⟨rfl, rfl⟩ := e2
    simp only [fldD] at e
    split at e
    · rename_i hk
      cases e
      refine ⟨v, ?_, q1⟩
      rw [h1.1, hk, List.lookup_cons, beq_self_eq_true]
    · rename_i hk
      obtain ⟨w, w1, w2⟩ := fld_look inj h1.2 q2 e
      refine ⟨w, ?_, w2⟩
      have : (T.knm k == x) = false := by
        rw [h1.1, beq_eq_false_iff_ne]
        exact fun z => hk (inj _ _ z).symm
      rw [List.lookup_cons, this]
      exact w1
theorem fld_none (inj : ∀ a b, T.knm a = T.knm b → a = b) {k : Nat} : ∀ {ks : List Nat} {fvs : List (Str × V)}, fvs.map (·.1) = ks.map T.knm → ks.contains k = false → fvs.lookup (T.knm k) = none
  | [], fvs, h, _ => by
    have : fvs = [] := by simpa using h
    rw [this]; rfl
  | k' :: ks, [], h, _ => by simp at h
  | k' :: ks, (x, v) :: fvs, h, e => by
    simp only [List.map_cons, List.cons.injEq] at h
    simp only [List.contains_cons, Bool.or_eq_false_iff, beq_eq_false_iff_ne] at e
    have : (T.knm k == x) = false := by
      rw [h.1, beq_eq_false_iff_ne]
      exact fun z => e.1 (inj _ _ z)
    rw [List.lookup_cons, this]
    exact fld_none inj h.2 (by simpa using e.2)
theorem put_fl (inj : ∀ a b, T.knm a = T.knm b → a = b) {k : Nat} {d : D} {v : V} (hd : RD K T M H d v) : ∀ {ks : List Nat} {fs : List D} {fvs : List (Str × V)}, ks.length = fs.length → fvs.map (·.1) = ks.map T.knm → RDs K T M H fs (fvs.map (·.2)) →
    (putF (T.knm k) v fvs).map (·.1) = (putFl ks fs k d).1.map T.knm ∧ RDs K T M H (putFl ks fs k d).2 ((putF (T.knm k) v fvs).map (·.2))
  | [], [], fvs, _, h1, _ => by
    have : fvs = [] := by simpa using h1
    subst this
    exact ⟨rfl, v, [], rfl, hd, rfl⟩
  | [], _ :: _, _, hl, _, _ => by simp at hl
  | _ :: _, [], _, hl, _, _ => by simp at hl
  | k' :: ks, f :: fs, [], _, h1, _ => by simp at h1
  | k' :: ks, f :: fs, (x, w) :: fvs, hl, h1, h2 => by
    simp only [List.map_cons, List.cons.injEq] at h1
    obtain ⟨v', r, e2, q1, q2⟩ := h2
    simp only [List.map_cons, List.cons.injEq] at e2
    obtain ⟨rfl, rfl⟩ := e2
    by_cases hk : k' = k
    · have : x = T.knm k := by rw [h1.1, hk]
      have e1 : putF (T.knm k) v ((x, w) :: fvs) = (x, v) :: fvs := by
        show (if x = T.knm k then _ else _) = _
        rw [if_pos this, this]
      rw [e1]
      simp only [putFl, if_pos hk]
      exact ⟨by simp only [List.map_cons]; rw [h1.1, h1.2], v, _, rfl, hd, q2⟩
    · have hx : ¬ x = T.knm k := fun z => hk (inj _ _ (h1.1.symm.trans z))
      have e1 : putF (T.knm k) v ((x, w) :: fvs) = (x, w) :: putF (T.knm k) v fvs := by
        show (if x = T.knm k then _ else _) = _
        rw [if_neg hx]
      obtain ⟨i1, i2⟩ := put_fl inj hd (by simpa using hl) h1.2 q2
      rw [e1]
      simp only [putFl, if_neg hk]
      exact ⟨by simp only [List.map_cons]; rw [h1.1, i1], w, _, rfl, q1, i2⟩
end
end KN

/-! KL: sorted with a lambda as its key; the lambda's body is read off the heap. -/
namespace KN
open PySem PySem.Spec PyProof.Rows L2 LamX

def noSlice0 : Expr → Bool
  | .Slice .. => false | .Tuple .. => false | _ => true

/-! ### values as they lie in a heap -/
mutual
def RwD (h : Heap) : D → Value → Prop
  | .int i, u => ∃ t, u = .int i t
  | .tup xs, u => ∃ a its, u = .ref a ∧ IsTup h a (List.toArray its) ∧ its.length ≤ sizeLine ∧ RwDs h xs its
  | .lst xs, u => ∃ a its, u = .ref a ∧ h.IsList a (List.toArray its) ∧ its.length ≤ sizeLine ∧ RwDs h xs its
  | .non, _ => True
  | .bl _, _ => True
  | .str _, _ => True
  | .scr _, _ => True
  | .rng _ _, _ => True
  | .obj _ _ _, _ => True
  | .exn _ _ _, _ => True
  | .ref _, _ => True
  | .fn _, _ => True
def RwDs (h : Heap) : List D → List Value → Prop
  | [], us => us = []
  | d :: ds, us => ∃ u r, us = u :: r ∧ RwD h d u ∧ RwDs h ds r
end
theorem isTup_keeps {h h' : Heap} (k : ∀ b o, h.get? b = some o → h'.get? b = some o) {a : Addr} {its : Array Value} (x : IsTup h a its) : IsTup h' a its := by
  obtain ⟨o, h1, h2⟩ := x
  exact ⟨o, k _ _ h1, h2⟩
theorem isList_keeps {h h' : Heap} (k : ∀ b o, h.get? b = some o → h'.get? b = some o) {a : Addr} {its : Array Value} (x : h.IsList a its) : h'.IsList a its := by
  obtain ⟨o, h1, h2⟩ := x
  exact ⟨o, k _ _ h1, h2⟩
mutual
theorem RwD.keeps {h h' : Heap} (k : ∀ b o, h.get? b = some o → h'.get? b = some o) : ∀ (d : D) (u : Value), RwD h d u → RwD h' d u
  | .int i, u, x => x
  | .tup xs, u, x => by
    obtain ⟨a, its, e, h1, h2, h3⟩ := x
    exact ⟨a, its, e, isTup_keeps k h1, h2, RwDs.keeps k xs its h3⟩
  | .lst xs, u, x => by
    obtain ⟨a, its, e, h1, h2, h3⟩ := x
    exact ⟨a, its, e, isList_keeps k h1, h2, RwDs.keeps k xs its h3⟩
  | .non, _, _ => trivial
  | .bl _, _, _ => trivial
  | .str _, _, _ => trivial
  | .scr _, _, _ => trivial
  | .rng _ _, _, _ => trivial
  | .obj _ _ _, _, _ => trivial
  | .exn _ _ _, _, _ => trivial
  | .ref _, _, _ => trivial
  | .fn _, _, _ => trivial
theorem RwDs.keeps {h h' : Heap} (k : ∀ b o, h.get? b = some o → h'.get? b = some o) : ∀ (ds : List D) (us : List Value), RwDs h ds us → RwDs h' ds us
  | [], _, x => x
  | d :: ds, us, x => by
    obtain ⟨u, r, e, h1, h2⟩ := x
    exact ⟨u, r, e, RwD.keeps k d u h1, RwDs.keeps k ds r h2⟩
end
theorem RwDs.length {h : Heap} : ∀ {ds : List D} {us : List Value}, RwDs h ds us → ds.length = us.length
  | [], us, x => by cases x; rfl
  | d :: ds, us, x => by
    obtain ⟨u, r, rfl, h1, h2⟩ := x
    simp [RwDs.length h2]
theorem RwDs.get {h : Heap} : ∀ {ds : List D} {us : List Value} {i : Nat} {d : D}, RwDs h ds us → ds[i]? = some d → ∃ u, us[i]? = some u ∧ RwD h d u
  | [], us, i, d, x, e => by simp at e
  | d0 :: ds, us, i, d, x, e => by
    obtain ⟨u, r, rfl, h1, h2⟩ := x
    cases i with
    | zero => simp at e; subst e; exact ⟨u, rfl, h1⟩
    | succ i => simpa using RwDs.get (i := i) h2 (by simpa using e)
section
variable {X : Cx} {T : Tb} {pins : List (Addr × Obj)} {σ : L2.St} {M : Mp} {H : Hp} {s : Shared}
mutual
theorem rw_of (I : Inv X pins σ H s) : ∀ (d : D) (v : V) (u : Value), RD X.K T M H d v → RelV v u → RwD s.heap d u
  | .int i, v, u, h, r => by
    have : v = .int i := by unfold RD at h; exact h
    subst this
    exact r
  | .tup xs, v, u, h, r => by
    obtain ⟨p, vs, rfl, h1, h2, h3⟩ := h
    obtain ⟨its, q1, q2, q3⟩ := I.tuple h1.sq
    cases r
    exact ⟨p, its, rfl, q2, by rw [← q1.length]; exact q3, rws_of I xs vs its h3 q1⟩
  | .lst xs, v, u, h, r => by
    obtain ⟨p, vs, rfl, h1, h2, h3⟩ := h
    obtain ⟨its, q1, q2, q3⟩ := I.list (xs := vs) (.inl (.inl h1.1))
    cases r
    exact ⟨p, its, rfl, q2.isList, by rw [← q1.length]; exact q3, rws_of I xs vs its h3 q1⟩
  | .non, _, _, _, _ => trivial
  | .bl _, _, _, _, _ => trivial
  | .str _, _, _, _, _ => trivial
  | .scr _, _, _, _, _ => trivial
  | .rng _ _, _, _, _, _ => trivial
  | .obj _ _ _, _, _, _, _ => trivial
  | .exn _ _ _, _, _, _, _ => trivial
  | .ref _, _, _, _, _ => trivial
  | .fn _, _, _, _, _ => trivial
theorem rws_of (I : Inv X pins σ H s) : ∀ (ds : List D) (vs : List V) (us : List Value), RDs X.K T M H ds vs → Vals vs us → RwDs s.heap ds us
  | [], vs, us, h, r => by
    cases h
    cases r
    rfl
  | d :: ds, vs, us, h, r => by
    obtain ⟨v, vr, rfl, h1, h2⟩ := h
    cases r with
    | @cons _ u _ ur ra rb => exact ⟨u, ur, rfl, rw_of I d v u h1 ra, rws_of I ds vr ur h2 rb⟩
end
end

/-! ### the body's keys -/
def dbg0 (x : Str) : Bool := !(x == ("__debug__" : Str)) && !(x == ("__classdict__" : Str))
def kKX (N : List Str) (sc : Scope) (p : Str) : KX → Expr → Bool
  | .par, e => match e with
    | .Name x _ => decide (x = p) && dbg0 x
    | _ => false
  | .fre i, e => match e with
    | .Name x _ => decide (N[i]? = some x) && decide (sc.names.lookup x = some .free) && dbg0 x
    | _ => false
  | .int i, e => match e with
    | .Constant (.int j) _ _ => decide (i = j)
    | _ => false
  | .idx a b, e => match e with
    | .Subscript x y _ => kKX N sc p a x && kKX N sc p b y && noSlice0 y
    | _ => false
  | .neg a, e => match e with
    | .UnaryOp .USub x _ => kKX N sc p a x
    | _ => false
  | .sub a b, e => match e with
    | .BinOp x .Sub y _ => kKX N sc p a x && kKX N sc p b y
    | _ => false
def noStar0 : Expr → Bool
  | .Starred .. => false | _ => true
def kKXs (N : List Str) (sc : Scope) (p : Str) : List KX → List Expr → Bool
  | [], [] => true
  | k :: ks, e :: es => kKX N sc p k e && noStar0 e && kKXs N sc p ks es
  | _, _ => false

/-- the lambda's frame -/
structure LEnv (h : Heap) (env : Env) (N : List Str) (p : Str) (st : KN.St) (y : D) : Prop where
  kind : env.scope.kind = .function
  par : env.scope.names.lookup p = some .local ∧ ∃ m u, h.Ns env.locals m ∧ m p = some u ∧ RwD h y u
  fre : ∀ (i : Nat) d x, st[i]? = some (some d) → N[i]? = some x → env.scope.names.lookup x = some .free → ∃ c u, env.cells.lookup x = some c ∧ h.IsCell c (some u) ∧ RwD h d u
theorem LEnv.keeps {h h' : Heap} {env : Env} {N : List Str} {p : Str} {st : KN.St} {y : D} (L : LEnv h env N p st y) (k : ∀ b o, h.get? b = some o → h'.get? b = some o) : LEnv h' env N p st y := by
  refine ⟨L.kind, ⟨L.par.1, ?_⟩, fun i d x h1 h2 h3 => ?_⟩
  · obtain ⟨m, u, q1, q2, q3⟩ := L.par.2
    exact ⟨m, u, q1.keeps k, q2, RwD.keeps k _ _ q3⟩
  · obtain ⟨c, u, q1, q2, q3⟩ := L.fre i d x h1 h2 h3
    exact ⟨c, u, q1, q2.keeps k, RwD.keeps k _ _ q3⟩
/-- the heap has grown -/
def Grown (s s' : Shared) : Prop := ∃ h' tk, s' = { s with heap := h', toks := tk } ∧ ∀ b o, s.heap.get? b = some o → h'.get? b = some o
theorem Grown.refl (s : Shared) : Grown s s := ⟨s.heap, s.toks, rfl, fun _ _ h => h⟩
theorem Grown.tok (s : Shared) (n : Nat) : Grown s { s with toks := n } := ⟨s.heap, n, rfl, fun _ _ h => h⟩
theorem Grown.trans {a b c : Shared} (x : Grown a b) (y : Grown b c) : Grown a c := by
  obtain ⟨h1, t1, rfl, k1⟩ := x
  obtain ⟨h2, t2, rfl, k2⟩ := y
  exact ⟨h2, t2, rfl, fun b o e => k2 b o (k1 b o e)⟩
theorem Grown.k {a b : Shared} (x : Grown a b) : ∀ c o, a.heap.get? c = some o → b.heap.get? c = some o := by
  obtain ⟨h1, t1, rfl, k1⟩ := x
  exact k1
section
variable {prog : Program} {w : World} {A : Around} {E : Value → Shared → Prop} {env : Env} {N : List Str} {p : Str} {st : KN.St} {y : D}
theorem dbg0_of {x : Str} (h : dbg0 x = true) : (x == ("__debug__" : Str)) = false ∧ (x == ("__classdict__" : Str)) = false := by
  unfold dbg0 at h
  simp only [Bool.and_eq_true, Bool.not_eq_true'] at h
  exact h
theorem ix0_of {b : Expr} (h : noSlice0 b = true) : PlainIx b := by
  intro o i
  cases b <;> first | rfl | (simp [noSlice0] at h)
theorem six_ix {n : Nat} {i : Int} {j : Nat} (h : ixn n i = some j) : j < n ∧ ((0 ≤ i ∧ i = j) ∨ (i < 0 ∧ -(n : Int) ≤ i ∧ i + n = j)) := by
  unfold ixn at h
  split at h
  · split at h
    · cases h
      exact ⟨by omega, .inl ⟨by omega, by omega⟩⟩
    · cases h
  · split at h
    · cases h
      exact ⟨by omega, .inr ⟨by omega, by omega, by omega⟩⟩
    · cases h
theorem kx_ev : ∀ (k : KX) (e : Expr), kKX N env.scope p k e = true → ∀ d, kxD st y k = some d → ∀ s : Shared, LEnv s.heap env N p st y →
    wpAny (model prog w) A (eval e env) (fun v s' => RwD s'.heap d v ∧ Grown s s') E s
  | .par, e, h, d, hd, s, L => by
    cases e with
    | Name x pos =>
      simp only [kKX, Bool.and_eq_true, decide_eq_true_eq] at h
      obtain ⟨rfl, h2⟩ := h
      cases hd
      obtain ⟨h1, m, u, q1, q2, q3⟩ := L.par
      exact wpAny_Name (wpAny_loadName_local L.kind h1 q1 q2 ⟨q3, Grown.refl s⟩) (dbg0_of h2).1
    | _ => exact absurd h Bool.false_ne_true
  | .fre i, e, h, d, hd, s, L => by
    cases e with
    | Name x pos =>
      simp only [kKX, Bool.and_eq_true, decide_eq_true_eq] at h
      obtain ⟨⟨h1, h2⟩, h3⟩ := h
      simp only [kxD] at hd
      split at hd
      · rename_i d' e1
        cases hd
        obtain ⟨c, u, q1, q2, q3⟩ := L.fre i _ x e1 h1 h2
        exact wpAny_Name (wpAny_loadName_free L.kind h2 q1 q2 ⟨q3, Grown.refl s⟩ (dbg0_of h3).2) (dbg0_of h3).1
      · cases hd
    | _ => exact absurd h Bool.false_ne_true
  | .int i, e, h, d, hd, s, L => by
    cases e with
    | Constant v kk pos =>
      cases v <;> first
        | (exact absurd h Bool.false_ne_true)
        | (simp only [kKX, decide_eq_true_eq] at h
           subst h
           cases hd
           exact wpAny_Constant_int ⟨⟨_, rfl⟩, Grown.tok s _⟩)
    | _ => exact absurd h Bool.false_ne_true
  | .idx a b, e, h, d, hd, s, L => by
    cases e with
    | Subscript x z pos =>
      simp only [kKX, Bool.and_eq_true] at h
      obtain ⟨⟨h1, h2⟩, h3⟩ := h
      have hs := ix0_of h3
      simp only [kxD] at hd
      cases ea : kxD st y a with
      | none => rw [ea] at hd; simp at hd
      | some da =>
      cases eb : kxD st y b with
      | none => rw [ea, eb] at hd; simp at hd
      | some db =>
      rw [ea, eb] at hd
      have hn := line63
      refine Subscript_ (thn (kx_ev a x h1 da ea s L) fun o s1 ⟨r1, g1⟩ => thn (kx_ev b z h2 db eb s1 (L.keeps g1.k)) fun i s2 ⟨r2, g2⟩ => ?_)
      have r1' := RwD.keeps g2.k _ _ r1
      split at hd
      · rename_i xs i' e1 e2
        cases e1
        cases e2
        obtain ⟨t, rfl⟩ := r2
        obtain ⟨q, its, rfl, k1, k2, k3⟩ := r1'
        cases ej : ixn xs.length i' with
        | none => rw [ej] at hd; cases hd
        | some j =>
        rw [ej] at hd
        obtain ⟨u, eu, ru⟩ := k3.get (i := j) hd
        have hl := k3.length
        obtain ⟨l1, l2⟩ := six_ix ej
        rcases l2 with ⟨l2, l3⟩ | ⟨l2, l3, l4⟩
        · exact item_listR k1 l2 (by omega) (by rw [l3]; simpa using eu) ⟨ru, g1.trans g2⟩ (hs _ _)
        · refine subscriptTail_builtinR (x := u) k1.typeIs slot_list_getitem.lookup (wpAny_getItem_list_neg (Q := fun r s' => r = u ∧ (RwD s'.heap d r ∧ Grown s s')) k1 l2 (by rw [List.size_toArray]; omega) (by omega) ?_ ⟨rfl, ru, g1.trans g2⟩) (hs _ _)
          rw [List.size_toArray, ← hl, l4]
          simpa using eu
      · rename_i xs i' e1 e2
        cases e1
        cases e2
        obtain ⟨t, rfl⟩ := r2
        obtain ⟨q, its, rfl, k1, k2, k3⟩ := r1'
        cases ej : ixn xs.length i' with
        | none => rw [ej] at hd; cases hd
        | some j =>
        rw [ej] at hd
        obtain ⟨u, eu, ru⟩ := k3.get (i := j) hd
        have hl := k3.length
        obtain ⟨l1, l2⟩ := six_ix ej
        refine subscriptTail_builtinR (x := u) k1.typeIs slot_tuple_getitem.lookup (getItem_tuple (j := j) (Q := fun r s' => r = u ∧ (RwD s'.heap d r ∧ Grown s s')) k1 (by omega) (by omega) ?_ (by simpa using eu) ⟨rfl, ru, g1.trans g2⟩) (hs _ _)
        rw [List.size_toArray, ← hl]
        rcases l2 with ⟨l2, l3⟩ | ⟨l2, l3, l4⟩
        · rw [seqIndex_of l2 (by omega)]
          congr 1; omega
        · rw [seqIndex_neg l2 (by omega)]
          congr 1; omega
      · cases hd
    | _ => exact absurd h Bool.false_ne_true
  | .neg a, e, h, d, hd, s, L => by
    cases e with
    | UnaryOp op x pos =>
      cases op with
      | USub =>
        simp only [kxD] at hd
        split at hd
        · rename_i i e1
          cases hd
          refine wpAny_UnaryOp (thn (kx_ev a x (by simpa only [kKX] using h) _ e1 s L) fun o s1 ⟨r1, g1⟩ => ?_)
          obtain ⟨t, rfl⟩ := r1
          exact neg_int ⟨⟨_, rfl⟩, g1.trans (Grown.tok s1 _)⟩
        · cases hd
      | _ => exact absurd h Bool.false_ne_true
    | _ => exact absurd h Bool.false_ne_true
  | .sub a b, e, h, d, hd, s, L => by
    cases e with
    | BinOp x op z pos =>
      cases op with
      | Sub =>
        simp only [kKX, Bool.and_eq_true] at h
        simp only [kxD] at hd
        split at hd
        · rename_i i j e1 e2
          cases hd
          refine wpAny_BinOp (thn (kx_ev a x h.1 _ e1 s L) fun o s1 ⟨r1, g1⟩ => thn (kx_ev b z h.2 _ e2 s1 (L.keeps g1.k)) fun o2 s2 ⟨r2, g2⟩ => ?_)
          obtain ⟨t, rfl⟩ := r1
          obtain ⟨t2, rfl⟩ := r2
          exact sub_int ⟨⟨_, rfl⟩, (g1.trans g2).trans (Grown.tok s2 _)⟩
        · cases hd
      | _ => exact absurd h Bool.false_ne_true
    | _ => exact absurd h Bool.false_ne_true
end
end KN

namespace KN
open PySem PySem.Spec PyProof.Rows PySem.W L2 LamX

/-- the key as data -/
def kdat (tu : Bool) (is : List Int) : PyData := if tu = true then .tuple (is.map .int) else .int (is.headD 0)
def kKey (N : List Str) (sc : Scope) (p : Str) (tu : Bool) (ks : List KX) (e : Expr) : Bool := match tu, e with
  | true, .Tuple es _ _ => kKXs N sc p ks es && decide (ks.length ≤ 10) && !ks.isEmpty
  | true, _ => false
  | false, e => match ks with
    | [k] => kKX N sc p k e
    | _ => false
section
variable {prog : Program} {w : World} {A : Around} {E : Value → Shared → Prop} {env : Env} {N : List Str} {p : Str} {st : KN.St} {y : D}
theorem kxs_ev {pos : Pos} : ∀ (ks : List KX) (es : List Expr), kKXs N env.scope p ks es = true → ∀ is, keyOf st y ks = some is → ∀ s : Shared, LEnv s.heap env N p st y →
    wpAny (model prog w) A (spliced (backTo pos (starEach es env))) (fun vs s' => (vs.length = ks.length ∧ Vals (is.map V.int) vs) ∧ Grown s s') E s
  | [], es, h, is, hk, s, L => by
    cases es with
    | nil => cases hk; exact Calls.spliced_nil ⟨⟨rfl, .nil⟩, Grown.refl s⟩
    | cons _ _ => exact absurd h Bool.false_ne_true
  | k :: ks, es, h, is, hk, s, L => by
    cases es with
    | nil => exact absurd h Bool.false_ne_true
    | cons e es =>
      simp only [kKXs, Bool.and_eq_true] at h
      obtain ⟨⟨h1, h2⟩, h3⟩ := h
      simp only [keyOf] at hk
      split at hk
      · rename_i i js e1 e2
        cases hk
        have hst : starEach (e :: es) env = (false, eval e env) :: starEach es env := by
          cases e <;> first | rfl | (simp [noStar0] at h2)
        rw [hst]
        show wpAny _ _ (spliced ((false, eval e env) :: backTo pos (starEach es env))) _ _ s
        refine Calls.spliced_cons (thn (kx_ev k e h1 _ e1 s L) fun u s1 ⟨r1, g1⟩ => thn (kxs_ev ks es h3 _ e2 s1 (L.keeps g1.k)) fun us s2 ⟨⟨l2, r2⟩, g2⟩ => ?_)
        obtain ⟨t, rfl⟩ := r1
        exact ⟨⟨by simp [l2], .cons ⟨t, rfl⟩ r2⟩, g1.trans g2⟩
      · cases hk
theorem Grown.pure {s0 s s' : Shared} {k : PyData} {v : Value} (g : Grown s0 s') (r : Reads s'.heap v k []) : KeyPure k s0 v s' := by
  obtain ⟨h', tk, rfl, kp⟩ := g
  exact ⟨h', tk, rfl, kp, r⟩
theorem key_ev {tu : Bool} {ks : List KX} {e : Expr} (h : kKey N env.scope p tu ks e = true) {is : List Int} (hk : keyOf st y ks = some is) {s0 s : Shared} (L : LEnv s.heap env N p st y) (g0 : Grown s0 s) :
    wpAny (model prog w) A (eval e env) (KeyPure (kdat tu is) s0) E s := by
  cases tu with
  | true =>
    cases e with
    | Tuple es kk pos =>
      simp only [kKey, Bool.and_eq_true, decide_eq_true_eq] at h
      refine wpAny_Tuple_spliced (thn (kxs_ev ks es h.1.1 is hk s L) fun us s1 ⟨⟨l1, r1⟩, g1⟩ => ⟨by rw [l1, sizeLine_eq]; omega, ?_⟩)
      obtain ⟨h', tk, rfl, kp⟩ := g1
      have rr : Reads (h'.push { cls := .type "tuple", data := .seq us.toArray }) (.ref h'.objs.size) (.tuple (is.map .int)) [] := .tuple (Heap.get?_push_size _ rfl) rfl rfl (by simpa using KM.reads_ints r1)
      exact Grown.pure (s := s) (g0.trans ⟨_, _, rfl, fun b o q => Heap.get?_push_of_some _ (kp b o q)⟩) rr
    | _ => exact absurd h Bool.false_ne_true
  | false =>
    cases ks with
    | nil => exact absurd h Bool.false_ne_true
    | cons k r =>
      cases r with
      | cons _ _ => exact absurd h Bool.false_ne_true
      | nil =>
        simp only [keyOf] at hk
        split at hk
        · rename_i i js e1 e2
          cases e2
          cases hk
          refine thn (kx_ev k e (by simpa only [kKey] using h) _ e1 s L) fun v s1 ⟨r1, g1⟩ => ?_
          obtain ⟨t, rfl⟩ := r1
          exact Grown.pure (s := s) (g0.trans g1) (.int i t)
        · cases hk

/-- the parameters of a lambda of one -/
def prm1 (p : Str) (ap : Pos) : Arguments := ⟨[], [⟨p, none, ap⟩], none, [], [], none, []⟩
theorem bind1 {p : Str} {ap : Pos} {q : Str} {body : Expr} {scope : Scope} {cl : List (Str × Addr)} {pm cdv ctv : Value} {v : Value} :
    bindArgs (kla_fn "<lambda>" q (prm1 p ap) body scope cl pm cdv ctv) ⟨[v], []⟩ = pure [(p, v)] := by
  have e : ((p, v) :: ([] : List (Str × Value))).lookup p = some v := by simp [List.lookup]
  have e2 : (([(p, v)] : List (Str × Value)).lookup p).isNone = false := by rw [e]; rfl
  unfold bindArgs
  simp [prm1, e, seqItems?]
  rfl

/-- what a lambda's scope must be -/
structure Lam1 (sc scope : Scope) (p : Str) : Prop where
  kind : scope.kind = .function
  co : scope.isCoroutine = false
  gen : scope.isGenerator = false
  par : scope.names.lookup p = some .local
  nocell : ∀ y ∈ scope.names, y.2 ≠ .cell
  free : ∀ y ∈ scope.names, y.2 = .free → sc.names.lookup y.1 = some .cell ∨ sc.names.lookup y.1 = some .free
def lam1B (sc scope : Scope) (p : Str) : Bool :=
  decide (scope.kind = .function) && !scope.isCoroutine && !scope.isGenerator && decide (scope.names.lookup p = some .local) && scope.names.all fun y => !decide (y.2 = .cell) && (!decide (y.2 = .free) || decide (sc.names.lookup y.1 = some .cell) || decide (sc.names.lookup y.1 = some .free))
theorem lam1_by {sc scope : Scope} {p : Str} (h : lam1B sc scope p = true) : Lam1 sc scope p := by
  unfold lam1B at h
  simp only [Bool.and_eq_true, Bool.or_eq_true, Bool.not_eq_true', decide_eq_true_eq, decide_eq_false_iff_not, List.all_eq_true] at h
  obtain ⟨⟨⟨⟨h1, h2⟩, h3⟩, h5⟩, h4⟩ := h
  refine ⟨h1, h2, h3, h5, fun y hy => (h4 y hy).1, fun y hy e => ?_⟩
  rcases (h4 y hy).2 with (z | z) | z
  · exact absurd e z
  · exact .inl z
  · exact .inr z
theorem lam_call {sc scope : Scope} {q : Str} {ap : Pos} {body : Expr} {cl : List (Str × Addr)} {pm ctv u : Value} {f c' : Addr} {tu : Bool} {ks : List KX} {is : List Int} {s : Shared} (L : Lam1 sc scope p) (hroom : A.depth < recursionLimit) (hlim : s.heap.NoLimit)
    (ho : s.heap.get? f = some (kla_obj "<lambda>" q (prm1 p ap) body scope cl pm c' ctv)) (hcd : s.heap.CodeRec (.ref c') q) (hk : kKey N scope p tu ks body = true) (hi : keyOf st y ks = some is) (hu : RwD s.heap y u)
    (hfre : ∀ (i : Nat) d x, st[i]? = some (some d) → N[i]? = some x → scope.names.lookup x = some .free → ∃ c u, cl.lookup x = some c ∧ s.heap.IsCell c (some u) ∧ RwD s.heap d u) :
    wpAny (model prog w) A (call (.ref f) [u]) (KeyPure (kdat tu is) s) (fun _ _ => False) s := by
  refine wpAny_call (kla_callFunE hroom ho rfl L.co L.gen rfl hcd ?_)
  rw [bind1]
  refine wpAny_pure (wpAny_newFunctionEnv L.nocell (fun z hz => ?_) (fun h₁ hns hsb => ⟨hlim.fresh _ hsb, ?_⟩) L.kind)
  · rw [List.mem_singleton.mp hz]; exact L.par
  show codeAny _ _ (.expr body (envX q scope s.heap.objs.size f (.ref c') cl)) _ _
  have kp : ∀ b o, s.heap.get? b = some o → h₁.get? b = some o := fun b o e => hsb.extBut b o (Nat.ne_of_lt (Heap.lt_size e)) (Heap.get?_push_of_some _ e)
  refine kla_codeExpr (wpAny_mono (key_ev (env := envX q scope s.heap.objs.size f (.ref c') cl) (N := N) (p := p) (st := st) (y := y) (s0 := s) (s := { s with heap := h₁, toks := s.toks + ([(p, u)] : List (Str × Value)).length }) (E := fun _ _ => False) hk hi ?_ ⟨_, _, rfl, kp⟩) (fun v s' hq => hq) fun e s' hq => hq.elim)
  refine ⟨L.kind, ⟨L.par, _, u, hns, ?_, RwD.keeps kp _ _ hu⟩, fun i d x h1 h2 h3 => ?_⟩
  · simp
  · obtain ⟨c, u', e1, e2, e3⟩ := hfre i d x h1 h2 h3
    exact ⟨c, u', e1, e2.keeps kp, RwD.keeps kp _ _ e3⟩
end
end KN

set_option maxHeartbeats 4000000
/-! KS: set(xs) of a list or tuple of ints, and the sorted list of it. -/
namespace KN
open PySem PySem.Spec PyProof.Rows L2
section
variable {P : Program} {w : World} {A : Around} {E : Value → Shared → Prop} {s : Shared}
/-- an empty set's object -/
abbrev mtSet (w : World) : Obj := { cls := .type "set", dict := none, data := .set #[] 0 (.fresh 0 0 (!w.params.followText "set-order")) }
abbrev withSet (w : World) (s : Shared) : Shared := { s with heap := s.heap.push (mtSet w) }
/-- all that was there stays, but for a new object -/
def SetDone (w : World) (s : Shared) (ns : List Int) (s' : Shared) : Prop := ∃ h' tk c, s' = { s with heap := h', toks := tk } ∧ SetR w h' s.heap.objs.size (fun j => decide (j ∈ ns)) c ∧ c ≤ ns.length ∧ ∀ b o, s.heap.get? b = some o → h'.get? b = some o
theorem set_of_list {l : Addr} {items : Array Value} (ns : List Int) {Q : Value → Shared → Prop} (hh : A.handled = none) (hl : s.heap.IsList l items) (hit : IntsAre items.toList ns) (hb : ns.length + 1 < scanBound)
    (h : ∀ s', SetDone w s ns s' → Q (.ref s.heap.objs.size) s') : wpAny (model P w) A (call (.type "set") [.ref l]) Q E s := by
  have hisz : items.size = ns.length := by simpa using IntsAre.length hit
  obtain ⟨c, tl, hmro⟩ := F.called_set.mro
  have hmade := F.called_set.made
  have hsub := F.called_set.sub
  refine wpAny_call (codeAny_of_tree ?_)
  show wpAny _ _ (callAny (.type "set") _) _ _ _
  refine wpAny_pure ⟨Code.quiet_builtin _ (by decide +kernel), codeAny_builtin F.entry_type_call ?_⟩
  rw [Around.under_plain (weight_type_call_type "set" [.ref l] []) rfl]
  have h1 := F.called_set.notType
  have h2 := F.called_set.canCreate
  have hct := F.typeCall_set_1 (.ref l)
  repeat (any_goals (first | assumption | wp_step))
  refine codeAny_mono (code_set_led1 (.ref l) (E := E) (Q₁ := fun obj s₁ => obj = .ref s.heap.objs.size ∧ s₁ = withSet w s) ⟨rfl, rfl⟩) fun r s₁ hr => ?_
  cases r with
  | error e => exact hr
  | ok fl =>
    cases fl with
    | ret obj =>
      obtain ⟨rfl, rfl⟩ := hr
      have hS : (s.heap.push (mtSet w)).get? s.heap.objs.size = some (mtSet w) := Heap.get?_push_size _ rfl
      have hT : (withSet w s).TypeIs (.ref s.heap.objs.size) "set" := ⟨_, hS, rfl⟩
      have hli := F.called_set.init.lookup
      have hbi := F.called_set.init.bind (.ref s.heap.objs.size)
      repeat (any_goals (first | assumption | wp_step))
      refine codeAny_mono (codeAny_call_builtin (R := wants (fun r s₂ => r = .none ∧ SetDone w s ns s₂) E) F.called_set.init.plain F.entry_set_init (check_set_init_1 hT ?_)) fun r₂ s₂ hr₂ => ?_
      · obtain ⟨ol, hol, hcl, nl, hdl⟩ := hl
        obtain ⟨ocls, odict, odata, oslots⟩ := ol
        simp only at hcl hdl
        subst hcl; subst hdl
        have hol' : (s.heap.push (mtSet w)).get? l = some { cls := .type "list", dict := odict, data := .seq items nl, slots := oslots } := Heap.get?_push_of_some _ hol
        have hsls := F.sub_list_set
        have hslf := F.sub_list_frozenset
        have hne : (Value.type "list" == Value.type "dict") = false := by decide
        have hl1 : (s.heap.push (mtSet w)).IsList l items := ⟨_, hol', rfl, nl, rfl⟩
        unfold Builtin.«set.__init__» noKeywords Builtin.Frozenset.updateFrom
        generalize hPI : pyIter = PI
        wp_walk
        subst hPI
        refine wpAny_pyIter_list hl1 ?_
        refine wpAny_bind (wpAny_runValue ?_)
        have hlS : l < s.heap.objs.size := Heap.lt_size hol
        have hh3 : A.in1.in1.in1.handled = none := by simp [hh]
        have hz1 : (s.heap.push (mtSet w)).objs.size = s.heap.objs.size + 1 := Heap.size_push ..
        have hneI : l ≠ (s.heap.push (mtSet w)).objs.size := by rw [hz1]; exact Nat.ne_of_lt (Nat.lt_succ_of_lt hlS)
        have hSf : s.heap.objs.size ∉ [(s.heap.push (mtSet w)).objs.size, l] := by
          rw [hz1]; simp only [List.mem_cons, List.not_mem_nil, or_false, not_or]
          exact ⟨Nat.ne_of_lt (Nat.lt_succ_self _), Nat.ne_of_gt hlS⟩
        have hval : ∀ (i : Nat) (v : Value), items[i]? = some v → ∃ k t, ns[i]? = some k ∧ v = .int k t := fun i v hv => by
          have hi : i < ns.length := by rw [← hisz]; exact (Array.getElem?_eq_some_iff.mp hv).1
          obtain ⟨t, e⟩ := IntsAre.int_at hit i v (by rw [Array.getElem?_toList]; exact hv)
          refine ⟨ns[i], t, List.getElem?_eq_getElem hi, ?_⟩
          rw [e, List.getD_eq_getElem?_getD, List.getElem?_eq_getElem hi] <;> rfl
        refine set_update_ints ((Walks.list hh3 _ l hneI items).toS) s.heap.objs.size hSf ns hisz hb hval (items.size - 0) 0 _ (by omega) (Nat.zero_le _)
          ⟨⟨_, Heap.get?_push_size _ rfl, rfl, rfl⟩, (hl1.push _)⟩ ?hS0 ?hR
        case hS0 => exact ⟨0, Nat.le_refl 0, setR_new_at (Heap.get?_push_of_some _ hS)⟩
        case hR =>
          intro s' c' hm hc' hS'
          obtain ⟨h', g2, d', tk', os'⟩ := s'
          have eg : g2 = s.gens := hm.gens
          have ed : d' = s.drawn := hm.drawn
          have eo : os' = s.os := hm.os
          subst eg; subst ed; subst eo
          show wpAny _ _ _ _ _ _
          refine wpAny_pure ?_
          show wpAny _ _ (ret Value.none) _ _ _
          rw [hisz] at hc'
          refine wpAny_pure ⟨rfl, h', tk', c', rfl, hS', hc', fun b o e => ?_⟩
          have hb0 : b < s.heap.objs.size := Heap.lt_size e
          exact hm.heap b o (by rw [hz1]; simp only [List.mem_cons, List.not_mem_nil, or_false, not_or]; exact ⟨Nat.ne_of_lt hb0, Nat.ne_of_lt (Nat.lt_succ_of_lt hb0)⟩) (Heap.get?_push_of_some _ (Heap.get?_push_of_some _ e))
      · cases r₂ with
        | error e => exact hr₂
        | ok fl₂ =>
          cases fl₂ with
          | ret r =>
            obtain ⟨rfl, hd⟩ := hr₂
            repeat (any_goals (first | assumption | wp_step))
            exact h _ hd
          | _ => exact hr₂.elim
    | _ => exact hr.elim
end
section
variable {X : Cx}
def rSetI (X : Cx) : List V → Hp → VK → Prop := fun vs H Q => ∃ (b : Bool) (p : Addr) (ns : List Int), vs = [.ref p] ∧ KZ.SqB X.K H b p (ns.map .int) ∧ ns.length < 64 ∧ ∀ q c, H q = none → c ≤ ns.length → Q (.ref q) (upd H q (SetO X.w q (fun j => decide (j ∈ ns)) c))
theorem cr_setI (hc : X.calm = true) : CallR X (.type "set") (rSetI X) := by
  intro pins s σ H vs us Q I r h
  obtain ⟨b, p, ns, rfl, hs, hn, q⟩ := h
  obtain ⟨its, rv, hl⟩ := KZ.inv_sq I hs
  rw [Vals.ref1 r]
  have hi : IntsAre its.toArray.toList ns := by simpa using rv.ints
  have hb : ns.length + 1 < scanBound := by unfold scanBound; omega
  have fin : ∀ s', SetDone X.w s ns s' → EP X pins σ Q (.ref s.heap.objs.size) s' := fun s' ⟨h', tk, c, e, hS, hc', k⟩ => by
    subst e
    exact ⟨.ref _, _, I.laid (t' := tk) k (Nat.le_refl _) (setO_new hS), rfl, q _ c (I.hok.fresh (Nat.le_refl _)) hc'⟩
  cases b with
  | true => exact call_set_tupI ns (I.ok.hd hc) hl hi hb fun h' tk c h1 h2 h3 => fin _ ⟨h', tk, c, rfl, h1, h2, h3⟩
  | false => exact set_of_list ns (I.ok.hd hc) hl hi hb fin
end
/-- two rising lists with the same items -/
theorem rise_eq : ∀ {a b : List Int}, a.Pairwise (· < ·) → b.Pairwise (· < ·) → (∀ k, k ∈ a ↔ k ∈ b) → a = b
  | [], [], _, _, _ => rfl
  | [], y :: b, _, _, h => by have := (h y).mpr List.mem_cons_self; cases this
  | x :: a, [], _, _, h => by have := (h x).mp List.mem_cons_self; cases this
  | x :: a, y :: b, ha, hb, h => by
    rw [List.pairwise_cons] at ha hb
    have e : x = y := by
      rcases List.mem_cons.mp ((h x).mp List.mem_cons_self) with e | e
      · exact e
      · rcases List.mem_cons.mp ((h y).mpr List.mem_cons_self) with e2 | e2
        · exact e2.symm
        · have := hb.1 x e; have := ha.1 y e2; omega
    subst e
    rw [rise_eq ha.2 hb.2 fun k => ?_]
    have := h k
    simp only [List.mem_cons] at this
    constructor
    · intro z
      rcases this.mp (.inr z) with e | e
      · subst e; exact absurd (ha.1 k z) (by omega)
      · exact e
    · intro z
      rcases this.mpr (.inr z) with e | e
      · subst e; exact absurd (hb.1 k z) (by omega)
      · exact e
theorem dups_nodup : ∀ (n : Nat) (l : List Int), l.length ≤ n → l.eraseDups.Nodup
  | 0, [], _ => by simp
  | 0, _ :: _, h => by simp at h
  | n + 1, [], _ => by simp
  | n + 1, a :: l, h => by
    rw [List.eraseDups_cons, List.nodup_cons]
    have hl : (l.filter fun b => !b == a).length ≤ l.length := List.length_filter_le _ _
    refine ⟨fun z => ?_, dups_nodup n _ (by simp at h; omega)⟩
    have := (List.mem_filter.mp (List.mem_eraseDups.mp z)).2
    simp at this
theorem sset_rise (ns : List Int) : (sortI ns.eraseDups).Pairwise (· < ·) ∧ ∀ k, k ∈ sortI ns.eraseDups ↔ k ∈ ns := by
  have hp : (sortI ns.eraseDups).Perm ns.eraseDups := List.mergeSort_perm _ _
  have hd : (sortI ns.eraseDups).Nodup := hp.nodup_iff.mpr (dups_nodup _ ns (Nat.le_refl _))
  have hs : (sortI ns.eraseDups).Pairwise fun a b => decide (a ≤ b) = true := List.pairwise_mergeSort (fun a b c h1 h2 => by simp at *; omega) (fun a b => by simp; omega) _
  refine ⟨?_, fun k => by rw [hp.mem_iff, List.mem_eraseDups]⟩
  have h2 : (sortI ns.eraseDups).Pairwise fun a b => a ≠ b ∧ decide (a ≤ b) = true := List.pairwise_and_iff.mpr ⟨hd, hs⟩
  exact h2.imp fun ⟨h1, h2⟩ => by simp at h2; omega
end KN

namespace KN
open PySem PySem.Spec PyProof.Rows L2

/-! ### does a term of ours say what the text says -/
structure Ck where
  N : List Str
  sc : Scope
  fc : Str → Bool
  fnm : Nat → Option Str
  cnm : Nat → Option Str
  clnm : Nat → Option Str := fun _ => none
  knm : Nat → Option Str := fun _ => none
  lam : Bool := false
  dfl : Nat → List Int := fun _ => []

def plainRecv : Expr → Bool
  | .Call .. => false
  | _ => true
def visB (sc : Scope) (x : Str) : Bool := match sc.names.lookup x with
  | some .local => true | some .cell => true | some .free => true | _ => false
def glB (sc : Scope) (x : Str) : Bool := match sc.names.lookup x with
  | some .globalImplicit => true | _ => false
def locB (c : Ck) (x : Str) : Bool := match c.sc.names.lookup x with
  | some .local => true | some .cell => c.fc x | _ => false
def dbgB (x : Str) : Bool := !(x == ("__debug__" : Str)) && !(x == ("__classdict__" : Str)) && !(x == ("__name__" : Str))
def nmB (c : Ck) (i : Nat) (x : Str) : Bool := decide (c.N[i]? = some x) && visB c.sc x && dbgB x
def stB (c : Ck) (i : Nat) (x : Str) : Bool := decide (c.N[i]? = some x) && locB c x && dbgB x
def noStar : Expr → Bool
  | .Starred .. => false
  | _ => true
def noSlice : Expr → Bool
  | .Slice .. => false
  | _ => true
def noSet : Expr → Bool
  | .Set .. => false
  | _ => true
/-- the test of such an expression is its value's truth -/
def plainTest : Expr → Bool
  | .UnaryOp .Not _ _ => false
  | .BoolOp .. => false
  | .IfExp .. => false
  | .Compare .. => false
  | _ => true
def tyN : Ty → Str
  | .int => "int" | .bool => "bool" | .str => "str" | .list => "list" | .tuple => "tuple"
def kNm (c : Ck) (x : Str) : Expr → Bool
  | .Name y _ => decide (y = x) && glB c.sc x && dbgB x
  | _ => false
def kTyL (c : Ck) : List Ty → List Expr → Bool
  | [], [] => true
  | t :: ts, e :: es => kNm c (tyN t) e && noStar e && kTyL c ts es
  | _, _ => false
def kTy (c : Ck) : List Ty → Expr → Bool
  | [t], .Name y p => kNm c (tyN t) (.Name y p)
  | ts, .Tuple es _ _ => decide (ts.length ≤ 8) && kTyL c ts es
  | _, _ => false
def kTs (c : Ck) : List Nat → List Expr → Bool
  | [], [] => true
  | i :: is, .Name x _ :: es => stB c i x && kTs c is es
  | _, _ => false
def kT (c : Ck) : LT → Expr → Bool
  | .name i, .Name x _ => stB c i x
  | .tup is, .Tuple es _ _ => kTs c is es
  | .two a b, .Tuple es _ _ => match es with
    | [x, y] => kT c a x && kT c b y
    | _ => false
  | _, _ => false
def ownN (c : Ck) (t : LT) : List (Str × Nat) := (ownT t).filterMap fun i => (c.N[i]?).map fun x => (x, i)
def Ck.blk (c : Ck) (scope : Scope) : Ck := { c with sc := relS scope c.sc, fc := fun x => scope.names.lookup x == some .cell, lam := false }

/-- attributeBase of such is the plain value -/
def plainBase : Expr → Bool
  | .Call (.Name _ _) [] [] _ => false
  | _ => true
theorem base_of {e : Expr} {a : Str} {env : Env} (h : plainBase e = true) : attributeBase e a env (eval e env) = eval e env := by
  cases e with
  | Call f xs kws p =>
    cases f with
    | Name n q =>
      cases xs with
      | nil =>
        cases kws with
        | nil => simp [plainBase] at h
        | cons _ _ => rfl
      | cons _ _ => rfl
    | _ => rfl
  | _ => rfl

def tgI : LI → Expr → Bool
  | .zip _, .Tuple .. => true
  | .zip _, _ => false
  | .enum _, .Tuple .. => true
  | .enum _, _ => false
  | _, _ => true
def noStars : List Expr → Bool
  | [] => true
  | e :: es => noStar e && noStars es
mutual
def kE (c : Ck) : LE → Expr → Bool
  | .var i, ex => match ex with
    | .Name x _ => (nmB c i x)
    | _ => false
  | .int i, ex => match ex with
    | .Constant (.int j) _ _ => (decide (i = j))
    | _ => false
  | .str s, ex => match ex with
    | .Constant (.str t) _ _ => (decide (s = t))
    | _ => false
  | .bl b, ex => match ex with
    | .Constant (.bool d) _ _ => (decide (b = d))
    | _ => false
  | .non, ex => match ex with
    | .Constant .none _ _ => (true)
    | _ => false
  | .dnew, ex => match ex with
    | .Dict ks vs _ => (match ks, vs with
        | [], [] => true
        | _, _ => false)
    | _ => false
  | .index a e, ex => match ex with
    | .Call fn xs kws cp => (match fn, xs, kws with
        | .Attribute o name ap, [y], [] => decide (name = ("index" : Str)) && kE c a o && kE c e y && noStar y && plainBase o && (ap.endLine == cp.line)
        | _, _, _ => false)
    | _ => false
  | .con i, ex => match ex with
    | .Name x _ => (decide (c.cnm i = some x) && glB c.sc x && dbgB x)
    | _ => false
  | .tup es, ex => match ex with
    | .Tuple xs _ _ => (kEs c es xs)
    | _ => false
  | .lst _ es, ex => match ex with
    | .List xs _ => (kEs c es xs)
    | _ => false
  | .bin o a b, ex => match ex with
    | .BinOp x p y _ => (decide (p = bop o) && kE c a x && kE c b y)
    | _ => false
  | .neg a, ex => match ex with
    | .UnaryOp .USub x _ => (kE c a x)
    | _ => false
  | .cmp o a b, ex => match ex with
    | .Compare x ops ys _ => (match ops, ys with
        | [p], [y] => decide (p = cop o) && kE c a x && kE c b y && noSet y
        | _, _ => false)
    | _ => false
  | .chain o o' a b d, ex => match ex with
    | .Compare x ops ys _ => (match ops, ys with
        | [p, q], [y, z] => decide (p = cop o) && decide (q = cop o') && kE c a x && kE c b y && kE c d z && noSet y && noSet z
        | _, _ => false)
    | _ => false
  | .and a b, ex => match ex with
    | .BoolOp .And xs pos => (match xs with
        | [x, y] => kE c a x && kE c b y
        | x :: y :: z :: r => kE c a x && kE c b (.BoolOp .And (y :: z :: r) pos)
        | _ => false)
    | _ => false
  | .or a b, ex => match ex with
    | .BoolOp .Or xs pos => (match xs with
        | [x, y] => kE c a x && kE c b y
        | x :: y :: z :: r => kE c a x && kE c b (.BoolOp .Or (y :: z :: r) pos)
        | _ => false)
    | _ => false
  | .not a, ex => match ex with
    | .UnaryOp .Not x _ => (kE c a x)
    | _ => false
  | .ifx d a b, ex => match ex with
    | .IfExp t x y _ => (kC c d t && kE c a x && kE c b y)
    | _ => false
  | .idx a b, ex => match ex with
    | .Subscript x y _ => (kE c a x && kE c b y && noSlice y)
    | _ => false
  | .sli a lo hi, ex => match ex with
    | .Subscript x y _ => (match y with
        | .Slice l u none _ => kE c a x && kO c lo l && kO c hi u
        | _ => false)
    | _ => false
  | .call f es, ex => match ex with
    | .Call fn xs kws _ => (match fn, xs, kws with
        | .Name x _, y :: ys, [] => decide (c.fnm f = some x) && glB c.sc x && dbgB x && kEs c es (y :: ys)
        | _, _, _ => false)
    | _ => false
  | .fnv f, ex => match ex with
    | .Name x _ => (decide (c.fnm f = some x) && glB c.sc x && dbgB x)
    | _ => false
  | .callv i es, ex => match ex with
    | .Call fn xs kws _ => (match fn, xs, kws with
        | .Name x _, y :: ys, [] => nmB c i x && kEs c es (y :: ys)
        | _, _, _ => false)
    | _ => false
  | .calld f es ds, ex => match ex with
    | .Call fn xs kws _ => (match fn, xs, kws with
        | .Name x _, y :: ys, [] => decide (c.fnm f = some x) && glB c.sc x && dbgB x && kEs c es (y :: ys) && decide (intsD ds = some ((c.dfl f).drop ((c.dfl f).length - ds.length)))
        | _, _, _ => false)
    | _ => false
  | .bi b es, ex => match ex with
    | .Call fn xs kws _ => (match fn, xs, kws with
        | .Name x _, y :: ys, [] => decide (x = ((biN b).2 : Str)) && glB c.sc x && dbgB x && kEs c es (y :: ys)
        | _, _, _ => false)
    | _ => false
  | .isi a ts, ex => match ex with
    | .Call fn xs kws _ => (match fn, xs, kws with
        | .Name x _, [y, t], [] => decide (x = ("isinstance" : Str)) && glB c.sc x && dbgB x && kE c a y && noStar y && kTy c ts t
        | _, _, _ => false)
    | _ => false
  | .chain3 o o' o2 a b d e, ex => match ex with
    | .Compare x ops ys _ => (match ops, ys with
        | [p, q, r], [y, z, w] => decide (p = cop o) && decide (q = cop o') && decide (r = cop o2) && kE c a x && kE c b y && kE c d z && kE c e w && noSet y && noSet z && noSet w
        | _, _ => false)
    | _ => false
  | .mm mx a d, ex => match ex with
    | .Call fn xs kws _ => (match fn, xs, kws with
        | .Name x _, [y], [⟨some kn, dv, _⟩] => decide (x = (KM.mostN mx : Str)) && decide (kn = ("default" : Str)) && glB c.sc x && dbgB x && kE c a y && kE c d dv && noStar y
        | _, _, _ => false)
    | _ => false
  | .fld a k, ex => match ex with
    | .Attribute x n _ => (plainBase x && kE c a x && decide (c.knm k = some n))
    | _ => false
  | .new _ ci es, ex => match ex with
    | .Call fn ys kws _ => (match fn, kws with
        | .Name x _, [] => decide (c.clnm ci = some x) && glB c.sc x && dbgB x && kEs c es ys
        | _, _ => false)
    | _ => false
  | .meth a m es, ex => match ex with
    | .Call fn ys kws cp => (match fn, kws with
        | .Attribute o n ap, [] => plainBase o && decide (ys.length < 30) && (ap.endLine == cp.line) && kE c a o && decide (c.knm m = some n) && kEs c es ys
        | _, _ => false)
    | _ => false
  | .sset a, ex => match ex with
    | .Call fn xs kws _ => (match fn, xs, kws with
        | .Name n _, [.Call (.Name m _) [y] [] _], [] => decide (n = ("sorted" : Str)) && decide (m = ("set" : Str)) && glB c.sc n && glB c.sc m && kE c a y && noStar y
        | _, _, _ => false)
    | _ => false
  | .mlist a, ex => match ex with
    | .Call fn xs kws _ => (match fn, xs, kws with
        | .Name n _, [y], [] => decide (n = ("list" : Str)) && glB c.sc n && kE c a y && noStar y
        | _, _, _ => false)
    | _ => false
  | .rev a, ex => match ex with
    | .Subscript x y _ => (match y with
        | .Slice none none (some (.UnaryOp .USub (.Constant (.int 1) _ _) _)) _ => kE c a x
        | _ => false)
    | _ => false
  | .skey tu a ks, ex => match ex with
    | .Call fn xs kws _ => (match fn, xs, kws with
        | .Name n _, [x], [⟨some kn, .Lambda ⟨[], [⟨p, none, _⟩], none, [], [], none, []⟩ body scope _, _⟩] => decide (n = ("sorted" : Str)) && decide (kn = ("key" : Str)) && glB c.sc n && kE c a x && noStar x && c.lam && lam1B c.sc scope p && kKey c.N scope p tu ks body
        | _, _, _ => false)
    | _ => false
  | .comp _ e t s d, ex => match ex with
    | .ListComp elt gens scope _ => (match gens with
        | [⟨tg, iter, ifs, as⟩] => decide (as = 0) && blkC c.N c.sc scope (ownN c t) && decide ((ownN c t).map (·.2) = ownT t) && kT (c.blk scope) t tg && kI c s iter && noSet iter && tgI s tg && kCs (c.blk scope) d ifs && kE (c.blk scope) e elt
        | _ => false)
    | _ => false
  | _, _ => false
def kEs (c : Ck) : LEs → List Expr → Bool
  | .nil, [] => true
  | .cons e es, x :: xs => kE c e x && noStar x && kEs c es xs
  | _, _ => false
def kO (c : Ck) : LO → Option Expr → Bool
  | .no, none => true
  | .yes e, some x => kE c e x
  | _, _ => false
def kC (c : Ck) : LC → Expr → Bool
  | .val a, x => kE c a x && plainTest x
  | .cmp o a b, .Compare x ops ys _ => match ops, ys with
    | [p], [y] => decide (p = cop o) && kE c a x && kE c b y && noSet y
    | _, _ => false
  | .chain o o' a b d, .Compare x ops ys _ => match ops, ys with
    | [p, q], [y, z] => decide (p = cop o) && decide (q = cop o') && kE c a x && kE c b y && kE c d z && noSet y && noSet z
    | _, _ => false
  | .and a b, .BoolOp .And xs pos => match xs with
    | [x, y] => kC c a x && kC c b y
    | x :: y :: z :: r => kC c a x && kC c b (.BoolOp .And (y :: z :: r) pos)
    | _ => false
  | .or a b, .BoolOp .Or xs pos => match xs with
    | [x, y] => kC c a x && kC c b y
    | x :: y :: z :: r => kC c a x && kC c b (.BoolOp .Or (y :: z :: r) pos)
    | _ => false
  | .not a, .UnaryOp .Not x _ => kC c a x
  | _, _ => false
def kCs (c : Ck) : LCs → List Expr → Bool
  | .no, [] => true
  | .yes d, [x] => kC c d x
  | _, _ => false
def kI (c : Ck) : LI → Expr → Bool
  | .seq e, x => kE c e x
  | .range1 a, ex => match ex with
    | .Call fn xs kws _ => (match fn, xs, kws with
        | .Name n _, [x], [] => decide (n = ("range" : Str)) && glB c.sc n && dbgB n && kE c a x && noStar x
        | _, _, _ => false)
    | _ => false
  | .range2 a b, ex => match ex with
    | .Call fn xs kws _ => (match fn, xs, kws with
        | .Name n _, [x, y], [] => decide (n = ("range" : Str)) && glB c.sc n && dbgB n && kE c a x && kE c b y && noStar x && noStar y
        | _, _, _ => false)
    | _ => false
  | .range3 a b d, ex => match ex with
    | .Call fn xs kws _ => (match fn, xs, kws with
        | .Name n _, [x, y, z], [] => decide (n = ("range" : Str)) && glB c.sc n && kE c a x && kE c b y && kE c d z && noStars [x, y, z]
        | _, _, _ => false)
    | _ => false
  | .zip es, ex => match ex with
    | .Call fn xs kws _ => (match fn, kws with
        | .Name n _, [] => decide (n = ("zip" : Str)) && glB c.sc n && kEs c es xs && decide (2 ≤ xs.length) && decide (xs.length ≤ 4)
        | _, _ => false)
    | _ => false
  | .enum a, ex => match ex with
    | .Call fn xs kws _ => (match fn, xs, kws with
        | .Name n _, [x], [] => decide (n = ("enumerate" : Str)) && glB c.sc n && kE c a x && noStar x
        | _, _, _ => false)
    | _ => false
end

/-! ### where a term of ours is run -/
def spF (K : PySem.W.Frag) (T : Tb) (call : List D → G → R D) (n : Nat) : Sp := fun vs H Q E => vs.length = n ∧ ∃ M g ds, HR K T M H g ∧ RDs K T M H ds vs ∧ wpR K T (fun c d _ H' => E c d H') [] M H (call ds g) fun d M' H' _ => ∀ v, RD K T M' H' d v → Q v H'
def bltNames : List Str := ["len", "int", "str", "bool", "abs", "max", "min", "sum", "all", "any", "tuple", "list", "sorted", "range", "isinstance", "divmod", "zip", "enumerate", "set", "reversed"]
/-- a def that can be called here -/
structure FnX (X : Cx) (T : Tb) (F : Fn) (f : Nat) : Prop where
  ok : ∃ (k : Nat) (fd : FuncData) (ps : List Str), Binds X.K fd ps [] ∧ Room (k + 1) X.A ∧
    FnOk X.prog X.w X.K X.mg X.base (L2.CX X.prog X.w) k (T.fad f) fd ps (spF X.K T (F.call f) ps.length) ∧ ∀ ds g, F.call f ds g ≠ .st → ds.length = ps.length
/-- a class as the top has made it -/
structure ClsOk (X : Cx) (T : Tb) (F : Fn) (ci : Nat) (C : LCl) : Prop where
  cl : Cls X.K (T.cad ci)
  mkc : Mk X.K (T.cad ci) (T.fad C.ini)
  ini : FnX X T F C.ini
  ms : ∀ m f, lookN m C.ms = some f → Meth X.K (T.cad ci) (T.knm m) (T.fad f) ∧ FnX X T F f
  prs : ∀ m f, lookN m C.prs = some f → (∃ p, PropOf X.K (T.cad ci) (T.knm m) p (T.fad f)) ∧ FnX X T F f
  fl : ∀ k, C.fl.contains k = true → NoAttr X.K (T.cad ci) (T.knm k)
/-- values for the last parameters -/
def BindsD (K : PySem.W.Frag) (fd : FuncData) (ps : List Str) (dv : List Int) : Prop := ∀ j, ∃ ds, Vals ((dv.drop j).map V.int) ds ∧ Binds K fd ps ds
structure CallOk (X : Cx) (T : Tb) (F : Fn) (f : Nat) (x : Str) (dv : List Int) : Prop where
  ok : ∃ (k : Nat) (fd : FuncData) (ps : List Str), X.mg x = some (.ref (T.fad f)) ∧ PySem.W.keepIn X.K (.ref (T.fad f)) = true ∧ Binds X.K fd ps [] ∧ Room k X.A ∧
    FnOk X.prog X.w X.K X.mg X.base (L2.CX X.prog X.w) k (T.fad f) fd ps (spF X.K T (F.call f) ps.length) ∧ (∀ ds g, F.call f ds g ≠ .st → ds.length = ps.length) ∧ BindsD X.K fd ps dv
structure ConOk (X : Cx) (T : Tb) (d : D) (x : Str) : Prop where
  ok : ∃ (u : Value) (v : V), X.mg x = some u ∧ RelV v u ∧ ∀ M H, RD X.K T M H d v
structure Ctx (X : Cx) (c : Ck) (T : Tb) (F : Fn) (W : WX) : Prop where
  hN : X.N = c.N
  nd : c.N.Nodup
  sc : X.env.scope = c.sc
  kd : X.env.scope.kind = .function
  fc : X.fn = c.fc
  calm : X.calm = true
  hu : X.A.units + 64 < cLine
  dp : X.A.depth < recursionLimit
  tk : Takes X W
  po : PassesOwn (model X.prog X.w) X.A X.env X.xe
  bl : ∀ x ∈ bltNames, X.mg x = none
  cal : ∀ f x, c.fnm f = some x → CallOk X T F f x (c.dfl f)
  con : ∀ i x, c.cnm i = some x → ConOk X T (F.con i) x
  kn : ∀ k x, c.knm k = some x → T.knm k = x
  inj : ∀ a b, T.knm a = T.knm b → a = b
  cln : ∀ ci x, c.clnm ci = some x → X.mg x = some (.ref (T.cad ci)) ∧ PySem.W.keepIn X.K (.ref (T.cad ci)) = true
  cls : ∀ ci C, F.cls ci = some C → ClsOk X T F ci C
  fns : ∀ f, T.has f = true → FnX X T F f ∧ PySem.W.keepIn X.K (.ref (T.fad f)) = true
  hs : ∀ f x, c.fnm f = some x → T.has f = true
  lam : c.lam = true → ∃ cc P, X.env.code = .ref cc ∧ LamX.TabB X.base X.mg cc P ∧ (P, X.env.qual ++ "<lambda>") ∈ T.tabs ∧ ∀ p ∈ T.tabs, p.1 = P → p.2 = X.env.qual ++ "<lambda>"

section
variable {X : Cx} {c : Ck} {T : Tb} {F : Fn} {W : WX}

theorem vis_of (C : Ctx X c T F W) {x : Str} (h : visB c.sc x = true) : Vis X.env.scope x := by
  rw [C.sc]
  unfold visB at h
  unfold Vis
  split at h
  · rename_i e; exact .inl e
  · rename_i e; exact .inr (.inl e)
  · rename_i e; exact .inr (.inr e)
  · cases h
theorem loc_of (C : Ctx X c T F W) {x : Str} (h : locB c x = true) : L2.Loc X.env.scope x ∧ (X.fn x = true ∨ X.env.scope.names.lookup x = some .local) := by
  rw [C.sc, C.fc]
  unfold locB at h
  unfold L2.Loc
  split at h
  · rename_i e; exact ⟨.inl e, .inr e⟩
  · rename_i e; exact ⟨.inr e, .inl h⟩
  · cases h
theorem gl_of (C : Ctx X c T F W) {x : Str} (h : glB c.sc x = true) : Gl X x := by
  unfold Gl
  show X.env.scope.names.lookup x = _
  rw [C.sc]
  unfold glB at h
  split at h
  · rename_i e; exact e
  · cases h
theorem dbg_of {x : Str} (h : dbgB x = true) : (x == ("__debug__" : Str)) = false ∧ (x == ("__classdict__" : Str)) = false ∧ x ≠ ("__name__" : Str) := by
  unfold dbgB at h
  simp only [Bool.and_eq_true, Bool.not_eq_true'] at h
  exact ⟨h.1.1, h.1.2, fun e => by rw [e] at h; simp at h⟩
theorem nm_of (C : Ctx X c T F W) {i : Nat} {x : Str} (h : nmB c i x = true) : X.N[i]? = some x ∧ Vis X.env.scope x ∧ (x == ("__debug__" : Str)) = false ∧ (x == ("__classdict__" : Str)) = false := by
  unfold nmB at h
  simp only [Bool.and_eq_true, decide_eq_true_eq] at h
  exact ⟨by rw [C.hN]; exact h.1.1, vis_of C h.1.2, (dbg_of h.2).1, (dbg_of h.2).2.1⟩

theorem star_cons {e : Expr} {es : List Expr} {env : Env} (h : noStar e = true) : starEach (e :: es) env = (false, eval e env) :: starEach es env := by
  cases e <;> first | rfl | (simp [noStar] at h)
theorem star_any {pos : Pos} {env : Env} : ∀ {es : List Expr}, noStars es = true → (backTo pos (starEach es env)).any (·.1) = false
  | [], _ => rfl
  | e :: es, h => by
    simp only [noStars, Bool.and_eq_true] at h
    rw [star_cons h.1]
    show (false || (backTo pos (starEach es env)).any (·.1)) = false
    rw [star_any h.2]
    rfl
theorem kEs_stars : ∀ {es : LEs} {xs : List Expr}, kEs c es xs = true → noStars xs = true
  | .nil, [], _ => rfl
  | .nil, _ :: _, h => by simp [kEs] at h
  | .cons _ _, [], h => by simp [kEs] at h
  | .cons e es, x :: xs, h => by
    simp only [kEs, Bool.and_eq_true] at h
    simp only [noStars, Bool.and_eq_true]
    exact ⟨h.1.2, kEs_stars h.2⟩
theorem marks_of {op : CmpOp} {y : Expr} (h : noSet y = true) : behindInMarks op y = false := by
  cases y <;> first | rfl | (simp [noSet] at h)
theorem last_of {p q : CmpOp} {y z : Expr} (h : noSet z = true) : lastMarks [p, q] [y, z] = false := by
  show lastMarks [q] [z] = false
  exact marks_of h
theorem ix_of {b : Expr} (h : noSlice b = true) : PlainIx b := by
  intro o i
  cases b <;> first | rfl | (simp [noSlice] at h)
theorem test_of {e : Expr} {env : Env} (h : plainTest e = true) : ∀ whole, isTrue e env whole = (do let v ← whole; standAt e.pos; holding [v] (truthy v)) := by
  intro whole
  cases e with
  | UnaryOp op x p => cases op <;> first | rfl | (simp [plainTest] at h)
  | BoolOp _ _ _ => simp [plainTest] at h
  | IfExp _ _ _ _ => simp [plainTest] at h
  | Compare _ _ _ _ => simp [plainTest] at h
  | _ => rfl
theorem fold_of {e : Expr} {env : Env} (h : noSet e = true) : ∀ x, foldedSetIterable e env x = pure x := by
  intro x
  cases e <;> first | rfl | (simp [noSet] at h)

/-! ### steps -/
theorem lf_two {r : R2} {op : D → D → G → R D} {ea eb : KN.St → G → R D}
    (k : ∀ {M : Mp} {H : Hp} {g : G} {σ : L2.St} {x y : D} {v u : V} {Q : VK}, HR X.K T M H g → RD X.K T M H x v → RD X.K T M H y u → wpR X.K T W σ M H (op x y g) (PQ X T Q) → r v u H Q) {σ : L2.St} {H : Hp} {Q : VK}
    (h : lfE X T W (fun s g => (ea s g).bind fun x g => (eb s g).bind fun y g => op x y g) σ H Q) : tOp r (lfE X T W ea) (lfE X T W eb) σ H Q := by
  obtain ⟨M, s, g, rs, h⟩ := h
  refine ⟨M, s, g, rs, h.bind fun x M1 H1 g1 e1 hr1 h1 v rv => ⟨M1, s, g1, rs.ext e1 hr1, h1.bind fun y M2 H2 g2 e2 hr2 h2 u ru => ?_⟩⟩
  exact k hr2 (RD.ext e2 _ _ rv) ru h2
theorem lf_twoB {r : R2} {op : D → D → G → R Bool} {ea eb : KN.St → G → R D}
    (k : ∀ {M : Mp} {H : Hp} {g : G} {σ : L2.St} {x y : D} {v u : V} {Q : VK}, HR X.K T M H g → RD X.K T M H x v → RD X.K T M H y u → wpR X.K T W σ M H (op x y g) (CQ Q) → r v u H Q) {σ : L2.St} {H : Hp} {Q : Bool → Hp → Prop}
    (h : lfC X T W (fun s g => (ea s g).bind fun x g => (eb s g).bind fun y g => op x y g) σ H Q) : tTest (tOp r (lfE X T W ea) (lfE X T W eb)) σ H Q := by
  obtain ⟨M, s, g, rs, h⟩ := h
  refine ⟨M, s, g, rs, h.bind fun x M1 H1 g1 e1 hr1 h1 v rv => ⟨M1, s, g1, rs.ext e1 hr1, h1.bind fun y M2 H2 g2 e2 hr2 h2 u ru => ?_⟩⟩
  exact k hr2 (RD.ext e2 _ _ rv) ru (h2.mono fun b _ _ _ _ _ q => ⟨b, rfl, q⟩)
theorem s_var (C : Ctx X c T F W) {i : Nat} {x : Str} {pos : Pos} (h : nmB c i x = true) : PE X (.Name x pos) (lfE X T W (evE F (.var i))) := by
  obtain ⟨h1, h2, h3, h4⟩ := nm_of C h
  refine (pe_var h1 h2 h3 h4).via fun σ H Q h => ?_
  obtain ⟨M, s, g, rs, h⟩ := h
  simp only [evE] at h
  split at h
  · rename_i d e
    obtain ⟨v, q1, q2⟩ := rs.sl i d e
    exact ⟨v, q1, h.at rs.hr v q2⟩
  · exact h.elim
theorem lf_con {d : D} {v : V} (hd : ∀ M H, RD X.K T M H d v) {σ : L2.St} {H : Hp} {Q : VK} (h : lfE X T W (fun _ g => .ok d g) σ H Q) : tC v σ H Q := by
  obtain ⟨M, s, g, rs, h⟩ := h
  exact wpR.at h rs.hr v (hd _ _)
theorem s_neg {a : LE} {x : Expr} {pos : Pos} (ha : PE X x (lfE X T W (evE F a))) : PE X (.UnaryOp .USub x pos) (lfE X T W (evE F (.neg a))) := by
  refine (pe_un un_neg ha).via fun σ H Q h => ?_
  obtain ⟨M, s, g, rs, h⟩ := h
  refine ⟨M, s, g, rs, wpR.bind (by simpa only [evE] using h) fun x M1 H1 g1 e1 hr1 h1 v rv => ?_⟩
  cases x <;> first
    | exact h1.elim
    | (cases rv; exact ⟨_, rfl, h1.at hr1 _ rfl⟩)
theorem s_bin {o : BO} {a b : LE} {x y : Expr} {pos : Pos} (ha : PE X x (lfE X T W (evE F a))) (hb : PE X y (lfE X T W (evE F b))) : PE X (.BinOp x (bop o) y pos) (lfE X T W (evE F (.bin o a b))) :=
  (pe_op (op_bin o) ha hb).via fun σ H Q h => lf_two (op := fun x y g => oR (binD o g x y) g) (fun hr hx hy h => bin_ok hr hx hy h) (by simpa only [evE] using h)
theorem s_cmp (C : Ctx X c T F W) {o : CO} {a b : LE} {x y : Expr} {pos : Pos} (hm : noSet y = true) (ha : PE X x (lfE X T W (evE F a))) (hb : PE X y (lfE X T W (evE F b))) : PE X (.Compare x [cop o] [y] pos) (lfE X T W (evE F (.cmp o a b))) :=
  (pe_cmpR (op_cmp C.hu o) ha hb (marks_of hm)).via fun σ H Q h => lf_two (op := fun x y g => (oR (cmpD o g x y) g).bind fun k g => .ok (.bl k) g)
    (fun hr hx hy h => cmp_ok hr hx hy (h.bind fun k M1 H1 g1 e1 hr1 h1 => h1.at hr1 _ rfl)) (by simpa only [evE] using h)
theorem s_cmpC (C : Ctx X c T F W) {o : CO} {a b : LE} {x y : Expr} {pos : Pos} (hm : noSet y = true) (ha : PE X x (lfE X T W (evE F a))) (hb : PE X y (lfE X T W (evE F b))) : PT X (.Compare x [cop o] [y] pos) (lfC X T W (evC F (.cmp o a b))) :=
  (pt_cmpR (op_cmp C.hu o) ha hb (marks_of hm)).via fun σ H Q h => lf_twoB (op := fun x y g => oR (cmpD o g x y) g) (fun hr hx hy h => cmp_ok hr hx hy h) (by simpa only [evC] using h)
theorem s_idx (C : Ctx X c T F W) {a b : LE} {x y : Expr} {pos : Pos} (hm : noSlice y = true) (ha : PE X x (lfE X T W (evE F a))) (hb : PE X y (lfE X T W (evE F b))) : PE X (.Subscript x y pos) (lfE X T W (evE F (.idx a b))) :=
  (pe_ix ((ix_dk C.hu).or ix_seq) ha hb (ix_of hm)).via fun σ H Q h => lf_two (op := fun x y g => oR (idxD g x y) g) (fun hr hx hy h => idx_ok hr hx hy h) (by simpa only [evE] using h)
theorem s_dnew {pos : Pos} : PE X (.Dict [] [] pos) (lfE X T W (evE F .dnew)) := by
  refine pe_dnewK.via fun σ H Q h => ?_
  obtain ⟨M, s, g, rs, h⟩ := h
  intro p hp
  have h' : wpR X.K T W σ M H (R.ok (D.ref g.length) (g ++ [.dk []])) (PQ X T Q) := by simpa only [evE] using h
  have e := Ext.newRef (M := M) (o := .dK []) hp
  exact h' _ _ e (rs.hr.newRef hp ⟨[], upd_same, Nat.zero_le _, rfl, rfl⟩) _ ⟨p, by rw [← rs.hr.len]; simp, rfl⟩
theorem findD_ok {x : D} : ∀ {xs : List D} {n k : Nat}, findD x xs n = some k → ∃ j z, k = n + j ∧ xs[j]? = some z ∧ eqv z x = true ∧ ∀ (m : Nat) z', m < j → xs[m]? = some z' → eqv z' x = false
  | [], n, k, h => by simp [findD] at h
  | y :: r, n, k, h => by
    unfold findD at h
    split at h
    · rename_i e
      cases h
      exact ⟨0, y, rfl, rfl, e, fun m z' hm _ => absurd hm (Nat.not_lt_zero _)⟩
    · rename_i e
      obtain ⟨j, z, h1, h2, h3, h4⟩ := findD_ok h
      refine ⟨j + 1, z, by omega, h2, h3, fun m z' hm hz => ?_⟩
      cases m with
      | zero =>
        cases hz
        cases q : eqv y x
        · rfl
        · exact absurd q e
      | succ m => exact h4 m z' (by omega) hz
theorem s_index {a e : LE} {o y : Expr} {ap cp : Pos} (h1 : noStar y = true) (h2 : plainBase o = true) (h3 : (ap.endLine == cp.line) = true) (ha : PE X o (lfE X T W (evE F a))) (he : PE X y (lfE X T W (evE F e))) : PE X (.Call (.Attribute o "index" ap) [y] [] cp) (lfE X T W (evE F (.index a e))) := by
  refine (pe_bm PySem.F.plainAttrs_list PySem.F.slot_list_index PySem.F.type_list_index mt_index ha (pa_cons he pa_nil (star_cons h1)) (base_of h2) (by rw [star_cons h1]; rfl) h3 (star_cons h1) rfl).via fun σ H Q h => ?_
  obtain ⟨M, s, g, rs, h⟩ := h
  refine ⟨M, s, g, rs, wpR.bind (by simpa only [evE] using h) fun x M1 H1 g1 e1 hr1 h1 v rv => ?_⟩
  split at h1
  · rename_i xs eg
    obtain ⟨p, vs, rfl, p1, p2, p3⟩ := rv.vlst hr1 eg
    refine ⟨.inl ⟨rfl, vs, .inl (.inl p1)⟩, M1, s, g1, rs.ext e1 hr1, wpR.bind h1 fun y M2 H2 g2 e2 hr2 h2 u ru => ?_⟩
    unfold indexD at h2
    split at h2
    · rename_i ys eg2
      obtain ⟨q, ws, eq, q1, q2, q3⟩ := (RD.ext e2 _ _ rv).vlst hr2 eg2
      cases eq
      split at h2
      · rename_i hf
        cases ef : findD y ys 0 with
        | none => rw [ef] at h2; exact h2.elim
        | some k =>
          rw [ef] at h2
          obtain ⟨j, z, rfl, k2, k3, k4⟩ := findD_ok ef
          obtain ⟨w, w1, w2⟩ := q3.get k2
          have fl : ∀ {m : Nat} {z' : D}, ys[m]? = some z' → flatD z' = true := fun hm => List.all_eq_true.mp hf.2 _ (List.mem_of_getElem? hm)
          refine ⟨p, ws, u, j, w, rfl, rfl, .inl (.inl q1), flat_ok ru hf.1, flats_ok q3 hf.2, w1, ?_, fun m z' hm hz => ?_, ?_⟩
          · rw [eqv_flat w2 (fl k2) ru hf.1]; exact k3
          · have hl : m < ys.length := by
              have := (List.getElem?_eq_some_iff.mp k2).1
              omega
            have e5 := List.getElem?_eq_getElem hl
            obtain ⟨w', w3, w4⟩ := q3.get e5
            rw [hz] at w3
            cases w3
            rw [eqv_flat w4 (fl e5) ru hf.1]
            exact k4 m _ hm e5
          · have := fin_ok h2 hr2 (show RD X.K T M2 H2 (.int ((0 + j : Nat) : Int)) (.int ((0 + j : Nat) : Int)) from rfl)
            rwa [Nat.zero_add] at this
      · exact h2.elim
    · exact h2.elim
  · exact h1.elim
theorem s_and {a b : LE} {x y : Expr} {rest : List Expr} {pos : Pos} (ha : PE X x (lfE X T W (evE F a))) (hb : PE X (.BoolOp .And (y :: rest) pos) (lfE X T W (evE F b))) : PE X (.BoolOp .And (x :: y :: rest) pos) (lfE X T W (evE F (.and a b))) := by
  refine (pe_and ha hb).via fun σ H Q h => ?_
  obtain ⟨M, s, g, rs, h⟩ := h
  refine ⟨M, s, g, rs, wpR.bind (by simpa only [evE] using h) fun x M1 H1 g1 e1 hr1 h1 v rv => ?_⟩
  cases x with
  | bl k =>
    cases rv
    refine ⟨k, rfl, ?_⟩
    cases k with
    | true => exact iteT ⟨M1, s, g1, rs.ext e1 hr1, h1⟩
    | false => exact iteF (h1.at hr1 _ rfl)
  | _ => exact h1.elim
theorem s_or {a b : LE} {x y : Expr} {rest : List Expr} {pos : Pos} (ha : PE X x (lfE X T W (evE F a))) (hb : PE X (.BoolOp .Or (y :: rest) pos) (lfE X T W (evE F b))) : PE X (.BoolOp .Or (x :: y :: rest) pos) (lfE X T W (evE F (.or a b))) := by
  refine (pe_or ha hb).via fun σ H Q h => ?_
  obtain ⟨M, s, g, rs, h⟩ := h
  refine ⟨M, s, g, rs, wpR.bind (by simpa only [evE] using h) fun x M1 H1 g1 e1 hr1 h1 v rv => ?_⟩
  cases x with
  | bl k =>
    cases rv
    refine ⟨k, rfl, ?_⟩
    cases k with
    | true => exact iteT (h1.at hr1 _ rfl)
    | false => exact iteF ⟨M1, s, g1, rs.ext e1 hr1, h1⟩
  | _ => exact h1.elim
theorem s_not {a : LE} {x : Expr} {pos : Pos} (ha : PE X x (lfE X T W (evE F a))) : PE X (.UnaryOp .Not x pos) (lfE X T W (evE F (.not a))) := by
  refine (pe_not ha).via fun σ H Q h => ?_
  obtain ⟨M, s, g, rs, h⟩ := h
  refine ⟨M, s, g, rs, wpR.bind (by simpa only [evE] using h) fun x M1 H1 g1 e1 hr1 h1 v rv => ?_⟩
  cases x <;> first
    | exact h1.elim
    | (cases rv; exact ⟨_, rfl, h1.at hr1 _ rfl⟩)
theorem s_ifx {d : LC} {a b : LE} {t x y : Expr} {pos : Pos} (hd : PT X t (lfC X T W (evC F d))) (ha : PE X x (lfE X T W (evE F a))) (hb : PE X y (lfE X T W (evE F b))) : PE X (.IfExp t x y pos) (lfE X T W (evE F (.ifx d a b))) := by
  refine (pe_ifExp hd ha hb).via fun σ H Q h => ?_
  obtain ⟨M, s, g, rs, h⟩ := h
  refine ⟨M, s, g, rs, wpR.bind (by simpa only [evE] using h) fun k M1 H1 g1 e1 hr1 h1 => ?_⟩
  cases k with
  | true => exact iteT ⟨M1, s, g1, rs.ext e1 hr1, h1⟩
  | false => exact iteF ⟨M1, s, g1, rs.ext e1 hr1, h1⟩
theorem s_val {a : LE} {x : Expr} (hp : plainTest x = true) (ha : PE X x (lfE X T W (evE F a))) : PT X x (lfC X T W (evC F (.val a))) := by
  refine (pt_truth ha (test_of hp)).via fun σ H Q h => ?_
  obtain ⟨M, s, g, rs, h⟩ := h
  refine ⟨M, s, g, rs, wpR.bind (by simpa only [evC] using h) fun x M1 H1 g1 e1 hr1 h1 v rv => ?_⟩
  exact tru_okD hr1 rv h1
theorem s_andC {a b : LC} {x y : Expr} {rest : List Expr} {pos : Pos} (ha : PT X x (lfC X T W (evC F a))) (hb : PW X (.BoolOp .And (y :: rest) pos) (lfC X T W (evC F b))) : PW X (.BoolOp .And (x :: y :: rest) pos) (lfC X T W (evC F (.and a b))) := by
  refine ⟨fun wh pins s σ H Q I h => (pw_and ha hb).run wh pins s σ H Q I ?_⟩
  obtain ⟨M, s, g, rs, h⟩ := h
  refine ⟨M, s, g, rs, wpR.bind (by simpa only [evC] using h) fun k M1 H1 g1 e1 hr1 h1 => ?_⟩
  cases k with
  | true => exact iteT ⟨M1, s, g1, rs.ext e1 hr1, h1⟩
  | false => exact iteF (h1.at hr1)
theorem s_orC {a b : LC} {x y : Expr} {rest : List Expr} {pos : Pos} (ha : PT X x (lfC X T W (evC F a))) (hb : PW X (.BoolOp .Or (y :: rest) pos) (lfC X T W (evC F b))) : PW X (.BoolOp .Or (x :: y :: rest) pos) (lfC X T W (evC F (.or a b))) := by
  refine ⟨fun wh pins s σ H Q I h => (pw_or ha hb).run wh pins s σ H Q I ?_⟩
  obtain ⟨M, s, g, rs, h⟩ := h
  refine ⟨M, s, g, rs, wpR.bind (by simpa only [evC] using h) fun k M1 H1 g1 e1 hr1 h1 => ?_⟩
  cases k with
  | true => exact iteT (h1.at hr1)
  | false => exact iteF ⟨M1, s, g1, rs.ext e1 hr1, h1⟩
theorem s_notC {a : LC} {x : Expr} {pos : Pos} (ha : PT X x (lfC X T W (evC F a))) : PT X (.UnaryOp .Not x pos) (lfC X T W (evC F (.not a))) := by
  refine (pt_not ha).via fun σ H Q h => ?_
  obtain ⟨M, s, g, rs, h⟩ := h
  exact ⟨M, s, g, rs, wpR.bind (by simpa only [evC] using h) fun k M1 H1 g1 e1 hr1 h1 => h1.at hr1⟩
theorem s_chain (C : Ctx X c T F W) {o o' : CO} {a b d : LE} {x y z : Expr} {pos : Pos} (hm : noSet z = true) (ha : PE X x (lfE X T W (evE F a))) (hb : PE X y (lfE X T W (evE F b))) (hd : PE X z (lfE X T W (evE F d))) :
    PE X (.Compare x [cop o, cop o'] [y, z] pos) (lfE X T W (evE F (.chain o o' a b d))) := by
  refine (pe_chain (op_cmp C.hu o) (op_cmp C.hu o') ha hb hd (last_of hm)).via fun σ H Q h => ?_
  obtain ⟨M, s, g, rs, h⟩ := h
  refine ⟨M, s, g, rs, wpR.bind (by simpa only [evE] using h) fun x M1 H1 g1 e1 hr1 h1 v rv => ⟨M1, s, g1, rs.ext e1 hr1, h1.bind fun y M2 H2 g2 e2 hr2 h2 u ru => ?_⟩⟩
  refine cmp_ok hr2 (RD.ext e2 _ _ rv) ru (h2.bind fun k M3 H3 g3 e3 hr3 h3 => ⟨k, rfl, ?_⟩)
  cases k with
  | true =>
    rw [if_pos rfl] at h3
    refine iteT ⟨M3, s, g3, rs.ext (e1.trans (e2.trans e3)) hr3, h3.bind fun z M4 H4 g4 e4 hr4 h4 w rw' => ?_⟩
    exact cmp_ok hr4 (RD.ext (e3.trans e4) _ _ ru) rw' (h4.bind fun k M5 H5 g5 e5 hr5 h5 => h5.at hr5 _ rfl)
  | false =>
    rw [if_neg Bool.false_ne_true] at h3
    exact iteF (h3.at hr3 _ rfl)
theorem s_chainC (C : Ctx X c T F W) {o o' : CO} {a b d : LE} {x y z : Expr} {pos : Pos} (hm : noSet z = true) (ha : PE X x (lfE X T W (evE F a))) (hb : PE X y (lfE X T W (evE F b))) (hd : PE X z (lfE X T W (evE F d))) :
    PT X (.Compare x [cop o, cop o'] [y, z] pos) (lfC X T W (evC F (.chain o o' a b d))) := by
  refine (pt_chain (op_cmp C.hu o) (op_cmp C.hu o') ha hb hd (last_of hm)).via fun σ H Q h => ?_
  obtain ⟨M, s, g, rs, h⟩ := h
  refine ⟨M, s, g, rs, wpR.bind (by simpa only [evC] using h) fun x M1 H1 g1 e1 hr1 h1 v rv => ⟨M1, s, g1, rs.ext e1 hr1, h1.bind fun y M2 H2 g2 e2 hr2 h2 u ru => ?_⟩⟩
  refine cmp_ok hr2 (RD.ext e2 _ _ rv) ru (h2.bind fun k M3 H3 g3 e3 hr3 h3 => ⟨k, rfl, ?_⟩)
  cases k with
  | true =>
    rw [if_pos rfl] at h3
    refine iteT ⟨M3, s, g3, rs.ext (e1.trans (e2.trans e3)) hr3, h3.bind fun z M4 H4 g4 e4 hr4 h4 w rw' => ?_⟩
    exact cmp_ok hr4 (RD.ext (e3.trans e4) _ _ ru) rw' (h4.mono fun k _ _ _ _ _ q => ⟨k, rfl, q⟩)
  | false =>
    rw [if_neg Bool.false_ne_true] at h3
    exact iteF ⟨_, rfl, h3.at hr3⟩
theorem s_nil : PA X [] (lfEs X T W (evEs F .nil)) := pa_nil.via fun σ H Q h => by
  obtain ⟨M, s, g, rs, h⟩ := h
  have h' : wpR X.K T W σ M H (R.ok ([] : List D) g) (fun ds M' H' _ => ∀ vs, RDs X.K T M' H' ds vs → Q vs H') := by simpa only [evEs] using h
  exact h'.at rs.hr [] rfl
theorem s_cons {e : LE} {es : LEs} {x : Expr} {xs : List Expr} (hs : noStar x = true) (he : PE X x (lfE X T W (evE F e))) (hr : PA X xs (lfEs X T W (evEs F es))) : PA X (x :: xs) (lfEs X T W (evEs F (.cons e es))) := by
  refine (pa_cons he hr (star_cons hs)).via fun σ H Q h => ?_
  obtain ⟨M, s, g, rs, h⟩ := h
  refine ⟨M, s, g, rs, wpR.bind (by simpa only [evEs] using h) fun x M1 H1 g1 e1 hr1 h1 v rv => ⟨M1, s, g1, rs.ext e1 hr1, h1.bind fun ys M2 H2 g2 e2 hr2 h2 us ru => ?_⟩⟩
  exact h2.at hr2 (v :: us) ⟨v, us, rfl, RD.ext e2 _ _ rv, ru⟩
theorem s_tup {es : LEs} {xs : List Expr} {k : Nat} {pos : Pos} (h : PA X xs (lfEs X T W (evEs F es))) : PE X (.Tuple xs k pos) (lfE X T W (evE F (.tup es))) := by
  refine (pe_tup h).via fun σ H Q h => ?_
  obtain ⟨M, s, g, rs, h⟩ := h
  refine ⟨M, s, g, rs, wpR.bind (by simpa only [evE] using h) fun ds M1 H1 g1 e1 hr1 h1 vs rv => ?_⟩
  split at h1
  · rename_i hl
    have hl' : vs.length ≤ LIM := by rw [← rv.length]; exact hl
    exact ⟨lim_of hl', fun p hp => h1 M1 _ (Ext.new hp) (hr1.new hp) _ (RD.new_tup hr1 hp rv hl')⟩
  · exact h1.elim
theorem mk_ok {mu : Bool} {ds : List D} {vs : List V} {M : Mp} {H : Hp} {g : G} {σ : L2.St} {Q : VK} (hr : HR X.K T M H g) (rv : RDs X.K T M H ds vs) (h : wpR X.K T W σ M H (mkL mu ds g) (PQ X T Q)) : vs.length ≤ LIM ∧ ∀ p, H p = none → Q (.ref p) (upd H p (.lst vs)) := by
  unfold mkL at h
  split at h
  · rename_i hl
    have hl' : vs.length ≤ LIM := by rw [← rv.length]; exact hl
    refine ⟨hl', fun p hp => ?_⟩
    cases mu with
    | true =>
      rw [if_pos rfl] at h
      have e := Ext.newRef (M := M) (o := .lst vs) hp
      exact h _ _ e (hr.newRef hp ⟨vs, upd_same, hl', RDs.ext e _ _ rv⟩) _ ⟨p, by rw [← hr.len]; simp, rfl⟩
    | false =>
      rw [if_neg Bool.false_ne_true] at h
      exact h M _ (Ext.new hp) (hr.new hp) _ (RD.new_lst hr hp rv hl')
  · exact h.elim
theorem s_lst {mu : Bool} {es : LEs} {xs : List Expr} {pos : Pos} (h : PA X xs (lfEs X T W (evEs F es))) : PE X (.List xs pos) (lfE X T W (evE F (.lst mu es))) := by
  refine (pe_lst h).via fun σ H Q h => ?_
  obtain ⟨M, s, g, rs, h⟩ := h
  refine ⟨M, s, g, rs, wpR.bind (by simpa only [evE] using h) fun ds M1 H1 g1 e1 hr1 h1 vs rv => ?_⟩
  obtain ⟨a, b⟩ := mk_ok hr1 rv h1
  exact ⟨lim_of a, b⟩
def lfO (X : Cx) (T : Tb) (W : WX) (ev : KN.St → G → R (Option Int)) : TO := fun σ H Q => ∃ M s g, RS X.K T M H g s σ ∧ wpR X.K T W σ M H (ev s g) fun o _ H' _ => Q o H'
theorem s_oNo : PO X none (lfO X T W (evO F .no)) := ⟨fun pins s σ H Q I h => po_none.run pins s σ H Q I (by
  obtain ⟨M, s, g, rs, h⟩ := h
  exact wpR.at (a := none) (by simpa only [evO] using h) rs.hr)⟩
theorem s_oYes {e : LE} {x : Expr} (he : PE X x (lfE X T W (evE F e))) : PO X (some x) (lfO X T W (evO F (.yes e))) := ⟨fun pins s σ H Q I h => (po_some he).run pins s σ H Q I (by
  obtain ⟨M, s, g, rs, h⟩ := h
  refine ⟨M, s, g, rs, wpR.bind (by simpa only [evO] using h) fun x M1 H1 g1 e1 hr1 h1 v rv => ?_⟩
  cases x with
  | int i => cases rv; exact ⟨i, rfl, wpR.at (a := some i) (by simpa only [asI, oR_some, R.bind_ok] using h1) hr1⟩
  | _ => exact h1.elim)⟩
theorem s_sli {a : LE} {lo hi : LO} {x : Expr} {l u : Option Expr} {p pos : Pos} (ha : PE X x (lfE X T W (evE F a))) (hl : PO X l (lfO X T W (evO F lo))) (hh : PO X u (lfO X T W (evO F hi))) : PE X (.Subscript x (.Slice l u none p) pos) (lfE X T W (evE F (.sli a lo hi))) := by
  refine (pe_slice sl_ok ha hl hh).via fun σ H Q h => ?_
  obtain ⟨M, s, g, rs, h⟩ := h
  refine ⟨M, s, g, rs, wpR.bind (by simpa only [evE] using h) fun x M1 H1 g1 e1 hr1 h1 v rv => ⟨M1, s, g1, rs.ext e1 hr1, h1.bind fun lo M2 H2 g2 e2 hr2 h2 => ⟨M2, s, g2, rs.ext (e1.trans e2) hr2, h2.bind fun hi M3 H3 g3 e3 hr3 h3 => ?_⟩⟩⟩
  exact sli_ok hr3 (RD.ext (e2.trans e3) _ _ rv) h3

/-! ### calls -/
theorem wpR.taken {A : Type} {W1 W2 : WX} {σ1 σ2 : L2.St} {M : Mp} {H : Hp} {r : R A} {post : A → Mp → Hp → G → Prop} (h : wpR X.K T W1 σ1 M H r post) (k : ∀ cls d H', W1 cls d σ1 H' → W2 cls d σ2 H') : wpR X.K T W2 σ2 M H r post := by
  cases r with
  | ok a g => exact h
  | exc x g => exact fun M' H' cls dd e hr hx => k _ _ _ (h M' H' cls dd e hr hx)
  | st => exact h
theorem s_call (C : Ctx X c T F W) {f : Nat} {x : Str} {es : LEs} {y : Expr} {ys : List Expr} {p pos : Pos} (hf : c.fnm f = some x) (hg : glB c.sc x = true) (hd : dbgB x = true) (hk : noStars (y :: ys) = true) (h : PA X (y :: ys) (lfEs X T W (evEs F es))) :
    PE X (.Call (.Name x p) (y :: ys) [] pos) (lfE X T W (evE F (.call f es))) := by
  obtain ⟨k, fd, ps, hm, kp, hb, hr, FN, hlen, _⟩ := (C.cal f x hf).ok
  simp only [noStars, Bool.and_eq_true] at hk
  refine (pe_callSD (E := fun σ cls d H' => W cls d σ H') FN hr (gl_of C hg) hm kp hb .nil (fun σ => ?_) h (dbg_of hd).1 (star_cons hk.1) (star_any hk.2)).via fun σ H Q h => ?_
  · exact passAt C.tk σ
  · obtain ⟨M, s, g, rs, h⟩ := h
    refine ⟨M, s, g, rs, wpR.bind (by simpa only [evE] using h) fun ds M1 H1 g1 e1 hr1 h1 vs rv => ?_⟩
    have hl : ds.length = ps.length := hlen ds g1 fun z => by rw [z] at h1; exact h1
    exact ⟨by rw [List.append_nil, ← rv.length]; exact hl, M1, g1, ds, hr1, by rw [List.append_nil]; exact rv, h1.taken fun _ _ _ q => q⟩
theorem s_fnv (C : Ctx X c T F W) {f : Nat} {x : Str} {p : Pos} (hf : c.fnm f = some x) (hg : glB c.sc x = true) (hd : dbgB x = true) : PE X (.Name x p) (lfE X T W (evE F (.fnv f))) := by
  obtain ⟨k, fd, ps, hm, kp, hb, hr, FN, hlen, _⟩ := (C.cal f x hf).ok
  exact (pe_glob (v := .ref (T.fad f)) (gl_of C hg) hm rfl (dbg_of hd).1).via fun σ H Q h => lf_con (d := .fn f) (fun M H => ⟨rfl, C.hs f x hf⟩) (by simpa only [evE] using h)
theorem s_callv (C : Ctx X c T F W) {i : Nat} {x : Str} {es : LEs} {y : Expr} {ys : List Expr} {p pos : Pos} (hi : nmB c i x = true) (hk : noStars (y :: ys) = true) (h : PA X (y :: ys) (lfEs X T W (evEs F es))) :
    PE X (.Call (.Name x p) (y :: ys) [] pos) (lfE X T W (evE F (.callv i es))) := by
  obtain ⟨h1, h2, h3, h4⟩ := nm_of C hi
  have hk0 := hk
  simp only [noStars, Bool.and_eq_true] at hk
  refine ⟨fun pins s σ H Q I hl => ?_⟩
  obtain ⟨M, s0, g, rs, hw⟩ := hl
  simp only [evE] at hw
  cases e : s0[i]? with
  | none => rw [e] at hw; exact hw.elim
  | some o =>
    cases o with
    | none => rw [e] at hw; exact hw.elim
    | some d =>
      rw [e] at hw
      cases d with
      | fn f =>
        obtain ⟨v, q1, q2⟩ := rs.sl i _ e
        have q2 : v = .ref (T.fad f) ∧ T.has f = true := q2
        obtain ⟨rfl, hh⟩ := q2
        obtain ⟨⟨k, fd, ps, hb, hroom, FN, hlen⟩, kp⟩ := C.fns f hh
        have hw : wpR X.K T W σ M H ((evEs F es s0 g).bind fun xs g => F.call f xs g) (PQ X T Q) := hw
        refine wpAny_Call_Name_kw (thn ((pe_var (pos := p) h1 h2 h3 h4).run pins s σ H (fun v H1 => v = .ref (T.fad f) ∧ H1 = H) I ⟨.ref (T.fad f), q1, rfl, rfl⟩) fun u s1 ⟨v, H1, I1, r1, q1⟩ => ?_)
        obtain ⟨rfl, rfl⟩ := q1
        cases r1
        have ht : lfEs X T W (evEs F es) σ H1 fun vs H2 => spF X.K T (F.call f) ps.length (vs ++ []) H2 Q (fun cls d H' => W cls d σ H') := ⟨M, s0, g, rs, hw.bind fun ds M1 H1 g1 e1 hr1 h1 vs rv => by
          have hl : ds.length = ps.length := hlen ds g1 fun z => by rw [z] at h1; exact h1
          exact ⟨by rw [List.append_nil, ← rv.length]; exact hl, M1, g1, ds, hr1, by rw [List.append_nil]; exact rv, h1.taken fun _ _ _ q => q⟩⟩
        refine PySem.W.callWith_K (h₀ := X.base) I.ok.mod.kin kp (thn (h.run pos pins s1 σ _ _ I1 ht) fun us s2 ⟨vs, H2, I2, r, q⟩ => ⟨I2.kIn, ?_⟩) (star_cons hk.1) (star_any hk.2)
        exact run_fnSD (E := fun σ cls d H' => W cls d σ H') FN (hroom.mono (Nat.le_succ _)) hb .nil (passAt C.tk σ) I2 r q
      | _ => exact hw.elim
theorem ints_vals {K : PySem.W.Frag} {T : Tb} {M : Mp} {H : Hp} {ds : List D} {ns : List Int} (h : intsD ds = some ns) : RDs K T M H ds (ns.map V.int) := by
  have : ds = ns.map D.int := by
    induction ds generalizing ns with
    | nil => simp [intsD] at h; subst h; rfl
    | cons d ds ih =>
      cases d <;> simp [intsD] at h
      obtain ⟨ms, e1, rfl⟩ := h
      rw [List.map_cons, ← ih e1]
  rw [this]
  exact RDs.ints
theorem s_calld (C : Ctx X c T F W) {f : Nat} {x : Str} {es : LEs} {ds : List D} {y : Expr} {ys : List Expr} {p pos : Pos} (hf : c.fnm f = some x) (hg : glB c.sc x = true) (hd : dbgB x = true) (hk : noStars (y :: ys) = true) (hds : intsD ds = some ((c.dfl f).drop ((c.dfl f).length - ds.length))) (h : PA X (y :: ys) (lfEs X T W (evEs F es))) :
    PE X (.Call (.Name x p) (y :: ys) [] pos) (lfE X T W (evE F (.calld f es ds))) := by
  obtain ⟨k, fd, ps, hm, kp, _, hr, FN, hlen, hbd⟩ := (C.cal f x hf).ok
  obtain ⟨dv, hv, hb⟩ := hbd ((c.dfl f).length - ds.length)
  simp only [noStars, Bool.and_eq_true] at hk
  refine (pe_callSD (E := fun σ cls d H' => W cls d σ H') FN hr (gl_of C hg) hm kp hb hv (fun σ => ?_) h (dbg_of hd).1 (star_cons hk.1) (star_any hk.2)).via fun σ H Q h => ?_
  · exact passAt C.tk σ
  · obtain ⟨M, s, g, rs, h⟩ := h
    refine ⟨M, s, g, rs, wpR.bind (by simpa only [evE] using h) fun xs M1 H1 g1 e1 hr1 h1 vs rv => ?_⟩
    have rv2 : RDs X.K T M1 H1 (xs ++ ds) (vs ++ ((c.dfl f).drop ((c.dfl f).length - ds.length)).map V.int) := rv.append (ints_vals hds)
    have hl : (xs ++ ds).length = ps.length := hlen (xs ++ ds) g1 fun z => by rw [z] at h1; exact h1
    exact ⟨by rw [← rv2.length]; exact hl, M1, g1, xs ++ ds, hr1, rv2, h1.taken fun _ _ _ q => q⟩
theorem s_bi (C : Ctx X c T F W) {b : Bi} {es : LEs} {y : Expr} {ys : List Expr} {p pos : Pos} (hg : glB c.sc ((biN b).2 : Str) = true) (hk : noStars (y :: ys) = true) (h : PA X (y :: ys) (lfEs X T W (evEs F es))) :
    PE X (.Call (.Name ((biN b).2 : Str) p) (y :: ys) [] pos) (lfE X T W (evE F (.bi b es))) := by
  simp only [noStars, Bool.and_eq_true] at hk
  have hm : X.mg ((biN b).2 : Str) = none := C.bl _ (by cases b <;> decide)
  have fin : ∀ {σ H Q}, lfE X T W (evE F (.bi b es)) σ H Q → tCB (rBi X.K b) (lfEs X T W (evEs F es)) σ H Q := fun {σ H Q} h => by
    obtain ⟨M, s, g, rs, h⟩ := h
    exact ⟨M, s, g, rs, wpR.bind (by simpa only [evE] using h) fun ds M1 H1 g1 e1 hr1 h1 vs rv => bi_ok hr1 rv h1⟩
  have rule := bi_rule (X := X) C.calm C.hu b
  unfold biV at rule
  cases hb : (biN b).1 with
  | true =>
    rw [hb, if_pos rfl] at rule
    refine (pe_callTy rule (gl_of C hg) hm (by cases b <;> first | (cases hb; done) | decide +kernel) h (by cases b <;> decide +kernel) (by cases b <;> decide +kernel) (star_cons hk.1) (star_any hk.2)).via fun σ H Q h => fin h
  | false =>
    rw [hb, if_neg Bool.false_ne_true] at rule
    refine (pe_callB rule (gl_of C hg) hm (by cases b <;> first | (cases hb; done) | decide +kernel) h (by cases b <;> decide +kernel) (by cases b <;> decide +kernel) (star_cons hk.1) (star_any hk.2)).via fun σ H Q h => fin h

/-! ### three comparisons -/
theorem s_chain3 (C : Ctx X c T F W) {o o' o2 : CO} {a b d e : LE} {x y z w : Expr} {pos : Pos} (hm : noSet w = true) (ha : PE X x (lfE X T W (evE F a))) (hb : PE X y (lfE X T W (evE F b))) (hd : PE X z (lfE X T W (evE F d))) (he : PE X w (lfE X T W (evE F e))) :
    PE X (.Compare x [cop o, cop o', cop o2] [y, z, w] pos) (lfE X T W (evE F (.chain3 o o' o2 a b d e))) := by
  refine ⟨fun pins s σ H Q I h => ?_⟩
  obtain ⟨M, s0, g, rs, h⟩ := h
  have ht : lfE X T W (evE F a) σ H fun v H1 => ∃ M1 g1 x, RS X.K T M1 H1 g1 s0 σ ∧ RD X.K T M1 H1 x v ∧ wpR X.K T W σ M1 H1 ((evE F b s0 g1).bind fun y g => (oR (cmpD o g x y) g).bind fun k g =>
      if k = true then (evE F d s0 g).bind fun z g => (oR (cmpD o' g y z) g).bind fun k g => if k = true then (evE F e s0 g).bind fun w g => (oR (cmpD o2 g z w) g).bind fun k g => .ok (.bl k) g else .ok (.bl false) g else .ok (.bl false) g) (PQ X T Q) :=
    ⟨M, s0, g, rs, wpR.bind (by simpa only [evE] using h) fun x M1 H1 g1 e1 hr1 h1 v rv => ⟨M1, g1, x, rs.ext e1 hr1, rv, h1⟩⟩
  refine Compare_chain (thn (ha.run pins s σ H _ I ht) fun v s1 ⟨xv, H1, I1, r1, M1, g1, x1, rs1, rv1, h1⟩ => chain_link ?_) (last_of (p := cop o') (q := cop o2) (y := z) hm)
  have ht2 : lfE X T W (evE F b) σ H1 fun u H2 => ∃ M2 g2 y, RS X.K T M2 H2 g2 s0 σ ∧ RD X.K T M2 H2 x1 xv ∧ RD X.K T M2 H2 y u ∧ wpR X.K T W σ M2 H2 ((oR (cmpD o g2 x1 y) g2).bind fun k g =>
      if k = true then (evE F d s0 g).bind fun z g => (oR (cmpD o' g y z) g).bind fun k g => if k = true then (evE F e s0 g).bind fun w g => (oR (cmpD o2 g z w) g).bind fun k g => .ok (.bl k) g else .ok (.bl false) g else .ok (.bl false) g) (PQ X T Q) :=
    ⟨M1, s0, g1, rs1, h1.bind fun y M2 H2 g2 e2 hr2 h2 u ru => ⟨M2, g2, y, rs1.ext e2 hr2, RD.ext e2 _ _ rv1, ru, h2⟩⟩
  refine thn (hb.run pins s1 σ H1 _ I1 ht2) fun u s2 ⟨yv, H2, I2, r2, M2, g2, y1, rs2, rv2, ru2, h2⟩ => ?_
  refine thn (op_cmp C.hu o pins s2 σ H2 xv yv v u (fun z H3 => ∃ k : Bool, z = .bl k ∧ ∃ M3 g3, RS X.K T M3 H3 g3 s0 σ ∧ RD X.K T M3 H3 y1 yv ∧ wpR X.K T W σ M3 H3 (if k = true then (evE F d s0 g3).bind fun z g => (oR (cmpD o' g y1 z) g).bind fun k g => if k = true then (evE F e s0 g).bind fun w g => (oR (cmpD o2 g z w) g).bind fun k g => .ok (.bl k) g else .ok (.bl false) g else .ok (.bl false) g3) (PQ X T Q)) I2 r1 r2
    (cmp_ok rs2.hr rv2 ru2 (h2.bind fun k M3 H3 g3 e3 hr3 h3 => ⟨k, rfl, M3, g3, rs2.ext e3 hr3, RD.ext e3 _ _ ru2, h3⟩))) fun d3 s3 ⟨zv, H3, I3, r3, k, e3, M3, g3, rs3, ru3, h3⟩ => ?_
  subst e3
  cases r3
  refine wpAny_truthy_bool ?_
  cases k with
  | false =>
    rw [if_neg Bool.false_ne_true] at h3
    exact ite_ff ⟨.bl false, H3, I3, rfl, h3.at rs3.hr _ rfl⟩
  | true =>
    rw [if_pos rfl] at h3
    refine ite_tt (chain_link ?_)
    have ht3 : lfE X T W (evE F d) σ H3 fun u H4 => ∃ M4 g4 z, RS X.K T M4 H4 g4 s0 σ ∧ RD X.K T M4 H4 y1 yv ∧ RD X.K T M4 H4 z u ∧ wpR X.K T W σ M4 H4 ((oR (cmpD o' g4 y1 z) g4).bind fun k g => if k = true then (evE F e s0 g).bind fun w g => (oR (cmpD o2 g z w) g).bind fun k g => .ok (.bl k) g else .ok (.bl false) g) (PQ X T Q) :=
      ⟨M3, s0, g3, rs3, h3.bind fun z M4 H4 g4 e4 hr4 h4 u ru => ⟨M4, g4, z, rs3.ext e4 hr4, RD.ext e4 _ _ ru3, ru, h4⟩⟩
    refine thn (hd.run pins s3 σ H3 _ I3 ht3) fun u4 s4 ⟨zv4, H4, I4, r4, M4, g4, z1, rs4, ru4, rz4, h4⟩ => ?_
    refine thn (op_cmp C.hu o' pins s4 σ H4 yv zv4 u u4 (fun z H5 => ∃ k : Bool, z = .bl k ∧ ∃ M5 g5, RS X.K T M5 H5 g5 s0 σ ∧ RD X.K T M5 H5 z1 zv4 ∧ wpR X.K T W σ M5 H5 (if k = true then (evE F e s0 g5).bind fun w g => (oR (cmpD o2 g z1 w) g).bind fun k g => .ok (.bl k) g else .ok (.bl false) g5) (PQ X T Q)) I4 r2 r4
      (cmp_ok rs4.hr ru4 rz4 (h4.bind fun k M5 H5 g5 e5 hr5 h5 => ⟨k, rfl, M5, g5, rs4.ext e5 hr5, RD.ext e5 _ _ rz4, h5⟩))) fun d5 s5 ⟨zv5, H5, I5, r5, k5, e5, M5, g5, rs5, rz5, h5⟩ => ?_
    subst e5
    cases r5
    refine wpAny_truthy_bool ?_
    cases k5 with
    | false =>
      rw [if_neg Bool.false_ne_true] at h5
      exact ite_ff ⟨.bl false, H5, I5, rfl, h5.at rs5.hr _ rfl⟩
    | true =>
      rw [if_pos rfl] at h5
      refine ite_tt (chain_last ?_)
      have ht5 : lfE X T W (evE F e) σ H5 fun u H6 => ∃ M6 g6 w, RS X.K T M6 H6 g6 s0 σ ∧ RD X.K T M6 H6 z1 zv4 ∧ RD X.K T M6 H6 w u ∧ wpR X.K T W σ M6 H6 ((oR (cmpD o2 g6 z1 w) g6).bind fun k g => .ok (.bl k) g) (PQ X T Q) :=
        ⟨M5, s0, g5, rs5, h5.bind fun w M6 H6 g6 e6 hr6 h6 u ru => ⟨M6, g6, w, rs5.ext e6 hr6, RD.ext e6 _ _ rz5, ru, h6⟩⟩
      refine thn (he.run pins s5 σ H5 _ I5 ht5) fun u6 s6 ⟨wv, H6, I6, r6, M6, g6, w1, rs6, rz6, rw6, h6⟩ => ?_
      exact op_cmp C.hu o2 pins s6 σ H6 zv4 wv u4 u6 Q I6 r4 r6 (cmp_ok rs6.hr rz6 rw6 (h6.bind fun k M7 H7 g7 e7 hr7 h7 => h7.at hr7 _ rfl))

/-! ### min, max with default -/
theorem s_mm (C : Ctx X c T F W) {mx : Bool} {a d : LE} {y dv : Expr} {p kp pos : Pos} (hg : glB c.sc (KM.mostN mx : Str) = true) (hy : noStar y = true) (ha : PE X y (lfE X T W (evE F a))) (hd : PE X dv (lfE X T W (evE F d))) :
    PE X (.Call (.Name (KM.mostN mx : Str) p) [y] [⟨some "default", dv, kp⟩] pos) (lfE X T W (evE F (.mm mx a d))) := by
  have hm : X.mg (KM.mostN mx : Str) = none := C.bl _ (by cases mx <;> decide)
  refine (pe_callBK (id := KM.mostN mx) (cr_mostX C.calm C.hu mx) (gl_of C hg) hm (by cases mx <;> decide +kernel) (pa_cons ha pa_nil (star_cons hy)) (pk_cons hd pk_nil) (by cases mx <;> decide +kernel) (by cases mx <;> decide +kernel) (by rw [star_cons hy]; rfl) (by rw [star_cons hy]; rfl) rfl rfl rfl).via fun σ H Q h => ?_
  obtain ⟨M, s, g, rs, h⟩ := h
  refine ⟨M, s, g, rs, wpR.bind (by simpa only [evE] using h) fun x M1 H1 g1 e1 hr1 h1 v rv => ⟨M1, s, g1, rs.ext e1 hr1, h1.bind fun w M2 H2 g2 e2 hr2 h2 u ru => ?_⟩⟩
  have rv2 := RD.ext e2 _ _ rv
  unfold mmD at h2
  cases es : seqOf g2 x with
  | none => rw [es] at h2; exact h2.elim
  | some xs =>
    rw [es] at h2
    simp only at h2
    obtain ⟨b, q, vs, rfl, p1, p2, p3⟩ := rv2.vseq hr2 es
    cases en : intsD xs with
    | none =>
      rw [en] at h2
      simp only at h2
      cases eb : bestT mx xs with
      | none => rw [eb] at h2; exact h2.elim
      | some d' =>
        rw [eb] at h2
        obtain ⟨y0, ys0, z1, z2, z3, z4, z5⟩ := best_ok eb p3
        exact .inr ⟨b, q, vs, y0, ys0, u, rfl, rfl, p1, z1, z2, z3, z4, fun i v e1 e2 => fin_ok h2 hr2 (z5 i v e1 e2)⟩
    | some ns =>
      rw [en] at h2
      simp only at h2
      have hv := RDs.of_ints en p3
      subst hv
      refine .inl ⟨b, q, ns, u, rfl, rfl, p1, fun e0 => ?_, fun n r e0 => ?_⟩
      · rw [if_pos e0] at h2
        exact fin_ok h2 hr2 ru
      · rw [if_neg (by rw [e0]; simp)] at h2
        cases mx with
        | true => rw [foldl_maxI, ← e0]; exact fin_ok h2 hr2 rfl
        | false => rw [foldl_minI, ← e0]; exact fin_ok h2 hr2 rfl

/-! ### instances -/
theorem star_all {pos : Pos} {env : Env} : ∀ {es : List Expr}, noStars es = true → (backTo pos (starEach es env)).all (fun z => !z.1) = true
  | [], _ => rfl
  | e :: es, h => by
    simp only [noStars, Bool.and_eq_true] at h
    rw [star_cons h.1]
    show (!false && (backTo pos (starEach es env)).all (fun z => !z.1)) = true
    rw [star_all h.2]
    rfl
theorem meth_wp {M : Model} {A : Around} {E : Value → Shared → Prop} {s : Shared} {o : Expr} {m : Str} {ap pos : Pos} {ys : List Expr} {env : Env} {Q : Value → Shared → Prop} (h1 : plainBase o = true) (h2 : noStars ys = true) (h3 : decide (ys.length < 30) = true) (h4 : (ap.endLine == pos.line) = true)
    (h : wpAny M A (eval o env) (fun ov s1 => wpAny M A (getMethod ov m (do return (← importBound o env).getD true)) (fun fx s2 => wpAny M A (callWith pos fx.1 fx.2 (backTo pos (starEach ys env)) []) Q E s2) E s1) E s) :
    wpAny M A (eval (.Call (.Attribute o m ap) ys [] pos) env) Q E s := by
  have hform : methodCallForm (ys.length + ([] : List Keyword).length) (backTo pos (starEach ys env)) (backToKw pos (keywordEach [] env)) = true := by
    unfold methodCallForm
    rw [star_all h2]
    show (true && true && decide (ys.length + 0 + 0 < 30)) = true
    simpa using h3
  have hpos : methodCallPos true o env ap pos = pure pos := by
    unfold methodCallPos
    rw [h4]
    rfl
  rw [arm_eval_Call, base_of h1]
  refine wpAny_bind (thn h fun ov s1 hm => wpAny_bind (wpAny_standAt ?_))
  unfold methodCall
  rw [hform]
  refine wpAny_bind (wpAny_holding (wpAny_mono (show wpAny M A (calleeOf true o env ov m) _ E s1 from hm) (fun fx s2 hq => ?_) fun _ _ x => x))
  exact wpAny_bind (wpAny_of_eq hpos hq)
theorem cx_false {P : Program} {w : World} {outer : List Env} {H : Hp} {s s' : Shared} {u : Value} (h : L2.CX P w outer H s (fun _ _ _ => False) u s') : False := by
  obtain ⟨_, _, _, _, _, _, _, _, _, _, _, _, hE⟩ := h
  exact hE
theorem fnx_run (C : Ctx X c T F W) {f : Nat} (Gf : FnX X T F f) {pins : List (Addr × Obj)} {σ : L2.St} {M : Mp} {H : Hp} {g : G} {s : Shared} {Q : VK} {us : List Value} {vs : List V} {ds : List D} (I : Inv X pins σ H s) (r : Vals vs us) (hr : HR X.K T M H g) (rv : RDs X.K T M H ds vs)
    (h : wpR X.K T W σ M H (F.call f ds g) (PQ X T Q)) : wpAny (model X.prog X.w) X.A (call (.ref (T.fad f)) us) (EP X pins σ Q) X.xe s := by
  obtain ⟨k, fd, ps, hb, hroom, FN, hlen⟩ := Gf.ok
  have hl : ds.length = ps.length := hlen ds g fun z => by rw [z] at h; exact h
  refine run_fnSD (E := fun σ cls d H' => W cls d σ H') FN (hroom.mono (Nat.le_succ k)) hb .nil (passAt C.tk σ) I r ?_
  exact ⟨by rw [List.append_nil, ← rv.length]; exact hl, M, g, ds, hr, by rw [List.append_nil]; exact rv, wpR.taken h fun _ _ _ q => q⟩
theorem s_fld (C : Ctx X c T F W) {a : LE} {k : Nat} {x : Expr} {n : Str} {pos : Pos} (h1 : plainBase x = true) (h2 : c.knm k = some n) (ha : PE X x (lfE X T W (evE F a))) : PE X (.Attribute x n pos) (lfE X T W (evE F (.fld a k))) := by
  have hn := C.kn k n h2
  subst hn
  refine ⟨fun pins s σ H Q I h => ?_⟩
  obtain ⟨M, s0, g, rs, h⟩ := h
  simp only [evE] at h
  cases ev : evE F a s0 g with
  | st => rw [ev] at h; exact h.elim
  | exc y g1 =>
    rw [ev] at h
    refine (pe_fld ha (base_of h1)).run pins s σ H Q I ⟨M, s0, g, rs, ?_⟩
    rw [ev]; exact h
  | ok d g1 =>
    rw [ev, KN.R.bind_ok] at h
    unfold getF at h
    cases ec : clsOf g1 d with
    | none => rw [ec] at h; exact h.elim
    | some p =>
      obtain ⟨ci, ks, fs⟩ := p
      rw [ec] at h
      simp only at h
      cases eC : F.cls ci with
      | none => rw [eC] at h; exact h.elim
      | some CC =>
        rw [eC] at h
        simp only at h
        have K1 := C.cls ci CC eC
        cases ep : lookN k CC.prs with
        | some f =>
          rw [ep] at h
          simp only at h
          obtain ⟨⟨pa, hp⟩, G⟩ := K1.prs k f ep
          obtain ⟨j, fd, ps, hb, hroom, FN, hlen⟩ := G.ok
          refine (pe_prop (E := fun _ _ _ => False) ha K1.cl hp FN hroom hb .nil (fun _ _ _ _ _ _ _ cx => (cx_false cx).elim) (base_of h1)).run pins s σ H Q I ⟨M, s0, g, rs, ?_⟩
          rw [ev]
          intro M1 H1 e1 hr1 v rv
          obtain ⟨q, dx, fvs, rfl, i1, i2, i3⟩ := rv.inst hr1 ec
          have h' := h.ext e1
          cases eo : F.call f [d] g1 with
          | ok y g2 =>
            rw [eo] at h'
            have hl := hlen [d] g1 (by rw [eo]; simp)
            exact ⟨q, dx, fvs, rfl, i1, hl, M1, g1, [d], hr1, ⟨_, _, rfl, rv, rfl⟩, by rw [eo]; exact h'⟩
          | exc y g2 => rw [eo] at h'; exact h'.elim
          | st => rw [eo] at h'; exact h'.elim
        | none =>
          rw [ep] at h
          simp only at h
          split at h
          · rename_i hk
            refine (pe_fld ha (base_of h1)).run pins s σ H Q I ⟨M, s0, g, rs, ?_⟩
            rw [ev]
            intro M1 H1 e1 hr1 v rv
            obtain ⟨q, dx, fvs, rfl, i1, i2, i3⟩ := rv.inst hr1 ec
            have h' := h.ext e1
            cases ef : fldD ks fs k with
            | none => rw [ef] at h'; exact h'.elim
            | some y =>
              rw [ef] at h'
              obtain ⟨w, w1, w2⟩ := fld_look C.inj i2 i3 ef
              exact ⟨q, _, dx, fvs, w, rfl, i1, K1.cl, K1.fl k hk, w1, fin_ok h' hr1 w2⟩
          · exact h.elim
theorem s_meth (C : Ctx X c T F W) {a : LE} {m : Nat} {n : Str} {es : LEs} {o : Expr} {ys : List Expr} {ap pos : Pos} (h1 : plainBase o = true) (hl : decide (ys.length < 30) = true) (hap : (ap.endLine == pos.line) = true) (h2 : c.knm m = some n) (h0 : ys = [] → es = .nil) (ha : PE X o (lfE X T W (evE F a))) (hk : noStars ys = true) (hes : PA X ys (lfEs X T W (evEs F es))) :
    PE X (.Call (.Attribute o n ap) ys [] pos) (lfE X T W (evE F (.meth a m es))) := by
  have hn := C.kn m n h2
  subst hn
  refine ⟨fun pins s σ H Q I h => ?_⟩
  obtain ⟨M, s0, g, rs, h⟩ := h
  have ht : lfE X T W (evE F a) σ H fun v H1 => ∃ M1 g1 x, RS X.K T M1 H1 g1 s0 σ ∧ RD X.K T M1 H1 x v ∧ wpR X.K T W σ M1 H1 ((oR (methD F g1 x m) g1).bind fun f g => (evEs F es s0 g).bind fun xs g => F.call f (x :: xs) g) (PQ X T Q) :=
    ⟨M, s0, g, rs, wpR.bind (by simpa only [evE] using h) fun x M1 H1 g1 e1 hr1 h1 v rv => ⟨M1, g1, x, rs.ext e1 hr1, rv, h1⟩⟩
  refine meth_wp h1 hk hl hap (thn (ha.run pins s σ H _ I ht) fun u s1 ⟨xv, H1, I1, rx, M1, g1, x, rs1, rv1, h1⟩ => ?_)
  unfold methD at h1
  cases ec : clsOf g1 x with
  | none => rw [ec] at h1; exact h1.elim
  | some p =>
    obtain ⟨ci, ks, fs⟩ := p
    rw [ec] at h1
    simp only at h1
    obtain ⟨q, dx, fvs, rfl, i1, i2, i3⟩ := rv1.inst rs1.hr ec
    obtain rfl : u = Value.ref q := rx
    cases hc : ks.contains m with
    | true => rw [hc, if_pos rfl] at h1; exact h1.elim
    | false =>
      rw [hc, if_neg Bool.false_ne_true] at h1
      cases eC : F.cls ci with
      | none => rw [eC] at h1; exact h1.elim
      | some CC =>
        rw [eC, Option.bind_some] at h1
        cases em : lookN m CC.ms with
        | none => rw [em] at h1; exact h1.elim
        | some f =>
          rw [em, oR_some, KN.R.bind_ok] at h1
          have K1 := C.cls ci CC eC
          obtain ⟨hm, G⟩ := K1.ms m f em
          refine getmeth_ok I1 i1 K1.cl hm (fld_none C.inj i2 hc) ?_
          cases ys with
          | nil =>
            have e0 := h0 rfl
            subst e0
            simp only [evEs, KN.R.bind_ok] at h1
            refine PySem.W.callWith_K0 (first := [.ref q]) I1.kIn hm.kp ?_
            exact fnx_run C G I1 (us := [.ref q]) (vs := [.ref q]) (.cons rfl .nil) rs1.hr (ds := [x]) ⟨_, _, rfl, rv1, rfl⟩ h1
          | cons y yt =>
            simp only [noStars, Bool.and_eq_true] at hk
            have ht2 : lfEs X T W (evEs F es) σ H1 fun vs H2 => ∃ M2 g2 ds, HR X.K T M2 H2 g2 ∧ RDs X.K T M2 H2 ds vs ∧ RD X.K T M2 H2 x (.ref q) ∧ wpR X.K T W σ M2 H2 (F.call f (x :: ds) g2) (PQ X T Q) :=
              ⟨M1, s0, g1, rs1, h1.bind fun ds M2 H2 g2 e2 hr2 h2 vs rvs => ⟨M2, g2, ds, hr2, rvs, RD.ext e2 _ _ rv1, h2⟩⟩
            refine PySem.W.callWith_K (first := [.ref q]) (h₀ := X.base) I.ok.mod.kin hm.kp (thn (hes.run pos pins s1 σ H1 _ I1 ht2) fun us s2 ⟨vs, H2, I2, r2, M2, g2, ds, hr2, rvs, rx2, h2⟩ => ⟨I2.kIn, ?_⟩) (star_cons hk.1) (star_any hk.2)
            exact fnx_run C G I2 (us := .ref q :: us) (vs := .ref q :: vs) (.cons rfl r2) hr2 (ds := x :: ds) ⟨_, _, rfl, rx2, rvs⟩ h2
/-! ### isinstance -/
def tyT : Ty → String
  | .int => "int" | .bool => "bool" | .str => "str" | .list => "list" | .tuple => "tuple"
def tgS : Tg → String
  | .non => "NoneType" | .bl => "bool" | .int => "int" | .str => "str" | .lst => "list" | .tup => "tuple"
theorem kit_tag (y : Ty) (t : Tg) : kitB (tgS t) (tyT y) = some (isTag y t) := by cases y <;> cases t <;> decide +kernel
theorem kits_tag {K : PySem.W.Frag} (t : Tg) : ∀ ts : List Ty, PySem.W.kitAny K (.type (tgS t)) (ts.map fun y => .type (tyT y)) = some (ts.any fun y => isTag y t)
  | [] => kitAny_nil
  | y :: ts => by
    refine kitAny_cons (b := isTag y t) (kit_ty (kit_tag y t)) (fun e => ?_) fun e => by simp [e]
    rw [List.any_cons, e, Bool.false_or]
    exact kits_tag t ts
theorem tag_of {M : Mp} {H : Hp} {g : G} (hr : HR X.K T M H g) {d : D} {v : V} {t : Tg} (h : RD X.K T M H d v) (e : tagD (view g d) = some t) : TyX X.K H v (.type (tgS t)) := by
  cases ev : view g d <;> rw [ev] at e <;> first
    | (cases e; done)
    | skip
  · cases e; cases h.vnon hr ev; exact .base .non
  · cases e; cases h.vbl hr ev; exact .base (.bl _)
  · cases e; cases h.vint hr ev; exact .base (.int _)
  · cases e; cases h.vstr hr ev; exact .base (.str _)
  · cases e
    obtain ⟨p, vs, rfl, p1, p2, p3⟩ := h.vtup hr ev
    rcases p1 with (p1 | ⟨o, p1⟩) | ⟨o, its, n, k1, k2, _⟩
    · exact .base (.tup p1)
    · exact .fTuple p1
    · exact .kTuple k1 k2
  · cases e
    obtain ⟨p, vs, rfl, p1, p2, p3⟩ := h.vlst hr ev
    exact .base (.lst p1)
theorem nm_ty (C : Ctx X c T F W) {t : Ty} {e : Expr} (h : kNm c (tyN t) e = true) : PE X e (tC (.ty (tyT t))) := by
  unfold kNm at h
  split at h
  · rename_i y p
    simp only [Bool.and_eq_true, decide_eq_true_eq] at h
    obtain ⟨⟨rfl, h2⟩, h3⟩ := h
    obtain ⟨d1, d2, d3⟩ := dbg_of h3
    exact pe_bltn (u := .type (tyT t)) (gl_of C h2) (C.bl _ (by cases t <;> decide)) (by cases t <;> decide +kernel) rfl d3 d1
  · cases h
def tTys (ts : List Ty) : TA := fun _ H Q => Q (ts.map fun y => .ty (tyT y)) H
theorem nm_tys (C : Ctx X c T F W) : ∀ {ts : List Ty} {es : List Expr}, kTyL c ts es = true → PA X es (tTys ts)
  | [], [], _ => pa_nil.via fun σ H Q h => h
  | t :: ts, e :: es, h => by
    simp only [kTyL, Bool.and_eq_true] at h
    exact (pa_cons (nm_ty C h.1.1) (nm_tys C h.2) (star_cons h.1.2)).via fun σ H Q h => h
  | [], _ :: _, h => by simp [kTyL] at h
  | _ :: _, [], h => by simp [kTyL] at h
theorem cls_all : ∀ ts : List Ty, Paired ClsV (ts.map fun y => V.ty (tyT y)) (ts.map fun y => Value.type (tyT y))
  | [] => .nil
  | t :: ts => .cons (.ty _) (cls_all ts)
theorem isi_fin {M : Mp} {H : Hp} {g : G} {σ : L2.St} {x : D} {v : V} {ts : List Ty} {Q : VK} (hr : HR X.K T M H g) (rv : RD X.K T M H x v) (h : wpR X.K T W σ M H ((oR (isTys g x ts) g).bind fun k g => .ok (.bl k) g) (PQ X T Q)) :
    ∃ t, TyX X.K H v (.type (tgS t)) ∧ PySem.W.kitAny X.K (.type (tgS t)) (ts.map fun y => .type (tyT y)) = some (ts.any fun y => isTag y t) ∧ ∀ M' H', Ext M H M' H' → HR X.K T M' H' g → Q (.bl (ts.any fun y => isTag y t)) H' := by
  unfold isTys at h
  cases e : tagD (view g x) with
  | none => rw [e] at h; exact h.elim
  | some t =>
    rw [e] at h
    exact ⟨t, tag_of hr rv e, kits_tag t ts, fun M' H' e' hr' => (show wpR X.K T W σ M H (R.ok (D.bl (ts.any fun y => isTag y t)) g) (PQ X T Q) from h) M' H' e' hr' _ rfl⟩
theorem s_isi (C : Ctx X c T F W) {a : LE} {ts : List Ty} {y t : Expr} {p pos : Pos} (hg : glB c.sc ("isinstance" : Str) = true) (hy : noStar y = true) (ht : kTy c ts t = true) (ha : PE X y (lfE X T W (evE F a))) :
    PE X (.Call (.Name "isinstance" p) [y, t] [] pos) (lfE X T W (evE F (.isi a ts))) := by
  have hm : X.mg ("isinstance" : Str) = none := C.bl _ (by decide)
  have hb : bootBuiltins ("isinstance" : Str) = some (.builtin "isinstance") := by decide +kernel
  unfold kTy at ht
  split at ht
  · rename_i t0 z pz
    refine (pe_callB call_isi (gl_of C hg) hm hb (pa_cons ha (pa_cons (nm_ty C ht) pa_nil) (star_cons hy)) (by decide +kernel) (by decide +kernel) (star_cons hy) rfl).via fun σ H Q h => ?_
    obtain ⟨M, s, g, rs, h⟩ := h
    refine ⟨M, s, g, rs, wpR.bind (by simpa only [evE] using h) fun x M1 H1 g1 e1 hr1 h1 v rv => ?_⟩
    obtain ⟨tg, q1, q2, q3⟩ := isi_fin hr1 rv h1
    refine ⟨v, .ty (tyT t0), _, _, _, rfl, .ty _, q1, ?_, q3 M1 H1 (Ext.refl _ _) hr1⟩
    rw [List.any_cons, List.any_nil, Bool.or_false]
    exact kit_ty (kit_tag t0 tg)
  · rename_i es kk pz
    simp only [Bool.and_eq_true, decide_eq_true_eq] at ht
    obtain ⟨hl, ht⟩ := ht
    refine (pe_callB call_isiT (gl_of C hg) hm hb (pa_cons ha (pa_cons (pe_tup (nm_tys C ht)) pa_nil) (star_cons hy)) (by decide +kernel) (by decide +kernel) (star_cons hy) rfl).via fun σ H Q h => ?_
    obtain ⟨M, s, g, rs, h⟩ := h
    refine ⟨M, s, g, rs, wpR.bind (by simpa only [evE] using h) fun x M1 H1 g1 e1 hr1 h1 v rv => ?_⟩
    refine ⟨by rw [List.length_map, sizeLine_eq]; omega, fun p hp => ?_⟩
    obtain ⟨tg, q1, q2, q3⟩ := isi_fin (hr1.new (o := .tup (ts.map fun y => .ty (tyT y))) hp) (RD.ext (Ext.new hp) _ _ rv) (h1.ext (Ext.new hp))
    exact ⟨v, p, _, _, _, _, rfl, upd_same, cls_all ts, q1, q2, q3 _ _ (Ext.refl _ _) (hr1.new hp)⟩
  · cases ht
end
end KN

namespace KN
open PySem PySem.Spec PyProof.Rows L2
section
variable {X : Cx} {c : Ck} {T : Tb} {F : Fn} {W : WX}
theorem made_hr {M : Mp} {H : Hp} {g : G} {ci : Nat} {x dx : Addr} (hr : HR X.K T M H g) (hx : H x = none) (hdx : H dx = none) (hne : dx ≠ x) :
    Ext M H ⟨M.m ++ [x], M.b⟩ (upd (upd H dx (.own x)) x (.ins (T.cad ci) dx [])) ∧ HR X.K T ⟨M.m ++ [x], M.b⟩ (upd (upd H dx (.own x)) x (.ins (T.cad ci) dx [])) (g ++ [.ins ci [] []]) := by
  have hr1 : HR X.K T M (upd H dx (.own x)) g := hr.new hdx
  have hx1 : upd H dx (.own x) x = none := by rw [upd_ne (Ne.symm hne)]; exact hx
  exact ⟨(Ext.new hdx).trans (Ext.newRef hx1), hr1.newRef hx1 ⟨dx, [], upd_same, rfl, rfl⟩⟩
theorem run_new (C : Ctx X c T F W) {ci : Nat} {CC : LCl} (eC : F.cls ci = some CC) {mu : Bool} {pins : List (Addr × Obj)} {σ : L2.St} {M : Mp} {H : Hp} {g : G} {s : Shared} {Q : VK} {us : List Value} {vs : List V} {ds : List D} (I : Inv X pins σ H s) (r : Vals vs us) (hr : HR X.K T M H g) (rv : RDs X.K T M H ds vs)
    (h : wpR X.K T W σ M H (newD F mu ci ds g) (PQ X T Q)) : wpAny (model X.prog X.w) X.A (call (.ref (T.cad ci)) us) (EP X pins σ Q) X.xe s := by
  have K1 := C.cls ci CC eC
  obtain ⟨k, fd, ps, hb, hroom, FN, hlen⟩ := K1.ini.ok
  have hx := I.hok.fresh (Nat.le_succ s.heap.objs.size)
  have hdx := I.hok.fresh (Nat.le_refl s.heap.objs.size)
  have hne : s.heap.objs.size ≠ s.heap.objs.size + 1 := Nat.ne_of_lt (Nat.lt_succ_self _)
  obtain ⟨e1, hr1⟩ := made_hr (ci := ci) hr hx hdx hne
  have I2 := Inv.made (C := T.cad ci) I
  have rds2 : RDs X.K T ⟨M.m ++ [s.heap.objs.size + 1], M.b⟩ (upd (upd H s.heap.objs.size (.own (s.heap.objs.size + 1))) (s.heap.objs.size + 1) (.ins (T.cad ci) s.heap.objs.size [])) (.ref g.length :: ds) (.ref (s.heap.objs.size + 1) :: vs) :=
    ⟨_, _, rfl, ⟨s.heap.objs.size + 1, by rw [← hr.len]; simp, rfl⟩, RDs.ext e1 _ _ rv⟩
  unfold newD at h
  rw [eC] at h
  simp only at h
  have hl : (D.ref g.length :: ds).length = ps.length := hlen (.ref g.length :: ds) (g ++ [.ins ci [] []]) fun z => by rw [z] at h; exact h
  have r2 : Vals (V.ref (s.heap.objs.size + 1) :: vs) (Value.ref (s.heap.objs.size + 1) :: us) := .cons rfl r
  have hl2 : (V.ref (s.heap.objs.size + 1) :: vs).length = ps.length := by rw [← hl]; simp [rv.length]
  have hl3 : (Value.ref (s.heap.objs.size + 1) :: us).length = ps.length := by rw [← r2.length]; exact hl2
  have hq : spF X.K T (F.call CC.ini) ps.length (V.ref (s.heap.objs.size + 1) :: vs) (upd (upd H s.heap.objs.size (.own (s.heap.objs.size + 1))) (s.heap.objs.size + 1) (.ins (T.cad ci) s.heap.objs.size [])) (fun v H2 => v = .non ∧ Q (.ref (s.heap.objs.size + 1)) H2) (fun cls d H' => W cls d σ H') := by
    refine ⟨hl2, _, _, _, hr1, rds2, ?_⟩
    cases eo : F.call CC.ini (.ref g.length :: ds) (g ++ [.ins ci [] []]) with
    | st => rw [eo] at h; exact h
    | ok d g' =>
      rw [eo] at h
      cases d <;> try exact h.elim
      intro M' H' e' hr' v rv'
      have ev : v = .non := by unfold RD at rv'; exact rv'
      refine ⟨ev, ?_⟩
      have rself : RD X.K T M' H' (.ref g.length) (.ref (s.heap.objs.size + 1)) := RD.ext e' _ _ ⟨s.heap.objs.size + 1, by rw [← hr.len]; simp, rfl⟩
      exact exit_ok hr (e1.trans e') hr' rself h
    | exc y g' =>
      rw [eo] at h
      intro M' H' cls dd e' hr' rx
      exact exitX_ok (W := W) (σ := σ) hr (e1.trans e') hr' rx h
  refine wpAny_call (make_map (f := T.fad CC.ini) I.kIn K1.mkc.makes K1.mkc.init (beq_iff_eq.mp K1.mkc.fn) (codeAny_mono (FN.run _ X.stack _ _ ⟨Value.ref (s.heap.objs.size + 1) :: us, []⟩ (Value.ref (s.heap.objs.size + 1) :: us) _ _ _ (hroom.make (T.cad ci) us [])
    (I2.env0.make (T.cad ci) us []) (by have b := hb _ (Value.ref (s.heap.objs.size + 1) :: us) I2.kIn (by rw [List.append_nil]; exact hl3); rwa [List.append_nil] at b) r2 hq) fun r s' hq' => ?_))
  cases r with
  | error e => exact passAt C.tk σ pins _ _ e s' I2 hq'
  | ok fl =>
    cases fl with
    | ret u =>
      obtain ⟨v, H', I3, rv', ev, q3⟩ := I2.after hq'
      subst ev
      exact ⟨rv', ⟨V.ref (s.heap.objs.size + 1), H', I3, rfl, q3⟩⟩
    | next => exact False.elim hq'
    | brk => exact False.elim hq'
    | cont => exact False.elim hq'
theorem s_new (C : Ctx X c T F W) {mu : Bool} {ci : Nat} {x : Str} {es : LEs} {ys : List Expr} {p pos : Pos} (h1 : c.clnm ci = some x) (hg : glB c.sc x = true) (hd : dbgB x = true) (h0 : ys = [] → es = .nil) (hk : noStars ys = true) (hes : PA X ys (lfEs X T W (evEs F es))) :
    PE X (.Call (.Name x p) ys [] pos) (lfE X T W (evE F (.new mu ci es))) := by
  obtain ⟨hm, hkp⟩ := C.cln ci x h1
  refine ⟨fun pins s σ H Q I h => ?_⟩
  obtain ⟨M, s0, g, rs, h⟩ := h
  have ht : lfEs X T W (evEs F es) σ H fun vs H2 => ∃ M2 g2 ds, HR X.K T M2 H2 g2 ∧ RDs X.K T M2 H2 ds vs ∧ wpR X.K T W σ M2 H2 (newD F mu ci ds g2) (PQ X T Q) :=
    ⟨M, s0, g, rs, wpR.bind (by simpa only [evE] using h) fun ds M2 H2 g2 e2 hr2 h2 vs rvs => ⟨M2, g2, ds, hr2, rvs, h2⟩⟩
  have hcls : ∀ {M2 : Mp} {H2 : Hp} {g2 : G} {ds : List D}, wpR X.K T W σ M2 H2 (newD F mu ci ds g2) (PQ X T Q) → ∃ CC, F.cls ci = some CC := fun {M2 H2 g2 ds} z => by
    unfold newD at z
    cases eC : F.cls ci with
    | none => rw [eC] at z; exact z.elim
    | some CC => exact ⟨CC, rfl⟩
  refine wpAny_Call_Name_kw (ld_glob I (gl_of C hg) hm ?_ (dbg_of hd).1)
  cases ys with
  | nil =>
    have e0 := h0 rfl
    subst e0
    obtain ⟨M1, s1, g1, rs1, hh⟩ := ht
    simp only [evEs] at hh
    obtain ⟨M2, g2, ds, hr2, rvs, h2⟩ := hh.at rs1.hr [] rfl
    obtain ⟨CC, eC⟩ := hcls h2
    exact PySem.W.callWith_K0 I.kIn (C.cls ci CC eC).mkc.kp (run_new C eC (us := []) I .nil hr2 rvs h2)
  | cons y yt =>
    simp only [noStars, Bool.and_eq_true] at hk
    refine PySem.W.callWith_K (h₀ := X.base) I.ok.mod.kin hkp (thn (hes.run pos pins s σ H _ I ht) fun us s2 ⟨vs, H2, I2, r2, M2, g2, ds, hr2, rvs, h2⟩ => ⟨I2.kIn, ?_⟩) (star_cons hk.1) (star_any hk.2)
    obtain ⟨CC, eC⟩ := hcls h2
    exact run_new C eC I2 r2 hr2 rvs h2
end
end KN

namespace KN
open PySem PySem.Spec PyProof.Rows L2
section
variable {X : Cx} {c : Ck} {T : Tb} {F : Fn} {W : WX}
theorem RDs.reverse {K : PySem.W.Frag} {M : Mp} {H : Hp} : ∀ {ds : List D} {vs : List V}, RDs K T M H ds vs → RDs K T M H ds.reverse vs.reverse
  | [], vs, h => by cases h; rfl
  | d :: ds, vs, h => by
    obtain ⟨v, r, rfl, h1, h2⟩ := h
    rw [List.reverse_cons, List.reverse_cons]
    exact (RDs.reverse h2).append ⟨v, [], rfl, h1, rfl⟩
theorem s_rev {a : LE} {x : Expr} {k : Nat} {p1 p2 p3 pos : Pos} (ha : PE X x (lfE X T W (evE F a))) : PE X (.Subscript x (.Slice none none (some (.UnaryOp .USub (.Constant (.int 1) k p1) p2)) p3) pos) (lfE X T W (evE F (.rev a))) := by
  refine (pe_revL ha).via fun σ H Q h => ?_
  obtain ⟨M, s, g, rs, h⟩ := h
  refine ⟨M, s, g, rs, wpR.bind (by simpa only [evE] using h) fun d M1 H1 g1 e1 hr1 h1 v rv => ?_⟩
  unfold revD at h1
  split at h1
  · rename_i xs ev
    obtain ⟨p, vs, rfl, q1, q2, q3⟩ := rv.vlst hr1 ev
    refine ⟨p, vs, rfl, .inl (.inl q1), fun q hq => new_ok h1 hr1 hq (RD.new_lst hr1 hq ?_ (by rw [List.length_reverse]; exact q2))⟩
    exact RDs.reverse q3
  · exact h1.elim
theorem s_mlist (C : Ctx X c T F W) {a : LE} {y : Expr} {p pos : Pos} (hg : glB c.sc ("list" : Str) = true) (hy : noStar y = true) (ha : PE X y (lfE X T W (evE F a))) : PE X (.Call (.Name "list" p) [y] [] pos) (lfE X T W (evE F (.mlist a))) := by
  have hm : X.mg ("list" : Str) = none := C.bl _ (by decide)
  refine (pe_callTy (bi_rule (X := X) C.calm C.hu .list) (gl_of C hg) hm (by decide +kernel) (pa_cons ha pa_nil (star_cons hy)) (by decide +kernel) (by decide +kernel) (star_cons hy) (by rfl)).via fun σ H Q h => ?_
  obtain ⟨M, s, g, rs, h⟩ := h
  refine ⟨M, s, g, rs, wpR.bind (by simpa only [evE] using h) fun d M1 H1 g1 e1 hr1 h1 v rv => ?_⟩
  cases es : seqOf g1 d with
  | none => rw [es] at h1; exact h1.elim
  | some xs =>
    rw [es] at h1
    obtain ⟨b, q, vs, rfl, p1, p2, p3⟩ := rv.vseq hr1 es
    refine .inl ⟨q, vs, rfl, ?_, (mk_ok hr1 p3 h1).2⟩
    cases b with
    | true => exact .inr p1
    | false => exact .inl p1
theorem s_sset (C : Ctx X c T F W) {a : LE} {y : Expr} {n1 n2 p2 p3 : Pos} (h1 : glB c.sc ("sorted" : Str) = true) (h2 : glB c.sc ("set" : Str) = true) (hy : noStar y = true) (ha : PE X y (lfE X T W (evE F a))) :
    PE X (.Call (.Name "sorted" n1) [.Call (.Name "set" n2) [y] [] p2] [] p3) (lfE X T W (evE F (.sset a))) := by
  have m1 : X.mg ("sorted" : Str) = none := C.bl _ (by decide)
  have m2 : X.mg ("set" : Str) = none := C.bl _ (by decide)
  have inner := pe_callTy (p := n2) (pos := p2) (cr_setI C.calm) (gl_of C h2) m2 (by decide +kernel) (pa_cons ha pa_nil (star_cons hy)) (by decide +kernel) (by decide +kernel) (star_cons hy) (by rfl)
  refine (pe_callB (p := n1) (pos := p3) (cr_sortedSet C.calm) (gl_of C h1) m1 (by decide +kernel) (pa_cons inner pa_nil rfl) (by decide +kernel) (by decide +kernel) rfl rfl).via fun σ H Q h => ?_
  obtain ⟨M, s, g, rs, h⟩ := h
  refine ⟨M, s, g, rs, wpR.bind (by simpa only [evE] using h) fun d M1 H1 g1 e1 hr1 h1 v rv => ?_⟩
  unfold ssetD at h1
  cases es : seqOf g1 d with
  | none => rw [es] at h1; exact h1.elim
  | some xs =>
  rw [es] at h1
  simp only [Option.bind_some] at h1
  cases en : intsD xs with
  | none => rw [en] at h1; exact h1.elim
  | some ns =>
  rw [en] at h1
  simp only [Option.bind_some] at h1
  split at h1
  · rename_i hl
    obtain ⟨b, p, vs, rfl, q1, q2, q3⟩ := rv.vseq hr1 es
    have hv := RDs.of_ints en q3
    subst hv
    refine ⟨b, p, ns, rfl, q1, hl, fun q k hq hk => ?_⟩
    have hr2 : HR X.K T M1 (upd H1 q (SetO X.w q (fun j => decide (j ∈ ns)) k)) g1 := hr1.new hq
    refine ⟨q, _, k, rfl, upd_same, by omega, fun out r ho hm hl' hr0 => ?_⟩
    have e : out = sortI ns.eraseDups := rise_eq ho (sset_rise ns).1 fun z => by rw [hm, (sset_rise ns).2]; simp
    subst e
    have ln : (sortI ns.eraseDups).length ≤ LIM := by rw [lim_is]; omega
    refine (wpR.ext h1 (Ext.new hq)) M1 _ (Ext.new hr0) (hr2.new hr0) _ (RD.new_lst hr2 hr0 RDs.ints (by rw [List.length_map]; exact ln))
  · exact h1.elim

/-! ### sorted(xs, key=lambda) -/
theorem key_len {st : KN.St} {y : D} : ∀ {ks : List KX} {is : List Int}, keyOf st y ks = some is → is.length = ks.length
  | [], is, h => by cases h; rfl
  | k :: ks, is, h => by
    simp only [keyOf] at h
    split at h
    · rename_i i js e1 e2
      cases h
      simp [key_len e2]
    · cases h
/-- an item that is to be sorted -/
def KIt (X : Cx) (T : Tb) (M : Mp) (H : Hp) (h : Heap) (st : KN.St) (ks : List KX) (u : Value) (b : List Int × D) : Prop := ∃ v, RelV v u ∧ RD X.K T M H b.2 v ∧ RwD h b.2 u ∧ keyOf st b.2 ks = some b.1
theorem kit_all {M : Mp} {H : Hp} {h : Heap} {st : KN.St} {ks : List KX} : ∀ {xs : List D} {vs : List V} {us : List Value} {q : List (List Int × D)}, RDs X.K T M H xs vs → Vals vs us → RwDs h xs us → keyAll st ks xs = some q → PySem.W.EachIs (KIt X T M H h st ks) us q
  | [], vs, us, q, h1, h2, h3, e => by
    cases h1
    cases h2
    cases e
    exact .nil
  | x :: xs, vs, us, q, h1, h2, h3, e => by
    obtain ⟨v, r, rfl, a1, a2⟩ := h1
    cases h2 with
    | @cons _ u _ ur r1 r2 =>
    obtain ⟨u', r', e1, b1, b2⟩ := h3
    simp only [List.cons.injEq] at e1
    obtain ⟨rfl, rfl⟩ := e1
    simp only [keyAll] at e
    split at e
    · rename_i k q' e2 e3
      cases e
      exact .cons ⟨v, r1, a1, b1, e2⟩ (kit_all a2 r2 b2 e3)
    · cases e
theorem kit_back {M : Mp} {H : Hp} {h : Heap} {st : KN.St} {ks : List KX} : ∀ {us : List Value} {q : List (List Int × D)}, PySem.W.EachIs (KIt X T M H h st ks) us q → ∃ vs, Vals vs us ∧ RDs X.K T M H (q.map (·.2)) vs
  | _, _, .nil => ⟨[], .nil, rfl⟩
  | _, _, .cons ⟨v, r1, a1, _, _⟩ t => by
    obtain ⟨vs, h1, h2⟩ := kit_back t
    exact ⟨v :: vs, .cons r1 h1, v, vs, rfl, a1, h2⟩
theorem kit_len {M : Mp} {H : Hp} {h : Heap} {st : KN.St} {ks : List KX} : ∀ {us : List Value} {q : List (List Int × D)}, PySem.W.EachIs (KIt X T M H h st ks) us q → ∀ b ∈ q, b.1.length = ks.length
  | _, _, .nil, b, hb => by cases hb
  | _, _, .cons ⟨v, r1, a1, _, k⟩ t, b, hb => by
    rcases List.mem_cons.mp hb with rfl | hb
    · exact key_len k
    · exact kit_len t b hb
theorem kdat_alike {tu : Bool} {n : Nat} {q : List (List Int × D)} (h : ∀ b ∈ q, b.1.length = n) : PySem.W.AllAlike (q.map fun b => kdat tu b.1) := by
  intro d hd d' hd'
  obtain ⟨b, hb, rfl⟩ := List.mem_map.mp hd
  obtain ⟨b', hb', rfl⟩ := List.mem_map.mp hd'
  cases tu with
  | true => exact KM.alike_rows b.1 b'.1 (by rw [h b hb, h b' hb'])
  | false => rfl
theorem kdat_sortable {tu : Bool} {n : Nat} {q : List (List Int × D)} (h : ∀ b ∈ q, b.1.length = n) (hn : tu = true → 0 < n) : PySem.W.Sortable (q.map fun b => kdat tu b.1) := by
  cases tu with
  | true =>
    refine .inl fun d hd => ?_
    obtain ⟨b, hb, rfl⟩ := List.mem_map.mp hd
    have := h b hb
    have hn := hn rfl
    cases e : b.1 with
    | nil => rw [e] at this; simp at this; omega
    | cons i r => exact ⟨.int i, r.map .int, by unfold kdat; rw [if_pos rfl]; rfl⟩
  | false =>
    refine .inr fun d hd => ?_
    obtain ⟨b, hb, rfl⟩ := List.mem_map.mp hd
    exact ⟨fun z => (by simp only [kdat] at z; cases z), fun xs z => (by simp only [kdat] at z; cases z)⟩
theorem kdat_depth (tu : Bool) (is : List Int) : (kdat tu is).depth ≤ 1 := by
  cases tu with
  | true => exact KM.depth_row is
  | false => exact Nat.le_succ_of_le (Nat.le_refl _)
theorem kdat_le (tu : Bool) : PySem.W.dataLe false (fun b : List Int × D => kdat tu b.1) = kle tu := by
  cases tu with
  | true =>
    funext a b
    exact congrFun (congrFun KM.dataLe_rowsT a.1) b.1
  | false =>
    exact PySem.W.dataLe_int (fun b : List Int × D => b.1.headD 0)
theorem s_skey (C : Ctx X c T F W) {tu : Bool} {a : LE} {ks : List KX} {x body : Expr} {scope : Scope} {p : Str} {np ap lp kp pos : Pos} (hg : glB c.sc ("sorted" : Str) = true) (hx : noStar x = true) (hl : c.lam = true) (hs : lam1B c.sc scope p = true)
    (hk : kKey c.N scope p tu ks body = true) (ha : PE X x (lfE X T W (evE F a))) :
    PE X (.Call (.Name "sorted" np) [x] [⟨some "key", .Lambda (prm1 p ap) body scope lp, kp⟩] pos) (lfE X T W (evE F (.skey tu a ks))) := by
  have m1 : X.mg ("sorted" : Str) = none := C.bl _ (by decide)
  have L : Lam1 X.env.scope scope p := by rw [C.sc]; exact lam1_by hs
  obtain ⟨cc, Pt, hcode, TB, hm, hu⟩ := C.lam hl
  refine ⟨fun pins s σ H Q I h => ?_⟩
  obtain ⟨M, st, g, rs, h⟩ := h
  refine wpAny_Call_Name_kw (ld_blt (u := .builtin "sorted") I (gl_of C hg) m1 (by decide +kernel) ?_ (by decide +kernel) (by decide +kernel))
  have hpa := (pa_cons ha pa_nil (star_cons hx)).run pos pins s σ H (fun vs H1 => ∃ M1 g1 d v, vs = [v] ∧ Ext M H M1 H1 ∧ HR X.K T M1 H1 g1 ∧ RD X.K T M1 H1 d v ∧ wpR X.K T W σ M1 H1 (oR (skeyD tu g1 st ks d) g1) (PQ X T Q)) I
    ⟨M, st, g, rs, wpR.bind (by simpa only [evE] using h) fun d M1 H1 g1 e1 hr1 h1 v rv => ⟨M1, g1, d, v, rfl, e1, hr1, rv, h1⟩⟩
  refine PyProof.Rows.callWith_kw (thn hpa fun us s1 ⟨vs, H1, I1, r1, q1⟩ => ?_) (by rw [star_cons hx]; rfl) (by rw [star_cons hx]; rfl) rfl rfl
  obtain ⟨M1, g1, d, v, rfl, e1, hr1, rv, h1⟩ := q1
  have hfree : ∀ y ∈ scope.names, y.2 = .free → ∃ c, X.env.cells.lookup y.1 = some c := fun y hy e => by
    rcases L.free y hy e with k | k
    · exact I1.ok.has _ (.inl k)
    · exact I1.ok.has _ (.inr k)
  show wpAny _ _ (evalAll [(do let v ← eval (.Lambda (prm1 p ap) body scope lp) X.env; standAt pos; pure v)]) _ _ s1
  refine wpAny_evalAll_cons (wpAny_bind (LamX.lam_make2 I1 TB hcode hm hu hr1.tb rfl hfree fun f c' pm ctv H2 s2 I2 hE hT2 ho nf nfr hc' => wpAny_bind (wpAny_standAt (wpAny_pure (wpAny_evalAll_nil ?_)))))
  have e2 : Ext M1 H1 M1 H2 := ⟨fun _ h => h, fun _ h => .inl h, List.prefix_refl _, fun q o e _ nt => hE q o e nt, fun _ h => .inl h⟩
  have hr2 : HR X.K T M1 H2 g1 := by
    refine ⟨hr1.len, hr1.nd, fun a o q z1 z2 => ?_, fun q hq => ?_, hr1.ap, hT2⟩
    · obtain ⟨u0, k1, k2, _⟩ := (hr1.ob a o q z1 z2).kind
      exact RO.ext e2 ((hE q u0 k1 k2).trans k1.symm) (hr1.ob a o q z1 z2)
    · obtain ⟨o, z, zt⟩ := hr1.th q hq
      exact ⟨o, hE q o z zt, zt⟩
  unfold skeyD at h1
  cases hv : view g1 d with
  | lst xs =>
    rw [hv] at h1
    cases hq : keyAll st ks xs with
    | none => simp only [hq, Option.map_none] at h1; exact h1.elim
    | some q =>
    simp only [hq, Option.map_some] at h1
    obtain ⟨lp, ws, rfl, k1, k2, k3⟩ := (RD.ext e2 _ _ rv).vlst hr2 hv
    have hu1 : us = [.ref lp] := Vals.ref1 r1
    subst hu1
    obtain ⟨its, rv2, pl, hz⟩ := I2.list (.inl (.inl k1))
    have kit := kit_all (X := X) (T := T) (M := M1) (H := H2) (h := s2.heap) (st := st) (ks := ks) k3 rv2 (rws_of I2 _ _ _ k3 rv2) hq
    have hlen := kit_len kit
    have hcd : s2.heap.CodeRec (.ref c') (X.env.qual ++ "<lambda>") := by
      obtain ⟨⟨oc, vs, t, hoc, hdc, hvc⟩, _, _⟩ := I2.hok c' _ hc'
      exact ⟨c', oc, vs, t, rfl, hoc, hdc, hvc⟩
    have hk0 : tu = true → 0 < ks.length := fun e => by
      subst e
      cases body with
      | Tuple es kk pos =>
        simp only [kKey, Bool.and_eq_true, Bool.not_eq_true'] at hk
        cases ks with
        | nil => simp at hk
        | cons _ _ => simp
      | _ => exact absurd hk Bool.false_ne_true
    have rs2 : RS X.K T M1 H2 g1 st σ := rs.ext (e1.trans e2) hr2
    have hq2 : q.length ≤ sizeLine := by rw [← kit.length, ← rv2.length]; exact hz
    refine PySem.W.sorted_key_data (R := KIt X T M1 H2 s2.heap st ks) (bs := q) (vs := its) (f := .ref f) (b := false) (fun b : List Int × D => kdat tu b.1) pl.isList kit (kdat_alike hlen) (kdat_sortable hlen hk0) hq2 (fun b _ => by have := kdat_depth tu b.1; have := C.hu; omega) (PyProof.Rows.ksk_s1 _ _) (fun _ => PyProof.Rows.ksk_l1 _ _) (fun _ => PyProof.Rows.ksk_t1 _ _) ?turn ?fin
    case turn =>
      intro v b hR hb h tk kp
      obtain ⟨vv, r, rd, rw1, ek⟩ := hR
      refine lam_call (s := { s2 with heap := h, toks := tk }) (N := c.N) L C.dp (I2.nolimit.keeps kp) (kp _ _ ho) (hcd.keeps kp) hk ek (RwD.keeps kp _ _ rw1) fun i d x z1 z2 z3 => ?_
      obtain ⟨v', q1, q2⟩ := rs2.sl i d z1
      obtain ⟨m, hn, hl⟩ := I2.loc
      have hfr := L.free _ (PySem.mem_of_lookup z3) rfl
      have hvis : Vis X.env.scope x := hfr.elim (fun k => .inr (.inl k)) (fun k => .inr (.inr k))
      obtain ⟨u', r', lk⟩ := hl i x v' (by rw [C.hN]; exact z2) q1 hvis
      have cm : ∀ {y c}, (cloFrom X.env.cells scope.names []).lookup y = some c → X.env.cells.lookup y = some c := fun {y c} e => by
        rcases cloFrom_mem (PySem.mem_of_lookup e) with hm | ⟨h1, h2⟩
        · cases hm
        · obtain ⟨c1, hc⟩ := hfree _ h1 rfl
          have e2 : c = c1 := by
            rw [h2]
            show (X.env.cells.lookup y).getD 0 = c1
            rw [show X.env.cells.lookup y = some c1 from hc]
            rfl
          rw [e2]
          exact hc
      obtain ⟨c2, h2⟩ : ∃ c, (cloFrom X.env.cells scope.names []).lookup x = some c := mem_lookup (cloFrom_has (cells := X.env.cells) (acc := []) (PySem.mem_of_lookup z3))
      have c1 := cm h2
      rcases lk with ⟨k', _⟩ | ⟨_, c3, e', z⟩
      · have k' : X.env.scope.names.lookup x = some .local := k'
        rcases hfr with k2 | k2 <;> rw [show X.env.scope.names.lookup x = _ from k2] at k' <;> cases k'
      · rw [c1] at e'
        cases e'
        exact ⟨c2, u', h2, z.keeps kp, RwD.keeps kp _ _ (rw_of I2 d v' u' q2 r')⟩
    case fin =>
      intro out n h' tk kp _ hget hlen' eo
      rw [kdat_le] at eo
      obtain ⟨ys, y1, y2⟩ := kit_back eo
      have hn : H2 (s2.heap.objs.size + 1) = none := I2.hok.fresh (Nat.le_succ _)
      have hys : ys.length ≤ sizeLine := by rw [y1.length, hlen']; exact hq2
      refine ⟨.ref _, upd H2 (s2.heap.objs.size + 1) (.lst ys), I2.laid (t' := tk) kp (Nat.le_succ _) ⟨hys, out, n, y1, hget⟩, rfl, ?_⟩
      exact (h1.ext e2) M1 _ (Ext.new hn) (hr2.new hn) _ (RD.new_lst hr2 hn y2 (by rw [LIM_eq]; exact hys))
  | _ => rw [hv] at h1; exact h1.elim
end
end KN

namespace KN
open PySem PySem.Spec PyProof.Rows L2

/-! ### what is walked -/
section
variable (K : PySem.W.Frag) (T : Tb)
structure WalkD (J : It) (M1 : Mp) (H1 : Hp) (items : List D) (lk : Lk) : Prop where
  len : items.length ≤ LIM
  st : ∀ M H g, Ext M1 H1 M H → HR K T M H g → lockOk lk g → ∀ i : Nat, (i < items.length → J.go i H) ∧ (items.length ≤ i → J.stop i H) ∧ ∀ x H', J.yld i H x H' → ∀ d, items[i]? = some d → (Ext M H M H' ∧ HR K T M H' g ∧ RD K T M H' d x)
end
section
variable (X : Cx) (T : Tb) (W : WX)
def lfI (ev : KN.St → G → R (List D × Lk)) : TI := fun σ H Q => ∃ M s g, RS X.K T M H g s σ ∧ wpR X.K T W σ M H (ev s g) fun p M' H' _ => ∀ J, WalkD X.K T J M' H' p.1 p.2 → Q J H'
def wpF (M : Mp) (H : Hp) (r : F) (E : Ends) : Prop :=
  match r with
  | .nx s g => ∀ M' H' σ', Ext M H M' H' → RS X.K T M' H' g s σ' → E.nx σ' H'
  | .rt d g => ∀ M' H' v, Ext M H M' H' → HR X.K T M' H' g → RD X.K T M' H' d v → E.rt v H'
  | .bk s g => ∀ M' H' σ', Ext M H M' H' → RS X.K T M' H' g s σ' → E.bk σ' H'
  | .ct s g => ∀ M' H' σ', Ext M H M' H' → RS X.K T M' H' g s σ' → E.ct σ' H'
  | .ex x s g => ∀ M' H' σ' cls dd, Ext M H M' H' → RS X.K T M' H' g s σ' → RX X.K T M' H' x cls dd → W cls dd σ' H'
  | .st => False
def lfS (ev : KN.St → G → F) : TS := fun E σ H => ∃ M s g, RS X.K T M H g s σ ∧ wpF X T W M H (ev s g) E
end
section
variable {X : Cx} {c : Ck} {T : Tb} {F : Fn} {W : WX}
theorem wpF.ext {r : KN.F} {E : Ends} {M M1 : Mp} {H H1 : Hp} (h : wpF X T W M H r E) (e : Ext M H M1 H1) : wpF X T W M1 H1 r E := by
  cases r with
  | nx s g => exact fun M' H' σ' e' => h M' H' σ' (e.trans e')
  | rt d g => exact fun M' H' v e' => h M' H' v (e.trans e')
  | bk s g => exact fun M' H' σ' e' => h M' H' σ' (e.trans e')
  | ct s g => exact fun M' H' σ' e' => h M' H' σ' (e.trans e')
  | ex x s g => exact fun M' H' σ' cls dd e' => h M' H' σ' cls dd (e.trans e')
  | st => exact h
theorem wpF.imp {r : KN.F} {E E' : Ends} {M : Mp} {H : Hp} (h : wpF X T W M H r E) (k1 : ∀ σ' H', E.nx σ' H' → E'.nx σ' H') (k2 : ∀ v H', E.rt v H' → E'.rt v H') (k3 : ∀ σ' H', E.bk σ' H' → E'.bk σ' H') (k4 : ∀ σ' H', E.ct σ' H' → E'.ct σ' H') : wpF X T W M H r E' := by
  cases r with
  | nx s g => exact fun M' H' σ' e hr => k1 _ _ (h M' H' σ' e hr)
  | rt d g => exact fun M' H' v e hr rv => k2 _ _ (h M' H' v e hr rv)
  | bk s g => exact fun M' H' σ' e hr => k3 _ _ (h M' H' σ' e hr)
  | ct s g => exact fun M' H' σ' e hr => k4 _ _ (h M' H' σ' e hr)
  | ex x s g => exact h
  | st => exact h
/-- an expression's run within a statement -/
theorem wpF.toF {r : R D} {s : KN.St} {k : D → G → KN.F} {E : Ends} {M : Mp} {H : Hp} {σ : L2.St} {g : G} {mid : D → Mp → Hp → G → Prop} (rs : RS X.K T M H g s σ) (h : wpF X T W M H (KN.toF r s k) E)
    (i : ∀ d M1 H1 g1, Ext M H M1 H1 → HR X.K T M1 H1 g1 → wpF X T W M1 H1 (k d g1) E → mid d M1 H1 g1) : wpR X.K T W σ M H r mid := by
  cases r with
  | ok d g1 => exact fun M' H' e hr => i d M' H' g1 e hr (wpF.ext (show wpF X T W M H (k d g1) E from h) e)
  | exc x g1 => exact fun M' H' cls dd e hr hx => h M' H' σ cls dd e (rs.ext e hr) hx
  | st => exact h

/-- a tuple, a list walked as it stands -/
theorem pi_seq {tg l : Expr} {tl : TE} (hl : PE X l tl) : PI X tg l (fun σ H R => tl σ H fun x H1 => ∃ a, x = .ref a ∧ ((∃ xs, SqL X.K H1 a xs) ∧ R (Itl X.K a) H1 ∨ (∃ xs, SqT X.K H1 a xs) ∧ R (Itt X.K a) H1)) := by
  refine ⟨fun pins s σ H R I h => ?_⟩
  refine thn (hl.run pins s σ H _ I h) fun v s1 ⟨x, H1, I1, r1, q1⟩ => ?_
  obtain ⟨a, e, q1⟩ := q1
  subst e
  cases r1
  rcases q1 with ⟨⟨xs, hq⟩, q⟩ | ⟨⟨xs, hq⟩, q⟩
  · obtain ⟨its, rv, p, hz⟩ := I1.list hq
    refine wpAny_pyIter_list p.isList ?_
    refine ⟨s1.heap.objs.size, [s1.heap.objs.size], _, _, H1, rfl, I1.kept (t' := s1.toks) fun b o e => Heap.get?_push_of_some _ e, turn_list a _, ⟨_, Heap.get?_push_size _ rfl, rfl, rfl⟩, fun b hb => ?_, q⟩
    have e : b = s1.heap.objs.size := by simpa using hb
    subst e
    exact I1.fpOk (Nat.le_refl _) (I1.hok.fresh (Nat.le_refl _))
  · obtain ⟨its, rv, p, hz⟩ := I1.tuple hq
    refine wpAny_pyIter_tuple (show s1.heap.IsTuple a its.toArray from p) ?_
    refine ⟨s1.heap.objs.size, [s1.heap.objs.size], _, _, H1, rfl, I1.kept (t' := s1.toks) fun b o e => Heap.get?_push_of_some _ e, turn_tuple a _, ⟨_, Heap.get?_push_size _ rfl, rfl, rfl⟩, fun b hb => ?_, q⟩
    have e : b = s1.heap.objs.size := by simpa using hb
    subst e
    exact I1.fpOk (Nat.le_refl _) (I1.hok.fresh (Nat.le_refl _))
theorem RDs.at {K : PySem.W.Frag} {M : Mp} {H : Hp} {ds : List D} {vs : List V} {i : Nat} {d : D} {v : V} (h : RDs K T M H ds vs) (e : ds[i]? = some d) (e' : vs[i]? = some v) : RD K T M H d v := by
  obtain ⟨w, h1, h2⟩ := h.get e
  rw [e'] at h1; cases h1
  exact h2
theorem walk_tup {K : PySem.W.Frag} {M1 : Mp} {H1 : Hp} {p : Addr} {ds : List D} {vs : List V} (h : TupM K M1 H1 p vs) (r : RDs K T M1 H1 ds vs) (hl : vs.length ≤ LIM) : WalkD K T (Itt K p) M1 H1 ds [] := by
  refine ⟨by rw [r.length]; exact hl, fun M H g e hr _ i => ?_⟩
  have h' := (e.tup h).sq
  have r' := RDs.ext e _ _ r
  refine ⟨fun hi => ?_, fun hi => ⟨vs, h', by rw [← r.length]; exact hi⟩, fun x H' y d hd => ?_⟩
  · obtain ⟨v, q1, q2⟩ := r'.get (List.getElem?_eq_getElem hi)
    exact ⟨vs, v, h', q1⟩
  · obtain ⟨rfl, y⟩ := y
    exact ⟨Ext.refl _ _, hr, r'.at hd (y vs h')⟩
theorem walk_lst {K : PySem.W.Frag} {M1 : Mp} {H1 : Hp} {p : Addr} {ds : List D} {vs : List V} (h : H1 p = some (.lst vs) ∧ M1.out p) (r : RDs K T M1 H1 ds vs) (hl : vs.length ≤ LIM) : WalkD K T (Itl K p) M1 H1 ds [] := by
  refine ⟨by rw [r.length]; exact hl, fun M H g e hr _ i => ?_⟩
  have h' : SqL K H p vs := .inl (.inl (e.out h.1 h.2).2)
  have r' := RDs.ext e _ _ r
  refine ⟨fun hi => ?_, fun hi => ⟨vs, h', by rw [← r.length]; exact hi⟩, fun x H' y d hd => ?_⟩
  · obtain ⟨v, q1, q2⟩ := r'.get (List.getElem?_eq_getElem hi)
    exact ⟨vs, v, h', q1⟩
  · obtain ⟨rfl, y⟩ := y
    exact ⟨Ext.refl _ _, hr, r'.at hd (y vs h')⟩
theorem walk_ref {K : PySem.W.Frag} {M1 : Mp} {H1 : Hp} {p : Addr} {a : Nat} {ds : List D} (h : M1.m[a]? = some p) (hl : ds.length ≤ LIM) : WalkD K T (Itl K p) M1 H1 ds [(a, ds)] := by
  refine ⟨hl, fun M H g e hr lk i => ?_⟩
  have hp : M.m[a]? = some p := by
    obtain ⟨t, ht⟩ := e.pre
    rw [← ht, List.getElem?_append_left (List.getElem?_eq_some_iff.mp h).1]
    exact h
  obtain ⟨vs, q1, q2, q3⟩ := hr.at (show g[a]? = some (.lst ds) from lk (a, ds) (by simp)) hp
  have h' : SqL K H p vs := .inl (.inl q1)
  refine ⟨fun hi => ?_, fun hi => ⟨vs, h', by rw [← q3.length]; exact hi⟩, fun x H' y d hd => ?_⟩
  · obtain ⟨v, z1, z2⟩ := q3.get (List.getElem?_eq_getElem hi)
    exact ⟨vs, v, h', z1⟩
  · obtain ⟨rfl, y⟩ := y
    exact ⟨Ext.refl _ _, hr, q3.at hd (y vs h')⟩
theorem walk_rng {K : PySem.W.Frag} {M1 : Mp} {H1 : Hp} {lo hi : Int} (hn : (hi - lo).toNat ≤ LIM) : WalkD K T (Itr lo (hi - lo).toNat) M1 H1 ((rangeI lo hi).map .int) [] := by
  have hl : ((rangeI lo hi).map D.int).length = (hi - lo).toNat := by rw [List.length_map, rangeI_len]
  refine ⟨by rw [hl]; exact hn, fun M H g e hr _ i => ?_⟩
  refine ⟨fun hi => by rw [hl] at hi; exact hi, fun hi => by rw [hl] at hi; exact hi, fun x H' y d hd => ?_⟩
  obtain ⟨rfl, rfl⟩ := y
  refine ⟨Ext.refl _ _, hr, ?_⟩
  unfold rangeI at hd
  rw [List.getElem?_map, List.getElem?_map] at hd
  cases e2 : (List.range (hi - lo).toNat)[i]? with
  | none => rw [e2] at hd; cases hd
  | some k =>
    rw [e2] at hd
    have : k = i := by
      obtain ⟨h1, h2⟩ := List.getElem?_eq_some_iff.mp e2
      rw [List.getElem_range] at h2
      exact h2.symm
    subst this
    cases hd
    rfl
theorem s_seq {tg x : Expr} {e : LE} (he : PE X x (lfE X T W (evE F e))) : PI X tg x (lfI X T W (evI F (.seq e))) := by
  refine ⟨fun pins s σ H R I h => (pi_seq he).run pins s σ H R I ?_⟩
  obtain ⟨M, s, g, rs, h⟩ := h
  refine ⟨M, s, g, rs, wpR.bind (by simpa only [evI] using h) fun x M1 H1 g1 e1 hr1 h1 v rv => ?_⟩
  cases x with
  | tup xs =>
    obtain ⟨p, vs, rfl, q1, q2, q3⟩ := rv
    exact ⟨p, rfl, .inr ⟨⟨vs, q1.sq⟩, wpR.at (a := (xs, [])) h1 hr1 _ (walk_tup q1 q3 q2)⟩⟩
  | lst xs =>
    obtain ⟨p, vs, rfl, q1, q2, q3⟩ := rv
    exact ⟨p, rfl, .inl ⟨⟨vs, .inl (.inl q1.1)⟩, wpR.at (a := (xs, [])) h1 hr1 _ (walk_lst q1 q3 q2)⟩⟩
  | ref a =>
    obtain ⟨p, q1, rfl⟩ := rv
    simp only [srcD] at h1
    split at h1
    · rename_i xs eg
      obtain ⟨vs, z1, z2, z3⟩ := hr1.at eg q1
      exact ⟨p, rfl, .inl ⟨⟨vs, .inl (.inl z1)⟩, wpR.at (a := (xs, [(a, xs)])) h1 hr1 _ (walk_ref q1 (by rw [z3.length]; exact z2))⟩⟩
    · exact h1.elim
  | _ => exact h1.elim
/-- where the items of a source stand -/
def SrcOk (K : PySem.W.Frag) (T : Tb) (M1 : Mp) (H1 : Hp) (b : Bool) (p : Addr) (xs : List D) (lk : Lk) : Prop :=
  xs.length ≤ LIM ∧ ∀ M H g, Ext M1 H1 M H → HR K T M H g → lockOk lk g → ∃ vs, KZ.SqB K H b p vs ∧ RDs K T M H xs vs
theorem src_ok {K : PySem.W.Frag} {M1 : Mp} {H1 : Hp} {g1 : G} (hr : HR K T M1 H1 g1) {d : D} {v : V} {xs : List D} {lk : Lk} (h : RD K T M1 H1 d v) (e : srcD g1 d = some (xs, lk)) : ∃ b p vs, v = .ref p ∧ KZ.SqB K H1 b p vs ∧ SrcOk K T M1 H1 b p xs lk := by
  cases d with
  | tup ys =>
    cases e
    obtain ⟨p, vs, rfl, q1, q2, q3⟩ := h
    exact ⟨true, p, vs, rfl, q1.sq, by rw [q3.length]; exact q2, fun M H g e hr' _ => ⟨vs, (e.tup q1).sq, RDs.ext e _ _ q3⟩⟩
  | lst ys =>
    cases e
    obtain ⟨p, vs, rfl, q1, q2, q3⟩ := h
    exact ⟨false, p, vs, rfl, .inl (.inl q1.1), by rw [q3.length]; exact q2, fun M H g e hr' _ => ⟨vs, .inl (.inl (e.out q1.1 q1.2).2), RDs.ext e _ _ q3⟩⟩
  | ref a =>
    obtain ⟨p, q1, rfl⟩ := h
    simp only [srcD] at e
    split at e
    · rename_i ys eg
      cases e
      obtain ⟨vs, z1, z2, z3⟩ := hr.at eg q1
      refine ⟨false, p, vs, rfl, .inl (.inl z1), by rw [z3.length]; exact z2, fun M H g e hr' lk => ?_⟩
      obtain ⟨us, y1, y2, y3⟩ := hr'.at (lk _ (List.mem_singleton.mpr rfl)) (e.keeps.pre a p q1)
      exact ⟨us, .inl (.inl y1), y3⟩
    · cases e
  | _ => cases e
theorem SrcOk.mono {K : PySem.W.Frag} {M1 M2 : Mp} {H1 H2 : Hp} {b : Bool} {p : Addr} {xs : List D} {lk : Lk} (h : SrcOk K T M1 H1 b p xs lk) (e : Ext M1 H1 M2 H2) : SrcOk K T M2 H2 b p xs lk := ⟨h.1, fun M H g e' => h.2 M H g (e.trans e')⟩
theorem sq_uniq {K : PySem.W.Frag} {M H} {xs : List D} {vs : List V} {i : Nat} {d : D} {v : V} (r : RDs K T M H xs vs) (e : xs[i]? = some d) (e' : vs[i]? = some v) : RD K T M H d v := r.at e e'
/-- a new tuple of values -/
theorem tup_new {K : PySem.W.Frag} {M : Mp} {H : Hp} {g : G} {p : Addr} {ds : List D} {vs : List V} (hr : HR K T M H g) (hp : H p = none) (h : RDs K T M H ds vs) (hl : vs.length ≤ LIM) : Ext M H M (upd H p (.tup vs)) ∧ HR K T M (upd H p (.tup vs)) g ∧ RD K T M (upd H p (.tup vs)) (.tup ds) (.ref p) :=
  ⟨Ext.new hp, hr.new hp, RD.new_tup hr hp h hl⟩
theorem enumL_get : ∀ (xs : List D) (n i : Nat), (enumL n xs)[i]? = xs[i]?.map fun x => D.tup [.int ((n + i : Nat) : Int), x]
  | [], _, _ => by simp [enumL]
  | x :: xs, n, 0 => by simp [enumL]
  | x :: xs, n, i + 1 => by
    simp only [enumL, List.getElem?_cons_succ]
    rw [enumL_get xs (n + 1) i, show n + 1 + i = n + (i + 1) by omega]
theorem enumL_len : ∀ (xs : List D) (n : Nat), (enumL n xs).length = xs.length
  | [], _ => rfl
  | x :: xs, n => by simp [enumL, enumL_len xs]
theorem walk_en {K : PySem.W.Frag} {M1 : Mp} {H1 : Hp} {b : Bool} {p : Addr} {xs : List D} {lk : Lk} (S : SrcOk K T M1 H1 b p xs lk) : WalkD K T (KZ.ItE K b p) M1 H1 (enumL 0 xs) lk := by
  refine ⟨by rw [enumL_len]; exact S.1, fun M H g e hr lo i => ?_⟩
  obtain ⟨vs, q1, q2⟩ := S.2 M H g e hr lo
  rw [enumL_len]
  refine ⟨fun hi => ?_, fun hi => ⟨vs, q1, by rw [← q2.length]; exact hi⟩, fun x H' y d hd => ?_⟩
  · obtain ⟨v, z1, z2⟩ := q2.get (List.getElem?_eq_getElem hi)
    exact ⟨vs, v, q1, z1⟩
  · obtain ⟨p', v, rfl, hn, rfl, hy⟩ := y
    rw [enumL_get] at hd
    cases ex : xs[i]? with
    | none => rw [ex] at hd; cases hd
    | some d' =>
      rw [ex] at hd
      cases hd
      have rv := q2.at ex (hy vs q1)
      refine tup_new hr hn (ds := [.int ((0 + i : Nat) : Int), d']) ⟨_, _, rfl, by rw [Nat.zero_add]; rfl, _, _, rfl, rv, rfl⟩ ?_
      show 2 ≤ LIM
      rw [lim_is]; decide
theorem zipD_cons {g : G} {d d' : D} {r : List D} : zipD g (d :: d' :: r) = (srcD g d).bind fun p => (zipD g (d' :: r)).map fun q => (List.zipWith (fun x y => x :: y) p.1 q.1, p.2 ++ q.2) := rfl
theorem zw_get {A B C : Type} (f : A → B → C) : ∀ (xs : List A) (ys : List B) (i : Nat) (z : C), (List.zipWith f xs ys)[i]? = some z → ∃ x y, xs[i]? = some x ∧ ys[i]? = some y ∧ z = f x y
  | [], _, i, z, h => by simp at h
  | _ :: _, [], i, z, h => by simp at h
  | x :: xs, y :: ys, 0, z, h => by simp at h; exact ⟨x, y, rfl, rfl, h.symm⟩
  | x :: xs, y :: ys, i + 1, z, h => by simpa using zw_get f xs ys i z (by simpa using h)
theorem okR_of {lo hi : Int} (h : okR lo hi) : -(2 ^ 62) ≤ lo ∧ lo < 2 ^ 62 ∧ -(2 ^ 62) ≤ hi ∧ hi < 2 ^ 62 := by
  have e1 : (2 : Int) ^ 62 = 4611686018427387904 := by decide
  rw [e1]
  exact h
theorem s_range1 (C : Ctx X c T F W) {tg x : Expr} {a : LE} {p pos : Pos} (hg : glB c.sc ("range" : Str) = true) (hx : noStar x = true) (ha : PE X x (lfE X T W (evE F a))) : PI X tg (.Call (.Name "range" p) [x] [] pos) (lfI X T W (evI F (.range1 a))) := by
  have hm : X.mg ("range" : Str) = none := C.bl _ (by decide)
  refine ⟨fun pins s σ H R I h => (pi_range1 (gl_of C hg) hm (pa_cons ha pa_nil (star_cons hx)) (star_cons hx)).run pins s σ H R I ?_⟩
  obtain ⟨M, s, g, rs, h⟩ := h
  refine ⟨M, s, g, rs, wpR.bind (by simpa only [evI] using h) fun x M1 H1 g1 e1 hr1 h1 v rv => ?_⟩
  cases x with
  | int n =>
    cases rv
    simp only [asI, oR_some, KN.R.bind_ok] at h1
    split at h1
    · rename_i ho
      obtain ⟨b1, b2, b3, b4⟩ := okR_of ho.1
      refine ⟨n, rfl, b3, b4, ?_⟩
      have q := h1.at hr1
      have w := q (Itr 0 (n - 0).toNat) (walk_rng (by rw [Int.sub_zero]; exact ho.2))
      rwa [Int.sub_zero] at w
    · exact h1.elim
  | _ => exact h1.elim
theorem s_range2 (C : Ctx X c T F W) {tg x y : Expr} {a b : LE} {p pos : Pos} (hg : glB c.sc ("range" : Str) = true) (hx : noStar x = true) (hy : noStar y = true) (ha : PE X x (lfE X T W (evE F a))) (hb : PE X y (lfE X T W (evE F b))) :
    PI X tg (.Call (.Name "range" p) [x, y] [] pos) (lfI X T W (evI F (.range2 a b))) := by
  have hm : X.mg ("range" : Str) = none := C.bl _ (by decide)
  refine ⟨fun pins s σ H R I h => (pi_range2 (gl_of C hg) hm (pa_cons ha (pa_cons hb pa_nil (star_cons hy)) (star_cons hx)) (by rw [star_cons hx, star_cons hy]; rfl) (star_cons hy)).run pins s σ H R I ?_⟩
  obtain ⟨M, s, g, rs, h⟩ := h
  refine ⟨M, s, g, rs, wpR.bind (by simpa only [evI] using h) fun x M1 H1 g1 e1 hr1 h1 v rv => ⟨M1, s, g1, rs.ext e1 hr1, h1.bind fun y M2 H2 g2 e2 hr2 h2 u ru => ?_⟩⟩
  cases x with
  | int lo =>
    cases rv
    cases y with
    | int hi =>
      cases ru
      simp only [asI, oR_some, KN.R.bind_ok] at h2
      split at h2
      · rename_i ho
        exact ⟨lo, hi, rfl, okR_of ho.1, h2.at hr2 _ (walk_rng ho.2)⟩
      · exact h2.elim
    | _ => exact h2.elim
  | _ => exact h2.elim
theorem R_assoc {A B C : Type} (r : R A) (f : A → G → R B) (h : B → G → R C) : (r.bind f).bind h = r.bind fun a g => (f a g).bind h := by cases r <;> rfl
theorem zipD2 {g : G} {d1 d2 : D} {rows : List (List D)} {lk : Lk} (e : zipD g [d1, d2] = some (rows, lk)) : ∃ (xs1 : List D) (lk1 : Lk) (xs2 : List D) (lk2 : Lk), srcD g d1 = some (xs1, lk1) ∧ srcD g d2 = some (xs2, lk2) ∧ lk = lk1 ++ (lk2) ∧
    (rows.length = min xs1.length (xs2.length)) ∧ ∀ (i : Nat) (r : List D), rows[i]? = some r → ∃ x1 x2 : D, xs1[i]? = some x1 ∧ xs2[i]? = some x2 ∧ r = [x1, x2] := by
  simp only [zipD] at e
  cases s1 : srcD g d1 with
  | none => simp [s1] at e
  | some p1 =>
  obtain ⟨ys1, k1⟩ := p1
  cases s2 : srcD g d2 with
  | none => simp [s1, s2] at e
  | some p2 =>
  obtain ⟨ys2, k2⟩ := p2
  simp only [s1, s2, Option.bind_some, Option.map_some, Option.some.injEq, Prod.mk.injEq] at e
  obtain ⟨e1, e2⟩ := e
  refine ⟨ys1, k1, ys2, k2, rfl, rfl, e2.symm, ?_, fun i r hr => ?_⟩
  · rw [← e1]; simp
  · rw [← e1] at hr
    obtain ⟨x1, r1, a1, b1, rfl⟩ := zw_get _ _ _ _ _ hr
    rw [List.getElem?_map] at b1
    cases ez : ys2[i]? with
    | none => rw [ez] at b1; cases b1
    | some x2 =>
      rw [ez] at b1
      cases b1
      exact ⟨x1, x2, a1, rfl, rfl⟩
theorem walk_z2 {K : PySem.W.Frag} {M1 : Mp} {H1 : Hp} {g0 : G} {b1 : Bool} {b2 : Bool} {p1 : Addr} {p2 : Addr} {d1 d2 : D} {xs1 xs2 : List D} {lk1 lk2 : Lk} {rows : List (List D)} {lk : Lk} (e : zipD g0 [d1, d2] = some (rows, lk)) (s1 : srcD g0 d1 = some (xs1, lk1)) (s2 : srcD g0 d2 = some (xs2, lk2))
    (S1 : SrcOk K T M1 H1 b1 p1 xs1 lk1) (S2 : SrcOk K T M1 H1 b2 p2 xs2 lk2) : WalkD K T (KZ.ItZ2 K b1 b2 p1 p2) M1 H1 (rows.map .tup) lk := by
  obtain ⟨ys1, lj1, ys2, lj2, t1, t2, rfl, hlen, hget⟩ := zipD2 e
  rw [s1] at t1
  cases t1
  rw [s2] at t2
  cases t2
  refine ⟨by rw [List.length_map, hlen]; have := S1.1; omega, fun M H g e hr lo i => ?_⟩
  obtain ⟨vs1, q1, r1⟩ := S1.2 M H g e hr fun w z => lo w (List.mem_append_left _ z)
  have n1 := r1.length
  obtain ⟨vs2, q2, r2⟩ := S2.2 M H g e hr fun w z => lo w (List.mem_append_right _ (z))
  have n2 := r2.length
  rw [List.length_map, hlen]
  refine ⟨fun hi => ?_, fun hi => ?_, fun x H' y d hd => ?_⟩
  · obtain ⟨v1, z1, _⟩ := r1.get (List.getElem?_eq_getElem (show i < xs1.length by omega))
    obtain ⟨v2, z2, _⟩ := r2.get (List.getElem?_eq_getElem (show i < xs2.length by omega))
    exact ⟨vs1, vs2, v1, v2, q1, q2, z1, z2⟩
  · refine ⟨vs1, vs2, q1, q2, ?_⟩
    omega
  · obtain ⟨p', v1, v2, rfl, hn, rfl, y1, y2⟩ := y
    rw [List.getElem?_map] at hd
    cases er : rows[i]? with
    | none => rw [er] at hd; cases hd
    | some r =>
      rw [er] at hd
      cases hd
      obtain ⟨x1, x2, w1, w2, rfl⟩ := hget i r er
      refine tup_new hr hn ⟨_, _, rfl, r1.at w1 (y1 vs1 q1), _, _, rfl, r2.at w2 (y2 vs2 q2), rfl⟩ ?_
      show 2 ≤ LIM
      rw [lim_is]; decide
theorem s_zip2 (C : Ctx X c T F W) {e1 e2 : LE} {x1 x2 : Expr} {elts : List Expr} {kk : Nat} {p tpos pos : Pos} (hg : glB c.sc ("zip" : Str) = true) (hk : noStars [x1, x2] = true) (h1 : PE X x1 (lfE X T W (evE F e1))) (h2 : PE X x2 (lfE X T W (evE F e2))) :
    PI X (.Tuple elts kk tpos) (.Call (.Name "zip" p) [x1, x2] [] pos) (lfI X T W (evI F (.zip (.cons e1 (.cons e2 .nil))))) := by
  have hm : X.mg ("zip" : Str) = none := C.bl _ (by decide)
  simp only [noStars, Bool.and_eq_true] at hk
  have hp : PA X [x1, x2] _ := pa_cons h1 (pa_cons h2 (pa_nil) (star_cons hk.2.1)) (star_cons hk.1)
  refine ⟨fun pins s σ H R I h => (KZ.pi_z2 (gl_of C hg) hm hp (star_cons hk.1) (star_any (by simp only [noStars, Bool.and_eq_true]; exact hk.2))).run pins s σ H R I ?_⟩
  obtain ⟨M, s, g, rs, h⟩ := h
  simp only [evI, evEs, R_assoc, KN.R.bind_ok] at h
  refine ⟨M, s, g, rs, wpR.bind h fun y1 M1 H1 g1 z1 hr1 h1 v1 rv1 => ⟨M1, s, g1, rs.ext (z1) hr1, wpR.bind h1 fun y2 M2 H2 g2 z2 hr2 h2 v2 rv2 => ?_⟩⟩
  cases ez : zipD g2 [y1, y2] with
  | none => rw [ez] at h2; exact h2.elim
  | some pr =>
  obtain ⟨rows, lk⟩ := pr
  rw [ez] at h2
  obtain ⟨xs1, lk1, xs2, lk2, t1, t2, _, _, _⟩ := zipD2 ez
  obtain ⟨b1, a1, vs1, rfl, q1, S1⟩ := src_ok hr2 (RD.ext (z2) _ _ rv1) t1
  obtain ⟨b2, a2, vs2, rfl, q2, S2⟩ := src_ok hr2 rv2 t2
  refine ⟨b1, b2, a1, a2, vs1, vs2, rfl, ⟨q1, q2⟩, ?_⟩
  exact wpR.at (a := (rows.map D.tup, lk)) h2 hr2 _ (walk_z2 ez t1 t2 S1 S2)
theorem zipD3 {g : G} {d1 d2 d3 : D} {rows : List (List D)} {lk : Lk} (e : zipD g [d1, d2, d3] = some (rows, lk)) : ∃ (xs1 : List D) (lk1 : Lk) (xs2 : List D) (lk2 : Lk) (xs3 : List D) (lk3 : Lk), srcD g d1 = some (xs1, lk1) ∧ srcD g d2 = some (xs2, lk2) ∧ srcD g d3 = some (xs3, lk3) ∧ lk = lk1 ++ (lk2 ++ (lk3)) ∧
    (rows.length = min xs1.length (min xs2.length (xs3.length))) ∧ ∀ (i : Nat) (r : List D), rows[i]? = some r → ∃ x1 x2 x3 : D, xs1[i]? = some x1 ∧ xs2[i]? = some x2 ∧ xs3[i]? = some x3 ∧ r = [x1, x2, x3] := by
  simp only [zipD] at e
  cases s1 : srcD g d1 with
  | none => simp [s1] at e
  | some p1 =>
  obtain ⟨ys1, k1⟩ := p1
  cases s2 : srcD g d2 with
  | none => simp [s1, s2] at e
  | some p2 =>
  obtain ⟨ys2, k2⟩ := p2
  cases s3 : srcD g d3 with
  | none => simp [s1, s2, s3] at e
  | some p3 =>
  obtain ⟨ys3, k3⟩ := p3
  simp only [s1, s2, s3, Option.bind_some, Option.map_some, Option.some.injEq, Prod.mk.injEq] at e
  obtain ⟨e1, e2⟩ := e
  refine ⟨ys1, k1, ys2, k2, ys3, k3, rfl, rfl, rfl, e2.symm, ?_, fun i r hr => ?_⟩
  · rw [← e1]; simp
  · rw [← e1] at hr
    obtain ⟨x1, r1, a1, b1, rfl⟩ := zw_get _ _ _ _ _ hr
    obtain ⟨x2, r2, a2, b2, rfl⟩ := zw_get _ _ _ _ _ b1
    rw [List.getElem?_map] at b2
    cases ez : ys3[i]? with
    | none => rw [ez] at b2; cases b2
    | some x3 =>
      rw [ez] at b2
      cases b2
      exact ⟨x1, x2, x3, a1, a2, rfl, rfl⟩
theorem walk_z3 {K : PySem.W.Frag} {M1 : Mp} {H1 : Hp} {g0 : G} {b1 : Bool} {b2 : Bool} {b3 : Bool} {p1 : Addr} {p2 : Addr} {p3 : Addr} {d1 d2 d3 : D} {xs1 xs2 xs3 : List D} {lk1 lk2 lk3 : Lk} {rows : List (List D)} {lk : Lk} (e : zipD g0 [d1, d2, d3] = some (rows, lk)) (s1 : srcD g0 d1 = some (xs1, lk1)) (s2 : srcD g0 d2 = some (xs2, lk2)) (s3 : srcD g0 d3 = some (xs3, lk3))
    (S1 : SrcOk K T M1 H1 b1 p1 xs1 lk1) (S2 : SrcOk K T M1 H1 b2 p2 xs2 lk2) (S3 : SrcOk K T M1 H1 b3 p3 xs3 lk3) : WalkD K T (KZ.ItZ3 K b1 b2 b3 p1 p2 p3) M1 H1 (rows.map .tup) lk := by
  obtain ⟨ys1, lj1, ys2, lj2, ys3, lj3, t1, t2, t3, rfl, hlen, hget⟩ := zipD3 e
  rw [s1] at t1
  cases t1
  rw [s2] at t2
  cases t2
  rw [s3] at t3
  cases t3
  refine ⟨by rw [List.length_map, hlen]; have := S1.1; omega, fun M H g e hr lo i => ?_⟩
  obtain ⟨vs1, q1, r1⟩ := S1.2 M H g e hr fun w z => lo w (List.mem_append_left _ z)
  have n1 := r1.length
  obtain ⟨vs2, q2, r2⟩ := S2.2 M H g e hr fun w z => lo w (List.mem_append_right _ (List.mem_append_left _ z))
  have n2 := r2.length
  obtain ⟨vs3, q3, r3⟩ := S3.2 M H g e hr fun w z => lo w (List.mem_append_right _ (List.mem_append_right _ (z)))
  have n3 := r3.length
  rw [List.length_map, hlen]
  refine ⟨fun hi => ?_, fun hi => ?_, fun x H' y d hd => ?_⟩
  · obtain ⟨v1, z1, _⟩ := r1.get (List.getElem?_eq_getElem (show i < xs1.length by omega))
    obtain ⟨v2, z2, _⟩ := r2.get (List.getElem?_eq_getElem (show i < xs2.length by omega))
    obtain ⟨v3, z3, _⟩ := r3.get (List.getElem?_eq_getElem (show i < xs3.length by omega))
    exact ⟨vs1, vs2, vs3, v1, v2, v3, q1, q2, q3, z1, z2, z3⟩
  · refine ⟨vs1, vs2, vs3, q1, q2, q3, ?_⟩
    omega
  · obtain ⟨p', v1, v2, v3, rfl, hn, rfl, y1, y2, y3⟩ := y
    rw [List.getElem?_map] at hd
    cases er : rows[i]? with
    | none => rw [er] at hd; cases hd
    | some r =>
      rw [er] at hd
      cases hd
      obtain ⟨x1, x2, x3, w1, w2, w3, rfl⟩ := hget i r er
      refine tup_new hr hn ⟨_, _, rfl, r1.at w1 (y1 vs1 q1), _, _, rfl, r2.at w2 (y2 vs2 q2), _, _, rfl, r3.at w3 (y3 vs3 q3), rfl⟩ ?_
      show 3 ≤ LIM
      rw [lim_is]; decide
theorem s_zip3 (C : Ctx X c T F W) {e1 e2 e3 : LE} {x1 x2 x3 : Expr} {elts : List Expr} {kk : Nat} {p tpos pos : Pos} (hg : glB c.sc ("zip" : Str) = true) (hk : noStars [x1, x2, x3] = true) (h1 : PE X x1 (lfE X T W (evE F e1))) (h2 : PE X x2 (lfE X T W (evE F e2))) (h3 : PE X x3 (lfE X T W (evE F e3))) :
    PI X (.Tuple elts kk tpos) (.Call (.Name "zip" p) [x1, x2, x3] [] pos) (lfI X T W (evI F (.zip (.cons e1 (.cons e2 (.cons e3 .nil)))))) := by
  have hm : X.mg ("zip" : Str) = none := C.bl _ (by decide)
  simp only [noStars, Bool.and_eq_true] at hk
  have hp : PA X [x1, x2, x3] _ := pa_cons h1 (pa_cons h2 (pa_cons h3 (pa_nil) (star_cons hk.2.2.1)) (star_cons hk.2.1)) (star_cons hk.1)
  refine ⟨fun pins s σ H R I h => (KZ.pi_z3 (gl_of C hg) hm hp (star_cons hk.1) (star_any (by simp only [noStars, Bool.and_eq_true]; exact hk.2))).run pins s σ H R I ?_⟩
  obtain ⟨M, s, g, rs, h⟩ := h
  simp only [evI, evEs, R_assoc, KN.R.bind_ok] at h
  refine ⟨M, s, g, rs, wpR.bind h fun y1 M1 H1 g1 z1 hr1 h1 v1 rv1 => ⟨M1, s, g1, rs.ext (z1) hr1, wpR.bind h1 fun y2 M2 H2 g2 z2 hr2 h2 v2 rv2 => ⟨M2, s, g2, rs.ext ((z1).trans z2) hr2, wpR.bind h2 fun y3 M3 H3 g3 z3 hr3 h3 v3 rv3 => ?_⟩⟩⟩
  cases ez : zipD g3 [y1, y2, y3] with
  | none => rw [ez] at h3; exact h3.elim
  | some pr =>
  obtain ⟨rows, lk⟩ := pr
  rw [ez] at h3
  obtain ⟨xs1, lk1, xs2, lk2, xs3, lk3, t1, t2, t3, _, _, _⟩ := zipD3 ez
  obtain ⟨b1, a1, vs1, rfl, q1, S1⟩ := src_ok hr3 (RD.ext ((z2).trans z3) _ _ rv1) t1
  obtain ⟨b2, a2, vs2, rfl, q2, S2⟩ := src_ok hr3 (RD.ext (z3) _ _ rv2) t2
  obtain ⟨b3, a3, vs3, rfl, q3, S3⟩ := src_ok hr3 rv3 t3
  refine ⟨b1, b2, b3, a1, a2, a3, vs1, vs2, vs3, rfl, ⟨q1, q2, q3⟩, ?_⟩
  exact wpR.at (a := (rows.map D.tup, lk)) h3 hr3 _ (walk_z3 ez t1 t2 t3 S1 S2 S3)
theorem zipD4 {g : G} {d1 d2 d3 d4 : D} {rows : List (List D)} {lk : Lk} (e : zipD g [d1, d2, d3, d4] = some (rows, lk)) : ∃ (xs1 : List D) (lk1 : Lk) (xs2 : List D) (lk2 : Lk) (xs3 : List D) (lk3 : Lk) (xs4 : List D) (lk4 : Lk), srcD g d1 = some (xs1, lk1) ∧ srcD g d2 = some (xs2, lk2) ∧ srcD g d3 = some (xs3, lk3) ∧ srcD g d4 = some (xs4, lk4) ∧ lk = lk1 ++ (lk2 ++ (lk3 ++ (lk4))) ∧
    (rows.length = min xs1.length (min xs2.length (min xs3.length (xs4.length)))) ∧ ∀ (i : Nat) (r : List D), rows[i]? = some r → ∃ x1 x2 x3 x4 : D, xs1[i]? = some x1 ∧ xs2[i]? = some x2 ∧ xs3[i]? = some x3 ∧ xs4[i]? = some x4 ∧ r = [x1, x2, x3, x4] := by
  simp only [zipD] at e
  cases s1 : srcD g d1 with
  | none => simp [s1] at e
  | some p1 =>
  obtain ⟨ys1, k1⟩ := p1
  cases s2 : srcD g d2 with
  | none => simp [s1, s2] at e
  | some p2 =>
  obtain ⟨ys2, k2⟩ := p2
  cases s3 : srcD g d3 with
  | none => simp [s1, s2, s3] at e
  | some p3 =>
  obtain ⟨ys3, k3⟩ := p3
  cases s4 : srcD g d4 with
  | none => simp [s1, s2, s3, s4] at e
  | some p4 =>
  obtain ⟨ys4, k4⟩ := p4
  simp only [s1, s2, s3, s4, Option.bind_some, Option.map_some, Option.some.injEq, Prod.mk.injEq] at e
  obtain ⟨e1, e2⟩ := e
  refine ⟨ys1, k1, ys2, k2, ys3, k3, ys4, k4, rfl, rfl, rfl, rfl, e2.symm, ?_, fun i r hr => ?_⟩
  · rw [← e1]; simp
  · rw [← e1] at hr
    obtain ⟨x1, r1, a1, b1, rfl⟩ := zw_get _ _ _ _ _ hr
    obtain ⟨x2, r2, a2, b2, rfl⟩ := zw_get _ _ _ _ _ b1
    obtain ⟨x3, r3, a3, b3, rfl⟩ := zw_get _ _ _ _ _ b2
    rw [List.getElem?_map] at b3
    cases ez : ys4[i]? with
    | none => rw [ez] at b3; cases b3
    | some x4 =>
      rw [ez] at b3
      cases b3
      exact ⟨x1, x2, x3, x4, a1, a2, a3, rfl, rfl⟩
theorem walk_z4 {K : PySem.W.Frag} {M1 : Mp} {H1 : Hp} {g0 : G} {b1 : Bool} {b2 : Bool} {b3 : Bool} {b4 : Bool} {p1 : Addr} {p2 : Addr} {p3 : Addr} {p4 : Addr} {d1 d2 d3 d4 : D} {xs1 xs2 xs3 xs4 : List D} {lk1 lk2 lk3 lk4 : Lk} {rows : List (List D)} {lk : Lk} (e : zipD g0 [d1, d2, d3, d4] = some (rows, lk)) (s1 : srcD g0 d1 = some (xs1, lk1)) (s2 : srcD g0 d2 = some (xs2, lk2)) (s3 : srcD g0 d3 = some (xs3, lk3)) (s4 : srcD g0 d4 = some (xs4, lk4))
    (S1 : SrcOk K T M1 H1 b1 p1 xs1 lk1) (S2 : SrcOk K T M1 H1 b2 p2 xs2 lk2) (S3 : SrcOk K T M1 H1 b3 p3 xs3 lk3) (S4 : SrcOk K T M1 H1 b4 p4 xs4 lk4) : WalkD K T (KZ.ItZ4 K b1 b2 b3 b4 p1 p2 p3 p4) M1 H1 (rows.map .tup) lk := by
  obtain ⟨ys1, lj1, ys2, lj2, ys3, lj3, ys4, lj4, t1, t2, t3, t4, rfl, hlen, hget⟩ := zipD4 e
  rw [s1] at t1
  cases t1
  rw [s2] at t2
  cases t2
  rw [s3] at t3
  cases t3
  rw [s4] at t4
  cases t4
  refine ⟨by rw [List.length_map, hlen]; have := S1.1; omega, fun M H g e hr lo i => ?_⟩
  obtain ⟨vs1, q1, r1⟩ := S1.2 M H g e hr fun w z => lo w (List.mem_append_left _ z)
  have n1 := r1.length
  obtain ⟨vs2, q2, r2⟩ := S2.2 M H g e hr fun w z => lo w (List.mem_append_right _ (List.mem_append_left _ z))
  have n2 := r2.length
  obtain ⟨vs3, q3, r3⟩ := S3.2 M H g e hr fun w z => lo w (List.mem_append_right _ (List.mem_append_right _ (List.mem_append_left _ z)))
  have n3 := r3.length
  obtain ⟨vs4, q4, r4⟩ := S4.2 M H g e hr fun w z => lo w (List.mem_append_right _ (List.mem_append_right _ (List.mem_append_right _ (z))))
  have n4 := r4.length
  rw [List.length_map, hlen]
  refine ⟨fun hi => ?_, fun hi => ?_, fun x H' y d hd => ?_⟩
  · obtain ⟨v1, z1, _⟩ := r1.get (List.getElem?_eq_getElem (show i < xs1.length by omega))
    obtain ⟨v2, z2, _⟩ := r2.get (List.getElem?_eq_getElem (show i < xs2.length by omega))
    obtain ⟨v3, z3, _⟩ := r3.get (List.getElem?_eq_getElem (show i < xs3.length by omega))
    obtain ⟨v4, z4, _⟩ := r4.get (List.getElem?_eq_getElem (show i < xs4.length by omega))
    exact ⟨vs1, vs2, vs3, vs4, v1, v2, v3, v4, q1, q2, q3, q4, z1, z2, z3, z4⟩
  · refine ⟨vs1, vs2, vs3, vs4, q1, q2, q3, q4, ?_⟩
    omega
  · obtain ⟨p', v1, v2, v3, v4, rfl, hn, rfl, y1, y2, y3, y4⟩ := y
    rw [List.getElem?_map] at hd
    cases er : rows[i]? with
    | none => rw [er] at hd; cases hd
    | some r =>
      rw [er] at hd
      cases hd
      obtain ⟨x1, x2, x3, x4, w1, w2, w3, w4, rfl⟩ := hget i r er
      refine tup_new hr hn ⟨_, _, rfl, r1.at w1 (y1 vs1 q1), _, _, rfl, r2.at w2 (y2 vs2 q2), _, _, rfl, r3.at w3 (y3 vs3 q3), _, _, rfl, r4.at w4 (y4 vs4 q4), rfl⟩ ?_
      show 4 ≤ LIM
      rw [lim_is]; decide
theorem s_zip4 (C : Ctx X c T F W) {e1 e2 e3 e4 : LE} {x1 x2 x3 x4 : Expr} {elts : List Expr} {kk : Nat} {p tpos pos : Pos} (hg : glB c.sc ("zip" : Str) = true) (hk : noStars [x1, x2, x3, x4] = true) (h1 : PE X x1 (lfE X T W (evE F e1))) (h2 : PE X x2 (lfE X T W (evE F e2))) (h3 : PE X x3 (lfE X T W (evE F e3))) (h4 : PE X x4 (lfE X T W (evE F e4))) :
    PI X (.Tuple elts kk tpos) (.Call (.Name "zip" p) [x1, x2, x3, x4] [] pos) (lfI X T W (evI F (.zip (.cons e1 (.cons e2 (.cons e3 (.cons e4 .nil))))))) := by
  have hm : X.mg ("zip" : Str) = none := C.bl _ (by decide)
  simp only [noStars, Bool.and_eq_true] at hk
  have hp : PA X [x1, x2, x3, x4] _ := pa_cons h1 (pa_cons h2 (pa_cons h3 (pa_cons h4 (pa_nil) (star_cons hk.2.2.2.1)) (star_cons hk.2.2.1)) (star_cons hk.2.1)) (star_cons hk.1)
  refine ⟨fun pins s σ H R I h => (KZ.pi_z4 (gl_of C hg) hm hp (star_cons hk.1) (star_any (by simp only [noStars, Bool.and_eq_true]; exact hk.2))).run pins s σ H R I ?_⟩
  obtain ⟨M, s, g, rs, h⟩ := h
  simp only [evI, evEs, R_assoc, KN.R.bind_ok] at h
  refine ⟨M, s, g, rs, wpR.bind h fun y1 M1 H1 g1 z1 hr1 h1 v1 rv1 => ⟨M1, s, g1, rs.ext (z1) hr1, wpR.bind h1 fun y2 M2 H2 g2 z2 hr2 h2 v2 rv2 => ⟨M2, s, g2, rs.ext ((z1).trans z2) hr2, wpR.bind h2 fun y3 M3 H3 g3 z3 hr3 h3 v3 rv3 => ⟨M3, s, g3, rs.ext (((z1).trans z2).trans z3) hr3, wpR.bind h3 fun y4 M4 H4 g4 z4 hr4 h4 v4 rv4 => ?_⟩⟩⟩⟩
  cases ez : zipD g4 [y1, y2, y3, y4] with
  | none => rw [ez] at h4; exact h4.elim
  | some pr =>
  obtain ⟨rows, lk⟩ := pr
  rw [ez] at h4
  obtain ⟨xs1, lk1, xs2, lk2, xs3, lk3, xs4, lk4, t1, t2, t3, t4, _, _, _⟩ := zipD4 ez
  obtain ⟨b1, a1, vs1, rfl, q1, S1⟩ := src_ok hr4 (RD.ext (((z2).trans z3).trans z4) _ _ rv1) t1
  obtain ⟨b2, a2, vs2, rfl, q2, S2⟩ := src_ok hr4 (RD.ext ((z3).trans z4) _ _ rv2) t2
  obtain ⟨b3, a3, vs3, rfl, q3, S3⟩ := src_ok hr4 (RD.ext (z4) _ _ rv3) t3
  obtain ⟨b4, a4, vs4, rfl, q4, S4⟩ := src_ok hr4 rv4 t4
  refine ⟨b1, b2, b3, b4, a1, a2, a3, a4, vs1, vs2, vs3, vs4, rfl, ⟨q1, q2, q3, q4⟩, ?_⟩
  exact wpR.at (a := (rows.map D.tup, lk)) h4 hr4 _ (walk_z4 ez t1 t2 t3 t4 S1 S2 S3 S4)
theorem s_enum (C : Ctx X c T F W) {a : LE} {x : Expr} {elts : List Expr} {kk : Nat} {p tpos pos : Pos} (hg : glB c.sc ("enumerate" : Str) = true) (hx : noStar x = true) (ha : PE X x (lfE X T W (evE F a))) :
    PI X (.Tuple elts kk tpos) (.Call (.Name "enumerate" p) [x] [] pos) (lfI X T W (evI F (.enum a))) := by
  have hm : X.mg ("enumerate" : Str) = none := C.bl _ (by decide)
  refine ⟨fun pins s σ H R I h => (KZ.pi_e (gl_of C hg) hm (pa_cons ha pa_nil (star_cons hx)) (star_cons hx)).run pins s σ H R I ?_⟩
  obtain ⟨M, s, g, rs, h⟩ := h
  refine ⟨M, s, g, rs, wpR.bind (by simpa only [evI] using h) fun y M1 H1 g1 z1 hr1 h1 v rv => ?_⟩
  cases ez : srcD g1 y with
  | none => rw [ez] at h1; exact h1.elim
  | some pr =>
    obtain ⟨xs, lk⟩ := pr
    rw [ez] at h1
    obtain ⟨b, q, vs, rfl, k1, S⟩ := src_ok hr1 rv ez
    exact ⟨b, q, vs, rfl, k1, wpR.at (a := (enumL 0 xs, lk)) h1 hr1 _ (walk_en S)⟩
theorem rangeS_len (lo hi : Int) : (rangeS lo hi (-1)).length = (lo - hi).toNat := by
  unfold rangeS
  rw [List.length_map, List.length_range, if_neg (by decide)]
  congr 1
  rw [show (-(-1 : Int)) = 1 by decide, Int.ediv_one]
  omega
theorem walk_rs {K : PySem.W.Frag} {M1 : Mp} {H1 : Hp} {lo hi : Int} (hn : (rangeS lo hi (-1)).length ≤ LIM) : WalkD K T (Itc lo (-1) (lo - hi).toNat) M1 H1 ((rangeS lo hi (-1)).map .int) [] := by
  have hl : ((rangeS lo hi (-1)).map D.int).length = (lo - hi).toNat := by rw [List.length_map, rangeS_len]
  refine ⟨by rw [List.length_map]; exact hn, fun M H g e hr _ i => ?_⟩
  refine ⟨fun hi' => by rw [hl] at hi'; exact hi', fun hi' => by rw [hl] at hi'; exact hi', fun x H' y d hd => ?_⟩
  obtain ⟨rfl, rfl⟩ := y
  refine ⟨Ext.refl _ _, hr, ?_⟩
  rw [List.getElem?_map] at hd
  unfold rangeS at hd
  rw [List.getElem?_map] at hd
  cases e2 : (List.range (if 0 < (-1 : Int) then ((hi - lo + (-1) - 1) / (-1)).toNat else ((lo - hi + (-(-1)) - 1) / (-(-1))).toNat))[i]? with
  | none => rw [e2] at hd; cases hd
  | some k =>
    rw [e2] at hd
    have : k = i := by
      obtain ⟨h1, h2⟩ := List.getElem?_eq_some_iff.mp e2
      rw [List.getElem_range] at h2
      exact h2.symm
    subst this
    cases hd
    rfl
theorem s_range3 (C : Ctx X c T F W) {tg x y z : Expr} {a b d : LE} {p pos : Pos} (hg : glB c.sc ("range" : Str) = true) (hx : noStars [x, y, z] = true) (ha : PE X x (lfE X T W (evE F a))) (hb : PE X y (lfE X T W (evE F b))) (hd : PE X z (lfE X T W (evE F d))) :
    PI X tg (.Call (.Name "range" p) [x, y, z] [] pos) (lfI X T W (evI F (.range3 a b d))) := by
  have hm : X.mg ("range" : Str) = none := C.bl _ (by decide)
  simp only [noStars, Bool.and_eq_true] at hx
  refine ⟨fun pins s σ H R I h => (pi_range3 (gl_of C hg) hm (pa_cons ha (pa_cons hb (pa_cons hd pa_nil (star_cons hx.2.2.1)) (star_cons hx.2.1)) (star_cons hx.1)) (star_cons hx.1) (star_any (by simp only [noStars, Bool.and_eq_true]; exact hx.2))).run pins s σ H R I ?_⟩
  obtain ⟨M, s, g, rs, h⟩ := h
  refine ⟨M, s, g, rs, wpR.bind (by simpa only [evI] using h) fun x M1 H1 g1 e1 hr1 h1 v rv => ⟨M1, s, g1, rs.ext e1 hr1, h1.bind fun y M2 H2 g2 e2 hr2 h2 u ru => ⟨M2, s, g2, rs.ext (e1.trans e2) hr2, h2.bind fun z M3 H3 g3 e3 hr3 h3 w rw' => ?_⟩⟩⟩
  cases x <;> try exact h3.elim
  cases y <;> try exact h3.elim
  cases z <;> try exact h3.elim
  rename_i lo hi st
  cases rv
  cases ru
  cases rw'
  simp only [asI, oR_some, KN.R.bind_ok] at h3
  split at h3
  · rename_i ho
    obtain ⟨o1, rfl, o3⟩ := ho
    obtain ⟨b1, b2, b3, b4⟩ := okR_of o1
    refine ⟨lo, hi, -1, (lo - hi).toNat, rfl, ?_, h3.at hr3 _ (walk_rs o3)⟩
    exact RgC.neg b1 b2 b3 b4
  · exact h3.elim
end
end KN

namespace KN
open PySem PySem.Spec PyProof.Rows L2

/-! ### targets -/
def setV : List Nat → List V → L2.St → L2.St
  | i :: is, v :: vs, σ => setV is vs (σ.set i (some v))
  | _, _, σ => σ
theorem RS.setA {K : PySem.W.Frag} {T : Tb} {M : Mp} {H : Hp} {g : G} : ∀ {is : List Nat} {ds : List D} {vs : List V} {s s' : KN.St} {σ : L2.St}, RS K T M H g s σ → RDs K T M H ds vs → setA is ds s = some s' → RS K T M H g s' (setV is vs σ)
  | [], [], vs, s, s', σ, rs, h, e => by cases h; cases e; exact rs
  | [], _ :: _, vs, s, s', σ, rs, h, e => by simp [KN.setA] at e
  | _ :: _, [], vs, s, s', σ, rs, h, e => by simp [KN.setA] at e
  | i :: is, d :: ds, vs, s, s', σ, rs, h, e => by
    obtain ⟨v, r, rfl, h1, h2⟩ := h
    simp only [KN.setA] at e
    split at e
    · rename_i hi
      show RS K T M H g s' (setV is r (σ.set i (some v)))
      exact RS.setA (rs.set hi h1) h2 e
    · cases e
theorem setA_len : ∀ {is : List Nat} {ds : List D} {s s' : KN.St}, setA is ds s = some s' → is.length = ds.length
  | [], [], _, _, _ => rfl
  | [], _ :: _, s, s', e => by simp [KN.setA] at e
  | _ :: _, [], s, s', e => by simp [KN.setA] at e
  | i :: is, d :: ds, s, s', e => by
    simp only [KN.setA] at e
    split at e
    · simp [setA_len e]
    · cases e
theorem wipe_set {σ : L2.St} {i : Nat} {x : Option V} : ∀ {own : List Nat}, i ∈ own → wipe (σ.set i x) own = wipe σ own
  | [], h => by simp at h
  | j :: own, h => by
    show (wipe (σ.set i x) own).set j none = (wipe σ own).set j none
    by_cases hj : i ∈ own
    · rw [wipe_set hj]
    · have e : i = j := by simpa [hj] using h
      subst e
      have aux : ∀ own : List Nat, i ∉ own → wipe (σ.set i x) own = (wipe σ own).set i x := by
        intro own
        induction own with
        | nil => intro _; rfl
        | cons k own ih =>
          intro hk
          have h1 : i ∉ own := fun z => hk (by simp [z])
          have h2 : i ≠ k := fun z => hk (by simp [z])
          show (wipe (σ.set i x) own).set k none = ((wipe σ own).set k none).set i x
          rw [ih h1, List.set_comm _ _ h2]
      rw [aux own hj, List.set_set]
theorem wipe_setV {own : List Nat} : ∀ {is : List Nat} {vs : List V} {σ : L2.St}, (∀ i ∈ is, i ∈ own) → wipe (setV is vs σ) own = wipe σ own
  | [], _, _, _ => rfl
  | _ :: _, [], _, _ => rfl
  | i :: is, v :: vs, σ, h => by
    show wipe (setV is vs (σ.set i (some v))) own = _
    rw [wipe_setV fun j hj => h j (by simp [hj]), wipe_set (h i (by simp))]
theorem wipe_idem {σ : L2.St} : ∀ {own own' : List Nat}, (∀ i ∈ own, i ∈ own') → wipe (wipe σ own) own' = wipe σ own'
  | [], _, _ => rfl
  | i :: own, own', h => by
    show wipe ((wipe σ own).set i none) own' = _
    rw [wipe_set (h i (by simp)), wipe_idem fun j hj => h j (by simp [hj])]
theorem RS.wipe {K : PySem.W.Frag} {T : Tb} {M : Mp} {H : Hp} {g : G} {s : KN.St} {σ : L2.St} (rs : RS K T M H g s σ) : ∀ own : List Nat, RS K T M H g (wipeA s own) (L2.wipe σ own)
  | [] => rs
  | i :: own => by
    have ih := RS.wipe rs own
    refine ⟨ih.hr, by show (((L2.wipe σ own).set i none).length = ((wipeA s own).set i none).length); rw [List.length_set, List.length_set]; exact ih.len, fun j d q => ?_⟩
    have q' : ((wipeA s own).set i none)[j]? = some (some d) := q
    by_cases hj : j = i
    · subst hj
      rw [List.getElem?_set] at q'
      simp at q'
    · rw [List.getElem?_set_ne (Ne.symm hj)] at q'
      obtain ⟨v, h1, h2⟩ := ih.sl j d q'
      refine ⟨v, ?_, h2⟩
      show ((L2.wipe σ own).set i none)[j]? = _
      rw [List.getElem?_set_ne (Ne.symm hj)]
      exact h1

section
variable {X : Cx} {c : Ck} {T : Tb} {F : Fn} {W : WX}
/-- storing an item into a target -/
def lfG (K : PySem.W.Frag) (T : Tb) (t : LT) : TG := fun v σ H Q => ∃ d M s g s', RS K T M H g s σ ∧ RD K T M H d v ∧ setT t d s = some s' ∧ ∀ σ', RS K T M H g s' σ' → (∀ own, (∀ i ∈ ownT t, i ∈ own) → wipe σ' own = wipe σ own) → Q σ' H
def gAll (n : Nat) (is : List Nat) : TGs := fun vs σ H Q => vs.length = n ∧ Q (setV is vs σ) H
/-- what a target asks of where it stands -/
structure TgOk (X : Cx) (c : Ck) : Prop where
  hN : X.N = c.N
  nd : c.N.Nodup
  sc : X.env.scope = c.sc
  fc : X.fn = c.fc
  calm : X.calm = true
theorem Ctx.tg (C : Ctx X c T F W) : TgOk X c := ⟨C.hN, C.nd, C.sc, C.fc, C.calm⟩
theorem st_of (C : TgOk X c) {i : Nat} {x : Str} (h : stB c i x = true) : X.N[i]? = some x ∧ L2.Loc X.env.scope x ∧ (X.fn x = true ∨ X.env.scope.names.lookup x = some .local) := by
  unfold stB at h
  simp only [Bool.and_eq_true, decide_eq_true_eq] at h
  refine ⟨by rw [C.hN]; exact h.1.1, ?_⟩
  have h := h.1.2
  rw [C.sc, C.fc]
  unfold locB at h
  unfold L2.Loc
  split at h
  · rename_i e; exact ⟨.inl e, .inr e⟩
  · rename_i e; exact ⟨.inr e, .inl h⟩
  · cases h
theorem g_all (C : TgOk X c) : ∀ {is : List Nat} {es : List Expr}, kTs c is es = true → PGs X es (gAll is.length is) ∧ (assignEach es X.env).length = is.length ∧ (assignEach es X.env).findIdx? (·.1) = none
  | [], [], _ => ⟨⟨fun pins s σ H vs us Q I r h => pgs_nil.run pins s σ H vs us Q I r (by
      obtain ⟨e, q⟩ := h
      have : vs = [] := List.length_eq_zero_iff.mp e
      subst this
      exact ⟨rfl, q⟩)⟩, rfl, rfl⟩
  | [], _ :: _, h => by simp [kTs] at h
  | i :: is, [], h => by simp [kTs] at h
  | i :: is, e :: es, h => by
    cases e with
    | Name x p =>
      simp only [kTs, Bool.and_eq_true] at h
      obtain ⟨h1, h2, h3⟩ := st_of C h.1
      obtain ⟨k1, k2, k3⟩ := g_all C h.2
      refine ⟨⟨fun pins s σ H vs us Q I r hh => (pgs_cons (pg_name (by rw [C.hN]; exact C.nd) h1 h2 h3) k1).run pins s σ H vs us Q I r ?_⟩, ?_, ?_⟩
      · obtain ⟨e, q⟩ := hh
        cases vs with
        | nil => simp at e
        | cons v vs => exact ⟨v, vs, rfl, by simpa using e, q⟩
      · show ((false, _) :: assignEach es X.env).length = _
        rw [List.length_cons, k2]
        rfl
      · show ((false, _) :: assignEach es X.env).findIdx? (·.1) = none
        rw [List.findIdx?_cons, k3]
        rfl
    | _ => simp [kTs] at h
theorem kT_each {t : LT} {e : Expr} {es : List Expr} {env : Env} (h : kT c t e = true) : assignEach (e :: es) env = (false, assign e env) :: assignEach es env := by
  cases t with
  | name i => cases e <;> first | rfl | simp [kT] at h
  | tup is => cases e <;> first | rfl | simp [kT] at h
  | two a b => cases e <;> first | rfl | simp [kT] at h
theorem s_tgt (C : TgOk X c) : ∀ {t : LT} {e : Expr}, kT c t e = true → PG X e (lfG X.K T t)
  | .name i, e, h => by
    cases e with
    | Name x p =>
      obtain ⟨h1, h2, h3⟩ := st_of C h
      refine ⟨fun pins s σ H v u Q I r hh => (pg_name (by rw [C.hN]; exact C.nd) h1 h2 h3).run pins s σ H v u Q I r ?_⟩
      obtain ⟨d, M, s0, g, s', rs, rd, e, q⟩ := hh
      simp only [setT] at e
      split at e
      · rename_i hi
        cases e
        exact q _ (rs.set hi rd) fun own ho => wipe_set (ho i (by simp [ownT]))
      · cases e
    | _ => simp [kT] at h
  | .tup is, e, h => by
    cases e with
    | Tuple es k p =>
      obtain ⟨k1, k2, k3⟩ := g_all C (show kTs c is es = true from h)
      refine ⟨fun pins s σ H v u Q I r hh => ?_⟩
      obtain ⟨d, M, s0, g, s', rs, rd, e, q⟩ := hh
      cases d with
      | tup xs =>
        obtain ⟨a, vs, rfl, h1, h2, h3⟩ := rd
        refine (pg_tup (t := gAll is.length is) C.calm k1 k2 k3).run pins s σ H _ u Q I r ⟨a, vs, rfl, h1.sq, by rw [← h3.length]; exact (setA_len e).symm, by rw [← h3.length]; exact (setA_len e).symm, ?_⟩
        exact q _ (RS.setA rs h3 e) fun own ho => wipe_setV ho
      | lst xs =>
        obtain ⟨a, vs, rfl, h1, h2, h3⟩ := rd
        refine (pg_unl (t := gAll is.length is) C.calm k1 k2 k3).run pins s σ H _ u Q I r ⟨a, vs, rfl, .inl (.inl h1.1), by rw [← h3.length]; exact (setA_len e).symm, by rw [← h3.length]; exact (setA_len e).symm, ?_⟩
        exact q _ (RS.setA rs h3 e) fun own ho => wipe_setV ho
      | _ => simp [setT] at e
    | _ => simp [kT] at h
  | .two a b, e, h => by
    cases e with
    | Tuple es k p =>
      simp only [kT] at h
      split at h
      · rename_i x y
        simp only [Bool.and_eq_true] at h
        have g1 := s_tgt C h.1
        have g2 := s_tgt C h.2
        have ew1 := kT_each (es := [y]) (env := X.env) h.1
        have ew2 := kT_each (es := []) (env := X.env) h.2
        have hl : (assignEach [x, y] X.env).length = 2 := by rw [ew1, ew2]; rfl
        have hf : (assignEach [x, y] X.env).findIdx? (·.1) = none := by rw [ew1, ew2]; rfl
        have gs : PGs X [x, y] (fun vs σ H Q => ∃ v1 v2, vs = [v1, v2] ∧ lfG X.K T a v1 σ H fun σ1 H1 => lfG X.K T b v2 σ1 H1 Q) :=
          ⟨fun pins s σ H vs us Q I r hh => (pgs_cons g1 (pgs_cons g2 pgs_nil (by rw [ew2]; rfl)) (by rw [ew1]; rfl)).run pins s σ H vs us Q I r (by
            obtain ⟨v1, v2, rfl, q⟩ := hh
            refine ⟨v1, [v2], rfl, ?_⟩
            obtain ⟨d, M, s0, g, s', rs, rd, e, q⟩ := q
            refine ⟨d, M, s0, g, s', rs, rd, e, fun σ' rs' hw => ⟨v2, [], rfl, ?_⟩⟩
            obtain ⟨d2, M2, s2, g2, s2', rs2, rd2, e2, q2⟩ := q σ' rs' hw
            exact ⟨d2, M2, s2, g2, s2', rs2, rd2, e2, fun σ2 rs3 hw2 => ⟨rfl, q2 σ2 rs3 hw2⟩⟩)⟩
        refine ⟨fun pins s σ H v u Q I r hh => ?_⟩
        obtain ⟨d, M, s0, g, s', rs, rd, e, q⟩ := hh
        have two : ∀ {xs : List D} {vs : List V}, RDs X.K T M H xs vs → (∃ x1 y1, xs = [x1, y1] ∧ (setT a x1 s0).bind (fun s => setT b y1 s) = some s') → vs.length = 2 ∧ ∃ v1 v2, vs = [v1, v2] ∧ lfG X.K T a v1 σ H fun σ1 H1 => lfG X.K T b v2 σ1 H1 Q := by
          rintro xs vs r3 ⟨x1, y1, rfl, e2⟩
          obtain ⟨v1, v2, rfl, r1, r2⟩ := rds2 r3
          cases ea : setT a x1 s0 with
          | none => rw [ea] at e2; cases e2
          | some s1 =>
            rw [ea, Option.bind_some] at e2
            refine ⟨rfl, v1, v2, rfl, x1, M, s0, g, s1, rs, r1, ea, fun σ1 rs1 hw1 => ⟨y1, M, s1, g, s', rs1, r2, e2, fun σ2 rs2 hw2 => q σ2 rs2 fun own ho => ?_⟩⟩
            rw [hw2 own fun i hi => ho i (by simp [ownT, hi]), hw1 own fun i hi => ho i (by simp [ownT, hi])]
        simp only [setT] at e
        split at e
        · rename_i x1 y1
          obtain ⟨p', vs, rfl, h1, h2, h3⟩ := rd
          obtain ⟨l2, z⟩ := two h3 ⟨x1, y1, rfl, e⟩
          exact (pg_tup C.calm gs hl hf).run pins s σ H _ u Q I r ⟨p', vs, rfl, h1.sq, l2, z⟩
        · rename_i x1 y1
          obtain ⟨p', vs, rfl, h1, h2, h3⟩ := rd
          obtain ⟨l2, z⟩ := two h3 ⟨x1, y1, rfl, e⟩
          exact (pg_unl C.calm gs hl hf).run pins s σ H _ u Q I r ⟨p', vs, rfl, .inl (.inl h1.1), l2, z⟩
        · cases e
      · cases h
    | _ => simp [kT] at h

/-! ### comprehensions -/
abbrev W0 : WX := fun _ _ _ _ => False
theorem Ext.hid {M M' : Mp} {H H' : Hp} (e : Ext M H M' H') {p : Addr} {o : HO} (h : H p = none) : Ext M H M' (upd H' p o) :=
  ⟨e.sub, e.bf, e.pre, fun q u hq hm nt => by rw [upd_ne (ne_of_none hq h)]; exact e.keep q u hq hm nt, e.fresh⟩
theorem Keeps.hid {M : Mp} {H : Hp} {p : Addr} {o : HO} (h : p ∈ M.b) : Keeps M H M (upd H p o) :=
  ⟨fun q u e ho _ => ⟨ho, by
    have hne : q ≠ p := fun z => ho.2 (by rw [z]; exact h)
    rw [upd_ne hne]; exact e⟩, fun _ _ h => h⟩
theorem HR.hid {K : PySem.W.Frag} {M : Mp} {H : Hp} {g : G} (hr : HR K T M H g) {p : Addr} {o : HO} {ws : List V} (h : p ∈ M.b) (hw : H p = some (.lst ws)) (nt : ∀ ps, o ≠ HO.tbl ps := by intro ps z; cases z) : HR K T M (upd H p o) g := by
  refine ⟨hr.len, hr.nd, fun a u q h1 h2 => ?_, fun q hq => ?_, hr.ap, tabs_put hr.tb hw (fun _ z => by cases z) (fun _ _ z => by unfold LamX.CodeO at z; cases z)⟩
  · refine RO.keeps (Keeps.hid h) ?_ (hr.ob a u q h1 h2)
    refine upd_ne fun z => hr.ap p h ?_
    rw [← z]; exact List.mem_of_getElem? h2
  · obtain ⟨u, z, zt⟩ := hr.th q hq
    by_cases e : q = p
    · exact ⟨o, by rw [e, upd_same], nt⟩
    · exact ⟨u, by rw [upd_ne e]; exact z, zt⟩
/-- a list that was kept apart is let go: a frozen one, or a place -/
theorem out_done {K : PySem.W.Frag} {M1 M : Mp} {H1 H : Hp} {g g1 : G} {p : Addr} {ds : List D} {vs : List V} {mu : Bool} {Q : VK} {σ : L2.St} (hr1 : HR K T M1 H1 g1) (e : Ext M1 H1 M H) (hr : HR K T M H g) (hp : H1 p = none) (hb : p ∈ M.b) (hv : H p = some (.lst vs)) (r : RDs K T M H ds vs) (hl : vs.length ≤ LIM)
    (h : wpR K T W σ M1 H1 (mkC mu ds g) fun d M' H' _ => ∀ v, RD K T M' H' d v → Q v H') : Q (.ref p) H := by
  have o1 := hr1.out hp
  have pm : p ∉ M.m := hr.ap p hb
  cases mu with
  | false =>
    have k : Keeps M H ⟨M.m, M1.b⟩ H := ⟨fun q u eq ho _ => ⟨⟨ho.1, fun z => ho.2 (e.sub q z)⟩, eq⟩, fun _ _ h => h⟩
    have h' : wpR K T W σ M1 H1 (KN.R.ok (D.lst ds) g) fun d M' H' _ => ∀ v, RD K T M' H' d v → Q v H' := by simpa only [mkC, Bool.false_eq_true, if_false] using h
    refine h' ⟨M.m, M1.b⟩ H ⟨fun q z => z, fun q z => .inl z, e.pre, e.keep, e.fresh⟩ ⟨hr.len, hr.nd, fun a u q h1 h2 => RO.keeps k rfl (hr.ob a u q h1 h2), fun q hq => hr.th q fun z => hq ⟨z.1, fun y => z.2 (e.sub q y)⟩, fun q z => hr.ap q (e.sub q z), hr.tb⟩ _ ?_
    exact ⟨p, vs, rfl, ⟨hv, pm, o1.2⟩, hl, RDs.keeps k _ _ r⟩
  | true =>
    have k : Keeps M H ⟨M.m ++ [p], M1.b⟩ H := ⟨fun q u eq ho _ => ⟨⟨fun z => by
        rcases List.mem_append.mp z with y | y
        · exact ho.1 y
        · rw [List.mem_singleton.mp y] at ho; exact ho.2 hb, fun z => ho.2 (e.sub q z)⟩, eq⟩, fun a q h => by
        rw [List.getElem?_append_left (List.getElem?_eq_some_iff.mp h).1]; exact h⟩
    have h' : wpR K T W σ M1 H1 (KN.R.ok (D.ref g.length) (g ++ [.lst ds])) fun d M' H' _ => ∀ v, RD K T M' H' d v → Q v H' := by simpa only [mkC, if_true] using h
    refine h' ⟨M.m ++ [p], M1.b⟩ H ⟨fun q z => z, fun q z => .inl z, e.pre.trans (List.prefix_append _ _), e.keep, fun q z => ?_⟩ ⟨by simp [hr.len], ?_, fun a u q h1 h2 => ?_, fun q hq => ?_, fun q z hm => ?_, hr.tb⟩ _ ⟨p, by rw [← hr.len]; simp, rfl⟩
    · rcases List.mem_append.mp z with y | y
      · exact e.fresh q y
      · rw [List.mem_singleton.mp y]; exact .inr (.of hp)
    · refine List.nodup_append.mpr ⟨hr.nd, by simp, fun x hx y hy => ?_⟩
      rw [List.mem_singleton.mp hy]
      rintro rfl
      exact pm hx
    · by_cases ha : a < g.length
      · rw [List.getElem?_append_left ha] at h1
        have h2' : (M.m ++ [p])[a]? = some q := h2
        rw [List.getElem?_append_left (by rw [hr.len]; exact ha)] at h2'
        exact RO.keeps k rfl (hr.ob a u q h1 h2')
      · have e1 : a = g.length := by
          have := (List.getElem?_eq_some_iff.mp h1).1
          simp at this; omega
        subst e1
        simp at h1
        have h2' : (M.m ++ [p])[g.length]? = some q := h2
        rw [← hr.len] at h2'
        simp at h2'
        subst h1; subst h2'
        exact ⟨vs, hv, hl, RDs.keeps k _ _ r⟩
    · by_cases z : q = p
      · exact ⟨_, by rw [z]; exact hv, fun _ z => by cases z⟩
      · exact hr.th q fun w => hq ⟨fun hm => by
          rcases List.mem_append.mp hm with y | y
          · exact w.1 y
          · exact z (List.mem_singleton.mp y), fun y => w.2 (e.sub q y)⟩
    · rcases List.mem_append.mp hm with y | y
      · exact hr.ap q (e.sub q z) y
      · rw [List.mem_singleton.mp y] at z; exact o1.2 z
theorem compL_lock {t : LT} {lk : Lk} {cc : KN.St → G → R Bool} {ee : KN.St → G → R D} {ds : List D} {s : KN.St} {g : G} (h : compL t lk cc ee ds s g ≠ .st) : lockOk lk g := by
  cases ds with
  | nil =>
    rw [compL] at h
    by_cases q : lockOk lk g
    · exact q
    · rw [if_neg q] at h; exact absurd rfl h
  | cons d r =>
    rw [compL] at h
    by_cases q : lockOk lk g
    · exact q
    · rw [if_neg q] at h; exact absurd rfl h
theorem wpR.bindN {K : PySem.W.Frag} {A B : Type} {σ σ2 : L2.St} {M M1 : Mp} {H H1 : Hp} {r : R A} {f : A → G → R B} {post : B → Mp → Hp → G → Prop} {mid : A → Mp → Hp → G → Prop} (h : wpR K T W σ M1 H1 (r.bindN f) post)
    (k : ∀ a M2 H2 g2, wpR K T W σ M1 H1 (f a g2) post → Ext M H M2 H2 → HR K T M2 H2 g2 → mid a M2 H2 g2) : wpR K T W0 σ2 M H r mid := by
  cases r with
  | ok a g => exact fun M' H' e hr => k a M' H' g h e hr
  | exc x g => exact h.elim
  | st => exact h.elim
theorem s_lc (C : Ctx X c T F W) {mu : Bool} {e : LE} {t : LT} {i : LI} {cc : LCs} {elt tg iter : Expr} {ifs : List Expr} {scope : Scope} {pos : Pos} {wi : TI} {own : List (Str × Nat)} (how : own.map (·.2) = ownT t)
    {σ : L2.St} {H : Hp} {Q : VK} (K' : PySem.W.Frag) (hK : K' = X.K)
    (h : lfE X T W (evE F (.comp mu e t i cc)) σ H Q) :
    tLc (lfI X T W (evI F i)) (lfG K' T t) (fun σ H Q => ∃ M s g, RS K' T M H g s σ ∧ wpR K' T W0 σ M H (evCs F cc s g) fun b _ H' _ => Q b H') (fun σ H Q => ∃ M s g, RS K' T M H g s σ ∧ wpR K' T W0 σ M H (evE F e s g) fun d M' H' _ => ∀ v, RD K' T M' H' d v → Q v H') (own.map (·.2)) σ H Q := by
  subst hK
  rw [how]
  obtain ⟨M, s, g, rs, h⟩ := h
  refine ⟨M, s, g, rs, wpR.bind (by simpa only [evE] using h) fun p M1 H1 g1 e1 hr1 h1 J wd p0 hp0 => ?_⟩
  obtain ⟨items, lk⟩ := p
  have rs1 := rs.ext e1 hr1
  simp only at h1 wd
  refine ⟨fun i m H2 => m = items.length - i ∧ i ≤ items.length ∧ ∃ M2 g2 acc vs, Ext M1 H1 M2 H2 ∧ HR X.K T M2 H2 g2 ∧ p0 ∈ M2.b ∧ H2 p0 = some (.lst vs) ∧ RDs X.K T M2 H2 acc vs ∧ vs.length ≤ i ∧
    wpR X.K T W σ M1 H1 ((compL t lk (evCs F cc) (evE F e) (items.drop i) s g2).bind fun xs g => mkC mu (acc ++ xs) g) (PQ X T Q), ⟨items.length, by simp, Nat.zero_le _, ⟨M1.m, p0 :: M1.b⟩, g1, [], [], ?_, ?_, List.mem_cons_self, upd_same, rfl, Nat.zero_le _, by simpa using h1⟩, ?_⟩
  · exact ⟨fun q z => List.mem_cons_of_mem _ z, fun q z => by
      rcases List.mem_cons.mp z with z | z
      · rw [z]; exact .inr (.inr (.of hp0))
      · exact .inl z, List.prefix_refl _, fun q u hq _ _ => by rw [upd_ne (ne_of_none hq hp0)]; exact hq, fun q z => .inl z⟩
  · have hn := hr1.new (o := HO.lst []) hp0
    have ho := hr1.out hp0
    have k : Keeps M1 H1 ⟨M1.m, p0 :: M1.b⟩ (upd H1 p0 (.lst [])) := ⟨fun q u hq z _ => ⟨⟨z.1, fun y => by
      rcases List.mem_cons.mp y with y | y
      · rw [y, hp0] at hq; cases hq
      · exact z.2 y⟩, by rw [upd_ne (ne_of_none hq hp0)]; exact hq⟩, fun _ _ h => h⟩
    refine ⟨hr1.len, hr1.nd, fun a u q z1 z2 => RO.keeps k (upd_ne fun z => ho.1 (by rw [← z]; exact List.mem_of_getElem? z2)) (hr1.ob a u q z1 z2), fun q hq => ?_, fun q z hm => ?_, tabs_new hr1.tb hp0⟩
    · by_cases z : q = p0
      · exact ⟨_, by rw [z, upd_same], fun _ z => by cases z⟩
      · obtain ⟨u, y, yt⟩ := hr1.th q fun w => hq ⟨w.1, fun y => by
          rcases List.mem_cons.mp y with y | y
          · exact z y
          · exact w.2 y⟩
        exact ⟨u, by rw [upd_ne z]; exact y, yt⟩
    · rcases List.mem_cons.mp z with z | z
      · rw [z] at hm; exact ho.1 hm
      · exact hr1.ap q z hm
  rintro i m H2 ⟨rfl, hi, M2, g2, acc, vs, e2, hr2, hb2, hv2, ra2, hl2, hrest⟩
  have lock : lockOk lk g2 := compL_lock fun z => by rw [z] at hrest; exact hrest
  obtain ⟨w1, w2, w3⟩ := wd.st M2 H2 g2 e2 hr2 lock i
  by_cases hlt : i < items.length
  · refine .inr ⟨w1 hlt, fun H' => ∃ M2 g2 acc vs, Ext M1 H1 M2 H' ∧ HR X.K T M2 H' g2 ∧ p0 ∈ M2.b ∧ H' p0 = some (.lst vs) ∧ RDs X.K T M2 H' acc vs ∧ vs.length ≤ i + 1 ∧
      wpR X.K T W σ M1 H1 ((compL t lk (evCs F cc) (evE F e) (items.drop (i + 1)) s g2).bind fun xs g => mkC mu (acc ++ xs) g) (PQ X T Q), fun H' n => ⟨items.length - (i + 1), by omega, rfl, hlt, n⟩, fun x H3 y => ?_⟩
    have hd : items[i]? = some items[i] := List.getElem?_eq_getElem hlt
    obtain ⟨e3, hr3, rx⟩ := w3 x H3 y _ hd
    rw [List.drop_eq_getElem_cons hlt, compL, if_pos lock] at hrest
    cases es : setT t items[i] (wipeA s (ownT t)) with
    | none => rw [es] at hrest; exact hrest.elim
    | some s1 =>
      rw [es] at hrest
      have rs3 := (rs1.ext (e2.trans e3) hr3).wipe (ownT t)
      refine ⟨items[i], M2, wipeA s (ownT t), g2, s1, rs3, rx, es, fun σ2 rs4 hw => ⟨?_, M2, s1, g2, rs4, ?_⟩⟩
      · rw [hw _ fun j hj => hj]; exact wipe_idem fun j hj => hj
      simp only at hrest
      -- the test
      have step : ∀ {A : Type} {r : R A} {f : A → G → R (List D)}, (r.bindN f).bind (fun xs g => mkC mu (acc ++ xs) g) = r.bindN fun a g => (f a g).bind fun xs g => mkC mu (acc ++ xs) g := fun {A r f} => by cases r <;> rfl
      rw [step] at hrest
      refine wpR.bindN hrest fun b M5 H5 g5 h5 e5 hr5 => ?_
      have p3 : H3 p0 = some (.lst vs) := e3.keep _ _ hv2 (hr2.ap _ hb2) (fun _ z => by cases z)
      have p5 : H5 p0 = some (.lst vs) := e5.keep _ _ p3 (hr3.ap _ hb2) (fun _ z => by cases z)
      have b5 : p0 ∈ M5.b := e5.sub _ hb2
      have e15 := (e2.trans e3).trans e5
      cases b with
      | false =>
        rw [if_neg Bool.false_ne_true] at h5
        refine iteF ⟨M5, g5, acc, vs, e15, hr5, b5, p5, RDs.ext (e3.trans e5) _ _ ra2, by omega, h5⟩
      | true =>
        rw [if_pos rfl] at h5
        refine iteT ⟨M5, s1, g5, rs4.ext e5 hr5, ?_⟩
        rw [step] at h5
        refine wpR.bindN h5 fun y M6 H6 g6 h6 e6 hr6 v rv => ?_
        have p6 : H6 p0 = some (.lst vs) := e6.keep _ _ p5 (hr5.ap _ b5) (fun _ z => by cases z)
        have b6 : p0 ∈ M6.b := e6.sub _ b5
        have k6 : Keeps M6 H6 M6 (upd H6 p0 (.lst (vs ++ [v]))) := Keeps.hid b6
        refine ⟨vs, p6, by have := wd.len; rw [← LIM_eq]; omega, M6, g6, acc ++ [y], vs ++ [v], (e15.trans e6).hid hp0, hr6.hid b6 p6, b6, upd_same, ?_, by simp; omega, ?_⟩
        · refine (RDs.keeps k6 _ _ (RDs.ext ((e3.trans e5).trans e6) _ _ ra2)).append ⟨v, [], rfl, RD.keeps k6 _ _ rv, rfl⟩
        · have step2 : ∀ {r : R (List D)}, (r.bind fun xs g3 => KN.R.ok (y :: xs) g3).bind (fun xs g => mkC mu (acc ++ xs) g) = r.bind fun xs g => mkC mu ((acc ++ [y]) ++ xs) g := fun {r} => by
            cases r with
            | ok a g => show mkC mu (acc ++ y :: a) g = mkC mu ((acc ++ [y]) ++ a) g; rw [List.append_assoc]; rfl
            | exc _ _ => rfl
            | st => rfl
          rw [step2] at h6
          exact h6
  · have ei : i = items.length := by omega
    subst ei
    refine .inl ⟨w2 (Nat.le_refl _), ?_⟩
    rw [List.drop_length, compL, if_pos lock] at hrest
    have hrest' : wpR X.K T W σ M1 H1 (mkC mu acc g2) (PQ X T Q) := by simpa using hrest
    exact out_done hr1 e2 hr2 hp0 hb2 hv2 ra2 (by have := wd.len; omega) hrest'
end
end KN

namespace KN


open PySem PySem.Spec PyProof.Rows L2
section
variable {X : Cx} {c : Ck} {T : Tb} {F : Fn} {W : WX}

theorem Ctx.blk (C : Ctx X c T F W) {scope : Scope} {own : List (Str × Nat)} (ok : BlkOk c.N c.sc scope own) (s : Shared) (H : Hp) (Cc : Addr) (cl : List (Str × Addr)) (fp : List Addr) :
    Ctx (X.blk s H scope (compEnvC scope cl Cc X.env) fp) (c.blk scope) T F W0 where
  hN := C.hN
  nd := C.nd
  sc := by
    show relabel scope X.env = relS scope c.sc
    rw [← C.sc]
    rfl
  kd := ok.kind
  fc := rfl
  calm := C.calm
  hu := C.hu
  dp := C.dp
  lam := fun h => nomatch h
  tk := takes0
  po := PassesOwn.never
  bl := C.bl
  cal := fun f x h => ⟨(C.cal f x h).ok⟩
  con := fun f x h => ⟨(C.con f x h).ok⟩
  kn := C.kn
  inj := C.inj
  cln := C.cln
  cls := fun ci CC h => let K1 := C.cls ci CC h; ⟨K1.cl, K1.mkc, ⟨K1.ini.ok⟩, fun m f e => ⟨(K1.ms m f e).1, ⟨(K1.ms m f e).2.ok⟩⟩, fun m f e => ⟨(K1.prs m f e).1, ⟨(K1.prs m f e).2.ok⟩⟩, K1.fl⟩
  fns := fun f h => ⟨⟨(C.fns f h).1.ok⟩, (C.fns f h).2⟩
  hs := C.hs

theorem s_comp (C : Ctx X c T F W) {mu : Bool} {e : LE} {t : LT} {i : LI} {cc : LCs} {elt tg iter : Expr} {ifs : List Expr} {scope : Scope} {pos : Pos}
    (h1 : blkC c.N c.sc scope (ownN c t) = true) (h2 : (ownN c t).map (·.2) = ownT t) (h3 : kT (c.blk scope) t tg = true) (h4 : noSet iter = true)
    (hi : PI X tg iter (lfI X T W (evI F i)))
    (hc : ∀ {X' : Cx} {c' : Ck} (C' : Ctx X' c' T F W0), c' = c.blk scope → PTs X' ifs (lfC X' T W0 (evCs F cc)))
    (he : ∀ {X' : Cx} {c' : Ck} (C' : Ctx X' c' T F W0), c' = c.blk scope → PE X' elt (lfE X' T W0 (evE F e))) :
    PE X (.ListComp elt [⟨tg, iter, ifs, 0⟩] scope pos) (lfE X T W (evE F (.comp mu e t i cc))) := by
  have ok := blkOk_by h1
  exact (pe_lc C.calm (by rw [C.hN]; exact C.nd) hi (by rw [C.hN, C.sc]; exact ok) (fun s H Cc cl fp => s_tgt (C.blk ok s H Cc cl fp).tg h3) (fun s H Cc cl fp => hc (C.blk ok s H Cc cl fp) rfl) (fun s H Cc cl fp => he (C.blk ok s H Cc cl fp) rfl) (fold_of h4)).via
    fun σ H Q h => s_lc (pos := pos) (elt := elt) (tg := tg) (iter := iter) (ifs := ifs) (scope := scope) (wi := lfI X T W (evI F i)) C h2 X.K rfl h


def IE (T : Tb) (F : Fn) (l : LE) : Prop := ∀ (X : Cx) (c : Ck) (W : WX) (C : Ctx X c T F W) (e : Expr), kE c l e = true → PE X e (lfE X T W (evE F l))
def IEs (T : Tb) (F : Fn) (l : LEs) : Prop := ∀ (X : Cx) (c : Ck) (W : WX) (C : Ctx X c T F W) (es : List Expr), kEs c l es = true → PA X es (lfEs X T W (evEs F l))
def IO (T : Tb) (F : Fn) (l : LO) : Prop := ∀ (X : Cx) (c : Ck) (W : WX) (C : Ctx X c T F W) (e : Option Expr), kO c l e = true → PO X e (lfO X T W (evO F l))
def IC (T : Tb) (F : Fn) (l : LC) : Prop := ∀ (X : Cx) (c : Ck) (W : WX) (C : Ctx X c T F W) (e : Expr), kC c l e = true → PT X e (lfC X T W (evC F l)) ∧ ∀ op xs pos, e = .BoolOp op xs pos → PW X e (lfC X T W (evC F l))
def ICs (T : Tb) (F : Fn) (l : LCs) : Prop := ∀ (X : Cx) (c : Ck) (W : WX) (C : Ctx X c T F W) (es : List Expr), kCs c l es = true → PTs X es (lfC X T W (evCs F l))
def II (T : Tb) (F : Fn) (l : LI) : Prop := ∀ (X : Cx) (c : Ck) (W : WX) (C : Ctx X c T F W) (e tg : Expr), kI c l e = true → tgI l tg = true → PI X tg e (lfI X T W (evI F l))
theorem sE_var  {i} : IE T F (.var i) := fun X c W C e h => by
    cases e with
    | Name x p => exact s_var C (by unfold kE at h; exact h)
    | _ => exact absurd h Bool.false_ne_true
theorem sE_int  {i} : IE T F (.int i) := fun X c W C e h => by
    cases e with
    | Constant v k p =>
      cases v <;> first
        | (exact absurd h Bool.false_ne_true)
        | (unfold kE at h; simp only [decide_eq_true_eq] at h; subst h; exact pe_int.via fun σ H Q h => lf_con (d := D.int i) (fun _ _ => by unfold RD; rfl) (by simpa only [evE] using h))
    | _ => exact absurd h Bool.false_ne_true
theorem sE_str  {i} : IE T F (.str i) := fun X c W C e h => by
    cases e with
    | Constant v k p =>
      cases v <;> first
        | (exact absurd h Bool.false_ne_true)
        | (unfold kE at h; simp only [decide_eq_true_eq] at h; subst h; exact pe_str.via fun σ H Q h => lf_con (d := D.str i) (fun _ _ => by unfold RD; rfl) (by simpa only [evE] using h))
    | _ => exact absurd h Bool.false_ne_true
theorem sE_bl  {i} : IE T F (.bl i) := fun X c W C e h => by
    cases e with
    | Constant v k p =>
      cases v <;> first
        | (exact absurd h Bool.false_ne_true)
        | (unfold kE at h; simp only [decide_eq_true_eq] at h; subst h; exact pe_bl.via fun σ H Q h => lf_con (d := D.bl i) (fun _ _ => by unfold RD; rfl) (by simpa only [evE] using h))
    | _ => exact absurd h Bool.false_ne_true
theorem sE_non  : IE T F .non := fun X c W C e h => by
    cases e with
    | Constant v k p =>
      cases v <;> first
        | (exact absurd h Bool.false_ne_true)
        | (exact pe_non.via fun σ H Q h => lf_con (d := D.non) (fun _ _ => by unfold RD; rfl) (by simpa only [evE] using h))
    | _ => exact absurd h Bool.false_ne_true
theorem sE_dnew  : IE T F .dnew := fun X c W C e h => by
    cases e with
    | Dict ks vs p =>
      unfold kE at h; dsimp only at h
      split at h
      · exact s_dnew
      · cases h
    | _ => exact absurd h Bool.false_ne_true
theorem sE_index  {a} {i} (ih_a : IE T F a) (ih_i : IE T F i) : IE T F (.index a i) := fun X c W C e h => by
    cases e with
    | Call fn xs kws q =>
      unfold kE at h; dsimp only at h
      split at h
      · rename_i o name ap y
        simp only [Bool.and_eq_true, decide_eq_true_eq] at h
        obtain ⟨⟨⟨⟨⟨rfl, h1⟩, h2⟩, h3⟩, h4⟩, h5⟩ := h
        exact s_index h3 h4 h5 (ih_a _ _ _ C o h1) (ih_i _ _ _ C y h2)
      · cases h
    | _ => exact absurd h Bool.false_ne_true
theorem sE_con  {i} : IE T F (.con i) := fun X c W C e h => by
    cases e with
    | Name x p =>
      unfold kE at h; simp only [Bool.and_eq_true, decide_eq_true_eq] at h
      obtain ⟨u, v, q1, q2, q3⟩ := (C.con i x h.1.1).ok
      exact (pe_glob (gl_of C h.1.2) q1 q2 (dbg_of h.2).1).via fun σ H Q h => lf_con q3 (by simpa only [evE] using h)
    | _ => exact absurd h Bool.false_ne_true
theorem sE_tup  {es} (ih_es : IEs T F es) : IE T F (.tup es) := fun X c W C e h => by
    cases e with
    | Tuple xs k p => exact s_tup (ih_es _ _ _ C xs (by unfold kE at h; exact h))
    | _ => exact absurd h Bool.false_ne_true
theorem sE_lst  {mu} {es} (ih_es : IEs T F es) : IE T F (.lst mu es) := fun X c W C e h => by
    cases e with
    | List xs p => exact s_lst (ih_es _ _ _ C xs (by unfold kE at h; exact h))
    | _ => exact absurd h Bool.false_ne_true
theorem sE_bin  {o} {a} {b} (ih_a : IE T F a) (ih_b : IE T F b) : IE T F (.bin o a b) := fun X c W C e h => by
    cases e with
    | BinOp x p y q =>
      unfold kE at h; simp only [Bool.and_eq_true, decide_eq_true_eq] at h
      obtain ⟨⟨rfl, h1⟩, h2⟩ := h
      exact s_bin (ih_a _ _ _ C x h1) (ih_b _ _ _ C y h2)
    | _ => exact absurd h Bool.false_ne_true
theorem sE_neg  {a} (ih_a : IE T F a) : IE T F (.neg a) := fun X c W C e h => by
    cases e with
    | UnaryOp p x q =>
      cases p with
      | USub => exact s_neg (ih_a _ _ _ C x (by unfold kE at h; exact h))
      | _ => exact absurd h Bool.false_ne_true
    | _ => exact absurd h Bool.false_ne_true
theorem sE_cmp  {o} {a} {b} (ih_a : IE T F a) (ih_b : IE T F b) : IE T F (.cmp o a b) := fun X c W C e h => by
    cases e with
    | Compare x ops ys q =>
      unfold kE at h; dsimp only at h
      split at h
      · rename_i p y
        simp only [Bool.and_eq_true, decide_eq_true_eq] at h
        obtain ⟨⟨⟨rfl, h1⟩, h2⟩, h3⟩ := h
        exact s_cmp C h3 (ih_a _ _ _ C x h1) (ih_b _ _ _ C y h2)
      · cases h
    | _ => exact absurd h Bool.false_ne_true
theorem sE_chain  {o} {o'} {a} {b} {d} (ih_a : IE T F a) (ih_b : IE T F b) (ih_d : IE T F d) : IE T F (.chain o o' a b d) := fun X c W C e h => by
    cases e with
    | Compare x ops ys q =>
      unfold kE at h; dsimp only at h
      split at h
      · rename_i p p' y z
        simp only [Bool.and_eq_true, decide_eq_true_eq] at h
        obtain ⟨⟨⟨⟨⟨⟨rfl, rfl⟩, h1⟩, h2⟩, h3⟩, h4⟩, h5⟩ := h
        exact s_chain C h5 (ih_a _ _ _ C x h1) (ih_b _ _ _ C y h2) (ih_d _ _ _ C z h3)
      · cases h
    | _ => exact absurd h Bool.false_ne_true
theorem sE_and  {a} {b} (ih_a : IE T F a) (ih_b : IE T F b) : IE T F (.and a b) := fun X c W C e h => by
    cases e with
    | BoolOp op xs pos =>
      cases op with
      | And =>
        unfold kE at h; dsimp only at h
        split at h
        · rename_i x y
          simp only [Bool.and_eq_true] at h
          exact s_and (ih_a _ _ _ C x h.1) (pe_one (ih_b _ _ _ C y h.2))
        · rename_i x y z r
          simp only [Bool.and_eq_true] at h
          exact s_and (ih_a _ _ _ C x h.1) (ih_b _ _ _ C _ h.2)
        · cases h
      | Or => exact absurd h Bool.false_ne_true
    | _ => exact absurd h Bool.false_ne_true
theorem sE_or  {a} {b} (ih_a : IE T F a) (ih_b : IE T F b) : IE T F (.or a b) := fun X c W C e h => by
    cases e with
    | BoolOp op xs pos =>
      cases op with
      | Or =>
        unfold kE at h; dsimp only at h
        split at h
        · rename_i x y
          simp only [Bool.and_eq_true] at h
          exact s_or (ih_a _ _ _ C x h.1) (pe_one (ih_b _ _ _ C y h.2))
        · rename_i x y z r
          simp only [Bool.and_eq_true] at h
          exact s_or (ih_a _ _ _ C x h.1) (ih_b _ _ _ C _ h.2)
        · cases h
      | And => exact absurd h Bool.false_ne_true
    | _ => exact absurd h Bool.false_ne_true
theorem sE_not  {a} (ih_a : IE T F a) : IE T F (.not a) := fun X c W C e h => by
    cases e with
    | UnaryOp p x q =>
      cases p with
      | Not => exact s_not (ih_a _ _ _ C x (by unfold kE at h; exact h))
      | _ => exact absurd h Bool.false_ne_true
    | _ => exact absurd h Bool.false_ne_true
theorem sE_ifx  {d} {a} {b} (ih_d : IC T F d) (ih_a : IE T F a) (ih_b : IE T F b) : IE T F (.ifx d a b) := fun X c W C e h => by
    cases e with
    | IfExp t x y q =>
      unfold kE at h; simp only [Bool.and_eq_true] at h
      exact s_ifx (ih_d _ _ _ C t h.1.1).1 (ih_a _ _ _ C x h.1.2) (ih_b _ _ _ C y h.2)
    | _ => exact absurd h Bool.false_ne_true
theorem sE_idx  {a} {b} (ih_a : IE T F a) (ih_b : IE T F b) : IE T F (.idx a b) := fun X c W C e h => by
    cases e with
    | Subscript x y q =>
      unfold kE at h; simp only [Bool.and_eq_true] at h
      exact s_idx C h.2 (ih_a _ _ _ C x h.1.1) (ih_b _ _ _ C y h.1.2)
    | _ => exact absurd h Bool.false_ne_true
theorem sE_sli  {a} {lo} {hi} (ih_a : IE T F a) (ih_lo : IO T F lo) (ih_hi : IO T F hi) : IE T F (.sli a lo hi) := fun X c W C e h => by
    cases e with
    | Subscript x y q =>
      unfold kE at h; dsimp only at h
      split at h
      · rename_i l u p
        simp only [Bool.and_eq_true] at h
        exact s_sli (ih_a _ _ _ C x h.1.1) (ih_lo _ _ _ C l h.1.2) (ih_hi _ _ _ C u h.2)
      · cases h
    | _ => exact absurd h Bool.false_ne_true
theorem sE_call  {f} {es} (ih_es : IEs T F es) : IE T F (.call f es) := fun X c W C e h => by
    cases e with
    | Call fn xs kws q =>
      unfold kE at h; dsimp only at h
      split at h
      · rename_i x p y ys
        simp only [Bool.and_eq_true, decide_eq_true_eq] at h
        exact s_call C h.1.1.1 h.1.1.2 h.1.2 (kEs_stars h.2) (ih_es _ _ _ C _ h.2)
      · cases h
    | _ => exact absurd h Bool.false_ne_true
theorem sE_bi  {b} {es} (ih_es : IEs T F es) : IE T F (.bi b es) := fun X c W C e h => by
    cases e with
    | Call fn xs kws q =>
      unfold kE at h; dsimp only at h
      split at h
      · rename_i x p y ys
        simp only [Bool.and_eq_true, decide_eq_true_eq] at h
        obtain ⟨⟨⟨rfl, h1⟩, h2⟩, h3⟩ := h
        exact s_bi C h1 (kEs_stars h3) (ih_es _ _ _ C _ h3)
      · cases h
    | _ => exact absurd h Bool.false_ne_true
theorem sE_isi  {a} {ts} (ih_a : IE T F a) : IE T F (.isi a ts) := fun X c W C e h => by
    cases e with
    | Call fn xs kws q =>
      unfold kE at h; dsimp only at h
      split at h
      · rename_i x p y t
        simp only [Bool.and_eq_true, decide_eq_true_eq] at h
        obtain ⟨⟨⟨⟨⟨rfl, h1⟩, h2⟩, h3⟩, h4⟩, h5⟩ := h
        exact s_isi C h1 h4 h5 (ih_a _ _ _ C y h3)
      · cases h
    | _ => exact absurd h Bool.false_ne_true
theorem sE_comp  {mu} {e'} {t} {s} {d} (ih_s : II T F s) (ih_d : ICs T F d) (ih_e' : IE T F e') : IE T F (.comp mu e' t s d) := fun X c W C e h => by
    cases e with
    | ListComp elt gens scope q =>
      unfold kE at h; dsimp only at h
      split at h
      · rename_i tg iter ifs as
        simp only [Bool.and_eq_true, decide_eq_true_eq] at h
        obtain ⟨⟨⟨⟨⟨⟨⟨⟨rfl, h1⟩, h2⟩, h3⟩, h4⟩, h5⟩, ht⟩, h6⟩, h7⟩ := h
        exact s_comp C h1 h2 h3 h5 (ih_s _ _ _ C iter tg h4 ht) (fun C' ec => by subst ec; exact ih_d _ _ _ C' ifs h6) (fun C' ec => by subst ec; exact ih_e' _ _ _ C' elt h7)
      · cases h
    | _ => exact absurd h Bool.false_ne_true
theorem sE_chain3  {o} {o'} {o2} {a} {b} {d} {e3} (ih_a : IE T F a) (ih_b : IE T F b) (ih_d : IE T F d) (ih_e3 : IE T F e3) : IE T F (.chain3 o o' o2 a b d e3) := fun X c W C e h => by
    cases e with
    | Compare x ops ys q =>
      unfold kE at h; dsimp only at h
      split at h
      · rename_i p p' p2 y z w
        simp only [Bool.and_eq_true, decide_eq_true_eq] at h
        obtain ⟨⟨⟨⟨⟨⟨⟨⟨⟨rfl, rfl⟩, rfl⟩, h1⟩, h2⟩, h3⟩, h4⟩, h5⟩, h6⟩, h7⟩ := h
        exact s_chain3 C h7 (ih_a _ _ _ C x h1) (ih_b _ _ _ C y h2) (ih_d _ _ _ C z h3) (ih_e3 _ _ _ C w h4)
      · cases h
    | _ => exact absurd h Bool.false_ne_true
theorem sE_mm  {mx} {a} {d} (ih_a : IE T F a) (ih_d : IE T F d) : IE T F (.mm mx a d) := fun X c W C e h => by
    cases e with
    | Call fn xs kws q =>
      unfold kE at h; dsimp only at h
      split at h
      · rename_i x p y kn dv kp
        simp only [Bool.and_eq_true, decide_eq_true_eq] at h
        obtain ⟨⟨⟨⟨⟨⟨rfl, rfl⟩, h1⟩, h2⟩, h3⟩, h4⟩, h5⟩ := h
        exact s_mm C h1 h5 (ih_a _ _ _ C y h3) (ih_d _ _ _ C dv h4)
      · cases h
    | _ => exact absurd h Bool.false_ne_true
theorem sE_fld  {a} {k} (ih_a : IE T F a) : IE T F (.fld a k) := fun X c W C e h => by
    cases e with
    | Attribute x n p =>
      unfold kE at h; simp only [Bool.and_eq_true, decide_eq_true_eq] at h
      exact s_fld C h.1.1 h.2 (ih_a _ _ _ C x h.1.2)
    | _ => exact absurd h Bool.false_ne_true
theorem sE_new  {mu} {ci} {es} (ih_es : IEs T F es) : IE T F (.new mu ci es) := fun X c W C e h => by
    cases e with
    | Call fn ys kws q =>
      unfold kE at h; dsimp only at h
      split at h
      · rename_i x p
        simp only [Bool.and_eq_true, decide_eq_true_eq] at h
        obtain ⟨⟨⟨h1, h2⟩, h3⟩, h4⟩ := h
        refine s_new C h1 h2 h3 (fun z => ?_) (kEs_stars h4) (ih_es _ _ _ C ys h4)
        subst z
        cases es with
        | nil => rfl
        | cons _ _ => simp [kEs] at h4
      · cases h
    | _ => exact absurd h Bool.false_ne_true
theorem sE_meth  {a} {m} {es} (ih_a : IE T F a) (ih_es : IEs T F es) : IE T F (.meth a m es) := fun X c W C e h => by
    cases e with
    | Call fn ys kws q =>
      unfold kE at h; dsimp only at h
      split at h
      · rename_i o n ap
        simp only [Bool.and_eq_true, decide_eq_true_eq] at h
        obtain ⟨⟨⟨⟨⟨h1, h2⟩, h3⟩, h4⟩, h5⟩, h6⟩ := h
        refine s_meth C h1 (decide_eq_true h2) h3 h5 (fun z => ?_) (ih_a _ _ _ C o h4) (kEs_stars h6) (ih_es _ _ _ C ys h6)
        subst z
        cases es with
        | nil => rfl
        | cons _ _ => simp [kEs] at h6
      · cases h
    | _ => exact absurd h Bool.false_ne_true
theorem sE_calld {f} {es} {ds} (ih_es : IEs T F es) : IE T F (.calld f es ds) := fun X c W C e h => by
    cases e with
    | Call fn xs kws q =>
      unfold kE at h; dsimp only at h
      split at h
      · rename_i x p y ys
        simp only [Bool.and_eq_true, decide_eq_true_eq] at h
        exact s_calld C h.1.1.1.1 h.1.1.1.2 h.1.1.2 (kEs_stars h.1.2) h.2 (ih_es _ _ _ C _ h.1.2)
      · cases h
    | _ => exact absurd h Bool.false_ne_true
theorem sE_isc  {x_0} {x_1} : IE T F (.isc x_0 x_1) := fun X c W C e h => by unfold kE at h; cases h
theorem sE_eqo  {x_0} {x_1} {x_2} : IE T F (.eqo x_0 x_1 x_2) := fun X c W C e h => by unfold kE at h; cases h
theorem sE_sset {a} (ih_a : IE T F a) : IE T F (.sset a) := fun X c W C e h => by
    cases e with
    | Call fn xs kws q =>
      unfold kE at h; dsimp only at h
      split at h
      · rename_i n np m mp y p2
        simp only [Bool.and_eq_true, decide_eq_true_eq] at h
        obtain ⟨⟨⟨⟨⟨rfl, rfl⟩, h1⟩, h2⟩, h3⟩, h4⟩ := h
        exact s_sset C h1 h2 h4 (ih_a _ _ _ C y h3)
      · cases h
    | _ => exact absurd h Bool.false_ne_true
theorem sE_mlist {a} (ih_a : IE T F a) : IE T F (.mlist a) := fun X c W C e h => by
    cases e with
    | Call fn xs kws q =>
      unfold kE at h; dsimp only at h
      split at h
      · rename_i n np y
        simp only [Bool.and_eq_true, decide_eq_true_eq] at h
        obtain ⟨⟨⟨rfl, h1⟩, h2⟩, h3⟩ := h
        exact s_mlist C h1 h3 (ih_a _ _ _ C y h2)
      · cases h
    | _ => exact absurd h Bool.false_ne_true
theorem sE_rev {a} (ih_a : IE T F a) : IE T F (.rev a) := fun X c W C e h => by
    cases e with
    | Subscript x y q =>
      unfold kE at h; dsimp only at h
      split at h
      · exact s_rev (ih_a _ _ _ C x h)
      · cases h
    | _ => exact absurd h Bool.false_ne_true
theorem sE_skey {tu a ks} (ih_a : IE T F a) : IE T F (.skey tu a ks) := fun X c W C e h => by
    cases e with
    | Call fn xs kws q =>
      unfold kE at h; dsimp only at h
      split at h
      · rename_i n np x kn p ap body scope lp kp
        simp only [Bool.and_eq_true, decide_eq_true_eq] at h
        obtain ⟨⟨⟨⟨⟨⟨⟨rfl, rfl⟩, h1⟩, h2⟩, h3⟩, h4⟩, h5⟩, h6⟩ := h
        exact s_skey C h1 h3 h4 h5 h6 (ih_a _ _ _ C x h2)
      · cases h
    | _ => exact absurd h Bool.false_ne_true
theorem sE_fnv {f} : IE T F (.fnv f) := fun X c W C e h => by
    cases e with
    | Name x p =>
      unfold kE at h; simp only [Bool.and_eq_true, decide_eq_true_eq] at h
      exact s_fnv C h.1.1 h.1.2 h.2
    | _ => exact absurd h Bool.false_ne_true
theorem sE_callv {i} {es} (ih_es : IEs T F es) : IE T F (.callv i es) := fun X c W C e h => by
    cases e with
    | Call fn xs kws q =>
      unfold kE at h; dsimp only at h
      split at h
      · rename_i x p y ys
        simp only [Bool.and_eq_true] at h
        exact s_callv C h.1 (kEs_stars h.2) (ih_es _ _ _ C _ h.2)
      · cases h
    | _ => exact absurd h Bool.false_ne_true
theorem sEs_nil  : IEs T F .nil := fun X c W C es h => by
    cases es with
    | nil => exact s_nil
    | cons _ _ => exact absurd h Bool.false_ne_true
theorem sEs_cons  {a} {l} (ih_a : IE T F a) (ih_l : IEs T F l) : IEs T F (.cons a l) := fun X c W C es h => by
    cases es with
    | nil => simp [kEs] at h
    | cons x xs =>
      simp only [kEs, Bool.and_eq_true] at h
      exact s_cons h.1.2 (ih_a _ _ _ C x h.1.1) (ih_l _ _ _ C xs h.2)
theorem sO_no  : IO T F .no := fun X c W C e h => by
    cases e with
    | none => exact s_oNo
    | some _ => exact absurd h Bool.false_ne_true
theorem sO_yes  {a} (ih_a : IE T F a) : IO T F (.yes a) := fun X c W C e h => by
    cases e with
    | none => exact absurd h Bool.false_ne_true
    | some x => exact s_oYes (ih_a _ _ _ C x (by simpa only [kO] using h))
theorem sC_val  {a} (ih_a : IE T F a) : IC T F (.val a) := fun X c W C e h => by
    simp only [kC, Bool.and_eq_true] at h
    refine ⟨s_val h.2 (ih_a _ _ _ C e h.1), fun op xs pos z => ?_⟩
    subst z
    simp [plainTest] at h
theorem sC_cmp  {o} {a} {b} (ih_a : IE T F a) (ih_b : IE T F b) : IC T F (.cmp o a b) := fun X c W C e h => by
    cases e with
    | Compare x ops ys q =>
      unfold kC at h
      split at h
      · rename_i p y
        simp only [Bool.and_eq_true, decide_eq_true_eq] at h
        obtain ⟨⟨⟨rfl, h1⟩, h2⟩, h3⟩ := h
        exact ⟨s_cmpC C h3 (ih_a _ _ _ C x h1) (ih_b _ _ _ C y h2), fun _ _ _ z => nomatch z⟩
      · cases h
    | _ => exact absurd h Bool.false_ne_true
theorem sC_chain  {o} {o'} {a} {b} {d} (ih_a : IE T F a) (ih_b : IE T F b) (ih_d : IE T F d) : IC T F (.chain o o' a b d) := fun X c W C e h => by
    cases e with
    | Compare x ops ys q =>
      unfold kC at h
      split at h
      · rename_i p p' y z
        simp only [Bool.and_eq_true, decide_eq_true_eq] at h
        obtain ⟨⟨⟨⟨⟨⟨rfl, rfl⟩, h1⟩, h2⟩, h3⟩, h4⟩, h5⟩ := h
        exact ⟨s_chainC C h5 (ih_a _ _ _ C x h1) (ih_b _ _ _ C y h2) (ih_d _ _ _ C z h3), fun _ _ _ z => nomatch z⟩
      · cases h
    | _ => exact absurd h Bool.false_ne_true
theorem sC_and  {a} {b} (ih_a : IC T F a) (ih_b : IC T F b) : IC T F (.and a b) := fun X c W C e h => by
    cases e with
    | BoolOp op xs pos =>
      cases op with
      | And =>
        unfold kC at h
        split at h
        · rename_i x y
          simp only [Bool.and_eq_true] at h
          have q := s_andC (pos := pos) (ih_a _ _ _ C x h.1).1 (pw_and1 (pos := pos) (ih_b _ _ _ C y h.2).1)
          exact ⟨q.pt, fun _ _ _ _ => q⟩
        · rename_i x y z r
          simp only [Bool.and_eq_true] at h
          have q := s_andC (pos := pos) (ih_a _ _ _ C x h.1).1 ((ih_b _ _ _ C _ h.2).2 _ _ _ rfl)
          exact ⟨q.pt, fun _ _ _ _ => q⟩
        · cases h
      | Or => exact absurd h Bool.false_ne_true
    | _ => exact absurd h Bool.false_ne_true
theorem sC_or  {a} {b} (ih_a : IC T F a) (ih_b : IC T F b) : IC T F (.or a b) := fun X c W C e h => by
    cases e with
    | BoolOp op xs pos =>
      cases op with
      | Or =>
        unfold kC at h
        split at h
        · rename_i x y
          simp only [Bool.and_eq_true] at h
          have q := s_orC (pos := pos) (ih_a _ _ _ C x h.1).1 (pw_or1 (pos := pos) (ih_b _ _ _ C y h.2).1)
          exact ⟨q.pt, fun _ _ _ _ => q⟩
        · rename_i x y z r
          simp only [Bool.and_eq_true] at h
          have q := s_orC (pos := pos) (ih_a _ _ _ C x h.1).1 ((ih_b _ _ _ C _ h.2).2 _ _ _ rfl)
          exact ⟨q.pt, fun _ _ _ _ => q⟩
        · cases h
      | And => exact absurd h Bool.false_ne_true
    | _ => exact absurd h Bool.false_ne_true
theorem sC_not  {a} (ih_a : IC T F a) : IC T F (.not a) := fun X c W C e h => by
    cases e with
    | UnaryOp p x q =>
      cases p with
      | Not => exact ⟨s_notC (ih_a _ _ _ C x (by simpa only [kC] using h)).1, fun _ _ _ z => nomatch z⟩
      | _ => exact absurd h Bool.false_ne_true
    | _ => exact absurd h Bool.false_ne_true
theorem sCs_no  : ICs T F .no := fun X c W C es h => by
    cases es with
    | nil => exact ⟨fun pins s σ H Q I h => pts_nil.run pins s σ H Q I (by
        obtain ⟨M, s, g, rs, h⟩ := h
        have h' : wpR X.K T W σ M H (KN.R.ok true g) (fun b _ H' _ => Q b H') := by simpa only [evCs] using h
        exact h'.at rs.hr)⟩
    | cons _ _ => exact absurd h Bool.false_ne_true
theorem sCs_yes  {d} (ih_d : IC T F d) : ICs T F (.yes d) := fun X c W C es h => by
    cases es with
    | nil => simp [kCs] at h
    | cons x xs =>
      cases xs with
      | nil => exact ⟨fun pins s σ H Q I h' => (pts_one (ih_d _ _ _ C x (by simpa only [kCs] using h)).1).run pins s σ H Q I (by simpa only [evCs, lfC] using h')⟩
      | cons _ _ => exact absurd h Bool.false_ne_true
theorem sI_seq  {a} (ih_a : IE T F a) : II T F (.seq a) := fun X c W C e tg h ht => s_seq (ih_a _ _ _ C e (by simpa only [kI] using h))
theorem sI_range1  {a} (ih_a : IE T F a) : II T F (.range1 a) := fun X c W C e tg h ht => by
    cases e with
    | Call fn xs kws q =>
      unfold kI at h; dsimp only at h
      split at h
      · rename_i n p x
        simp only [Bool.and_eq_true, decide_eq_true_eq] at h
        obtain ⟨⟨⟨⟨rfl, h1⟩, h2⟩, h3⟩, h4⟩ := h
        exact s_range1 C h1 h4 (ih_a _ _ _ C x h3)
      · cases h
    | _ => exact absurd h Bool.false_ne_true
theorem sI_range2  {a} {b} (ih_a : IE T F a) (ih_b : IE T F b) : II T F (.range2 a b) := fun X c W C e tg h ht => by
    cases e with
    | Call fn xs kws q =>
      unfold kI at h; dsimp only at h
      split at h
      · rename_i n p x y
        simp only [Bool.and_eq_true, decide_eq_true_eq] at h
        obtain ⟨⟨⟨⟨⟨⟨rfl, h1⟩, h2⟩, h3⟩, h4⟩, h5⟩, h6⟩ := h
        exact s_range2 C h1 h5 h6 (ih_a _ _ _ C x h3) (ih_b _ _ _ C y h4)
      · cases h
    | _ => exact absurd h Bool.false_ne_true
theorem sI_range3 {a b d} (ih_a : IE T F a) (ih_b : IE T F b) (ih_d : IE T F d) : II T F (.range3 a b d) := fun X c W C e tg h ht => by
    cases e with
    | Call fn xs kws q =>
      unfold kI at h; dsimp only at h
      split at h
      · rename_i n p x y z
        simp only [Bool.and_eq_true, decide_eq_true_eq] at h
        obtain ⟨⟨⟨⟨⟨rfl, h1⟩, h2⟩, h3⟩, h4⟩, h5⟩ := h
        exact s_range3 C h1 h5 (ih_a _ _ _ C x h2) (ih_b _ _ _ C y h3) (ih_d _ _ _ C z h4)
      · cases h
    | _ => exact absurd h Bool.false_ne_true
theorem sI_enum {a} (ih_a : IE T F a) : II T F (.enum a) := fun X c W C e tg h ht => by
    cases e with
    | Call fn xs kws q =>
      unfold kI at h; dsimp only at h
      split at h
      · rename_i n p x
        simp only [Bool.and_eq_true, decide_eq_true_eq] at h
        obtain ⟨⟨⟨rfl, h1⟩, h2⟩, h3⟩ := h
        cases tg with
        | Tuple elts kk tpos => exact s_enum C h1 h3 (ih_a _ _ _ C x h2)
        | _ => exact absurd ht Bool.false_ne_true
      · cases h
    | _ => exact absurd h Bool.false_ne_true
/-- all of them -/
def AE (T : Tb) (F : Fn) : LEs → Prop
  | .nil => True
  | .cons e es => IE T F e ∧ AE T F es
theorem sI_zip {es} (ih : AE T F es) : II T F (.zip es) := fun X c W C e tg h ht => by
    cases e with
    | Call fn xs kws q =>
      unfold kI at h; dsimp only at h
      split at h
      · rename_i n p
        simp only [Bool.and_eq_true, decide_eq_true_eq] at h
        obtain ⟨⟨⟨⟨rfl, h1⟩, h2⟩, h3⟩, h4⟩ := h
        cases tg with
        | Tuple elts kk tpos =>
          cases es with
          | nil => cases xs with
            | nil => exact absurd h3 (by decide)
            | cons _ _ => simp [kEs] at h2
          | cons e1 es => cases xs with
            | nil => simp [kEs] at h2
            | cons x1 xs =>
          simp only [kEs, Bool.and_eq_true] at h2
          cases es with
          | nil => cases xs with
            | nil => exact absurd h3 (by simp)
            | cons _ _ => simp [kEs] at h2
          | cons e2 es => cases xs with
            | nil => simp [kEs] at h2
            | cons x2 xs =>
          simp only [kEs, Bool.and_eq_true] at h2
          cases es with
          | nil => cases xs with
            | nil => exact s_zip2 C h1 (by simp only [noStars, Bool.and_eq_true]; exact ⟨h2.1.2, h2.2.1.2, trivial⟩) (ih.1 _ _ _ C x1 h2.1.1) (ih.2.1 _ _ _ C x2 h2.2.1.1)
            | cons _ _ => simp [kEs] at h2
          | cons e3 es => cases xs with
            | nil => simp [kEs] at h2
            | cons x3 xs =>
          simp only [kEs, Bool.and_eq_true] at h2
          cases es with
          | nil => cases xs with
            | nil => exact s_zip3 C h1 (by simp only [noStars, Bool.and_eq_true]; exact ⟨h2.1.2, h2.2.1.2, h2.2.2.1.2, trivial⟩) (ih.1 _ _ _ C x1 h2.1.1) (ih.2.1 _ _ _ C x2 h2.2.1.1) (ih.2.2.1 _ _ _ C x3 h2.2.2.1.1)
            | cons _ _ => simp [kEs] at h2
          | cons e4 es => cases xs with
            | nil => simp [kEs] at h2
            | cons x4 xs =>
          simp only [kEs, Bool.and_eq_true] at h2
          cases es with
          | nil => cases xs with
            | nil => exact s_zip4 C h1 (by simp only [noStars, Bool.and_eq_true]; exact ⟨h2.1.2, h2.2.1.2, h2.2.2.1.2, h2.2.2.2.1.2, trivial⟩) (ih.1 _ _ _ C x1 h2.1.1) (ih.2.1 _ _ _ C x2 h2.2.1.1) (ih.2.2.1 _ _ _ C x3 h2.2.2.1.1) (ih.2.2.2.1 _ _ _ C x4 h2.2.2.2.1.1)
            | cons _ _ => simp [kEs] at h2
          | cons e5 es => cases xs with
            | nil => simp [kEs] at h2
            | cons x5 xs => exact absurd h4 (by simp)
        | _ => exact absurd ht Bool.false_ne_true
      · cases h
    | _ => exact absurd h Bool.false_ne_true
mutual
theorem sE : ∀ l : LE, IE T F l
  | .var _ => sE_var
  | .int _ => sE_int
  | .str _ => sE_str
  | .bl _ => sE_bl
  | .non => sE_non
  | .dnew => sE_dnew
  | .index a i => sE_index (sE a) (sE i)
  | .con _ => sE_con
  | .tup es => sE_tup (sEs es)
  | .lst _ es => sE_lst (sEs es)
  | .bin _ a b => sE_bin (sE a) (sE b)
  | .neg a => sE_neg (sE a)
  | .cmp _ a b => sE_cmp (sE a) (sE b)
  | .chain _ _ a b d => sE_chain (sE a) (sE b) (sE d)
  | .and a b => sE_and (sE a) (sE b)
  | .or a b => sE_or (sE a) (sE b)
  | .not a => sE_not (sE a)
  | .ifx d a b => sE_ifx (sC d) (sE a) (sE b)
  | .idx a b => sE_idx (sE a) (sE b)
  | .sli a lo hi => sE_sli (sE a) (sO lo) (sO hi)
  | .call _ es => sE_call (sEs es)
  | .bi _ es => sE_bi (sEs es)
  | .isi a _ => sE_isi (sE a)
  | .comp _ e' _ s d => sE_comp (sI s) (sCs d) (sE e')
  | .chain3 _ _ _ a b d e3 => sE_chain3 (sE a) (sE b) (sE d) (sE e3)
  | .mm _ a d => sE_mm (sE a) (sE d)
  | .fld a _ => sE_fld (sE a)
  | .new _ _ es => sE_new (sEs es)
  | .meth a _ es => sE_meth (sE a) (sEs es)
  | .sset a => sE_sset (sE a)
  | .skey _ a _ => sE_skey (sE a)
  | .fnv _ => sE_fnv
  | .callv _ es => sE_callv (sEs es)
  | .rev a => sE_rev (sE a)
  | .mlist a => sE_mlist (sE a)
  | .calld _ es _ => sE_calld (sEs es)
  | .isc _ _ => sE_isc
  | .eqo _ _ _ => sE_eqo
theorem sEs : ∀ l : LEs, IEs T F l
  | .nil => sEs_nil
  | .cons a l => sEs_cons (sE a) (sEs l)
theorem sO : ∀ l : LO, IO T F l
  | .no => sO_no
  | .yes a => sO_yes (sE a)
theorem sC : ∀ l : LC, IC T F l
  | .val a => sC_val (sE a)
  | .cmp _ a b => sC_cmp (sE a) (sE b)
  | .chain _ _ a b d => sC_chain (sE a) (sE b) (sE d)
  | .and a b => sC_and (sC a) (sC b)
  | .or a b => sC_or (sC a) (sC b)
  | .not a => sC_not (sC a)
theorem sCs : ∀ l : LCs, ICs T F l
  | .no => sCs_no
  | .yes d => sCs_yes (sC d)
theorem sI : ∀ l : LI, II T F l
  | .seq a => sI_seq (sE a)
  | .range1 a => sI_range1 (sE a)
  | .range2 a b => sI_range2 (sE a) (sE b)
  | .range3 a b d => sI_range3 (sE a) (sE b) (sE d)
  | .enum a => sI_enum (sE a)
  | .zip es => sI_zip (sA es)
theorem sA : ∀ l : LEs, AE T F l
  | .nil => trivial
  | .cons a l => ⟨sE a, sA l⟩
end
end
end KN

namespace KN
open PySem PySem.Spec PyProof.Rows L2

def noComp : Expr → Bool
  | .ListComp .. => false | .SetComp .. => false | .DictComp .. => false | _ => true
def noTup : Expr → Bool
  | .Tuple .. => false | _ => true
/-- is such a store done within the comprehension -/
def swB (sc : Scope) (x : Str) (p : Pos) : Expr → Option Bool
  | .ListComp _ _ s vp => match sc.names.lookup x with
    | some .local => some (p.line == vp.line && !(s.names.any fun (n, k) => n == x && (k == .local || k == .cell)))
    | some .cell => some false
    | _ => none
  | .SetComp .. => none
  | .DictComp .. => none
  | _ => some false
def iop : BO → Option Operator
  | .add => some .Add
  | .sub => some .Sub
  | _ => none

def isStar : Expr → Bool
  | .Starred .. => true | _ => false
def swNames (sc : Scope) (ts : List Expr) : List Str := ts.filterMap fun
    | .Name id pos => if sc.names.lookup id == some .local && pos.line == (ts.head?.map (·.pos.line)).getD 0 then some id else none
    | _ => none
/-- the tuple is made and unpacked -/
def swNone (sc : Scope) (ts vs : List Expr) : Bool :=
  !(ts.length == 2 || ts.length == 3) || vs.length != ts.length || vs.any isStar || (swNames sc ts).length != ts.length || (swNames sc ts).eraseDups.length != (swNames sc ts).length || vs.all (foldedForSure 8)
def tupNone (sc : Scope) (ts : List Expr) : Expr → Bool
  | .Tuple vs _ _ => swNone sc ts vs
  | _ => true
mutual
def kS (c : Ck) : LS → Stmt → Bool
  | .expr e, st => match st with
    | .Expr x _ => (kE c e x && noComp x)
    | _ => false
  | .set i e, st => match st with
    | .Assign tgs v pos => (match tgs with
        | [.Name x p] => stB c i x && kE c e v && (match swB c.sc x p v with
          | some false => true
          | some true => (match v with | .ListComp _ [⟨_, _, _, _⟩] _ _ => true | _ => false)
          | none => false)
        | _ => false)
    | _ => false
  | .unp is e, st => match st with
    | .Assign tgs v _ => (match tgs with
        | [.Tuple es _ _] => kTs c is es && kE c e v && tupNone c.sc es v && noComp v
        | _ => false)
    | _ => false
  | .par i j a b, st => match st with
    | .Assign tgs v _ => (match tgs, v with
        | [.Tuple [.Name x px, .Name y py] _ _], .Tuple [u, w] _ _ => decide (c.N[i]? = some x) && decide (c.N[j]? = some y) && decide (c.sc.names.lookup x = some .local) && decide (c.sc.names.lookup y = some .local) && kE c a u && kE c b w && noStar u && noStar w &&
            (py.line == px.line) && !(x == y) && !([u, w].all (foldedForSure 8)) && !([u, w].all (constantsAlone 8))
        | _, _ => false)
    | _ => false
  | .par3 i j l a b d, st => match st with
    | .Assign tgs v _ => (match tgs, v with
        | [.Tuple [.Name x px, .Name y py, .Name z pz] _ _], .Tuple [u, w, r] _ _ => decide (c.N[i]? = some x) && decide (c.N[j]? = some y) && decide (c.N[l]? = some z) && decide (c.sc.names.lookup x = some .local) && decide (c.sc.names.lookup y = some .local) && decide (c.sc.names.lookup z = some .local) &&
            kE c a u && kE c b w && kE c d r && noStars [u, w, r] && (py.line == px.line) && (pz.line == px.line) && !(x == y) && !(x == z) && !(y == z) && !([u, w, r].all (foldedForSure 8)) && !([u, w, r].all (constantsAlone 8))
        | _, _ => false)
    | _ => false
  | .sfld a k e, st => match st with
    | .Assign tgs v _ => (match tgs with
        | [.Attribute x n _] => kE c a x && kE c e v && noComp v && decide (c.knm k = some n)
        | _ => false)
    | _ => false
  | .afld a k o e, st => match st with
    | .AugAssign t p v _ => (match t with
        | .Attribute x n _ => kE c a x && kE c e v && decide (iop o = some p) && decide (c.knm k = some n)
        | _ => false)
    | _ => false
  | .never, st => match st with
    | .Raise .. => (true)
    | _ => false
  | .aug i o e, st => match st with
    | .AugAssign t p v _ => (match t with
        | .Name x _ => stB c i x && decide (iop o = some p) && kE c e v
        | _ => false)
    | _ => false
  | .seti a b e, st => match st with
    | .Assign tgs v _ => (match tgs with
        | [.Subscript x y _] => kE c a x && kE c b y && kE c e v && noSlice y && noComp v
        | _ => false)
    | _ => false
  | .seti2 a b a2 b2 e, st => match st with
    | .Assign tgs v _ => (match tgs with
        | [.Tuple [.Subscript x y p, .Subscript x2 y2 p2] _ _] => kE c a x && kE c b y && kE c a2 x2 && kE c b2 y2 && kE c e v && noSlice y && noSlice y2 && tupNone c.sc [.Subscript x y p, .Subscript x2 y2 p2] v && noComp v
        | _ => false)
    | _ => false
  | .augi o a b e, st => match st with
    | .AugAssign t p v _ => (match t with
        | .Subscript x y _ => kE c a x && kE c b y && kE c e v && noSlice y && decide (iop o = some p)
        | _ => false)
    | _ => false
  | .app a e, st => match st with
    | .Expr x _ => (match x with
        | .Call (.Attribute o name ap) [y] [] cp => decide (name = ("append" : Str)) && kE c a o && kE c e y && noStar y && plainBase o && (ap.endLine == cp.line)
        | _ => false)
    | _ => false
  | .ite d a b, st => match st with
    | .If t xs ys _ => (kC c d t && kSs c a xs && kSs c b ys)
    | _ => false
  | .for_ t i b, st => match st with
    | .For tg iter body els _ => (match els with
        | [] => kT c t tg && kI c i iter && noSet iter && tgI i tg && kSs c b body
        | _ => false)
    | _ => false
  | .whl d b, st => match st with
    | .While t body els _ => (match els with
        | [] => kC c d t && kSs c b body
        | _ => false)
    | _ => false
  | .ret e, st => match st with
    | .Return v _ => (match v with
        | some x => kE c e x
        | none => false)
    | _ => false
  | .retn, st => match st with
    | .Return v _ => (match v with
        | none => true
        | some _ => false)
    | _ => false
  | .pass, st => match st with
    | .Pass _ => (true)
    | _ => false
  | .brk, st => match st with
    | .Break _ => (true)
    | _ => false
  | .cnt, st => match st with
    | .Continue _ => (true)
    | _ => false
def kSs (c : Ck) : LSs → List Stmt → Bool
  | .nil, [] => true
  | .cons s r, x :: xs => kS c s x && kSs c r xs
  | _, _ => false
end

section
variable {X : Cx} {c : Ck} {T : Tb} {F : Fn} {W : WX}
theorem swaps_no {e : Expr} {t : Option Expr} {l : Nat} {env : Env} (h : noComp e = true) : swapsWith e t l env = pure false := by
  cases e <;> first | rfl | (simp [noComp] at h)
theorem stack_none {ts vs : List Expr} {k k2 : Nat} {p p2 : Pos} {env : Env} (h : swNone env.scope ts vs = true) : swappedStores [.Tuple ts k p] (.Tuple vs k2 p2) env = pure none := by
  have go : swappedStores [.Tuple ts k p] (.Tuple vs k2 p2) env =
      (if (!(ts.length == 2 || ts.length == 3) || vs.length != ts.length || env.blockKind != .function) = true then pure none
      else if vs.any isStar = true then pure none
      else if ((swNames env.scope ts).length != ts.length || (swNames env.scope ts).eraseDups.length != (swNames env.scope ts).length) = true then pure none
      else if vs.all (foldedForSure 8) = true then pure none
      else if vs.all (constantsAlone 8) = true then (do unsupported "assign.tuple-of-constant-expressions:order-of-the-stores"; pure (some (swNames env.scope ts)))
      else pure (some (swNames env.scope ts))) := by
    unfold swappedStores
    rfl
  rw [go]
  unfold swNone at h
  simp only [Bool.or_eq_true] at h
  by_cases c1 : (!(ts.length == 2 || ts.length == 3) || vs.length != ts.length || env.blockKind != .function) = true
  · rw [if_pos c1]
  · rw [if_neg c1]
    simp only [Bool.or_eq_true, not_or] at c1
    by_cases c2 : vs.any isStar = true
    · rw [if_pos c2]
    · rw [if_neg c2]
      by_cases c3 : ((swNames env.scope ts).length != ts.length || (swNames env.scope ts).eraseDups.length != (swNames env.scope ts).length) = true
      · rw [if_pos c3]
      · rw [if_neg c3]
        simp only [Bool.or_eq_true, not_or] at c3
        rcases h with ((((h | h) | h) | h) | h) | h
        · exact absurd h c1.1.1
        · exact absurd h c1.1.2
        · exact absurd h c2
        · exact absurd h c3.1
        · exact absurd h c3.2
        · rw [if_pos h]
theorem stack_no {e : Expr} {ts ty : List Expr} {k : Nat} {p : Pos} {env : Env} (h : noTup e = true) : swappedStores [.Tuple ts k p] e env = pure none := by
  cases e <;> first | rfl | (simp [noTup] at h)
/-! ### small statements -/
theorem t_expr {e : LE} {x : Expr} {pos : Pos} (hx : noComp x = true) (he : PE X x (lfE X T W (evE F e))) : PS X (.Expr x pos) (lfS X T W (evS F (.expr e))) := by
  refine (ps_expr he (swaps_no hx)).via fun E σ H h => ?_
  obtain ⟨M, s, g, rs, h⟩ := h
  refine ⟨M, s, g, rs, wpF.toF rs (by simpa only [evS] using h) fun d M1 H1 g1 e1 hr1 h1 v rv => ?_⟩
  exact h1 M1 H1 σ (Ext.refl _ _) (rs.ext e1 hr1)
theorem t_setfin {i : Nat} {e : LE} {te : TE} {E : Ends} {σ : L2.St} {H : Hp} (k : ∀ {σ H Q}, lfE X T W (evE F e) σ H Q → te σ H Q) (h : lfS X T W (evS F (.set i e)) E σ H) : tAsg te (gName i) E σ H := by
  refine k ?_
  obtain ⟨M, s, g, rs, h⟩ := h
  refine ⟨M, s, g, rs, wpF.toF rs (by simpa only [evS] using h) fun d M1 H1 g1 e1 hr1 h1 v rv => ?_⟩
  split at h1
  · rename_i hi
    exact h1 M1 H1 _ (Ext.refl _ _) ((rs.ext e1 hr1).set hi rv)
  · exact h1.elim
theorem t_set (C : Ctx X c T F W) {i : Nat} {e : LE} {x : Str} {v : Expr} {p pos : Pos} (h1 : stB c i x = true) (h2 : swapsWith v (some (.Name x p)) pos.line X.env = pure false) (he : PE X v (lfE X T W (evE F e))) : PS X (.Assign [.Name x p] v pos) (lfS X T W (evS F (.set i e))) := by
  obtain ⟨q1, q2, q3⟩ := st_of C.tg h1
  exact (ps_set (by rw [C.hN]; exact C.nd) q1 q2 he h2 q3).via fun E σ H h => t_setfin id h
theorem t_unp (C : Ctx X c T F W) {is : List Nat} {e : LE} {es : List Expr} {v : Expr} {k : Nat} {p pos : Pos} (h1 : kTs c is es = true) (h2 : tupNone c.sc es v = true) (h3 : noComp v = true) (he : PE X v (lfE X T W (evE F e))) : PS X (.Assign [.Tuple es k p] v pos) (lfS X T W (evS F (.unp is e))) := by
  refine (ps_asg he (s_tgt (T := T) C.tg (t := .tup is) (show kT c (.tup is) (.Tuple es k p) = true from h1)) (show swapsWith v (some (.Tuple es k p)) pos.line X.env = pure false from swaps_no h3) (by
    rw [← C.sc] at h2
    cases v with
    | Tuple vs _ _ => exact stack_none h2
    | _ => rfl) rfl).via fun E σ H h => ?_
  obtain ⟨M, s, g, rs, h⟩ := h
  refine ⟨M, s, g, rs, wpF.toF rs (by simpa only [evS] using h) fun d M1 H1 g1 e1 hr1 h1 v rv => ?_⟩
  split at h1
  · rename_i s' es'
    exact ⟨d, M1, s, g1, s', rs.ext e1 hr1, rv, es', fun σ' rs' _ => h1 M1 H1 _ (Ext.refl _ _) rs'⟩
  · exact h1.elim
theorem par_ok {x y : Str} {px py pt pt2 : Pos} {kt k2 : Nat} {u w : Expr} {env : Env} (hk : env.scope.kind = .function) (hx : env.scope.names.lookup x = some .local) (hy : env.scope.names.lookup y = some .local) (hu : noStar u = true) (hw : noStar w = true) (hl : (py.line == px.line) = true) (hxy : (x == y) = false)
    (hf : ([u, w].all (foldedForSure 8)) = false) (hc : ([u, w].all (constantsAlone 8)) = false) : swappedStores [.Tuple [.Name x px, .Name y py] kt pt] (.Tuple [u, w] k2 pt2) env = pure (some [x, y]) := by
  have kx : env.kindOf x = some .local := hx
  have ky : env.kindOf y = some .local := hy
  have hb : env.blockKind = .function := by unfold Env.blockKind; rw [hk]; rfl
  have hs : ([u, w].any fun | .Starred .. => true | _ => false) = false := by
    simp only [List.any_cons, List.any_nil, Bool.or_false, Bool.or_eq_false_iff]
    constructor
    · cases u <;> first | rfl | (simp [noStar] at hu)
    · cases w <;> first | rfl | (simp [noStar] at hw)
  have hl' : py.line = px.line := by simpa using hl
  have hxy' : x ≠ y := by simpa using hxy
  have hd : [x, y].eraseDups = [x, y] := by
    simp [List.eraseDups_cons, hxy'.symm, hxy']
  have kx1 : (env.kindOf x == some NameKind.local) = true := by rw [kx]; rfl
  have ky1 : (env.kindOf y == some NameKind.local) = true := by rw [ky]; rfl
  have go : swappedStores [.Tuple [.Name x px, .Name y py] kt pt] (.Tuple [u, w] k2 pt2) env =
      (if (!(([Expr.Name x px, Expr.Name y py].length == 2 || [Expr.Name x px, Expr.Name y py].length == 3)) || [u, w].length != [Expr.Name x px, Expr.Name y py].length || env.blockKind != .function) = true then pure none
      else if ([u, w].any fun | .Starred .. => true | _ => false) = true then pure none
      else if (([Expr.Name x px, Expr.Name y py].filterMap fun
          | .Name id pos => if (env.kindOf id == some NameKind.local && pos.line == px.line) = true then some id else none
          | _ => none).length != 2 || ([Expr.Name x px, Expr.Name y py].filterMap fun
          | .Name id pos => if (env.kindOf id == some NameKind.local && pos.line == px.line) = true then some id else none
          | _ => none).eraseDups.length != ([Expr.Name x px, Expr.Name y py].filterMap fun
          | .Name id pos => if (env.kindOf id == some NameKind.local && pos.line == px.line) = true then some id else none
          | _ => none).length) = true then pure none
      else if [u, w].all (foldedForSure 8) = true then pure none
      else if [u, w].all (constantsAlone 8) = true then (do unsupported "assign.tuple-of-constant-expressions:order-of-the-stores"; pure (some ([Expr.Name x px, Expr.Name y py].filterMap fun
          | .Name id pos => if (env.kindOf id == some NameKind.local && pos.line == px.line) = true then some id else none
          | _ => none)))
      else pure (some ([Expr.Name x px, Expr.Name y py].filterMap fun
          | .Name id pos => if (env.kindOf id == some NameKind.local && pos.line == px.line) = true then some id else none
          | _ => none))) := by
    unfold swappedStores
    rfl
  have ht : ([Expr.Name x px, Expr.Name y py].filterMap fun
          | .Name id pos => if (env.kindOf id == some NameKind.local && pos.line == px.line) = true then some id else none
          | _ => none) = [x, y] := by
    simp only [List.filterMap_cons, List.filterMap_nil, kx1, ky1, Bool.true_and, hl, beq_self_eq_true, if_true]
  rw [go, ht, hs, hf, hc, hb, hd]
  rfl
theorem t_par (C : Ctx X c T F W) {i j : Nat} {a b : LE} {x y : Str} {u w : Expr} {px py pt pt2 pos : Pos} {kt k2 : Nat} (h1 : c.N[i]? = some x) (h2 : c.N[j]? = some y) (h3 : c.sc.names.lookup x = some .local) (h4 : c.sc.names.lookup y = some .local)
    (ha : PE X u (lfE X T W (evE F a))) (hb : PE X w (lfE X T W (evE F b))) (hu : noStar u = true) (hw : noStar w = true) (hl : (py.line == px.line) = true) (hxy : (x == y) = false) (hf : ([u, w].all (foldedForSure 8)) = false) (hc : ([u, w].all (constantsAlone 8)) = false) :
    PS X (.Assign [.Tuple [.Name x px, .Name y py] kt pt] (.Tuple [u, w] k2 pt2) pos) (lfS X T W (evS F (.par i j a b))) := by
  have hij : i ≠ j := fun e => by
    rw [e, h2] at h1
    have := Option.some.inj h1
    rw [this] at hxy
    simp at hxy
  have l1 : X.env.scope.names.lookup x = some .local := by rw [C.sc]; exact h3
  have l2 : X.env.scope.names.lookup y = some .local := by rw [C.sc]; exact h4
  refine (ps_par (i := i) (j := j) C.calm (by rw [C.hN]; exact C.nd) (by rw [C.hN]; exact h1) (by rw [C.hN]; exact h2) hij l1 l2 (pa_cons ha (pa_cons hb pa_nil (star_cons hw)) (star_cons hu)) (par_ok C.kd l1 l2 hu hw hl hxy hf hc) rfl).via fun E σ H h => ?_
  obtain ⟨M, s, g, rs, h⟩ := h
  refine ⟨M, s, g, rs, wpF.toF rs (by simpa only [evS] using h) fun d M1 H1 g1 e1 hr1 h1 v rv => ⟨M1, s, g1, rs.ext e1 hr1, wpF.toF (rs.ext e1 hr1) h1 fun d2 M2 H2 g2 e2 hr2 h2 v2 rv2 => ?_⟩⟩
  split at h2
  · rename_i hi
    refine ⟨v, v2, rfl, h2 M2 H2 _ (Ext.refl _ _) (((rs.ext (e1.trans e2) hr2).set hi.1 (RD.ext e2 _ _ rv)).set (by rw [List.length_set]; exact hi.2.1) rv2)⟩
  · exact h2.elim
theorem par3_ok {x y z : Str} {px py pz pt pt2 : Pos} {kt k2 : Nat} {u w r : Expr} {env : Env} (hk : env.scope.kind = .function) (hx : env.scope.names.lookup x = some .local) (hy : env.scope.names.lookup y = some .local) (hz : env.scope.names.lookup z = some .local) (hs : noStars [u, w, r] = true) (hl : (py.line == px.line) = true) (hl2 : (pz.line == px.line) = true) (hxy : (x == y) = false) (hxz : (x == z) = false) (hyz : (y == z) = false)
    (hf : ([u, w, r].all (foldedForSure 8)) = false) (hc : ([u, w, r].all (constantsAlone 8)) = false) : swappedStores [.Tuple [.Name x px, .Name y py, .Name z pz] kt pt] (.Tuple [u, w, r] k2 pt2) env = pure (some [x, y, z]) := by
  have hb : env.blockKind = .function := by unfold Env.blockKind; rw [hk]; rfl
  simp only [noStars, Bool.and_eq_true] at hs
  have st : ∀ {e : Expr}, noStar e = true → isStar e = false := fun {e} h => by cases e <;> first | rfl | (simp [noStar] at h)
  have h5 : ([u, w, r].any isStar) = false := by
    simp only [List.any_cons, List.any_nil, Bool.or_false, Bool.or_eq_false_iff]
    exact ⟨st hs.1, st hs.2.1, st hs.2.2.1⟩
  have hxy' : x ≠ y := by simpa using hxy
  have hxz' : x ≠ z := by simpa using hxz
  have hyz' : y ≠ z := by simpa using hyz
  have hd : [x, y, z].eraseDups = [x, y, z] := by
    simp [List.eraseDups_cons, hxy'.symm, hxz'.symm, hyz'.symm]
  have ht : swNames env.scope [.Name x px, .Name y py, .Name z pz] = [x, y, z] := by
    have kx1 : (env.scope.names.lookup x == some NameKind.local) = true := by rw [hx]; rfl
    have ky1 : (env.scope.names.lookup y == some NameKind.local) = true := by rw [hy]; rfl
    have kz1 : (env.scope.names.lookup z == some NameKind.local) = true := by rw [hz]; rfl
    have l1 : (px.line == ((([Expr.Name x px, Expr.Name y py, Expr.Name z pz] : List Expr).head?.map (·.pos.line)).getD 0)) = true := by
      show (px.line == px.line) = true
      simp
    have l2 : (py.line == ((([Expr.Name x px, Expr.Name y py, Expr.Name z pz] : List Expr).head?.map (·.pos.line)).getD 0)) = true := hl
    have l3 : (pz.line == ((([Expr.Name x px, Expr.Name y py, Expr.Name z pz] : List Expr).head?.map (·.pos.line)).getD 0)) = true := hl2
    unfold swNames
    simp only [List.filterMap_cons, List.filterMap_nil, kx1, ky1, kz1, Bool.true_and, l1, l2, l3, if_true]
  have go : swappedStores [.Tuple [.Name x px, .Name y py, .Name z pz] kt pt] (.Tuple [u, w, r] k2 pt2) env =
      (if (!(([Expr.Name x px, Expr.Name y py, Expr.Name z pz] : List Expr).length == 2 || ([Expr.Name x px, Expr.Name y py, Expr.Name z pz] : List Expr).length == 3) || [u, w, r].length != ([Expr.Name x px, Expr.Name y py, Expr.Name z pz] : List Expr).length || env.blockKind != .function) = true then pure none
      else if [u, w, r].any isStar = true then pure none
      else if ((swNames env.scope [.Name x px, .Name y py, .Name z pz]).length != ([Expr.Name x px, Expr.Name y py, Expr.Name z pz] : List Expr).length || (swNames env.scope [.Name x px, .Name y py, .Name z pz]).eraseDups.length != (swNames env.scope [.Name x px, .Name y py, .Name z pz]).length) = true then pure none
      else if [u, w, r].all (foldedForSure 8) = true then pure none
      else if [u, w, r].all (constantsAlone 8) = true then (do unsupported "assign.tuple-of-constant-expressions:order-of-the-stores"; pure (some (swNames env.scope [.Name x px, .Name y py, .Name z pz])))
      else pure (some (swNames env.scope [.Name x px, .Name y py, .Name z pz]))) := by
    unfold swappedStores
    rfl
  rw [go, ht, h5, hf, hc, hb, hd]
  rfl
theorem t_par3 (C : Ctx X c T F W) {i j l : Nat} {a b d : LE} {x y z : Str} {u w r : Expr} {px py pz pt pt2 pos : Pos} {kt k2 : Nat} (h1 : c.N[i]? = some x) (h2 : c.N[j]? = some y) (h3 : c.N[l]? = some z) (l1 : c.sc.names.lookup x = some .local) (l2 : c.sc.names.lookup y = some .local) (l3 : c.sc.names.lookup z = some .local)
    (ha : PE X u (lfE X T W (evE F a))) (hb : PE X w (lfE X T W (evE F b))) (hd : PE X r (lfE X T W (evE F d))) (hs : noStars [u, w, r] = true) (hl : (py.line == px.line) = true) (hl2 : (pz.line == px.line) = true) (hxy : (x == y) = false) (hxz : (x == z) = false) (hyz : (y == z) = false) (hf : ([u, w, r].all (foldedForSure 8)) = false) (hc : ([u, w, r].all (constantsAlone 8)) = false) :
    PS X (.Assign [.Tuple [.Name x px, .Name y py, .Name z pz] kt pt] (.Tuple [u, w, r] k2 pt2) pos) (lfS X T W (evS F (.par3 i j l a b d))) := by
  have ne : ∀ {i j : Nat} {x y : Str}, c.N[i]? = some x → c.N[j]? = some y → (x == y) = false → i ≠ j := fun {i j x y} h1 h2 hxy e => by
    rw [e, h2] at h1
    have := Option.some.inj h1
    rw [this] at hxy
    simp at hxy
  rw [← C.sc] at l1 l2 l3
  have hs' := hs
  simp only [noStars, Bool.and_eq_true] at hs'
  refine (ps_par3 (i := i) (j := j) (l := l) C.calm (by rw [C.hN]; exact C.nd) (by rw [C.hN]; exact h1) (by rw [C.hN]; exact h2) (by rw [C.hN]; exact h3) (ne h1 h2 hxy) (ne h1 h3 hxz) (ne h2 h3 hyz) l1 l2 l3 (pa_cons ha (pa_cons hb (pa_cons hd pa_nil (star_cons hs'.2.2.1)) (star_cons hs'.2.1)) (star_cons hs'.1)) (par3_ok C.kd l1 l2 l3 hs hl hl2 hxy hxz hyz hf hc) rfl).via fun E σ H h => ?_
  obtain ⟨M, s, g, rs, h⟩ := h
  refine ⟨M, s, g, rs, wpF.toF rs (by simpa only [evS] using h) fun d M1 H1 g1 e1 hr1 h1 v rv => ⟨M1, s, g1, rs.ext e1 hr1, wpF.toF (rs.ext e1 hr1) h1 fun d2 M2 H2 g2 e2 hr2 h2 v2 rv2 => ⟨M2, s, g2, rs.ext (e1.trans e2) hr2, wpF.toF (rs.ext (e1.trans e2) hr2) h2 fun d3 M3 H3 g3 e3 hr3 h3 v3 rv3 => ?_⟩⟩⟩
  split at h3
  · rename_i hi
    refine ⟨v, v2, v3, rfl, h3 M3 H3 _ (Ext.refl _ _) ((((rs.ext ((e1.trans e2).trans e3) hr3).set hi.1 (RD.ext (e2.trans e3) _ _ rv)).set (by rw [List.length_set]; exact hi.2.1) (RD.ext e3 _ _ rv2)).set (by rw [List.length_set, List.length_set]; exact hi.2.2.1) rv3)⟩
  · exact h3.elim
/-! ### attributes written -/
theorem putA_ok (C : Ctx X c T F W) {M : Mp} {H : Hp} {g : G} {s : KN.St} {σ : L2.St} {x d : D} {xv v : V} {k : Nat} {E : Ends} (rs : RS X.K T M H g s σ) (hx : RD X.K T M H x xv) (rv : RD X.K T M H d v) (h : wpF X T W M H (nxO s (putA F x k d g)) E) :
    ∃ a ci dx fs, (clsOf g x).map (·.1) = some ci ∧ xv = .ref a ∧ H a = some (.ins (T.cad ci) dx fs) ∧ Cls X.K (T.cad ci) ∧ NoAttr X.K (T.cad ci) (T.knm k) ∧ fs.length < 1000 ∧ E.nx σ (upd H a (.ins (T.cad ci) dx (putF (T.knm k) v fs))) := by
  cases x <;> simp only [putA] at h <;> try exact h.elim
  rename_i p
  obtain ⟨q, hq, rfl⟩ := hx
  split at h
  · rename_i ci ks fs eg
    obtain ⟨dx, fvs, z1, z2, z3⟩ := rs.hr.at eg hq
    split at h
    · rename_i CC eC
      have K1 := C.cls ci CC eC
      split at h
      · rename_i hc
        obtain ⟨c1, c2, c3⟩ := hc
        have hl : fvs.length < 1000 := by
          have := congrArg List.length z2
          rw [List.length_map, List.length_map] at this
          omega
        refine ⟨q, ci, dx, fvs, by simp only [clsOf, eg, Option.map_some], rfl, z1, K1.cl, K1.fl k c1, hl, ?_⟩
        obtain ⟨y1, y2⟩ := put_fl C.inj (k := k) rv c3 z2 z3
        have e : Ext M H M _ := Ext.write (o := .ins (T.cad ci) dx (putF (T.knm k) v fvs)) hq
        have hr' := rs.hr.write hq (o := .ins (T.cad ci) dx (putF (T.knm k) v fvs)) (u := .ins ci (putFl ks fs k d).1 (putFl ks fs k d).2) ⟨dx, _, upd_same, y1, RDs.ext e _ _ y2⟩
        exact h M _ σ e (rs.ext e hr')
      · exact h.elim
    · exact h.elim
  · exact h.elim
theorem t_sfld (C : Ctx X c T F W) {a e : LE} {k : Nat} {x v : Expr} {n : Str} {p pos : Pos} (h1 : noComp v = true) (h2 : c.knm k = some n) (ha : PE X x (lfE X T W (evE F a))) (he : PE X v (lfE X T W (evE F e))) : PS X (.Assign [.Attribute x n p] v pos) (lfS X T W (evS F (.sfld a k e))) := by
  have hn := C.kn k n h2
  subst hn
  refine (ps_fld ha he (swaps_no h1)).via fun E σ H h => ?_
  obtain ⟨M, s, g, rs, h⟩ := h
  refine ⟨M, s, g, rs, wpF.toF rs (by simpa only [evS] using h) fun d M1 H1 g1 e1 hr1 h1 v rv => ⟨M1, s, g1, rs.ext e1 hr1, wpF.toF (rs.ext e1 hr1) h1 fun d2 M2 H2 g2 e2 hr2 h2 v2 rv2 => ?_⟩⟩
  obtain ⟨q, ci, dx, fs, _, r1, r2, r3, r4, r5, r6⟩ := putA_ok C (rs.ext (e1.trans e2) hr2) rv2 (RD.ext e2 _ _ rv) h2
  exact ⟨q, _, dx, fs, r1, r2, r3, r4, r5, r6⟩
theorem t_never {st : Stmt} : PS X st (lfS X T W (evS F .never)) := ⟨fun pins s σ H D I h => by
  obtain ⟨M, s, g, rs, h⟩ := h
  simp only [evS] at h
  exact h.elim⟩
def ipB (o : BO) : TIp := fun x y H Q => ∃ i j, x = .int i ∧ y = .int j ∧ ((o = .add ∧ Q (.int (i + j)) H) ∨ (o = .sub ∧ Q (.int (i - j)) H))
theorem ip_ok {o : BO} {p : Operator} (h : iop o = some p) : PIp X p (ipB o) := by
  intro pins s σ H x y v u Q I r1 r2 hh
  obtain ⟨i, j, e1, e2, q⟩ := hh
  rcases q with ⟨rfl, q⟩ | ⟨rfl, q⟩
  · cases h
    exact ip_add pins s σ H x y v u Q I r1 r2 ⟨i, j, e1, e2, q⟩
  · cases h
    exact ip_sub pins s σ H x y v u Q I r1 r2 ⟨i, j, e1, e2, q⟩
theorem t_afld (C : Ctx X c T F W) {a e : LE} {k : Nat} {o : BO} {op : Operator} {x v : Expr} {n : Str} {p pos : Pos} (ho : iop o = some op) (h2 : c.knm k = some n) (ha : PE X x (lfE X T W (evE F a))) (he : PE X v (lfE X T W (evE F e))) : PS X (.AugAssign (.Attribute x n p) op v pos) (lfS X T W (evS F (.afld a k o e))) := by
  have hn := C.kn k n h2
  subst hn
  refine (ps_fldaug ha he (rd := ipB o) (ip_ok ho)).via fun E σ H h => ?_
  obtain ⟨M, s, g, rs, h⟩ := h
  refine ⟨M, s, g, rs, wpF.toF rs (by simpa only [evS] using h) fun d M1 H1 g1 e1 hr1 h1 v rv => ?_⟩
  have rs1 := rs.ext e1 hr1
  cases ec : clsOf g1 d with
  | none => rw [ec] at h1; exact h1.elim
  | some q =>
  obtain ⟨ci, ks, fs⟩ := q
  rw [ec] at h1
  simp only at h1
  cases eC : F.cls ci with
  | none => rw [eC] at h1; exact h1.elim
  | some CC =>
  rw [eC] at h1
  simp only at h1
  cases ef : fldD ks fs k with
  | none => rw [ef] at h1; exact h1.elim
  | some old =>
  rw [ef] at h1
  simp only at h1
  split at h1
  · rename_i hc
    have K1 := C.cls ci CC eC
    obtain ⟨a0, dx, fvs, rfl, i1, i2, i3⟩ := rv.inst hr1 ec
    obtain ⟨w, w1, w2⟩ := fld_look C.inj i2 i3 ef
    refine ⟨a0, _, dx, fvs, w, rfl, i1, K1.cl, K1.fl k hc, w1, M1, s, g1, rs1, wpF.toF rs1 h1 fun d3 M3 H3 g3 e3 hr3 h3 v3 rv3 => ?_⟩
    have rs3 := rs1.ext e3 hr3
    have w3 := RD.ext e3 _ _ w2
    have rx := RD.ext e3 _ _ rv
    split at h3
    · rename_i hcl
      have fin : ∀ (i : Int), wpF X T W M3 H3 (nxO s (putA F d k (.int i) g3)) E → ∃ dx' fs', H3 a0 = some (.ins (T.cad ci) dx' fs') ∧ fs'.length < 1000 ∧ E.nx σ (upd H3 a0 (.ins (T.cad ci) dx' (putF (T.knm k) (.int i) fs'))) := fun i hh => by
        obtain ⟨q, cj, dx', fs', r0, r1, r2, r3, r4, r5, r6⟩ := putA_ok C rs3 rx (d := .int i) (v := .int i) (by unfold RD; rfl) hh
        cases r1
        have : cj = ci := Option.some.inj (r0.symm.trans hcl)
        subst this
        exact ⟨dx', fs', r2, r5, r6⟩
      split at h3
      · cases w3
        cases rv3
        exact ⟨_, _, rfl, rfl, .inl ⟨rfl, fin _ h3⟩⟩
      · cases w3
        cases rv3
        exact ⟨_, _, rfl, rfl, .inr ⟨rfl, fin _ h3⟩⟩
      · exact h3.elim
    · exact h3.elim
  · exact h1.elim
theorem t_aug (C : Ctx X c T F W) {i : Nat} {o : BO} {op : Operator} {e : LE} {x : Str} {v : Expr} {p pos : Pos} (h1 : stB c i x = true) (ho : iop o = some op) (he : PE X v (lfE X T W (evE F e))) : PS X (.AugAssign (.Name x p) op v pos) (lfS X T W (evS F (.aug i o e))) := by
  obtain ⟨q1, q2, q3⟩ := st_of C.tg h1
  refine (ps_aug (by rw [C.hN]; exact C.nd) q1 q2 he (ip_ok ho) q3).via fun E σ H h => ?_
  obtain ⟨M, s, g, rs, h⟩ := h
  simp only [evS] at h
  split at h
  · rename_i d ed
    obtain ⟨w, z1, z2⟩ := rs.sl i d ed
    have hi : i < s.length := (List.getElem?_eq_some_iff.mp ed).1
    refine ⟨w, z1, M, s, g, rs, wpF.toF rs h fun d2 M1 H1 g1 e1 hr1 h1 v2 rv2 => ?_⟩
    have z2' := RD.ext e1 _ _ z2
    split at h1
    · cases z2'
      cases rv2
      exact ⟨_, _, rfl, rfl, .inl ⟨rfl, h1 M1 H1 _ (Ext.refl _ _) ((rs.ext e1 hr1).set hi rfl)⟩⟩
    · cases z2'
      cases rv2
      exact ⟨_, _, rfl, rfl, .inr ⟨rfl, h1 M1 H1 _ (Ext.refl _ _) ((rs.ext e1 hr1).set hi rfl)⟩⟩
    · exact h1.elim
  · exact h.elim
theorem RDs.len_ix {K : PySem.W.Frag} {M : Mp} {H : Hp} {ds : List D} {vs : List V} (h : RDs K T M H ds vs) {i : Int} {j : Nat} (e : ixn ds.length i = some j) : ixN vs.length i = some j := by rw [← h.length]; exact e
theorem put_ok {M : Mp} {H : Hp} {g : G} {s : KN.St} {σ : L2.St} {x y d : D} {xv yv v : V} {E : Ends} (rs : RS X.K T M H g s σ) (hx : RD X.K T M H x xv) (hy : RD X.K T M H y yv) (rv : RD X.K T M H d v) (h : wpF X T W M H (nxO s (putP x y d g)) E) :
    rSetL xv yv v H (fun H' => E.nx σ H') ∨ rSetD xv yv v H (fun H' => E.nx σ H') := by
  cases x <;> simp only [putP] at h <;> try exact h.elim
  rename_i p
  obtain ⟨q, hq, rfl⟩ := hx
  split at h
  · rename_i xs eg
    obtain ⟨vs, z1, z2, z3⟩ := rs.hr.at eg hq
    cases y <;> try exact h.elim
    rename_i i
    cases hy
    simp only at h
    cases ej : ixn xs.length i with
    | none => rw [ej] at h; exact h.elim
    | some j =>
      rw [ej] at h
      refine .inl ⟨q, vs, i, j, rfl, rfl, z1, z3.len_ix ej, ?_⟩
      have e : Ext M H M _ := Ext.write (o := .lst (vs.set j v)) hq
      have hr' : HR X.K T M (upd H q (.lst (vs.set j v))) (g.set p (.lst (xs.set j d))) := rs.hr.write hq ⟨_, upd_same, by rw [List.length_set]; exact z2, RDs.ext e _ _ (z3.set j rv)⟩
      exact h M _ σ e (rs.ext e hr')
  · rename_i kvs eg
    obtain ⟨vs, z1, z2, z3, z4⟩ := rs.hr.at eg hq
    split at h
    · rename_i hl
      cases ek : keyD y with
      | none => rw [ek] at h; exact h.elim
      | some k =>
        rw [ek] at h
        have hk := key_ok hy ek
        subst hk
        have hl' : vs.length < LIM := by
          have := congrArg List.length z3
          rw [List.length_map, List.length_map] at this
          rw [this]; exact hl
        refine .inr ⟨q, _, rfl, DPut.k z1 (by rw [← LIM_eq]; exact hl'), ?_⟩
        have e : Ext M H M _ := Ext.write (o := .dK (L2.putK vs k v)) hq
        obtain ⟨y1, y2⟩ := RDs.put (k := k) z3 z4 rv
        have hr' : HR X.K T M (upd H q (.dK (L2.putK vs k v))) (g.set p (.dk (KN.putK kvs k d))) := rs.hr.write hq ⟨_, upd_same, by have := put_len (kvs := vs) (k := k) (v := v); omega, y1, RDs.ext e _ _ y2⟩
        exact h M _ σ e (rs.ext e hr')
    · exact h.elim
  · exact h.elim
theorem PSet.or {t t' : TSet} (h : PSet X t) (h' : PSet X t') : PSet X (fun o i v H Q => t o i v H Q ∨ t' o i v H Q) := by
  intro pins s σ H o i v ov iv u Q I r1 r2 r3 z
  rcases z with z | z
  · exact h pins s σ H o i v ov iv u Q I r1 r2 r3 z
  · exact h' pins s σ H o i v ov iv u Q I r1 r2 r3 z
theorem set_LD (C : Ctx X c T F W) : PSet X (fun o i v H Q => rSetL o i v H Q ∨ rSetD o i v H Q) := PSet.or set_list (set_dict (by have := C.hu; omega))
theorem t_seti (C : Ctx X c T F W) {a b e : LE} {x y v : Expr} {p pos : Pos} (h1 : noSlice y = true) (h2 : noComp v = true) (ha : PE X x (lfE X T W (evE F a))) (hb : PE X y (lfE X T W (evE F b))) (he : PE X v (lfE X T W (evE F e))) : PS X (.Assign [.Subscript x y p] v pos) (lfS X T W (evS F (.seti a b e))) := by
  refine (ps_asg he (pg_sub ha hb (set_LD C) (fun v => by cases y <;> first | rfl | (simp [noSlice] at h1))) (show swapsWith v (some (.Subscript x y p)) pos.line X.env = pure false from swaps_no h2) rfl rfl).via fun E σ H h => ?_
  obtain ⟨M, s, g, rs, h⟩ := h
  refine ⟨M, s, g, rs, wpF.toF rs (by simpa only [evS] using h) fun d M1 H1 g1 e1 hr1 h1 v rv => ⟨M1, s, g1, rs.ext e1 hr1, wpF.toF (rs.ext e1 hr1) h1 fun d2 M2 H2 g2 e2 hr2 h2 v2 rv2 => ⟨M2, s, g2, rs.ext (e1.trans e2) hr2, wpF.toF (rs.ext (e1.trans e2) hr2) h2 fun d3 M3 H3 g3 e3 hr3 h3 v3 rv3 => ?_⟩⟩⟩
  exact put_ok (rs.ext ((e1.trans e2).trans e3) hr3) (RD.ext e3 _ _ rv2) rv3 (RD.ext (e2.trans e3) _ _ rv) h3
theorem t_seti2 (C : Ctx X c T F W) {a b a2 b2 e : LE} {x y x2 y2 v : Expr} {p p2 pt pos : Pos} {kt : Nat} (h1 : noSlice y = true) (h1' : noSlice y2 = true) (h2 : tupNone c.sc [.Subscript x y p, .Subscript x2 y2 p2] v = true) (h3 : noComp v = true)
    (ha : PE X x (lfE X T W (evE F a))) (hb : PE X y (lfE X T W (evE F b))) (ha2 : PE X x2 (lfE X T W (evE F a2))) (hb2 : PE X y2 (lfE X T W (evE F b2))) (he : PE X v (lfE X T W (evE F e))) :
    PS X (.Assign [.Tuple [.Subscript x y p, .Subscript x2 y2 p2] kt pt] v pos) (lfS X T W (evS F (.seti2 a b a2 b2 e))) := by
  refine (ps_asg he (pg_tup C.calm (pgs_cons (pg_sub ha hb (set_LD C) (fun v => by cases y <;> first | rfl | (simp [noSlice] at h1))) (pgs_cons (pg_sub ha2 hb2 (set_LD C) (fun v => by cases y2 <;> first | rfl | (simp [noSlice] at h1'))) pgs_nil)))
    (show swapsWith v (some (.Tuple [.Subscript x y p, .Subscript x2 y2 p2] kt pt)) pos.line X.env = pure false from swaps_no h3) (by
      rw [← C.sc] at h2
      cases v with
      | Tuple vs _ _ => exact stack_none h2
      | _ => rfl) rfl).via fun E σ H h => ?_
  obtain ⟨M, s, g, rs, h⟩ := h
  refine ⟨M, s, g, rs, wpF.toF rs (by simpa only [evS] using h) fun d M1 H1 g1 e1 hr1 h1 v rv => ?_⟩
  split at h1
  · rename_i d1 d2
    obtain ⟨q, vs, rfl, q1, q2, q3⟩ := rv
    obtain ⟨v1, r1, rfl, w1, v2, r2, rfl, w2, rfl⟩ := q3
    refine ⟨q, [v1, v2], rfl, q1.sq, rfl, v1, [v2], rfl, M1, s, g1, rs.ext e1 hr1, wpF.toF (rs.ext e1 hr1) h1 fun d3 M2 H2 g2 e2 hr2 h2 v3 rv3 => ⟨M2, s, g2, rs.ext (e1.trans e2) hr2, wpF.toF (rs.ext (e1.trans e2) hr2) h2 fun d4 M3 H3 g3 e3 hr3 h3 v4 rv4 => ?_⟩⟩
    have rs3 := rs.ext ((e1.trans e2).trans e3) hr3
    cases ep : putP d3 d4 d1 g3 with
    | none => rw [ep] at h3; exact h3.elim
    | some g' =>
      rw [ep] at h3
      refine put_ok (X := X) (T := T) (W := W) (E := { nx := fun σ' H' => gCons (gSub (lfE X T W (evE F a2)) (lfE X T W (evE F b2)) (fun o i v H Q => rSetL o i v H Q ∨ rSetD o i v H Q)) gNil [v2] σ' H' E.nx, rt := fun _ _ => False }) rs3 (RD.ext e3 _ _ rv3) rv4 (RD.ext (e2.trans e3) _ _ w1) ?_
      rw [ep]
      intro M4 H4 σ4 e4 rs4
      refine ⟨v2, [], rfl, M4, s, g', rs4, wpF.toF rs4 (wpF.ext h3 e4) fun d5 M5 H5 g5 e5 hr5 h5 v5 rv5 => ⟨M5, s, g5, rs4.ext e5 hr5, wpF.toF (rs4.ext e5 hr5) h5 fun d6 M6 H6 g6 e6 hr6 h6 v6 rv6 => ?_⟩⟩
      refine put_ok (X := X) (T := T) (W := W) (E := { nx := fun σ' H' => gNil [] σ' H' E.nx, rt := fun _ _ => False }) (rs4.ext (e5.trans e6) hr6) (RD.ext e6 _ _ rv5) rv6 (RD.ext ((((e2.trans e3).trans e4).trans e5).trans e6) _ _ w2) ?_
      cases ep2 : putP d5 d6 d2 g6 with
      | none => rw [ep2] at h6; exact h6.elim
      | some g7 =>
        rw [ep2] at h6
        intro M7 H7 σ7 e7 rs7
        exact ⟨rfl, h6 M7 H7 σ7 e7 rs7⟩
  · exact h1.elim
def rGetL : V → V → Hp → VK → Prop := fun x y H Q => ∃ p xs i v, x = .ref p ∧ y = .int i ∧ H p = some (.lst xs) ∧ atI xs i = some v ∧ Q v H
theorem get_list : PGet X rGetL := by
  intro pins s σ H x y v u Q I rx ry h
  obtain ⟨p, xs, i, z, rfl, rfl, hq, he, q⟩ := h
  cases rx
  obtain ⟨t, rfl⟩ := ry
  obtain ⟨its, r, pl, hz⟩ := I.list (SqL.of (K := X.K) hq)
  obtain ⟨j, h1, h2, h3, h4, h5⟩ := atI_get he
  obtain ⟨w, ew, rw'⟩ := r.get h2
  have hl := r.length
  have hn := line63
  have fin : EP X pins σ Q w s := ⟨z, H, I, rw', q⟩
  by_cases h0 : 0 ≤ i
  · have hj : i.toNat = j := by
      rw [seqIndex_of h0 h5] at h1
      exact Option.some.inj h1
    exact wpAny_getItem_list pl.isList h0 (by omega) (by rw [hj]; simpa using ew) fin
  · have hj : (i + (its.toArray.size : Int)).toNat = j := by
      rw [seqIndex_neg (by omega) h4] at h1
      rw [List.size_toArray, ← hl]
      exact Option.some.inj h1
    exact wpAny_getItem_list_neg pl.isList (by omega) (by rw [List.size_toArray] <;> omega) (by omega) (by rw [hj]; simpa using ew) fin
theorem get_dk (hu : X.A.units + 64 < cLine) : PGet X rIxDk := by
  intro pins s σ H x y v u Q I rx ry h
  obtain ⟨a, z, rfl, g, q⟩ := h
  cases rx
  exact d_getItem (by omega) I g ry fun w' s3 I3 rw' => ⟨z, H, I3, rw', q⟩
theorem PGet.or {t t' : V → V → Hp → VK → Prop} (h : PGet X t) (h' : PGet X t') : PGet X (fun x y H Q => t x y H Q ∨ t' x y H Q) := by
  intro pins s σ H x y v u Q I r1 r2 z
  rcases z with z | z
  · exact h pins s σ H x y v u Q I r1 r2 z
  · exact h' pins s σ H x y v u Q I r1 r2 z
theorem get_LD (C : Ctx X c T F W) : PGet X (fun x y H Q => rGetL x y H Q ∨ rIxDk x y H Q) := PGet.or get_list (get_dk C.hu)
theorem getP_ok {M : Mp} {H : Hp} {g : G} {x y d : D} {xv yv : V} (hr : HR X.K T M H g) (hx : RD X.K T M H x xv) (hy : RD X.K T M H y yv) (h : getP g x y = some d) : ∃ w, RD X.K T M H d w ∧ ∀ Q : VK, Q w H → rGetL xv yv H Q ∨ rIxDk xv yv H Q := by
  cases x <;> simp only [getP] at h <;> try contradiction
  rename_i p
  split at h
  · rename_i xs eg
    obtain ⟨q, hq, rfl⟩ := hx
    obtain ⟨vs, y1, y2, y3⟩ := hr.at eg hq
    split at h
    · rename_i i
      cases hy
      obtain ⟨j, ej, eo'⟩ := ix_bind h
      obtain ⟨ov, k1, k2⟩ := y3.get eo'
      exact ⟨ov, k2, fun Q z => .inl ⟨q, vs, i, ov, rfl, rfl, y1, by unfold atI; rw [y3.len_ix ej]; exact k1, z⟩⟩
    · cases h
  · rename_i kvs eg
    cases ek : keyD y with
    | none => rw [ek] at h; cases h
    | some k =>
      rw [ek] at h
      obtain ⟨q, o, rfl, z1, _, z3⟩ := dget_ok hr hy hx (show dkOf g (.ref p) = some kvs by simp only [dkOf, eg]) ek
      obtain ⟨w, rfl, z4⟩ := z3 d h
      exact ⟨w, z4, fun Q z => .inr ⟨q, w, rfl, z1, z⟩⟩
  · cases h
theorem t_augi (C : Ctx X c T F W) {o : BO} {op : Operator} {a b e : LE} {x y v : Expr} {p pos : Pos} (h1 : noSlice y = true) (ho : iop o = some op) (ha : PE X x (lfE X T W (evE F a))) (hb : PE X y (lfE X T W (evE F b))) (he : PE X v (lfE X T W (evE F e))) : PS X (.AugAssign (.Subscript x y p) op v pos) (lfS X T W (evS F (.augi o a b e))) := by
  refine (ps_augS ha hb (get_LD C) he (ip_ok ho) (set_LD C) (fun _ _ _ => by cases y <;> first | rfl | (simp [noSlice] at h1))).via fun E σ H h => ?_
  obtain ⟨M, s, g, rs, h⟩ := h
  refine ⟨M, s, g, rs, wpF.toF rs (by simpa only [evS] using h) fun d M1 H1 g1 e1 hr1 h1 v rv => ⟨M1, s, g1, rs.ext e1 hr1, wpF.toF (rs.ext e1 hr1) h1 fun d2 M2 H2 g2 e2 hr2 h2 v2 rv2 => ?_⟩⟩
  have rs2 := rs.ext (e1.trans e2) hr2
  have rv' := RD.ext e2 _ _ rv
  split at h2
  · rename_i old eo
    obtain ⟨ov, k2, kq⟩ := getP_ok hr2 rv' rv2 eo
    refine kq _ ⟨M2, s, g2, rs2, wpF.toF rs2 h2 fun d3 M3 H3 g3 e3 hr3 h3 v3 rv3 => ?_⟩
    have rs3 := rs2.ext e3 hr3
    have k3 := RD.ext e3 _ _ k2
    split at h3
    · cases k3
      cases rv3
      exact ⟨_, _, rfl, rfl, .inl ⟨rfl, put_ok rs3 (RD.ext e3 _ _ rv') (RD.ext e3 _ _ rv2) (d := .int _) (by unfold RD; rfl) h3⟩⟩
    · cases k3
      cases rv3
      exact ⟨_, _, rfl, rfl, .inr ⟨rfl, put_ok rs3 (RD.ext e3 _ _ rv') (RD.ext e3 _ _ rv2) (d := .int _) (by unfold RD; rfl) h3⟩⟩
    · exact h3.elim
  · exact h2.elim
theorem t_app {a e : LE} {o y : Expr} {ap cp pos : Pos} (h1 : noStar y = true) (h2 : plainBase o = true) (h3 : (ap.endLine == cp.line) = true) (ha : PE X o (lfE X T W (evE F a))) (he : PE X y (lfE X T W (evE F e))) : PS X (.Expr (.Call (.Attribute o "append" ap) [y] [] cp) pos) (lfS X T W (evS F (.app a e))) := by
  refine (ps_expr (pe_bm PySem.F.plainAttrs_list PySem.F.slot_list_append PySem.F.type_list_append mt_append ha (pa_cons he pa_nil (star_cons h1)) (base_of h2) (by rw [star_cons h1]; rfl) h3 (star_cons h1) rfl) rfl).via fun E σ H h => ?_
  obtain ⟨M, s, g, rs, h⟩ := h
  refine ⟨M, s, g, rs, wpF.toF rs (by simpa only [evS] using h) fun d M1 H1 g1 e1 hr1 h1 v rv => ?_⟩
  have rs1 := rs.ext e1 hr1
  split at h1
  · rename_i q
    obtain ⟨w, z1, rfl⟩ := rv
    split at h1
    · rename_i xs eg
      obtain ⟨vs, y1, y2, y3⟩ := hr1.at eg z1
      refine ⟨.inl ⟨rfl, vs, .inl (.inl y1)⟩, M1, s, g1, rs1, wpF.toF rs1 h1 fun d2 M2 H2 g2 e2 hr2 h2 v2 rv2 => ?_⟩
      have rs2 := rs1.ext e2 hr2
      have z2 := e2.keeps.pre _ _ z1
      split at h2
      · rename_i xs' eg'
        obtain ⟨vs', k1, k2, k3⟩ := hr2.at eg' z2
        split at h2
        · rename_i hl
          have hl' : vs'.length < LIM := by rw [← k3.length]; exact hl
          refine ⟨w, vs', v2, rfl, rfl, k1, by rw [← LIM_eq]; exact hl', ?_⟩
          have e : Ext M2 H2 M2 _ := Ext.write (o := .lst (vs' ++ [v2])) z2
          have hr' := hr2.write z2 (o := .lst (vs' ++ [v2])) (u := .lst (xs' ++ [d2])) ⟨_, upd_same, by rw [List.length_append]; exact hl', RDs.ext e _ _ (k3.append ⟨v2, [], rfl, rv2, rfl⟩)⟩
          exact h2 M2 _ σ e (rs2.ext e hr')
        · exact h2.elim
      · exact h2.elim
    · exact h1.elim
  · exact h1.elim
theorem t_ret {e : LE} {x : Expr} {pos : Pos} (he : PE X x (lfE X T W (evE F e))) : PS X (.Return (some x) pos) (lfS X T W (evS F (.ret e))) := by
  refine (ps_ret he).via fun E σ H h => ?_
  obtain ⟨M, s, g, rs, h⟩ := h
  refine ⟨M, s, g, rs, wpF.toF rs (by simpa only [evS] using h) fun d M1 H1 g1 e1 hr1 h1 v rv => ?_⟩
  exact h1 M1 H1 v (Ext.refl _ _) hr1 rv
theorem t_retn {pos : Pos} : PS X (.Return none pos) (lfS X T W (evS F .retn)) := ps_retN.via fun E σ H h => by
  obtain ⟨M, s, g, rs, h⟩ := h
  simp only [evS] at h
  exact h M H .non (Ext.refl _ _) rs.hr (by unfold RD; rfl)
theorem t_ite {d : LC} {a b : LSs} {t : Expr} {xs ys : List Stmt} {pos : Pos} (hd : PT X t (lfC X T W (evC F d))) (ha : PSs X xs (lfS X T W (evSs F a))) (hb : PSs X ys (lfS X T W (evSs F b))) : PS X (.If t xs ys pos) (lfS X T W (evS F (.ite d a b))) := by
  refine (ps_if hd ha hb).via fun E σ H h => ?_
  obtain ⟨M, s, g, rs, h⟩ := h
  simp only [evS] at h
  refine ⟨M, s, g, rs, ?_⟩
  cases e : evC F d s g with
  | ok k g1 =>
    rw [e] at h
    intro M1 H1 e1 hr1
    cases k with
    | true => exact iteT ⟨M1, s, g1, rs.ext e1 hr1, wpF.ext h e1⟩
    | false => exact iteF ⟨M1, s, g1, rs.ext e1 hr1, wpF.ext h e1⟩
  | exc x g1 =>
    rw [e] at h
    exact fun M' H' cls dd e hr hx => h M' H' σ cls dd e (rs.ext e hr) hx
  | st => rw [e] at h; exact h
theorem t_nil : PSs X [] (lfS X T W (evSs F .nil)) := pss_nil.via fun E σ H h => by
  obtain ⟨M, s, g, rs, h⟩ := h
  simp only [evSs] at h
  exact h M H σ (Ext.refl _ _) rs
theorem t_cons {s : LS} {r : LSs} {x : Stmt} {xs : List Stmt} (h1 : PS X x (lfS X T W (evS F s))) (h2 : PSs X xs (lfS X T W (evSs F r))) : PSs X (x :: xs) (lfS X T W (evSs F (.cons s r))) := by
  refine (pss_cons h1 h2).via fun E σ H h => ?_
  obtain ⟨M, s0, g, rs, h⟩ := h
  simp only [evSs] at h
  refine ⟨M, s0, g, rs, ?_⟩
  cases e : evS F s s0 g with
  | nx s1 g1 => rw [e] at h; exact fun M' H' σ' e' rs' => ⟨M', s1, g1, rs', wpF.ext h e'⟩
  | rt d g1 => rw [e] at h; exact h
  | bk s1 g1 => rw [e] at h; exact h
  | ct s1 g1 => rw [e] at h; exact h
  | ex x s1 g1 => rw [e] at h; exact h
  | st => rw [e] at h; exact h
theorem t_for (C : Ctx X c T F W) {t : LT} {i : LI} {b : LSs} {tg iter : Expr} {body : List Stmt} {pos : Pos} (h1 : kT c t tg = true) (h2 : noSet iter = true) (hi : PI X tg iter (lfI X T W (evI F i))) (hb : PSs X body (lfS X T W (evSs F b))) : PS X (.For tg iter body [] pos) (lfS X T W (evS F (.for_ t i b))) := by
  refine (ps_for C.po C.calm hi (s_tgt (T := T) C.tg h1) hb (fold_of h2)).via fun E σ H h => ?_
  obtain ⟨M, s, g, rs, h⟩ := h
  simp only [evS] at h
  refine ⟨M, s, g, rs, ?_⟩
  cases e : evI F i s g with
  | exc x g1 =>
    rw [e] at h
    exact fun M' H' cls dd e hr hx => h M' H' σ cls dd e (rs.ext e hr) hx
  | st => rw [e] at h; exact h
  | ok p g1 =>
    rw [e] at h
    obtain ⟨items, lk⟩ := p
    intro M1 H1 e1 hr1 J wd
    simp only at h wd
    have h := wpF.ext h e1
    refine ⟨fun i m σ2 H2 => m = items.length - i ∧ i ≤ items.length ∧ ∃ M2 s2 g2, RS X.K T M2 H2 g2 s2 σ2 ∧ Ext M1 H1 M2 H2 ∧ wpF X T W M2 H2 (forL t lk (evSs F b) (items.drop i) s2 g2) E, ⟨items.length, by simp, Nat.zero_le _, M1, s, g1, rs.ext e1 hr1, Ext.refl _ _, by simpa using h⟩, ?_⟩
    rintro i m σ2 H2 ⟨rfl, hi, M2, s2, g2, rs2, e2, h2⟩
    have lock : lockOk lk g2 := by
      by_cases q : lockOk lk g2
      · exact q
      · exfalso
        cases hd : items.drop i with
        | nil => rw [hd, forL, if_neg q] at h2; exact h2
        | cons d r => rw [hd, forL, if_neg q] at h2; exact h2
    obtain ⟨w1, w2, w3⟩ := wd.st M2 H2 g2 e2 rs2.hr lock i
    by_cases hlt : i < items.length
    · refine .inr ⟨w1 hlt, fun σ3 H3 => ∃ M3 s3 g3, RS X.K T M3 H3 g3 s3 σ3 ∧ Ext M1 H1 M3 H3 ∧ wpF X T W M3 H3 (forL t lk (evSs F b) (items.drop (i + 1)) s3 g3) E, fun σ3 H3 n => ⟨items.length - (i + 1), by omega, rfl, hlt, n⟩, fun x H3 y => ?_⟩
      have hd : items[i]? = some items[i] := List.getElem?_eq_getElem hlt
      obtain ⟨e3, hr3, rx⟩ := w3 x H3 y _ hd
      rw [List.drop_eq_getElem_cons hlt, forL, if_pos lock] at h2
      cases es : setT t items[i] s2 with
      | none => rw [es] at h2; exact h2.elim
      | some s1 =>
        rw [es] at h2
        refine ⟨items[i], M2, s2, g2, s1, rs2.ext e3 hr3, rx, es, fun σ4 rs4 _ => ⟨M2, s1, g2, rs4, ?_⟩⟩
        simp only at h2
        have h2 := wpF.ext h2 e3
        cases eb : evSs F b s1 g2 with
        | nx s5 g5 => rw [eb] at h2; exact fun M' H' σ' e' rs' => ⟨M', s5, g5, rs', (e2.trans e3).trans e', wpF.ext h2 e'⟩
        | ct s5 g5 => rw [eb] at h2; exact fun M' H' σ' e' rs' => ⟨M', s5, g5, rs', (e2.trans e3).trans e', wpF.ext h2 e'⟩
        | bk s5 g5 => rw [eb] at h2; exact h2
        | rt d g5 => rw [eb] at h2; exact h2
        | ex x s5 g5 => rw [eb] at h2; exact h2
        | st => rw [eb] at h2; exact h2
    · have ei : i = items.length := by omega
      subst ei
      refine .inl ⟨w2 (Nat.le_refl _), ?_⟩
      rw [List.drop_length, forL, if_pos lock] at h2
      exact h2 M2 H2 σ2 (Ext.refl _ _) rs2
theorem t_whl (C : Ctx X c T F W) {d : LC} {b : LSs} {t : Expr} {body : List Stmt} {pos : Pos} (hd : PT X t (lfC X T W (evC F d))) (hb : PSs X body (lfS X T W (evSs F b))) : PS X (.While t body [] pos) (lfS X T W (evS F (.whl d b))) := by
  refine (ps_while C.po hd hb).via fun E σ H h => ?_
  obtain ⟨M, s, g, rs, h⟩ := h
  simp only [evS] at h
  refine ⟨fun n σ2 H2 => ∃ M2 s2 g2, RS X.K T M2 H2 g2 s2 σ2 ∧ wpF X T W M2 H2 (whlL (evC F d) (evSs F b) n s2 g2) E, ⟨F.fuel, M, s, g, rs, h⟩, ?_⟩
  rintro n σ2 H2 ⟨M2, s2, g2, rs2, h2⟩
  cases n with
  | zero => exact h2.elim
  | succ n =>
    rw [whlL] at h2
    refine ⟨M2, s2, g2, rs2, ?_⟩
    cases e : evC F d s2 g2 with
    | exc x g1 =>
      rw [e] at h2
      exact fun M' H' cls dd e hr hx => h2 M' H' σ2 cls dd e (rs2.ext e hr) hx
    | st => rw [e] at h2; exact h2
    | ok k g1 =>
      intro M1 H1 e1 hr1
      cases k with
      | false =>
        rw [e] at h2
        exact iteF (h2 M1 H1 σ2 e1 (rs2.ext e1 hr1))
      | true =>
        rw [e] at h2
        refine iteT ⟨fun σ3 H3 => ∃ M3 s3 g3, RS X.K T M3 H3 g3 s3 σ3 ∧ wpF X T W M3 H3 (whlL (evC F d) (evSs F b) n s3 g3) E, fun σ3 H3 q => ⟨n, Nat.lt_succ_self n, q⟩, M1, s2, g1, rs2.ext e1 hr1, ?_⟩
        have h2 := wpF.ext h2 e1
        cases eb : evSs F b s2 g1 with
        | nx s5 g5 => simp only [eb] at h2; exact fun M' H' σ' e' rs' => ⟨M', s5, g5, rs', wpF.ext h2 e'⟩
        | ct s5 g5 => simp only [eb] at h2; exact fun M' H' σ' e' rs' => ⟨M', s5, g5, rs', wpF.ext h2 e'⟩
        | bk s5 g5 => simp only [eb] at h2; exact h2
        | rt d g5 => simp only [eb] at h2; exact h2
        | ex x s5 g5 => simp only [eb] at h2; exact h2
        | st => simp only [eb] at h2; exact h2
end
end KN

namespace KN
open PySem PySem.Spec PyProof.Rows L2
section
variable {X : Cx} {c : Ck} {T : Tb} {F : Fn} {W : WX}
theorem sw_false {sc : Scope} {x : Str} {p : Pos} {v : Expr} {l : Nat} {env : Env} (hs : env.scope = sc) (hk : env.scope.kind = .function) (h : swB sc x p v = some false) : swapsWith v (some (.Name x p)) l env = pure false := by
  subst hs
  have hb : env.blockKind = .function := by unfold Env.blockKind; rw [hk]; rfl
  cases v with
  | ListComp e gs s vp =>
    simp only [swB] at h
    unfold swapsWith
    split at h
    · rename_i e1
      have ky : env.kindOf x = some .local := e1
      have h2 := Option.some.inj h
      have e2 : (env.blockKind == ScopeKind.function) = true := by rw [hb]; rfl
      have e3 : (env.kindOf x == some NameKind.local) = true := by rw [ky]; rfl
      show pure (env.blockKind == ScopeKind.function && env.kindOf x == some NameKind.local && p.line == vp.line && !(s.names.any fun (n, k) => n == x && (k == .local || k == .cell))) = pure false
      rw [e2, e3, Bool.true_and, Bool.true_and, h2]
    · rename_i e1
      have ky : env.kindOf x = some .cell := e1
      have e3 : (env.kindOf x == some NameKind.local) = false := by rw [ky]; rfl
      show pure (env.blockKind == ScopeKind.function && env.kindOf x == some NameKind.local && p.line == vp.line && !(s.names.any fun (n, k) => n == x && (k == .local || k == .cell))) = pure false
      rw [e3, Bool.and_false, Bool.false_and, Bool.false_and]
    · cases h
  | SetComp _ _ _ _ => simp [swB] at h
  | DictComp _ _ _ _ _ => simp [swB] at h
  | _ => rfl
theorem t_setLc (C : Ctx X c T F W) {k : Nat} {y : Str} {py spos : Pos} {mu : Bool} {e : LE} {t : LT} {i : LI} {cc : LCs} {elt tg iter : Expr} {ifs : List Expr} {scope : Scope} {pos : Pos}
    (hy : stB c k y = true) (hsw : swB c.sc y py (.ListComp elt [⟨tg, iter, ifs, 0⟩] scope pos) = some true)
    (h1 : blkC c.N c.sc scope (ownN c t) = true) (h2 : (ownN c t).map (·.2) = ownT t) (h3 : kT (c.blk scope) t tg = true) (h4 : noSet iter = true)
    (hi : PI X tg iter (lfI X T W (evI F i)))
    (hc : ∀ {X' : Cx} {c' : Ck} (C' : Ctx X' c' T F W0), c' = c.blk scope → PTs X' ifs (lfC X' T W0 (evCs F cc)))
    (he : ∀ {X' : Cx} {c' : Ck} (C' : Ctx X' c' T F W0), c' = c.blk scope → PE X' elt (lfE X' T W0 (evE F e))) :
    PS X (.Assign [.Name y py] (.ListComp elt [⟨tg, iter, ifs, 0⟩] scope pos) spos) (lfS X T W (evS F (.set k (.comp mu e t i cc)))) := by
  have ok := blkOk_by h1
  obtain ⟨q1, q2, q3⟩ := st_of C.tg hy
  simp only [swB] at hsw
  split at hsw
  · rename_i hl
    have hsw := Option.some.inj hsw
    simp only [Bool.and_eq_true, Bool.not_eq_true'] at hsw
    have hl' : X.env.scope.names.lookup y = some .local := by rw [C.sc]; exact hl
    refine (ps_setLc C.calm (by rw [C.hN]; exact C.nd) q1 hl' (sw_true C.kd hl' hsw.1 hsw.2) hi (by rw [C.hN, C.sc]; exact ok) (fun s H Cc cl fp => s_tgt (T := T) (C.blk ok s H Cc cl fp).tg h3) (fun s H Cc cl fp => hc (C.blk ok s H Cc cl fp) rfl) (fun s H Cc cl fp => he (C.blk ok s H Cc cl fp) rfl) (fold_of h4)).via
      fun E σ H h => t_setfin (fun h => s_lc (pos := pos) (elt := elt) (tg := tg) (iter := iter) (ifs := ifs) (scope := scope) (wi := lfI X T W (evI F i)) C h2 X.K rfl h) h
  · cases hsw
  · cases hsw
theorem t_pass {pos : Pos} : PS X (.Pass pos) (lfS X T W (evS F .pass)) := ps_pass.via fun E σ H h => by
  obtain ⟨M, s, g, rs, h⟩ := h
  simp only [evS] at h
  exact h M H σ (Ext.refl _ _) rs
theorem t_brk {pos : Pos} : PS X (.Break pos) (lfS X T W (evS F .brk)) := ps_break.via fun E σ H h => by
  obtain ⟨M, s, g, rs, h⟩ := h
  simp only [evS] at h
  exact h M H σ (Ext.refl _ _) rs
theorem t_cnt {pos : Pos} : PS X (.Continue pos) (lfS X T W (evS F .cnt)) := ps_continue.via fun E σ H h => by
  obtain ⟨M, s, g, rs, h⟩ := h
  simp only [evS] at h
  exact h M H σ (Ext.refl _ _) rs
mutual
theorem sS : ∀ (l : LS) {X : Cx} {c : Ck} {W : WX} (C : Ctx X c T F W) (st : Stmt), kS c l st = true → PS X st (lfS X T W (evS F l))
  | .expr e, X, c, W, C, st, h => by
    cases st with
    | Expr x p =>
      simp only [kS, Bool.and_eq_true] at h
      exact t_expr h.2 (sE e _ _ _ C x h.1)
    | _ => exact absurd h Bool.false_ne_true
  | .set i e, X, c, W, C, st, h => by
    cases st with
    | Assign tgs v pos =>
      simp only [kS] at h
      split at h
      · rename_i x p
        simp only [Bool.and_eq_true] at h
        obtain ⟨⟨h1, h2⟩, h3⟩ := h
        split at h3
        · rename_i e1
          exact t_set C h1 (sw_false C.sc C.kd e1) (sE e _ _ _ C v h2)
        · rename_i e1
          split at h3
          · rename_i elt tg iter ifs as scope q
            cases e with
            | comp mu e' t s d =>
              simp only [kE, Bool.and_eq_true, decide_eq_true_eq] at h2
              obtain ⟨⟨⟨⟨⟨⟨⟨⟨rfl, k1⟩, k2⟩, k3⟩, k4⟩, k5⟩, kt⟩, k6⟩, k7⟩ := h2
              exact t_setLc C h1 e1 k1 k2 k3 k5 (sI s _ _ _ C iter tg k4 kt) (fun C' ec => by subst ec; exact sCs d _ _ _ C' ifs k6) (fun C' ec => by subst ec; exact sE e' _ _ _ C' elt k7)
            | _ => simp [kE] at h2
          · cases h3
        · cases h3
      · cases h
    | _ => exact absurd h Bool.false_ne_true
  | .unp is e, X, c, W, C, st, h => by
    cases st with
    | Assign tgs v pos =>
      simp only [kS] at h
      split at h
      · rename_i es k p
        simp only [Bool.and_eq_true] at h
        exact t_unp C h.1.1.1 h.1.2 h.2 (sE e _ _ _ C v h.1.1.2)
      · cases h
    | _ => exact absurd h Bool.false_ne_true
  | .par3 i j l a b d, X, c, W, C, st, h => by
    cases st with
    | Assign tgs v pos =>
      simp only [kS] at h
      split at h
      · rename_i x px y py z pz kt pt u w r k2 pt2
        simp only [Bool.and_eq_true, decide_eq_true_eq, Bool.not_eq_true'] at h
        obtain ⟨⟨⟨⟨⟨⟨⟨⟨⟨⟨⟨⟨⟨⟨⟨⟨h1, h2⟩, h3⟩, h4⟩, h5⟩, h6⟩, h7⟩, h8⟩, h9⟩, h10⟩, h11⟩, h12⟩, h13⟩, h14⟩, h15⟩, h16⟩, h17⟩ := h
        exact t_par3 C h1 h2 h3 h4 h5 h6 (sE a _ _ _ C u h7) (sE b _ _ _ C w h8) (sE d _ _ _ C r h9) h10 h11 h12 h13 h14 h15 h16 h17
      · cases h
    | _ => exact absurd h Bool.false_ne_true
  | .sfld a k e, X, c, W, C, st, h => by
    cases st with
    | Assign tgs v pos =>
      simp only [kS] at h
      split at h
      · rename_i x n p
        simp only [Bool.and_eq_true, decide_eq_true_eq] at h
        exact t_sfld C h.1.2 h.2 (sE a _ _ _ C x h.1.1.1) (sE e _ _ _ C v h.1.1.2)
      · cases h
    | _ => exact absurd h Bool.false_ne_true
  | .afld a k o e, X, c, W, C, st, h => by
    cases st with
    | AugAssign t p v pos =>
      simp only [kS] at h
      split at h
      · rename_i x n q
        simp only [Bool.and_eq_true, decide_eq_true_eq] at h
        exact t_afld C h.1.2 h.2 (sE a _ _ _ C x h.1.1.1) (sE e _ _ _ C v h.1.1.2)
      · cases h
    | _ => exact absurd h Bool.false_ne_true
  | .never, X, c, W, C, st, h => t_never
  | .par i j a b, X, c, W, C, st, h => by
    cases st with
    | Assign tgs v pos =>
      simp only [kS] at h
      split at h
      · rename_i x px y py kt pt u w k2 pt2
        simp only [Bool.and_eq_true, decide_eq_true_eq, Bool.not_eq_true'] at h
        obtain ⟨⟨⟨⟨⟨⟨⟨⟨⟨⟨⟨h1, h2⟩, h3⟩, h4⟩, h5⟩, h6⟩, h7⟩, h8⟩, h9⟩, h10⟩, h11⟩, h12⟩ := h
        exact t_par C h1 h2 h3 h4 (sE a _ _ _ C u h5) (sE b _ _ _ C w h6) h7 h8 h9 h10 h11 h12
      · cases h
    | _ => exact absurd h Bool.false_ne_true
  | .aug i o e, X, c, W, C, st, h => by
    cases st with
    | AugAssign t p v pos =>
      simp only [kS] at h
      split at h
      · rename_i x q
        simp only [Bool.and_eq_true, decide_eq_true_eq] at h
        exact t_aug C h.1.1 h.1.2 (sE e _ _ _ C v h.2)
      · cases h
    | _ => exact absurd h Bool.false_ne_true
  | .seti a b e, X, c, W, C, st, h => by
    cases st with
    | Assign tgs v pos =>
      simp only [kS] at h
      split at h
      · rename_i x y q
        simp only [Bool.and_eq_true] at h
        exact t_seti C h.1.2 h.2 (sE a _ _ _ C x h.1.1.1.1) (sE b _ _ _ C y h.1.1.1.2) (sE e _ _ _ C v h.1.1.2)
      · cases h
    | _ => exact absurd h Bool.false_ne_true
  | .seti2 a b a2 b2 e, X, c, W, C, st, h => by
    cases st with
    | Assign tgs v pos =>
      simp only [kS] at h
      split at h
      · rename_i x y p x2 y2 p2 kt pt
        simp only [Bool.and_eq_true] at h
        obtain ⟨⟨⟨⟨⟨⟨⟨⟨k1, k2⟩, k3⟩, k4⟩, k5⟩, k6⟩, k7⟩, k8⟩, k9⟩ := h
        exact t_seti2 C k6 k7 k8 k9 (sE a _ _ _ C x k1) (sE b _ _ _ C y k2) (sE a2 _ _ _ C x2 k3) (sE b2 _ _ _ C y2 k4) (sE e _ _ _ C v k5)
      · cases h
    | _ => exact absurd h Bool.false_ne_true
  | .augi o a b e, X, c, W, C, st, h => by
    cases st with
    | AugAssign t p v pos =>
      simp only [kS] at h
      split at h
      · rename_i x y q
        simp only [Bool.and_eq_true, decide_eq_true_eq] at h
        exact t_augi C h.1.2 h.2 (sE a _ _ _ C x h.1.1.1.1) (sE b _ _ _ C y h.1.1.1.2) (sE e _ _ _ C v h.1.1.2)
      · cases h
    | _ => exact absurd h Bool.false_ne_true
  | .app a e, X, c, W, C, st, h => by
    cases st with
    | Expr x pos =>
      simp only [kS] at h
      split at h
      · rename_i o name ap y cp
        simp only [Bool.and_eq_true, decide_eq_true_eq] at h
        obtain ⟨⟨⟨⟨⟨rfl, h1⟩, h2⟩, h3⟩, h4⟩, h5⟩ := h
        exact t_app h3 h4 h5 (sE a _ _ _ C o h1) (sE e _ _ _ C y h2)
      · cases h
    | _ => exact absurd h Bool.false_ne_true
  | .ite d a b, X, c, W, C, st, h => by
    cases st with
    | If t xs ys pos =>
      simp only [kS, Bool.and_eq_true] at h
      exact t_ite (sC d _ _ _ C t h.1.1).1 (sSs a C xs h.1.2) (sSs b C ys h.2)
    | _ => exact absurd h Bool.false_ne_true
  | .for_ t i b, X, c, W, C, st, h => by
    cases st with
    | For tg iter body els pos =>
      cases els with
      | nil =>
        simp only [kS, Bool.and_eq_true] at h
        exact t_for C h.1.1.1.1 h.1.1.2 (sI i _ _ _ C iter tg h.1.1.1.2 h.1.2) (sSs b C body h.2)
      | cons _ _ => exact absurd h Bool.false_ne_true
    | _ => exact absurd h Bool.false_ne_true
  | .whl d b, X, c, W, C, st, h => by
    cases st with
    | While t body els pos =>
      cases els with
      | nil =>
        simp only [kS, Bool.and_eq_true] at h
        exact t_whl C (sC d _ _ _ C t h.1).1 (sSs b C body h.2)
      | cons _ _ => exact absurd h Bool.false_ne_true
    | _ => exact absurd h Bool.false_ne_true
  | .ret e, X, c, W, C, st, h => by
    cases st with
    | Return v pos =>
      cases v with
      | none => exact absurd h Bool.false_ne_true
      | some x => exact t_ret (sE e _ _ _ C x (by simpa only [kS] using h))
    | _ => exact absurd h Bool.false_ne_true
  | .retn, X, c, W, C, st, h => by
    cases st with
    | Return v pos =>
      cases v with
      | none => exact t_retn
      | some x => exact absurd h Bool.false_ne_true
    | _ => exact absurd h Bool.false_ne_true
  | LS.pass, X, c, W, C, st, h => by
    cases st with
    | Pass pos => exact t_pass
    | _ => exact absurd h Bool.false_ne_true
  | .brk, X, c, W, C, st, h => by
    cases st with
    | Break pos => exact t_brk
    | _ => exact absurd h Bool.false_ne_true
  | .cnt, X, c, W, C, st, h => by
    cases st with
    | Continue pos => exact t_cnt
    | _ => exact absurd h Bool.false_ne_true
theorem sSs : ∀ (l : LSs) {X : Cx} {c : Ck} {W : WX} (C : Ctx X c T F W) (st : List Stmt), kSs c l st = true → PSs X st (lfS X T W (evSs F l))
  | .nil, X, c, W, C, st, h => by
    cases st with
    | nil => exact t_nil
    | cons _ _ => exact absurd h Bool.false_ne_true
  | .cons s r, X, c, W, C, st, h => by
    cases st with
    | nil => simp [kSs] at h
    | cons x xs =>
      simp only [kSs, Bool.and_eq_true] at h
      exact t_cons (sS s C x h.1) (sSs r C xs h.2)
end
end
end KN

namespace KN
open PySem PySem.Spec PyProof.Rows L2

/-- a def, with values for its last parameters or without -/
structure FunA (K : PySem.W.Frag) (x qual : Str) (st : Stmt) (f : Addr) (fd : FuncData) : Prop where
  ex : ∃ (oc : Value) (od : Option Addr) (dV kV doc pm : Value) (an : Option Addr) (cdv ct : Value) (osl : Array (Option Value)),
    fd = PySem.W.fnOf x qual (defArgs st) (defBody st) (defScope st) dV kV doc pm an cdv ct ∧ K.lookup f = some ⟨oc, od, .func fd, osl⟩ ∧ PySem.W.codeIn K cdv qual = true
  kp : PySem.W.keepIn K (.ref f) = true
/-! ### all defs of a text -/
structure DefI where
  st : Stmt
  N : List Str
  ps : List Str
/-- a text: its defs by numbers, its classes, its attributes' names -/
structure Txt where
  P : Nat → Option LF
  /-- the global name of a def -/
  dn : Nat → Option Str
  nm : Nat → Str
  ql : Nat → Str
  di : Nat → DefI
  lam : Nat → Bool
  dfl : Nat → List Int
  cn : Nat → Option Str
  con : Nat → D
  cls : Nat → Option LCl
  cln : Nat → Option Str
  kn : Nat → Option Str
  fuel : Nat
def Txt.ck (X : Txt) (f : Nat) : Ck := { N := (X.di f).N, sc := defScope (X.di f).st, fc := fun _ => true, fnm := X.dn, cnm := X.cn, clnm := X.cln, knm := X.kn, lam := X.lam f, dfl := X.dfl }
/-- what a kernel looks at, one def -/
def Txt.chk (X : Txt) (f : Nat) : Bool := match X.P f with
  | some F => decide (F.np = (X.di f).ps.length) && decide (F.n = (X.di f).N.length) && decide (F.np ≤ F.n) && kSs (X.ck f) F.body (defBody (X.di f).st)
  | none => false
/-- a class as the top has made it -/
structure ClT (X : Txt) (T : Tb) (K : PySem.W.Frag) (ci : Nat) (C : LCl) : Prop where
  cl : Cls K (T.cad ci)
  mkc : Mk K (T.cad ci) (T.fad C.ini)
  ini : (X.P C.ini).isSome
  ms : ∀ m f, lookN m C.ms = some f → Meth K (T.cad ci) (T.knm m) (T.fad f) ∧ (X.P f).isSome
  prs : ∀ m f, lookN m C.prs = some f → (∃ p, PropOf K (T.cad ci) (T.knm m) p (T.fad f)) ∧ (X.P f).isSome
  fl : ∀ k, C.fl.contains k = true → NoAttr K (T.cad ci) (T.knm k)
structure TxtOk (X : Txt) (T : Tb) (K : PySem.W.Frag) (mg : Str → Option Value) (base : Heap) : Prop where
  sc : ∀ f, (X.P f).isSome → FnScope (X.di f).N (X.di f).ps (defScope (X.di f).st)
  fn : ∀ f, (X.P f).isSome → ∃ fd, FunA K (X.nm f) (X.ql f) (X.di f).st (T.fad f) fd ∧ Binds K fd (X.di f).ps [] ∧ BindsD K fd (X.di f).ps (X.dfl f)
  gl : ∀ f x, X.dn f = some x → (X.P f).isSome ∧ mg x = some (.ref (T.fad f))
  hsP : ∀ f, T.has f = (X.P f).isSome
  ck : ∀ f, (X.P f).isSome → X.chk f = true
  bl : ∀ x ∈ bltNames, mg x = none
  con : ∀ i x, X.cn i = some x → ∃ (u : Value) (v : V), mg x = some u ∧ RelV v u ∧ ∀ M H, RD K T M H (X.con i) v
  kn : ∀ k x, X.kn k = some x → T.knm k = x
  inj : ∀ a b, T.knm a = T.knm b → a = b
  cln : ∀ ci x, X.cln ci = some x → mg x = some (.ref (T.cad ci)) ∧ PySem.W.keepIn K (.ref (T.cad ci)) = true
  cls : ∀ ci C, X.cls ci = some C → ClT X T K ci C
  lam : ∀ f, X.lam f = true → ∃ cc Pt, (∀ fd, FunA K (X.nm f) (X.ql f) (X.di f).st (T.fad f) fd → fd.code = .ref cc) ∧ LamX.TabB base mg cc Pt ∧ (Pt, X.ql f ++ ".<locals>." ++ "<lambda>") ∈ T.tabs ∧ ∀ p ∈ T.tabs, p.1 = Pt → p.2 = X.ql f ++ ".<locals>." ++ "<lambda>"
noncomputable abbrev Txt.call (X : Txt) (k : Nat) : Nat → List D → G → R D := callF X.P X.con X.cls X.fuel k
theorem callF_len {X : Txt} {k f : Nat} {ds : List D} {g : G} {F : LF} (hp : X.P f = some F) (h : X.call k f ds g ≠ .st) : ds.length = F.np := by
  cases k with
  | zero => exact absurd rfl h
  | succ k =>
    simp only [Txt.call, callF, hp] at h
    by_cases q : ds.length = F.np
    · exact q
    · rw [if_neg q] at h; exact absurd rfl h
theorem start_rs {K : PySem.W.Frag} {T : Tb} {M : Mp} {H : Hp} {g : G} {F : LF} {ds : List D} {vs : List V} {N : List Str} (hr : HR K T M H g) (rv : RDs K T M H ds vs) (hl : ds.length = F.np) (hn : F.n = N.length) : RS K T M H g (KN.start F ds) (L2.start N vs) := by
  have e := rv.length
  refine ⟨hr, ?_, fun i d q => ?_⟩
  · unfold KN.start L2.start
    simp [← e, hl, hn]
  · unfold KN.start at q
    by_cases hi : i < ds.length
    · rw [List.getElem?_append_left (by rw [List.length_map]; exact hi), List.getElem?_map] at q
      cases ed : ds[i]? with
      | none => rw [ed] at q; cases q
      | some d' =>
        rw [ed] at q
        cases q
        obtain ⟨v, h1, h2⟩ := rv.get ed
        refine ⟨v, ?_, h2⟩
        unfold L2.start
        rw [List.getElem?_append_left (by rw [List.length_map, ← e]; exact hi), List.getElem?_map, h1]
        rfl
    · rw [List.getElem?_append_right (by rw [List.length_map]; omega), List.getElem?_replicate] at q
      split at q <;> cases q
section
variable {P : Program} {w : World} {K : PySem.W.Frag} {mg : Str → Option Value} {base : Heap} {T : Tb} {X : Txt}
theorem fn_all (O : TxtOk X T K mg base) : ∀ (k f : Nat), (X.P f).isSome → ∀ fd, FunA K (X.nm f) (X.ql f) (X.di f).st (T.fad f) fd → FnOk P w K mg base (L2.CX P w) (2 * k) (T.fad f) fd (X.di f).ps (spF K T (X.call k f) (X.di f).ps.length)
  | 0, f, hx, fd, hf => by
    refine ⟨fun vs H Q E h => h.1, fun A outer s H args us vs Q E _ _ _ _ h => ?_⟩
    obtain ⟨_, M, g, ds, hr, rv, q⟩ := h
    exact q.elim
  | k + 1, f, hx, fd, hf => by
    have S := O.sc f hx
    have hc := O.ck f hx
    unfold Txt.chk at hc
    cases hp : X.P f with
    | none => rw [hp] at hc; cases hc
    | some F =>
      rw [hp] at hc
      simp only [Bool.and_eq_true, decide_eq_true_eq] at hc
      obtain ⟨⟨⟨hc1, hc2⟩, hc3⟩, hc4⟩ := hc
      obtain ⟨oc, od, dV, kV, doc, pm, an, cdv, ct, osl, rfl, lk, hcd⟩ := hf.ex
      refine fn_of (k := 2 * k + 1) lk hcd S (fun vs H Q E h => h.1) fun A outer s H vs Q E hr h => ?_
      obtain ⟨hvl, M, g, ds, hrr, rv, q⟩ := h
      have hlen : ∀ f', (X.P f').isSome → ∀ ds' g', X.call k f' ds' g' ≠ .st → ds'.length = (X.di f').ps.length := fun f' hx' ds' g' z => by
        have hc' := O.ck f' hx'
        unfold Txt.chk at hc'
        cases hp' : X.P f' with
        | none => rw [hp'] at hc'; cases hc'
        | some F' =>
          rw [hp'] at hc'
          simp only [Bool.and_eq_true, decide_eq_true_eq] at hc'
          rw [callF_len hp' z]
          exact hc'.1.1.1
      have fnx : ∀ f', (X.P f').isSome → FnX (cxOf (L2.CX P w) P w K mg base (X.di f).N (X.ql f) (defScope (X.di f).st) (T.fad f) cdv A outer s H E) T ⟨X.call k, X.con, X.fuel, X.cls⟩ f' := fun f' hx' => by
        obtain ⟨fd', hf', hb', _⟩ := O.fn f' hx'
        exact ⟨2 * k, fd', _, hb', hr, fn_all O k f' hx' fd' hf', hlen f' hx'⟩
      have C : Ctx (cxOf (L2.CX P w) P w K mg base (X.di f).N (X.ql f) (defScope (X.di f).st) (T.fad f) cdv A outer s H E) (X.ck f) T ⟨X.call k, X.con, X.fuel, X.cls⟩ (fun cls d _ H' => E cls d H') := by
        refine { hN := rfl, nd := S.nd, sc := rfl, kd := S.kind, fc := rfl, calm := rfl, hu := hr.units, dp := hr.depth, tk := takes_of rfl rfl rfl rfl, po := passes_of rfl, bl := O.bl, cal := fun f' x' hx' => ?_, con := fun i x' hx' => ⟨O.con i x' hx'⟩, kn := O.kn, inj := O.inj, cln := O.cln, cls := fun ci CC e => ?_, fns := fun f' e => ?_, hs := fun f' x' e => by rw [O.hsP]; exact (O.gl f' x' e).1, lam := fun e => ?_ }
        · obtain ⟨h1, h2⟩ := O.gl f' x' hx'
          obtain ⟨fd', hf', hb', hd'⟩ := O.fn f' h1
          exact ⟨2 * k, fd', _, h2, hf'.kp, hb', hr.mono (Nat.le_succ _), fn_all O k f' h1 fd' hf', hlen f' h1, hd'⟩
        · have Z := O.cls ci CC e
          exact ⟨Z.cl, Z.mkc, fnx _ Z.ini, fun m f' q => ⟨(Z.ms m f' q).1, fnx f' (Z.ms m f' q).2⟩, fun m f' q => ⟨(Z.prs m f' q).1, fnx f' (Z.prs m f' q).2⟩, Z.fl⟩
        · rw [O.hsP] at e
          obtain ⟨fd', hf', _, _⟩ := O.fn f' e
          exact ⟨fnx f' e, hf'.kp⟩
        · obtain ⟨cc, Pt, z1, z2, z3, z4⟩ := O.lam f e
          exact ⟨cc, Pt, z1 _ hf, z2, z3, z4⟩
      refine ⟨_, sSs F.body C _ hc4, M, KN.start F ds, g, start_rs hrr rv (by rw [hc1, ← hvl]; exact rv.length) hc2, ?_⟩
      have hl : ds.length = F.np := by rw [hc1, ← hvl]; exact rv.length
      have q' : wpR K T (fun c d _ H' => E c d H') [] M H (endF F.keep g (evSs ⟨X.call k, X.con, X.fuel, X.cls⟩ F.body (KN.start F ds) g)) fun d M' H' _ => ∀ v, RD K T M' H' d v → Q v H' := by
        have e : X.call (k + 1) f ds g = endF F.keep g (evSs ⟨X.call k, X.con, X.fuel, X.cls⟩ F.body (KN.start F ds) g) := by
          simp only [Txt.call, callF, hp, hl, if_true]
        rw [← e]
        exact q
      cases ev : evSs ⟨X.call k, X.con, X.fuel, X.cls⟩ F.body (KN.start F ds) g with
      | nx s1 g1 =>
        rw [ev] at q'
        exact fun M' H' σ' e rs' => exit_ok hrr e rs'.hr (d := .non) (v := .non) (by unfold RD; rfl) q'
      | rt d g1 =>
        rw [ev] at q'
        exact fun M' H' v e hr' rv' => exit_ok hrr e hr' rv' q'
      | bk s1 g1 => rw [ev] at q'; exact q'.elim
      | ct s1 g1 => rw [ev] at q'; exact q'.elim
      | ex y s1 g1 =>
        rw [ev] at q'
        exact fun M' H' σ' cls dd e rs' rx => exitX_ok (W := fun c d _ H' => E c d H') (σ := []) hrr e rs'.hr rx q'
      | st => rw [ev] at q'; exact q'.elim

/-- the law -/
def spLaw (K : PySem.W.Frag) (tabs : List (Addr × Str)) : Sp := fun vs H Q _ => ∃ (a : Addr) (ns : List Int), vs = [.ref a] ∧ (∀ p ∈ tabs, H p.1 = some (.tbl #[])) ∧ SqL K H a (ns.map V.int) ∧ ns.length ≤ 63 ∧ ∀ H', Q (.bl true) H'
theorem law_ok (O : TxtOk X T K mg base) {k f : Nat} (hx : (X.P f).isSome) {fd : FuncData} (hf : FunA K (X.nm f) (X.ql f) (X.di f).st (T.fad f) fd) (h1 : (X.di f).ps.length = 1)
    (h : ∀ ns : List Int, ns.length ≤ 63 → ∃ g, X.call k f [.scr ns] [] = .ok (.bl true) g) : FnOk P w K mg base (L2.CX P w) (2 * k) (T.fad f) fd (X.di f).ps (spLaw K T.tabs) := by
  refine (fn_all O k f hx fd hf).imp fun vs H Q E z => ?_
  obtain ⟨a, ns, rfl, ht, hs, hl, q⟩ := z
  obtain ⟨g, e⟩ := h ns hl
  refine ⟨by rw [h1]; rfl, ⟨[], []⟩, [], [.scr ns], ⟨rfl, List.nodup_nil, fun a o p z => by simp at z, fun p hp => (hp ⟨by simp, by simp⟩).elim, fun p hp => by simp at hp, fun p hp => LamX.TabS.nil (ht p hp)⟩, ⟨_, _, rfl, ⟨a, rfl, ?_⟩, rfl⟩, ?_⟩
  · rcases hs with hs | hs
    · exact .inl ⟨hs, by simp [Mp.out]⟩
    · exact .inr hs
  · rw [e]
    intro M' H' _ _ v rv
    have e2 : v = .bl true := by unfold RD at rv; exact rv
    subst e2
    exact q H'
end
end KN

namespace KN
open PySem PySem.Spec PyProof.Rows L2
/-! ### a text by a list of its defs -/
structure Df where
  num : Nat
  nm : Str
  ql : Str
  gl : Bool
  lam : Bool
  st : Stmt
  N : List Str
  ps : List Str
  F : LF
  dfl : List Int := []
  /-- has values for its last parameters that no call of ours leaves out -/
  hid : Bool := false
def findDf (f : Nat) : List Df → Option Df
  | [] => none
  | d :: r => if d.num = f then some d else findDf f r
theorem look_eq (L : List Df) : (fun f => (findDf f L).map (·.F)) = fun f => lookF f (L.map fun d => (d.num, d.F)) := by
  funext f
  induction L with
  | nil => rfl
  | cons d L ih =>
    simp only [findDf, lookF, List.map_cons]
    split
    · rfl
    · exact ih
def clsBody : Stmt → List Stmt
  | .ClassDef _ _ _ body _ _ _ _ _ _ _ => body
  | _ => []
def noDf : DefI := ⟨.Pass ⟨0, 0, 0, 0⟩, [], []⟩
/-- the names of attributes, all apart -/
def knOf (ns : List Str) (k : Nat) : Str := match ns[k]? with
  | some x => x
  | none => ⟨#[1114112 + k]⟩
def knOk (ns : List Str) : Bool := decide ns.Nodup && ns.all fun x => x.cps.all fun c => decide (c < 1114112)
theorem kn_inj {ns : List Str} (h : knOk ns = true) (a b : Nat) (e : knOf ns a = knOf ns b) : a = b := by
  unfold knOk at h
  simp only [Bool.and_eq_true, decide_eq_true_eq, List.all_eq_true] at h
  have far : ∀ (x : Str) (k : Nat), x ∈ ns → x ≠ ⟨#[1114112 + k]⟩ := fun x k hx z => by
    have := h.2 x hx
    rw [z] at this
    simp at this
    omega
  unfold knOf at e
  cases ea : ns[a]? with
  | none =>
    cases eb : ns[b]? with
    | none =>
      rw [ea, eb] at e
      simp at e
      omega
    | some y =>
      rw [ea, eb] at e
      exact absurd e.symm (far y a (List.mem_of_getElem? eb))
  | some x =>
    cases eb : ns[b]? with
    | none =>
      rw [ea, eb] at e
      exact absurd e (far x b (List.mem_of_getElem? ea))
    | some y =>
      rw [ea, eb] at e
      have e : x = y := e
      subst e
      obtain ⟨l1, e1⟩ := List.getElem?_eq_some_iff.mp ea
      obtain ⟨l2, e2⟩ := List.getElem?_eq_some_iff.mp eb
      exact (List.getElem_inj h.1).mp (e1.trans e2.symm)
def Txt.of (L : List Df) (ns : List Str) (cn : Nat → Option Str) (con : Nat → D) (cls : Nat → Option LCl) (cln : Nat → Option Str) (fuel : Nat) : Txt where
  P := fun f => (findDf f L).map (·.F)
  dn := fun f => (findDf f L).bind fun d => if d.gl = true then some d.nm else none
  nm := fun f => ((findDf f L).map (·.nm)).getD ("" : Str)
  ql := fun f => ((findDf f L).map (·.ql)).getD ("" : Str)
  di := fun f => match findDf f L with
    | some d => ⟨d.st, d.N, d.ps⟩
    | none => noDf
  lam := fun f => match findDf f L with
    | some d => d.lam
    | none => false
  dfl := fun f => match findDf f L with
    | some d => d.dfl
    | none => []
  cn := cn
  con := con
  cls := cls
  cln := cln
  kn := fun k => ns[k]?
  fuel := fuel
def scB (N ps : List Str) (sc : Scope) : Bool :=
  (match sc.kind with | .function => true | _ => false) && !sc.isCoroutine && !sc.isGenerator && decide N.Nodup && decide (N.take ps.length = ps) &&
  (ps.all fun x => match sc.names.lookup x with | some .local => true | some .cell => true | _ => false) && (sc.names.all fun y => match y.2 with | .free => false | _ => true)
theorem sc_of {N ps : List Str} {sc : Scope} (h : scB N ps sc = true) : FnScope N ps sc := by
  unfold scB at h
  simp only [Bool.and_eq_true, Bool.not_eq_true', decide_eq_true_eq, List.all_eq_true] at h
  obtain ⟨⟨⟨⟨⟨⟨h1, h2⟩, h3⟩, h4⟩, h5⟩, h6⟩, h7⟩ := h
  refine ⟨?_, h2, h3, h4, h5, fun x hx => ?_, fun y hy e => ?_⟩
  · split at h1
    · assumption
    · cases h1
  · have := h6 x hx
    split at this
    · exact .inl (by assumption)
    · exact .inr (by assumption)
    · cases this
  · have := h7 y hy
    rw [e] at this
    cases this
def Df.ok (X : Txt) (d : Df) : Bool := scB d.N d.ps (defScope d.st) && (decide (d.F.np = d.ps.length) && decide (d.F.n = d.N.length) && decide (d.F.np ≤ d.F.n) && kSs { N := d.N, sc := defScope d.st, fc := fun _ => true, fnm := X.dn, cnm := X.cn, clnm := X.cln, knm := X.kn, lam := d.lam, dfl := X.dfl } d.F.body (defBody d.st))
def DefAt (K : PySem.W.Frag) (d : Df) (a : Addr) : Prop := (d.gl = true → PySem.W.nsIn K mainGlobals d.nm = some (some (.ref a))) ∧ ∃ fd, FunA K d.nm d.ql d.st a fd ∧ Binds K fd d.ps [] ∧ BindsD K fd d.ps d.dfl ∧ (d.dfl = [] → d.hid = false → Fun K d.nm d.ql d.st a fd)
theorem _root_.L2.Fun.toA {K : PySem.W.Frag} {x ql : Str} {st : Stmt} {a : Addr} {fd : FuncData} (h : Fun K x ql st a fd) : FunA K x ql st a fd := by
  obtain ⟨⟨oc, od, kV, doc, pm, an, cdv, ct, osl, q⟩, k⟩ := h
  exact ⟨⟨oc, od, _, kV, doc, pm, an, cdv, ct, osl, q⟩, k⟩
theorem binds_none {K : PySem.W.Frag} {fd : FuncData} {ps : List Str} (h : Binds K fd ps []) : BindsD K fd ps [] := fun j => ⟨[], by rw [List.drop_nil]; exact .nil, h⟩
/-- values for the last parameters stand in a tuple -/
theorem DefAt.mkD {K : PySem.W.Frag} {d : Df} {a TA : Addr} {oc : Value} {od an : Option Addr} {osl : Array (Option Value)} {kV doc pm cdv ct : Value} {o : Obj} {its : List Value} {m : Nat} (n : PySem.W.nsIn K mainGlobals d.nm = some (some (.ref a)))
    (l : K.lookup a = some ⟨oc, od, .func (PySem.W.fnOf d.nm d.ql (defArgs d.st) (defBody d.st) (defScope d.st) (.ref TA) kV doc pm an cdv ct), osl⟩) (c : PySem.W.codeIn K cdv d.ql = true) (k : PySem.W.keepIn K (.ref a) = true)
    (lT : K.lookup TA = some o) (oT : o.data = .seq its.toArray m) (hv : Vals (d.dfl.map V.int) its) (hne : d.dfl ≠ [])
    (h : ∀ (TA : Addr) (kV doc pm : Value) (an : Option Addr) (cdv ct : Value) (us its : List Value) (j : Nat), us.length + (its.length - j) = d.ps.length → its.length = d.dfl.length →
      ∃ k, bindArgs (PySem.W.fnOf d.nm d.ql (defArgs d.st) (defBody d.st) (defScope d.st) (.ref TA) kV doc pm an cdv ct) ⟨us, []⟩ = seqItems? (.ref TA) >>= k ∧ k (some its.toArray) = pure (d.ps.zip (us ++ its.drop j))) : DefAt K d a := by
  have hl : its.length = d.dfl.length := by rw [← hv.length, List.length_map]
  have B : ∀ j, Binds K (PySem.W.fnOf d.nm d.ql (defArgs d.st) (defBody d.st) (defScope d.st) (.ref TA) kV doc pm an cdv ct) d.ps (its.drop j) := fun j => by
    intro s us X hlen
    obtain ⟨k, e1, e2⟩ := h TA kV doc pm an cdv ct us its j (by rw [List.length_append, List.length_drop] at hlen; exact hlen) hl
    refine BindsTo.of_looks fun M => ?_
    rw [e1]
    exact looks_items X lT oT (.of_pure e2)
  refine ⟨fun _ => n, _, ⟨⟨oc, od, _, kV, doc, pm, an, cdv, ct, osl, rfl, l, c⟩, k⟩, ?_, fun j => ⟨its.drop j, ?_, B j⟩, fun z _ => absurd z hne⟩
  · have := B its.length
    rwa [List.drop_length] at this
  · rw [List.map_drop]; exact hv.drop j
inductive DefsAt (K : PySem.W.Frag) : List Df → List Addr → Prop
  | nil : DefsAt K [] []
  | cons {d : Df} {a : Addr} {L : List Df} {A : List Addr} : DefAt K d a → DefsAt K L A → DefsAt K (d :: L) (a :: A)
theorem DefAt.mk {K : PySem.W.Frag} {d : Df} {a : Addr} {oc : Value} {od an : Option Addr} {osl : Array (Option Value)} {kV doc pm cdv ct : Value} (n : PySem.W.nsIn K mainGlobals d.nm = some (some (.ref a)))
    (l : K.lookup a = some ⟨oc, od, .func (PySem.W.fnOf d.nm d.ql (defArgs d.st) (defBody d.st) (defScope d.st) .none kV doc pm an cdv ct), osl⟩) (c : PySem.W.codeIn K cdv d.ql = true) (k : PySem.W.keepIn K (.ref a) = true)
    (h : ∀ (kV doc pm : Value) (an : Option Addr) (cdv ct : Value) (us : List Value), us.length = d.ps.length → bindArgs (PySem.W.fnOf d.nm d.ql (defArgs d.st) (defBody d.st) (defScope d.st) .none kV doc pm an cdv ct) ⟨us, []⟩ = pure (d.ps.zip us)) (hd : d.dfl = [] := by rfl) : DefAt K d a :=
  ⟨fun _ => n, _, (fun_mk l c k).toA, (fun_mk l c k).binds h, by rw [hd]; exact binds_none ((fun_mk l c k).binds h), fun _ _ => fun_mk l c k⟩
/-- a method -/
theorem DefAt.mkM {K : PySem.W.Frag} {d : Df} {a : Addr} {oc : Value} {od an : Option Addr} {osl : Array (Option Value)} {kV doc pm cdv ct : Value} (n : d.gl = false)
    (l : K.lookup a = some ⟨oc, od, .func (PySem.W.fnOf d.nm d.ql (defArgs d.st) (defBody d.st) (defScope d.st) .none kV doc pm an cdv ct), osl⟩) (c : PySem.W.codeIn K cdv d.ql = true) (k : PySem.W.keepIn K (.ref a) = true)
    (h : ∀ (kV doc pm : Value) (an : Option Addr) (cdv ct : Value) (us : List Value), us.length = d.ps.length → bindArgs (PySem.W.fnOf d.nm d.ql (defArgs d.st) (defBody d.st) (defScope d.st) .none kV doc pm an cdv ct) ⟨us, []⟩ = pure (d.ps.zip us)) (hd : d.dfl = [] := by rfl) : DefAt K d a :=
  ⟨fun z => absurd (n.symm.trans z) (by decide), _, (fun_mk l c k).toA, (fun_mk l c k).binds h, by rw [hd]; exact binds_none ((fun_mk l c k).binds h), fun _ _ => fun_mk l c k⟩
/-- values for the last parameters, all left aside -/
theorem DefAt.mkH {K : PySem.W.Frag} {d : Df} {a TA : Addr} {oc : Value} {od an : Option Addr} {osl : Array (Option Value)} {kV doc pm cdv ct : Value} {o : Obj} {its : List Value} {m : Nat} (n : d.gl = true → PySem.W.nsIn K mainGlobals d.nm = some (some (.ref a)))
    (l : K.lookup a = some ⟨oc, od, .func (PySem.W.fnOf d.nm d.ql (defArgs d.st) (defBody d.st) (defScope d.st) (.ref TA) kV doc pm an cdv ct), osl⟩) (c : PySem.W.codeIn K cdv d.ql = true) (k : PySem.W.keepIn K (.ref a) = true)
    (lT : K.lookup TA = some o) (oT : o.data = .seq its.toArray m) (hd : d.dfl = []) (hh : d.hid = true) {nh : Nat} (hnh : its.length = nh)
    (h : ∀ (TA : Addr) (kV doc pm : Value) (an : Option Addr) (cdv ct : Value) (us its : List Value), us.length = d.ps.length → its.length = nh →
      ∃ k, bindArgs (PySem.W.fnOf d.nm d.ql (defArgs d.st) (defBody d.st) (defScope d.st) (.ref TA) kV doc pm an cdv ct) ⟨us, []⟩ = seqItems? (.ref TA) >>= k ∧ k (some its.toArray) = pure (d.ps.zip us)) : DefAt K d a := by
  have B : Binds K (PySem.W.fnOf d.nm d.ql (defArgs d.st) (defBody d.st) (defScope d.st) (.ref TA) kV doc pm an cdv ct) d.ps [] := by
    intro s us X hlen
    rw [List.append_nil] at hlen ⊢
    obtain ⟨k, e1, e2⟩ := h TA kV doc pm an cdv ct us its hlen hnh
    refine BindsTo.of_looks fun M => ?_
    rw [e1]
    exact looks_items X lT oT (.of_pure e2)
  exact ⟨n, _, ⟨⟨oc, od, _, kV, doc, pm, an, cdv, ct, osl, rfl, l, c⟩, k⟩, B, by rw [hd]; exact binds_none B, fun _ z => absurd (hh.symm.trans z) (by decide)⟩
/-- the def at a makes lambdas: its code object, that one's table -/
structure LamAt (K : PySem.W.Frag) (a cc Pt : Addr) : Prop where
  fn : ∃ (o : Obj) (fd : FuncData), K.lookup a = some o ∧ o.data = .func fd ∧ fd.code = .ref cc
  cd : ∃ (dd : Option Addr) (vs : Array Value) (sl : Array (Option Value)) (file : Str) (tf : Tok) (flags : Int) (tg : Tok) (inF : Bool) (text : Int) (tt : Tok), K.lookup cc = some ⟨.type "code", dd, .fields vs, sl⟩ ∧ vs[11]? = some (.ref Pt) ∧ vs.getD 11 .none = .ref Pt ∧ vs.getD 18 .none = .str file tf ∧ vs.getD 7 .none = .int flags tg ∧ vs.getD 9 .none = .bool inF ∧ vs.getD 10 .none = .int text tt
  ne : cc ≠ Pt
  no : K.lookup Pt = none
theorem LamAt.mk' {K : PySem.W.Frag} {a cc Pt : Addr} {oc : Value} {od dd : Option Addr} {osl sl : Array (Option Value)} {fd : FuncData} {vs : Array Value} {file : Str} {tf tg tt : Tok} {flags text : Int} {inF : Bool}
    (l : K.lookup a = some ⟨oc, od, .func fd, osl⟩) (h1 : fd.code = .ref cc) (c : K.lookup cc = some ⟨.type "code", dd, .fields vs, sl⟩) (v11 : vs[11]? = some (.ref Pt)) (w11 : vs.getD 11 .none = .ref Pt) (v18 : vs.getD 18 .none = .str file tf) (v7 : vs.getD 7 .none = .int flags tg) (v9 : vs.getD 9 .none = .bool inF) (v10 : vs.getD 10 .none = .int text tt)
    (ne : cc ≠ Pt) (no : K.lookup Pt = none) : LamAt K a cc Pt := ⟨⟨_, _, l, rfl, h1⟩, ⟨dd, vs, sl, file, tf, flags, tg, inF, text, tt, c, v11, w11, v18, v7, v9, v10⟩, ne, no⟩
theorem LamAt.head {K : PySem.W.Frag} {a cc Pt : Addr} {h : Heap} (L : LamAt K a cc Pt) (X : K.In h) : PySem.W.CodeHd h cc Pt := by
  obtain ⟨dd, vs, sl, file, tf, flags, tg, inF, text, tt, c, v11, w11, v18, v7, v9, v10⟩ := L.cd
  exact ⟨_, vs, file, tf, flags, tg, inF, text, tt, X _ _ c, rfl, rfl, v11, w11, v18, v7, v9, v10, L.ne⟩
/-- the defs with lambdas: number, code object, table -/
inductive LamsAt (K : PySem.W.Frag) (ad : Nat → Addr) : List Nat → List (Addr × Addr) → Prop
  | nil : LamsAt K ad [] []
  | cons {f : Nat} {p : Addr × Addr} {a : Addr} {fs : List Nat} {ps : List (Addr × Addr)} : LamAt K a p.1 p.2 → ad f = a → LamsAt K ad fs ps → LamsAt K ad (f :: fs) (p :: ps)
def adOf : List Df → List Addr → Nat → Addr
  | d :: L, a :: A, f => if d.num = f then a else adOf L A f
  | _, _, _ => 0
theorem DefsAt.get {K : PySem.W.Frag} {L : List Df} {A : List Addr} (h : DefsAt K L A) {f : Nat} {d : Df} (e : findDf f L = some d) : DefAt K d (adOf L A f) := by
  induction h with
  | nil => cases e
  | cons h1 _ ih =>
    unfold findDf at e
    unfold adOf
    split at e
    · cases e
      rename_i q
      rw [if_pos q]
      exact h1
    · rename_i q
      rw [if_neg q]
      exact ih e
theorem findDf_mem {f : Nat} {d : Df} : ∀ {L : List Df}, findDf f L = some d → d ∈ L ∧ d.num = f
  | [], e => nomatch e
  | x :: L, e => by
    unfold findDf at e
    split at e
    · cases e
      exact ⟨List.mem_cons_self, by assumption⟩
    · obtain ⟨a, b⟩ := findDf_mem e
      exact ⟨List.mem_cons_of_mem _ a, b⟩
def qlOf (L : List Df) (f : Nat) : Str := ((findDf f L).map (·.ql)).getD ("" : Str)
/-- the lambdas' tables -/
def tabsOf (L : List Df) (fs : List Nat) (ps : List (Addr × Addr)) : List (Addr × Str) := (fs.zip ps).map fun q => (q.2.2, qlOf L q.1 ++ ".<locals>." ++ "<lambda>")
def cadOf (B : List (Nat × Addr)) (c : Nat) : Addr := (B.lookup c).getD 0
def tbOf (L : List Df) (A : List Addr) (B : List (Nat × Addr)) (ns : List Str) (fs : List Nat) (ps : List (Addr × Addr)) : Tb := ⟨adOf L A, cadOf B, knOf ns, tabsOf L fs ps, fun f => (findDf f L).isSome⟩
/-- each def with a lambda is told, once; their tables stand apart -/
def lamsOk (L : List Df) (fs : List Nat) : Bool := (L.all fun d => !d.lam || fs.contains d.num) && decide fs.Nodup
theorem LamsAt.get {K : PySem.W.Frag} {ad : Nat → Addr} {fs : List Nat} {ps : List (Addr × Addr)} (h : LamsAt K ad fs ps) {f : Nat} (hf : f ∈ fs) : ∃ p, (f, p) ∈ fs.zip ps ∧ LamAt K (ad f) p.1 p.2 := by
  induction h with
  | nil => cases hf
  | cons h1 h2 h3 ih =>
    rcases List.mem_cons.mp hf with rfl | hf
    · exact ⟨_, List.mem_cons_self, by rw [h2]; exact h1⟩
    · obtain ⟨p, q1, q2⟩ := ih hf
      exact ⟨p, List.mem_cons_of_mem _ q1, q2⟩
theorem LamsAt.all {K : PySem.W.Frag} {ad : Nat → Addr} {fs : List Nat} {ps : List (Addr × Addr)} (h : LamsAt K ad fs ps) : ∀ p ∈ ps, ∃ f ∈ fs, LamAt K (ad f) p.1 p.2 := by
  induction h with
  | nil => intro p hp; cases hp
  | cons h1 h2 h3 ih =>
    intro p hp
    rcases List.mem_cons.mp hp with rfl | hp
    · exact ⟨_, List.mem_cons_self, by rw [h2]; exact h1⟩
    · obtain ⟨f, q1, q2⟩ := ih p hp
      exact ⟨f, List.mem_cons_of_mem _ q1, q2⟩
theorem zip_fun {A B : Type} : ∀ {fs : List A} {ps : List B}, (ps.map fun x => x).Nodup → ∀ {f g : A} {p : B}, (f, p) ∈ fs.zip ps → (g, p) ∈ fs.zip ps → f = g
  | [], _, _, _, _, _, h, _ => by simp at h
  | _ :: _, [], _, _, _, _, h, _ => by simp at h
  | a :: fs, b :: ps, nd, f, g, p, h1, h2 => by
    simp only [List.map_cons, List.nodup_cons, List.map_id'] at nd
    simp only [List.zip_cons_cons, List.mem_cons] at h1 h2
    rcases h1 with h1 | h1 <;> rcases h2 with h2 | h2
    · cases h1; cases h2; rfl
    · cases h1; exact absurd (List.of_mem_zip h2).2 nd.1
    · cases h2; exact absurd (List.of_mem_zip h1).2 nd.1
    · exact zip_fun (by simpa using nd.2) h1 h2
theorem zip_fun2 {A : Type} : ∀ {fs : List A} {ps : List (Addr × Addr)}, (ps.map (·.2)).Nodup → ∀ {f g : A} {p q : Addr × Addr}, (f, p) ∈ fs.zip ps → (g, q) ∈ fs.zip ps → p.2 = q.2 → f = g
  | [], _, _, _, _, _, _, h, _, _ => by simp at h
  | _ :: _, [], _, _, _, _, _, h, _, _ => by simp at h
  | a :: fs, b :: ps, nd, f, g, p, q, h1, h2, e => by
    simp only [List.map_cons, List.nodup_cons] at nd
    simp only [List.zip_cons_cons, List.mem_cons] at h1 h2
    rcases h1 with h1 | h1 <;> rcases h2 with h2 | h2
    · cases h1; cases h2; rfl
    · cases h1; exact absurd (List.mem_map.mpr ⟨q, (List.of_mem_zip h2).2, e.symm⟩) nd.1
    · cases h2; exact absurd (List.mem_map.mpr ⟨p, (List.of_mem_zip h1).2, e⟩) nd.1
    · exact zip_fun2 nd.2 h1 h2 e
theorem txt_ok {L : List Df} {A : List Addr} {B : List (Nat × Addr)} {ns : List Str} {fs : List Nat} {ps : List (Addr × Addr)} {cn : Nat → Option Str} {con : Nat → D} {cls : Nat → Option LCl} {cln : Nat → Option Str} {fuel : Nat} {K : PySem.W.Frag} {h base : Heap} {mg : Str → Option Value} (X : K.In h) (G : h.Ns mainGlobals mg) (hL : DefsAt K L A)
    (hk : (L.all fun d => d.ok (Txt.of L ns cn con cls cln fuel)) = true) (hz : ∀ x ∈ bltNames, PySem.W.nsIn K mainGlobals x = some none)
    (hc : ∀ i x, cn i = some x → ∃ (u : Value) (v : V), mg x = some u ∧ RelV v u ∧ ∀ M H, RD K (tbOf L A B ns fs ps) M H (con i) v)
    (hn : knOk ns = true) (hl : lamsOk L fs = true) (hm : LamsAt K (adOf L A) fs ps) (hnd : (ps.map (·.2)).Nodup) (hTB : ∀ p ∈ ps, LamX.TabB base mg p.1 p.2)
    (hcn : ∀ ci x, cln ci = some x → mg x = some (.ref (cadOf B ci)) ∧ PySem.W.keepIn K (.ref (cadOf B ci)) = true)
    (hcl : ∀ ci C, cls ci = some C → ClT (Txt.of L ns cn con cls cln fuel) (tbOf L A B ns fs ps) K ci C) : TxtOk (Txt.of L ns cn con cls cln fuel) (tbOf L A B ns fs ps) K mg base := by
  have get : ∀ {f}, ((Txt.of L ns cn con cls cln fuel).P f).isSome → ∃ d, findDf f L = some d ∧ d.ok (Txt.of L ns cn con cls cln fuel) = true := fun {f} e => by
    have e' : ((findDf f L).map (·.F)).isSome := e
    cases ed : findDf f L with
    | none => rw [ed] at e'; cases e'
    | some d => exact ⟨d, rfl, List.all_eq_true.mp hk d (findDf_mem ed).1⟩
  have di : ∀ {f d}, findDf f L = some d → (Txt.of L ns cn con cls cln fuel).di f = ⟨d.st, d.N, d.ps⟩ := fun {f d} e => by
    show (match findDf f L with | some d => (⟨d.st, d.N, d.ps⟩ : DefI) | none => noDf) = _
    rw [e]
  have nm : ∀ {f d}, findDf f L = some d → (Txt.of L ns cn con cls cln fuel).nm f = d.nm ∧ (Txt.of L ns cn con cls cln fuel).ql f = d.ql ∧ (Txt.of L ns cn con cls cln fuel).lam f = d.lam := fun {f d} e => by
    refine ⟨?_, ?_, ?_⟩
    · show ((findDf f L).map (·.nm)).getD ("" : Str) = _
      rw [e]; rfl
    · show ((findDf f L).map (·.ql)).getD ("" : Str) = _
      rw [e]; rfl
    · show (match findDf f L with | some d => d.lam | none => false) = _
      rw [e]
  refine { sc := fun f e => ?_, fn := fun f e => ?_, gl := fun f x e => ?_, hsP := fun f => ?_, ck := fun f e => ?_, bl := fun x hx => PySem.W.mg_none_of X G (hz x hx), con := fun i x e => hc i x e, kn := fun k x e => ?_, inj := kn_inj hn, cln := hcn, cls := hcl, lam := fun f e => ?_ }
  · obtain ⟨d, e1, e3⟩ := get e
    rw [di e1]
    simp only [Df.ok, Bool.and_eq_true] at e3
    exact sc_of e3.1
  · obtain ⟨d, e1, e3⟩ := get e
    obtain ⟨h1, fd, h2, h3, h4, _⟩ := hL.get e1
    rw [di e1, (nm e1).1, (nm e1).2.1]
    refine ⟨fd, h2, h3, ?_⟩
    show BindsD K fd d.ps (match findDf f L with | some d => d.dfl | none => [])
    rw [e1]; exact h4
  · have e' : ((findDf f L).bind fun d => if d.gl = true then some d.nm else none) = some x := e
    cases ed : findDf f L with
    | none => rw [ed] at e'; cases e'
    | some d =>
      rw [ed] at e'
      simp only [Option.bind_some] at e'
      split at e'
      · rename_i hg
        cases e'
        obtain ⟨h1, fd, h2, h3⟩ := hL.get ed
        refine ⟨?_, PySem.W.mg_of X G (h1 hg)⟩
        show ((findDf f L).map (·.F)).isSome
        rw [ed]; rfl
      · cases e'
  · show (findDf f L).isSome = ((findDf f L).map (·.F)).isSome
    cases findDf f L <;> rfl
  · obtain ⟨d, e1, e3⟩ := get e
    unfold Txt.chk
    have e4 : (Txt.of L ns cn con cls cln fuel).P f = some d.F := by
      show (findDf f L).map (·.F) = _
      rw [e1]; rfl
    rw [e4]
    simp only [Df.ok, Bool.and_eq_true] at e3
    simp only [Txt.ck, di e1, (nm e1).2.2, Bool.and_eq_true]
    simpa only [Bool.and_eq_true] using e3.2
  · have e' : ns[k]? = some x := e
    show knOf ns k = x
    unfold knOf
    rw [e']
  · have e' : (match findDf f L with | some d => d.lam | none => false) = true := e
    cases ed : findDf f L with
    | none => rw [ed] at e'; cases e'
    | some d =>
      rw [ed] at e'
      have e' : d.lam = true := e'
      obtain ⟨hd1, hd2⟩ := findDf_mem ed
      simp only [lamsOk, Bool.and_eq_true, List.all_eq_true] at hl
      have hfs : f ∈ fs := by
        have := hl.1 d hd1
        rw [e', hd2] at this
        simpa using this
      obtain ⟨p, q1, q2⟩ := hm.get hfs
      have ql : (Txt.of L ns cn con cls cln fuel).ql f = qlOf L f := rfl
      refine ⟨p.1, p.2, fun fd F => ?_, hTB p (List.of_mem_zip q1).2, ?_, ?_⟩
      · obtain ⟨oc, od, dV, kV, doc, pm, an, cdv, ct, osl, rfl, lk, hcd⟩ := F.ex
        obtain ⟨o, fd2, k1, k2, k3⟩ := q2.fn
        have lk : K.lookup (adOf L A f) = _ := lk
        rw [k1] at lk
        cases lk
        cases k2
        exact k3
      · rw [ql]
        exact List.mem_map.mpr ⟨_, q1, rfl⟩
      · intro q hq e
        rw [ql]
        obtain ⟨⟨g, r⟩, r1, rfl⟩ := List.mem_map.mp hq
        have : g = f := zip_fun2 hnd r1 q1 e
        rw [this]
/-! ### constants of the modules -/
def cnOf (C : List (Str × Int)) (i : Nat) : Option Str := (C[i]?).map (·.1)
inductive ConsAt (K : PySem.W.Frag) : List (Str × Int) → Prop
  | nil : ConsAt K []
  | cons {x : Str} {i : Int} {t : Tok} {r : List (Str × Int)} : PySem.W.nsIn K mainGlobals x = some (some (.int i t)) → ConsAt K r → ConsAt K ((x, i) :: r)
theorem ConsAt.get {K : PySem.W.Frag} {C : List (Str × Int)} (h : ConsAt K C) : ∀ {i : Nat} {x : Str} {v : Int}, C[i]? = some (x, v) → ∃ t, PySem.W.nsIn K mainGlobals x = some (some (.int v t)) := by
  induction h with
  | nil => intro i x v e; simp at e
  | cons h1 _ ih =>
    intro i x v e
    cases i with
    | zero => cases e; exact ⟨_, h1⟩
    | succ i => exact ih (by simpa using e)
theorem ConsAt.ok {K : PySem.W.Frag} {T : Tb} {C : List (Str × Int)} {h : Heap} {mg : Str → Option Value} (X : K.In h) (G : h.Ns mainGlobals mg) (hC : ConsAt K C) : ∀ i x, cnOf C i = some x → ∃ (u : Value) (v : V), mg x = some u ∧ RelV v u ∧ ∀ M H, RD K T M H (conOf C i) v := by
  intro i x e
  unfold cnOf at e
  cases ec : C[i]? with
  | none => rw [ec] at e; cases e
  | some p =>
    obtain ⟨y, v⟩ := p
    rw [ec] at e
    cases e
    obtain ⟨t, q⟩ := hC.get ec
    refine ⟨_, .int v, PySem.W.mg_of X G q, ⟨t, rfl⟩, fun M H => ?_⟩
    unfold conOf
    rw [ec]
    unfold RD
    rfl
/-- what walk_tab asks -/
theorem end_ok {L : List Df} {A : List Addr} {B : List (Nat × Addr)} {ns : List Str} {fs : List Nat} {ps : List (Addr × Addr)} {C : List (Str × Int)} {cls : Nat → Option LCl} {cln : Nat → Option Str} {fuel : Nat} {K : PySem.W.Frag} {h : Heap} {mg : Str → Option Value} {l : PySem.W.OpenLaw} {w : World} {fa : Addr} {f k : Nat} {d : Df} {x : Str}
    (X : K.In h) (G : h.Ns mainGlobals mg) (hfa : mg d.nm = some (.ref fa)) (hL : DefsAt K L A)
    (hk : (L.all fun d => d.ok (Txt.of L ns (cnOf C) (conOf C) cls cln fuel)) = true) (hz : ∀ x ∈ bltNames, PySem.W.nsIn K mainGlobals x = some none)
    (hC : ConsAt K C)
    (hn : knOk ns = true) (hl : lamsOk L fs = true) (hm : LamsAt K (adOf L A) fs ps) (hnd : (ps.map (·.2)).Nodup) (hE : ∀ p ∈ ps, h.get? p.2 = some { cls := .none, data := .fields #[] })
    (hcn : ∀ ci x, cln ci = some x → mg x = some (.ref (cadOf B ci)) ∧ PySem.W.keepIn K (.ref (cadOf B ci)) = true)
    (hcl : ∀ ci CC, cls ci = some CC → ClT (Txt.of L ns (cnOf C) (conOf C) cls cln fuel) (tbOf L A B ns fs ps) K ci CC)
    (hf : findDf f L = some d) (hg : d.gl = true) (h1 : d.ps = [x]) (hb : ∀ (kV doc pm : Value) (an : Option Addr) (cdv ct : Value) (v : Value), bindArgs (PySem.W.fnOf d.nm d.ql (defArgs d.st) (defBody d.st) (defScope d.st) .none kV doc pm an cdv ct) ⟨[v], []⟩ = pure (d.ps.zip [v]))
    (hlaw : ∀ ns : List Int, ns.length ≤ 63 → ∃ g, callF (fun f => (findDf f L).map (·.F)) (conOf C) cls fuel k f [.scr ns] [] = .ok (.bl true) g) (hd0 : d.dfl = [] := by rfl) (hh0 : d.hid = false := by rfl) :
    LamX.LawAtS l w K (L2.CX l.prog w) (2 * k) 63 x mg fa h := by
  have hc := hC.ok (T := tbOf L A B ns fs ps) X G
  obtain ⟨q1, fd, q2, q3, _, q4⟩ := hL.get hf
  have e := hfa.symm.trans (PySem.W.mg_of X G (q1 hg))
  cases e
  refine ⟨fd, ps, spLaw K (tabsOf L fs ps), fun p hp => ?_, fun p hp => ?_, fun p hp => ?_, fun s v => ?_, fun H a ns hln _ hT hS => ⟨a, ns, rfl, fun p hp => ?_, hS, hln, fun _ => rfl⟩, fun base hKb hGb hTB => ?_⟩
  · exact hE p hp
  · obtain ⟨g, r1, r2⟩ := hm.all p hp
    exact r2.no
  · obtain ⟨g, r1, r2⟩ := hm.all p hp
    exact r2.head X
  · have hb' : ∀ (kV doc pm : Value) (an : Option Addr) (cdv ct : Value) (v : Value), bindArgs (PySem.W.fnOf d.nm d.ql (defArgs d.st) (defBody d.st) (defScope d.st) .none kV doc pm an cdv ct) ⟨[v], []⟩ = pure [(x, v)] := fun a b c d e f g => by rw [hb, h1]; rfl
    obtain ⟨oc, od, kV, doc, pm, an, cdv, ct, osl, rfl, lk, hcd⟩ := (q4 hd0 hh0).ex
    exact .of_eq (hb' kV doc pm an cdv ct v)
  · obtain ⟨⟨g, r⟩, r1, rfl⟩ := List.mem_map.mp hp
    exact hT r (List.of_mem_zip r1).2
  · have O := txt_ok (base := base) (B := B) (fs := fs) X G hL hk hz hc hn hl hm hnd hTB hcn hcl
    have hP : ((Txt.of L ns (cnOf C) (conOf C) cls cln fuel).P f).isSome := by
      show ((findDf f L).map (·.F)).isSome
      rw [hf]; rfl
    have hdi : (Txt.of L ns (cnOf C) (conOf C) cls cln fuel).di f = ⟨d.st, d.N, d.ps⟩ := by
      show (match findDf f L with | some d => (⟨d.st, d.N, d.ps⟩ : DefI) | none => noDf) = _
      rw [hf]
    have hnm : (Txt.of L ns (cnOf C) (conOf C) cls cln fuel).nm f = d.nm := by
      show ((findDf f L).map (·.nm)).getD ("" : Str) = _
      rw [hf]; rfl
    have hql : (Txt.of L ns (cnOf C) (conOf C) cls cln fuel).ql f = d.ql := by
      show ((findDf f L).map (·.ql)).getD ("" : Str) = _
      rw [hf]; rfl
    have F' : FunA K ((Txt.of L ns (cnOf C) (conOf C) cls cln fuel).nm f) ((Txt.of L ns (cnOf C) (conOf C) cls cln fuel).ql f) ((Txt.of L ns (cnOf C) (conOf C) cls cln fuel).di f).st ((tbOf L A B ns fs ps).fad f) fd := by rw [hdi, hnm, hql]; exact q2
    have r := law_ok (P := l.prog) (w := w) (base := base) (k := k) O hP F' (by rw [hdi]; show d.ps.length = 1; rw [h1]; rfl) hlaw
    rw [hdi] at r
    rw [← h1]
    exact r
/-! ### classes -/
inductive MsAt (K : PySem.W.Frag) (ad : Nat → Addr) (kn : Nat → Str) (C : Addr) : List (Nat × Nat) → Prop
  | nil : MsAt K ad kn C []
  | cons {m f : Nat} {x : Str} {a : Addr} {r : List (Nat × Nat)} : PySem.W.findIn K (.ref C) x = some (some (.ref a)) → PySem.W.isFn K (.ref a) = true → PySem.W.keepIn K (.ref a) = true → kn m = x → ad f = a → MsAt K ad kn C r → MsAt K ad kn C ((m, f) :: r)
inductive PrsAt (K : PySem.W.Frag) (ad : Nat → Addr) (kn : Nat → Str) (C : Addr) : List (Nat × Nat) → Prop
  | nil : PrsAt K ad kn C []
  | cons {m f : Nat} {x : Str} {p a : Addr} {rest : List Value} {r : List (Nat × Nat)} : PySem.W.findIn K (.ref C) x = some (some (.ref p)) → PySem.W.specialIn K (.ref p) "__get__" = some (some (.builtin "property.__get__")) → PySem.W.takesIn K (.ref p) = some true → PySem.W.recIn K p "property" = some (.ref a :: rest) → kn m = x → ad f = a → PrsAt K ad kn C r → PrsAt K ad kn C ((m, f) :: r)
inductive FlAt (K : PySem.W.Frag) (kn : Nat → Str) (C : Addr) : List Nat → Prop
  | nil : FlAt K kn C []
  | cons {k : Nat} {x : Str} {r : List Nat} : PySem.W.findIn K (.ref C) x = some none → kn k = x → FlAt K kn C r → FlAt K kn C (k :: r)
theorem MsAt.get {K : PySem.W.Frag} {ad : Nat → Addr} {kn : Nat → Str} {C : Addr} {l : List (Nat × Nat)} (h : MsAt K ad kn C l) : ∀ {m f : Nat}, lookN m l = some f → Meth K C (kn m) (ad f) := by
  induction h with
  | nil => intro m f e; cases e
  | cons h1 h2 h3 e1 e2 _ ih =>
    intro m f e
    unfold lookN at e
    split at e
    · rename_i q
      cases e
      have q : _ = m := q
      subst q
      exact ⟨by rw [e1, e2]; exact h1, by rw [e2]; exact h2, by rw [e2]; exact h3⟩
    · exact ih e
theorem PrsAt.get {K : PySem.W.Frag} {ad : Nat → Addr} {kn : Nat → Str} {C : Addr} {l : List (Nat × Nat)} (h : PrsAt K ad kn C l) : ∀ {m f : Nat}, lookN m l = some f → ∃ p, PropOf K C (kn m) p (ad f) := by
  induction h with
  | nil => intro m f e; cases e
  | cons h1 h2 h3 h4 e1 e2 _ ih =>
    intro m f e
    unfold lookN at e
    split at e
    · rename_i q
      cases e
      have q : _ = m := q
      subst q
      exact ⟨_, by rw [e1]; exact h1, h2, h3, _, by rw [e2]; exact h4⟩
    · exact ih e
theorem FlAt.get {K : PySem.W.Frag} {kn : Nat → Str} {C : Addr} {l : List Nat} (h : FlAt K kn C l) : ∀ {k : Nat}, l.contains k = true → NoAttr K C (kn k) := by
  induction h with
  | nil => intro k e; cases e
  | cons h1 e1 _ ih =>
    intro k e
    rw [List.contains_cons] at e
    simp only [Bool.or_eq_true, beq_iff_eq] at e
    rcases e with rfl | e
    · show PySem.W.findIn K _ _ = _
      rw [e1]; exact h1
    · exact ih e
structure ClAt (K : PySem.W.Frag) (ad : Nat → Addr) (kn : Nat → Str) (c : LCl) (x : Str) (C : Addr) : Prop where
  n : PySem.W.nsIn K mainGlobals x = some (some (.ref C))
  kp : PySem.W.keepIn K (.ref C) = true
  cl : Cls K C
  mkc : ∃ a, ad c.ini = a ∧ Mk K C a
  ms : MsAt K ad kn C c.ms
  prs : PrsAt K ad kn C c.prs
  fl : FlAt K kn C c.fl
theorem ClAt.mk' {K : PySem.W.Frag} {ad : Nat → Addr} {kn : Nat → Str} {c : LCl} {x : Str} {C a : Addr} (n : PySem.W.nsIn K mainGlobals x = some (some (.ref C))) (kp : PySem.W.keepIn K (.ref C) = true)
    (pg : PySem.W.plainGet K C Str.empty = true) (hd : PySem.W.hasDictIn K C = true) (po : PySem.W.plainOver K C = true) (sa : PySem.W.findIn K (.ref C) "__setattr__" = some (some (.builtin "object.__setattr__")))
    (mk : PySem.W.makesIn K C = true) (i1 : PySem.W.findIn K (.ref C) "__init__" = some (some (.ref a))) (i2 : PySem.W.isFn K (.ref a) = true) (e : ad c.ini = a)
    (ms : MsAt K ad kn C c.ms) (prs : PrsAt K ad kn C c.prs) (fl : FlAt K kn C c.fl) : ClAt K ad kn c x C := ⟨n, kp, ⟨pg, hd, po, sa⟩, ⟨a, e, mk, i1, i2, kp⟩, ms, prs, fl⟩
inductive ClsAt (K : PySem.W.Frag) (ad : Nat → Addr) (kn : Nat → Str) (cad : Nat → Addr) : Nat → List LCl → List Str → Prop
  | nil {i : Nat} : ClsAt K ad kn cad i [] []
  | cons {i : Nat} {C : Addr} {c : LCl} {x : Str} {L : List LCl} {xs : List Str} : ClAt K ad kn c x C → cad i = C → ClsAt K ad kn cad (i + 1) L xs → ClsAt K ad kn cad i (c :: L) (x :: xs)
theorem ClsAt.get1 {K : PySem.W.Frag} {ad : Nat → Addr} {kn : Nat → Str} {cad : Nat → Addr} {i : Nat} {L : List LCl} {xs : List Str} (h : ClsAt K ad kn cad i L xs) : ∀ {j : Nat} {x : Str}, xs[j]? = some x → PySem.W.nsIn K mainGlobals x = some (some (.ref (cad (i + j)))) ∧ PySem.W.keepIn K (.ref (cad (i + j))) = true := by
  induction h with
  | nil => intro j x e; simp at e
  | cons h1 e1 _ ih =>
    intro j x e
    cases j with
    | zero =>
      cases e
      rw [Nat.add_zero, e1]
      exact ⟨h1.n, h1.kp⟩
    | succ j =>
      have := ih (by simpa using e)
      rwa [Nat.add_right_comm] at this
theorem ClsAt.get2 {K : PySem.W.Frag} {ad : Nat → Addr} {kn : Nat → Str} {cad : Nat → Addr} {i : Nat} {L : List LCl} {xs : List Str} (h : ClsAt K ad kn cad i L xs) : ∀ {j : Nat} {c : LCl}, L[j]? = some c → ∃ x, ClAt K ad kn c x (cad (i + j)) := by
  induction h with
  | nil => intro j c e; simp at e
  | cons h1 e1 _ ih =>
    intro j c e
    cases j with
    | zero =>
      cases e
      rw [Nat.add_zero, e1]
      exact ⟨_, h1⟩
    | succ j =>
      have := ih (by simpa using e)
      rwa [Nat.add_right_comm] at this
/-- the defs of the classes are told -/
def clsOkB (L : List Df) (cs : List LCl) : Bool := cs.all fun c => (findDf c.ini L).isSome && c.ms.all (fun p => (findDf p.2 L).isSome) && c.prs.all (fun p => (findDf p.2 L).isSome)
theorem look_mem {m f : Nat} : ∀ {l : List (Nat × Nat)}, lookN m l = some f → (m, f) ∈ l
  | [], e => nomatch e
  | p :: r, e => by
    unfold lookN at e
    split at e
    · rename_i q
      cases e
      rw [← q]
      exact List.mem_cons_self
    · exact List.mem_cons_of_mem _ (look_mem e)
theorem cl_ok {L : List Df} {A : List Addr} {B : List (Nat × Addr)} {ns : List Str} {fs : List Nat} {ps : List (Addr × Addr)} {cn : Nat → Option Str} {con : Nat → D} {cs : List LCl} {xs : List Str} {fuel : Nat} {K : PySem.W.Frag} {h : Heap} {mg : Str → Option Value} (X : K.In h) (G : h.Ns mainGlobals mg)
    (hc : ClsAt K (adOf L A) (knOf ns) (cadOf B) 0 cs xs) (hk : clsOkB L cs = true) :
    (∀ ci x, xs[ci]? = some x → mg x = some (.ref (cadOf B ci)) ∧ PySem.W.keepIn K (.ref (cadOf B ci)) = true) ∧
    (∀ ci CC, cs[ci]? = some CC → ClT (Txt.of L ns cn con (fun i => cs[i]?) (fun i => xs[i]?) fuel) (tbOf L A B ns fs ps) K ci CC) := by
  have P : ∀ f, (findDf f L).isSome → ((Txt.of L ns cn con (fun i => cs[i]?) (fun i => xs[i]?) fuel).P f).isSome := fun f e => by
    show ((findDf f L).map (·.F)).isSome
    rw [Option.isSome_map]; exact e
  refine ⟨fun ci x e => ?_, fun ci CC e => ?_⟩
  · have := hc.get1 e
    rw [Nat.zero_add] at this
    exact ⟨PySem.W.mg_of X G this.1, this.2⟩
  · obtain ⟨x, z⟩ := hc.get2 e
    rw [Nat.zero_add] at z
    have q := List.all_eq_true.mp hk CC (List.mem_of_getElem? e)
    simp only [Bool.and_eq_true, List.all_eq_true] at q
    refine ⟨z.cl, ?_, P _ q.1.1, fun m f e1 => ⟨z.ms.get e1, P _ (q.1.2 _ (look_mem e1))⟩, fun m f e1 => ⟨z.prs.get e1, P _ (q.2 _ (look_mem e1))⟩, fun k e1 => z.fl.get e1⟩
    obtain ⟨a, e1, e2⟩ := z.mkc
    show Mk K (cadOf B ci) (adOf L A CC.ini)
    rw [e1]; exact e2
theorem end_ok2 {L : List Df} {A : List Addr} {B : List (Nat × Addr)} {ns : List Str} {fs : List Nat} {ps : List (Addr × Addr)} {C : List (Str × Int)} {cs : List LCl} {xs : List Str} {fuel : Nat} {K : PySem.W.Frag} {h : Heap} {mg : Str → Option Value} {l : PySem.W.OpenLaw} {w : World} {fa : Addr} {f k : Nat} {d : Df} {x : Str}
    (X : K.In h) (G : h.Ns mainGlobals mg) (hfa : mg d.nm = some (.ref fa)) (hL : DefsAt K L A)
    (hk : (L.all fun d => d.ok (Txt.of L ns (cnOf C) (conOf C) (fun i => cs[i]?) (fun i => xs[i]?) fuel)) = true) (hz : ∀ x ∈ bltNames, PySem.W.nsIn K mainGlobals x = some none)
    (hC : ConsAt K C)
    (hn : knOk ns = true) (hl : lamsOk L fs = true) (hm : LamsAt K (adOf L A) fs ps) (hnd : (ps.map (·.2)).Nodup) (hE : ∀ p ∈ ps, h.get? p.2 = some { cls := .none, data := .fields #[] })
    (hcls : ClsAt K (adOf L A) (knOf ns) (cadOf B) 0 cs xs) (hck : clsOkB L cs = true)
    (hf : findDf f L = some d) (hg : d.gl = true) (h1 : d.ps = [x]) (hb : ∀ (kV doc pm : Value) (an : Option Addr) (cdv ct : Value) (v : Value), bindArgs (PySem.W.fnOf d.nm d.ql (defArgs d.st) (defBody d.st) (defScope d.st) .none kV doc pm an cdv ct) ⟨[v], []⟩ = pure (d.ps.zip [v]))
    (hlaw : ∀ ns : List Int, ns.length ≤ 63 → ∃ g, callF (fun f => (findDf f L).map (·.F)) (conOf C) (fun i => cs[i]?) fuel k f [.scr ns] [] = .ok (.bl true) g) (hd0 : d.dfl = [] := by rfl) (hh0 : d.hid = false := by rfl) :
    LamX.LawAtS l w K (L2.CX l.prog w) (2 * k) 63 x mg fa h :=
  end_ok X G hfa hL hk hz hC hn hl hm hnd hE (cl_ok (fs := fs) (ps := ps) (cn := cnOf C) (con := conOf C) (fuel := fuel) X G hcls hck).1 (cl_ok X G hcls hck).2 hf hg h1 hb hlaw hd0 hh0
theorem cx_none {P : Program} : ∀ (w : World) (H : Hp) (s : Shared) (e : Value) (s' : Shared), L2.CX P w [] H s (fun _ _ _ => False) e s' → False := fun w H s e s' ⟨_, _, _, _, _, _, _, _, _, _, _, _, hE⟩ => hE
theorem bl_all {K : PySem.W.Frag} (h0 : PySem.W.nsIn K mainGlobals "len" = some none) (h1 : PySem.W.nsIn K mainGlobals "int" = some none) (h2 : PySem.W.nsIn K mainGlobals "str" = some none) (h3 : PySem.W.nsIn K mainGlobals "bool" = some none) (h4 : PySem.W.nsIn K mainGlobals "abs" = some none) (h5 : PySem.W.nsIn K mainGlobals "max" = some none) (h6 : PySem.W.nsIn K mainGlobals "min" = some none) (h7 : PySem.W.nsIn K mainGlobals "sum" = some none) (h8 : PySem.W.nsIn K mainGlobals "all" = some none) (h9 : PySem.W.nsIn K mainGlobals "any" = some none) (h10 : PySem.W.nsIn K mainGlobals "tuple" = some none) (h11 : PySem.W.nsIn K mainGlobals "list" = some none) (h12 : PySem.W.nsIn K mainGlobals "sorted" = some none) (h13 : PySem.W.nsIn K mainGlobals "range" = some none) (h14 : PySem.W.nsIn K mainGlobals "isinstance" = some none) (h15 : PySem.W.nsIn K mainGlobals "divmod" = some none) (h16 : PySem.W.nsIn K mainGlobals "zip" = some none) (h17 : PySem.W.nsIn K mainGlobals "enumerate" = some none) (h18 : PySem.W.nsIn K mainGlobals "set" = some none) (h19 : PySem.W.nsIn K mainGlobals "reversed" = some none) : ∀ x ∈ bltNames, PySem.W.nsIn K mainGlobals x = some none := by
  intro x hx
  simp only [bltNames, List.mem_cons, List.not_mem_nil, or_false] at hx
  rcases hx with rfl | rfl | rfl | rfl | rfl | rfl | rfl | rfl | rfl | rfl | rfl | rfl | rfl | rfl | rfl | rfl | rfl | rfl | rfl | rfl <;> assumption
end KN

namespace KT
open KN
/-- is_whole(value) -/
def f19 : LF := { np := 1, n := 1, keep := false, body :=
   (.cons (.ret (.and (.isi (.var 0) [.int]) (.not (.isi (.var 0) [.bool]))))
   .nil) }
/-- is_number(value, least, most) -/
def f20 : LF := { np := 3, n := 3, keep := false, body :=
   (.cons (.ret (.and (.call 19 (.cons (.var 0) .nil)) (.chain .le .le (.var 1) (.var 0) (.var 2))))
   .nil) }
/-- is_row(value) -/
def f21 : LF := { np := 1, n := 1, keep := false, body :=
   (.cons (.ret (.isi (.var 0) [.list, .tuple]))
   .nil) }
/-- frozen(value) -/
def f10 : LF := { np := 1, n := 2, keep := false, body :=
   (.cons (.ite (.val (.isi (.var 0) [.list, .tuple]))
   (.cons (.ret (.bi .tuple (.cons (.comp false (.call 10 (.cons (.var 1) .nil)) (.name 1) (.seq (.var 0)) .no) .nil)))
   .nil)
   .nil)
   (.cons (.ret (.var 0))
   .nil)) }
/-- want_row(value, is_item, most) -/
def f42 : LF := { np := 3, n := 5, keep := false, body :=
   (.cons (.ite (.not (.val (.call 21 (.cons (.var 0) .nil))))
   (.cons .never
   .nil)
   .nil)
   (.cons (.for_ (.tup [3, 4]) (.enum (.var 0))
   (.cons (.ite (.not (.val (.callv 1 (.cons (.var 4) .nil))))
   (.cons .never
   .nil)
   .nil)
   .nil))
   (.cons (.ite (.cmp .gt (.bi .len (.cons (.var 0) .nil)) (.var 2))
   (.cons .never
   .nil)
   .nil)
   (.cons (.ret (.call 10 (.cons (.var 0) .nil)))
   .nil)))) }
/-- is_rate(value) -/
def f43 : LF := { np := 1, n := 1, keep := false, body :=
   (.cons (.ret (.call 20 (.cons (.var 0) (.cons (.int 0) (.cons (.con 0) .nil)))))
   .nil) }
/-- is_step(value) -/
def f44 : LF := { np := 1, n := 1, keep := false, body :=
   (.cons (.ret (.and (.call 21 (.cons (.var 0) .nil)) (.and (.cmp .eq (.bi .len (.cons (.var 0) .nil)) (.int 2)) (.and (.call 20 (.cons (.idx (.var 0) (.int 0)) (.cons (.int 2) (.cons (.con 2) .nil)))) (.call 20 (.cons (.idx (.var 0) (.int 1)) (.cons (.int 0) (.cons (.con 4) .nil))))))))
   .nil) }
/-- want_week(value) -/
def f45 : LF := { np := 1, n := 1, keep := false, body :=
   (.cons (.ite (.or (.not (.val (.call 21 (.cons (.var 0) .nil)))) (.cmp .ne (.bi .len (.cons (.var 0) .nil)) (.con 3)))
   (.cons .never
   .nil)
   .nil)
   (.cons (.ret (.call 42 (.cons (.var 0) (.cons (.fnv 43) (.cons (.con 3) .nil)))))
   .nil)) }
/-- want_percents(value) -/
def f46 : LF := { np := 1, n := 3, keep := false, body :=
   (.cons (.set 1 (.call 42 (.cons (.var 0) (.cons (.fnv 44) (.cons (.con 1) .nil)))))
   (.cons (.for_ (.name 2) (.range2 (.int 1) (.bi .len (.cons (.var 1) .nil)))
   (.cons (.ite (.cmp .le (.idx (.idx (.var 1) (.var 2)) (.int 0)) (.idx (.idx (.var 1) (.bin .sub (.var 2) (.int 1))) (.int 0)))
   (.cons .never
   .nil)
   .nil)
   .nil))
   (.cons (.ret (.var 1))
   .nil))) }
/-- percent_off(percents, nights) -/
def f47 : LF := { np := 2, n := 5, keep := false, body :=
   (.cons (.set 2 (.int 0))
   (.cons (.for_ (.tup [3, 4]) (.seq (.var 0))
   (.cons (.ite (.cmp .le (.var 3) (.var 1))
   (.cons (.set 2 (.var 4))
   .nil)
   .nil)
   .nil))
   (.cons (.ret (.var 2))
   .nil))) }
/-- Tariff.__init__(self, week, percents) -/
def f48 : LF := { np := 3, n := 3, keep := false, body :=
   (.cons (.sfld (.var 0) 6 (.call 45 (.cons (.var 1) .nil)))
   (.cons (.sfld (.var 0) 7 (.call 46 (.cons (.var 2) .nil)))
   .nil)) }
/-- Tariff.steady(self) -/
def f50 : LF := { np := 1, n := 1, keep := false, body :=
   (.cons (.ret (.ifx (.cmp .gt (.bi .len (.cons (.fld (.var 0) 7) .nil)) (.int 0)) (.idx (.idx (.fld (.var 0) 7) (.neg (.int 1))) (.int 0)) (.int 1)))
   .nil) }
/-- Tariff.left(self, nights) -/
def f51 : LF := { np := 2, n := 2, keep := false, body :=
   (.cons (.ret (.bin .sub (.con 4) (.call 47 (.cons (.fld (.var 0) 7) (.cons (.var 1) .nil)))))
   .nil) }
/-- Tariff.rates(self, day, nights) -/
def f52 : LF := { np := 3, n := 6, keep := false, body :=
   (.cons (.unp [3, 4] (.bi .divmod (.cons (.var 2) (.cons (.con 3) .nil))))
   (.cons (.ret (.bin .add (.bin .mul (.var 3) (.bi .sum (.cons (.fld (.var 0) 6) .nil))) (.bi .sum (.cons (.comp false (.idx (.fld (.var 0) 6) (.bin .mod (.bin .add (.var 1) (.var 5)) (.con 3))) (.name 5) (.range1 (.var 4)) .no) .nil))))
   .nil)) }
/-- Tariff.points(self, day, nights) -/
def f53 : LF := { np := 3, n := 3, keep := false, body :=
   (.cons (.ret (.bin .mul (.meth (.var 0) 2 (.cons (.var 1) (.cons (.var 2) .nil))) (.meth (.var 0) 1 (.cons (.var 2) .nil))))
   .nil) }
/-- split_gain(tariff, day, nights, ahead) -/
def f67 : LF := { np := 4, n := 5, keep := false, body :=
   (.cons (.set 4 (.bin .add (.meth (.var 0) 3 (.cons (.var 1) (.cons (.var 3) .nil))) (.meth (.var 0) 3 (.cons (.bin .mod (.bin .add (.var 1) (.var 3)) (.con 3)) (.cons (.bin .sub (.var 2) (.var 3)) .nil)))))
   (.cons (.ret (.bin .sub (.meth (.var 0) 3 (.cons (.var 1) (.cons (.var 2) .nil))) (.var 4)))
   .nil)) }
/-- first_split(tariff) -/
def f68 : LF := { np := 1, n := 4, keep := false, body :=
   (.cons (.for_ (.name 1) (.range2 (.int 2) (.bin .mul (.int 2) (.fld (.var 0) 5)))
   (.cons (.for_ (.name 2) (.range1 (.con 3))
   (.cons (.for_ (.name 3) (.range2 (.int 1) (.var 1))
   (.cons (.ite (.cmp .gt (.call 67 (.cons (.var 0) (.cons (.var 2) (.cons (.var 1) (.cons (.var 3) .nil))))) (.int 0))
   (.cons (.ret (.tup (.cons (.var 1) (.cons (.var 2) (.cons (.var 3) .nil)))))
   .nil)
   .nil)
   .nil))
   .nil))
   .nil))
   (.cons (.ret .non)
   .nil)) }
/-- is_split_proof(tariff) -/
def f69 : LF := { np := 1, n := 1, keep := false, body :=
   (.cons (.ret (.cmp .isn (.call 68 (.cons (.var 0) .nil)) .non))
   .nil) }
/-- cheapest_parts(tariff, day, nights) -/
def f70 : LF := { np := 3, n := 11, keep := false, body :=
   (.cons (.set 3 (.lst true (.cons (.tup (.cons (.int 0) (.cons (.int 0) (.cons (.tup .nil) .nil)))) .nil)))
   (.cons (.for_ (.name 4) (.range2 (.int 1) (.bin .add (.var 2) (.int 1)))
   (.cons (.set 5 (.lst true .nil))
   (.cons (.for_ (.name 6) (.range1 (.var 4))
   (.cons (.unp [7, 8, 9] (.idx (.var 3) (.var 6)))
   (.cons (.set 10 (.meth (.var 0) 3 (.cons (.bin .mod (.bin .add (.var 1) (.var 6)) (.con 3)) (.cons (.bin .sub (.var 4) (.var 6)) .nil))))
   (.cons (.app (.var 5) (.tup (.cons (.bin .add (.var 7) (.var 10)) (.cons (.bin .add (.var 8) (.int 1)) (.cons (.bin .add (.var 9) (.tup (.cons (.bin .sub (.var 4) (.var 6)) .nil))) .nil)))))
   .nil))))
   (.cons (.app (.var 3) (.bi .min (.cons (.var 5) .nil)))
   .nil))))
   (.cons (.ret (.tup (.cons (.idx (.idx (.var 3) (.var 2)) (.int 0)) (.cons (.idx (.idx (.var 3) (.var 2)) (.int 2)) .nil))))
   .nil))) }
/-- parts_points(tariff, day, parts) -/
def f71 : LF := { np := 3, n := 6, keep := false, body :=
   (.cons (.par 3 4 (.int 0) (.var 1))
   (.cons (.for_ (.name 5) (.seq (.var 2))
   (.cons (.aug 3 .add (.meth (.var 0) 3 (.cons (.bin .mod (.var 4) (.con 3)) (.cons (.var 5) .nil))))
   (.cons (.aug 4 .add (.var 5))
   .nil)))
   (.cons (.ret (.var 3))
   .nil))) }
/-- saved_points(tariff, day, nights) -/
def f72 : LF := { np := 3, n := 3, keep := false, body :=
   (.cons (.ret (.bin .sub (.meth (.var 0) 3 (.cons (.var 1) (.cons (.var 2) .nil))) (.idx (.call 70 (.cons (.var 0) (.cons (.var 1) (.cons (.var 2) .nil)))) (.int 0))))
   .nil) }
/-- proofed_row(tariff, day, most) -/
def f73 : LF := { np := 3, n := 4, keep := false, body :=
   (.cons (.ret (.bi .tuple (.cons (.comp false (.idx (.call 70 (.cons (.var 0) (.cons (.var 1) (.cons (.var 3) .nil)))) (.int 0)) (.name 3) (.range2 (.int 1) (.bin .add (.var 2) (.int 1))) .no) .nil)))
   .nil) }
/-- proofed(tariff, most) -/
def f74 : LF := { np := 2, n := 3, keep := false, body :=
   (.cons (.ret (.bi .tuple (.cons (.comp false (.call 73 (.cons (.var 0) (.cons (.var 2) (.cons (.var 1) .nil)))) (.name 2) (.range1 (.con 3)) .no) .nil)))
   .nil) }
/-- is_subadditive(rows) -/
def f75 : LF := { np := 1, n := 5, keep := false, body :=
   (.cons (.for_ (.tup [1, 2]) (.enum (.var 0))
   (.cons (.for_ (.name 3) (.range2 (.int 2) (.bin .add (.bi .len (.cons (.var 2) .nil)) (.int 1)))
   (.cons (.for_ (.name 4) (.range2 (.int 1) (.var 3))
   (.cons (.ite (.cmp .gt (.idx (.var 2) (.bin .sub (.var 3) (.int 1))) (.bin .add (.idx (.var 2) (.bin .sub (.var 4) (.int 1))) (.idx (.idx (.var 0) (.bin .mod (.bin .add (.var 1) (.var 4)) (.con 3))) (.bin .sub (.bin .sub (.var 3) (.var 4)) (.int 1)))))
   (.cons (.ret (.bl false))
   .nil)
   .nil)
   .nil))
   .nil))
   .nil))
   (.cons (.ret (.bl true))
   .nil)) }
/-- _law_taken(row, many) -/
def f1000 : LF := { np := 2, n := 4, keep := false, body :=
   (.cons (.ite (.cmp .gt (.idx (.var 0) (.int 3)) (.int 0))
   (.cons (.set 2 (.bin .mod (.bi .int (.cons (.idx (.var 0) (.int 3)) .nil)) (.var 1)))
   (.cons (.seti (.var 0) (.int 3) (.bin .fdiv (.idx (.var 0) (.int 3)) (.var 1)))
   (.cons (.ret (.var 2))
   .nil)))
   .nil)
   (.cons (.seti (.var 0) (.int 1) (.bin .add (.idx (.var 0) (.int 1)) (.int 1)))
   (.cons (.ite (.cmp .gt (.idx (.var 0) (.int 1)) (.bi .len (.cons (.idx (.var 0) (.int 0)) .nil)))
   (.cons (.seti (.var 0) (.int 2) (.bin .mod (.bi .int (.cons (.bin .add (.bin .mul (.idx (.var 0) (.int 2)) (.int 48271)) (.int 11)) .nil)) (.int 2147483647)))
   (.cons (.ret (.bin .mod (.bi .int (.cons (.bin .fdiv (.idx (.var 0) (.int 2)) (.int 7)) .nil)) (.var 1)))
   .nil))
   .nil)
   (.cons (.set 3 (.idx (.idx (.var 0) (.int 0)) (.bin .sub (.idx (.var 0) (.int 1)) (.int 1))))
   (.cons (.seti (.var 0) (.int 2) (.bin .mod (.bi .int (.cons (.bin .add (.bin .add (.bin .mul (.idx (.var 0) (.int 2)) (.int 48271)) (.var 3)) (.int 11)) .nil)) (.int 2147483647)))
   (.cons (.ite (.cmp .ge (.var 3) (.bin .pow (.int 10) (.int 18)))
   (.cons (.seti (.var 0) (.int 3) (.bin .fdiv (.var 3) (.var 1)))
   .nil)
   .nil)
   (.cons (.ret (.bin .mod (.bi .int (.cons (.var 3) .nil)) (.var 1)))
   .nil))))))) }
/-- _law_pick(row, kinds) -/
def f1001 : LF := { np := 2, n := 2, keep := false, body :=
   (.cons (.ret (.idx (.var 1) (.call 1000 (.cons (.var 0) (.cons (.bi .len (.cons (.var 1) .nil)) .nil)))))
   .nil) }
/-- _law_alike(found, due) -/
def f1002 : LF := { np := 2, n := 3, keep := false, body :=
   (.cons (.ite (.val (.isi (.var 1) [.tuple, .list]))
   (.cons (.ite (.or (.not (.val (.isi (.var 0) [.tuple, .list]))) (.cmp .ne (.isi (.var 0) [.list]) (.isi (.var 1) [.list])))
   (.cons (.ret (.bl false))
   .nil)
   .nil)
   (.cons (.ite (.cmp .ne (.bi .len (.cons (.var 0) .nil)) (.bi .len (.cons (.var 1) .nil)))
   (.cons (.ret (.bl false))
   .nil)
   .nil)
   (.cons (.ret (.cmp .eq (.comp false (.var 2) (.name 2) (.range1 (.bi .len (.cons (.var 1) .nil))) (.yes (.not (.val (.call 1002 (.cons (.idx (.var 0) (.var 2)) (.cons (.idx (.var 1) (.var 2)) .nil))))))) (.lst false .nil)))
   .nil)))
   .nil)
   (.cons (.ite (.or (.cmp .isn (.var 1) .non) (.val (.isi (.var 1) [.str])))
   (.cons (.ret (.and (.cmp .eq (.var 0) (.var 1)) (.cmp .eq (.isi (.var 0) [.str]) (.isi (.var 1) [.str]))))
   .nil)
   .nil)
   (.cons (.ret (.and (.isi (.var 0) [.int]) (.and (.cmp .eq (.isi (.var 0) [.bool]) (.isi (.var 1) [.bool])) (.cmp .eq (.var 0) (.var 1)))))
   .nil))) }
/-- _law_mixed(row, value) -/
def f1006 : LF := { np := 2, n := 2, keep := false, body :=
   (.cons (.ite (.cmp .eq (.call 1000 (.cons (.var 0) (.cons (.int 2) .nil))) (.int 0))
   (.cons (.ret (.bi .list (.cons (.var 1) .nil)))
   .nil)
   .nil)
   (.cons (.ret (.bi .tuple (.cons (.var 1) .nil)))
   .nil)) }
/-- _law_row(row, many, most) -/
def f1022 : LF := { np := 3, n := 5, keep := false, body :=
   (.cons (.set 3 (.lst true .nil))
   (.cons (.for_ (.name 4) (.range1 (.var 1))
   (.cons (.app (.var 3) (.call 1000 (.cons (.var 0) (.cons (.bin .add (.var 2) (.int 1)) .nil))))
   .nil))
   (.cons (.ret (.var 3))
   .nil))) }
/-- _law_truth(found, due) -/
def f1009 : LF := { np := 2, n := 2, keep := false, body :=
   (.cons (.ret (.and (.isi (.var 0) [.bool]) (.cmp .eq (.var 0) (.var 1))))
   .nil) }
/-- _law_tariff(row, top, most) -/
def f1026 : LF := { np := 3, n := 7, keep := false, body :=
   (.cons (.set 3 (.call 1022 (.cons (.var 0) (.cons (.int 7) (.cons (.var 1) .nil)))))
   (.cons (.ite (.cmp .eq (.call 1000 (.cons (.var 0) (.cons (.int 3) .nil))) (.int 0))
   (.cons (.set 3 (.bin .mul (.lst false (.cons (.idx (.var 3) (.int 0)) .nil)) (.int 7)))
   .nil)
   .nil)
   (.cons (.par 4 5 (.lst true .nil) (.int 1))
   (.cons (.for_ (.name 6) (.range1 (.call 1000 (.cons (.var 0) (.cons (.bin .add (.var 2) (.int 1)) .nil))))
   (.cons (.set 5 (.bin .add (.bin .add (.var 5) (.int 1)) (.call 1000 (.cons (.var 0) (.cons (.int 4) .nil)))))
   (.cons (.app (.var 4) (.tup (.cons (.var 5) (.cons (.call 1001 (.cons (.var 0) (.cons (.lst false (.cons (.int 0) (.cons (.int 5) (.cons (.int 10) (.cons (.int 20) (.cons (.int 50) (.cons (.int 100) (.cons (.call 1000 (.cons (.var 0) (.cons (.int 101) .nil))) .nil)))))))) .nil))) .nil))))
   .nil)))
   (.cons (.ret (.tup (.cons (.var 3) (.cons (.var 4) .nil))))
   .nil))))) }
/-- _law_points(raw, day, nights) -/
def f1027 : LF := { np := 3, n := 8, keep := false, body :=
   (.cons (.set 3 (.idx (.bin .add (.lst false (.cons (.int 0) .nil)) (.comp false (.var 5) (.tup [4, 5]) (.seq (.idx (.var 0) (.int 1))) (.yes (.cmp .le (.var 4) (.var 2))))) (.neg (.int 1))))
   (.cons (.set 6 (.bin .mul (.bi .sum (.cons (.idx (.var 0) (.int 0)) .nil)) (.bin .fdiv (.var 2) (.int 7))))
   (.cons (.for_ (.name 7) (.range1 (.bin .mod (.bi .int (.cons (.var 2) .nil)) (.int 7)))
   (.cons (.set 6 (.bin .add (.var 6) (.idx (.idx (.var 0) (.int 0)) (.bin .mod (.bi .int (.cons (.bin .add (.var 1) (.var 7)) .nil)) (.int 7)))))
   .nil))
   (.cons (.ret (.bin .mul (.var 6) (.bin .sub (.int 100) (.var 3))))
   .nil)))) }
/-- _law_pairs(firsts, seconds) -/
def f1028 : LF := { np := 2, n := 5, keep := false, body :=
   (.cons (.set 2 (.lst false .nil))
   (.cons (.for_ (.name 3) (.range1 (.var 0))
   (.cons (.set 2 (.bin .add (.var 2) (.comp false (.tup (.cons (.var 3) (.cons (.var 4) .nil))) (.name 4) (.range1 (.var 1)) .no)))
   .nil))
   (.cons (.ret (.var 2))
   .nil))) }
/-- _law_least_points(raw, day, most) -/
def f1030 : LF := { np := 3, n := 6, keep := false, body :=
   (.cons (.set 3 (.lst true (.cons (.int 0) .nil)))
   (.cons (.for_ (.name 4) (.range2 (.int 1) (.bin .add (.var 2) (.int 1)))
   (.cons (.app (.var 3) (.bi .min (.cons (.comp false (.bin .add (.idx (.var 3) (.var 5)) (.call 1027 (.cons (.var 0) (.cons (.bin .mod (.bi .int (.cons (.bin .add (.var 1) (.var 5)) .nil)) (.int 7)) (.cons (.bin .sub (.var 4) (.var 5)) .nil))))) (.name 5) (.range1 (.var 4)) .no) .nil)))
   .nil))
   (.cons (.ret (.var 3))
   .nil))) }
/-- _law_best_parts(raw, day, nights) -/
def f1031 : LF := { np := 3, n := 10, keep := false, body :=
   (.cons (.set 3 (.lst true (.cons (.tup (.cons (.int 0) (.cons (.int 0) (.cons (.tup .nil) .nil)))) .nil)))
   (.cons (.for_ (.name 4) (.range2 (.int 1) (.bin .add (.var 2) (.int 1)))
   (.cons (.set 5 (.lst true .nil))
   (.cons (.for_ (.name 6) (.range1 (.var 4))
   (.cons (.unp [7, 8, 9] (.idx (.var 3) (.var 6)))
   (.cons (.app (.var 5) (.tup (.cons (.bin .add (.var 7) (.call 1027 (.cons (.var 0) (.cons (.bin .mod (.bi .int (.cons (.bin .add (.var 1) (.var 6)) .nil)) (.int 7)) (.cons (.bin .sub (.var 4) (.var 6)) .nil))))) (.cons (.bin .add (.var 8) (.int 1)) (.cons (.bin .add (.var 9) (.tup (.cons (.bin .sub (.var 4) (.var 6)) .nil))) .nil)))))
   .nil)))
   (.cons (.app (.var 3) (.bi .min (.cons (.var 5) .nil)))
   .nil))))
   (.cons (.ret (.idx (.var 3) (.var 2)))
   .nil))) }
def b1032_3_1 : LSs := .cons (.ite (.and (.cmp .isn (.var 6) .non) (.cmp .lt (.var 9) (.call 1027 (.cons (.var 2) (.cons (.var 5) (.cons (.var 7) .nil))))))
   (.cons (.set 6 (.tup (.cons (.var 7) (.cons (.var 5) (.cons (.var 8) .nil)))))
   .nil)
   .nil) .nil
def b1032_3_0 : LSs := .cons (.set 9 (.bin .add (.call 1027 (.cons (.var 2) (.cons (.var 5) (.cons (.var 8) .nil)))) (.call 1027 (.cons (.var 2) (.cons (.bin .mod (.bi .int (.cons (.bin .add (.var 5) (.var 8)) .nil)) (.int 7)) (.cons (.bin .sub (.var 7) (.var 8)) .nil)))))) b1032_3_1
def b1032_2_1 : LSs := .cons (.ite (.cmp .isnn (.var 6) .non)
   (.cons .brk
   .nil)
   .nil) .nil
def b1032_2_0 : LSs := .cons (.for_ (.name 5) (.range1 (.int 7))
   (.cons (.for_ (.name 8) (.range2 (.int 1) (.var 7))
   b1032_3_0)
   .nil)) b1032_2_1
def b1032_1_1 : LSs := .cons (.set 16 (.bin .add (.var 16) (.var 17))) .nil
def b1032_1_0 : LSs := .cons (.set 15 (.bin .add (.var 15) (.call 1027 (.cons (.var 2) (.cons (.bin .mod (.bi .int (.cons (.var 16) .nil)) (.int 7)) (.cons (.var 17) .nil)))))) b1032_1_1
def b1032_0_29 : LSs := .cons (.ret (.call 1009 (.cons (.call 75 (.cons (.var 21) .nil)) (.cons (.var 23) .nil)))) .nil
def b1032_0_28 : LSs := .cons (.for_ (.name 24) (.range1 (.int 7))
   (.cons (.for_ (.name 25) (.range2 (.int 2) (.bin .add (.var 19) (.int 1)))
   (.cons (.for_ (.name 17) (.range2 (.int 1) (.var 25))
   (.cons (.ite (.cmp .gt (.idx (.idx (.var 21) (.var 24)) (.bin .sub (.var 25) (.int 1))) (.bin .add (.idx (.idx (.var 21) (.var 24)) (.bin .sub (.var 17) (.int 1))) (.idx (.idx (.var 21) (.bin .mod (.bi .int (.cons (.bin .add (.var 24) (.var 17)) .nil)) (.int 7))) (.bin .sub (.bin .sub (.var 25) (.var 17)) (.int 1)))))
   (.cons (.set 23 (.bl false))
   .nil)
   .nil)
   .nil))
   .nil))
   .nil)) b1032_0_29
def b1032_0_27 : LSs := .cons (.set 23 (.bl true)) b1032_0_28
def b1032_0_26 : LSs := .cons (.seti (.idx (.var 21) (.var 16)) (.var 14) (.bin .add (.idx (.idx (.var 21) (.var 16)) (.var 14)) (.call 1001 (.cons (.var 1) (.cons (.lst false (.cons (.int 1) (.cons (.int 100) (.cons (.neg (.int 1)) .nil)))) .nil))))) b1032_0_27
def b1032_0_25 : LSs := .cons (.par 16 14 (.call 1000 (.cons (.var 1) (.cons (.int 7) .nil))) (.call 1000 (.cons (.var 1) (.cons (.var 19) .nil)))) b1032_0_26
def b1032_0_24 : LSs := .cons (.set 21 (.comp false (.mlist (.var 22)) (.name 22) (.seq (.var 20)) .no)) b1032_0_25
def b1032_0_23 : LSs := .cons (.ite (.or (.not (.val (.call 1002 (.cons (.call 74 (.cons (.var 3) (.cons (.var 19) .nil))) (.cons (.var 20) .nil))))) (.cmp .isnn (.call 75 (.cons (.var 20) .nil)) (.bl true)))
   (.cons (.ret (.bl false))
   .nil)
   .nil) b1032_0_24
def b1032_0_22 : LSs := .cons (.set 20 (.bi .tuple (.cons (.comp false (.bi .tuple (.cons (.sli (.idx (.var 4) (.var 14)) (.yes (.int 1)) (.yes (.bin .add (.var 19) (.int 1)))) .nil)) (.name 14) (.range1 (.int 7)) .no) .nil))) b1032_0_23
def b1032_0_21 : LSs := .cons (.set 19 (.bin .add (.int 1) (.call 1000 (.cons (.var 1) (.cons (.int 9) .nil))))) b1032_0_22
def b1032_0_20 : LSs := .cons (.ite (.not (.val (.call 1002 (.cons (.call 67 (.cons (.var 3) (.cons (.var 5) (.cons (.var 7) (.cons (.var 8) .nil))))) (.cons (.var 18) .nil)))))
   (.cons (.ret (.bl false))
   .nil)
   .nil) b1032_0_21
def b1032_0_19 : LSs := .cons (.set 18 (.bin .sub (.bin .sub (.call 1027 (.cons (.var 2) (.cons (.var 5) (.cons (.var 7) .nil)))) (.call 1027 (.cons (.var 2) (.cons (.var 5) (.cons (.var 8) .nil))))) (.call 1027 (.cons (.var 2) (.cons (.bin .mod (.bi .int (.cons (.bin .add (.var 5) (.var 8)) .nil)) (.int 7)) (.cons (.bin .sub (.var 7) (.var 8)) .nil)))))) b1032_0_20
def b1032_0_18 : LSs := .cons (.set 8 (.call 1000 (.cons (.var 1) (.cons (.bin .add (.var 7) (.int 1)) .nil)))) b1032_0_19
def b1032_0_17 : LSs := .cons (.ite (.not (.val (.call 1002 (.cons (.call 71 (.cons (.var 3) (.cons (.var 5) (.cons (.var 13) .nil)))) (.cons (.var 15) .nil)))))
   (.cons (.ret (.bl false))
   .nil)
   .nil) b1032_0_18
def b1032_0_16 : LSs := .cons (.for_ (.name 17) (.seq (.var 13))
   b1032_1_0) b1032_0_17
def b1032_0_15 : LSs := .cons (.par 15 16 (.int 0) (.var 5)) b1032_0_16
def b1032_0_14 : LSs := .cons (.set 13 (.comp false (.bin .add (.int 1) (.call 1000 (.cons (.var 1) (.cons (.int 6) .nil)))) (.name 14) (.range1 (.call 1000 (.cons (.var 1) (.cons (.int 5) .nil)))) .no)) b1032_0_15
def b1032_0_13 : LSs := .cons (.ite (.or (.not (.val (.call 1002 (.cons (.call 70 (.cons (.var 3) (.cons (.var 5) (.cons (.int 0) .nil)))) (.cons (.tup (.cons (.int 0) (.cons (.tup .nil) .nil))) .nil))))) (.not (.val (.call 1002 (.cons (.call 71 (.cons (.var 3) (.cons (.var 5) (.cons (.call 1006 (.cons (.var 1) (.cons (.var 9) .nil))) .nil)))) (.cons (.var 11) .nil))))))
   (.cons (.ret (.bl false))
   .nil)
   .nil) b1032_0_14
def b1032_0_12 : LSs := .cons (.ite (.not (.val (.call 1002 (.cons (.call 72 (.cons (.var 3) (.cons (.var 5) (.cons (.var 7) .nil)))) (.cons (.bin .sub (.call 1027 (.cons (.var 2) (.cons (.var 5) (.cons (.var 7) .nil)))) (.var 11)) .nil)))))
   (.cons (.ret (.bl false))
   .nil)
   .nil) b1032_0_13
def b1032_0_11 : LSs := .cons (.ite (.or (.cmp .ne (.var 11) (.idx (.idx (.var 4) (.var 5)) (.var 7))) (.not (.val (.call 1002 (.cons (.call 70 (.cons (.var 3) (.cons (.var 5) (.cons (.var 7) .nil)))) (.cons (.tup (.cons (.var 11) (.cons (.var 9) .nil))) .nil))))))
   (.cons (.ret (.bl false))
   .nil)
   .nil) b1032_0_12
def b1032_0_10 : LSs := .cons (.unp [11, 12, 9] (.call 1031 (.cons (.var 2) (.cons (.var 5) (.cons (.var 7) .nil))))) b1032_0_11
def b1032_0_9 : LSs := .cons (.par 5 7 (.call 1000 (.cons (.var 1) (.cons (.int 7) .nil))) (.bin .add (.int 1) (.call 1000 (.cons (.var 1) (.cons (.int 20) .nil))))) b1032_0_10
def b1032_0_8 : LSs := .cons (.ite (.cmp .ne (.cmp .eq (.var 10) (.lst false .nil)) (.cmp .isn (.var 6) .non))
   (.cons (.ret (.bl false))
   .nil)
   .nil) b1032_0_9
def b1032_0_7 : LSs := .cons (.set 10 (.comp false (.int 1) (.tup [5, 7]) (.seq (.call 1028 (.cons (.int 7) (.cons (.int 29) .nil)))) (.yes (.and (.cmp .gt (.var 7) (.int 0)) (.cmp .lt (.idx (.idx (.var 4) (.var 5)) (.var 7)) (.call 1027 (.cons (.var 2) (.cons (.var 5) (.cons (.var 7) .nil))))))))) b1032_0_8
def b1032_0_6 : LSs := .cons (.ite (.or (.not (.val (.call 1002 (.cons (.call 68 (.cons (.var 3) .nil)) (.cons (.var 6) .nil))))) (.not (.val (.call 1009 (.cons (.call 69 (.cons (.var 3) .nil)) (.cons (.cmp .isn (.var 6) .non) .nil))))))
   (.cons (.ret (.bl false))
   .nil)
   .nil) b1032_0_7
def b1032_0_5 : LSs := .cons (.for_ (.name 7) (.range2 (.int 2) (.int 29))
   b1032_2_0) b1032_0_6
def b1032_0_4 : LSs := .cons (.set 6 .non) b1032_0_5
def b1032_0_3 : LSs := .cons (.set 4 (.comp false (.call 1030 (.cons (.var 2) (.cons (.var 5) (.cons (.int 28) .nil)))) (.name 5) (.range1 (.int 7)) .no)) b1032_0_4
def b1032_0_2 : LSs := .cons (.set 3 (.new false 0 (.cons (.idx (.var 2) (.int 0)) (.cons (.idx (.var 2) (.int 1)) .nil)))) b1032_0_3
def b1032_0_1 : LSs := .cons (.set 2 (.call 1026 (.cons (.var 1) (.cons (.call 1001 (.cons (.var 1) (.cons (.lst false (.cons (.int 3) (.cons (.int 100) (.cons (.int 99999) .nil)))) .nil))) (.cons (.int 3) .nil))))) b1032_0_2
def b1032_0_0 : LSs := .cons (.set 1 (.lst true (.cons (.var 0) (.cons (.int 0) (.cons (.int 173) (.cons (.int 0) .nil)))))) b1032_0_1
/-- law(script) -/
def f1032 : LF := { np := 1, n := 26, keep := false, body :=
   b1032_0_0 }
/-- the defs by their numbers -/
def PG : Nat → Option LF := fun f => lookF f [(19, f19), (20, f20), (21, f21), (10, f10), (42, f42), (43, f43), (44, f44), (45, f45), (46, f46), (47, f47), (48, f48), (50, f50), (51, f51), (52, f52), (53, f53), (67, f67), (68, f68), (69, f69), (70, f70), (71, f71), (72, f72), (73, f73), (74, f74), (75, f75), (1000, f1000), (1001, f1001), (1002, f1002), (1006, f1006), (1022, f1022), (1009, f1009), (1026, f1026), (1027, f1027), (1028, f1028), (1030, f1030), (1031, f1031), (1032, f1032)]
theorem pg19 : PG 19 = some f19 := rfl
theorem pg20 : PG 20 = some f20 := rfl
theorem pg21 : PG 21 = some f21 := rfl
theorem pg10 : PG 10 = some f10 := rfl
theorem pg42 : PG 42 = some f42 := rfl
theorem pg43 : PG 43 = some f43 := rfl
theorem pg44 : PG 44 = some f44 := rfl
theorem pg45 : PG 45 = some f45 := rfl
theorem pg46 : PG 46 = some f46 := rfl
theorem pg47 : PG 47 = some f47 := rfl
theorem pg48 : PG 48 = some f48 := rfl
theorem pg50 : PG 50 = some f50 := rfl
theorem pg51 : PG 51 = some f51 := rfl
theorem pg52 : PG 52 = some f52 := rfl
theorem pg53 : PG 53 = some f53 := rfl
theorem pg67 : PG 67 = some f67 := rfl
theorem pg68 : PG 68 = some f68 := rfl
theorem pg69 : PG 69 = some f69 := rfl
theorem pg70 : PG 70 = some f70 := rfl
theorem pg71 : PG 71 = some f71 := rfl
theorem pg72 : PG 72 = some f72 := rfl
theorem pg73 : PG 73 = some f73 := rfl
theorem pg74 : PG 74 = some f74 := rfl
theorem pg75 : PG 75 = some f75 := rfl
theorem pg1000 : PG 1000 = some f1000 := rfl
theorem pg1001 : PG 1001 = some f1001 := rfl
theorem pg1002 : PG 1002 = some f1002 := rfl
theorem pg1006 : PG 1006 = some f1006 := rfl
theorem pg1022 : PG 1022 = some f1022 := rfl
theorem pg1009 : PG 1009 = some f1009 := rfl
theorem pg1026 : PG 1026 = some f1026 := rfl
theorem pg1027 : PG 1027 = some f1027 := rfl
theorem pg1028 : PG 1028 = some f1028 := rfl
theorem pg1030 : PG 1030 = some f1030 := rfl
theorem pg1031 : PG 1031 = some f1031 := rfl
theorem pg1032 : PG 1032 = some f1032 := rfl
/-- the constants of the modules -/
def consL : List (PySem.Str × Int) := [("MOST_RATE", 99999), ("MOST_PERCENTS", 12), ("LONGEST", 60), ("WEEK", 7), ("WHOLE", 100)]
def conG : Nat → D := conOf consL
theorem con0 : conG 0 = .int 99999 := rfl
theorem con1 : conG 1 = .int 12 := rfl
theorem con2 : conG 2 = .int 60 := rfl
theorem con3 : conG 3 = .int 7 := rfl
theorem con4 : conG 4 = .int 100 := rfl
def clsL : List LCl := [{ ini := 48, ms := [(1, 51), (2, 52), (3, 53)], prs := [(5, 50)], fl := [6, 7] }]
def clsG : Nat → Option LCl := fun i => clsL[i]?
theorem cls0 : clsG 0 = some { ini := 48, ms := [(1, 51), (2, 52), (3, 53)], prs := [(5, 50)], fl := [6, 7] } := rfl
def fuelG : Nat := 1000000000
noncomputable abbrev call : Nat → Nat → List D → G → R D := callF PG conG clsG fuelG
noncomputable abbrev fnG (k : Nat) : Fn := ⟨call k, conG, fuelG, clsG⟩
end KT

namespace KT
open KN
structure Row where
  scr : List Int
  pos : Int
  seed : Int
  rest : Int
def rowO (r : Row) : O := .lst [.scr r.scr, .int r.pos, .int r.seed, .int r.rest]
def taken (r : Row) (m : Int) : Int × Row :=
  if 0 < r.rest then (r.rest.fmod m, { r with rest := r.rest.fdiv m })
  else if r.scr.length < r.pos + 1 then ((((r.seed * 48271 + 11).fmod 2147483647).fdiv 7).fmod m, { r with pos := r.pos + 1, seed := (r.seed * 48271 + 11).fmod 2147483647 })
  else
    let c := r.scr.getD r.pos.toNat 0
    (c.fmod m, { r with pos := r.pos + 1, seed := (r.seed * 48271 + c + 11).fmod 2147483647, rest := if 1000000000000000000 ≤ c then c.fdiv m else r.rest })
section
variable (r : Row) (L : G) (v : Int)
@[simp] theorem row_x0 : idxD (rowO r :: L) (.ref 0) (.int 0) = some (.scr r.scr) := rfl
@[simp] theorem row_x1 : idxD (rowO r :: L) (.ref 0) (.int 1) = some (.int r.pos) := rfl
@[simp] theorem row_x2 : idxD (rowO r :: L) (.ref 0) (.int 2) = some (.int r.seed) := rfl
@[simp] theorem row_x3 : idxD (rowO r :: L) (.ref 0) (.int 3) = some (.int r.rest) := rfl
@[simp] theorem row_p1 : putP (.ref 0) (.int 1) (.int v) (rowO r :: L) = some (rowO { r with pos := v } :: L) := rfl
@[simp] theorem row_p2 : putP (.ref 0) (.int 2) (.int v) (rowO r :: L) = some (rowO { r with seed := v } :: L) := rfl
@[simp] theorem row_p3 : putP (.ref 0) (.int 3) (.int v) (rowO r :: L) = some (rowO { r with rest := v } :: L) := rfl
@[simp] theorem low_row (n : Nat) : lowO n (rowO r) = true := rfl
end
theorem exit_row (r r' : Row) (L : G) (d : D) : exitD false (rowO r :: L) d (rowO r' :: L) = .ok d (rowO r' :: L) := exitD_len _ _ _ rfl
theorem small_c : small 48271 := by unfold small; decide
theorem taken_ok (k : Nat) (r : Row) (m : Int) (L : G) (hp : 0 ≤ r.pos) (hm : 0 < m) (hm2 : m < 18446744073709551616) : call (k + 1) 1000 [.ref 0, .int m] (rowO r :: L) = .ok (.int (taken r m).1) (rowO (taken r m).2 :: L) := by
  have n0 : m ≠ 0 := by omega
  have n1 : 0 < m ∧ small m := ⟨hm, by unfold small; omega⟩
  unfold call callF
  rw [show PG 1000 = some f1000 from rfl]
  unfold taken
  by_cases h1 : 0 < r.rest
  · simp [f1000, h1, b_mod _ _ _ n0, b_fdivW _ _ _ n1, exit_row]
  · by_cases h2 : r.scr.length < r.pos + 1
    · simp [f1000, h1, h2, b_mod _ _ _ n0, b_fdivW _ _ _ n1, exit_row, b_mul _ _ _ (.inr small_c), b_mod _ _ 2147483647 (by decide), b_fdiv _ _ 7 (by decide)]
    · have h3 : r.pos < r.scr.length := by omega
      by_cases h4 : 1000000000000000000 ≤ r.scr.getD r.pos.toNat 0
      all_goals
        have e18 : ∀ g, binD .pow g (.int 10) (.int 18) = some (.int 1000000000000000000) := fun g => by rw [b_pow g _ _ ⟨by decide, by decide, small_of _ (by decide)⟩]; rfl
        have h5 : r.pos + 1 - 1 = r.pos := by omega
        simp [-List.getD_eq_getElem?_getD, f1000, h1, h2, h4, h5, e18, b_mod _ _ _ n0, b_fdivW _ _ _ n1, exit_row, b_mul _ _ _ (.inr small_c), b_mod _ _ 2147483647 (by decide), x_scr _ _ _ hp h3]
theorem call_eq {k n : Nat} {ds : List D} {g : G} {F : LF} (hP : PG n = some F) (hl : ds.length = F.np) : call (k + 1) n ds g = endF F.keep g (evSs (fnG k) F.body (start F ds) g) := by
  show callF PG conG clsG fuelG (k + 1) n ds g = _
  simp only [callF, hP, hl, if_true]
theorem exit_pur {g : G} {d : D} (h : pur 60 d = true) : exitD false g d g = .ok d g := by
  have := exitD_pur g [] d h
  rwa [List.append_nil] at this
theorem fmod_rng {a m : Int} (h : 0 < m) : 0 ≤ a.fmod m ∧ a.fmod m < m := ⟨Int.fmod_nonneg_of_pos a h, Int.fmod_lt_of_pos a h⟩
theorem taken_rng (r : Row) {m : Int} (h : 0 < m) : 0 ≤ (taken r m).1 ∧ (taken r m).1 < m := by
  unfold taken
  split
  · exact fmod_rng h
  · split
    · exact fmod_rng h
    · exact fmod_rng h
theorem taken_pos (r : Row) (m : Int) (h : 0 ≤ r.pos) : 0 ≤ (taken r m).2.pos := by
  unfold taken
  split
  · exact h
  · split
    · show 0 ≤ r.pos + 1; omega
    · show 0 ≤ r.pos + 1; omega
theorem taken_x (k : Nat) (r : Row) (m : Int) (L : G) (hp : 0 ≤ r.pos) (hm : 0 < m) (hm2 : m < 18446744073709551616) : ∃ t r', callF PG conG clsG fuelG (k + 1) 1000 [.ref 0, .int m] (rowO r :: L) = .ok (.int t) (rowO r' :: L) ∧ 0 ≤ t ∧ t < m ∧ 0 ≤ r'.pos :=
  ⟨_, _, taken_ok k r m L hp hm hm2, (taken_rng r hm).1, (taken_rng r hm).2, taken_pos r m hp⟩
theorem end_true {x : F} (h : post (fun _ _ => False) (fun v _ => v = .bl true) (fun _ _ => False) x) : ∃ g', endF false [] x = .ok (.bl true) g' := by
  rcases post_cases h with ⟨_, _, _, hh⟩ | ⟨v, g, rfl, rfl⟩ | ⟨_, _, _, _, hh⟩
  · exact hh.elim
  · exact ⟨[], exitD_pur [] g _ rfl⟩
  · exact hh.elim
end KT
namespace KT
open KN
theorem pick_x (k : Nat) (r : Row) (xs : List D) (L : G) (hp : 0 ≤ r.pos) (h : xs ≠ []) (hl : xs.length ≤ 1000) : ∃ (v : D) (r' : Row), callF PG conG clsG fuelG (k + 2) 1001 [.ref 0, .lst xs] (rowO r :: L) = .ok v (rowO r' :: L) ∧ 0 ≤ r'.pos ∧ v ∈ xs := by
  have h0 : 0 < xs.length := List.length_pos_iff.mpr h
  obtain ⟨t, r', e, t0, t1, hp'⟩ := taken_x k r xs.length L hp (by omega) (by omega)
  obtain ⟨n, rfl⟩ : ∃ n : Nat, t = (n : Nat) := ⟨t.toNat, by omega⟩
  have hn : n < xs.length := by omega
  refine ⟨xs[n], r', ?_, hp', List.getElem_mem hn⟩
  have e2 := fun g => x_lst g xs (List.getElem?_eq_getElem hn)
  show call (k + 1 + 1) 1001 _ _ = _
  rw [call_eq pg1001 rfl]
  simp [f1001, e, e2, exit_row]
end KT
namespace KT
open KN
theorem truth_ok {k : Nat} {g : G} (x y : Bool) : call (k + 1) 1009 [.bl x, .bl y] g = .ok (.bl (x == y)) g := by
  rw [call_eq pg1009 rfl]
  simp [f1009, isTys, isTag, tagD]
theorem truth_x {g : G} {k : Nat} (x y : Bool) : callF PG conG clsG fuelG (k + 1) 1009 [.bl x, .bl y] g = .ok (.bl (x == y)) g := truth_ok x y
end KT
namespace KT
open KN
section
variable {k : Nat} {g : G}
def isInt : D → Bool
  | .int _ => true
  | _ => false
def numb (lo hi : Int) : D → Bool
  | .int i => decide (lo ≤ i) && decide (i ≤ hi)
  | _ => false
def flat : D → Prop
  | .int _ => True
  | .non => True
  | .bl _ => True
  | .str _ => True
  | .lst _ => True
  | .tup _ => True
  | _ => False
theorem is_whole_ok (v : D) (h : flat v) : call (k + 1) 19 [v] g = .ok (.bl (isInt v)) g := by
  rw [call_eq pg19 rfl]
  cases v <;> first
    | exact h.elim
    | simp [f19, isTys, isTag, tagD, isInt]
theorem is_number_ok (v : D) (lo hi : Int) (h : flat v) : call (k + 2) 20 [v, .int lo, .int hi] g = .ok (.bl (numb lo hi v)) g := by
  rw [call_eq pg20 rfl]
  have e := is_whole_ok (k := k) (g := g) v h
  cases v <;> first
    | exact h.elim
    | (simp [f20, e, isInt, numb]; done)
    | (rename_i i; by_cases c : lo ≤ i <;> simp [f20, e, isInt, numb, c])
def isSeq : D → Bool
  | .lst _ => true
  | .tup _ => true
  | _ => false
theorem is_row_ok (v : D) (h : flat v) : call (k + 1) 21 [v] g = .ok (.bl (isSeq v)) g := by
  rw [call_eq pg21 rfl]
  cases v <;> first
    | exact h.elim
    | simp [f21, isTys, isTag, tagD, isSeq]
end
end KT
namespace KT
open KN
/-- _law_row -/
theorem lrow_x (k : Nat) (r : Row) (n : Nat) (most : Int) (L : G) (hp : 0 ≤ r.pos) (hn : n ≤ 1000) (h0 : 0 ≤ most) (h1 : most < 1000000000000) :
    ∃ (ws : List Int) (r' : Row), callF PG conG clsG fuelG (k + 2) 1022 [.ref 0, .int (n : Nat), .int most] (rowO r :: L) = .ok (.lst (ws.map .int)) (rowO r' :: L) ∧ 0 ≤ r'.pos ∧ ws.length = n ∧ ∀ w ∈ ws, 0 ≤ w ∧ w ≤ most := by
  suffices h : ∃ (ws : List Int) (r' : Row), (∃ v, call (k + 1 + 1) 1022 [.ref 0, .int (n : Nat), .int most] (rowO r :: L) = endF false (rowO r :: L) (.rt v (rowO r' :: (L ++ [.lst (ws.map .int)]))) ∧ v = .ref (L.length + 1)) ∧ 0 ≤ r'.pos ∧ ws.length = n ∧ ∀ w ∈ ws, 0 ≤ w ∧ w ≤ most by
    obtain ⟨ws, r', ⟨v, h1, rfl⟩, h2, h3, h4⟩ := h
    refine ⟨ws, r', ?_, h2, h3, h4⟩
    refine h1.trans ?_
    rw [endF_rt]
    exact exit_own _ _ _ _ (fun n => low_row _ n) (purs_ints 58 _)
  rw [call_eq pg1022 rfl]
  have main : post (fun _ _ => False) (fun v g => ∃ (ws : List Int) (r' : Row), v = .ref (L.length + 1) ∧ g = rowO r' :: (L ++ [.lst (ws.map .int)]) ∧ 0 ≤ r'.pos ∧ ws.length = n ∧ ∀ w ∈ ws, 0 ≤ w ∧ w ≤ most) (fun _ _ => False) (evSs (fnG (k + 1)) f1022.body (start f1022 [.ref 0, .int (n : Nat), .int most]) (rowO r :: L)) := by
    refine post_nx (s1 := [some (.ref 0), some (.int (n : Nat)), some (.int most), some (.ref (L.length + 1)), none]) (g1 := rowO r :: (L ++ [.lst []])) (by simp [f1022, mkL]) ?_
    refine post_cons (N := fun s g => ∃ (ws : List Int) (r' : Row) (x : Option D), s = [some (.ref 0), some (.int (n : Nat)), some (.int most), some (.ref (L.length + 1)), x] ∧ g = rowO r' :: (L ++ [.lst (ws.map .int)]) ∧ 0 ≤ r'.pos ∧ ws.length = n ∧ ∀ w ∈ ws, 0 ≤ w ∧ w ≤ most) ?_ ?_
    · have er := evI_rN (W := fnG (k + 1)) (a := .var 1) (s := [some (.ref 0), some (.int (n : Nat)), some (.int most), some (.ref (L.length + 1)), none]) (g := rowO r :: (L ++ [.lst []])) (g' := rowO r :: (L ++ [.lst []])) (n := n) (by simp) (lim_le (by omega))
      rw [evS_for_, er]
      refine forL_range _ _ (fun m s g => ∃ (ws : List Int) (r' : Row) (x : Option D), s = [some (.ref 0), some (.int (n : Nat)), some (.int most), some (.ref (L.length + 1)), x] ∧ g = rowO r' :: (L ++ [.lst (ws.map .int)]) ∧ 0 ≤ r'.pos ∧ ws.length = m ∧ ∀ w ∈ ws, 0 ≤ w ∧ w ≤ most) (fun _ _ _ _ => lock_nil _) ?_ (fun s g h => h) _ _ ⟨[], r, none, rfl, rfl, hp, rfl, fun _ h => nomatch h⟩
      rintro m s g hm ⟨ws, r1, x, rfl, rfl, p1, hl, hw⟩
      obtain ⟨t, r2, e2, t0, t1, p2⟩ := taken_x k r1 (most + 1) (L ++ [.lst (ws.map .int)]) p1 (by omega) (by omega)
      have hll : ws.length < LIM := lim_lt (by omega)
      refine ⟨[some (.ref 0), some (.int (n : Nat)), some (.int most), some (.ref (L.length + 1)), some (.int (m : Nat))], by simp, .inl ⟨[some (.ref 0), some (.int (n : Nat)), some (.int most), some (.ref (L.length + 1)), some (.int (m : Nat))], rowO r2 :: (L ++ [.lst ((ws ++ [t]).map .int)]), by simp [e2, hll], ws ++ [t], r2, _, rfl, rfl, p2, by simp [hl], fun w hw' => ?_⟩⟩
      rcases List.mem_append.mp hw' with z | z
      · exact hw w z
      · rw [List.mem_singleton.mp z]; omega
    · rintro s g ⟨ws, r', x, rfl, rfl, h1, h2, h3⟩
      have e : evS (fnG (k + 1)) (.ret (.var 3)) [some (.ref 0), some (.int (n : Nat)), some (.int most), some (.ref (L.length + 1)), x] (rowO r' :: (L ++ [.lst (ws.map .int)])) = .rt (.ref (L.length + 1)) (rowO r' :: (L ++ [.lst (ws.map .int)])) := by simp
      rw [evSs_rt e]
      exact ⟨ws, r', rfl, rfl, h1, h2, h3⟩
  rcases post_cases main with ⟨_, _, _, hh⟩ | ⟨v, g, e, ws, r', rfl, rfl, h1, h2, h3⟩ | ⟨_, _, _, _, hh⟩
  · exact hh.elim
  · exact ⟨ws, r', ⟨_, by rw [e]; rfl, rfl⟩, h1, h2, h3⟩
  · exact hh.elim
end KT
namespace KT
open KN
/-- a comprehension whose items are drawn -/
theorem comp_draw {A B : Type} {t : LT} {W : Fn} {e : St → G → R D} {s : St} {L : G} (f : A → D) (h : B → D) (P : A → B → Prop) : ∀ (ys : List A),
    (∀ y ∈ ys, ∀ r : Row, 0 ≤ r.pos → ∃ s1 b r', setT t (f y) (wipeA s (ownT t)) = some s1 ∧ e s1 (rowO r :: L) = .ok (h b) (rowO r' :: L) ∧ 0 ≤ r'.pos ∧ P y b) →
    ∀ r : Row, 0 ≤ r.pos → ∃ (bs : List B) (r' : Row), compL t [] (evCs W .no) e (ys.map f) s (rowO r :: L) = .ok (bs.map h) (rowO r' :: L) ∧ 0 ≤ r'.pos ∧ bs.length = ys.length ∧ ∀ (i : Nat) (y : A) (b : B), ys[i]? = some y → bs[i]? = some b → P y b
  | [], _, r, hp => ⟨[], r, by simp [compL], hp, rfl, fun i y b h => by simp at h⟩
  | y :: ys, H, r, hp => by
    obtain ⟨s1, b, r1, h1, h2, h3, h4⟩ := H y (by simp) r hp
    obtain ⟨bs, r2, e2, p2, l2, q2⟩ := comp_draw f h P ys (fun z hz => H z (by simp [hz])) r1 h3
    refine ⟨b :: bs, r2, ?_, p2, by simp [l2], fun i y' b' hy hb => ?_⟩
    · rw [List.map_cons, compL, if_pos (lock_nil _), h1]
      show ((evCs W .no s1 (rowO r :: L)).bindN fun b g1 => if b = true then (e s1 g1).bindN fun x g2 => (compL t [] (evCs W .no) e (ys.map f) s g2).bind fun xs g3 => .ok (x :: xs) g3 else compL t [] (evCs W .no) e (ys.map f) s g1) = _
      rw [evCs_no, R.bindN_ok, if_pos rfl, h2, R.bindN_ok, e2]
      rfl
    · cases i with
      | zero => cases hy; cases hb; exact h4
      | succ i => exact q2 i y' b' (by simpa using hy) (by simpa using hb)
end KT
namespace KT
open KN
/-! ### values that are told alike -/
mutual
noncomputable def pln : Nat → D → Bool
  | _, .non => true
  | _, .bl _ => true
  | _, .int _ => true
  | n + 1, .tup xs => decide (xs.length ≤ LIM) && plns n xs
  | n + 1, .lst xs => decide (xs.length ≤ LIM) && plns n xs
  | _, _ => false
noncomputable def plns : Nat → List D → Bool
  | _, [] => true
  | n, x :: xs => pln n x && plns n xs
end
theorem plns_get {n : Nat} : ∀ {xs : List D} {i : Nat} {d : D}, plns n xs = true → xs[i]? = some d → pln n d = true
  | [], i, d, _, h => by simp at h
  | x :: xs, 0, d, h, e => by
    simp only [plns, Bool.and_eq_true] at h
    cases e; exact h.1
  | x :: xs, i + 1, d, h, e => by
    simp only [plns, Bool.and_eq_true] at h
    exact plns_get h.2 (by simpa using e)
@[simp] theorem is_tupT (g : G) (xs : List D) : isTys g (.tup xs) [.tuple, .list] = some true := rfl
@[simp] theorem is_tupL (g : G) (xs : List D) : isTys g (.lst xs) [.tuple, .list] = some true := rfl
@[simp] theorem is_tupI (g : G) (i : Int) : isTys g (.int i) [.tuple, .list] = some false := rfl
@[simp] theorem is_tupB (g : G) (i : Bool) : isTys g (.bl i) [.tuple, .list] = some false := rfl
@[simp] theorem is_tupN (g : G) : isTys g .non [.tuple, .list] = some false := rfl
@[simp] theorem is_lstT (g : G) (xs : List D) : isTys g (.tup xs) [.list] = some false := rfl
@[simp] theorem is_lstL (g : G) (xs : List D) : isTys g (.lst xs) [.list] = some true := rfl
@[simp] theorem is_strI (g : G) (i : Int) : isTys g (.int i) [.str] = some false := rfl
@[simp] theorem is_strB (g : G) (i : Bool) : isTys g (.bl i) [.str] = some false := rfl
@[simp] theorem is_strN (g : G) : isTys g .non [.str] = some false := rfl
@[simp] theorem is_intI (g : G) (i : Int) : isTys g (.int i) [.int] = some true := rfl
@[simp] theorem is_intB (g : G) (i : Bool) : isTys g (.bl i) [.int] = some true := rfl
@[simp] theorem is_blI (g : G) (i : Int) : isTys g (.int i) [.bool] = some false := rfl
@[simp] theorem is_blB (g : G) (i : Bool) : isTys g (.bl i) [.bool] = some true := rfl
@[simp] theorem eq_nil (g : G) : cmpD .eq g (.lst []) (.lst []) = some true := rfl
@[simp] theorem eq_non (g : G) : cmpD .eq g .non .non = some true := rfl
theorem alike_ok : ∀ (n : Nat) (d : D) (k : Nat) (g : G), pln n d = true → call (k + n + 1) 1002 [d, d] g = .ok (.bl true) g := by
  intro n
  induction n with
  | zero =>
    intro d k g h
    unfold call callF
    rw [show PG 1002 = some f1002 from rfl]
    cases d <;> simp [pln] at h <;> simp [f1002]
  | succ n ih =>
    intro d k g h
    unfold call callF
    rw [show PG 1002 = some f1002 from rfl]
    have seq : ∀ (mk : List D → D) (xs : List D), (∀ g i d, xs[i]? = some d → idxD g (mk xs) (.int (i : Nat)) = some d) → plns n xs = true →
        ∀ s, s = [some (mk xs), some (mk xs), none] → compL (.name 2) [] (evCs ⟨callF PG conG clsG fuelG (k + (n + 1)), conG, fuelG, clsG⟩ (.yes (.not (.val (.call 1002 (.cons (.idx (.var 0) (.var 2)) (.cons (.idx (.var 1) (.var 2)) .nil))))))) (evE ⟨callF PG conG clsG fuelG (k + (n + 1)), conG, fuelG, clsG⟩ (.var 2)) ((List.range xs.length).map fun k => D.int (k : Nat)) s g = .ok [] g := by
      intro mk xs hx hp s hs
      subst hs
      rw [comp_pure (lk := []) (fun k => D.int (k : Nat)) (fun _ => false) (fun k => D.int (k : Nat)) _ (lock_nil _)]
      · simp
      · intro i hi
        have hi' : i < xs.length := List.mem_range.mp hi
        have e1 := List.getElem?_eq_getElem hi'
        have e2 := hx g i _ e1
        have e3 := ih xs[i] k g (plns_get hp e1)
        unfold call at e3
        rw [show k + n + 1 = k + (n + 1) by omega] at e3
        refine ⟨_, rfl, ?_, fun h => by simp at h⟩
        simp [e2, e3]
    cases d with
    | non => simp [f1002]
    | bl b => simp [f1002]
    | int b => simp [f1002]
    | tup xs =>
      simp only [pln, Bool.and_eq_true, decide_eq_true_eq] at h
      have := seq .tup xs (fun g i d e => x_tup g xs e) h.2
      have hr : evI ⟨callF PG conG clsG fuelG (k + (n + 1)), conG, fuelG, clsG⟩ (.range1 (.bi .len (.cons (.var 1) .nil))) [some (D.tup xs), some (D.tup xs), none] g = .ok ((List.range xs.length).map fun k => D.int (k : Nat), []) g := evI_rN (by simp) h.1
      simp [f1002, hr, this _ rfl, mkC, mkL]
    | lst xs =>
      simp only [pln, Bool.and_eq_true, decide_eq_true_eq] at h
      have := seq .lst xs (fun g i d e => x_lst g xs e) h.2
      have hr : evI ⟨callF PG conG clsG fuelG (k + (n + 1)), conG, fuelG, clsG⟩ (.range1 (.bi .len (.cons (.var 1) .nil))) [some (D.lst xs), some (D.lst xs), none] g = .ok ((List.range xs.length).map fun k => D.int (k : Nat), []) g := evI_rN (by simp) h.1
      simp [f1002, hr, this _ rfl, mkC, mkL]
    | _ => simp [pln] at h
theorem alike_x {g : G} (n : Nat) (d : D) (hn : n ≤ 20) (h : pln n d = true) : callF PG conG clsG fuelG 29 1002 [d, d] g = .ok (.bl true) g := by
  have := alike_ok n d (28 - n) g h
  rwa [show 28 - n + n + 1 = 29 by omega] at this
theorem plns_all {A : Type} (n : Nat) (f : A → D) (l : List A) (h : ∀ x ∈ l, pln n (f x) = true) : plns n (l.map f) = true := by
  induction l with
  | nil => cases n <;> rfl
  | cons x l ih => simp [plns, h x (by simp), ih fun y hy => h y (by simp [hy])]
theorem pln_tup {n : Nat} {l : List D} (h : l.length ≤ 1000000) (h2 : plns n l = true) : pln (n + 1) (.tup l) = true := by
  simp only [pln, Bool.and_eq_true, decide_eq_true_eq]
  exact ⟨lim_le h, h2⟩
theorem pln_ints {l : List Int} (h : l.length ≤ 1000000) : pln 1 (.tup (l.map .int)) = true := pln_tup (by rwa [List.length_map]) (plns_all 0 _ _ fun _ _ => rfl)
end KT
namespace KT
open KN
/-- a list or a tuple of these -/
def sq (b : Bool) (xs : List D) : D := if b then .lst xs else .tup xs
theorem mixed_x (k : Nat) (r : Row) (L : G) (hp : 0 ≤ r.pos) (v : D) (xs : List D) (hv : v = .tup xs ∨ v = .lst xs) : ∃ b r', callF PG conG clsG fuelG (k + 2) 1006 [.ref 0, v] (rowO r :: L) = .ok (sq b xs) (rowO r' :: L) ∧ 0 ≤ r'.pos := by
  obtain ⟨t, r', e, t0, t1, hp'⟩ := taken_x k r 2 L hp (by decide) (by decide)
  refine ⟨decide (t = 0), r', ?_, hp'⟩
  show call (k + 1 + 1) 1006 _ _ = _
  rw [call_eq pg1006 rfl]
  by_cases h : t = 0
  all_goals
    rcases hv with rfl | rfl
    all_goals simp [f1006, e, h, sq, exit_row]
theorem sq_view (b : Bool) (xs : List D) (g : G) : SeqV g (sq b xs) xs := by cases b <;> simp [sq, SeqV]
end KT
namespace KT
open KN
/-- a tuple or a list -/
def wkD (b : Bool) (xs : List D) : D := if b = true then .tup xs else .lst xs
section
variable {k : Nat} {g : G}
theorem wk_flat (b : Bool) (xs : List D) : flat (wkD b xs) := by cases b <;> trivial
theorem wk_seq (b : Bool) (xs : List D) : isSeq (wkD b xs) = true := by cases b <;> rfl
theorem wk_src (b : Bool) (xs : List D) : srcD g (wkD b xs) = some (xs, []) := by cases b <;> rfl
theorem wk_len (b : Bool) (xs : List D) : biD .len g [wkD b xs] = some (.int xs.length) := by cases b <;> rfl
theorem wk_at (b : Bool) (xs : List D) {i : Nat} {d : D} (h : xs[i]? = some d) : idxD g (wkD b xs) (.int (i : Nat)) = some d := by
  cases b
  · exact x_lst _ _ h
  · exact x_tup _ _ h
theorem frozen_int (i : Int) : call (k + 1) 10 [.int i] g = .ok (.int i) g := by
  rw [call_eq pg10 rfl]
  simp [f10, isTys, isTag, tagD]
theorem wk_sv (b : Bool) (xs : List D) : SeqV g (wkD b xs) xs := by
  cases b
  · exact .inl rfl
  · exact .inr (.inl rfl)
theorem svApp {v : D} {xs : List D} (h : SeqV g v xs) (L : G) : SeqV (g ++ L) v xs := by
  rcases h with rfl | rfl | ⟨a, rfl, e⟩
  · exact .inl rfl
  · exact .inr (.inl rfl)
  · refine .inr (.inr ⟨a, rfl, ?_⟩)
    have hl : a < g.length := by
      rcases Nat.lt_or_ge a g.length with q | q
      · exact q
      · rw [List.getElem?_eq_none q] at e; cases e
    rw [List.getElem?_append_left hl]; exact e
theorem is_row_s {v : D} {xs : List D} (h : SeqV g v xs) : call (k + 1) 21 [v] g = .ok (.bl true) g := by
  rw [call_eq pg21 rfl]
  simp [f21, h.isrow.1]
theorem frozen_seq {A : Type} {v : D} (xs : List A) (f h : A → D) (hv : SeqV g v (xs.map f)) (H : ∀ x ∈ xs, call (k + 1) 10 [f x] g = .ok (h x) g) (hp : purs 59 (xs.map h) = true) : call (k + 2) 10 [v] g = .ok (.tup (xs.map h)) g := by
  obtain ⟨lk, h1, h2⟩ := hv.src
  have e : compL (.name 1) lk (evCs (fnG (k + 1)) .no) (evE (fnG (k + 1)) (.call 10 (.cons (.var 1) .nil))) (xs.map f) [some v, none] g = .ok (xs.map h) g := by
    rw [comp_pure f (fun _ => true) h xs h2 fun m hm => ⟨[some v, some (f m)], by simp, by simp, fun _ => by simp [H m hm]⟩]
    simp
  have hp' : pur 60 (.tup (xs.map h)) = true := hp
  rw [call_eq pg10 rfl]
  have h1' : seqI v g = .ok (xs.map f, lk) g := by show oR (srcD g v) g = _; rw [h1]; rfl
  generalize xs.map h = hs at *
  simp [f10, hv.isrow.1, h1', e, mkC, exit_pur hp']
theorem frozen_pr (b : Bool) (p : Int × Int) : call (k + 2) 10 [wkD b [.int p.1, .int p.2]] g = .ok (prD p) g := by
  have := frozen_seq (k := k) (g := g) [p.1, p.2] D.int D.int (wk_sv b _) (fun x _ => frozen_int x) rfl
  simpa [prD] using this
/-- want_row: all items right -/
theorem want_row_ok {A : Type} {v : D} (q : Nat) (most : Int) (xs : List A) (f h : A → D) (hv : SeqV g v (xs.map f)) (H : ∀ x ∈ xs, call (k + 2) 10 [f x] g = .ok (h x) g) (hq : ∀ x ∈ xs, call (k + 3) q [f x] g = .ok (.bl true) g) (hm : (xs.length : Int) ≤ most) (hp : purs 59 (xs.map h) = true) :
    call (k + 4) 42 [v, .fn q, .int most] g = .ok (.tup (xs.map h)) g := by
  rw [call_eq pg42 rfl]
  have e1 := is_row_s (k := k + 2) hv
  obtain ⟨lk, hs, hk⟩ := hv.src
  have e2 := frozen_seq (k := k + 1) (g := g) xs f h hv H hp
  have e3 := hv.len
  refine end_rt (V := fun w g1 => w = .tup (xs.map h) ∧ g1 = g) ?_ (by rintro w g1 ⟨rfl, rfl⟩; exact exit_pur hp)
  refine post_nx (s1 := [some v, some (.fn q), some (.int most), none, none]) (g1 := g) (by simp [f42, e1]) ?_
  refine post_cons (N := fun s g1 => (∃ y z, s = [some v, some (.fn q), some (.int most), y, z]) ∧ g1 = g) ?_ ?_
  · simp only [evS_for_, evI_enum, evE_var, List.getElem?_cons_succ, List.getElem?_cons_zero, R.bind_ok, hs, oR_some]
    rw [enum_rng]
    refine forL_range _ _ (fun m s g1 => (∃ y z, s = [some v, some (.fn q), some (.int most), y, z]) ∧ g1 = g) (fun _ _ _ hh => by rw [hh.2]; exact hk) ?_ (fun s g1 hh => hh) _ _ ⟨⟨none, none, rfl⟩, rfl⟩
    rintro m s g1 hm ⟨⟨y, z, rfl⟩, rfl⟩
    rw [List.length_map] at hm
    have ex : (xs.map f).getD m .non = f xs[m] := by
      simp [List.getD_eq_getElem?_getD, hm]
    have e4 := hq xs[m] (List.getElem_mem hm)
    refine ⟨[some v, some (.fn q), some (.int most), some (.int ((0 + m : Nat) : Int)), some ((xs.map f).getD m .non)], by simp [-List.getD_eq_getElem?_getD], .inl ⟨[some v, some (.fn q), some (.int most), some (.int ((0 + m : Nat) : Int)), some ((xs.map f).getD m .non)], g1, ?_, ⟨_, _, rfl⟩, rfl⟩⟩
    rw [ex]
    simp [e4]
  · rintro s g1 ⟨⟨y, z, rfl⟩, rfl⟩
    have e5 : ¬ (most < (xs.length : Int)) := by omega
    simp [post, e1, e2, e3, e5]
end
end KT
namespace KT
open KN
theorem snap_ins {L : List O} {n k a c : Nat} {ks : List Nat} {xs : List D} (h : ¬ a < n) (h2 : L[a - n]? = some (.ins c ks xs)) (h3 : purs k xs = true) : snap L n (k + 1) (.ref a) = some (.obj c ks xs) := by
  unfold snap
  simp only [if_neg h, h2]
  rw [omap_id fun x hx => snap_pur L n k x ((purs_iff k xs).mp h3 x hx)]
  rfl
theorem exit_ins (g : G) (c : Nat) (ks : List Nat) (xs : List D) (h3 : purs 59 xs = true) : exitD false g (.ref g.length) (g ++ [.ins c ks xs]) = .ok (.obj c ks xs) g :=
  exitD_old g g [.ins c ks xs] (.ref g.length) (.obj c ks xs) rfl (fun a q ha e => .inl e) (snap_ins (by simp) (by simp) h3) (fun h => nomatch h)
/-- a tariff -/
def tar (w : List Int) (st : List (Int × Int)) : D := .obj 0 [6, 7] [.tup (w.map .int), .tup (st.map prD)]
def goodW (w : List Int) : Prop := w.length = 7 ∧ ∀ x ∈ w, 0 ≤ x ∧ x ≤ 99999
def goodS (st : List (Int × Int)) : Prop := st.length ≤ 12 ∧ (∀ p ∈ st, 2 ≤ p.1 ∧ p.1 ≤ 60 ∧ 0 ≤ p.2 ∧ p.2 ≤ 100) ∧ ∀ (i : Nat) (p q : Int × Int), st[i]? = some p → st[i + 1]? = some q → p.1 < q.1
theorem purs_pr (n : Nat) (st : List (Int × Int)) : purs (n + 2) (st.map prD) = true := purs_all fun x hx => by
  obtain ⟨r, _, rfl⟩ := List.mem_map.mp hx
  rfl
section
variable {k : Nat} {g : G} {w : List Int} {st : List (Int × Int)}
theorem tar_pur : pur 60 (tar w st) = true := by
  show purs 59 [.tup (w.map .int), .tup (st.map prD)] = true
  have h1 : pur 59 (.tup (w.map D.int)) = true := purs_ints 57 w
  have h2 : pur 59 (.tup (st.map prD)) = true := purs_pr 56 st
  simp [purs, h1, h2]
theorem is_rate_ok (x : Int) (h : 0 ≤ x ∧ x ≤ 99999) : call (k + 3) 43 [.int x] g = .ok (.bl true) g := by
  rw [call_eq pg43 rfl]
  have e := is_number_ok (k := k) (g := g) (.int x) 0 99999 trivial
  have e2 : numb 0 99999 (.int x) = true := by simp [numb, h]
  rw [e2] at e
  simp [f43, con0, e]
theorem is_step_ok (b : Bool) (p : Int × Int) (h : 2 ≤ p.1 ∧ p.1 ≤ 60 ∧ 0 ≤ p.2 ∧ p.2 ≤ 100) : call (k + 3) 44 [wkD b [.int p.1, .int p.2]] g = .ok (.bl true) g := by
  rw [call_eq pg44 rfl]
  have e1 := is_row_ok (k := k + 1) (g := g) (wkD b [.int p.1, .int p.2]) (wk_flat b _)
  rw [wk_seq] at e1
  have e2 := wk_len (g := g) b [.int p.1, .int p.2]
  have e3 : idxD g (wkD b [.int p.1, .int p.2]) (.int 0) = some (.int p.1) := wk_at b _ (i := 0) rfl
  have e4 : idxD g (wkD b [.int p.1, .int p.2]) (.int 1) = some (.int p.2) := wk_at b _ (i := 1) rfl
  have e5 := is_number_ok (k := k) (g := g) (.int p.1) 2 60 trivial
  rw [show numb 2 60 (.int p.1) = true by simp [numb, h]] at e5
  have e6 := is_number_ok (k := k) (g := g) (.int p.2) 0 100 trivial
  rw [show numb 0 100 (.int p.2) = true by simp [numb, h]] at e6
  simp [f44, con2, con4, e1, e2, e3, e4, e5, e6]
theorem want_week_ok {v : D} (hv : SeqV g v (w.map .int)) (h : goodW w) : call (k + 5) 45 [v] g = .ok (.tup (w.map .int)) g := by
  rw [call_eq pg45 rfl]
  have e1 := is_row_s (k := k + 3) hv
  have e2 := hv.len
  have e3 := want_row_ok (k := k) (g := g) 43 7 w D.int D.int hv (fun x _ => frozen_int x) (fun x hx => is_rate_ok x (h.2 x hx)) (by rw [h.1]; decide) (purs_ints 58 w)
  have e4 : (w.length : Int) = 7 := by rw [h.1]; rfl
  have hp : pur 60 (.tup (w.map D.int)) = true := purs_ints 58 w
  simp [f45, con3, e1, e2, e3, e4, exit_pur hp]
def mpr (m : Bool × (Int × Int)) : D := wkD m.1 [.int m.2.1, .int m.2.2]
theorem want_pers_ok {v : D} (ms : List (Bool × (Int × Int))) (hv : SeqV g v (ms.map mpr)) (h : goodS (ms.map (·.2))) : call (k + 5) 46 [v] g = .ok (.tup ((ms.map (·.2)).map prD)) g := by
  rw [call_eq pg46 rfl]
  have hl : ms.length ≤ 12 := by simpa using h.1
  have e3 := want_row_ok (k := k) (g := g) 44 12 ms mpr (fun m => prD m.2) hv (fun m _ => frozen_pr m.1 m.2) (fun m hm => is_step_ok m.1 m.2 (h.2.1 _ (List.mem_map_of_mem hm))) (by omega) (by
    have := purs_pr 57 (ms.map (·.2))
    rwa [List.map_map] at this)
  have e4 : (ms.map fun m => prD m.2) = (ms.map (·.2)).map prD := by rw [List.map_map]; rfl
  rw [e4] at e3
  generalize hst : ms.map (·.2) = st at h e3 ⊢
  have hn : ms.length = st.length := by rw [← hst]; simp
  refine end_rt (V := fun w g1 => w = .tup (st.map prD) ∧ g1 = g) ?_ (by rintro w g1 ⟨rfl, rfl⟩; exact exit_pur (show purs 59 _ = true from purs_pr 57 st))
  refine post_nx (s1 := [some v, some (.tup (st.map prD)), none]) (g1 := g) (by simp [f46, con1, e3]) ?_
  refine post_cons (N := fun s g1 => (∃ y, s = [some v, some (.tup (st.map prD)), y]) ∧ g1 = g) ?_ (by rintro s g1 ⟨⟨y, rfl⟩, rfl⟩; simp [post])
  have er := evI_r2 (W := fnG (k + 4)) (a := .int 1) (b := .bi .len (.cons (.var 1) .nil)) (s := [some v, some (.tup (st.map prD)), none]) (g := g) (g' := g) (g2 := g) (lo := 1) (hi := st.length) (by simp) (by simp) (by omega) (by omega) (by omega) (by omega)
  rw [evS_for_, er]
  refine forL_post D.int (fun r s g1 => (∀ x ∈ r, x ∈ rangeI 1 st.length) ∧ (∃ y, s = [some v, some (.tup (st.map prD)), y]) ∧ g1 = g) (fun _ _ _ _ => lock_nil _) ?_ (fun s g1 hh => hh.2) _ _ _ ⟨fun x hx => hx, ⟨none, rfl⟩, rfl⟩
  rintro x r s g1 ⟨hr, ⟨y, rfl⟩, rfl⟩
  have hx := mem_rangeI.mp (hr x List.mem_cons_self)
  obtain ⟨n, hxn⟩ : ∃ n : Nat, x = ((n + 1 : Nat) : Int) := ⟨(x - 1).toNat, by omega⟩
  have h1 : n + 1 < st.length := by omega
  have i1 : idxD g1 (.tup (st.map prD)) (.int x) = some (prD st[n + 1]) := by rw [hxn]; exact x_tup _ _ (by simp [h1])
  have i2 : idxD g1 (.tup (st.map prD)) (.int (x - 1)) = some (prD st[n]) := by rw [show x - 1 = (n : Nat) by omega]; exact x_tup _ _ (by simp [show n < st.length by omega])
  have lt := h.2.2 n st[n] st[n + 1] (by simp [show n < st.length by omega]) (by simp [h1])
  have lt' : ¬ (st[n + 1].1 ≤ st[n].1) := by omega
  refine ⟨[some v, some (.tup (st.map prD)), some (.int x)], by simp, .inl ⟨[some v, some (.tup (st.map prD)), some (.int x)], g1, ?_, fun z hz => hr z (List.mem_cons_of_mem _ hz), ⟨_, rfl⟩, rfl⟩⟩
  have e7 : ∀ p : Int × Int, idxD g1 (prD p) (.int 0) = some (.int p.1) := fun p => rfl
  simp [lt', i1, i2, e7]
theorem tar_init {v u : D} (ms : List (Bool × (Int × Int))) (hv : SeqV g v (w.map .int)) (hu : SeqV g u (ms.map mpr)) (hw : goodW w) (h : goodS (ms.map (·.2))) : call (k + 6) 48 [.ref g.length, v, u] (g ++ [.ins 0 [] []]) = .ok .non (g ++ [.ins 0 [6, 7] [.tup (w.map .int), .tup ((ms.map (·.2)).map prD)]]) := by
  rw [call_eq pg48 rfl]
  have e1 := fun X => want_week_ok (k := k) (svApp hv [X]) hw
  have e2 := fun X => want_pers_ok (k := k) ms (svApp hu [X]) h
  simp [f48, e1, e2, putA, cls0, putFl, exitD_len]
theorem tar_new {v u : D} (ms : List (Bool × (Int × Int))) (hv : SeqV g v (w.map .int)) (hu : SeqV g u (ms.map mpr)) (hw : goodW w) (h : goodS (ms.map (·.2))) : newD (fnG (k + 6)) false 0 [v, u] g = .ok (tar w (ms.map (·.2))) g := by
  have e := tar_init (k := k) (g := g) ms hv hu hw h
  unfold newD
  simp only [cls0, e]
  exact exit_ins g 0 _ _ (by
    have h1 : pur 59 (.tup (w.map D.int)) = true := purs_ints 57 w
    have h2 : pur 59 (.tup ((ms.map (·.2)).map prD)) = true := purs_pr 56 _
    simp [purs, h1, h2, -List.map_map])
end
end KT

namespace KT
open KN
/-- the percent that is taken off -/
def offP (st : List (Int × Int)) (n : Int) : Int := st.foldl (fun a p => if p.1 ≤ n then p.2 else a) 0
def ratesP (w : List Int) (d n : Nat) : Int := ((n / 7 : Nat) : Int) * w.sum + ((List.range (n % 7)).map fun k => w.getD ((d + k) % 7) 0).sum
/-- the price of a stay -/
def pts (w : List Int) (st : List (Int × Int)) (d n : Nat) : Int := ratesP w d n * (100 - offP st n)
theorem off_fold {st : List (Int × Int)} (h : ∀ p ∈ st, 0 ≤ p.2 ∧ p.2 ≤ 100) (n : Int) : ∀ a : Int, 0 ≤ a ∧ a ≤ 100 → 0 ≤ st.foldl (fun a p => if p.1 ≤ n then p.2 else a) a ∧ st.foldl (fun a p => if p.1 ≤ n then p.2 else a) a ≤ 100 := by
  induction st with
  | nil => exact fun a h => h
  | cons p st ih =>
    intro a ha
    rw [List.foldl_cons]
    refine ih (fun q hq => h q (List.mem_cons_of_mem _ hq)) _ ?_
    have := h p List.mem_cons_self
    split <;> assumption
theorem off_rng {st : List (Int × Int)} (h : goodS st) (n : Int) : 0 ≤ offP st n ∧ offP st n ≤ 100 := off_fold (fun p hp => (h.2.1 p hp).2.2) n 0 (by omega)
theorem sum_rng : ∀ {w : List Int}, (∀ x ∈ w, 0 ≤ x ∧ x ≤ 99999) → 0 ≤ w.sum ∧ w.sum ≤ 99999 * w.length
  | [], _ => by simp
  | x :: w, h => by
    have h1 := h x List.mem_cons_self
    have h2 := sum_rng (w := w) fun y hy => h y (List.mem_cons_of_mem _ hy)
    simp only [List.sum_cons, List.length_cons]
    omega
theorem goodW.sum {w : List Int} (h : goodW w) : 0 ≤ w.sum ∧ w.sum ≤ 699993 := by
  have := sum_rng h.2
  rw [h.1] at this
  omega
theorem small_lt {x : Int} (h : -1000000000000 ≤ x ∧ x ≤ 1000000000000) : small x := by unfold small; omega
section
variable {k : Nat} {g : G} {w : List Int} {st : List (Int × Int)}
theorem fld6 : getF (fnG k) 6 (tar w st) g = .ok (.tup (w.map .int)) g := rfl
theorem fld7 : getF (fnG k) 7 (tar w st) g = .ok (.tup (st.map prD)) g := rfl
theorem mth1 : methD (fnG k) g (tar w st) 1 = some 51 := rfl
theorem mth2 : methD (fnG k) g (tar w st) 2 = some 52 := rfl
theorem mth3 : methD (fnG k) g (tar w st) 3 = some 53 := rfl
theorem percent_ok (n : Int) : call (k + 1) 47 [.tup (st.map prD), .int n] g = .ok (.int (offP st n)) g := by
  rw [call_eq pg47 rfl]
  refine end_rt (V := fun v g1 => v = .int (offP st n) ∧ g1 = g) ?_ (by rintro v g1 ⟨rfl, rfl⟩; exact exit_pur rfl)
  refine post_nx (s1 := [some (.tup (st.map prD)), some (.int n), some (.int 0), none, none]) (g1 := g) (by simp [f47]) ?_
  refine post_cons (N := fun s g1 => (∃ y z, s = [some (.tup (st.map prD)), some (.int n), some (.int (offP st n)), y, z]) ∧ g1 = g) ?_ (by rintro s g1 ⟨⟨y, z, rfl⟩, rfl⟩; simp [post])
  simp only [evS_for_, evI_seq, evE_var, List.getElem?_cons_succ, List.getElem?_cons_zero, R.bind_ok, show srcD g (.tup (st.map prD)) = some (st.map prD, []) from rfl, oR_some]
  refine forL_post prD (fun r s g1 => (∃ a y z, s = [some (.tup (st.map prD)), some (.int n), some (.int a), y, z] ∧ r.foldl (fun a p => if p.1 ≤ n then p.2 else a) a = offP st n) ∧ g1 = g) (fun _ _ _ _ => lock_nil _) ?_ ?_ _ _ _ ⟨⟨0, none, none, rfl, rfl⟩, rfl⟩
  · rintro p r s g1 ⟨⟨a, y, z, rfl, e⟩, rfl⟩
    rw [List.foldl_cons] at e
    refine ⟨[some (.tup (st.map prD)), some (.int n), some (.int a), some (.int p.1), some (.int p.2)], by simp [prD], .inl ?_⟩
    by_cases c : p.1 ≤ n
    · rw [if_pos c] at e
      exact ⟨[some (.tup (st.map prD)), some (.int n), some (.int p.2), some (.int p.1), some (.int p.2)], g1, by simp [c], ⟨_, _, _, rfl, e⟩, rfl⟩
    · rw [if_neg c] at e
      exact ⟨[some (.tup (st.map prD)), some (.int n), some (.int a), some (.int p.1), some (.int p.2)], g1, by simp [c], ⟨_, _, _, rfl, e⟩, rfl⟩
  · rintro s g1 ⟨⟨a, y, z, rfl, e⟩, rfl⟩
    exact ⟨⟨y, z, by rw [← e]; rfl⟩, rfl⟩
theorem left_ok (n : Int) : call (k + 2) 51 [tar w st, .int n] g = .ok (.int (100 - offP st n)) g := by
  rw [call_eq pg51 rfl]
  simp [f51, con4, fld7, percent_ok]
theorem wk_get (hw : goodW w) (d : Nat) : idxD g (.tup (w.map .int)) (.int ((d % 7 : Nat) : Int)) = some (.int (w.getD (d % 7) 0)) := by
  have h : d % 7 < w.length := by rw [hw.1]; exact Nat.mod_lt _ (by decide)
  exact x_tup _ _ (by simp [List.getD_eq_getElem?_getD, h])
theorem fmod_nat (a b : Nat) : (a : Int).fmod (b : Int) = ((a % b : Nat) : Int) := by
  rw [Int.fmod_eq_emod_of_nonneg _ (by omega)]; rfl
theorem wk_gete (hw : goodW w) (d m : Nat) : idxD g (.tup (w.map .int)) (.int (((d : Int) + (m : Int)) % 7)) = some (.int (w.getD ((d + m) % 7) 0)) := by
  have := wk_get (g := g) hw (d + m)
  rw [Int.natCast_emod, Int.natCast_add] at this
  exact this
theorem rates_key (hw : goodW w) (d n q r : Nat) (hr : r < 7) (e1 : biD .divmod g [.int (n : Nat), .int 7] = some (.tup [.int (q : Nat), .int (r : Nat)])) : call (k + 1) 52 [tar w st, .int (d : Nat), .int (n : Nat)] g = .ok (.int ((q : Int) * w.sum + ((List.range r).map fun k => w.getD ((d + k) % 7) 0).sum)) g := by
  rw [call_eq pg52 rfl]
  have hs := hw.sum
  have er := evI_rN (W := fnG k) (a := .var 4) (s := [some (tar w st), some (.int (d : Nat)), some (.int (n : Nat)), some (.int (q : Nat)), some (.int (r : Nat)), none]) (g := g) (g' := g) (n := r) (by simp) (lim_le (by omega))
  have e2 : compL (.name 5) [] (evCs (fnG k) .no) (evE (fnG k) (.idx (.fld (.var 0) 6) (.bin .mod (.bin .add (.var 1) (.var 5)) (.con 3)))) ((List.range r).map fun k => D.int (k : Nat)) [some (tar w st), some (.int (d : Nat)), some (.int (n : Nat)), some (.int (q : Nat)), some (.int (r : Nat)), none] g = .ok (((List.range r).map fun k => w.getD ((d + k) % 7) 0).map .int) g := by
    rw [comp_pure (fun k : Nat => D.int (k : Nat)) (fun _ => true) (fun k => D.int (w.getD ((d + k) % 7) 0)) (List.range r) (lock_nil _) fun m _ => ⟨[some (tar w st), some (.int (d : Nat)), some (.int (n : Nat)), some (.int (q : Nat)), some (.int (r : Nat)), some (.int (m : Nat))], by simp, by simp, fun _ => by
      have e3 : ((d : Int) + (m : Int)).fmod 7 = ((d : Int) + (m : Int)) % 7 := Int.fmod_eq_emod_of_nonneg _ (by omega)
      simp [-List.getD_eq_getElem?_getD, con3, fld6, b_mod _ _ 7 (by decide), e3, wk_gete hw]⟩]
    simp
  generalize ((List.range r).map fun k => w.getD ((d + k) % 7) 0) = l at e2 ⊢
  simp [-List.getD_eq_getElem?_getD, f52, con3, e1, er, fld6, i_sumT, b_mul _ _ _ (.inr (small_lt (x := w.sum) (by omega))), e2, mkC, i_sum]
theorem rates_ok (hw : goodW w) (d n : Nat) : call (k + 1) 52 [tar w st, .int (d : Nat), .int (n : Nat)] g = .ok (.int (ratesP w d n)) g := 
  rates_key hw d n (n / 7) (n % 7) (Nat.mod_lt _ (by decide)) (by simp only [biD]; rw [if_pos (by decide)]; rfl)
theorem points_ok (hw : goodW w) (hs : goodS st) (d n : Nat) : call (k + 3) 53 [tar w st, .int (d : Nat), .int (n : Nat)] g = .ok (.int (pts w st d n)) g := by
  rw [call_eq pg53 rfl]
  have e1 := rates_ok (k := k + 1) (g := g) (st := st) hw d n
  have e2 := left_ok (k := k) (g := g) (w := w) (st := st) n
  have ho := off_rng hs n
  simp [f53, mth1, mth2, e1, e2, b_mul _ _ _ (.inr (small_lt (x := 100 - offP st n) (by omega))), pts]
end
end KT
namespace KT
open KN
abbrev Tar := List Int × List (Int × Int)
def Tar.good (a : Tar) : Prop := goodW a.1 ∧ goodS a.2
def tarT (a : Tar) : D := tar a.1 a.2
def steadyN (st : List (Int × Int)) : Nat := match st.getLast? with
  | some p => p.1.toNat
  | none => 1
def dif (a b : Tar) (d n : Nat) : Int := pts a.1 a.2 d n - pts b.1 b.2 d n
def sfN (a b : Tar) : Nat := max (steadyN a.2) (steadyN b.2)
def driftP (a b : Tar) : Int := a.1.sum * (100 - offP a.2 (sfN a b)) - b.1.sum * (100 - offP b.2 (sfN a b))
def fpI (v dr : Int) : Int := if 0 < v then 0 else (-v).fdiv dr + 1
/-! ### the plain law -/
theorem steady_ge {st : List (Int × Int)} (h : goodS st) {p : Int × Int} (hp : p ∈ st) : p.1 ≤ (steadyN st : Nat) := by
  obtain ⟨i, hi, rfl⟩ := List.getElem_of_mem hp
  have mono : ∀ (j : Nat) (hj : i + j < st.length), st[i].1 ≤ st[i + j].1 := by
    intro j
    induction j with
    | zero => intro _; exact Int.le_refl _
    | succ j ih =>
      intro hj
      have h1 := ih (by omega)
      have h2 := h.2.2 (i + j) st[i + j] st[i + (j + 1)] (by simp [show i + j < st.length by omega]) (by rw [List.getElem?_eq_getElem]; rfl)
      omega
  have h1 := mono (st.length - 1 - i) (by omega)
  have e : st.getLast? = some st[st.length - 1] := by rw [List.getLast?_eq_getElem?, List.getElem?_eq_getElem]
  unfold steadyN
  rw [e]
  have h2 := (h.2.1 st[st.length - 1] (List.getElem_mem _)).1
  have e2 : i + (st.length - 1 - i) = st.length - 1 := by omega
  simp only [e2] at h1
  simp only
  omega
theorem steady_rng {st : List (Int × Int)} (h : goodS st) : 1 ≤ steadyN st ∧ steadyN st ≤ 60 := by
  unfold steadyN
  cases e : st.getLast? with
  | none => exact ⟨Nat.le_refl _, by decide⟩
  | some p =>
    have := h.2.1 p (List.mem_of_getLast? e)
    simp only
    omega
theorem off_stable {st : List (Int × Int)} (h : goodS st) {n m : Int} (hn : (steadyN st : Int) ≤ n) (hm : (steadyN st : Int) ≤ m) : offP st n = offP st m := by
  have hs := fun p (hp : p ∈ st) => steady_ge h hp
  unfold offP
  generalize (0 : Int) = a
  have key : ∀ (l : List (Int × Int)), (∀ p ∈ l, p.1 ≤ n ∧ p.1 ≤ m) → ∀ a : Int, l.foldl (fun a p => if p.1 ≤ n then p.2 else a) a = l.foldl (fun a p => if p.1 ≤ m then p.2 else a) a := by
    intro l
    induction l with
    | nil => intro _ a; rfl
    | cons p l ih =>
      intro hl a
      have := hl p List.mem_cons_self
      rw [List.foldl_cons, List.foldl_cons, if_pos this.1, if_pos this.2]
      exact ih (fun q hq => hl q (List.mem_cons_of_mem _ hq)) _
  exact key st (fun p hp => by have := hs p hp; omega) a
theorem rates_add (w : List Int) (d n q : Nat) : ratesP w d (n + 7 * q) = ratesP w d n + (q : Int) * w.sum := by
  unfold ratesP
  rw [Nat.add_mul_mod_self_left, Nat.add_mul_div_left _ _ (by decide), Int.natCast_add, Int.add_mul]
  omega
theorem dif_add {a b : Tar} (ha : a.good) (hb : b.good) {n : Nat} (hn : sfN a b ≤ n) (d q : Nat) : dif a b d (n + 7 * q) = dif a b d n + (q : Int) * driftP a b := by
  unfold sfN at hn
  have a1 := off_stable ha.2 (n := ((n + 7 * q : Nat) : Int)) (m := (sfN a b : Nat)) (by omega) (by unfold sfN; omega)
  have a2 := off_stable ha.2 (n := ((n : Nat) : Int)) (m := (sfN a b : Nat)) (by omega) (by unfold sfN; omega)
  have b1 := off_stable hb.2 (n := ((n + 7 * q : Nat) : Int)) (m := (sfN a b : Nat)) (by omega) (by unfold sfN; omega)
  have b2 := off_stable hb.2 (n := ((n : Nat) : Int)) (m := (sfN a b : Nat)) (by omega) (by unfold sfN; omega)
  unfold dif pts driftP
  rw [a1, a2, b1, b2, rates_add, rates_add]
  generalize (100 - offP a.2 (sfN a b : Nat)) = x
  generalize (100 - offP b.2 (sfN a b : Nat)) = y
  rw [Int.add_mul, Int.add_mul, Int.mul_sub, Int.mul_assoc, Int.mul_assoc]
  omega
theorem fp_pos {v dr : Int} (h : 0 < dr) : 0 ≤ fpI v dr ∧ 0 < v + fpI v dr * dr := by
  unfold fpI
  by_cases c : 0 < v
  · rw [if_pos c]; omega
  · rw [if_neg c]
    have e : (-v).fdiv dr = (-v) / dr := Int.fdiv_eq_ediv_of_nonneg _ (by omega)
    rw [e]
    have h1 : 0 ≤ (-v) / dr := Int.ediv_nonneg (by omega) (by omega)
    have h2 := Int.lt_ediv_add_one_mul_self (-v) h
    omega
/-- no stay is dearer -/
def Never (a b : Tar) : Prop := ∀ n d : Nat, 1 ≤ n → d < 7 → dif a b d n ≤ 0
theorem never_of {a b : Tar} (ha : a.good) (hb : b.good) (h1 : ∀ n d : Nat, 1 ≤ n → n < sfN a b + 7 → d < 7 → dif a b d n ≤ 0) (h2 : driftP a b ≤ 0) : Never a b := by
  intro n d hn hd
  by_cases c : n < sfN a b + 7
  · exact h1 n d hn c hd
  · have hs := steady_rng ha.2
    have e : n = (sfN a b + (n - sfN a b) % 7) + 7 * ((n - sfN a b) / 7) := by
      have := Nat.div_add_mod (n - sfN a b) 7
      omega
    have hm := Nat.mod_lt (n - sfN a b) (show 0 < 7 by decide)
    have e2 := dif_add ha hb (n := sfN a b + (n - sfN a b) % 7) (Nat.le_add_right _ _) d ((n - sfN a b) / 7)
    rw [← e] at e2
    rw [e2]
    have h3 := h1 (sfN a b + (n - sfN a b) % 7) d (by unfold sfN; omega) (by omega) hd
    have h4 : (((n - sfN a b) / 7 : Nat) : Int) * driftP a b ≤ 0 := Int.mul_nonpos_of_nonneg_of_nonpos (by omega) h2
    omega
end KT
namespace KT
open KN
theorem end_ex {g : G} {x : F} {V : D → Prop} (h : post (fun _ _ => False) (fun v g1 => V v ∧ pur 60 v = true ∧ ∃ L, g1 = g ++ L) (fun _ _ => False) x) : ∃ v, endF false g x = .ok v g ∧ V v := by
  rcases post_cases h with ⟨_, _, _, hh⟩ | ⟨v, g1, rfl, hv, hp, L, rfl⟩ | ⟨_, _, _, _, hh⟩
  · exact hh.elim
  · exact ⟨v, exitD_pur g L v hp, hv⟩
  · exact hh.elim
theorem x_tupN {g : G} {xs : List D} {d : D} (h : xs.getLast? = some d) : idxD g (.tup xs) (.int (-1)) = some d := by
  have hl : 0 < xs.length := by
    cases xs with
    | nil => simp at h
    | cons x xs => simp
  have e : ixn xs.length (-1) = some (xs.length - 1) := by
    unfold ixn
    rw [if_neg (by omega), if_pos (by omega)]
    congr 1
    omega
  show (ixn xs.length (-1)).bind (fun j => xs[j]?) = _
  rw [e, Option.bind_some, ← List.getLast?_eq_getElem?, h]
section
variable {k : Nat} {g : G} {a b : Tar}
theorem steady_ok (ha : a.good) : call (k + 1) 50 [tarT a] g = .ok (.int (steadyN a.2 : Nat)) g := by
  rw [call_eq pg50 rfl]
  unfold steadyN tarT
  cases e : a.2.getLast? with
  | none =>
    have e0 : a.2 = [] := List.getLast?_eq_none_iff.mp e
    simp [f50, fld7, e0]
  | some p =>
    have e1 : idxD g (.tup (a.2.map prD)) (.int (-1)) = some (prD p) := x_tupN (by rw [List.getLast?_map, e]; rfl)
    have hp := ha.2.2.1 p (List.mem_of_getLast? e)
    have e2 : idxD g (prD p) (.int 0) = some (.int p.1) := rfl
    have e3 : 0 < a.2.length := List.length_pos_iff.mpr (List.ne_nil_of_mem (List.mem_of_getLast? e))
    have e4 : ((p.1.toNat : Nat) : Int) = p.1 := by omega
    simp only [e4]
    simp [f50, fld7, e1, e2, e3]
theorem fld5 (ha : a.good) : getF (fnG (k + 1)) 5 (tarT a) g = .ok (.int (steadyN a.2 : Nat)) g := by
  have e := steady_ok (k := k) (g := g) ha
  show (match call (k + 1) 50 [tarT a] g with | R.ok d g => R.ok d g | _ => R.st) = _
  rw [e]
end
end KT
namespace KT
open KN
def rawD (a : Tar) : D := .tup [.lst (a.1.map .int), .lst (a.2.map prD)]
/-- the data of a tariff, its percents at a place or not -/
def rawV (g : G) (v : D) (a : Tar) : Prop := ∃ u, v = .tup [.lst (a.1.map .int), u] ∧ SeqV g u (a.2.map prD)
theorem x_lstN {g : G} {xs : List D} {d : D} (h : xs.getLast? = some d) : idxD g (.lst xs) (.int (-1)) = some d := x_tupN (g := g) h
theorem off_last (n : Int) : ∀ (st : List (Int × Int)) (a : Int), (a :: (st.filter fun p => decide (p.1 ≤ n)).map (·.2)).getLast? = some (st.foldl (fun a p => if p.1 ≤ n then p.2 else a) a)
  | [], a => rfl
  | p :: st, a => by
    rw [List.foldl_cons]
    by_cases c : p.1 ≤ n
    · rw [if_pos c, List.filter_cons_of_pos (by simpa using c), List.map_cons, List.getLast?_cons_cons]
      exact off_last n st p.2
    · rw [if_neg c, List.filter_cons_of_neg (by simpa using c)]
      exact off_last n st a
section
variable {k : Nat} {g : G} {a b : Tar}
theorem lpoints_ok {v : D} (hv : rawV g v a) (ha : a.good) (d n : Nat) : call (k + 1) 1027 [v, .int (d : Nat), .int (n : Nat)] g = .ok (.int (pts a.1 a.2 d n)) g := by
  suffices key : ∀ q r : Nat, r < 7 → q = n / 7 → r = n % 7 → (n : Int).fdiv 7 = (q : Nat) → (n : Int).fmod 7 = (r : Nat) → call (k + 1) 1027 [v, .int (d : Nat), .int (n : Nat)] g = .ok (.int (pts a.1 a.2 d n)) g by
    refine key (n / 7) (n % 7) (Nat.mod_lt _ (by decide)) rfl rfl ?_ ?_
    · rw [Int.fdiv_eq_ediv_of_nonneg _ (by omega)]; rfl
    · exact fmod_nat n 7
  intro q r hr hq hr' eq1 eq2
  obtain ⟨u, rfl, hu⟩ := hv
  obtain ⟨lk, hs0, hk⟩ := hu.src
  have hs1 : seqI u g = .ok (a.2.map prD, lk) g := by show oR (srcD g u) g = _; rw [hs0]; rfl
  have hs := ha.1.sum
  have ho := off_rng ha.2 (n : Nat)
  rw [call_eq pg1027 rfl]
  refine end_rt (V := fun w g1 => w = .int (pts a.1 a.2 d n) ∧ g1 = g) ?_ (by rintro w g1 ⟨rfl, rfl⟩; exact exit_pur rfl)
  have ec : compL (.tup [4, 5]) lk (evCs (fnG k) (.yes (.cmp .le (.var 4) (.var 2)))) (evE (fnG k) (.var 5)) (a.2.map prD) [some (.tup [.lst (a.1.map .int), u]), some (.int (d : Nat)), some (.int (n : Nat)), none, none, none, none, none] g = .ok (((a.2.filter fun p => decide (p.1 ≤ ((n : Nat) : Int))).map (·.2)).map .int) g := by
    rw [comp_pure prD (fun p => decide (p.1 ≤ ((n : Nat) : Int))) (fun p => D.int p.2) a.2 hk fun m _ => ⟨[some (.tup [.lst (a.1.map .int), u]), some (.int (d : Nat)), some (.int (n : Nat)), none, some (.int m.1), some (.int m.2), none, none], by simp [prD], by simp, fun _ => by simp⟩]
    rw [List.map_map]; rfl
  have hfl : ((a.2.filter fun p => decide (p.1 ≤ ((n : Nat) : Int))).map (·.2)).length ≤ 12 := by
    rw [List.length_map]
    exact Nat.le_trans (List.length_filter_le _ _) ha.2.1
  have hlast := off_last (n : Nat) a.2 0
  generalize ((a.2.filter fun p => decide (p.1 ≤ ((n : Nat) : Int))).map (·.2)) = l at ec hfl hlast
  have e1 : evS (fnG k) (.set 3 (.idx (.bin .add (.lst false (.cons (.int 0) .nil)) (.comp false (.var 5) (.tup [4, 5]) (.seq (.idx (.var 0) (.int 1))) (.yes (.cmp .le (.var 4) (.var 2))))) (.neg (.int 1)))) [some (.tup [.lst (a.1.map .int), u]), some (.int (d : Nat)), some (.int (n : Nat)), none, none, none, none, none] g = .nx [some (.tup [.lst (a.1.map .int), u]), some (.int (d : Nat)), some (.int (n : Nat)), some (.int (offP a.2 n)), none, none, none, none] g := by
    have i1 : idxD g (.tup [.lst (a.1.map .int), u]) (.int 1) = some u := rfl
    have i2 : binD .add g (.lst [.int 0]) (.lst (l.map .int)) = some (.lst ((0 :: l).map .int)) := b_cat _ _ _ (lim_le (by simp; omega))
    have i3 : idxD g (.lst ((0 :: l).map D.int)) (.int (-1)) = some (.int (offP a.2 n)) := x_lstN (by rw [List.getLast?_map, hlast]; rfl)
    have i4 : (1 : Nat) ≤ LIM := lim_le (by omega)
    simp only [List.map_cons] at i2 i3
    simp [mkL, i1, hs1, ec, mkC, i2, i3, i4]
  refine post_nx e1 ?_
  have i5 : idxD g (.tup [.lst (a.1.map .int), u]) (.int 0) = some (.lst (a.1.map .int)) := rfl
  refine post_nx (s1 := [some (.tup [.lst (a.1.map .int), u]), some (.int (d : Nat)), some (.int (n : Nat)), some (.int (offP a.2 n)), none, none, some (.int ((q : Int) * a.1.sum)), none]) (g1 := g) (by simp [i5, i_sum, b_fdiv _ _ 7 (by decide), eq1, b_mul _ _ _ (.inl (small_lt (x := a.1.sum) (by omega))), Int.mul_comm]) ?_
  refine post_cons (N := fun s g1 => (∃ x, s = [some (.tup [.lst (a.1.map .int), u]), some (.int (d : Nat)), some (.int (n : Nat)), some (.int (offP a.2 n)), none, none, some (.int (ratesP a.1 d n)), x]) ∧ g1 = g) ?_ ?_
  · have er := evI_rN (W := fnG k) (a := .bin .mod (.bi .int (.cons (.var 2) .nil)) (.int 7)) (s := [some (.tup [.lst (a.1.map .int), u]), some (.int (d : Nat)), some (.int (n : Nat)), some (.int (offP a.2 n)), none, none, some (.int ((q : Int) * a.1.sum)), none]) (g := g) (g' := g) (n := r) (by simp [b_mod _ _ 7 (by decide), eq2]) (lim_le (by omega))
    rw [evS_for_, er]
    refine forL_range _ _ (fun m s g1 => (∃ x, s = [some (.tup [.lst (a.1.map .int), u]), some (.int (d : Nat)), some (.int (n : Nat)), some (.int (offP a.2 n)), none, none, some (.int ((q : Int) * a.1.sum + ((List.range m).map fun k => a.1.getD ((d + k) % 7) 0).sum)), x]) ∧ g1 = g) (fun _ _ _ _ => lock_nil _) ?_ ?_ _ _ ⟨⟨none, by simp⟩, rfl⟩
    · rintro m s g1 hm ⟨⟨x, rfl⟩, rfl⟩
      refine ⟨[some (.tup [.lst (a.1.map .int), u]), some (.int (d : Nat)), some (.int (n : Nat)), some (.int (offP a.2 n)), none, none, some (.int ((q : Int) * a.1.sum + ((List.range m).map fun k => a.1.getD ((d + k) % 7) 0).sum)), some (.int (m : Nat))], by simp, .inl ⟨[some (.tup [.lst (a.1.map .int), u]), some (.int (d : Nat)), some (.int (n : Nat)), some (.int (offP a.2 n)), none, none, some (.int ((q : Int) * a.1.sum + ((List.range (m + 1)).map fun k => a.1.getD ((d + k) % 7) 0).sum)), some (.int (m : Nat))], g1, ?_, ⟨_, rfl⟩, rfl⟩⟩
      have e3 : ((d : Int) + (m : Int)).fmod 7 = ((d : Int) + (m : Int)) % 7 := Int.fmod_eq_emod_of_nonneg _ (by omega)
      have e4 : idxD g1 (.lst (a.1.map .int)) (.int (((d : Int) + (m : Int)) % 7)) = some (.int (a.1.getD ((d + m) % 7) 0)) := wk_gete (g := g1) ha.1 d m
      rw [List.range_succ, List.map_append, List.sum_append]
      generalize ((List.range m).map fun k => a.1.getD ((d + k) % 7) 0).sum = t
      simp [-List.getD_eq_getElem?_getD, i5, b_mod _ _ 7 (by decide), e3, e4, Int.add_assoc]
    · rintro s g1 ⟨⟨x, rfl⟩, rfl⟩
      exact ⟨⟨x, by unfold ratesP; rw [← hq, ← hr']⟩, rfl⟩
  · rintro s g1 ⟨⟨x, rfl⟩, rfl⟩
    simp [post, b_mul _ _ _ (.inr (small_lt (x := 100 - offP a.2 n) (by omega))), pts]
end
end KT
namespace KT
open KN
def prow (m a : Nat) : List (Int × Int) := (List.range m).map fun b : Nat => ((a : Int), (b : Int))
def prs (f m : Nat) : List (Int × Int) := ((List.range f).map (prow m)).flatten
theorem prs_succ (f m : Nat) : prs (f + 1) m = prs f m ++ prow m f := by
  unfold prs
  rw [List.range_succ, List.map_append, List.flatten_append]
  simp
theorem prs_len (f m : Nat) : (prs f m).length = f * m := by
  induction f with
  | zero => simp [prs]
  | succ f ih => rw [prs_succ, List.length_append, ih, Nat.succ_mul]; simp [prow]
theorem prs_mem {f m : Nat} {p : Int × Int} (h : p ∈ prs f m) : ∃ n d : Nat, p = ((n : Int), (d : Int)) ∧ n < f ∧ d < m := by
  unfold prs prow at h
  simp only [List.mem_flatten, List.mem_map, List.mem_range] at h
  obtain ⟨l, ⟨n, hn, rfl⟩, h⟩ := h
  simp only [List.mem_map, List.mem_range] at h
  obtain ⟨d, hd, rfl⟩ := h
  exact ⟨n, d, rfl, hn, hd⟩
section
variable {k : Nat} {g : G}
theorem pairs_ok (f m : Nat) (hf : f ≤ 100) (hm : m ≤ 40) : call (k + 1) 1028 [.int (f : Nat), .int (m : Nat)] g = .ok (.lst ((prs f m).map prD)) g := by
  rw [call_eq pg1028 rfl]
  refine end_rt (V := fun v g1 => v = .lst ((prs f m).map prD) ∧ g1 = g) ?_ (by rintro v g1 ⟨rfl, rfl⟩; exact exit_pur (show purs 59 _ = true from purs_pr 57 _))
  have h0 : (0 : Nat) ≤ LIM := Nat.zero_le _
  refine post_nx (s1 := [some (.int (f : Nat)), some (.int (m : Nat)), some (.lst []), none, none]) (g1 := g) (by simp [f1028, mkL, h0]) ?_
  refine post_cons (N := fun s g1 => (∃ x y, s = [some (.int (f : Nat)), some (.int (m : Nat)), some (.lst ((prs f m).map prD)), x, y]) ∧ g1 = g) ?_ (by rintro s g1 ⟨⟨x, y, rfl⟩, rfl⟩; simp [post])
  have er := evI_rN (W := fnG k) (a := .var 0) (s := [some (.int (f : Nat)), some (.int (m : Nat)), some (.lst []), none, none]) (g := g) (g' := g) (n := f) (by simp) (lim_le (by omega))
  rw [evS_for_, er]
  refine forL_range _ _ (fun i s g1 => (∃ x y, s = [some (.int (f : Nat)), some (.int (m : Nat)), some (.lst ((prs i m).map prD)), x, y]) ∧ g1 = g) (fun _ _ _ _ => lock_nil _) ?_ (fun s g1 hh => hh) _ _ ⟨⟨none, none, rfl⟩, rfl⟩
  rintro i s g1 hi ⟨⟨x, y, rfl⟩, rfl⟩
  refine ⟨[some (.int (f : Nat)), some (.int (m : Nat)), some (.lst ((prs i m).map prD)), some (.int (i : Nat)), y], by simp, .inl ⟨[some (.int (f : Nat)), some (.int (m : Nat)), some (.lst ((prs (i + 1) m).map prD)), some (.int (i : Nat)), y], g1, ?_, ⟨_, _, rfl⟩, rfl⟩⟩
  have er2 := evI_rN (W := fnG k) (a := .var 1) (s := [some (.int (f : Nat)), some (.int (m : Nat)), some (.lst ((prs i m).map prD)), some (.int (i : Nat)), y]) (g := g1) (g' := g1) (n := m) (by simp) (lim_le (by omega))
  have e2 : compL (.name 4) [] (evCs (fnG k) .no) (evE (fnG k) (.tup (.cons (.var 3) (.cons (.var 4) .nil)))) ((List.range m).map fun k => D.int (k : Nat)) [some (.int (f : Nat)), some (.int (m : Nat)), some (.lst ((prs i m).map prD)), some (.int (i : Nat)), y] g1 = .ok ((prow m i).map prD) g1 := by
    rw [comp_pure (fun k : Nat => D.int (k : Nat)) (fun _ => true) (fun b : Nat => prD ((i : Int), (b : Int))) (List.range m) (lock_nil _) fun z _ => ⟨[some (.int (f : Nat)), some (.int (m : Nat)), some (.lst ((prs i m).map prD)), some (.int (i : Nat)), some (.int (z : Nat))], by simp, by simp, fun _ => by simp [prD]⟩]
    simp [prow]
  have hl : (prs i m).length + (prow m i).length ≤ LIM := by
    refine lim_le ?_
    rw [prs_len]
    have : i * m ≤ 100 * 40 := Nat.mul_le_mul (by omega) hm
    simp [prow]; omega
  have e3 : binD .add g1 (.lst ((prs i m).map prD)) (.lst ((prow m i).map prD)) = some (.lst ((prs (i + 1) m).map prD)) := by
    rw [prs_succ, List.map_append]
    exact b_cat _ _ _ (by simpa using hl)
  generalize (prs i m).map prD = A at *
  generalize (prow m i).map prD = B at *
  generalize (prs (i + 1) m).map prD = C at *
  simp [er2, e2, mkC, e3]
theorem exit_pair (o o' : O) (L : G) (x : D) (xs : List D) (ho : ∀ n, lowO n o' = true) (h1 : pur 59 x = true) (h3 : purs 58 xs = true) : exitD false (o :: L) (.tup [x, .ref (L.length + 1)]) (o' :: (L ++ [.lst xs])) = .ok (.tup [x, .lst xs]) (o' :: L) := by
  refine exitD_old (o :: L) (o' :: L) [.lst xs] (.tup [x, .ref (L.length + 1)]) (.tup [x, .lst xs]) rfl (fun a q ha e => by
    cases a with
    | zero => cases e; exact .inr (ho _)
    | succ a => exact .inl e) ?_ (fun h => nomatch h)
  have e1 := snap_pur [.lst xs] (o :: L).length 59 x h1
  have e2 : snap [.lst xs] (o :: L).length 59 (.ref (L.length + 1)) = some (.lst xs) := snap_lst (by simp) (by simp) h3
  rw [snap]
  simp only [omap, e1, e2]
  rfl
/-- _law_tariff -/
theorem ltariff_x (r : Row) (top : Int) (L : G) (hp : 0 ≤ r.pos) (h0 : 0 ≤ top) (h1 : top ≤ 99999) : ∃ (a : Tar) (r' : Row), call (k + 4) 1026 [.ref 0, .int top, .int 3] (rowO r :: L) = .ok (rawD a) (rowO r' :: L) ∧ 0 ≤ r'.pos ∧ a.1.length = 7 ∧ (∀ x ∈ a.1, 0 ≤ x ∧ x ≤ top) ∧ a.2.length ≤ 3 ∧ goodS a.2 ∧ ∀ p ∈ a.2, p.1 ≤ 13 := by
  obtain ⟨ws, r1, e1, p1, l1, w1⟩ := lrow_x (k + 1) r 7 top L hp (by omega) h0 (by omega)
  obtain ⟨t, r2, e2, t0, t1, p2⟩ := taken_x (k + 2) r1 3 L p1 (by omega) (by omega)
  obtain ⟨c, r3, e3, c0, c1, p3⟩ := taken_x (k + 2) r2 (3 + 1) (L ++ [.lst []]) p2 (by omega) (by omega)
  obtain ⟨n, rfl⟩ : ∃ n : Nat, c = (n : Nat) := ⟨c.toNat, by omega⟩
  have hn : n ≤ 3 := by omega
  -- the week
  obtain ⟨w, hw, hwl, hwr⟩ : ∃ w : List Int, evS (fnG (k + 3)) (.ite (.cmp .eq (.call 1000 (.cons (.var 0) (.cons (.int 3) .nil))) (.int 0)) (.cons (.set 3 (.bin .mul (.lst false (.cons (.idx (.var 3) (.int 0)) .nil)) (.int 7))) .nil) .nil) [some (.ref 0), some (.int top), some (.int 3), some (.lst (ws.map .int)), none, none, none] (rowO r1 :: L) = .nx [some (.ref 0), some (.int top), some (.int 3), some (.lst (w.map .int)), none, none, none] (rowO r2 :: L) ∧ w.length = 7 ∧ ∀ x ∈ w, 0 ≤ x ∧ x ≤ top := by
    by_cases q : t = 0
    · subst q
      cases ws with
      | nil => simp at l1
      | cons x ws =>
        have h7 : (1 : Nat) ≤ LIM := lim_le (by omega)
        have h8 : (7 : Nat) ≤ LIM := lim_le (by omega)
        have i1 : ∀ g, binD .mul g (.lst [.int x]) (.int 7) = some (.lst ([x, x, x, x, x, x, x].map .int)) := fun g => if_pos ⟨by decide, by decide, by simpa using h8⟩
        refine ⟨[x, x, x, x, x, x, x], ?_, rfl, fun y hy => ?_⟩
        · have i2 : ∀ g, idxD g (.lst ((x :: ws).map .int)) (.int 0) = some (.int x) := fun g => x_lst _ _ (k := 0) rfl
          generalize (x :: ws).map D.int = A at *
          simp only [List.map_cons, List.map_nil] at i1
          simp [e2, i2, mkL, h7, i1]
        · have := w1 x List.mem_cons_self
          simp at hy
          subst hy
          exact this
    · exact ⟨ws, by simp [e2, q], l1, w1⟩
  suffices h : ∃ (st : List (Int × Int)) (r' : Row), (∃ v, call (k + 3 + 1) 1026 [.ref 0, .int top, .int 3] (rowO r :: L) = endF false (rowO r :: L) (.rt v (rowO r' :: (L ++ [.lst (st.map prD)]))) ∧ v = .tup [.lst (w.map .int), .ref (L.length + 1)]) ∧ 0 ≤ r'.pos ∧ st.length ≤ 3 ∧ goodS st ∧ ∀ p ∈ st, p.1 ≤ 13 by
    obtain ⟨st, r', ⟨v, h1, rfl⟩, h2, h3, h4⟩ := h
    refine ⟨(w, st), r', ?_, h2, hwl, hwr, h3, h4⟩
    refine h1.trans ?_
    rw [endF_rt]
    exact exit_pair _ _ _ _ _ (fun n => low_row _ n) (show purs 58 _ = true from purs_ints 57 _) (purs_pr 56 _)
  rw [call_eq pg1026 rfl]
  have main : post (fun _ _ => False) (fun v g => ∃ (st : List (Int × Int)) (r' : Row), v = .tup [.lst (w.map .int), .ref (L.length + 1)] ∧ g = rowO r' :: (L ++ [.lst (st.map prD)]) ∧ 0 ≤ r'.pos ∧ st.length ≤ 3 ∧ goodS st ∧ ∀ p ∈ st, p.1 ≤ 13) (fun _ _ => False) (evSs (fnG (k + 3)) f1026.body (start f1026 [.ref 0, .int top, .int 3]) (rowO r :: L)) := by
    refine post_nx (s1 := [some (.ref 0), some (.int top), some (.int 3), some (.lst (ws.map .int)), none, none, none]) (g1 := rowO r1 :: L) (by
      have e1 : callF PG conG clsG fuelG (k + 3) 1022 [.ref 0, .int 7, .int top] (rowO r :: L) = .ok (.lst (ws.map .int)) (rowO r1 :: L) := e1
      simp [f1026, e1]) ?_
    refine post_nx hw ?_
    refine post_nx (s1 := [some (.ref 0), some (.int top), some (.int 3), some (.lst (w.map .int)), some (.ref (L.length + 1)), some (.int 1), none]) (g1 := rowO r2 :: (L ++ [.lst []])) (by simp [mkL]) ?_
    let J : Nat → St → G → Prop := fun m s g => ∃ (st : List (Int × Int)) (r' : Row) (z : Int) (x : Option D), s = [some (.ref 0), some (.int top), some (.int 3), some (.lst (w.map .int)), some (.ref (L.length + 1)), some (.int z), x] ∧ g = rowO r' :: (L ++ [.lst (st.map prD)]) ∧ 0 ≤ r'.pos ∧ st.length = m ∧ goodS st ∧ 1 ≤ z ∧ z ≤ 1 + 4 * m ∧ ∀ p ∈ st, p.1 ≤ z
    refine post_cons (N := J n) ?_ ?_
    · have er := evI_rN (W := fnG (k + 3)) (a := .call 1000 (.cons (.var 0) (.cons (.bin .add (.var 2) (.int 1)) .nil))) (s := [some (.ref 0), some (.int top), some (.int 3), some (.lst (w.map .int)), some (.ref (L.length + 1)), some (.int 1), none]) (g := rowO r2 :: (L ++ [.lst []])) (g' := rowO r3 :: (L ++ [.lst []])) (n := n) (by
        have e3 : callF PG conG clsG fuelG (k + 3) 1000 [.ref 0, .int (3 + 1)] (rowO r2 :: (L ++ [.lst []])) = .ok (.int (n : Nat)) (rowO r3 :: (L ++ [.lst []])) := e3
        simp only [evE_call, evEs_cons, evEs_nil, evE_var, evE_bin, evE_int, b_add, oR_some, List.getElem?_cons_succ, List.getElem?_cons_zero, R.bind_ok]
        exact e3) (lim_le (by omega))
      rw [evS_for_, er]
      refine forL_range _ _ J (fun _ _ _ _ => lock_nil _) ?_ (fun s g h => h) _ _ ⟨[], r3, 1, none, rfl, rfl, p3, rfl, ⟨by simp, fun p h => by simp at h, fun i p q h => by simp at h⟩, by omega, by omega, fun p h => by simp at h⟩
      rintro m s g hm ⟨st, r4, z, x, rfl, rfl, p4, l4, g4, z1, z2, zl⟩
      obtain ⟨u, r5, e5, u0, u1, p5⟩ := taken_x (k + 2) r4 4 (L ++ [.lst (st.map prD)]) p4 (by omega) (by omega)
      obtain ⟨v, r6, e6, v0, v1, p6⟩ := taken_x (k + 2) r5 101 (L ++ [.lst (st.map prD)]) p5 (by omega) (by omega)
      obtain ⟨y, r7, e7, p7, hy⟩ := pick_x (k + 1) r6 [.int 0, .int 5, .int 10, .int 20, .int 50, .int 100, .int v] (L ++ [.lst (st.map prD)]) p6 (by simp) (by simp)
      obtain ⟨w0, rfl, hw0⟩ : ∃ w0 : Int, y = .int w0 ∧ 0 ≤ w0 ∧ w0 ≤ 100 := by
        simp only [List.mem_cons, List.not_mem_nil, or_false] at hy
        rcases hy with rfl | rfl | rfl | rfl | rfl | rfl | rfl
        · exact ⟨_, rfl, by decide, by decide⟩
        · exact ⟨_, rfl, by decide, by decide⟩
        · exact ⟨_, rfl, by decide, by decide⟩
        · exact ⟨_, rfl, by decide, by decide⟩
        · exact ⟨_, rfl, by decide, by decide⟩
        · exact ⟨_, rfl, by decide, by decide⟩
        · exact ⟨_, rfl, by omega, by omega⟩
      have hll : st.length < LIM := lim_lt (by omega)
      have h7 : (7 : Nat) ≤ LIM := lim_le (by omega)
      refine ⟨[some (.ref 0), some (.int top), some (.int 3), some (.lst (w.map .int)), some (.ref (L.length + 1)), some (.int z), some (.int (m : Nat))], by simp, .inl ⟨[some (.ref 0), some (.int top), some (.int 3), some (.lst (w.map .int)), some (.ref (L.length + 1)), some (.int (z + 1 + u)), some (.int (m : Nat))], rowO r7 :: (L ++ [.lst ((st ++ [(z + 1 + u, w0)]).map prD)]), ?_, st ++ [(z + 1 + u, w0)], r7, z + 1 + u, _, rfl, rfl, p7, by simp [l4], ?_, by omega, by omega, fun p hpp => ?_⟩⟩
      · simp [e5, e6, mkL, h7, e7, hll, prD]
      · refine ⟨by simp; omega, fun p hpp => ?_, fun i p q hi hq => ?_⟩
        · rcases List.mem_append.mp hpp with h | h
          · exact g4.2.1 p h
          · rw [List.mem_singleton.mp h]
            simp only
            omega
        · by_cases c : i + 1 < st.length
          · rw [List.getElem?_append_left c] at hq
            rw [List.getElem?_append_left (by omega)] at hi
            exact g4.2.2 i p q hi hq
          · rw [List.getElem?_append_right (by omega)] at hq
            have hi2 : i < st.length := by
              by_cases c2 : i < st.length
              · exact c2
              · rw [show i + 1 - st.length = (i - st.length) + 1 by omega] at hq
                simp at hq
            rw [List.getElem?_append_left hi2] at hi
            rw [show i + 1 - st.length = 0 by omega] at hq
            cases hq
            have := zl p (List.mem_of_getElem? hi)
            simp only
            omega
      · rcases List.mem_append.mp hpp with h | h
        · have := zl p h; omega
        · rw [List.mem_singleton.mp h]; simp
    · rintro s g ⟨st, r', z, x, rfl, rfl, h1, h2, h3, h4, h5, h6⟩
      have e : evS (fnG (k + 3)) (.ret (.tup (.cons (.var 3) (.cons (.var 4) .nil)))) [some (.ref 0), some (.int top), some (.int 3), some (.lst (w.map .int)), some (.ref (L.length + 1)), some (.int z), x] (rowO r' :: (L ++ [.lst (st.map prD)])) = .rt (.tup [.lst (w.map .int), .ref (L.length + 1)]) (rowO r' :: (L ++ [.lst (st.map prD)])) := by simp
      rw [evSs_rt e]
      exact ⟨st, r', rfl, rfl, h1, by omega, h3, fun p hp => by have := h6 p hp; omega⟩
  rcases post_cases main with ⟨_, _, _, hh⟩ | ⟨v, g, e, st, r', rfl, rfl, h1, h2, h3⟩ | ⟨_, _, _, _, hh⟩
  · exact hh.elim
  · exact ⟨st, r', ⟨_, by rw [e]; rfl, rfl⟩, h1, h2, h3⟩
  · exact hh.elim
end
end KT

namespace KT
open KN
/-! ### cheapest parts: the plain law -/
abbrev E := Int × Int × List Int
def eD (e : E) : D := .tup [.int e.1, .int e.2.1, .tup (e.2.2.map .int)]
def e0 : E := (0, 0, [])
def ext (p : Nat → Nat → Int) (d n k : Nat) (b : E) : E := (b.1 + p (d + k) (n - k), b.2.1 + 1, b.2.2 ++ [((n - k : Nat) : Int)])
def ways (p : Nat → Nat → Int) (d n : Nat) (bs : List E) : List E := (List.range n).map fun k => ext p d n k (bs.getD k e0)
def minE : List E → E
  | [] => e0
  | x :: xs => xs.foldl (fun a y => if ltT (eD y) (eD a) = true then y else a) x
def bestL (p : Nat → Nat → Int) (d : Nat) : Nat → List E
  | 0 => [e0]
  | n + 1 => bestL p d n ++ [minE (ways p d (n + 1) (bestL p d n))]
def bestE (p : Nat → Nat → Int) (d n : Nat) : E := (bestL p d n).getD n e0
def least (p : Nat → Nat → Int) (d n : Nat) : Int := (bestE p d n).1
section
variable {p : Nat → Nat → Int}
theorem bestL_len (d n : Nat) : (bestL p d n).length = n + 1 := by
  induction n with
  | zero => rfl
  | succ n ih => simp [bestL, ih]
theorem bestL_at {d n k : Nat} (h : k ≤ n) : (bestL p d n).getD k e0 = bestE p d k := by
  induction n with
  | zero => rw [show k = 0 by omega]; rfl
  | succ n ih =>
    by_cases q : k = n + 1
    · rw [q]; rfl
    · rw [← ih (by omega)]
      simp only [bestL, List.getD_eq_getElem?_getD]
      rw [List.getElem?_append_left (by rw [bestL_len]; omega)]
theorem ways_eq (d n : Nat) : ways p d (n + 1) (bestL p d n) = (List.range (n + 1)).map fun k => ext p d (n + 1) k (bestE p d k) := by
  unfold ways
  apply List.map_congr_left
  intro k hk
  rw [bestL_at (by have := List.mem_range.mp hk; omega)]
theorem bestE_succ (d n : Nat) : bestE p d (n + 1) = minE ((List.range (n + 1)).map fun k => ext p d (n + 1) k (bestE p d k)) := by
  rw [← ways_eq]
  unfold bestE
  simp only [bestL, List.getD_eq_getElem?_getD]
  rw [List.getElem?_append_right (by rw [bestL_len]; omega), bestL_len]
  simp
theorem lt_fst (x y : E) : (ltT (eD x) (eD y) = true → x.1 ≤ y.1) ∧ (¬ ltT (eD x) (eD y) = true → y.1 ≤ x.1) := by
  have e : ltT (eD x) (eD y) = if x.1 = y.1 then ltTs [.int x.2.1, .tup (x.2.2.map .int)] [.int y.2.1, .tup (y.2.2.map .int)] else decide (x.1 < y.1) := by
    simp only [eD, ltT]
    rw [ltTs]
    by_cases h : x.1 = y.1 <;> simp [eqv, h, ltT]
  rw [e]
  by_cases h : x.1 = y.1
  · rw [if_pos h]; constructor <;> intro _ <;> omega
  · rw [if_neg h]; simp only [decide_eq_true_eq]; constructor <;> intro _ <;> omega
theorem minE_le : ∀ (xs : List E) (x : E), (xs.foldl (fun a y => if ltT (eD y) (eD a) = true then y else a) x).1 ≤ x.1 ∧ ∀ y ∈ xs, (xs.foldl (fun a y => if ltT (eD y) (eD a) = true then y else a) x).1 ≤ y.1
  | [], x => ⟨Int.le_refl _, fun _ h => nomatch h⟩
  | z :: xs, x => by
    rw [List.foldl_cons]
    obtain ⟨h1, h2⟩ := minE_le xs (if ltT (eD z) (eD x) = true then z else x)
    have h3 := lt_fst z x
    by_cases q : ltT (eD z) (eD x) = true
    · rw [if_pos q] at h1 h2 ⊢
      have := h3.1 q
      refine ⟨by omega, fun y hy => ?_⟩
      rcases List.mem_cons.mp hy with rfl | hy
      · exact h1
      · exact h2 y hy
    · rw [if_neg q] at h1 h2 ⊢
      have := h3.2 q
      refine ⟨h1, fun y hy => ?_⟩
      rcases List.mem_cons.mp hy with rfl | hy
      · omega
      · exact h2 y hy
theorem minE_mem {l : List E} (h : l ≠ []) : minE l ∈ l := by
  cases l with
  | nil => exact absurd rfl h
  | cons x xs => exact fold_mem (fun a y => if ltT (eD y) (eD a) = true then y else a) (fun a b => by by_cases c : ltT (eD b) (eD a) = true <;> simp [c]) xs x
theorem minE_min {l : List E} {y : E} (h : y ∈ l) : (minE l).1 ≤ y.1 := by
  cases l with
  | nil => cases h
  | cons x xs =>
    obtain ⟨h1, h2⟩ := minE_le xs x
    rcases List.mem_cons.mp h with rfl | h
    · exact h1
    · exact h2 y h
theorem best_from (d n : Nat) : ∃ k, k ≤ n ∧ bestE p d (n + 1) = ext p d (n + 1) k (bestE p d k) := by
  rw [bestE_succ]
  have := minE_mem (l := (List.range (n + 1)).map fun k => ext p d (n + 1) k (bestE p d k)) (by simp)
  obtain ⟨k, hk, e⟩ := List.mem_map.mp this
  exact ⟨k, by have := List.mem_range.mp hk; omega, e.symm⟩
theorem least_le {d n k : Nat} (h : k ≤ n) : least p d (n + 1) ≤ least p d k + p (d + k) (n + 1 - k) := by
  unfold least
  rw [bestE_succ]
  exact minE_min (List.mem_map.mpr ⟨k, List.mem_range.mpr (by omega), rfl⟩)
theorem least_from (d n : Nat) : ∃ k, k ≤ n ∧ least p d (n + 1) = least p d k + p (d + k) (n + 1 - k) := by
  obtain ⟨k, h, e⟩ := best_from (p := p) d n
  exact ⟨k, h, by unfold least; rw [e]; rfl⟩
theorem least_zero (d : Nat) : least p d 0 = 0 := rfl
theorem least_one {d n : Nat} : least p d (n + 1) ≤ p d (n + 1) := by
  have := least_le (p := p) (d := d) (n := n) (k := 0) (Nat.zero_le _)
  rw [least_zero] at this
  simpa using this
theorem least_sub (d a : Nat) : ∀ m, least p d (a + m) ≤ least p d a + least p (d + a) m := by
  intro m
  induction m using Nat.strongRecOn with
  | _ m ih =>
    cases m with
    | zero => rw [least_zero]; simp
    | succ m =>
      obtain ⟨k, hk, e⟩ := least_from (p := p) (d + a) m
      have h1 := least_le (p := p) (d := d) (n := a + m) (k := a + k) (by omega)
      have h2 := ih k (by omega)
      rw [show d + (a + k) = d + a + k by omega, show a + m + 1 - (a + k) = m + 1 - k by omega] at h1
      rw [show a + (m + 1) = a + m + 1 by omega, e]
      omega
/-- the price of parts -/
def ppts (p : Nat → Nat → Int) : Nat → List Int → Int
  | _, [] => 0
  | d, x :: xs => p d x.toNat + ppts p (d + x.toNat) xs
theorem ppts_snoc (y : Int) : ∀ (xs : List Int) (d : Nat), (∀ x ∈ xs, 0 ≤ x) → ppts p d (xs ++ [y]) = ppts p d xs + p (d + xs.sum.toNat) y.toNat
  | [], d, _ => by simp [ppts]
  | x :: xs, d, h => by
    have h1 := h x List.mem_cons_self
    have h2 := ppts_snoc y xs (d + x.toNat) fun z hz => h z (List.mem_cons_of_mem _ hz)
    have h3 : 0 ≤ xs.sum := by
      have : ∀ l : List Int, (∀ x ∈ l, 0 ≤ x) → 0 ≤ l.sum := by
        intro l
        induction l with
        | nil => intro _; simp
        | cons a l ih =>
          intro hl
          have := ih fun x hx => hl x (List.mem_cons_of_mem _ hx)
          have := hl a List.mem_cons_self
          simp only [List.sum_cons]; omega
      exact this xs fun z hz => h z (List.mem_cons_of_mem _ hz)
    simp only [List.cons_append, ppts, List.sum_cons, h2]
    rw [show d + x.toNat + xs.sum.toNat = d + (x + xs.sum).toNat by omega]
    omega
theorem best_parts (d : Nat) : ∀ n, (bestE p d n).1 = ppts p d (bestE p d n).2.2 ∧ (bestE p d n).2.2.sum = (n : Nat) ∧ (∀ x ∈ (bestE p d n).2.2, 1 ≤ x) ∧ (bestE p d n).2.2.length ≤ n := by
  intro n
  induction n using Nat.strongRecOn with
  | _ n ih =>
    cases n with
    | zero => exact ⟨rfl, rfl, fun _ h => (nomatch h), Nat.le_refl _⟩
    | succ n =>
      obtain ⟨k, hk, e⟩ := best_from (p := p) d n
      obtain ⟨h1, h2, h3, h4⟩ := ih k (by omega)
      rw [e]
      simp only [ext]
      refine ⟨?_, ?_, fun x hx => ?_, ?_⟩
      · rw [ppts_snoc _ _ _ (fun x hx => by have := h3 x hx; omega), h1, h2]
        simp
      · rw [List.sum_append, h2]; simp; omega
      · rcases List.mem_append.mp hx with z | z
        · exact h3 x z
        · rw [List.mem_singleton.mp z]; omega
      · simp; omega
/-! ### two parts -/
/-- no stay is cheaper in two, for stays up to m -/
def NoSplit (p : Nat → Nat → Int) (m : Nat) : Prop := ∀ n d a : Nat, n ≤ m → d < 7 → 1 ≤ a → a < n → p d n ≤ p d a + p (d + a) (n - a)
theorem least_eq {m : Nat} (hp : ∀ d n, p (d % 7) n = p d n) (h : NoSplit p m) : ∀ n d : Nat, 1 ≤ n → n ≤ m → least p d n = p d n := by
  have h' : ∀ n d a : Nat, n ≤ m → 1 ≤ a → a < n → p d n ≤ p d a + p (d + a) (n - a) := fun n d a h1 h2 h3 => by
    have := h n (d % 7) a h1 (Nat.mod_lt _ (by decide)) h2 h3
    rw [hp, hp] at this
    have e : p (d % 7 + a) (n - a) = p (d + a) (n - a) := by
      rw [← hp (d % 7 + a), Nat.mod_add_mod, hp]
    rwa [e] at this
  intro n
  induction n using Nat.strongRecOn with
  | _ n ih =>
    intro d h1 h2
    cases n with
    | zero => omega
    | succ n =>
      have hl := least_one (p := p) (d := d) (n := n)
      obtain ⟨k, hk, e⟩ := least_from (p := p) d n
      by_cases q : k = 0
      · subst q
        rw [least_zero] at e
        simpa using e
      · have e1 := ih k (by omega) d (by omega) (by omega)
        have := h' (n + 1) d k h2 (by omega) (by omega)
        rw [e, e1] at hl ⊢
        omega
theorem nosplit_of {m : Nat} (h : ∀ n d : Nat, 1 ≤ n → n ≤ m → d < 7 → p d n ≤ least p d n) (hp : ∀ d n, p (d % 7) n = p d n) : NoSplit p m := by
  intro n d a h1 h2 h3 h4
  have e1 := h n d (by omega) h1 h2
  obtain ⟨b, rfl⟩ : ∃ b, n = a + b := ⟨n - a, by omega⟩
  have e2 := least_sub (p := p) d a b
  have e3 : least p d a ≤ p d a := by
    cases a with
    | zero => omega
    | succ a => exact least_one
  have e4 : least p (d + a) b ≤ p (d + a) b := by
    cases b with
    | zero => omega
    | succ b => exact least_one
  rw [show a + b - a = b by omega]
  omega
end
end KT

namespace KT
open KN
theorem seven_sum (w : List Int) (h : w.length = 7) (d : Nat) : ((List.range 7).map fun k => w.getD ((d + k) % 7) 0).sum = w.sum := by
  match w, h with
  | [a, b, c, e, f, g, i], _ =>
    have hd : d % 7 < 7 := Nat.mod_lt _ (by decide)
    have e1 : ∀ k, (d + k) % 7 = (d % 7 + k) % 7 := fun k => (Nat.mod_add_mod d 7 k).symm
    simp only [e1]
    generalize d % 7 = r at hd
    have : r = 0 ∨ r = 1 ∨ r = 2 ∨ r = 3 ∨ r = 4 ∨ r = 5 ∨ r = 6 := by omega
    rcases this with rfl | rfl | rfl | rfl | rfl | rfl | rfl <;> simp [List.range_succ] <;> omega
theorem rates_succ {w : List Int} (h : w.length = 7) (d n : Nat) : ratesP w d (n + 1) = ratesP w d n + w.getD ((d + n) % 7) 0 := by
  have e : (d + n) % 7 = (d + n % 7) % 7 := (Nat.add_mod_mod d n 7).symm
  unfold ratesP
  by_cases c : n % 7 = 6
  · have e1 : (n + 1) / 7 = n / 7 + 1 := by omega
    have e2 : (n + 1) % 7 = 0 := by omega
    have e3 := seven_sum w h d
    rw [List.range_succ, List.map_append, List.sum_append] at e3
    simp only [List.map_cons, List.map_nil, List.sum_cons, List.sum_nil] at e3
    rw [e1, e2, e, c, Int.natCast_add, Int.add_mul]
    simp only [List.range_zero, List.map_nil, List.sum_nil]
    omega
  · have e1 : (n + 1) / 7 = n / 7 := by omega
    have e2 : (n + 1) % 7 = n % 7 + 1 := by omega
    rw [e1, e2, e, List.range_succ, List.map_append, List.sum_append]
    simp only [List.map_cons, List.map_nil, List.sum_cons, List.sum_nil]
    omega
theorem rates_zero (w : List Int) (d : Nat) : ratesP w d 0 = 0 := by simp [ratesP]
theorem rates_cat {w : List Int} (h : w.length = 7) (d x : Nat) : ∀ y, ratesP w d (x + y) = ratesP w d x + ratesP w (d + x) y
  | 0 => by rw [rates_zero]; simp
  | y + 1 => by
    rw [show x + (y + 1) = x + y + 1 by omega, rates_succ h, rates_succ h, rates_cat h d x y, show d + (x + y) = d + x + y by omega]
    omega
theorem rates_mod (w : List Int) (d n : Nat) : ratesP w (d % 7) n = ratesP w d n := by
  unfold ratesP
  simp only [Nat.mod_add_mod]
theorem pts_mod (a : Tar) (d n : Nat) : pts a.1 a.2 (d % 7) n = pts a.1 a.2 d n := by
  unfold pts; rw [rates_mod]
abbrev pT (a : Tar) : Nat → Nat → Int := fun d n => pts a.1 a.2 d n
theorem rates_nn {w : List Int} (h : goodW w) (d : Nat) : ∀ n, 0 ≤ ratesP w d n
  | 0 => by rw [rates_zero]; exact Int.le_refl _
  | n + 1 => by
    rw [rates_succ h.1]
    have h1 := rates_nn h d n
    have hl : (d + n) % 7 < w.length := by rw [h.1]; exact Nat.mod_lt _ (by decide)
    have h2 := h.2 w[(d + n) % 7] (List.getElem_mem hl)
    have h3 : w.getD ((d + n) % 7) 0 = w[(d + n) % 7] := by simp [List.getD_eq_getElem?_getD, hl]
    omega
/-- shorter stays tell all -/
theorem nosplit_all {a : Tar} (ha : a.good) (h : ∀ n d x : Nat, n < 2 * steadyN a.2 → d < 7 → 1 ≤ x → x < n → pT a d n ≤ pT a d x + pT a (d + x) (n - x)) : ∀ m, NoSplit (pT a) m := by
  have hs := steady_rng ha.2
  have hw := ha.1.1
  have st : ∀ n : Nat, steadyN a.2 ≤ n → offP a.2 (n : Nat) = offP a.2 (steadyN a.2 : Nat) := fun n hn => off_stable ha.2 (by omega) (Int.le_refl _)
  intro m n d x hn hd h1 h2
  by_cases c : n < 2 * steadyN a.2
  · exact h n d x c hd h1 h2
  obtain ⟨y, rfl⟩ : ∃ y, n = x + y := ⟨n - x, by omega⟩
  rw [show x + y - x = y by omega]
  show pts a.1 a.2 d (x + y) ≤ pts a.1 a.2 d x + pts a.1 a.2 (d + x) y
  unfold pts
  rw [rates_cat hw, st (x + y) (by omega)]
  by_cases cx : steadyN a.2 ≤ x
  · by_cases cy : steadyN a.2 ≤ y
    · rw [st x cx, st y cy, Int.add_mul]; exact Int.le_refl _
    · have q := h (steadyN a.2 + y) ((d + x + 6 * steadyN a.2) % 7) (steadyN a.2) (by omega) (Nat.mod_lt _ (by decide)) (by omega) (by omega)
      rw [show steadyN a.2 + y - steadyN a.2 = y by omega] at q
      have q : pts a.1 a.2 _ _ ≤ pts a.1 a.2 _ _ + pts a.1 a.2 _ _ := q
      unfold pts at q
      rw [rates_cat hw, st (steadyN a.2 + y) (by omega)] at q
      have e : ratesP a.1 ((d + x + 6 * steadyN a.2) % 7 + steadyN a.2) y = ratesP a.1 (d + x) y := by
        rw [← rates_mod, Nat.mod_add_mod, show d + x + 6 * steadyN a.2 + steadyN a.2 = d + x + 7 * steadyN a.2 by omega, Nat.add_mul_mod_self_left, rates_mod]
      rw [e] at q
      rw [Int.add_mul] at q
      rw [st x cx, Int.add_mul]
      omega
  · have q := h (x + steadyN a.2) d x (by omega) hd h1 (by omega)
    rw [show x + steadyN a.2 - x = steadyN a.2 by omega] at q
    have q : pts a.1 a.2 _ _ ≤ pts a.1 a.2 _ _ + pts a.1 a.2 _ _ := q
    unfold pts at q
    rw [rates_cat hw, st (x + steadyN a.2) (by omega)] at q
    rw [st y (by omega)]
    rw [Int.add_mul] at q ⊢
    omega
/-! ### the first split -/
def sp (a : Tar) (n d x : Nat) : Prop := pT a d x + pT a (d + x) (n - x) < pT a d n
def tri (n d x : Nat) : D := .tup [.int (n : Nat), .int (d : Nat), .int (x : Nat)]
def before (n d x n' d' x' : Nat) : Prop := n < n' ∨ n = n' ∧ (d < d' ∨ d = d' ∧ x < x')
/-- the first of the stays below m -/
def First (a : Tar) (m : Nat) (v : D) : Prop := (v = .non ∧ ∀ n d x : Nat, n < m → d < 7 → 1 ≤ x → x < n → ¬ sp a n d x) ∨
  ∃ n d x : Nat, v = tri n d x ∧ n < m ∧ d < 7 ∧ 1 ≤ x ∧ x < n ∧ sp a n d x ∧ ∀ n' d' x' : Nat, before n' d' x' n d x → d' < 7 → 1 ≤ x' → x' < n' → ¬ sp a n' d' x'
theorem first_eq {a : Tar} (ha : a.good) {m : Nat} (hm : 2 * steadyN a.2 ≤ m) {v u : D} (h1 : First a (2 * steadyN a.2) v) (h2 : First a m u) : v = u := by
  rcases h1 with ⟨rfl, h1⟩ | ⟨n, d, x, rfl, a1, a2, a3, a4, a5, a6⟩ <;> rcases h2 with ⟨rfl, h2⟩ | ⟨n', d', x', rfl, b1, b2, b3, b4, b5, b6⟩
  · rfl
  · exfalso
    have := nosplit_all ha (fun n d x h3 h4 h5 h6 => by have := h1 n d x h3 h4 h5 h6; unfold sp at this; omega) n' n' d' x' (Nat.le_refl _) b2 b3 b4
    unfold sp at b5
    omega
  · exact absurd a5 (h2 n d x (by omega) a2 a3 a4)
  · have t : before n d x n' d' x' ∨ before n' d' x' n d x ∨ (n = n' ∧ d = d' ∧ x = x') := by unfold before; omega
    rcases t with t | t | ⟨rfl, rfl, rfl⟩
    · exact absurd a5 (b6 n d x t a2 a3 a4)
    · exact absurd b5 (a6 n' d' x' t b2 b3 b4)
    · rfl
end KT

namespace KT
open KN
theorem range_up (lo n : Nat) : (rangeI (lo : Nat) ((lo + n : Nat) : Int)).map D.int = (List.range n).map fun m => D.int ((lo + m : Nat) : Int) := by
  unfold rangeI
  rw [show (((lo + n : Nat) : Int) - (lo : Nat)).toNat = n by omega, List.map_map]
  apply List.map_congr_left
  intro m _
  simp
section
variable {k : Nat} {g : G} {a : Tar}
theorem fm7 (d x : Nat) : ((d : Int) + (x : Int)).fmod 7 = (((d + x) % 7 : Nat) : Int) := fmod_nat (d + x) 7
theorem pts_c (ha : a.good) (d n x : Nat) (h : x ≤ n) : call (k + 3) 53 [tarT a, .int (((d : Int) + (x : Int)).fmod 7), .int ((n : Int) - (x : Int))] g = .ok (.int (pT a (d + x) (n - x))) g := by
  have := points_ok (k := k) (g := g) ha.1 ha.2 ((d + x) % 7) (n - x)
  rw [pts_mod, ← fm7, show ((n - x : Nat) : Int) = (n : Int) - (x : Int) by omega] at this
  exact this
theorem pts_1 (ha : a.good) (d n : Nat) : call (k + 3) 53 [tarT a, .int (((d : Nat) : Int).fmod 7), .int (n : Nat)] g = .ok (.int (pT a d n)) g := by
  have := points_ok (k := k) (g := g) ha.1 ha.2 (d % 7) n
  rw [pts_mod, ← fmod_nat d 7] at this
  exact this
theorem pts_0 (ha : a.good) (d n : Nat) : call (k + 3) 53 [tarT a, .int (d : Nat), .int (n : Nat)] g = .ok (.int (pT a d n)) g := points_ok ha.1 ha.2 d n
theorem lpts_c {v : D} (hv : rawV g v a) (ha : a.good) (d n x : Nat) (h : x ≤ n) : call (k + 1) 1027 [v, .int (((d : Int) + (x : Int)).fmod 7), .int ((n : Int) - (x : Int))] g = .ok (.int (pT a (d + x) (n - x))) g := by
  have := lpoints_ok (k := k) (g := g) hv ha ((d + x) % 7) (n - x)
  rw [pts_mod, ← fm7, show ((n - x : Nat) : Int) = (n : Int) - (x : Int) by omega] at this
  exact this
theorem lpts_1 {v : D} (hv : rawV g v a) (ha : a.good) (d n : Nat) : call (k + 1) 1027 [v, .int (((d : Nat) : Int).fmod 7), .int (n : Nat)] g = .ok (.int (pT a d n)) g := by
  have := lpoints_ok (k := k) (g := g) hv ha (d % 7) n
  rw [pts_mod, ← fmod_nat d 7] at this
  exact this
theorem mth3' : methD (fnG k) g (tarT a) 3 = some 53 := rfl
theorem gain_ok (ha : a.good) (d n x : Nat) (h : x ≤ n) : call (k + 4) 67 [tarT a, .int (d : Nat), .int (n : Nat), .int (x : Nat)] g = .ok (.int (pT a d n - (pT a d x + pT a (d + x) (n - x)))) g := by
  rw [call_eq pg67 rfl]
  have e1 := pts_c (k := k) (g := g) ha d n x h
  have e2 := pts_0 (k := k) (g := g) ha d x
  have e3 := pts_0 (k := k) (g := g) ha d n
  simp [f67, con3, mth3', b_mod _ _ 7 (by decide), e1, e2, e3]
/-- nothing is found ahead of it -/
def NoB (a : Tar) (n d x : Nat) : Prop := ∀ n' d' x' : Nat, before n' d' x' n d x → d' < 7 → 1 ≤ x' → x' < n' → ¬ sp a n' d' x'
theorem split_x (ha : a.good) : ∃ v, call (k + 5) 68 [tarT a] g = .ok v g ∧ First a (2 * steadyN a.2) v := by
  rw [call_eq pg68 rfl]
  have hs := steady_rng ha.2
  refine end_ex ?_
  generalize hS : steadyN a.2 = S at *
  refine post_cons (N := fun s g1 => (∃ y z w, s = [some (tarT a), y, z, w]) ∧ g1 = g ∧ NoB a (2 * S) 0 0) ?_ ?_
  · have e5 : getF (fnG (k + 4)) 5 (tarT a) g = .ok (.int (S : Nat)) g := by rw [← hS]; exact fld5 (k := k + 3) ha
    have er0 : (rangeI (2 : Nat) ((2 + (2 * S - 2) : Nat) : Int)).map D.int = (List.range (2 * S - 2)).map fun m => D.int ((2 + m : Nat) : Int) := range_up 2 (2 * S - 2)
    have er := evI_r2 (W := fnG (k + 4)) (a := .int 2) (b := .bin .mul (.int 2) (.fld (.var 0) 5)) (s := [some (tarT a), none, none, none]) (g := g) (g' := g) (g2 := g) (lo := 2) (hi := 2 * (S : Int)) (by simp) (by simp [e5, b_mul _ _ _ (.inl (small_lt (x := 2) (by omega)))]) (by omega) (by omega) (by omega) (by omega)
    rw [show (2 : Int) * (S : Int) = ((2 + (2 * S - 2) : Nat) : Int) by omega] at er
    have er : evI (fnG (k + 4)) (.range2 (.int 2) (.bin .mul (.int 2) (.fld (.var 0) 5))) [some (tarT a), none, none, none] g = .ok ((rangeI (2 : Nat) ((2 + (2 * S - 2) : Nat) : Int)).map D.int, []) g := er
    rw [er0] at er
    show post _ _ _ (evS (fnG (k + 4)) (.for_ _ _ _) [some (tarT a), none, none, none] g)
    rw [evS_for_, er]
    refine forL_range _ _ (fun m s g1 => (∃ y z w, s = [some (tarT a), y, z, w]) ∧ g1 = g ∧ NoB a (2 + m) 0 0) (fun _ _ _ _ => lock_nil _) ?_ ?_ _ _ ⟨⟨none, none, none, rfl⟩, rfl, fun n' d' x' h1 h2 h3 h4 => by unfold before at h1; omega⟩
    · rintro m s g1 hm ⟨⟨y, z, w, rfl⟩, rfl, hb⟩
      refine ⟨[some (tarT a), some (.int ((2 + m : Nat) : Int)), z, w], by simp, ?_⟩
      generalize hN : 2 + m = n at *
      have mid : post (fun s g2 => (∃ z w, s = [some (tarT a), some (.int (n : Nat)), z, w]) ∧ g2 = g1 ∧ NoB a n 7 0) (fun v g2 => First a (2 * S) v ∧ pur 60 v = true ∧ ∃ L, g2 = g1 ++ L) (fun _ _ => False)
          (evSs (fnG (k + 4)) (.cons (.for_ (.name 2) (.range1 (.con 3)) (.cons (.for_ (.name 3) (.range2 (.int 1) (.var 1)) (.cons (.ite (.cmp .gt (.call 67 (.cons (.var 0) (.cons (.var 2) (.cons (.var 1) (.cons (.var 3) .nil))))) (.int 0)) (.cons (.ret (.tup (.cons (.var 1) (.cons (.var 2) (.cons (.var 3) .nil))))) .nil) .nil) .nil)) .nil)) .nil) [some (tarT a), some (.int (n : Nat)), z, w] g1) := by
        refine post_cons (N := fun s g2 => (∃ z w, s = [some (tarT a), some (.int (n : Nat)), z, w]) ∧ g2 = g1 ∧ NoB a n 7 0) ?_ (by rintro s g2 hh; exact hh)
        have er := evI_rN (W := fnG (k + 4)) (a := .con 3) (s := [some (tarT a), some (.int (n : Nat)), z, w]) (g := g1) (g' := g1) (n := 7) (by simp [con3]) (lim_le (by omega))
        rw [evS_for_, er]
        refine forL_range _ _ (fun j s g2 => (∃ z w, s = [some (tarT a), some (.int (n : Nat)), z, w]) ∧ g2 = g1 ∧ NoB a n j 0) (fun _ _ _ _ => lock_nil _) ?_ (fun s g hh => hh) _ _ ⟨⟨z, w, rfl⟩, rfl, hb⟩
        rintro j s g2 hj ⟨⟨z, w, rfl⟩, rfl, hb⟩
        refine ⟨[some (tarT a), some (.int (n : Nat)), some (.int (j : Nat)), w], by simp, ?_⟩
        have inner : post (fun s g3 => (∃ w, s = [some (tarT a), some (.int (n : Nat)), some (.int (j : Nat)), w]) ∧ g3 = g2 ∧ NoB a n (j + 1) 0) (fun v g3 => First a (2 * S) v ∧ pur 60 v = true ∧ ∃ L, g3 = g2 ++ L) (fun _ _ => False)
            (evSs (fnG (k + 4)) (.cons (.for_ (.name 3) (.range2 (.int 1) (.var 1)) (.cons (.ite (.cmp .gt (.call 67 (.cons (.var 0) (.cons (.var 2) (.cons (.var 1) (.cons (.var 3) .nil))))) (.int 0)) (.cons (.ret (.tup (.cons (.var 1) (.cons (.var 2) (.cons (.var 3) .nil))))) .nil) .nil) .nil)) .nil) [some (tarT a), some (.int (n : Nat)), some (.int (j : Nat)), w] g2) := by
          refine post_cons (N := fun s g3 => (∃ w, s = [some (tarT a), some (.int (n : Nat)), some (.int (j : Nat)), w]) ∧ g3 = g2 ∧ NoB a n (j + 1) 0) ?_ (by rintro s g3 hh; exact hh)
          have er0 : (rangeI (1 : Nat) ((1 + (n - 1) : Nat) : Int)).map D.int = (List.range (n - 1)).map fun m => D.int ((1 + m : Nat) : Int) := range_up 1 (n - 1)
          have er := evI_r2 (W := fnG (k + 4)) (a := .int 1) (b := .var 1) (s := [some (tarT a), some (.int (n : Nat)), some (.int (j : Nat)), w]) (g := g2) (g' := g2) (g2 := g2) (lo := 1) (hi := (n : Int)) (by simp) (by simp) (by omega) (by omega) (by omega) (by omega)
          rw [show (n : Int) = ((1 + (n - 1) : Nat) : Int) by omega] at er
          have er : evI (fnG (k + 4)) (.range2 (.int 1) (.var 1)) [some (tarT a), some (.int ((1 + (n - 1) : Nat) : Int)), some (.int (j : Nat)), w] g2 = .ok ((rangeI (1 : Nat) ((1 + (n - 1) : Nat) : Int)).map D.int, []) g2 := er
          rw [er0, show 1 + (n - 1) = n by omega] at er
          rw [evS_for_, er]
          refine forL_range _ _ (fun i s g3 => (∃ w, s = [some (tarT a), some (.int (n : Nat)), some (.int (j : Nat)), w]) ∧ g3 = g2 ∧ NoB a n j (1 + i)) (fun _ _ _ _ => lock_nil _) ?_ (fun s g hh => ⟨hh.1, hh.2.1, fun n' d' x' h1 h2 h3 h4 => hh.2.2 n' d' x' (by unfold before at *; omega) h2 h3 h4⟩) _ _ ⟨⟨w, rfl⟩, rfl, fun n' d' x' h1 h2 h3 h4 => hb n' d' x' (by unfold before at *; omega) h2 h3 h4⟩
          rintro i s g3 hi ⟨⟨w, rfl⟩, rfl, hb⟩
          refine ⟨[some (tarT a), some (.int (n : Nat)), some (.int (j : Nat)), some (.int ((1 + i : Nat) : Int))], by simp, ?_⟩
          have e := gain_ok (k := k) (g := g3) ha j n (1 + i) (by omega)
          generalize hX : 1 + i = x at *
          by_cases c : pT a j x + pT a (j + x) (n - x) < pT a j n
          · refine .inr (.inr (.inr (.inl ⟨tri n j x, g3, by simp [e, c, tri], .inr ⟨n, j, x, rfl, by omega, hj, by omega, by omega, by unfold sp; omega, hb⟩, rfl, [], by simp⟩)))
          · refine .inl ⟨[some (tarT a), some (.int (n : Nat)), some (.int (j : Nat)), some (.int (x : Nat))], g3, by simp [e, c], ⟨_, rfl⟩, rfl, fun n' d' x' h1 h2 h3 h4 => ?_⟩
            by_cases q : n' = n ∧ d' = j ∧ x' = x
            · obtain ⟨rfl, rfl, rfl⟩ := q
              unfold sp; omega
            · exact hb n' d' x' (by unfold before at *; omega) h2 h3 h4
        rcases post_cases inner with ⟨s1, g3, e, ⟨w1, rfl⟩, h1⟩ | ⟨v, g3, e, h1⟩ | ⟨_, _, _, _, hh⟩
        · exact .inl ⟨_, _, e, ⟨_, w1, rfl⟩, h1⟩
        · exact .inr (.inr (.inr (.inl ⟨_, _, e, h1⟩)))
        · exact hh.elim
      rcases post_cases mid with ⟨s1, g3, e, ⟨z1, w1, rfl⟩, h0, h1⟩ | ⟨v, g3, e, h1⟩ | ⟨_, _, _, _, hh⟩
      · exact .inl ⟨_, _, e, ⟨_, z1, w1, rfl⟩, h0, fun n' d' x' h2 h3 h4 h5 => h1 n' d' x' (by unfold before at *; omega) h3 h4 h5⟩
      · exact .inr (.inr (.inr (.inl ⟨_, _, e, h1⟩)))
      · exact hh.elim
    · rintro s g1 ⟨h1, h2, h3⟩
      exact ⟨h1, h2, by rwa [show 2 + (2 * S - 2) = 2 * S by omega] at h3⟩
  · rintro s g1 ⟨⟨y, z, w, rfl⟩, rfl, h⟩
    simp [post]
    exact .inl ⟨rfl, fun n d x h1 h2 h3 h4 => h n d x (by unfold before; omega) h2 h3 h4⟩
theorem proof_x (ha : a.good) : ∃ v, call (k + 5) 68 [tarT a] g = .ok v g ∧ call (k + 6) 69 [tarT a] g = .ok (.bl (isNon v)) g ∧ First a (2 * steadyN a.2) v := by
  obtain ⟨v, e, h⟩ := split_x (k := k) (g := g) ha
  refine ⟨v, e, ?_, h⟩
  rw [call_eq pg69 rfl]
  have e : callF PG conG clsG fuelG (k + 5) 68 [tarT a] g = .ok v g := e
  simp [f69, e]
end
end KT

namespace KT
open KN
theorem shp_ints (n : Nat) : ∀ l : List Int, shps n (l.map .int) = true
  | [] => by cases n <;> simp [shps]
  | x :: l => by simp [shps, shp, shp_ints n l]
theorem shps_e (l : List E) : shps 60 (l.map eD) = true := by
  induction l with
  | nil => simp [shps]
  | cons e l ih => simp [shps, shp, eD, shp_ints, ih]
theorem alk_ints : ∀ xs ys : List Int, alkTs (xs.map .int) (ys.map .int) = true
  | [], [] => rfl
  | [], _ :: _ => rfl
  | _ :: _, [] => rfl
  | x :: xs, y :: ys => by simp [alkTs, alkT, alk_ints xs ys]
theorem alk_e (a b : E) : alkT (eD a) (eD b) = true := by simp [eD, alkT, alkTs, alk_ints]
theorem fold_e : ∀ (xs : List E) (x : E), (xs.map eD).foldl (fun a y => if ltT y a = true then y else a) (eD x) = eD (xs.foldl (fun a y => if ltT (eD y) (eD a) = true then y else a) x)
  | [], x => rfl
  | y :: ys, x => by
    rw [List.map_cons, List.foldl_cons, List.foldl_cons]
    by_cases c : ltT (eD y) (eD x) = true
    · rw [if_pos c, if_pos c]; exact fold_e ys y
    · rw [if_neg c, if_neg c]; exact fold_e ys x
theorem best_e {l : List E} (h : l ≠ []) : bestT false (l.map eD) = some (eD (minE l)) := by
  cases l with
  | nil => exact absurd rfl h
  | cons x xs =>
    have h1 := shps_e (x :: xs)
    have h2 : (eD x :: xs.map eD).all (fun a => (eD x :: xs.map eD).all fun b => alkT a b) = true := by
      refine List.all_eq_true.mpr fun a ha => List.all_eq_true.mpr fun b hb => ?_
      have ha : a ∈ (x :: xs).map eD := by simpa using ha
      have hb : b ∈ (x :: xs).map eD := by simpa using hb
      obtain ⟨a', _, rfl⟩ := List.mem_map.mp ha
      obtain ⟨b', _, rfl⟩ := List.mem_map.mp hb
      exact alk_e _ _
    simp only [List.map_cons] at h1 ⊢
    simp only [bestT]
    rw [if_pos ⟨h1, h2⟩]
    simp only [Bool.false_eq_true, if_false]
    rw [fold_e]
    rfl
theorem i_minE {g : G} {q : Nat} {l : List E} (hg : g[q]? = some (.lst (l.map eD))) (h : l ≠ []) : biD .min g [.ref q] = some (eD (minE l)) := by
  have hi : intsD (l.map eD) = none := by
    cases l with
    | nil => exact absurd rfl h
    | cons p ps => rfl
  simp only [biD]; simp [seqOf, view, hg, hi, best_e h]
theorem catT {g : G} {xs ys : List D} (h : xs.length + ys.length ≤ LIM) : binD .add g (.tup xs) (.tup ys) = some (.tup (xs ++ ys)) := if_pos h
theorem g_at (g : G) (x : O) (K : G) (y : O) : (g ++ x :: (K ++ [y]))[g.length + 1 + K.length]? = some y := by
  rw [List.getElem?_append_right (by omega)]
  simp [show g.length + 1 + K.length - g.length = K.length + 1 by omega]
theorem g_at0 (g : G) (x : O) (K : G) : (g ++ x :: K)[g.length]? = some x := by simp
theorem g_set (g : G) (x : O) (K : G) (y z : O) : (g ++ x :: (K ++ [y])).set (g.length + 1 + K.length) z = g ++ x :: (K ++ [z]) := by
  rw [List.set_append_right _ _ (by omega)]
  simp [show g.length + 1 + K.length - g.length = K.length + 1 by omega]
theorem g_set0 (g : G) (x z : O) (K : G) : (g ++ x :: K).set g.length z = g ++ z :: K := by
  rw [List.set_append_right _ _ (Nat.le_refl _)]; simp
def wpre (p : Nat → Nat → Int) (d n i : Nat) : List E := (List.range i).map fun k => ext p d n k (bestE p d k)
theorem wpre_succ (p : Nat → Nat → Int) (d n i : Nat) : wpre p d n (i + 1) = wpre p d n i ++ [ext p d n i (bestE p d i)] := by
  unfold wpre; rw [List.range_succ, List.map_append]; rfl
theorem wpre_len (p : Nat → Nat → Int) (d n i : Nat) : (wpre p d n i).length = i := by simp [wpre]
theorem bestL_succ (p : Nat → Nat → Int) (d n : Nat) : bestL p d (n + 1) = bestL p d n ++ [minE (wpre p d (n + 1) (n + 1))] := by
  show bestL p d n ++ [minE (ways p d (n + 1) (bestL p d n))] = _
  rw [ways_eq]; rfl
theorem bestL_get {p : Nat → Nat → Int} {d n i : Nat} (h : i ≤ n) : ((bestL p d n).map eD)[i]? = some (eD (bestE p d i)) := by
  have hl : i < (bestL p d n).length := by rw [bestL_len]; omega
  have := bestL_at (p := p) (d := d) h
  rw [List.getD_eq_getElem?_getD, List.getElem?_eq_getElem hl, Option.getD_some] at this
  rw [List.getElem?_map, List.getElem?_eq_getElem hl, Option.map_some, this]
section
variable {k : Nat} {g : G} {a : Tar}
theorem parts_pur (e : E) : pur 60 (.tup [.int e.1, .tup (e.2.2.map .int)]) = true := by
  have h2 : pur 59 (.tup (e.2.2.map D.int)) = true := purs_ints 57 _
  show purs 59 [.int e.1, .tup (e.2.2.map .int)] = true
  simp [purs, h2]
theorem eD_pur (n : Nat) (e : E) : pur (n + 4) (eD e) = true := by
  have h2 : pur (n + 3) (.tup (e.2.2.map D.int)) = true := purs_ints (n + 1) _
  show purs (n + 3) [.int e.1, .int e.2.1, .tup (e.2.2.map .int)] = true
  simp [purs, h2]
theorem cheap_ok (ha : a.good) (d n : Nat) (hn : n ≤ 40) : call (k + 4) 70 [tarT a, .int (d : Nat), .int (n : Nat)] g = .ok (.tup [.int (bestE (pT a) d n).1, .tup ((bestE (pT a) d n).2.2.map .int)]) g := by
  rw [call_eq pg70 rfl]
  refine end_rt (V := fun v g1 => v = .tup [.int (bestE (pT a) d n).1, .tup ((bestE (pT a) d n).2.2.map .int)] ∧ ∃ L, g1 = g ++ L) ?_ (by rintro v g1 ⟨rfl, L, rfl⟩; exact exitD_pur g L _ (parts_pur _))
  have l1 : (1 : Nat) ≤ LIM := lim_le (by omega)
  refine post_nx (s1 := [some (tarT a), some (.int (d : Nat)), some (.int (n : Nat)), some (.ref g.length), none, none, none, none, none, none, none]) (g1 := g ++ [.lst ((bestL (pT a) d 0).map eD)]) (by simp [f70, mkL, l1, bestL, e0, eD]) ?_
  refine post_cons (N := fun s g1 => (∃ x4 x5 x6 x7 x8 x9 x10, s = [some (tarT a), some (.int (d : Nat)), some (.int (n : Nat)), some (.ref g.length), x4, x5, x6, x7, x8, x9, x10]) ∧ ∃ K, g1 = g ++ .lst ((bestL (pT a) d n).map eD) :: K) ?_ ?_
  · have er0 : (rangeI (1 : Nat) ((1 + n : Nat) : Int)).map D.int = (List.range n).map fun m => D.int ((1 + m : Nat) : Int) := range_up 1 n
    have er := evI_r2 (W := fnG (k + 3)) (a := .int 1) (b := .bin .add (.var 2) (.int 1)) (s := [some (tarT a), some (.int (d : Nat)), some (.int (n : Nat)), some (.ref g.length), none, none, none, none, none, none, none]) (g := g ++ [.lst ((bestL (pT a) d 0).map eD)]) (g' := g ++ [.lst ((bestL (pT a) d 0).map eD)]) (g2 := g ++ [.lst ((bestL (pT a) d 0).map eD)]) (lo := 1) (hi := ((1 + n : Nat) : Int)) (by simp) (by simp; omega) (by omega) (by omega) (by omega) (by omega)
    have er : _ = R.ok ((rangeI (1 : Nat) ((1 + n : Nat) : Int)).map D.int, []) _ := er
    rw [er0] at er
    rw [evS_for_, er]
    refine forL_range _ _ (fun m s g1 => (∃ x4 x5 x6 x7 x8 x9 x10, s = [some (tarT a), some (.int (d : Nat)), some (.int (n : Nat)), some (.ref g.length), x4, x5, x6, x7, x8, x9, x10]) ∧ ∃ K, g1 = g ++ .lst ((bestL (pT a) d m).map eD) :: K) (fun _ _ _ _ => lock_nil _) ?_ (fun s g hh => hh) _ _ ⟨⟨_, _, _, _, _, _, _, rfl⟩, [], rfl⟩
    rintro m s g1 hm ⟨⟨x4, x5, x6, x7, x8, x9, x10, rfl⟩, K, rfl⟩
    refine ⟨[some (tarT a), some (.int (d : Nat)), some (.int (n : Nat)), some (.ref g.length), some (.int ((1 + m : Nat) : Int)), x5, x6, x7, x8, x9, x10], by simp, ?_⟩
    rw [Nat.add_comm 1 m]
    generalize hN : m + 1 = c at *
    have body : post (fun s g2 => (∃ x4 x5 x6 x7 x8 x9 x10, s = [some (tarT a), some (.int (d : Nat)), some (.int (n : Nat)), some (.ref g.length), x4, x5, x6, x7, x8, x9, x10]) ∧ ∃ K, g2 = g ++ .lst ((bestL (pT a) d c).map eD) :: K) (fun _ _ => False) (fun _ _ => False)
        (evSs (fnG (k + 3)) (.cons (.set 5 (.lst true .nil)) (.cons (.for_ (.name 6) (.range1 (.var 4)) (.cons (.unp [7, 8, 9] (.idx (.var 3) (.var 6))) (.cons (.set 10 (.meth (.var 0) 3 (.cons (.bin .mod (.bin .add (.var 1) (.var 6)) (.con 3)) (.cons (.bin .sub (.var 4) (.var 6)) .nil)))) (.cons (.app (.var 5) (.tup (.cons (.bin .add (.var 7) (.var 10)) (.cons (.bin .add (.var 8) (.int 1)) (.cons (.bin .add (.var 9) (.tup (.cons (.bin .sub (.var 4) (.var 6)) .nil))) .nil))))) .nil)))) (.cons (.app (.var 3) (.bi .min (.cons (.var 5) .nil))) .nil))) [some (tarT a), some (.int (d : Nat)), some (.int (n : Nat)), some (.ref g.length), some (.int (c : Nat)), x5, x6, x7, x8, x9, x10] (g ++ .lst ((bestL (pT a) d m).map eD) :: K)) := by
      refine post_nx (s1 := [some (tarT a), some (.int (d : Nat)), some (.int (n : Nat)), some (.ref g.length), some (.int (c : Nat)), some (.ref (g.length + 1 + K.length)), x6, x7, x8, x9, x10]) (g1 := g ++ .lst ((bestL (pT a) d m).map eD) :: (K ++ [.lst ((wpre (pT a) d c 0).map eD)])) (by simp [mkL, wpre]; omega) ?_
      refine post_cons (N := fun s g2 => (∃ x6 x7 x8 x9 x10, s = [some (tarT a), some (.int (d : Nat)), some (.int (n : Nat)), some (.ref g.length), some (.int (c : Nat)), some (.ref (g.length + 1 + K.length)), x6, x7, x8, x9, x10]) ∧ g2 = g ++ .lst ((bestL (pT a) d m).map eD) :: (K ++ [.lst ((wpre (pT a) d c c).map eD)])) ?_ ?_
      · have er := evI_rN (W := fnG (k + 3)) (a := .var 4) (s := [some (tarT a), some (.int (d : Nat)), some (.int (n : Nat)), some (.ref g.length), some (.int (c : Nat)), some (.ref (g.length + 1 + K.length)), x6, x7, x8, x9, x10]) (g := g ++ .lst ((bestL (pT a) d m).map eD) :: (K ++ [.lst ((wpre (pT a) d c 0).map eD)])) (g' := g ++ .lst ((bestL (pT a) d m).map eD) :: (K ++ [.lst ((wpre (pT a) d c 0).map eD)])) (n := c) (by simp) (lim_le (by omega))
        rw [evS_for_, er]
        refine forL_range _ _ (fun i s g2 => (∃ x6 x7 x8 x9 x10, s = [some (tarT a), some (.int (d : Nat)), some (.int (n : Nat)), some (.ref g.length), some (.int (c : Nat)), some (.ref (g.length + 1 + K.length)), x6, x7, x8, x9, x10]) ∧ g2 = g ++ .lst ((bestL (pT a) d m).map eD) :: (K ++ [.lst ((wpre (pT a) d c i).map eD)])) (fun _ _ _ _ => lock_nil _) ?_ (fun s g hh => hh) _ _ ⟨⟨x6, x7, x8, x9, x10, rfl⟩, rfl⟩
        rintro i s g2 hi ⟨⟨y6, y7, y8, y9, y10, rfl⟩, rfl⟩
        obtain ⟨b1, b2, b3, b4⟩ := best_parts (p := pT a) d i
        have i1 : idxD (g ++ .lst ((bestL (pT a) d m).map eD) :: (K ++ [.lst ((wpre (pT a) d c i).map eD)])) (.ref g.length) (.int (i : Nat)) = some (eD (bestE (pT a) d i)) := idx_at (g_at0 _ _ _) (bestL_get (by omega))
        have e1 := pts_c (k := k) (g := g ++ .lst ((bestL (pT a) d m).map eD) :: (K ++ [.lst ((wpre (pT a) d c i).map eD)])) ha d c i (by omega)
        have i2 : ∀ G, binD .add G (.tup ((bestE (pT a) d i).2.2.map .int)) (.tup [.int ((c : Int) - (i : Int))]) = some (.tup (((bestE (pT a) d i).2.2 ++ [((c - i : Nat) : Int)]).map .int)) := fun G => by
          rw [catT (lim_le (by simp; omega)), List.map_append]
          congr 4
          simp; omega
        have i3 := g_at g (.lst ((bestL (pT a) d m).map eD)) K (.lst ((wpre (pT a) d c i).map eD))
        have i4 : ((wpre (pT a) d c i).map eD).length < LIM := lim_lt (by rw [List.length_map, wpre_len]; omega)
        have i5 := g_set g (.lst ((bestL (pT a) d m).map eD)) K (.lst ((wpre (pT a) d c i).map eD))
        have i6 : (wpre (pT a) d c i).map eD ++ [.tup [.int ((bestE (pT a) d i).1 + pT a (d + i) (c - i)), .int ((bestE (pT a) d i).2.1 + 1), .tup (((bestE (pT a) d i).2.2 ++ [((c - i : Nat) : Int)]).map .int)]] = (wpre (pT a) d c (i + 1)).map eD := by
          rw [wpre_succ, List.map_append (f := eD)]; rfl
        have l1 : (1 : Nat) ≤ LIM := lim_le (by omega)
        have l3 : (3 : Nat) ≤ LIM := lim_le (by omega)
        refine ⟨[some (tarT a), some (.int (d : Nat)), some (.int (n : Nat)), some (.ref g.length), some (.int (c : Nat)), some (.ref (g.length + 1 + K.length)), some (.int (i : Nat)), y7, y8, y9, y10], by simp, .inl ⟨[some (tarT a), some (.int (d : Nat)), some (.int (n : Nat)), some (.ref g.length), some (.int (c : Nat)), some (.ref (g.length + 1 + K.length)), some (.int (i : Nat)), some (.int (bestE (pT a) d i).1), some (.int (bestE (pT a) d i).2.1), some (.tup ((bestE (pT a) d i).2.2.map .int)), some (.int (pT a (d + i) (c - i)))], g ++ .lst ((bestL (pT a) d m).map eD) :: (K ++ [.lst ((wpre (pT a) d c (i + 1)).map eD)]), ?_, ⟨_, _, _, _, _, rfl⟩, rfl⟩⟩
        rw [← i6]
        generalize (wpre (pT a) d c i).map eD = WP at *
        generalize (bestL (pT a) d m).map eD = BL at *
        generalize ((bestE (pT a) d i).2.2 ++ [((c - i : Nat) : Int)]).map D.int = PP at *
        rw [eD] at i1
        generalize (bestE (pT a) d i).2.2.map D.int = QQ at *
        generalize hG : g ++ .lst BL :: (K ++ [.lst WP]) = GG at *
        simp [i1, con3, mth3', b_mod _ _ 7 (by decide), e1, i2, i3, i4, i5]
      · rintro s g2 ⟨⟨y6, y7, y8, y9, y10, rfl⟩, rfl⟩
        have i1 := i_minE (g := g ++ .lst ((bestL (pT a) d m).map eD) :: (K ++ [.lst ((wpre (pT a) d c c).map eD)])) (g_at _ _ _ _) (by rw [← hN]; simp [wpre])
        have i2 : ((bestL (pT a) d m).map eD).length < LIM := lim_lt (by rw [List.length_map, bestL_len]; omega)
        have i3 := g_at0 g (.lst ((bestL (pT a) d m).map eD)) (K ++ [.lst ((wpre (pT a) d c c).map eD)])
        have i4 := fun z => g_set0 g (.lst ((bestL (pT a) d m).map eD)) z (K ++ [.lst ((wpre (pT a) d c c).map eD)])
        have i5 : (bestL (pT a) d m).map eD ++ [eD (minE (wpre (pT a) d c c))] = (bestL (pT a) d c).map eD := by
          rw [← hN, bestL_succ, List.map_append]; rfl
        have e : evSs (fnG (k + 3)) (.cons (.app (.var 3) (.bi .min (.cons (.var 5) .nil))) .nil) [some (tarT a), some (.int (d : Nat)), some (.int (n : Nat)), some (.ref g.length), some (.int (c : Nat)), some (.ref (g.length + 1 + K.length)), y6, y7, y8, y9, y10] (g ++ .lst ((bestL (pT a) d m).map eD) :: (K ++ [.lst ((wpre (pT a) d c c).map eD)])) = .nx [some (tarT a), some (.int (d : Nat)), some (.int (n : Nat)), some (.ref g.length), some (.int (c : Nat)), some (.ref (g.length + 1 + K.length)), y6, y7, y8, y9, y10] (g ++ .lst ((bestL (pT a) d c).map eD) :: (K ++ [.lst ((wpre (pT a) d c c).map eD)])) := by
          rw [← i5]
          generalize minE (wpre (pT a) d c c) = ME at *
          generalize (wpre (pT a) d c c).map eD = WP at *
          generalize (bestL (pT a) d m).map eD = BL at *
          generalize hG : g ++ .lst BL :: (K ++ [.lst WP]) = GG at *
          simp [i1, i2, i3, i4]
        rw [e]
        exact ⟨⟨_, _, _, _, _, _, _, rfl⟩, _, rfl⟩
    rcases post_cases body with ⟨s1, g3, e, h1, h2⟩ | ⟨_, _, _, hh⟩ | ⟨_, _, _, _, hh⟩
    · exact .inl ⟨s1, g3, e, h1, h2⟩
    · exact hh.elim
    · exact hh.elim
  · rintro s g1 ⟨⟨x4, x5, x6, x7, x8, x9, x10, rfl⟩, K, rfl⟩
    have i1 : idxD (g ++ .lst ((bestL (pT a) d n).map eD) :: K) (.ref g.length) (.int (n : Nat)) = some (eD (bestE (pT a) d n)) := idx_at (g_at0 _ _ _) (bestL_get (Nat.le_refl _))
    have i2 : ∀ G, idxD G (eD (bestE (pT a) d n)) (.int 0) = some (.int (bestE (pT a) d n).1) := fun G => rfl
    have i3 : ∀ G, idxD G (eD (bestE (pT a) d n)) (.int 2) = some (.tup ((bestE (pT a) d n).2.2.map .int)) := fun G => rfl
    have l2 : (2 : Nat) ≤ LIM := lim_le (by omega)
    have e : evS (fnG (k + 3)) (.ret (.tup (.cons (.idx (.idx (.var 3) (.var 2)) (.int 0)) (.cons (.idx (.idx (.var 3) (.var 2)) (.int 2)) .nil)))) [some (tarT a), some (.int (d : Nat)), some (.int (n : Nat)), some (.ref g.length), x4, x5, x6, x7, x8, x9, x10] (g ++ .lst ((bestL (pT a) d n).map eD) :: K) = .rt (.tup [.int (bestE (pT a) d n).1, .tup ((bestE (pT a) d n).2.2.map .int)]) (g ++ .lst ((bestL (pT a) d n).map eD) :: K) := by
      generalize (bestE (pT a) d n).2.2.map D.int = QQ at *
      generalize (bestL (pT a) d n).map eD = BL at *
      simp [i1, i2, i3]
    rw [evSs_rt e]
    exact ⟨rfl, _, rfl⟩
end
end KT

namespace KT
open KN
section
variable {k : Nat} {g : G} {a : Tar}
theorem lbest_ok (ha : a.good) (d n : Nat) (hn : n ≤ 40) : call (k + 2) 1031 [rawD a, .int (d : Nat), .int (n : Nat)] g = .ok (eD (bestE (pT a) d n)) g := by
  rw [call_eq pg1031 rfl]
  refine end_rt (V := fun v g1 => v = eD (bestE (pT a) d n) ∧ ∃ L, g1 = g ++ L) ?_ (by rintro v g1 ⟨rfl, L, rfl⟩; exact exitD_pur g L _ (eD_pur 56 _))
  have l1 : (1 : Nat) ≤ LIM := lim_le (by omega)
  refine post_nx (s1 := [some (rawD a), some (.int (d : Nat)), some (.int (n : Nat)), some (.ref g.length), none, none, none, none, none, none]) (g1 := g ++ [.lst ((bestL (pT a) d 0).map eD)]) (by simp [f1031, mkL, l1, bestL, e0, eD]) ?_
  refine post_cons (N := fun s g1 => (∃ x4 x5 x6 x7 x8 x9, s = [some (rawD a), some (.int (d : Nat)), some (.int (n : Nat)), some (.ref g.length), x4, x5, x6, x7, x8, x9]) ∧ ∃ K, g1 = g ++ .lst ((bestL (pT a) d n).map eD) :: K) ?_ ?_
  · have er0 : (rangeI (1 : Nat) ((1 + n : Nat) : Int)).map D.int = (List.range n).map fun m => D.int ((1 + m : Nat) : Int) := range_up 1 n
    have er := evI_r2 (W := fnG (k + 1)) (a := .int 1) (b := .bin .add (.var 2) (.int 1)) (s := [some (rawD a), some (.int (d : Nat)), some (.int (n : Nat)), some (.ref g.length), none, none, none, none, none, none]) (g := g ++ [.lst ((bestL (pT a) d 0).map eD)]) (g' := g ++ [.lst ((bestL (pT a) d 0).map eD)]) (g2 := g ++ [.lst ((bestL (pT a) d 0).map eD)]) (lo := 1) (hi := ((1 + n : Nat) : Int)) (by simp) (by simp; omega) (by omega) (by omega) (by omega) (by omega)
    have er : _ = R.ok ((rangeI (1 : Nat) ((1 + n : Nat) : Int)).map D.int, []) _ := er
    rw [er0] at er
    rw [evS_for_, er]
    refine forL_range _ _ (fun m s g1 => (∃ x4 x5 x6 x7 x8 x9, s = [some (rawD a), some (.int (d : Nat)), some (.int (n : Nat)), some (.ref g.length), x4, x5, x6, x7, x8, x9]) ∧ ∃ K, g1 = g ++ .lst ((bestL (pT a) d m).map eD) :: K) (fun _ _ _ _ => lock_nil _) ?_ (fun s g hh => hh) _ _ ⟨⟨_, _, _, _, _, _, rfl⟩, [], rfl⟩
    rintro m s g1 hm ⟨⟨x4, x5, x6, x7, x8, x9, rfl⟩, K, rfl⟩
    refine ⟨[some (rawD a), some (.int (d : Nat)), some (.int (n : Nat)), some (.ref g.length), some (.int ((1 + m : Nat) : Int)), x5, x6, x7, x8, x9], by simp, ?_⟩
    rw [Nat.add_comm 1 m]
    generalize hN : m + 1 = c at *
    have body : post (fun s g2 => (∃ x4 x5 x6 x7 x8 x9, s = [some (rawD a), some (.int (d : Nat)), some (.int (n : Nat)), some (.ref g.length), x4, x5, x6, x7, x8, x9]) ∧ ∃ K, g2 = g ++ .lst ((bestL (pT a) d c).map eD) :: K) (fun _ _ => False) (fun _ _ => False)
        (evSs (fnG (k + 1)) (.cons (.set 5 (.lst true .nil)) (.cons (.for_ (.name 6) (.range1 (.var 4)) (.cons (.unp [7, 8, 9] (.idx (.var 3) (.var 6))) (.cons (.app (.var 5) (.tup (.cons (.bin .add (.var 7) (.call 1027 (.cons (.var 0) (.cons (.bin .mod (.bi .int (.cons (.bin .add (.var 1) (.var 6)) .nil)) (.int 7)) (.cons (.bin .sub (.var 4) (.var 6)) .nil))))) (.cons (.bin .add (.var 8) (.int 1)) (.cons (.bin .add (.var 9) (.tup (.cons (.bin .sub (.var 4) (.var 6)) .nil))) .nil))))) .nil))) (.cons (.app (.var 3) (.bi .min (.cons (.var 5) .nil))) .nil))) [some (rawD a), some (.int (d : Nat)), some (.int (n : Nat)), some (.ref g.length), some (.int (c : Nat)), x5, x6, x7, x8, x9] (g ++ .lst ((bestL (pT a) d m).map eD) :: K)) := by
      refine post_nx (s1 := [some (rawD a), some (.int (d : Nat)), some (.int (n : Nat)), some (.ref g.length), some (.int (c : Nat)), some (.ref (g.length + 1 + K.length)), x6, x7, x8, x9]) (g1 := g ++ .lst ((bestL (pT a) d m).map eD) :: (K ++ [.lst ((wpre (pT a) d c 0).map eD)])) (by simp [mkL, wpre]; omega) ?_
      refine post_cons (N := fun s g2 => (∃ x6 x7 x8 x9, s = [some (rawD a), some (.int (d : Nat)), some (.int (n : Nat)), some (.ref g.length), some (.int (c : Nat)), some (.ref (g.length + 1 + K.length)), x6, x7, x8, x9]) ∧ g2 = g ++ .lst ((bestL (pT a) d m).map eD) :: (K ++ [.lst ((wpre (pT a) d c c).map eD)])) ?_ ?_
      · have er := evI_rN (W := fnG (k + 1)) (a := .var 4) (s := [some (rawD a), some (.int (d : Nat)), some (.int (n : Nat)), some (.ref g.length), some (.int (c : Nat)), some (.ref (g.length + 1 + K.length)), x6, x7, x8, x9]) (g := g ++ .lst ((bestL (pT a) d m).map eD) :: (K ++ [.lst ((wpre (pT a) d c 0).map eD)])) (g' := g ++ .lst ((bestL (pT a) d m).map eD) :: (K ++ [.lst ((wpre (pT a) d c 0).map eD)])) (n := c) (by simp) (lim_le (by omega))
        rw [evS_for_, er]
        refine forL_range _ _ (fun i s g2 => (∃ x6 x7 x8 x9, s = [some (rawD a), some (.int (d : Nat)), some (.int (n : Nat)), some (.ref g.length), some (.int (c : Nat)), some (.ref (g.length + 1 + K.length)), x6, x7, x8, x9]) ∧ g2 = g ++ .lst ((bestL (pT a) d m).map eD) :: (K ++ [.lst ((wpre (pT a) d c i).map eD)])) (fun _ _ _ _ => lock_nil _) ?_ (fun s g hh => hh) _ _ ⟨⟨x6, x7, x8, x9, rfl⟩, rfl⟩
        rintro i s g2 hi ⟨⟨y6, y7, y8, y9, rfl⟩, rfl⟩
        obtain ⟨b1, b2, b3, b4⟩ := best_parts (p := pT a) d i
        have i1 : idxD (g ++ .lst ((bestL (pT a) d m).map eD) :: (K ++ [.lst ((wpre (pT a) d c i).map eD)])) (.ref g.length) (.int (i : Nat)) = some (eD (bestE (pT a) d i)) := idx_at (g_at0 _ _ _) (bestL_get (by omega))
        have e1 := lpts_c (k := k) (g := g ++ .lst ((bestL (pT a) d m).map eD) :: (K ++ [.lst ((wpre (pT a) d c i).map eD)])) (v := rawD a) ⟨_, rfl, .inl rfl⟩ ha d c i (by omega)
        have i2 : ∀ G, binD .add G (.tup ((bestE (pT a) d i).2.2.map .int)) (.tup [.int ((c : Int) - (i : Int))]) = some (.tup (((bestE (pT a) d i).2.2 ++ [((c - i : Nat) : Int)]).map .int)) := fun G => by
          rw [catT (lim_le (by simp; omega)), List.map_append]
          congr 4
          simp; omega
        have i3 := g_at g (.lst ((bestL (pT a) d m).map eD)) K (.lst ((wpre (pT a) d c i).map eD))
        have i4 : ((wpre (pT a) d c i).map eD).length < LIM := lim_lt (by rw [List.length_map, wpre_len]; omega)
        have i5 := g_set g (.lst ((bestL (pT a) d m).map eD)) K (.lst ((wpre (pT a) d c i).map eD))
        have i6 : (wpre (pT a) d c i).map eD ++ [.tup [.int ((bestE (pT a) d i).1 + pT a (d + i) (c - i)), .int ((bestE (pT a) d i).2.1 + 1), .tup (((bestE (pT a) d i).2.2 ++ [((c - i : Nat) : Int)]).map .int)]] = (wpre (pT a) d c (i + 1)).map eD := by
          rw [wpre_succ, List.map_append (f := eD)]; rfl
        have l1 : (1 : Nat) ≤ LIM := lim_le (by omega)
        have l3 : (3 : Nat) ≤ LIM := lim_le (by omega)
        refine ⟨[some (rawD a), some (.int (d : Nat)), some (.int (n : Nat)), some (.ref g.length), some (.int (c : Nat)), some (.ref (g.length + 1 + K.length)), some (.int (i : Nat)), y7, y8, y9], by simp, .inl ⟨[some (rawD a), some (.int (d : Nat)), some (.int (n : Nat)), some (.ref g.length), some (.int (c : Nat)), some (.ref (g.length + 1 + K.length)), some (.int (i : Nat)), some (.int (bestE (pT a) d i).1), some (.int (bestE (pT a) d i).2.1), some (.tup ((bestE (pT a) d i).2.2.map .int))], g ++ .lst ((bestL (pT a) d m).map eD) :: (K ++ [.lst ((wpre (pT a) d c (i + 1)).map eD)]), ?_, ⟨_, _, _, _, rfl⟩, rfl⟩⟩
        rw [← i6]
        generalize (wpre (pT a) d c i).map eD = WP at *
        generalize (bestL (pT a) d m).map eD = BL at *
        generalize ((bestE (pT a) d i).2.2 ++ [((c - i : Nat) : Int)]).map D.int = PP at *
        rw [eD] at i1
        generalize (bestE (pT a) d i).2.2.map D.int = QQ at *
        generalize hG : g ++ .lst BL :: (K ++ [.lst WP]) = GG at *
        simp [i1, b_mod _ _ 7 (by decide), e1, i2, i3, i4, i5]
      · rintro s g2 ⟨⟨y6, y7, y8, y9, rfl⟩, rfl⟩
        have i1 := i_minE (g := g ++ .lst ((bestL (pT a) d m).map eD) :: (K ++ [.lst ((wpre (pT a) d c c).map eD)])) (g_at _ _ _ _) (by rw [← hN]; simp [wpre])
        have i2 : ((bestL (pT a) d m).map eD).length < LIM := lim_lt (by rw [List.length_map, bestL_len]; omega)
        have i3 := g_at0 g (.lst ((bestL (pT a) d m).map eD)) (K ++ [.lst ((wpre (pT a) d c c).map eD)])
        have i4 := fun z => g_set0 g (.lst ((bestL (pT a) d m).map eD)) z (K ++ [.lst ((wpre (pT a) d c c).map eD)])
        have i5 : (bestL (pT a) d m).map eD ++ [eD (minE (wpre (pT a) d c c))] = (bestL (pT a) d c).map eD := by
          rw [← hN, bestL_succ, List.map_append]; rfl
        have e : evSs (fnG (k + 1)) (.cons (.app (.var 3) (.bi .min (.cons (.var 5) .nil))) .nil) [some (rawD a), some (.int (d : Nat)), some (.int (n : Nat)), some (.ref g.length), some (.int (c : Nat)), some (.ref (g.length + 1 + K.length)), y6, y7, y8, y9] (g ++ .lst ((bestL (pT a) d m).map eD) :: (K ++ [.lst ((wpre (pT a) d c c).map eD)])) = .nx [some (rawD a), some (.int (d : Nat)), some (.int (n : Nat)), some (.ref g.length), some (.int (c : Nat)), some (.ref (g.length + 1 + K.length)), y6, y7, y8, y9] (g ++ .lst ((bestL (pT a) d c).map eD) :: (K ++ [.lst ((wpre (pT a) d c c).map eD)])) := by
          rw [← i5]
          generalize minE (wpre (pT a) d c c) = ME at *
          generalize (wpre (pT a) d c c).map eD = WP at *
          generalize (bestL (pT a) d m).map eD = BL at *
          generalize hG : g ++ .lst BL :: (K ++ [.lst WP]) = GG at *
          simp [i1, i2, i3, i4]
        rw [e]
        exact ⟨⟨_, _, _, _, _, _, rfl⟩, _, rfl⟩
    rcases post_cases body with ⟨s1, g3, e, h1, h2⟩ | ⟨_, _, _, hh⟩ | ⟨_, _, _, _, hh⟩
    · exact .inl ⟨s1, g3, e, h1, h2⟩
    · exact hh.elim
    · exact hh.elim
  · rintro s g1 ⟨⟨x4, x5, x6, x7, x8, x9, rfl⟩, K, rfl⟩
    have i1 : idxD (g ++ .lst ((bestL (pT a) d n).map eD) :: K) (.ref g.length) (.int (n : Nat)) = some (eD (bestE (pT a) d n)) := idx_at (g_at0 _ _ _) (bestL_get (Nat.le_refl _))
    have e : evS (fnG (k + 1)) (.ret (.idx (.var 3) (.var 2))) [some (rawD a), some (.int (d : Nat)), some (.int (n : Nat)), some (.ref g.length), x4, x5, x6, x7, x8, x9] (g ++ .lst ((bestL (pT a) d n).map eD) :: K) = .rt (eD (bestE (pT a) d n)) (g ++ .lst ((bestL (pT a) d n).map eD) :: K) := by
      generalize (bestL (pT a) d n).map eD = BL at *
      simp [i1]
    rw [evSs_rt e]
    exact ⟨rfl, _, rfl⟩
end
end KT

namespace KT
open KN
theorem minI_memU : ∀ {ns : List Int}, ns ≠ [] → minI ns ∈ ns ∧ ∀ y ∈ ns, minI ns ≤ y
  | [], h => absurd rfl h
  | [x], _ => by simp [minI]
  | x :: y :: r, _ => by
    obtain ⟨h1, h2⟩ := minI_memU (ns := y :: r) (by simp)
    have e : minI (x :: y :: r) = min x (minI (y :: r)) := rfl
    rw [e]
    refine ⟨?_, fun z hz => ?_⟩
    · rcases Int.le_total x (minI (y :: r)) with q | q
      · rw [Int.min_eq_left q]; exact List.mem_cons_self
      · rw [Int.min_eq_right q]; exact List.mem_cons_of_mem _ h1
    · rcases List.mem_cons.mp hz with q | q
      · omega
      · have := h2 z q; omega
theorem exit_lst (g : G) (xs : List D) (h3 : purs 59 xs = true) : exitD false g (.ref g.length) (g ++ [.lst xs]) = .ok (.lst xs) g :=
  exitD_old g g [.lst xs] (.ref g.length) (.lst xs) rfl (fun a q ha e => .inl e) (snap_lst (by simp) (by simp) h3) (fun h => nomatch h)
theorem min_least (p : Nat → Nat → Int) (d n : Nat) : minI ((List.range (n + 1)).map fun k => least p d k + p (d + k) (n + 1 - k)) = least p d (n + 1) := by
  obtain ⟨h1, h2⟩ := minI_memU (ns := (List.range (n + 1)).map fun k => least p d k + p (d + k) (n + 1 - k)) (by simp)
  obtain ⟨k, hk, e⟩ := List.mem_map.mp h1
  have h3 := least_le (p := p) (d := d) (n := n) (k := k) (by have := List.mem_range.mp hk; omega)
  obtain ⟨j, hj, e2⟩ := least_from (p := p) d n
  have h4 := h2 _ (List.mem_map.mpr ⟨j, List.mem_range.mpr (by omega), rfl⟩)
  omega
section
variable {k : Nat} {g : G} {a : Tar}
theorem saved_ok (ha : a.good) (d n : Nat) (hn : n ≤ 40) : call (k + 5) 72 [tarT a, .int (d : Nat), .int (n : Nat)] g = .ok (.int (pT a d n - least (pT a) d n)) g := by
  rw [call_eq pg72 rfl]
  have e1 := pts_0 (k := k + 1) (g := g) ha d n
  have e2 := cheap_ok (k := k) (g := g) ha d n hn
  simp [f72, mth3', e1, e2, least]
theorem prow_ok (ha : a.good) (d m : Nat) (hm : m ≤ 39) : call (k + 5) 73 [tarT a, .int (d : Nat), .int (m : Nat)] g = .ok (.tup (((List.range m).map fun i => least (pT a) d (i + 1)).map .int)) g := by
  rw [call_eq pg73 rfl]
  have er0 : (rangeI (1 : Nat) ((1 + m : Nat) : Int)).map D.int = (List.range m).map fun i => D.int ((1 + i : Nat) : Int) := range_up 1 m
  have er := evI_r2 (W := fnG (k + 4)) (a := .int 1) (b := .bin .add (.var 2) (.int 1)) (s := [some (tarT a), some (.int (d : Nat)), some (.int (m : Nat)), none]) (g := g) (g' := g) (g2 := g) (lo := 1) (hi := ((1 + m : Nat) : Int)) (by simp) (by simp; omega) (by omega) (by omega) (by omega) (by omega)
  have er : _ = R.ok ((rangeI (1 : Nat) ((1 + m : Nat) : Int)).map D.int, []) _ := er
  rw [er0] at er
  have ec : compL (.name 3) [] (evCs (fnG (k + 4)) .no) (evE (fnG (k + 4)) (.idx (.call 70 (.cons (.var 0) (.cons (.var 1) (.cons (.var 3) .nil)))) (.int 0))) ((List.range m).map fun i => D.int ((1 + i : Nat) : Int)) [some (tarT a), some (.int (d : Nat)), some (.int (m : Nat)), none] g = .ok (((List.range m).map fun i => least (pT a) d (i + 1)).map .int) g := by
    rw [comp_pure (fun i : Nat => D.int ((1 + i : Nat) : Int)) (fun _ => true) (fun i => D.int (least (pT a) d (i + 1))) (List.range m) (lock_nil _) fun z hz => ?_]
    · simp
    · have hz := List.mem_range.mp hz
      have e := cheap_ok (k := k) (g := g) ha d (1 + z) (by omega)
      refine ⟨[some (tarT a), some (.int (d : Nat)), some (.int (m : Nat)), some (.int ((1 + z : Nat) : Int))], by simp, by simp, fun _ => ?_⟩
      rw [Nat.add_comm 1 z] at e ⊢
      generalize hc : z + 1 = c at *
      simp [e, least]
  have hp : pur 60 (.tup (((List.range m).map fun i => least (pT a) d (i + 1)).map D.int)) = true := purs_ints 58 _
  generalize ((List.range m).map fun i => least (pT a) d (i + 1)) = l at *
  rw [show f73.body = .cons (.ret (.bi .tuple (.cons (.comp false (.idx (.call 70 (.cons (.var 0) (.cons (.var 1) (.cons (.var 3) .nil)))) (.int 0)) (.name 3) (.range2 (.int 1) (.bin .add (.var 2) (.int 1))) .no) .nil))) .nil from rfl]
  have e : evE (fnG (k + 4)) (.comp false (.idx (.call 70 (.cons (.var 0) (.cons (.var 1) (.cons (.var 3) .nil)))) (.int 0)) (.name 3) (.range2 (.int 1) (.bin .add (.var 2) (.int 1))) .no) [some (tarT a), some (.int (d : Nat)), some (.int (m : Nat)), none] g = .ok (.lst (l.map .int)) g := by
    rw [evE_comp, er]
    simp only [R.bind_ok, ec, mkC, Bool.false_eq_true, if_false]
  have hst : start f73 [tarT a, .int (d : Nat), .int (m : Nat)] = [some (tarT a), some (.int (d : Nat)), some (.int (m : Nat)), none] := rfl
  rw [hst]
  simp only [evSs_cons, evS_ret, evE_bi, evEs_cons, evEs_nil, e, R.bind_ok]
  simp
  exact exit_pur hp
theorem proofed_ok (ha : a.good) (m : Nat) (hm : m ≤ 39) : call (k + 6) 74 [tarT a, .int (m : Nat)] g = .ok (.tup ((List.range 7).map fun d => .tup (((List.range m).map fun i => least (pT a) d (i + 1)).map .int))) g := by
  rw [call_eq pg74 rfl]
  have er := evI_rN (W := fnG (k + 5)) (a := .con 3) (s := [some (tarT a), some (.int (m : Nat)), none]) (g := g) (g' := g) (n := 7) (by simp [con3]) (lim_le (by omega))
  have ec : compL (.name 2) [] (evCs (fnG (k + 5)) .no) (evE (fnG (k + 5)) (.call 73 (.cons (.var 0) (.cons (.var 2) (.cons (.var 1) .nil))))) ((List.range 7).map fun i => D.int (i : Nat)) [some (tarT a), some (.int (m : Nat)), none] g = .ok ((List.range 7).map fun d => .tup (((List.range m).map fun i => least (pT a) d (i + 1)).map .int)) g := by
    rw [comp_pure (fun i : Nat => D.int (i : Nat)) (fun _ => true) (fun d => .tup (((List.range m).map fun i => least (pT a) d (i + 1)).map .int)) (List.range 7) (lock_nil _) fun z hz => ?_]
    · simp
    · have e := prow_ok (k := k) (g := g) ha z m hm
      refine ⟨[some (tarT a), some (.int (m : Nat)), some (.int (z : Nat))], by simp, by simp, fun _ => ?_⟩
      generalize ((List.range m).map fun i => least (pT a) z (i + 1)) = l at *
      simp [e]
  have hp : pur 60 (.tup ((List.range 7).map fun d => D.tup (((List.range m).map fun i => least (pT a) d (i + 1)).map .int))) = true := by
    show purs 59 _ = true
    refine purs_all fun x hx => ?_
    obtain ⟨d, _, rfl⟩ := List.mem_map.mp hx
    exact purs_ints 57 _
  generalize ((List.range 7).map fun d => D.tup (((List.range m).map fun i => least (pT a) d (i + 1)).map .int)) = l at *
  rw [show f74.body = .cons (.ret (.bi .tuple (.cons (.comp false (.call 73 (.cons (.var 0) (.cons (.var 2) (.cons (.var 1) .nil)))) (.name 2) (.range1 (.con 3)) .no) .nil))) .nil from rfl]
  have e : evE (fnG (k + 5)) (.comp false (.call 73 (.cons (.var 0) (.cons (.var 2) (.cons (.var 1) .nil)))) (.name 2) (.range1 (.con 3)) .no) [some (tarT a), some (.int (m : Nat)), none] g = .ok (.lst l) g := by
    rw [evE_comp, er]
    simp only [R.bind_ok, ec, mkC, Bool.false_eq_true, if_false]
  have hst : start f74 [tarT a, .int (m : Nat)] = [some (tarT a), some (.int (m : Nat)), none] := rfl
  rw [hst]
  simp only [evSs_cons, evS_ret, evE_bi, evEs_cons, evEs_nil, e, R.bind_ok]
  simp
  exact exit_pur hp
theorem pparts_ok {v : D} (xs : List Int) (hv : SeqV g v (xs.map .int)) (ha : a.good) (hx : ∀ x ∈ xs, 0 ≤ x) (d : Nat) : call (k + 4) 71 [tarT a, .int (d : Nat), v] g = .ok (.int (ppts (pT a) d xs)) g := by
  rw [call_eq pg71 rfl]
  obtain ⟨lk, hs, hk⟩ := hv.src
  refine end_rt (V := fun w g1 => w = .int (ppts (pT a) d xs) ∧ g1 = g) ?_ (by rintro w g1 ⟨rfl, rfl⟩; exact exit_pur rfl)
  refine post_nx (s1 := [some (tarT a), some (.int (d : Nat)), some v, some (.int 0), some (.int (d : Nat)), none]) (g1 := g) (by simp [f71]) ?_
  refine post_cons (N := fun s g1 => (∃ y z, s = [some (tarT a), some (.int (d : Nat)), some v, some (.int (ppts (pT a) d xs)), y, z]) ∧ g1 = g) ?_ (by rintro s g1 ⟨⟨y, z, rfl⟩, rfl⟩; simp [post])
  simp only [evS_for_, evI_seq, evE_var, List.getElem?_cons_succ, List.getElem?_cons_zero, R.bind_ok, hs, oR_some]
  refine forL_post D.int (fun r s g1 => (∃ (t : Int) (b : Nat) (z : Option D), s = [some (tarT a), some (.int (d : Nat)), some v, some (.int t), some (.int (b : Nat)), z] ∧ t + ppts (pT a) b r = ppts (pT a) d xs ∧ ∀ x ∈ r, 0 ≤ x) ∧ g1 = g) (fun _ _ _ hh => by rw [hh.2]; exact hk) ?_ ?_ _ _ _ ⟨⟨0, d, none, rfl, by omega, hx⟩, rfl⟩
  · rintro x r s g1 ⟨⟨t, b, z, rfl, e, hr⟩, rfl⟩
    have h0 := hr x List.mem_cons_self
    have e1 := pts_1 (k := k) (g := g1) ha b x.toNat
    rw [show ((x.toNat : Nat) : Int) = x by omega] at e1
    refine ⟨[some (tarT a), some (.int (d : Nat)), some v, some (.int t), some (.int (b : Nat)), some (.int x)], by simp, .inl ⟨[some (tarT a), some (.int (d : Nat)), some v, some (.int (t + pT a b x.toNat)), some (.int ((b : Int) + x)), some (.int x)], g1, by simp [con3, mth3', b_mod _ _ 7 (by decide), e1], ⟨_, b + x.toNat, _, by rw [show (((b + x.toNat : Nat)) : Int) = (b : Int) + x by omega], ?_, fun y hy => hr y (List.mem_cons_of_mem _ hy)⟩, rfl⟩⟩
    simp only [ppts] at e
    omega
  · rintro s g1 ⟨⟨t, b, z, rfl, e, hr⟩, rfl⟩
    simp only [ppts] at e
    exact ⟨⟨some (.int (b : Nat)), z, by rw [← e]; simp⟩, rfl⟩
theorem lleast_ok (ha : a.good) (d m : Nat) (hm : m ≤ 40) : call (k + 2) 1030 [rawD a, .int (d : Nat), .int (m : Nat)] g = .ok (.lst (((List.range (m + 1)).map (least (pT a) d)).map .int)) g := by
  rw [call_eq pg1030 rfl]
  refine end_rt (V := fun v g1 => v = .ref g.length ∧ g1 = g ++ [.lst (((List.range (m + 1)).map (least (pT a) d)).map .int)]) ?_ (by rintro v g1 ⟨rfl, rfl⟩; exact exit_lst g _ (purs_ints 58 _))
  have l1 : (1 : Nat) ≤ LIM := lim_le (by omega)
  refine post_nx (s1 := [some (rawD a), some (.int (d : Nat)), some (.int (m : Nat)), some (.ref g.length), none, none]) (g1 := g ++ [.lst (((List.range (0 + 1)).map (least (pT a) d)).map .int)]) (by simp [f1030, mkL, l1, least_zero]) ?_
  refine post_cons (N := fun s g1 => (∃ x4 x5, s = [some (rawD a), some (.int (d : Nat)), some (.int (m : Nat)), some (.ref g.length), x4, x5]) ∧ g1 = g ++ [.lst (((List.range (m + 1)).map (least (pT a) d)).map .int)]) ?_ (by rintro s g1 ⟨⟨x4, x5, rfl⟩, rfl⟩; simp [post])
  have er0 : (rangeI (1 : Nat) ((1 + m : Nat) : Int)).map D.int = (List.range m).map fun i => D.int ((1 + i : Nat) : Int) := range_up 1 m
  have er := evI_r2 (W := fnG (k + 1)) (a := .int 1) (b := .bin .add (.var 2) (.int 1)) (s := [some (rawD a), some (.int (d : Nat)), some (.int (m : Nat)), some (.ref g.length), none, none]) (g := g ++ [.lst (((List.range (0 + 1)).map (least (pT a) d)).map .int)]) (g' := g ++ [.lst (((List.range (0 + 1)).map (least (pT a) d)).map .int)]) (g2 := g ++ [.lst (((List.range (0 + 1)).map (least (pT a) d)).map .int)]) (lo := 1) (hi := ((1 + m : Nat) : Int)) (by simp) (by simp; omega) (by omega) (by omega) (by omega) (by omega)
  have er : _ = R.ok ((rangeI (1 : Nat) ((1 + m : Nat) : Int)).map D.int, []) _ := er
  rw [er0] at er
  rw [evS_for_, er]
  refine forL_range _ _ (fun i s g1 => (∃ x4 x5, s = [some (rawD a), some (.int (d : Nat)), some (.int (m : Nat)), some (.ref g.length), x4, x5]) ∧ g1 = g ++ [.lst (((List.range (i + 1)).map (least (pT a) d)).map .int)]) (fun _ _ _ _ => lock_nil _) ?_ (fun s g hh => hh) _ _ ⟨⟨_, _, rfl⟩, rfl⟩
  rintro i s g1 hi ⟨⟨x4, x5, rfl⟩, rfl⟩
  refine ⟨[some (rawD a), some (.int (d : Nat)), some (.int (m : Nat)), some (.ref g.length), some (.int ((1 + i : Nat) : Int)), x5], by simp, .inl ⟨[some (rawD a), some (.int (d : Nat)), some (.int (m : Nat)), some (.ref g.length), some (.int ((1 + i : Nat) : Int)), x5], g ++ [.lst (((List.range (i + 1 + 1)).map (least (pT a) d)).map .int)], ?_, ⟨_, _, rfl⟩, rfl⟩⟩
  rw [Nat.add_comm 1 i]
  have er2 := evI_rN (W := fnG (k + 1)) (a := .var 4) (s := [some (rawD a), some (.int (d : Nat)), some (.int (m : Nat)), some (.ref g.length), some (.int ((i + 1 : Nat) : Int)), x5]) (g := g ++ [.lst (((List.range (i + 1)).map (least (pT a) d)).map .int)]) (g' := g ++ [.lst (((List.range (i + 1)).map (least (pT a) d)).map .int)]) (n := i + 1) (by simp) (lim_le (by omega))
  have ec : compL (.name 5) [] (evCs (fnG (k + 1)) .no) (evE (fnG (k + 1)) (.bin .add (.idx (.var 3) (.var 5)) (.call 1027 (.cons (.var 0) (.cons (.bin .mod (.bi .int (.cons (.bin .add (.var 1) (.var 5)) .nil)) (.int 7)) (.cons (.bin .sub (.var 4) (.var 5)) .nil)))))) ((List.range (i + 1)).map fun k => D.int (k : Nat)) [some (rawD a), some (.int (d : Nat)), some (.int (m : Nat)), some (.ref g.length), some (.int ((i + 1 : Nat) : Int)), x5] (g ++ [.lst (((List.range (i + 1)).map (least (pT a) d)).map .int)]) = .ok (((List.range (i + 1)).map fun k => least (pT a) d k + pT a (d + k) (i + 1 - k)).map .int) (g ++ [.lst (((List.range (i + 1)).map (least (pT a) d)).map .int)]) := by
    rw [comp_pure (fun z : Nat => D.int (z : Nat)) (fun _ => true) (fun k => D.int (least (pT a) d k + pT a (d + k) (i + 1 - k))) (List.range (i + 1)) (lock_nil _) fun z hz => ?_]
    · simp
    · have hz := List.mem_range.mp hz
      have e1 := lpts_c (k := k) (g := g ++ [.lst (((List.range (i + 1)).map (least (pT a) d)).map .int)]) (v := rawD a) ⟨_, rfl, .inl rfl⟩ ha d (i + 1) z (by omega)
      have i1 : idxD (g ++ [.lst (((List.range (i + 1)).map (least (pT a) d)).map .int)]) (.ref g.length) (.int (z : Nat)) = some (.int (least (pT a) d z)) := idx_at (g_at0 _ _ _) (by simp [hz])
      refine ⟨[some (rawD a), some (.int (d : Nat)), some (.int (m : Nat)), some (.ref g.length), some (.int ((i + 1 : Nat) : Int)), some (.int (z : Nat))], by simp, by simp, fun _ => ?_⟩
      generalize ((List.range (i + 1)).map (least (pT a) d)).map D.int = BL at *
      generalize hc : i + 1 = c at *
      simp [i1, b_mod _ _ 7 (by decide), e1]
  have e2 : biD .min (g ++ [.lst (((List.range (i + 1)).map (least (pT a) d)).map .int)]) [.lst (((List.range (i + 1)).map fun k => least (pT a) d k + pT a (d + k) (i + 1 - k)).map .int)] = some (.int (least (pT a) d (i + 1))) := by
    rw [i_min _ _ (by simp), min_least]
  have i3 := g_at0 g (.lst (((List.range (i + 1)).map (least (pT a) d)).map .int)) []
  have i4 := fun z => g_set0 g (.lst (((List.range (i + 1)).map (least (pT a) d)).map .int)) z []
  have i5 : ((List.range (i + 1)).map (least (pT a) d)).map D.int ++ [.int (least (pT a) d (i + 1))] = ((List.range (i + 1 + 1)).map (least (pT a) d)).map D.int := by
    rw [List.range_succ (n := i + 1), List.map_append, List.map_append]; rfl
  have i6 : (((List.range (i + 1)).map (least (pT a) d)).map D.int).length < LIM := lim_lt (by simp; omega)
  rw [← i5]
  have ee : evE (fnG (k + 1)) (.comp false (.bin .add (.idx (.var 3) (.var 5)) (.call 1027 (.cons (.var 0) (.cons (.bin .mod (.bi .int (.cons (.bin .add (.var 1) (.var 5)) .nil)) (.int 7)) (.cons (.bin .sub (.var 4) (.var 5)) .nil))))) (.name 5) (.range1 (.var 4)) .no) [some (rawD a), some (.int (d : Nat)), some (.int (m : Nat)), some (.ref g.length), some (.int ((i + 1 : Nat) : Int)), x5] (g ++ [.lst (((List.range (i + 1)).map (least (pT a) d)).map .int)]) = .ok (.lst (((List.range (i + 1)).map fun k => least (pT a) d k + pT a (d + k) (i + 1 - k)).map .int)) (g ++ [.lst (((List.range (i + 1)).map (least (pT a) d)).map .int)]) := by
    rw [evE_comp, er2]
    simp only [R.bind_ok, ec, mkC, Bool.false_eq_true, if_false]
  generalize ((List.range (i + 1)).map fun k => least (pT a) d k + pT a (d + k) (i + 1 - k)).map D.int = CC at *
  generalize ((List.range (i + 1)).map (least (pT a) d)).map D.int = BL at *
  generalize hc : i + 1 = c at *
  simp only [evSs_cons, evSs_nil, evS_app, evE_var, List.getElem?_cons_succ, List.getElem?_cons_zero, toF, i3, evE_bi, evEs_cons, evEs_nil, ee, R.bind_ok, e2, oR_some, i6, if_true, i4]
end
end KT

namespace KT
open KN
def ok3 (T : Nat → Nat → Int) (d n x : Nat) : Prop := T d (n - 1) ≤ T d (x - 1) + T ((d + x) % 7) (n - x - 1)
def lex3 (d' n' x' d n x : Nat) : Prop := d' < d ∨ d' = d ∧ (n' < n ∨ n' = n ∧ x' < x)
/-- nothing breaks it ahead of a place -/
def AllB (T : Nat → Nat → Int) (m d n x : Nat) : Prop := ∀ d' n' x' : Nat, lex3 d' n' x' d n x → d' < 7 → 2 ≤ n' → n' ≤ m → 1 ≤ x' → x' < n' → ok3 T d' n' x'
def SubP (T : Nat → Nat → Int) (m : Nat) : Prop := ∀ d n x : Nat, d < 7 → 2 ≤ n → n ≤ m → 1 ≤ x → x < n → ok3 T d n x
structure RowsV (g : G) (v : D) (vs : List D) (T : Nat → Nat → Int) (m : Nat) : Prop where
  sv : SeqV g v vs
  len : vs.length = 7
  row : ∀ i : Nat, i < 7 → ∃ r : List Int, SeqV g (vs.getD i .non) (r.map .int) ∧ r.length = m ∧ ∀ j : Nat, j < m → r[j]? = some (T i j)
section
variable {k : Nat} {g : G} {v : D} {vs : List D} {T : Nat → Nat → Int} {m : Nat}
theorem RowsV.at1 (h : RowsV g v vs T m) {i : Nat} (hi : i < 7) : idxD g v (.int (i : Nat)) = some (vs.getD i .non) := by
  have hl : i < vs.length := by rw [h.len]; exact hi
  exact h.sv.idx (by simp [List.getD_eq_getElem?_getD, hl])
theorem RowsV.at2 (h : RowsV g v vs T m) {i j : Nat} (hi : i < 7) (hj : j < m) : idxD g (vs.getD i .non) (.int (j : Nat)) = some (.int (T i j)) := by
  obtain ⟨r, h1, h2, h3⟩ := h.row i hi
  exact h1.idx (by rw [List.getElem?_map, h3 j hj]; rfl)
theorem RowsV.ln (h : RowsV g v vs T m) {i : Nat} (hi : i < 7) : biD .len g [vs.getD i .non] = some (.int (m : Nat)) := by
  obtain ⟨r, h1, h2, h3⟩ := h.row i hi
  rw [h1.len, List.length_map, h2]
theorem subadd_x (h : RowsV g v vs T m) (hm : m ≤ 100) : ∃ c : Bool, call (k + 1) 75 [v] g = .ok (.bl c) g ∧ (c = true ↔ SubP T m) := by
  rw [call_eq pg75 rfl]
  have key : ∃ w, endF f75.keep g (evSs (fnG k) f75.body (start f75 [v]) g) = .ok w g ∧ ((w = .bl true ∧ SubP T m) ∨ (w = .bl false ∧ ¬ SubP T m)) := by
    refine end_ex ?_
    refine post_cons (N := fun s g1 => g1 = g ∧ AllB T m 7 0 0) ?_ (by
      rintro s g1 ⟨rfl, hb⟩
      simp [post]
      exact fun d n x h1 h2 h3 h4 h5 => hb d n x (by unfold lex3; omega) h1 h2 h3 h4 h5)
    obtain ⟨lk, hs, hk⟩ := h.sv.src
    show post _ _ _ (evS (fnG k) (.for_ _ _ _) [some v, none, none, none, none] g)
    simp only [evS_for_, evI_enum, evE_var, List.getElem?_cons_succ, List.getElem?_cons_zero, R.bind_ok, hs, oR_some]
    rw [enum_rng, h.len]
    refine forL_range _ _ (fun i s g1 => (∃ x1 x2 x3 x4, s = [some v, x1, x2, x3, x4]) ∧ g1 = g ∧ AllB T m i 0 0) (fun _ _ _ hh => by rw [hh.2.1]; exact hk) ?_ (fun s g hh => hh.2) _ _ ⟨⟨_, _, _, _, rfl⟩, rfl, fun d' n' x' h1 => by unfold lex3 at h1; omega⟩
    rintro i s g1 hi ⟨⟨x1, x2, x3, x4, rfl⟩, rfl, hb⟩
    refine ⟨[some v, some (.int (i : Nat)), some (vs.getD i .non), x3, x4], by simp [-List.getD_eq_getElem?_getD], ?_⟩
    have a2 := h.ln hi
    have mid : post (fun s g2 => (∃ x3 x4, s = [some v, some (.int (i : Nat)), some (vs.getD i .non), x3, x4]) ∧ g2 = g1 ∧ AllB T m (i + 1) 0 0) (fun w g2 => ((w = .bl true ∧ SubP T m) ∨ (w = .bl false ∧ ¬ SubP T m)) ∧ pur 60 w = true ∧ ∃ L, g2 = g1 ++ L) (fun _ _ => False)
        (evSs (fnG k) (.cons (.for_ (.name 3) (.range2 (.int 2) (.bin .add (.bi .len (.cons (.var 2) .nil)) (.int 1))) (.cons (.for_ (.name 4) (.range2 (.int 1) (.var 3)) (.cons (.ite (.cmp .gt (.idx (.var 2) (.bin .sub (.var 3) (.int 1))) (.bin .add (.idx (.var 2) (.bin .sub (.var 4) (.int 1))) (.idx (.idx (.var 0) (.bin .mod (.bin .add (.var 1) (.var 4)) (.con 3))) (.bin .sub (.bin .sub (.var 3) (.var 4)) (.int 1))))) (.cons (.ret (.bl false)) .nil) .nil) .nil)) .nil)) .nil) [some v, some (.int (i : Nat)), some (vs.getD i .non), x3, x4] g1) := by
      refine post_cons (N := fun s g2 => (∃ x3 x4, s = [some v, some (.int (i : Nat)), some (vs.getD i .non), x3, x4]) ∧ g2 = g1 ∧ AllB T m (i + 1) 0 0) ?_ (by rintro s g2 hh; exact hh)
      have er0 : (rangeI (2 : Nat) ((2 + (m - 1) : Nat) : Int)).map D.int = (List.range (m - 1)).map fun q => D.int ((2 + q : Nat) : Int) := range_up 2 (m - 1)
      have er : evI (fnG k) (.range2 (.int 2) (.bin .add (.bi .len (.cons (.var 2) .nil)) (.int 1))) [some v, some (.int (i : Nat)), some (vs.getD i .non), x3, x4] g1 = .ok ((List.range (m - 1)).map fun q => D.int ((2 + q : Nat) : Int), []) g1 := by
        have er := evI_r2 (W := fnG k) (a := .int 2) (b := .bin .add (.bi .len (.cons (.var 2) .nil)) (.int 1)) (s := [some v, some (.int (i : Nat)), some (vs.getD i .non), x3, x4]) (g := g1) (g' := g1) (g2 := g1) (lo := 2) (hi := (m : Int) + 1) (by simp) (by simp [-List.getD_eq_getElem?_getD, a2]) (by omega) (by omega) (by omega) (by omega)
        rw [er]
        cases m with
        | zero => rfl
        | succ m =>
          rw [← er0, show (((m + 1 : Nat) : Int) + 1) = ((2 + (m + 1 - 1) : Nat) : Int) by omega]; rfl
      rw [evS_for_, er]
      refine forL_range _ _ (fun q s g2 => (∃ x3 x4, s = [some v, some (.int (i : Nat)), some (vs.getD i .non), x3, x4]) ∧ g2 = g1 ∧ AllB T m i (2 + q) 0) (fun _ _ _ _ => lock_nil _) ?_ (fun s g hh => ⟨hh.1, hh.2.1, fun d' n' x' h1 h2 h3 h4 h5 h6 => hh.2.2 d' n' x' (by unfold lex3 at *; omega) h2 h3 h4 h5 h6⟩) _ _ ⟨⟨x3, x4, rfl⟩, rfl, fun d' n' x' h1 h2 h3 h4 h5 h6 => hb d' n' x' (by unfold lex3 at *; omega) h2 h3 h4 h5 h6⟩
      rintro q s g2 hq ⟨⟨x3, x4, rfl⟩, rfl, hb⟩
      refine ⟨[some v, some (.int (i : Nat)), some (vs.getD i .non), some (.int ((2 + q : Nat) : Int)), x4], by simp [-List.getD_eq_getElem?_getD], ?_⟩
      generalize hN : 2 + q = n at *
      have inner : post (fun s g3 => (∃ x4, s = [some v, some (.int (i : Nat)), some (vs.getD i .non), some (.int (n : Nat)), x4]) ∧ g3 = g2 ∧ AllB T m i (n + 1) 0) (fun w g3 => ((w = .bl true ∧ SubP T m) ∨ (w = .bl false ∧ ¬ SubP T m)) ∧ pur 60 w = true ∧ ∃ L, g3 = g2 ++ L) (fun _ _ => False)
          (evSs (fnG k) (.cons (.for_ (.name 4) (.range2 (.int 1) (.var 3)) (.cons (.ite (.cmp .gt (.idx (.var 2) (.bin .sub (.var 3) (.int 1))) (.bin .add (.idx (.var 2) (.bin .sub (.var 4) (.int 1))) (.idx (.idx (.var 0) (.bin .mod (.bin .add (.var 1) (.var 4)) (.con 3))) (.bin .sub (.bin .sub (.var 3) (.var 4)) (.int 1))))) (.cons (.ret (.bl false)) .nil) .nil) .nil)) .nil) [some v, some (.int (i : Nat)), some (vs.getD i .non), some (.int (n : Nat)), x4] g2) := by
        refine post_cons (N := fun s g3 => (∃ x4, s = [some v, some (.int (i : Nat)), some (vs.getD i .non), some (.int (n : Nat)), x4]) ∧ g3 = g2 ∧ AllB T m i (n + 1) 0) ?_ (by rintro s g3 hh; exact hh)
        have er0 : (rangeI (1 : Nat) ((1 + (n - 1) : Nat) : Int)).map D.int = (List.range (n - 1)).map fun q => D.int ((1 + q : Nat) : Int) := range_up 1 (n - 1)
        have er : evI (fnG k) (.range2 (.int 1) (.var 3)) [some v, some (.int (i : Nat)), some (vs.getD i .non), some (.int (n : Nat)), x4] g2 = .ok ((List.range (n - 1)).map fun q => D.int ((1 + q : Nat) : Int), []) g2 := by
          have er := evI_r2 (W := fnG k) (a := .int 1) (b := .var 3) (s := [some v, some (.int (i : Nat)), some (vs.getD i .non), some (.int (n : Nat)), x4]) (g := g2) (g' := g2) (g2 := g2) (lo := 1) (hi := (n : Int)) (by simp) (by simp) (by omega) (by omega) (by omega) (by omega)
          rw [er, ← er0, show 1 + (n - 1) = n by omega]; rfl
        rw [evS_for_, er]
        refine forL_range _ _ (fun j s g3 => (∃ x4, s = [some v, some (.int (i : Nat)), some (vs.getD i .non), some (.int (n : Nat)), x4]) ∧ g3 = g2 ∧ AllB T m i n (1 + j)) (fun _ _ _ _ => lock_nil _) ?_ (fun s g hh => ⟨hh.1, hh.2.1, fun d' n' x' h1 h2 h3 h4 h5 h6 => hh.2.2 d' n' x' (by unfold lex3 at *; omega) h2 h3 h4 h5 h6⟩) _ _ ⟨⟨x4, rfl⟩, rfl, fun d' n' x' h1 h2 h3 h4 h5 h6 => hb d' n' x' (by unfold lex3 at *; omega) h2 h3 h4 h5 h6⟩
        rintro j s g3 hj ⟨⟨x4, rfl⟩, rfl, hb⟩
        refine ⟨[some v, some (.int (i : Nat)), some (vs.getD i .non), some (.int (n : Nat)), some (.int ((1 + j : Nat) : Int))], by simp [-List.getD_eq_getElem?_getD], ?_⟩
        generalize hX : 1 + j = x at *
        have hr : (i + x) % 7 < 7 := Nat.mod_lt _ (by decide)
        have t1 : idxD g3 (vs.getD i .non) (.int ((n : Int) - 1)) = some (.int (T i (n - 1))) := by
          rw [show (n : Int) - 1 = ((n - 1 : Nat) : Int) by omega]; exact h.at2 hi (by omega)
        have t2 : idxD g3 (vs.getD i .non) (.int ((x : Int) - 1)) = some (.int (T i (x - 1))) := by
          rw [show (x : Int) - 1 = ((x - 1 : Nat) : Int) by omega]; exact h.at2 hi (by omega)
        have t3 : idxD g3 v (.int (((i : Int) + (x : Int)).fmod 7)) = some (vs.getD ((i + x) % 7) .non) := by
          rw [fm7]; exact h.at1 hr
        have t4 : idxD g3 (vs.getD ((i + x) % 7) .non) (.int ((n : Int) - (x : Int) - 1)) = some (.int (T ((i + x) % 7) (n - x - 1))) := by
          rw [show (n : Int) - (x : Int) - 1 = ((n - x - 1 : Nat) : Int) by omega]; exact h.at2 hr (by omega)
        by_cases c : T i (x - 1) + T ((i + x) % 7) (n - x - 1) < T i (n - 1)
        · refine .inr (.inr (.inr (.inl ⟨.bl false, g3, ?_, .inr ⟨rfl, fun hh => ?_⟩, rfl, [], by simp⟩)))
          · generalize vs.getD i .non = A at *
            generalize vs.getD ((i + x) % 7) .non = B at *
            simp [con3, b_mod _ _ 7 (by decide), t1, t2, t3, t4, c]
          · have := hh i n x hi (by omega) (by omega) (by omega) (by omega)
            unfold ok3 at this
            omega
        · refine .inl ⟨[some v, some (.int (i : Nat)), some (vs.getD i .non), some (.int (n : Nat)), some (.int (x : Nat))], g3, ?_, ⟨_, rfl⟩, rfl, fun d' n' x' h1 h2 h3 h4 h5 h6 => ?_⟩
          · generalize vs.getD i .non = A at *
            generalize vs.getD ((i + x) % 7) .non = B at *
            simp [con3, b_mod _ _ 7 (by decide), t1, t2, t3, t4, c]
          · by_cases z : d' = i ∧ n' = n ∧ x' = x
            · obtain ⟨rfl, rfl, rfl⟩ := z
              unfold ok3; omega
            · exact hb d' n' x' (by unfold lex3 at *; omega) h2 h3 h4 h5 h6
      rcases post_cases inner with ⟨s1, g3, e, ⟨w1, rfl⟩, h0, h1⟩ | ⟨w, g3, e, h1⟩ | ⟨_, _, _, _, hh⟩
      · exact .inl ⟨_, _, e, ⟨_, w1, rfl⟩, h0, by rw [← hN] at h1; exact h1⟩
      · exact .inr (.inr (.inr (.inl ⟨_, _, e, h1⟩)))
      · exact hh.elim
    rcases post_cases mid with ⟨s1, g3, e, ⟨z1, w1, rfl⟩, h0, h1⟩ | ⟨w, g3, e, h1⟩ | ⟨_, _, _, _, hh⟩
    · exact .inl ⟨_, _, e, ⟨_, _, z1, w1, rfl⟩, h0, h1⟩
    · exact .inr (.inr (.inr (.inl ⟨_, _, e, h1⟩)))
    · exact hh.elim
  obtain ⟨w, e, h1 | h1⟩ := key
  · exact ⟨true, by rw [e, h1.1], by simp [h1.2]⟩
  · exact ⟨false, by rw [e, h1.1], by simp [h1.2]⟩
end
end KT

namespace KT
open KN
theorem raw_new {k : Nat} {g : G} {a : Tar} (ha : a.good) : newD (fnG (k + 6)) false 0 [.lst (a.1.map .int), .lst (a.2.map prD)] g = .ok (tarT a) g := by
  have e4 : (a.2.map fun p => (true, p)).map mpr = a.2.map prD := by rw [List.map_map]; rfl
  have e5 : (a.2.map fun p => (true, p)).map (·.2) = a.2 := by
    rw [List.map_map]
    exact (List.map_congr_left (fun _ _ => rfl)).trans (List.map_id _)
  have e3 := tar_new (k := k) (g := g) (w := a.1) (v := .lst (a.1.map .int)) (u := .lst (a.2.map prD)) (a.2.map fun p => (true, p)) (.inl rfl) (by rw [e4]; exact .inl rfl) ha.1 (by rw [e5]; exact ha.2)
  rw [e5] at e3
  exact e3
def Found (a : Tar) (v : D) : Prop := ∃ n d x : Nat, v = tri n d x ∧ n < 29 ∧ d < 7 ∧ 1 ≤ x ∧ x < n ∧ sp a n d x ∧ NoB a n d x
def Fd (a : Tar) (n d x : Nat) (v : D) : Prop := (v = .non ∧ NoB a n d x) ∨ Found a v
theorem Found.first {a : Tar} {v : D} (h : Found a v) : First a 29 v := .inr h
theorem Found.ne {a : Tar} {v : D} (h : Found a v) : isNon v = false ∧ v ≠ .non := by
  obtain ⟨n, d, x, rfl, _⟩ := h
  exact ⟨rfl, fun e => by cases e⟩
def sF (ns : List Int) (a : Tar) (x4 : D) (x5 : Option D) (v : D) (x7 x8 x9 : Option D) : St := [some (.scr ns), some (.ref 0), some (rawD a), some (tarT a), some x4, x5, some v, x7, x8, x9, none, none, none, none, none, none, none, none, none, none, none, none, none, none, none, none]
section
variable {k : Nat} {g : G} {a : Tar} {ns : List Int} {x4 : D}
theorem step_f (ha : a.good) (n d x : Nat) (hn : n < 29) (hd : d < 7) (hx1 : 1 ≤ x) (hx : x < n) (v : D) (x9 : Option D) (hv : Fd a n d x v) :
    ∃ v', evSs (fnG (k + 1)) b1032_3_0 (sF ns a x4 (some (.int (d : Nat))) v (some (.int (n : Nat))) (some (.int (x : Nat))) x9) g = .nx (sF ns a x4 (some (.int (d : Nat))) v' (some (.int (n : Nat))) (some (.int (x : Nat))) (some (.int (pT a d x + pT a (d + x) (n - x))))) g ∧ Fd a n d (x + 1) v' := by
  have rv : rawV g (rawD a) a := ⟨_, rfl, .inl rfl⟩
  have e1 := lpoints_ok (k := k) rv ha d x
  have e2 := lpts_c (k := k) rv ha d n x (by omega)
  have e3 := lpoints_ok (k := k) rv ha d n
  have e0 : evS (fnG (k + 1)) (.set 9 (.bin .add (.call 1027 (.cons (.var 2) (.cons (.var 5) (.cons (.var 8) .nil)))) (.call 1027 (.cons (.var 2) (.cons (.bin .mod (.bi .int (.cons (.bin .add (.var 5) (.var 8)) .nil)) (.int 7)) (.cons (.bin .sub (.var 7) (.var 8)) .nil)))))) (sF ns a x4 (some (.int (d : Nat))) v (some (.int (n : Nat))) (some (.int (x : Nat))) x9) g = .nx (sF ns a x4 (some (.int (d : Nat))) v (some (.int (n : Nat))) (some (.int (x : Nat))) (some (.int (pT a d x + pT a (d + x) (n - x))))) g := by
    simp [sF, e1, b_mod _ _ 7 (by decide), e2, pT]
  have hc : evC (fnG (k + 1)) (.and (.cmp .isn (.var 6) .non) (.cmp .lt (.var 9) (.call 1027 (.cons (.var 2) (.cons (.var 5) (.cons (.var 7) .nil)))))) (sF ns a x4 (some (.int (d : Nat))) v (some (.int (n : Nat))) (some (.int (x : Nat))) (some (.int (pT a d x + pT a (d + x) (n - x))))) g = .ok (isNon v && decide (pT a d x + pT a (d + x) (n - x) < pT a d n)) g := by
    cases hv2 : isNon v <;> simp [sF, hv2, e3]
  rw [b1032_3_0, evSs_cons, e0]
  simp only
  rw [b1032_3_1, evSs_cons, evS_ite, hc]
  rcases hv with ⟨rfl, hb⟩ | hv
  · by_cases c : pT a d x + pT a (d + x) (n - x) < pT a d n
    · have l3 : (3 : Nat) ≤ LIM := lim_le (by omega)
      refine ⟨tri n d x, by simp [isNon, c, sF, tri], .inr ⟨n, d, x, rfl, hn, hd, hx1, hx, c, hb⟩⟩
    · refine ⟨.non, by simp [isNon, c], .inl ⟨rfl, fun n' d' x' h1 h2 h3 h4 => ?_⟩⟩
      by_cases q : n' = n ∧ d' = d ∧ x' = x
      · obtain ⟨rfl, rfl, rfl⟩ := q
        exact c
      · exact hb n' d' x' (by unfold before at *; omega) h2 h3 h4
  · exact ⟨v, by simp [hv.ne.1], .inr hv⟩
theorem scan_x (ha : a.good) (x5 x7 x8 x9 : Option D) :
    post (fun s g1 => g1 = g ∧ ∃ v y5 y7 y8 y9, s = sF ns a x4 y5 v y7 y8 y9 ∧ First a 29 v) (fun _ _ => False) (fun _ _ => False) (evS (fnG (k + 1)) (.for_ (.name 7) (.range2 (.int 2) (.int 29)) b1032_2_0) (sF ns a x4 x5 .non x7 x8 x9) g) := by
  have er0 : (rangeI (2 : Nat) ((2 + 27 : Nat) : Int)).map D.int = (List.range 27).map fun q => D.int ((2 + q : Nat) : Int) := range_up 2 27
  have er : evI (fnG (k + 1)) (.range2 (.int 2) (.int 29)) (sF ns a x4 x5 .non x7 x8 x9) g = .ok ((List.range 27).map fun q => D.int ((2 + q : Nat) : Int), []) g := by
    have er := evI_r2 (W := fnG (k + 1)) (a := .int 2) (b := .int 29) (s := sF ns a x4 x5 .non x7 x8 x9) (g := g) (g' := g) (g2 := g) (lo := 2) (hi := 29) (by simp) (by simp) (by omega) (by omega) (by omega) (by omega)
    rw [er, ← er0]; rfl
  rw [evS_for_, er]
  refine forL_range _ _ (fun m s g1 => g1 = g ∧ ∃ y5 y7 y8 y9, s = sF ns a x4 y5 .non y7 y8 y9 ∧ NoB a (2 + m) 0 0) (fun _ _ _ _ => lock_nil _) ?_ ?_ _ _ ⟨rfl, x5, x7, x8, x9, rfl, fun n' d' x' h1 h2 h3 h4 => by unfold before at h1; omega⟩
  · rintro m s g1 hm ⟨rfl, y5, y7, y8, y9, rfl, hb⟩
    refine ⟨sF ns a x4 y5 .non (some (.int ((2 + m : Nat) : Int))) y8 y9, by simp [sF], ?_⟩
    generalize hN : 2 + m = n at *
    have mid : post (fun s g2 => g2 = g1 ∧ ∃ v y5 y8 y9, s = sF ns a x4 y5 v (some (.int (n : Nat))) y8 y9 ∧ Fd a n 7 0 v) (fun _ _ => False) (fun _ _ => False)
        (evS (fnG (k + 1)) (.for_ (.name 5) (.range1 (.int 7)) (.cons (.for_ (.name 8) (.range2 (.int 1) (.var 7)) b1032_3_0) .nil)) (sF ns a x4 y5 .non (some (.int (n : Nat))) y8 y9) g1) := by
      have er := evI_rN (W := fnG (k + 1)) (a := .int 7) (s := sF ns a x4 y5 .non (some (.int (n : Nat))) y8 y9) (g := g1) (g' := g1) (n := 7) (by simp) (lim_le (by omega))
      rw [evS_for_, er]
      refine forL_range _ _ (fun j s g2 => g2 = g1 ∧ ∃ v y5 y8 y9, s = sF ns a x4 y5 v (some (.int (n : Nat))) y8 y9 ∧ Fd a n j 0 v) (fun _ _ _ _ => lock_nil _) ?_ (fun s g hh => hh) _ _ ⟨rfl, .non, y5, y8, y9, rfl, .inl ⟨rfl, hb⟩⟩
      rintro j s g2 hj ⟨rfl, v, y5, y8, y9, rfl, hv⟩
      refine ⟨sF ns a x4 (some (.int (j : Nat))) v (some (.int (n : Nat))) y8 y9, by simp [sF], ?_⟩
      have inner : post (fun s g3 => g3 = g2 ∧ ∃ v y8 y9, s = sF ns a x4 (some (.int (j : Nat))) v (some (.int (n : Nat))) y8 y9 ∧ Fd a n (j + 1) 0 v) (fun _ _ => False) (fun _ _ => False)
          (evSs (fnG (k + 1)) (.cons (.for_ (.name 8) (.range2 (.int 1) (.var 7)) b1032_3_0) .nil) (sF ns a x4 (some (.int (j : Nat))) v (some (.int (n : Nat))) y8 y9) g2) := by
        refine post_cons (N := fun s g3 => g3 = g2 ∧ ∃ v y8 y9, s = sF ns a x4 (some (.int (j : Nat))) v (some (.int (n : Nat))) y8 y9 ∧ Fd a n (j + 1) 0 v) ?_ (by rintro s g3 hh; exact hh)
        have er0 : (rangeI (1 : Nat) ((1 + (n - 1) : Nat) : Int)).map D.int = (List.range (n - 1)).map fun q => D.int ((1 + q : Nat) : Int) := range_up 1 (n - 1)
        have er : evI (fnG (k + 1)) (.range2 (.int 1) (.var 7)) (sF ns a x4 (some (.int (j : Nat))) v (some (.int (n : Nat))) y8 y9) g2 = .ok ((List.range (n - 1)).map fun q => D.int ((1 + q : Nat) : Int), []) g2 := by
          have er := evI_r2 (W := fnG (k + 1)) (a := .int 1) (b := .var 7) (s := sF ns a x4 (some (.int (j : Nat))) v (some (.int (n : Nat))) y8 y9) (g := g2) (g' := g2) (g2 := g2) (lo := 1) (hi := (n : Int)) (by simp) (by simp [sF]) (by omega) (by omega) (by omega) (by omega)
          rw [er, ← er0, show 1 + (n - 1) = n by omega]; rfl
        rw [evS_for_, er]
        refine forL_range _ _ (fun i s g3 => g3 = g2 ∧ ∃ v y8 y9, s = sF ns a x4 (some (.int (j : Nat))) v (some (.int (n : Nat))) y8 y9 ∧ Fd a n j (1 + i) v) (fun _ _ _ _ => lock_nil _) ?_ ?_ _ _ ⟨rfl, v, y8, y9, rfl, ?_⟩
        · rintro i s g3 hi ⟨rfl, v, y8, y9, rfl, hv⟩
          obtain ⟨v', e, hv'⟩ := step_f (k := k) (g := g3) (ns := ns) (x4 := x4) ha n j (1 + i) (by omega) hj (by omega) (by omega) v y9 hv
          exact ⟨sF ns a x4 (some (.int (j : Nat))) v (some (.int (n : Nat))) (some (.int ((1 + i : Nat) : Int))) y9, by simp [sF], .inl ⟨_, _, e, rfl, v', _, _, rfl, hv'⟩⟩
        · rintro s g3 ⟨rfl, v, y8, y9, rfl, hv⟩
          refine ⟨rfl, v, y8, y9, rfl, ?_⟩
          rcases hv with ⟨rfl, hb⟩ | hv
          · exact .inl ⟨rfl, fun n' d' x' h1 h2 h3 h4 => hb n' d' x' (by unfold before at *; omega) h2 h3 h4⟩
          · exact .inr hv
        · rcases hv with ⟨rfl, hb⟩ | hv
          · exact .inl ⟨rfl, fun n' d' x' h1 h2 h3 h4 => hb n' d' x' (by unfold before at *; omega) h2 h3 h4⟩
          · exact .inr hv
      rcases post_cases inner with ⟨s1, g3, e, h1, v1, y1, y2, rfl, h2⟩ | ⟨_, _, _, hh⟩ | ⟨_, _, _, _, hh⟩
      · exact .inl ⟨_, _, e, h1, v1, _, y1, y2, rfl, h2⟩
      · exact hh.elim
      · exact hh.elim
    have fin : ∀ (v : D) (y5 y8 y9 : Option D), Fd a n 7 0 v → (v = .non ∧ NoB a (n + 1) 0 0 ∧ evSs (fnG (k + 1)) b1032_2_1 (sF ns a x4 y5 v (some (.int (n : Nat))) y8 y9) g1 = .nx (sF ns a x4 y5 v (some (.int (n : Nat))) y8 y9) g1) ∨ (Found a v ∧ evSs (fnG (k + 1)) b1032_2_1 (sF ns a x4 y5 v (some (.int (n : Nat))) y8 y9) g1 = .bk (sF ns a x4 y5 v (some (.int (n : Nat))) y8 y9) g1) := fun v y5 y8 y9 hv => by
      rcases hv with ⟨rfl, hb⟩ | hv
      · exact .inl ⟨rfl, fun n' d' x' h1 h2 h3 h4 => hb n' d' x' (by unfold before at *; omega) h2 h3 h4, by simp [b1032_2_1, sF]⟩
      · exact .inr ⟨hv, by simp [b1032_2_1, sF, hv.ne.1]⟩
    rw [b1032_2_0, evSs_cons]
    rcases post_cases mid with ⟨s1, g3, e, rfl, v1, z5, z8, z9, rfl, h2⟩ | ⟨_, _, _, hh⟩ | ⟨_, _, _, _, hh⟩
    · rw [e]
      simp only
      rcases fin v1 z5 z8 z9 h2 with ⟨rfl, q2, q3⟩ | ⟨q1, q2⟩
      · exact .inl ⟨_, _, q3, rfl, z5, _, z8, z9, rfl, by rw [show 2 + (m + 1) = n + 1 by omega]; exact q2⟩
      · exact .inr (.inr (.inl ⟨_, _, q2, rfl, v1, z5, _, z8, z9, rfl, q1.first⟩))
    · exact hh.elim
    · exact hh.elim
  · rintro s g1 ⟨rfl, y5, y7, y8, y9, rfl, hb⟩
    exact ⟨rfl, .non, y5, y7, y8, y9, rfl, .inl ⟨rfl, fun n d x h1 h2 h3 h4 => hb n d x (by unfold before; omega) h2 h3 h4⟩⟩
end
end KT

namespace KT
open KN
theorem best_mod {p : Nat → Nat → Int} (hp : ∀ d n, p (d % 7) n = p d n) (d : Nat) : ∀ n, bestE p (d % 7) n = bestE p d n := by
  intro n
  induction n using Nat.strongRecOn with
  | _ n ih =>
    cases n with
    | zero => rfl
    | succ n =>
      rw [bestE_succ, bestE_succ]
      congr 1
      apply List.map_congr_left
      intro k hk
      have hk := List.mem_range.mp hk
      rw [ih k (by omega)]
      unfold ext
      have e : p (d % 7 + k) (n + 1 - k) = p (d + k) (n + 1 - k) := by
        rw [← hp (d % 7 + k), Nat.mod_add_mod, hp]
      rw [e]
theorem least_mod (a : Tar) (d n : Nat) : least (pT a) (d % 7) n = least (pT a) d n := by
  unfold least
  rw [best_mod (fun d n => pts_mod a d n)]
theorem least_subP (a : Tar) (m : Nat) : SubP (fun i j => least (pT a) i (j + 1)) m := by
  intro d n x hd h2 hn h3 h4
  unfold ok3
  simp only
  obtain ⟨b, rfl⟩ : ∃ b, n = x + b := ⟨n - x, by omega⟩
  have h := least_sub (p := pT a) d x b
  rw [least_mod, show x + b - 1 + 1 = x + b by omega, show x - 1 + 1 = x by omega, show x + b - x - 1 + 1 = b by omega]
  exact h
theorem cut_tab {g : G} (f : Nat → Int) (m : Nat) (hm : m ≤ 9) : sliD g (.lst (((List.range 29).map f).map .int)) (some 1) (some ((m : Int) + 1)) = some (.lst (((List.range m).map fun i => f (i + 1)).map .int)) := by
  show some (D.lst (cut _ _ _)) = _
  congr 2
  have e1 : six (((List.range 29).map f).map D.int).length 0 (some 1) = 1 := by simp [six]
  have e2 : six (((List.range 29).map f).map D.int).length (((List.range 29).map f).map D.int).length (some ((m : Int) + 1)) = m + 1 := by
    unfold six
    simp only
    rw [if_neg (by omega)]
    simp
    omega
  unfold cut
  rw [e1, e2]
  apply List.ext_getElem?
  intro i
  simp only [List.getElem?_drop, List.getElem?_take, List.getElem?_map, List.getElem?_range]
  by_cases c : i < m
  · simp [c, show 1 + i < m + 1 by omega, show 1 + i < 29 by omega, Nat.add_comm]
    exact ⟨i + 1, List.getElem?_range (by omega), rfl⟩
  · simp [c, show ¬ (1 + i < m + 1) by omega]
/-- lists made at places -/
theorem accL_refs (n0 : Nat) : ∀ (ys b : List (List Int)), accL (fun (y : List Int) (b : List (List Int)) => (D.ref (b.length + n0), b ++ [y])) ys b = ((List.range ys.length).map fun i => D.ref (b.length + i + n0), b ++ ys)
  | [], b => by simp [accL]
  | y :: ys, b => by
    simp only [accL, accL_refs n0 ys (b ++ [y])]
    rw [List.length_cons, List.range_succ_eq_map, List.map_cons, List.map_map]
    simp only [List.length_append, List.length_singleton, List.append_assoc, List.singleton_append, Nat.add_zero]
    congr 2
    apply List.map_congr_left
    intro i _
    simp only [Function.comp]
    congr 1
    omega
end KT

namespace KT
open KN
section
variable {k : Nat} {g : G} {v : D} {vs : List D} {T : Nat → Nat → Int} {m : Nat}
theorem due_x (h : RowsV g v vs T m) (hm : m ≤ 100) (h1 : 1 ≤ m) (x0 x1 x2 x3 x4 x5 x6 x7 x8 x9 x10 x11 x12 x13 x14 x15 x16 x18 x19 x20 x22 x17 x24 x25 : Option D) (hx : x19 = some (.int (m : Nat))) :
    post (fun s g1 => g1 = g ∧ ∃ (c : Bool) (y17 y24 y25 : Option D), s = [x0, x1, x2, x3, x4, x5, x6, x7, x8, x9, x10, x11, x12, x13, x14, x15, x16, y17, x18, x19, x20, some v, x22, some (.bl c), y24, y25] ∧ (c = true ↔ SubP T m)) (fun _ _ => False) (fun _ _ => False) (evS (fnG k) (.for_ (.name 24) (.range1 (.int 7)) (.cons (.for_ (.name 25) (.range2 (.int 2) (.bin .add (.var 19) (.int 1))) (.cons (.for_ (.name 17) (.range2 (.int 1) (.var 25)) (.cons (.ite (.cmp .gt (.idx (.idx (.var 21) (.var 24)) (.bin .sub (.var 25) (.int 1))) (.bin .add (.idx (.idx (.var 21) (.var 24)) (.bin .sub (.var 17) (.int 1))) (.idx (.idx (.var 21) (.bin .mod (.bi .int (.cons (.bin .add (.var 24) (.var 17)) .nil)) (.int 7))) (.bin .sub (.bin .sub (.var 25) (.var 17)) (.int 1))))) (.cons (.set 23 (.bl false)) .nil) .nil) .nil)) .nil)) .nil)) [x0, x1, x2, x3, x4, x5, x6, x7, x8, x9, x10, x11, x12, x13, x14, x15, x16, x17, x18, x19, x20, some v, x22, some (.bl true), x24, x25] g) := by
  subst hx
  have er := evI_rN (W := fnG k) (a := .int 7) (s := [x0, x1, x2, x3, x4, x5, x6, x7, x8, x9, x10, x11, x12, x13, x14, x15, x16, x17, x18, some (.int (m : Nat)), x20, some v, x22, some (.bl true), x24, x25]) (g := g) (g' := g) (n := 7) (by simp) (lim_le (by omega))
  rw [evS_for_, er]
  refine forL_range _ _ (fun i s g1 => g1 = g ∧ ∃ (c : Bool) (y17 y24 y25 : Option D), s = [x0, x1, x2, x3, x4, x5, x6, x7, x8, x9, x10, x11, x12, x13, x14, x15, x16, y17, x18, some (.int (m : Nat)), x20, some v, x22, some (.bl c), y24, y25] ∧ (c = true ↔ AllB T m i 0 0)) (fun _ _ _ _ => lock_nil _) ?_ ?_ _ _ ⟨rfl, true, x17, x24, x25, rfl, by simp only [true_iff]; intro d' n' x' hl; unfold lex3 at hl; omega⟩
  · rintro i s g1 hi ⟨rfl, c, y17, y24, y25, rfl, hc⟩
    refine ⟨[x0, x1, x2, x3, x4, x5, x6, x7, x8, x9, x10, x11, x12, x13, x14, x15, x16, y17, x18, some (.int (m : Nat)), x20, some v, x22, some (.bl c), some (.int (i : Nat)), y25], by simp, ?_⟩
    have mid : post (fun s g2 => g2 = g1 ∧ ∃ (c : Bool) (y17 y25 : Option D), s = [x0, x1, x2, x3, x4, x5, x6, x7, x8, x9, x10, x11, x12, x13, x14, x15, x16, y17, x18, some (.int (m : Nat)), x20, some v, x22, some (.bl c), some (.int (i : Nat)), y25] ∧ (c = true ↔ AllB T m (i + 1) 0 0)) (fun _ _ => False) (fun _ _ => False) (evSs (fnG k) (.cons (.for_ (.name 25) (.range2 (.int 2) (.bin .add (.var 19) (.int 1))) (.cons (.for_ (.name 17) (.range2 (.int 1) (.var 25)) (.cons (.ite (.cmp .gt (.idx (.idx (.var 21) (.var 24)) (.bin .sub (.var 25) (.int 1))) (.bin .add (.idx (.idx (.var 21) (.var 24)) (.bin .sub (.var 17) (.int 1))) (.idx (.idx (.var 21) (.bin .mod (.bi .int (.cons (.bin .add (.var 24) (.var 17)) .nil)) (.int 7))) (.bin .sub (.bin .sub (.var 25) (.var 17)) (.int 1))))) (.cons (.set 23 (.bl false)) .nil) .nil) .nil)) .nil)) .nil) [x0, x1, x2, x3, x4, x5, x6, x7, x8, x9, x10, x11, x12, x13, x14, x15, x16, y17, x18, some (.int (m : Nat)), x20, some v, x22, some (.bl c), some (.int (i : Nat)), y25] g1) := by
      refine post_cons (N := fun s g2 => g2 = g1 ∧ ∃ (c : Bool) (y17 y25 : Option D), s = [x0, x1, x2, x3, x4, x5, x6, x7, x8, x9, x10, x11, x12, x13, x14, x15, x16, y17, x18, some (.int (m : Nat)), x20, some v, x22, some (.bl c), some (.int (i : Nat)), y25] ∧ (c = true ↔ AllB T m (i + 1) 0 0)) ?_ (by rintro s g2 hh; exact hh)
      have er0 : (rangeI (2 : Nat) ((2 + (m - 1) : Nat) : Int)).map D.int = (List.range (m - 1)).map fun q => D.int ((2 + q : Nat) : Int) := range_up 2 (m - 1)
      have er : evI (fnG k) (.range2 (.int 2) (.bin .add (.var 19) (.int 1))) [x0, x1, x2, x3, x4, x5, x6, x7, x8, x9, x10, x11, x12, x13, x14, x15, x16, y17, x18, some (.int (m : Nat)), x20, some v, x22, some (.bl c), some (.int (i : Nat)), y25] g1 = .ok ((List.range (m - 1)).map fun q => D.int ((2 + q : Nat) : Int), []) g1 := by
        have er := evI_r2 (W := fnG k) (a := .int 2) (b := .bin .add (.var 19) (.int 1)) (s := [x0, x1, x2, x3, x4, x5, x6, x7, x8, x9, x10, x11, x12, x13, x14, x15, x16, y17, x18, some (.int (m : Nat)), x20, some v, x22, some (.bl c), some (.int (i : Nat)), y25]) (g := g1) (g' := g1) (g2 := g1) (lo := 2) (hi := (m : Int) + 1) (by simp) (by simp) (by omega) (by omega) (by omega) (by omega)
        rw [er, ← er0, show (m : Int) + 1 = ((2 + (m - 1) : Nat) : Int) by omega]; rfl
      rw [evS_for_, er]
      refine forL_range _ _ (fun q s g2 => g2 = g1 ∧ ∃ (c : Bool) (y17 y25 : Option D), s = [x0, x1, x2, x3, x4, x5, x6, x7, x8, x9, x10, x11, x12, x13, x14, x15, x16, y17, x18, some (.int (m : Nat)), x20, some v, x22, some (.bl c), some (.int (i : Nat)), y25] ∧ (c = true ↔ AllB T m i (2 + q) 0)) (fun _ _ _ _ => lock_nil _) ?_ ?_ _ _ ⟨rfl, c, y17, y25, rfl, hc.trans ⟨fun hh d' n' x' a1 a2 a3 a4 a5 a6 => hh d' n' x' (by unfold lex3 at *; omega) a2 a3 a4 a5 a6, fun hh d' n' x' a1 a2 a3 a4 a5 a6 => hh d' n' x' (by unfold lex3 at *; omega) a2 a3 a4 a5 a6⟩⟩
      · rintro q s g2 hq ⟨rfl, c, y17, y25, rfl, hc⟩
        refine ⟨[x0, x1, x2, x3, x4, x5, x6, x7, x8, x9, x10, x11, x12, x13, x14, x15, x16, y17, x18, some (.int (m : Nat)), x20, some v, x22, some (.bl c), some (.int (i : Nat)), some (.int ((2 + q : Nat) : Int))], by simp, ?_⟩
        generalize hN : 2 + q = n at *
        have inner : post (fun s g3 => g3 = g2 ∧ ∃ (c : Bool) (y17 : Option D), s = [x0, x1, x2, x3, x4, x5, x6, x7, x8, x9, x10, x11, x12, x13, x14, x15, x16, y17, x18, some (.int (m : Nat)), x20, some v, x22, some (.bl c), some (.int (i : Nat)), some (.int (n : Nat))] ∧ (c = true ↔ AllB T m i (n + 1) 0)) (fun _ _ => False) (fun _ _ => False) (evSs (fnG k) (.cons (.for_ (.name 17) (.range2 (.int 1) (.var 25)) (.cons (.ite (.cmp .gt (.idx (.idx (.var 21) (.var 24)) (.bin .sub (.var 25) (.int 1))) (.bin .add (.idx (.idx (.var 21) (.var 24)) (.bin .sub (.var 17) (.int 1))) (.idx (.idx (.var 21) (.bin .mod (.bi .int (.cons (.bin .add (.var 24) (.var 17)) .nil)) (.int 7))) (.bin .sub (.bin .sub (.var 25) (.var 17)) (.int 1))))) (.cons (.set 23 (.bl false)) .nil) .nil) .nil)) .nil) [x0, x1, x2, x3, x4, x5, x6, x7, x8, x9, x10, x11, x12, x13, x14, x15, x16, y17, x18, some (.int (m : Nat)), x20, some v, x22, some (.bl c), some (.int (i : Nat)), some (.int (n : Nat))] g2) := by
          refine post_cons (N := fun s g3 => g3 = g2 ∧ ∃ (c : Bool) (y17 : Option D), s = [x0, x1, x2, x3, x4, x5, x6, x7, x8, x9, x10, x11, x12, x13, x14, x15, x16, y17, x18, some (.int (m : Nat)), x20, some v, x22, some (.bl c), some (.int (i : Nat)), some (.int (n : Nat))] ∧ (c = true ↔ AllB T m i (n + 1) 0)) ?_ (by rintro s g3 hh; exact hh)
          have er0 : (rangeI (1 : Nat) ((1 + (n - 1) : Nat) : Int)).map D.int = (List.range (n - 1)).map fun q => D.int ((1 + q : Nat) : Int) := range_up 1 (n - 1)
          have er : evI (fnG k) (.range2 (.int 1) (.var 25)) [x0, x1, x2, x3, x4, x5, x6, x7, x8, x9, x10, x11, x12, x13, x14, x15, x16, y17, x18, some (.int (m : Nat)), x20, some v, x22, some (.bl c), some (.int (i : Nat)), some (.int (n : Nat))] g2 = .ok ((List.range (n - 1)).map fun q => D.int ((1 + q : Nat) : Int), []) g2 := by
            have er := evI_r2 (W := fnG k) (a := .int 1) (b := .var 25) (s := [x0, x1, x2, x3, x4, x5, x6, x7, x8, x9, x10, x11, x12, x13, x14, x15, x16, y17, x18, some (.int (m : Nat)), x20, some v, x22, some (.bl c), some (.int (i : Nat)), some (.int (n : Nat))]) (g := g2) (g' := g2) (g2 := g2) (lo := 1) (hi := (n : Int)) (by simp) (by simp) (by omega) (by omega) (by omega) (by omega)
            rw [er, ← er0, show 1 + (n - 1) = n by omega]; rfl
          rw [evS_for_, er]
          refine forL_range _ _ (fun j s g3 => g3 = g2 ∧ ∃ (c : Bool) (y17 : Option D), s = [x0, x1, x2, x3, x4, x5, x6, x7, x8, x9, x10, x11, x12, x13, x14, x15, x16, y17, x18, some (.int (m : Nat)), x20, some v, x22, some (.bl c), some (.int (i : Nat)), some (.int (n : Nat))] ∧ (c = true ↔ AllB T m i n (1 + j))) (fun _ _ _ _ => lock_nil _) ?_ ?_ _ _ ⟨rfl, c, y17, rfl, hc.trans ⟨fun hh d' n' x' a1 a2 a3 a4 a5 a6 => hh d' n' x' (by unfold lex3 at *; omega) a2 a3 a4 a5 a6, fun hh d' n' x' a1 a2 a3 a4 a5 a6 => hh d' n' x' (by unfold lex3 at *; omega) a2 a3 a4 a5 a6⟩⟩
          · rintro j s g3 hj ⟨rfl, c, y17, rfl, hc⟩
            refine ⟨[x0, x1, x2, x3, x4, x5, x6, x7, x8, x9, x10, x11, x12, x13, x14, x15, x16, some (.int ((1 + j : Nat) : Int)), x18, some (.int (m : Nat)), x20, some v, x22, some (.bl c), some (.int (i : Nat)), some (.int (n : Nat))], by simp, ?_⟩
            generalize hX : 1 + j = x at *
            have hr : (i + x) % 7 < 7 := Nat.mod_lt _ (by decide)
            have a1 := h.at1 hi
            have t1 : idxD g3 (vs.getD i .non) (.int ((n : Int) - 1)) = some (.int (T i (n - 1))) := by
              rw [show (n : Int) - 1 = ((n - 1 : Nat) : Int) by omega]; exact h.at2 hi (by omega)
            have t2 : idxD g3 (vs.getD i .non) (.int ((x : Int) - 1)) = some (.int (T i (x - 1))) := by
              rw [show (x : Int) - 1 = ((x - 1 : Nat) : Int) by omega]; exact h.at2 hi (by omega)
            have t3 : idxD g3 v (.int (((i : Int) + (x : Int)).fmod 7)) = some (vs.getD ((i + x) % 7) .non) := by
              rw [fm7]; exact h.at1 hr
            have t4 : idxD g3 (vs.getD ((i + x) % 7) .non) (.int ((n : Int) - (x : Int) - 1)) = some (.int (T ((i + x) % 7) (n - x - 1))) := by
              rw [show (n : Int) - (x : Int) - 1 = ((n - x - 1 : Nat) : Int) by omega]; exact h.at2 hr (by omega)
            by_cases e : T i (x - 1) + T ((i + x) % 7) (n - x - 1) < T i (n - 1)
            · refine .inl ⟨[x0, x1, x2, x3, x4, x5, x6, x7, x8, x9, x10, x11, x12, x13, x14, x15, x16, some (.int (x : Nat)), x18, some (.int (m : Nat)), x20, some v, x22, some (.bl false), some (.int (i : Nat)), some (.int (n : Nat))], g3, ?_, rfl, false, some (.int (x : Nat)), rfl, ?_⟩
              · generalize vs.getD i .non = A at *
                generalize vs.getD ((i + x) % 7) .non = B at *
                simp [b_mod _ _ 7 (by decide), a1, t1, t2, t3, t4, e]
              · simp only [Bool.false_eq_true, false_iff]
                intro hh
                have := hh i n x (by unfold lex3; omega) hi (by omega) (by omega) (by omega) (by omega)
                unfold ok3 at this
                omega
            · refine .inl ⟨[x0, x1, x2, x3, x4, x5, x6, x7, x8, x9, x10, x11, x12, x13, x14, x15, x16, some (.int (x : Nat)), x18, some (.int (m : Nat)), x20, some v, x22, some (.bl c), some (.int (i : Nat)), some (.int (n : Nat))], g3, ?_, rfl, c, some (.int (x : Nat)), rfl, ?_⟩
              · generalize vs.getD i .non = A at *
                generalize vs.getD ((i + x) % 7) .non = B at *
                simp [b_mod _ _ 7 (by decide), a1, t1, t2, t3, t4, e]
              · rw [hc]
                constructor
                · intro hh d' n' x' b1 b2 b3 b4 b5 b6
                  by_cases z : d' = i ∧ n' = n ∧ x' = x
                  · obtain ⟨rfl, rfl, rfl⟩ := z
                    unfold ok3; omega
                  · exact hh d' n' x' (by unfold lex3 at *; omega) b2 b3 b4 b5 b6
                · exact fun hh d' n' x' b1 b2 b3 b4 b5 b6 => hh d' n' x' (by unfold lex3 at *; omega) b2 b3 b4 b5 b6
          · rintro s g3 ⟨rfl, c, y17, rfl, hc⟩
            exact ⟨rfl, c, y17, rfl, hc.trans ⟨fun hh d' n' x' a1 a2 a3 a4 a5 a6 => hh d' n' x' (by unfold lex3 at *; omega) a2 a3 a4 a5 a6, fun hh d' n' x' a1 a2 a3 a4 a5 a6 => hh d' n' x' (by unfold lex3 at *; omega) a2 a3 a4 a5 a6⟩⟩
        rcases post_cases inner with ⟨s1, g3, e, h0, c1, z1, rfl, h2⟩ | ⟨_, _, _, hh⟩ | ⟨_, _, _, _, hh⟩
        · exact .inl ⟨_, _, e, h0, c1, z1, _, rfl, by rw [show 2 + (q + 1) = n + 1 by omega]; exact h2⟩
        · exact hh.elim
        · exact hh.elim
      · rintro s g3 ⟨rfl, c, y17, y25, rfl, hc⟩
        exact ⟨rfl, c, y17, y25, rfl, hc.trans ⟨fun hh d' n' x' a1 a2 a3 a4 a5 a6 => hh d' n' x' (by unfold lex3 at *; omega) a2 a3 a4 a5 a6, fun hh d' n' x' a1 a2 a3 a4 a5 a6 => hh d' n' x' (by unfold lex3 at *; omega) a2 a3 a4 a5 a6⟩⟩
    rcases post_cases mid with ⟨s1, g3, e, h0, c1, z1, z2, rfl, h2⟩ | ⟨_, _, _, hh⟩ | ⟨_, _, _, _, hh⟩
    · exact .inl ⟨_, _, e, h0, c1, z1, _, z2, rfl, h2⟩
    · exact hh.elim
    · exact hh.elim
  · rintro s g1 ⟨rfl, c, y17, y24, y25, rfl, hc⟩
    exact ⟨rfl, c, y17, y24, y25, rfl, hc.trans ⟨fun hh d n x b1 b2 b3 b4 b5 => hh d n x (by unfold lex3; omega) b1 b2 b3 b4 b5, fun hh d' n' x' b1 b2 b3 b4 b5 b6 => hh d' n' x' b2 b3 b4 b5 b6⟩⟩
end
end KT

namespace KT
open KN
def predC (a : Tar) (q : Int × Int) : Bool := decide (0 < q.2) && decide (least (pT a) q.1.toNat q.2.toNat < pT a q.1.toNat q.2.toNat)
def onesC (a : Tar) : List Int := ((prs 7 29).filter (predC a)).map fun _ => 1
theorem prs_in {f m n d : Nat} (hn : n < f) (hd : d < m) : ((n : Int), (d : Int)) ∈ prs f m := by
  unfold prs prow
  simp only [List.mem_flatten, List.mem_map, List.mem_range]
  exact ⟨_, ⟨n, hn, rfl⟩, by simp only [List.mem_map, List.mem_range]; exact ⟨d, hd, rfl⟩⟩
/-- some stay is cheaper in parts exactly if one is cheaper in two -/
theorem cheaper_iff {a : Tar} (ha : a.good) {v : D} (hv : First a 29 v) : (onesC a).isEmpty = isNon v := by
  have hmod := fun d n => pts_mod a d n
  have h1 : (onesC a).isEmpty = true ↔ ∀ n d : Nat, 1 ≤ n → n ≤ 28 → d < 7 → pT a d n ≤ least (pT a) d n := by
    unfold onesC
    rw [List.isEmpty_iff, List.map_eq_nil_iff, List.filter_eq_nil_iff]
    constructor
    · intro h n d a1 a2 a3
      have := h _ (prs_in (f := 7) (m := 29) (n := d) (d := n) a3 (by omega))
      simp only [predC, Int.toNat_natCast, Bool.and_eq_true, decide_eq_true_eq, not_and] at this
      have := this (by omega)
      omega
    · intro h q hq
      obtain ⟨d, n, rfl, a1, a2⟩ := prs_mem hq
      simp only [predC, Int.toNat_natCast, Bool.and_eq_true, decide_eq_true_eq, not_and]
      intro a3
      have := h n d (by omega) (by omega) a1
      omega
  rcases hv with ⟨rfl, hb⟩ | ⟨n, d, x, rfl, a1, a2, a3, a4, a5, a6⟩
  · show _ = true
    rw [h1]
    intro n d b1 b2 b3
    have hs : NoSplit (pT a) 28 := fun n d x c1 c2 c3 c4 => by
      have := hb n d x (by omega) c2 c3 c4
      unfold sp at this
      omega
    rw [least_eq hmod hs n d b1 b2]
    exact Int.le_refl _
  · show _ = false
    cases q : (onesC a).isEmpty
    · rfl
    · exfalso
      have hs := nosplit_of (p := pT a) (m := 28) (fun n d b1 b2 b3 => h1.mp q n d b1 b2 b3) hmod
      have := hs n d x (by omega) a2 a3 a4
      unfold sp at a5
      omega
theorem steady_low {a : Tar} (h : ∀ p ∈ a.2, p.1 ≤ 13) : 2 * steadyN a.2 ≤ 29 := by
  unfold steadyN
  cases e : a.2.getLast? with
  | none => simp
  | some p =>
    have := h p (List.mem_of_getLast? e)
    simp only
    omega
theorem pln_tri (n d x : Nat) : pln 1 (tri n d x) = true := pln_tup (by simp) rfl
theorem first_pln {a : Tar} {m : Nat} {v : D} (h : First a m v) : pln 1 v = true := by
  rcases h with ⟨rfl, _⟩ | ⟨n, d, x, rfl, _⟩
  · rfl
  · exact pln_tri n d x
theorem pln_pair (x : Int) (l : List Int) (h : l.length ≤ 1000000) : pln 2 (.tup [.int x, .tup (l.map .int)]) = true := pln_tup (by simp) (by
  have := pln_ints h
  simp [plns, this]
  rfl)
section
variable {ns : List Int} {a : Tar}
end
theorem bool_iff {a b : Bool} (h : a = true ↔ b = true) : a = b := by cases a <;> cases b <;> simp_all
theorem law_run (ns : List Int) : ∃ g, callF PG conG clsG fuelG 30 1032 [.scr ns] [] = .ok (.bl true) g := by
  show ∃ g, call (29 + 1) 1032 [.scr ns] [] = _
  rw [call_eq pg1032 rfl]
  refine end_true ?_
  obtain ⟨v, r1, e1, p1, hv⟩ := pick_x 27 ⟨ns, 0, 173, 0⟩ [.int 3, .int 100, .int 99999] [] (Int.le_refl 0) (by simp) (by simp)
  obtain ⟨t, rfl, t0, t1⟩ : ∃ t : Int, v = .int t ∧ 0 ≤ t ∧ t ≤ 99999 := by
    simp only [List.mem_cons, List.not_mem_nil, or_false] at hv
    rcases hv with rfl | rfl | rfl
    · exact ⟨_, rfl, by decide, by decide⟩
    · exact ⟨_, rfl, by decide, by decide⟩
    · exact ⟨_, rfl, by decide, by decide⟩
  obtain ⟨a, r2, e2, p2, l1, l2, l3, l4, l5⟩ := ltariff_x (k := 25) r1 t [] p1 t0 (by omega)
  have ga : a.good := ⟨⟨l1, fun x hx => ⟨(l2 x hx).1, by have := (l2 x hx).2; omega⟩⟩, l4⟩
  have e1 : callF PG conG clsG fuelG 29 1001 [.ref 0, .lst [.int 3, .int 100, .int 99999]] [rowO ⟨ns, 0, 173, 0⟩] = .ok (.int t) [rowO r1] := e1
  have e2 : callF PG conG clsG fuelG 29 1026 [.ref 0, .int t, .int 3] [rowO r1] = .ok (rawD a) [rowO r2] := e2
  have L1 : (1 : Nat) ≤ LIM := lim_le (by omega)
  have L2 : (2 : Nat) ≤ LIM := lim_le (by omega)
  have L3 : (3 : Nat) ≤ LIM := lim_le (by omega)
  have L4 : (4 : Nat) ≤ LIM := lim_le (by omega)
  have L0 : (0 : Nat) ≤ LIM := Nat.zero_le _
  rw [show f1032.body = b1032_0_0 from rfl, b1032_0_0]
  refine post_nx (s1 := [some (.scr ns), some (.ref 0), none, none, none, none, none, none, none, none, none, none, none, none, none, none, none, none, none, none, none, none, none, none, none, none]) (g1 := [rowO ⟨ns, 0, 173, 0⟩]) (by simp [f1032, mkL, L4, rowO]) ?_
  rw [b1032_0_1]
  refine post_nx (s1 := [some (.scr ns), some (.ref 0), some (rawD a), none, none, none, none, none, none, none, none, none, none, none, none, none, none, none, none, none, none, none, none, none, none, none]) (g1 := [rowO r2]) (by simp [mkL, L3, e1, e2]) ?_
  rw [b1032_0_2]
  have en := raw_new (k := 23) (g := [rowO r2]) ga
  have j0 : ∀ g, idxD g (rawD a) (.int 0) = some (.lst (a.1.map .int)) := fun g => rfl
  have j1 : ∀ g, idxD g (rawD a) (.int 1) = some (.lst (a.2.map prD)) := fun g => rfl
  have en : newD (fnG 29) false 0 [.lst (a.1.map .int), .lst (a.2.map prD)] [rowO r2] = .ok (tarT a) [rowO r2] := en
  refine post_nx (s1 := [some (.scr ns), some (.ref 0), some (rawD a), some (tarT a), none, none, none, none, none, none, none, none, none, none, none, none, none, none, none, none, none, none, none, none, none, none]) (g1 := [rowO r2]) (by
    generalize a.1.map D.int = AW at *
    generalize a.2.map prD = AP at *
    simp [j0, j1, en]) ?_
  rw [b1032_0_3]
  -- the tables
  have et : evE (fnG 29) (.comp false (.call 1030 (.cons (.var 2) (.cons (.var 5) (.cons (.int 28) .nil)))) (.name 5) (.range1 (.int 7)) .no) [some (.scr ns), some (.ref 0), some (rawD a), some (tarT a), none, none, none, none, none, none, none, none, none, none, none, none, none, none, none, none, none, none, none, none, none, none] [rowO r2] = .ok (.lst ((List.range 7).map fun d => .lst (((List.range 29).map (least (pT a) d)).map .int))) [rowO r2] := by
    have er := evI_rN (W := fnG 29) (a := .int 7) (s := [some (.scr ns), some (.ref 0), some (rawD a), some (tarT a), none, none, none, none, none, none, none, none, none, none, none, none, none, none, none, none, none, none, none, none, none, none]) (g := [rowO r2]) (g' := [rowO r2]) (n := 7) (by simp) (lim_le (by omega))
    rw [evE_comp, er]
    simp only [R.bind_ok]
    rw [comp_pure (fun i : Nat => D.int (i : Nat)) (fun _ => true) (fun d => .lst (((List.range 29).map (least (pT a) d)).map .int)) (List.range 7) (lock_nil _) fun z hz => ?_]
    · simp [mkC]
    · have e := lleast_ok (k := 27) (g := [rowO r2]) ga z 28 (by omega)
      have e : callF PG conG clsG fuelG 29 1030 [rawD a, .int (z : Nat), .int 28] [rowO r2] = .ok (.lst (((List.range 29).map (least (pT a) z)).map .int)) [rowO r2] := e
      refine ⟨[some (.scr ns), some (.ref 0), some (rawD a), some (tarT a), none, some (.int (z : Nat)), none, none, none, none, none, none, none, none, none, none, none, none, none, none, none, none, none, none, none, none], by simp, by simp, fun _ => ?_⟩
      generalize ((List.range 29).map (least (pT a) z)).map D.int = BL at *
      simp [e]
  have tb0 : ∀ d : Nat, d < 7 → ∃ rw_, (∀ g, idxD g (.lst ((List.range 7).map fun d => D.lst (((List.range 29).map (least (pT a) d)).map .int))) (.int (d : Nat)) = some rw_) ∧ (∀ (n : Nat) g, n < 29 → idxD g rw_ (.int (n : Nat)) = some (.int (least (pT a) d n))) ∧ ∀ (m : Nat) g, m ≤ 9 → sliD g rw_ (some 1) (some ((m : Int) + 1)) = some (.lst (((List.range m).map fun i => least (pT a) d (i + 1)).map .int)) := fun d hd =>
    ⟨.lst (((List.range 29).map (least (pT a) d)).map .int), fun g => x_lst _ _ (by rw [List.getElem?_map, List.getElem?_range hd]; rfl), fun n g hn => x_lst _ _ (by rw [List.getElem?_map, List.getElem?_map, List.getElem?_range hn]; rfl), fun m g hm => cut_tab (least (pT a) d) m hm⟩
  generalize D.lst ((List.range 7).map fun d => D.lst (((List.range 29).map (least (pT a) d)).map .int)) = TB at *
  refine post_nx (s1 := [some (.scr ns), some (.ref 0), some (rawD a), some (tarT a), some TB, none, none, none, none, none, none, none, none, none, none, none, none, none, none, none, none, none, none, none, none, none]) (g1 := [rowO r2]) (by rw [evS_set, et]; simp) ?_
  rw [b1032_0_4]
  refine post_nx (s1 := sF ns a TB none .non none none none) (g1 := [rowO r2]) (by simp [sF]) ?_
  rw [b1032_0_5]
  refine post_cons (post_mono (scan_x (k := 28) (g := [rowO r2]) (ns := ns) (x4 := TB) ga none none none none) (fun _ _ h => h) (fun _ _ h => h.elim) (fun _ _ h => h)) ?_
  rintro s g ⟨rfl, v, y5, y7, y8, y9, rfl, hfv⟩
  rw [show sF ns a TB y5 v y7 y8 y9 = [some (.scr ns), some (.ref 0), some (rawD a), some (tarT a), some TB, y5, some v, y7, y8, y9, none, none, none, none, none, none, none, none, none, none, none, none, none, none, none, none] from rfl]
  have al : ∀ {g : G} (n : Nat) (d : D), n ≤ 20 → pln n d = true → callF PG conG clsG fuelG 29 1002 [d, d] g = .ok (.bl true) g := fun n d h1 h2 => alike_x n d h1 h2
  have tr : ∀ {g : G} (x : Bool), callF PG conG clsG fuelG 29 1009 [.bl x, .bl x] g = .ok (.bl true) g := fun {g} x => by
    have := truth_x (k := 28) (g := g) x x
    simpa using this
  obtain ⟨v0, es, hs0⟩ := split_x (k := 24) (g := [rowO r2]) ga
  obtain ⟨v1, _, ep, hs1⟩ := proof_x (k := 23) (g := [rowO r2]) ga
  have q0 := first_eq ga (steady_low l5) hs0 hfv
  have q1 := first_eq ga (steady_low l5) hs1 hfv
  rw [q0] at es
  rw [q1] at ep
  have es : callF PG conG clsG fuelG 29 68 [tarT a] [rowO r2] = _ := es
  have ep : callF PG conG clsG fuelG 29 69 [tarT a] [rowO r2] = _ := ep
  have hpl := first_pln hfv
  have hce := cheaper_iff ga hfv
  rw [b1032_0_6]
  refine post_nx (s1 := [some (.scr ns), some (.ref 0), some (rawD a), some (tarT a), some TB, y5, some v, y7, y8, y9, none, none, none, none, none, none, none, none, none, none, none, none, none, none, none, none]) (g1 := [rowO r2]) (by simp [es, ep, al 1 _ (by omega) hpl, tr]) ?_
  rw [b1032_0_7]
  have rv : ∀ g, rawV g (rawD a) a := fun g => ⟨_, rfl, .inl rfl⟩
  have ec : evE (fnG 29) (.comp false (.int 1) (.tup [5, 7]) (.seq (.call 1028 (.cons (.int 7) (.cons (.int 29) .nil)))) (.yes (.and (.cmp .gt (.var 7) (.int 0)) (.cmp .lt (.idx (.idx (.var 4) (.var 5)) (.var 7)) (.call 1027 (.cons (.var 2) (.cons (.var 5) (.cons (.var 7) .nil)))))))) [some (.scr ns), some (.ref 0), some (rawD a), some (tarT a), some TB, y5, some v, y7, y8, y9, none, none, none, none, none, none, none, none, none, none, none, none, none, none, none, none] [rowO r2] = .ok (.lst ((onesC a).map .int)) [rowO r2] := by
    have hp := pairs_ok (k := 28) (g := [rowO r2]) 7 29 (by decide) (by decide)
    have hp : callF PG conG clsG fuelG 29 1028 [.int 7, .int 29] [rowO r2] = .ok (.lst ((prs 7 29).map prD)) [rowO r2] := hp
    have er : evI (fnG 29) (.seq (.call 1028 (.cons (.int 7) (.cons (.int 29) .nil)))) [some (.scr ns), some (.ref 0), some (rawD a), some (tarT a), some TB, y5, some v, y7, y8, y9, none, none, none, none, none, none, none, none, none, none, none, none, none, none, none, none] [rowO r2] = .ok ((prs 7 29).map prD, []) [rowO r2] := by
      generalize (prs 7 29).map prD = P at *
      simp [hp]
    rw [evE_comp, er]
    simp only [R.bind_ok]
    rw [comp_pure prD (predC a) (fun _ => .int 1) (prs 7 29) (lock_nil _) fun q hq => ?_]
    · simp [mkC, onesC]
    · obtain ⟨d, n, rfl, hd, hn⟩ := prs_mem hq
      obtain ⟨rw_, k1, k2, _⟩ := tb0 d hd
      have k2 := k2 n [rowO r2] hn
      have e3 := lpoints_ok (k := 28) (rv [rowO r2]) ga d n
      have e3 : callF PG conG clsG fuelG 29 1027 [rawD a, .int (d : Nat), .int (n : Nat)] [rowO r2] = .ok (.int (pT a d n)) [rowO r2] := e3
      refine ⟨[some (.scr ns), some (.ref 0), some (rawD a), some (tarT a), some TB, some (.int (d : Nat)), some v, some (.int (n : Nat)), y8, y9, none, none, none, none, none, none, none, none, none, none, none, none, none, none, none, none], by simp [prD], ?_, fun _ => by simp⟩
      simp only [predC, Int.toNat_natCast]
      by_cases c : 0 < n
      · simp [c, k1, k2, e3]
      · obtain rfl : n = 0 := by omega
        simp
  refine post_nx (s1 := [some (.scr ns), some (.ref 0), some (rawD a), some (tarT a), some TB, y5, some v, y7, y8, y9, some (.lst ((onesC a).map .int)), none, none, none, none, none, none, none, none, none, none, none, none, none, none, none]) (g1 := [rowO r2]) (by rw [evS_set, ec]; simp) ?_
  rw [b1032_0_8]
  have hoc := eqL_nilI [rowO r2] (onesC a)
  rw [hce] at hoc
  generalize (onesC a).map D.int = OC at *
  refine post_nx (s1 := [some (.scr ns), some (.ref 0), some (rawD a), some (tarT a), some TB, y5, some v, y7, y8, y9, some (.lst OC), none, none, none, none, none, none, none, none, none, none, none, none, none, none, none]) (g1 := [rowO r2]) (by simp [mkL, L0, hoc]) ?_
  -- a day, a stay
  obtain ⟨d, r3, e3, d0, d1, p3⟩ := taken_x 28 r2 7 [] p2 (by omega) (by omega)
  obtain ⟨d, rfl⟩ : ∃ n : Nat, d = (n : Nat) := ⟨d.toNat, by omega⟩
  obtain ⟨q, r4, e4, n0, n1, p4⟩ := taken_x 28 r3 20 [] p3 (by omega) (by omega)
  obtain ⟨n, hn⟩ : ∃ n : Nat, 1 + q = (n : Int) := ⟨(1 + q).toNat, by omega⟩
  have hd : d < 7 := by omega
  have hn1 : 1 ≤ n ∧ n ≤ 20 := by omega
  have e3 : callF PG conG clsG fuelG 29 1000 [.ref 0, .int 7] [rowO r2] = .ok (.int (d : Nat)) [rowO r3] := e3
  have e4 : callF PG conG clsG fuelG 29 1000 [.ref 0, .int 20] [rowO r3] = .ok (.int q) [rowO r4] := e4
  rw [b1032_0_9]
  refine post_nx (s1 := [some (.scr ns), some (.ref 0), some (rawD a), some (tarT a), some TB, some (.int (d : Nat)), some v, some (.int (n : Nat)), y8, y9, some (.lst OC), none, none, none, none, none, none, none, none, none, none, none, none, none, none, none]) (g1 := [rowO r4]) (by simp [e3, e4, hn]) ?_
  rw [b1032_0_10]
  have eb := lbest_ok (k := 27) (g := [rowO r4]) ga d n (by omega)
  have eb : callF PG conG clsG fuelG 29 1031 [rawD a, .int (d : Nat), .int (n : Nat)] [rowO r4] = .ok (eD (bestE (pT a) d n)) [rowO r4] := eb
  have bl := least_mod a d n
  obtain ⟨b1, b2, b3, b4⟩ := best_parts (p := pT a) d n
  have ech := cheap_ok (k := 25) (g := [rowO r4]) ga d n (by omega)
  have ech0 := fun g => cheap_ok (k := 25) (g := g) ga d 0 (by omega)
  have esv := saved_ok (k := 24) (g := [rowO r4]) ga d n (by omega)
  obtain ⟨rw_, k1, k2, _⟩ := tb0 d hd
  have k2 := k2 n [rowO r4] (by omega)
  have hle : least (pT a) d n = (bestE (pT a) d n).1 := rfl
  rw [hle] at k2 esv
  have hbp : (bestE (pT a) d n).2.2.length ≤ 20 := by omega
  have hpp := pln_pair (bestE (pT a) d n).1 (bestE (pT a) d n).2.2 (by omega)
  have e0p : ppts (pT a) d (bestE (pT a) d n).2.2 = (bestE (pT a) d n).1 := b1.symm
  have b3' : ∀ x ∈ (bestE (pT a) d n).2.2, 0 ≤ x := fun x hx => by have := b3 x hx; omega
  rw [eD] at eb
  generalize hB1 : (bestE (pT a) d n).1 = B1 at *
  generalize hB2 : (bestE (pT a) d n).2.1 = B2 at *
  generalize hB3 : (bestE (pT a) d n).2.2 = B3 at *
  refine post_nx (s1 := [some (.scr ns), some (.ref 0), some (rawD a), some (tarT a), some TB, some (.int (d : Nat)), some v, some (.int (n : Nat)), y8, some (.tup (B3.map .int)), some (.lst OC), some (.int B1), some (.int B2), none, none, none, none, none, none, none, none, none, none, none, none, none]) (g1 := [rowO r4]) (by
    generalize B3.map D.int = BB at *
    simp [eb]) ?_
  rw [b1032_0_11]
  have ech : callF PG conG clsG fuelG 29 70 [tarT a, .int (d : Nat), .int (n : Nat)] [rowO r4] = _ := ech
  refine post_nx (s1 := [some (.scr ns), some (.ref 0), some (rawD a), some (tarT a), some TB, some (.int (d : Nat)), some v, some (.int (n : Nat)), y8, some (.tup (B3.map .int)), some (.lst OC), some (.int B1), some (.int B2), none, none, none, none, none, none, none, none, none, none, none, none, none]) (g1 := [rowO r4]) (by
    have := al (g := [rowO r4]) 2 _ (by omega) hpp
    generalize B3.map D.int = BB at *
    simp [k1, k2, ech, L2, this]) ?_
  rw [b1032_0_12]
  have e5 := lpoints_ok (k := 28) (rv [rowO r4]) ga d n
  have e5 : callF PG conG clsG fuelG 29 1027 [rawD a, .int (d : Nat), .int (n : Nat)] [rowO r4] = .ok (.int (pT a d n)) [rowO r4] := e5
  have esv : callF PG conG clsG fuelG 29 72 [tarT a, .int (d : Nat), .int (n : Nat)] [rowO r4] = _ := esv
  refine post_nx (s1 := [some (.scr ns), some (.ref 0), some (rawD a), some (tarT a), some TB, some (.int (d : Nat)), some v, some (.int (n : Nat)), y8, some (.tup (B3.map .int)), some (.lst OC), some (.int B1), some (.int B2), none, none, none, none, none, none, none, none, none, none, none, none, none]) (g1 := [rowO r4]) (by
    have := al (g := [rowO r4]) 0 (.int (pT a d n - B1)) (by omega) rfl
    simp [esv, e5, this]) ?_
  rw [b1032_0_13]
  obtain ⟨mb, r5, e6, p5⟩ := mixed_x 27 r4 [] p4 (.tup (B3.map .int)) (B3.map .int) (.inl rfl)
  have e6 : callF PG conG clsG fuelG 29 1006 [.ref 0, .tup (B3.map .int)] [rowO r4] = .ok (sq mb (B3.map .int)) [rowO r5] := e6
  have e7 := pparts_ok (k := 25) (g := [rowO r5]) B3 (sq_view mb (B3.map .int) _) ga b3' d
  rw [e0p] at e7
  have e7 : callF PG conG clsG fuelG 29 71 [tarT a, .int (d : Nat), sq mb (B3.map .int)] [rowO r5] = .ok (.int B1) [rowO r5] := e7
  have ech0 : callF PG conG clsG fuelG 29 70 [tarT a, .int (d : Nat), .int 0] [rowO r4] = .ok (.tup [.int 0, .tup []]) [rowO r4] := ech0 _
  refine post_nx (s1 := [some (.scr ns), some (.ref 0), some (rawD a), some (tarT a), some TB, some (.int (d : Nat)), some v, some (.int (n : Nat)), y8, some (.tup (B3.map .int)), some (.lst OC), some (.int B1), some (.int B2), none, none, none, none, none, none, none, none, none, none, none, none, none]) (g1 := [rowO r5]) (by
    have h1 := al (g := [rowO r4]) 2 (.tup [.int 0, .tup []]) (by omega) (pln_pair 0 [] (by simp))
    have h2 := al (g := [rowO r5]) 0 (.int B1) (by omega) rfl
    generalize sq mb (B3.map .int) = SQ at *
    generalize B3.map D.int = BB at *
    simp [ech0, L2, L0, h1, e6, e7, h2]) ?_
  -- some parts
  rw [b1032_0_14]
  obtain ⟨c0, r6, e8, c1, c2, p6⟩ := taken_x 28 r5 5 [] p5 (by omega) (by omega)
  obtain ⟨m0, rfl⟩ : ∃ n : Nat, c0 = (n : Nat) := ⟨c0.toNat, by omega⟩
  have e8 : callF PG conG clsG fuelG 29 1000 [.ref 0, .int 5] [rowO r5] = .ok (.int (m0 : Nat)) [rowO r6] := e8
  obtain ⟨bs, r7, e9, p7, lb, hb⟩ := comp_draw (t := .name 14) (W := fnG 29) (e := evE (fnG 29) (.bin .add (.int 1) (.call 1000 (.cons (.var 1) (.cons (.int 6) .nil))))) (s := [some (.scr ns), some (.ref 0), some (rawD a), some (tarT a), some TB, some (.int (d : Nat)), some v, some (.int (n : Nat)), y8, some (.tup (B3.map .int)), some (.lst OC), some (.int B1), some (.int B2), none, none, none, none, none, none, none, none, none, none, none, none, none]) (L := []) (fun k : Nat => D.int (k : Nat)) D.int (fun _ (b : Int) => 0 ≤ b) (List.range m0) (fun y _ r hp => by
    obtain ⟨t, r1, e1, t0, t1, p1⟩ := taken_x 28 r 6 [] hp (by omega) (by omega)
    have e1 : callF PG conG clsG fuelG 29 1000 [.ref 0, .int 6] [rowO r] = .ok (.int t) [rowO r1] := e1
    exact ⟨[some (.scr ns), some (.ref 0), some (rawD a), some (tarT a), some TB, some (.int (d : Nat)), some v, some (.int (n : Nat)), y8, some (.tup (B3.map .int)), some (.lst OC), some (.int B1), some (.int B2), none, some (.int (y : Nat)), none, none, none, none, none, none, none, none, none, none, none], 1 + t, r1, by simp, by simp [e1], p1, by omega⟩) r6 p6
  have hbs : ∀ x ∈ bs, 0 ≤ x := fun x hx => by
    obtain ⟨i, hi, rfl⟩ := List.getElem_of_mem hx
    have hi2 : i < m0 := by rw [lb] at hi; simpa using hi
    exact hb i i bs[i] (List.getElem?_range hi2) (List.getElem?_eq_getElem hi)
  have es2 : evE (fnG 29) (.comp false (.bin .add (.int 1) (.call 1000 (.cons (.var 1) (.cons (.int 6) .nil)))) (.name 14) (.range1 (.call 1000 (.cons (.var 1) (.cons (.int 5) .nil)))) .no) [some (.scr ns), some (.ref 0), some (rawD a), some (tarT a), some TB, some (.int (d : Nat)), some v, some (.int (n : Nat)), y8, some (.tup (B3.map .int)), some (.lst OC), some (.int B1), some (.int B2), none, none, none, none, none, none, none, none, none, none, none, none, none] [rowO r5] = .ok (.lst (bs.map .int)) [rowO r7] := by
    have er := evI_rN (W := fnG 29) (a := .call 1000 (.cons (.var 1) (.cons (.int 5) .nil))) (s := [some (.scr ns), some (.ref 0), some (rawD a), some (tarT a), some TB, some (.int (d : Nat)), some v, some (.int (n : Nat)), y8, some (.tup (B3.map .int)), some (.lst OC), some (.int B1), some (.int B2), none, none, none, none, none, none, none, none, none, none, none, none, none]) (g := [rowO r5]) (g' := [rowO r6]) (n := m0) (by simp [e8]) (lim_le (by omega))
    rw [evE_comp, er]
    simp only [R.bind_ok]
    rw [e9]
    simp [mkC]
  have eps := fun r => pparts_ok (k := 25) (g := [rowO r]) (v := .lst (bs.map .int)) bs (.inl rfl) ga hbs d
  refine post_nx (s1 := [some (.scr ns), some (.ref 0), some (rawD a), some (tarT a), some TB, some (.int (d : Nat)), some v, some (.int (n : Nat)), y8, some (.tup (B3.map .int)), some (.lst OC), some (.int B1), some (.int B2), some (.lst (bs.map .int)), none, none, none, none, none, none, none, none, none, none, none, none]) (g1 := [rowO r7]) (by rw [evS_set, es2]; simp) ?_
  rw [b1032_0_15]
  refine post_nx (s1 := [some (.scr ns), some (.ref 0), some (rawD a), some (tarT a), some TB, some (.int (d : Nat)), some v, some (.int (n : Nat)), y8, some (.tup (B3.map .int)), some (.lst OC), some (.int B1), some (.int B2), some (.lst (bs.map .int)), none, some (.int 0), some (.int (d : Nat)), none, none, none, none, none, none, none, none, none]) (g1 := [rowO r7]) (by simp) ?_
  rw [b1032_0_16]
  refine post_cons (N := fun s g => (∃ y16 y17 : Option D, s = [some (.scr ns), some (.ref 0), some (rawD a), some (tarT a), some TB, some (.int (d : Nat)), some v, some (.int (n : Nat)), y8, some (.tup (B3.map .int)), some (.lst OC), some (.int B1), some (.int B2), some (.lst (bs.map .int)), none, some (.int (ppts (pT a) d bs)), y16, y17, none, none, none, none, none, none, none, none]) ∧ g = [rowO r7]) ?_ ?_
  · have hsrc : evI (fnG 29) (.seq (.var 13)) [some (.scr ns), some (.ref 0), some (rawD a), some (tarT a), some TB, some (.int (d : Nat)), some v, some (.int (n : Nat)), y8, some (.tup (B3.map .int)), some (.lst OC), some (.int B1), some (.int B2), some (.lst (bs.map .int)), none, some (.int 0), some (.int (d : Nat)), none, none, none, none, none, none, none, none, none] [rowO r7] = .ok (bs.map .int, []) [rowO r7] := by
      generalize bs.map D.int = BS at *
      simp
    rw [evS_for_, hsrc]
    refine forL_post D.int (fun r s g1 => (∃ (t : Int) (b : Nat) (z : Option D), s = [some (.scr ns), some (.ref 0), some (rawD a), some (tarT a), some TB, some (.int (d : Nat)), some v, some (.int (n : Nat)), y8, some (.tup (B3.map .int)), some (.lst OC), some (.int B1), some (.int B2), some (.lst (bs.map .int)), none, some (.int t), some (.int (b : Nat)), z, none, none, none, none, none, none, none, none] ∧ t + ppts (pT a) b r = ppts (pT a) d bs ∧ ∀ x ∈ r, 0 ≤ x) ∧ g1 = [rowO r7]) (fun _ _ _ _ => lock_nil _) ?_ ?_ _ _ _ ⟨⟨0, d, none, rfl, by omega, hbs⟩, rfl⟩
    · rintro x r s g1 ⟨⟨t, b, z, rfl, e, hr⟩, rfl⟩
      have h0 := hr x List.mem_cons_self
      have e1 := lpts_1 (k := 28) (rv [rowO r7]) ga b x.toNat
      rw [show ((x.toNat : Nat) : Int) = x by omega] at e1
      have e1 : callF PG conG clsG fuelG 29 1027 [rawD a, .int (((b : Nat) : Int).fmod 7), .int x] [rowO r7] = .ok (.int (pT a b x.toNat)) [rowO r7] := e1
      refine ⟨[some (.scr ns), some (.ref 0), some (rawD a), some (tarT a), some TB, some (.int (d : Nat)), some v, some (.int (n : Nat)), y8, some (.tup (B3.map .int)), some (.lst OC), some (.int B1), some (.int B2), some (.lst (bs.map .int)), none, some (.int t), some (.int (b : Nat)), some (.int x), none, none, none, none, none, none, none, none], by simp, .inl ⟨[some (.scr ns), some (.ref 0), some (rawD a), some (tarT a), some TB, some (.int (d : Nat)), some v, some (.int (n : Nat)), y8, some (.tup (B3.map .int)), some (.lst OC), some (.int B1), some (.int B2), some (.lst (bs.map .int)), none, some (.int (t + pT a b x.toNat)), some (.int ((b : Int) + x)), some (.int x), none, none, none, none, none, none, none, none], [rowO r7], by
        generalize bs.map D.int = BS at *
        simp [b1032_1_0, b1032_1_1, b_mod _ _ 7 (by decide), e1], ⟨_, b + x.toNat, _, by rw [show (((b + x.toNat : Nat)) : Int) = (b : Int) + x by omega], ?_, fun y hy => hr y (List.mem_cons_of_mem _ hy)⟩, rfl⟩⟩
      simp only [ppts] at e
      omega
    · rintro s g1 ⟨⟨t, b, z, rfl, e, hr⟩, rfl⟩
      simp only [ppts] at e
      exact ⟨⟨some (.int (b : Nat)), z, by rw [← e]; simp⟩, rfl⟩
  rintro s g ⟨⟨y16, y17, rfl⟩, rfl⟩
  have eps7 : callF PG conG clsG fuelG 29 71 [tarT a, .int (d : Nat), .lst (bs.map .int)] [rowO r7] = _ := eps r7
  rw [b1032_0_17]
  generalize bs.map D.int = BS at *
  generalize ppts (pT a) d bs = PB at *
  refine post_nx (s1 := [some (.scr ns), some (.ref 0), some (rawD a), some (tarT a), some TB, some (.int (d : Nat)), some v, some (.int (n : Nat)), y8, some (.tup (B3.map .int)), some (.lst OC), some (.int B1), some (.int B2), some (.lst BS), none, some (.int PB), y16, y17, none, none, none, none, none, none, none, none]) (g1 := [rowO r7]) (by
    have h1 := al (g := [rowO r7]) 0 (.int PB) (by omega) rfl
    simp [eps7, h1]) ?_
  -- one split
  obtain ⟨xx, r8, e10, x0, x1, p8⟩ := taken_x 28 r7 ((n : Int) + 1) [] p7 (by omega) (by omega)
  obtain ⟨x, rfl⟩ : ∃ n : Nat, xx = (n : Nat) := ⟨xx.toNat, by omega⟩
  have e10 : callF PG conG clsG fuelG 29 1000 [.ref 0, .int ((n : Int) + 1)] [rowO r7] = .ok (.int (x : Nat)) [rowO r8] := e10
  rw [b1032_0_18]
  refine post_nx (s1 := [some (.scr ns), some (.ref 0), some (rawD a), some (tarT a), some TB, some (.int (d : Nat)), some v, some (.int (n : Nat)), some (.int (x : Nat)), some (.tup (B3.map .int)), some (.lst OC), some (.int B1), some (.int B2), some (.lst BS), none, some (.int PB), y16, y17, none, none, none, none, none, none, none, none]) (g1 := [rowO r8]) (by simp [e10]) ?_
  rw [b1032_0_19]
  have f1 := lpoints_ok (k := 28) (rv [rowO r8]) ga d n
  have f2 := lpoints_ok (k := 28) (rv [rowO r8]) ga d x
  have f3 := lpts_c (k := 28) (rv [rowO r8]) ga d n x (by omega)
  have f1 : callF PG conG clsG fuelG 29 1027 [rawD a, .int (d : Nat), .int (n : Nat)] [rowO r8] = .ok (.int (pT a d n)) [rowO r8] := f1
  have f2 : callF PG conG clsG fuelG 29 1027 [rawD a, .int (d : Nat), .int (x : Nat)] [rowO r8] = .ok (.int (pT a d x)) [rowO r8] := f2
  have f3 : callF PG conG clsG fuelG 29 1027 [rawD a, .int (((d : Int) + (x : Int)).fmod 7), .int ((n : Int) - (x : Int))] [rowO r8] = _ := f3
  refine post_nx (s1 := [some (.scr ns), some (.ref 0), some (rawD a), some (tarT a), some TB, some (.int (d : Nat)), some v, some (.int (n : Nat)), some (.int (x : Nat)), some (.tup (B3.map .int)), some (.lst OC), some (.int B1), some (.int B2), some (.lst BS), none, some (.int PB), y16, y17, some (.int (pT a d n - pT a d x - pT a (d + x) (n - x))), none, none, none, none, none, none, none]) (g1 := [rowO r8]) (by simp [f1, f2, b_mod _ _ 7 (by decide), f3]) ?_
  rw [b1032_0_20]
  have f4 := gain_ok (k := 25) (g := [rowO r8]) ga d n x (by omega)
  rw [show pT a d n - (pT a d x + pT a (d + x) (n - x)) = pT a d n - pT a d x - pT a (d + x) (n - x) by omega] at f4
  have f4 : callF PG conG clsG fuelG 29 67 [tarT a, .int (d : Nat), .int (n : Nat), .int (x : Nat)] [rowO r8] = _ := f4
  generalize pT a d n - pT a d x - pT a (d + x) (n - x) = GG at *
  refine post_nx (s1 := [some (.scr ns), some (.ref 0), some (rawD a), some (tarT a), some TB, some (.int (d : Nat)), some v, some (.int (n : Nat)), some (.int (x : Nat)), some (.tup (B3.map .int)), some (.lst OC), some (.int B1), some (.int B2), some (.lst BS), none, some (.int PB), y16, y17, some (.int GG), none, none, none, none, none, none, none]) (g1 := [rowO r8]) (by
    have h1 := al (g := [rowO r8]) 0 (.int GG) (by omega) rfl
    simp [f4, h1]) ?_
  -- the rows
  obtain ⟨q9, r9, e11, w0, w1, p9⟩ := taken_x 28 r8 9 [] p8 (by omega) (by omega)
  obtain ⟨m, hm⟩ : ∃ n : Nat, 1 + q9 = (n : Int) := ⟨(1 + q9).toNat, by omega⟩
  have hm1 : 1 ≤ m ∧ m ≤ 9 := by omega
  have e11 : callF PG conG clsG fuelG 29 1000 [.ref 0, .int 9] [rowO r8] = .ok (.int q9) [rowO r9] := e11
  rw [b1032_0_21]
  refine post_nx (s1 := [some (.scr ns), some (.ref 0), some (rawD a), some (tarT a), some TB, some (.int (d : Nat)), some v, some (.int (n : Nat)), some (.int (x : Nat)), some (.tup (B3.map .int)), some (.lst OC), some (.int B1), some (.int B2), some (.lst BS), none, some (.int PB), y16, y17, some (.int GG), some (.int (m : Nat)), none, none, none, none, none, none]) (g1 := [rowO r9]) (by simp [e11, hm]) ?_
  rw [b1032_0_22]
  have hR : ∀ d : Nat, d < 7 → ∃ rw_, idxD [rowO r9] TB (.int (d : Nat)) = some rw_ ∧ sliD [rowO r9] rw_ (some 1) (some ((m : Int) + 1)) = some (.lst (((List.range m).map fun i => least (pT a) d (i + 1)).map .int)) := fun d hd => by
    obtain ⟨rw_, k1, _, k3⟩ := tb0 d hd
    exact ⟨rw_, k1 _, k3 m _ hm1.2⟩
  have erw : evE (fnG 29) (.comp false (.bi .tuple (.cons (.sli (.idx (.var 4) (.var 14)) (.yes (.int 1)) (.yes (.bin .add (.var 19) (.int 1)))) .nil)) (.name 14) (.range1 (.int 7)) .no) [some (.scr ns), some (.ref 0), some (rawD a), some (tarT a), some TB, some (.int (d : Nat)), some v, some (.int (n : Nat)), some (.int (x : Nat)), some (.tup (B3.map .int)), some (.lst OC), some (.int B1), some (.int B2), some (.lst BS), none, some (.int PB), y16, y17, some (.int GG), some (.int (m : Nat)), none, none, none, none, none, none] [rowO r9] = .ok (.lst ((List.range 7).map fun d => .tup (((List.range m).map fun i => least (pT a) d (i + 1)).map .int))) [rowO r9] := by
    have er := evI_rN (W := fnG 29) (a := .int 7) (s := [some (.scr ns), some (.ref 0), some (rawD a), some (tarT a), some TB, some (.int (d : Nat)), some v, some (.int (n : Nat)), some (.int (x : Nat)), some (.tup (B3.map .int)), some (.lst OC), some (.int B1), some (.int B2), some (.lst BS), none, some (.int PB), y16, y17, some (.int GG), some (.int (m : Nat)), none, none, none, none, none, none]) (g := [rowO r9]) (g' := [rowO r9]) (n := 7) (by simp) (lim_le (by omega))
    rw [evE_comp, er]
    simp only [R.bind_ok]
    rw [comp_pure (fun i : Nat => D.int (i : Nat)) (fun _ => true) (fun d => .tup (((List.range m).map fun i => least (pT a) d (i + 1)).map .int)) (List.range 7) (lock_nil _) fun z hz => ?_]
    · simp [mkC]
    · obtain ⟨rw_, k1, k3⟩ := hR z (List.mem_range.mp hz)
      refine ⟨[some (.scr ns), some (.ref 0), some (rawD a), some (tarT a), some TB, some (.int (d : Nat)), some v, some (.int (n : Nat)), some (.int (x : Nat)), some (.tup (B3.map .int)), some (.lst OC), some (.int B1), some (.int B2), some (.lst BS), some (.int (z : Nat)), some (.int PB), y16, y17, some (.int GG), some (.int (m : Nat)), none, none, none, none, none, none], by simp, by simp, fun _ => ?_⟩
      generalize ((List.range m).map fun i => least (pT a) z (i + 1)).map D.int = BL at *
      simp [k1, k3, asI]
  refine post_nx (s1 := [some (.scr ns), some (.ref 0), some (rawD a), some (tarT a), some TB, some (.int (d : Nat)), some v, some (.int (n : Nat)), some (.int (x : Nat)), some (.tup (B3.map .int)), some (.lst OC), some (.int B1), some (.int B2), some (.lst BS), none, some (.int PB), y16, y17, some (.int GG), some (.int (m : Nat)), some (.tup ((List.range 7).map fun d => .tup (((List.range m).map fun i => least (pT a) d (i + 1)).map .int))), none, none, none, none, none]) (g1 := [rowO r9]) (by
    simp only [evS_set, evE_bi, evEs_cons, evEs_nil, erw, R.bind_ok]
    generalize ((List.range 7).map fun d => D.tup (((List.range m).map fun i => least (pT a) d (i + 1)).map .int)) = RR at *
    simp) ?_
  rw [b1032_0_23]
  have epr := proofed_ok (k := 23) (g := [rowO r9]) ga m (by omega)
  have hRV : RowsV [rowO r9] (.tup ((List.range 7).map fun d => .tup (((List.range m).map fun i => least (pT a) d (i + 1)).map .int))) ((List.range 7).map fun d => .tup (((List.range m).map fun i => least (pT a) d (i + 1)).map .int)) (fun i j => least (pT a) i (j + 1)) m := by
    refine ⟨.inr (.inl rfl), by simp, fun i hi => ⟨(List.range m).map fun j => least (pT a) i (j + 1), ?_, by simp, fun j hj => by rw [List.getElem?_map, List.getElem?_range hj]; rfl⟩⟩
    rw [List.getD_eq_getElem?_getD, List.getElem?_map, List.getElem?_range hi]
    exact .inr (.inl rfl)
  obtain ⟨cs, esb, hcs⟩ := subadd_x (k := 28) hRV (by omega)
  obtain rfl : cs = true := hcs.mpr (least_subP a m)
  have hpl2 : pln 2 (.tup ((List.range 7).map fun d => .tup (((List.range m).map fun i => least (pT a) d (i + 1)).map .int))) = true := pln_tup (by simp) (plns_all 1 _ _ fun d _ => pln_ints (by simp; omega))
  have epr : callF PG conG clsG fuelG 29 74 [tarT a, .int (m : Nat)] [rowO r9] = _ := epr
  have esb : callF PG conG clsG fuelG 29 75 _ [rowO r9] = _ := esb
  have hbt : ∀ g, cmpD .isnn g (.bl true) (.bl true) = some false := fun g => rfl
  refine post_nx (s1 := [some (.scr ns), some (.ref 0), some (rawD a), some (tarT a), some TB, some (.int (d : Nat)), some v, some (.int (n : Nat)), some (.int (x : Nat)), some (.tup (B3.map .int)), some (.lst OC), some (.int B1), some (.int B2), some (.lst BS), none, some (.int PB), y16, y17, some (.int GG), some (.int (m : Nat)), some (.tup ((List.range 7).map fun d => .tup (((List.range m).map fun i => least (pT a) d (i + 1)).map .int))), none, none, none, none, none]) (g1 := [rowO r9]) (by
    have h1 := al (g := [rowO r9]) 2 _ (by omega) hpl2
    generalize ((List.range 7).map fun d => D.tup (((List.range m).map fun i => least (pT a) d (i + 1)).map .int)) = RR at *
    simp [epr, h1, esb, hbt]) ?_
  -- the same rows, one number changed
  rw [b1032_0_24]
  let R7 : List (List Int) := (List.range 7).map fun d => (List.range m).map fun i => least (pT a) d (i + 1)
  have hR7 : (List.range 7).map (fun d => D.tup (((List.range m).map fun i => least (pT a) d (i + 1)).map .int)) = R7.map fun y => D.tup (y.map .int) := by
    show _ = ((List.range 7).map _).map _
    rw [List.map_map]; rfl
  have hlen7 : R7.length = 7 := by simp [R7]
  have hrl : ∀ y ∈ R7, y.length = m := fun y hy => by
    obtain ⟨d, _, rfl⟩ := List.mem_map.mp hy
    simp
  have eot : evE (fnG 29) (.comp false (.mlist (.var 22)) (.name 22) (.seq (.var 20)) .no) [some (.scr ns), some (.ref 0), some (rawD a), some (tarT a), some TB, some (.int (d : Nat)), some v, some (.int (n : Nat)), some (.int (x : Nat)), some (.tup (B3.map .int)), some (.lst OC), some (.int B1), some (.int B2), some (.lst BS), none, some (.int PB), y16, y17, some (.int GG), some (.int (m : Nat)), some (.tup (R7.map fun y => D.tup (y.map .int))), none, none, none, none, none] [rowO r9] = .ok (.lst ((List.range 7).map fun i => .ref (i + 1))) (rowO r9 :: R7.map fun y => .lst (y.map .int)) := by
    have er : evI (fnG 29) (.seq (.var 20)) [some (.scr ns), some (.ref 0), some (rawD a), some (tarT a), some TB, some (.int (d : Nat)), some v, some (.int (n : Nat)), some (.int (x : Nat)), some (.tup (B3.map .int)), some (.lst OC), some (.int B1), some (.int B2), some (.lst BS), none, some (.int PB), y16, y17, some (.int GG), some (.int (m : Nat)), some (.tup (R7.map fun y => D.tup (y.map .int))), none, none, none, none, none] [rowO r9] = .ok (R7.map fun y => D.tup (y.map .int), []) [rowO r9] := by
      generalize R7.map (fun y => D.tup (y.map .int)) = RR at *
      simp
    have hc := (comp_acc (t := .name 22) (lk := []) (c := evCs (fnG 29) .no) (e := evE (fnG 29) (.mlist (.var 22))) (s := [some (.scr ns), some (.ref 0), some (rawD a), some (tarT a), some TB, some (.int (d : Nat)), some v, some (.int (n : Nat)), some (.int (x : Nat)), some (.tup (B3.map .int)), some (.lst OC), some (.int B1), some (.int B2), some (.lst BS), none, some (.int PB), y16, y17, some (.int GG), some (.int (m : Nat)), some (.tup (R7.map fun y => D.tup (y.map .int))), none, none, none, none, none]) (fun (y : List Int) => D.tup (y.map .int)) (fun (y : List Int) (b : List (List Int)) => (D.ref (b.length + 1), b ++ [y])) (fun b => rowO r9 :: b.map fun y => .lst (y.map .int)) (fun _ => True) R7 (fun _ _ => lock_nil _) (fun y hy b _ => by
      refine ⟨[some (.scr ns), some (.ref 0), some (rawD a), some (tarT a), some TB, some (.int (d : Nat)), some v, some (.int (n : Nat)), some (.int (x : Nat)), some (.tup (B3.map .int)), some (.lst OC), some (.int B1), some (.int B2), some (.lst BS), none, some (.int PB), y16, y17, some (.int GG), some (.int (m : Nat)), some (.tup (R7.map fun y => D.tup (y.map .int))), none, some (.tup (y.map .int)), none, none, none], by simp, by simp, ?_, trivial⟩
      have hl : y.length ≤ LIM := lim_le (by rw [hrl y hy]; omega)
      simp [seqOf, view, mkL, hl]) [] trivial).1
    rw [accL_refs] at hc
    rw [evE_comp, er]
    simp only [R.bind_ok]
    have hc : compL (.name 22) [] (evCs (fnG 29) .no) (evE (fnG 29) (.mlist (.var 22))) (R7.map fun y => D.tup (y.map .int)) _ [rowO r9] = _ := hc
    rw [hc]
    rw [hlen7]
    simp [mkC]
  rw [hR7]
  refine post_nx (s1 := [some (.scr ns), some (.ref 0), some (rawD a), some (tarT a), some TB, some (.int (d : Nat)), some v, some (.int (n : Nat)), some (.int (x : Nat)), some (.tup (B3.map .int)), some (.lst OC), some (.int B1), some (.int B2), some (.lst BS), none, some (.int PB), y16, y17, some (.int GG), some (.int (m : Nat)), some (.tup (R7.map fun y => D.tup (y.map .int))), some (.lst ((List.range 7).map fun i => .ref (i + 1))), none, none, none, none]) (g1 := rowO r9 :: R7.map fun y => .lst (y.map .int)) (by rw [evS_set, eot]; simp) ?_
  clear eot epr esb hpl2 hRV hcs
  -- one number
  have hat : ∀ (r : Row) (i : Nat), i < 7 → (rowO r :: R7.map fun y => O.lst (y.map .int))[i + 1]? = some (.lst ((R7.getD i []).map .int)) := fun r i hi => by
    have h : i < R7.length := by omega
    simp [List.getD_eq_getElem?_getD, h]
  have hrow : ∀ i : Nat, i < 7 → (R7.getD i []) = (List.range m).map fun j => least (pT a) i (j + 1) := fun i hi => by
    simp only [R7, List.getD_eq_getElem?_getD]
    rw [List.getElem?_map, List.getElem?_range hi]; rfl
  obtain ⟨at_, r10, e12, t0', t1', p10⟩ := taken_x 28 r9 7 (R7.map fun y => O.lst (y.map .int)) p9 (by omega) (by omega)
  obtain ⟨at_, rfl⟩ : ∃ n : Nat, at_ = (n : Nat) := ⟨at_.toNat, by omega⟩
  obtain ⟨kk, r11, e13, u0, u1, p11⟩ := taken_x 28 r10 (m : Nat) (R7.map fun y => O.lst (y.map .int)) p10 (by omega) (by omega)
  obtain ⟨kk, rfl⟩ : ∃ n : Nat, kk = (n : Nat) := ⟨kk.toNat, by omega⟩
  obtain ⟨vv, r12, e14, p12, hvv⟩ := pick_x 27 r11 [.int 1, .int 100, .int (-1)] (R7.map fun y => O.lst (y.map .int)) p11 (by simp) (by simp)
  obtain ⟨cc, rfl⟩ : ∃ c : Int, vv = .int c := by
    simp only [List.mem_cons, List.not_mem_nil, or_false] at hvv
    rcases hvv with rfl | rfl | rfl <;> exact ⟨_, rfl⟩
  have ha7 : at_ < 7 := by omega
  have hkm : kk < m := by omega
  have e12 : callF PG conG clsG fuelG 29 1000 [.ref 0, .int 7] (rowO r9 :: R7.map fun y => O.lst (y.map .int)) = .ok (.int (at_ : Nat)) (rowO r10 :: R7.map fun y => O.lst (y.map .int)) := e12
  have e13 : callF PG conG clsG fuelG 29 1000 [.ref 0, .int (m : Nat)] (rowO r10 :: R7.map fun y => O.lst (y.map .int)) = .ok (.int (kk : Nat)) (rowO r11 :: R7.map fun y => O.lst (y.map .int)) := e13
  have e14 : callF PG conG clsG fuelG 29 1001 [.ref 0, .lst [.int 1, .int 100, .int (-1)]] (rowO r11 :: R7.map fun y => O.lst (y.map .int)) = .ok (.int cc) (rowO r12 :: R7.map fun y => O.lst (y.map .int)) := e14
  rw [b1032_0_25]
  have href : ∀ (g : G) (i : Nat), i < 7 → idxD g (.lst ((List.range 7).map fun i => D.ref (i + 1))) (.int (i : Nat)) = some (.ref (i + 1)) := fun g i hi => x_lst _ _ (by rw [List.getElem?_map, List.getElem?_range hi]; rfl)
  have hrefs : ∀ i : Nat, i < 7 → ((List.range 7).map fun i => D.ref (i + 1)).getD i .non = .ref (i + 1) := fun i hi => by
    rw [List.getD_eq_getElem?_getD, List.getElem?_map, List.getElem?_range hi]; rfl
  have hlr : ((List.range 7).map fun i => D.ref (i + 1)).length = 7 := by simp
  have hat2 := fun r => idx_at (hat r at_ ha7) (i := kk) (d := .int (least (pT a) at_ (kk + 1))) (by rw [hrow at_ ha7, List.getElem?_map, List.getElem?_map, List.getElem?_range hkm]; rfl)
  let R8 : List (List Int) := R7.set at_ ((R7.getD at_ []).set kk (least (pT a) at_ (kk + 1) + cc))
  have hput : putP (.ref (at_ + 1)) (.int (kk : Nat)) (.int (least (pT a) at_ (kk + 1) + cc)) (rowO r12 :: R7.map fun y => O.lst (y.map .int)) = some (rowO r12 :: R8.map fun y => O.lst (y.map .int)) := by
    rw [put_at (hat r12 at_ ha7) _ (by rw [hrow at_ ha7]; simpa using hkm), List.set_cons_succ]
    simp only [R8, List.map_set]
  have hR8 : ∀ i : Nat, i < 7 → (rowO r12 :: R8.map fun y => O.lst (y.map .int))[i + 1]? = some (.lst ((R8.getD i []).map .int)) ∧ (R8.getD i []).length = m := fun i hi => by
    have h : i < R8.length := by simp [R8]; omega
    refine ⟨by simp [List.getD_eq_getElem?_getD, h], ?_⟩
    simp only [R8, List.getD_eq_getElem?_getD]
    by_cases c : at_ = i
    · subst c
      rw [List.getElem?_set_self (by omega)]
      have := hrow at_ ha7
      simp only [List.getD_eq_getElem?_getD] at this
      simp [this]
    · rw [List.getElem?_set_ne c]
      have := hrow i hi
      simp only [List.getD_eq_getElem?_getD] at this
      simp [this]
  have hRV8 : RowsV (rowO r12 :: R8.map fun y => O.lst (y.map .int)) (.lst ((List.range 7).map fun i => D.ref (i + 1))) ((List.range 7).map fun i => D.ref (i + 1)) (fun i j => (R8.getD i []).getD j 0) m := by
    refine ⟨.inl rfl, hlr, fun i hi => ⟨R8.getD i [], ?_, (hR8 i hi).2, fun j hj => ?_⟩⟩
    · rw [hrefs i hi]
      exact .inr (.inr ⟨i + 1, rfl, (hR8 i hi).1⟩)
    · have h : j < (R8.getD i []).length := by rw [(hR8 i hi).2]; exact hj
      rw [List.getD_eq_getElem?_getD (l := R8.getD i []), List.getElem?_eq_getElem h]; rfl
  have hat2' := hat2 r11
  generalize hTT : (fun i j => (R8.getD i []).getD j 0) = TT at *
  generalize hG8 : (R8.map fun y => O.lst (y.map .int)) = J8 at *
  generalize hG7 : (R7.map fun y => O.lst (y.map .int)) = J7 at *
  generalize hRR : ((List.range 7).map fun i => D.ref (i + 1)) = RF at *
  refine post_nx (s1 := [some (.scr ns), some (.ref 0), some (rawD a), some (tarT a), some TB, some (.int (d : Nat)), some v, some (.int (n : Nat)), some (.int (x : Nat)), some (.tup (B3.map .int)), some (.lst OC), some (.int B1), some (.int B2), some (.lst BS), some (.int (kk : Nat)), some (.int PB), some (.int (at_ : Nat)), y17, some (.int GG), some (.int (m : Nat)), some (.tup (R7.map fun y => D.tup (y.map .int))), some (.lst RF), none, none, none, none]) (g1 := rowO r11 :: J7) (by simp [e12, e13]) ?_
  rw [b1032_0_26]
  refine post_nx (s1 := [some (.scr ns), some (.ref 0), some (rawD a), some (tarT a), some TB, some (.int (d : Nat)), some v, some (.int (n : Nat)), some (.int (x : Nat)), some (.tup (B3.map .int)), some (.lst OC), some (.int B1), some (.int B2), some (.lst BS), some (.int (kk : Nat)), some (.int PB), some (.int (at_ : Nat)), y17, some (.int GG), some (.int (m : Nat)), some (.tup (R7.map fun y => D.tup (y.map .int))), some (.lst RF), none, none, none, none]) (g1 := rowO r12 :: J8) (by
    have h1 := href (rowO r11 :: J7) at_ ha7
    have h2 := href (rowO r12 :: J7) at_ ha7
    simp [h1, h2, hat2', mkL, L3, e14, hput]) ?_
  rw [b1032_0_27]
  refine post_nx (s1 := [some (.scr ns), some (.ref 0), some (rawD a), some (tarT a), some TB, some (.int (d : Nat)), some v, some (.int (n : Nat)), some (.int (x : Nat)), some (.tup (B3.map .int)), some (.lst OC), some (.int B1), some (.int B2), some (.lst BS), some (.int (kk : Nat)), some (.int PB), some (.int (at_ : Nat)), y17, some (.int GG), some (.int (m : Nat)), some (.tup (R7.map fun y => D.tup (y.map .int))), some (.lst RF), none, some (.bl true), none, none]) (g1 := rowO r12 :: J8) (by simp) ?_
  rw [b1032_0_28]
  refine post_cons (post_mono (due_x (k := 29) hRV8 (by omega) hm1.1 _ _ _ _ _ _ _ _ _ _ _ _ _ _ _ _ _ _ _ _ _ _ _ _ rfl) (fun _ _ h => h) (fun _ _ h => h.elim) (fun _ _ h => h)) ?_
  rintro s g ⟨rfl, c9, y17', y24, y25, rfl, hc9⟩
  obtain ⟨c8, e15, hc8⟩ := subadd_x (k := 28) hRV8 (by omega)
  have hcc : c8 = c9 := bool_iff (hc8.trans hc9.symm)
  subst hcc
  have e15 : callF PG conG clsG fuelG 29 75 [.lst RF] (rowO r12 :: J8) = _ := e15
  rw [b1032_0_29]
  have e16 : evS (fnG 29) (.ret (.call 1009 (.cons (.call 75 (.cons (.var 21) .nil)) (.cons (.var 23) .nil)))) [some (.scr ns), some (.ref 0), some (rawD a), some (tarT a), some TB, some (.int (d : Nat)), some v, some (.int (n : Nat)), some (.int (x : Nat)), some (.tup (B3.map .int)), some (.lst OC), some (.int B1), some (.int B2), some (.lst BS), some (.int (kk : Nat)), some (.int PB), some (.int (at_ : Nat)), y17', some (.int GG), some (.int (m : Nat)), some (.tup (R7.map fun y => D.tup (y.map .int))), some (.lst RF), none, some (.bl c8), y24, y25] (rowO r12 :: J8) = .rt (.bl true) (rowO r12 :: J8) := by
    simp [e15, tr]
  rw [evSs_rt e16]
  exact rfl

end KT

namespace KT
open PySem PySem.Spec PyProof.Rows L2 KN
abbrev inS (i j : Nat) : Stmt := (clsBody (PySem.Challenge.pw_keptnights_k32_whole_splitting.main.body.getD i (.Pass ⟨0, 0, 0, 0⟩))).getD j (.Pass ⟨0, 0, 0, 0⟩)
def topS (i : Nat) : Stmt := PySem.Challenge.pw_keptnights_k32_whole_splitting.main.body.getD i (.Pass ⟨0, 0, 0, 0⟩)
def d19 : Df := ⟨19, "is_whole", "is_whole", true, false, topS 6, ["value"], ["value"], f19, [], false⟩
def d20 : Df := ⟨20, "is_number", "is_number", true, false, topS 7, ["value", "least", "most"], ["value", "least", "most"], f20, [], false⟩
def d21 : Df := ⟨21, "is_row", "is_row", true, false, topS 8, ["value"], ["value"], f21, [], false⟩
def d10 : Df := ⟨10, "frozen", "frozen", true, false, topS 9, ["value", "part"], ["value"], f10, [], false⟩
def d42 : Df := ⟨42, "want_row", "want_row", true, false, topS 10, ["value", "is_item", "most", "index", "item"], ["value", "is_item", "most"], f42, [], false⟩
def d43 : Df := ⟨43, "is_rate", "is_rate", true, false, topS 17, ["value"], ["value"], f43, [], false⟩
def d44 : Df := ⟨44, "is_step", "is_step", true, false, topS 18, ["value"], ["value"], f44, [], false⟩
def d45 : Df := ⟨45, "want_week", "want_week", true, false, topS 19, ["value"], ["value"], f45, [], false⟩
def d46 : Df := ⟨46, "want_percents", "want_percents", true, false, topS 20, ["value", "found", "index"], ["value"], f46, [], false⟩
def d47 : Df := ⟨47, "percent_off", "percent_off", true, false, topS 21, ["percents", "nights", "found", "least", "percent"], ["percents", "nights"], f47, [], false⟩
def d48 : Df := ⟨48, "__init__", "Tariff.__init__", false, false, inS 22 0, ["self", "week", "percents"], ["self", "week", "percents"], f48, [], true⟩
def d50 : Df := ⟨50, "steady", "Tariff.steady", false, false, inS 22 2, ["self"], ["self"], f50, [], false⟩
def d51 : Df := ⟨51, "left", "Tariff.left", false, false, inS 22 3, ["self", "nights"], ["self", "nights"], f51, [], false⟩
def d52 : Df := ⟨52, "rates", "Tariff.rates", false, false, inS 22 4, ["self", "day", "nights", "weeks", "rest", "k"], ["self", "day", "nights"], f52, [], false⟩
def d53 : Df := ⟨53, "points", "Tariff.points", false, false, inS 22 5, ["self", "day", "nights"], ["self", "day", "nights"], f53, [], false⟩
def d67 : Df := ⟨67, "split_gain", "split_gain", true, false, topS 24, ["tariff", "day", "nights", "ahead", "parts"], ["tariff", "day", "nights", "ahead"], f67, [], false⟩
def d68 : Df := ⟨68, "first_split", "first_split", true, false, topS 25, ["tariff", "nights", "day", "ahead"], ["tariff"], f68, [], false⟩
def d69 : Df := ⟨69, "is_split_proof", "is_split_proof", true, false, topS 26, ["tariff"], ["tariff"], f69, [], false⟩
def d70 : Df := ⟨70, "cheapest_parts", "cheapest_parts", true, false, topS 27, ["tariff", "day", "nights", "best", "done", "ways", "begun", "points", "many", "parts", "part"], ["tariff", "day", "nights"], f70, [], false⟩
def d71 : Df := ⟨71, "parts_points", "parts_points", true, false, topS 28, ["tariff", "day", "parts", "total", "begun", "part"], ["tariff", "day", "parts"], f71, [], false⟩
def d72 : Df := ⟨72, "saved_points", "saved_points", true, false, topS 29, ["tariff", "day", "nights"], ["tariff", "day", "nights"], f72, [], false⟩
def d73 : Df := ⟨73, "proofed_row", "proofed_row", true, false, topS 30, ["tariff", "day", "most", "nights"], ["tariff", "day", "most"], f73, [], false⟩
def d74 : Df := ⟨74, "proofed", "proofed", true, false, topS 31, ["tariff", "most", "day"], ["tariff", "most"], f74, [], false⟩
def d75 : Df := ⟨75, "is_subadditive", "is_subadditive", true, false, topS 32, ["rows", "day", "row", "nights", "ahead"], ["rows"], f75, [], false⟩
def d1000 : Df := ⟨1000, "_law_taken", "_law_taken", true, false, topS 34, ["row", "many", "found", "cell"], ["row", "many"], f1000, [], false⟩
def d1001 : Df := ⟨1001, "_law_pick", "_law_pick", true, false, topS 35, ["row", "kinds"], ["row", "kinds"], f1001, [], false⟩
def d1002 : Df := ⟨1002, "_law_alike", "_law_alike", true, false, topS 36, ["found", "due", "k"], ["found", "due"], f1002, [], false⟩
def d1006 : Df := ⟨1006, "_law_mixed", "_law_mixed", true, false, topS 37, ["row", "value"], ["row", "value"], f1006, [], false⟩
def d1022 : Df := ⟨1022, "_law_row", "_law_row", true, false, topS 38, ["row", "many", "most", "found", "k"], ["row", "many", "most"], f1022, [], false⟩
def d1009 : Df := ⟨1009, "_law_truth", "_law_truth", true, false, topS 39, ["found", "due"], ["found", "due"], f1009, [], false⟩
def d1026 : Df := ⟨1026, "_law_tariff", "_law_tariff", true, false, topS 40, ["row", "top", "most", "week", "steps", "nights", "k"], ["row", "top", "most"], f1026, [], false⟩
def d1027 : Df := ⟨1027, "_law_points", "_law_points", true, false, topS 41, ["raw", "day", "nights", "percent", "least", "off", "total", "k"], ["raw", "day", "nights"], f1027, [], false⟩
def d1028 : Df := ⟨1028, "_law_pairs", "_law_pairs", true, false, topS 42, ["firsts", "seconds", "found", "one", "two"], ["firsts", "seconds"], f1028, [], false⟩
def d1030 : Df := ⟨1030, "_law_least_points", "_law_least_points", true, false, topS 43, ["raw", "day", "most", "best", "nights", "k"], ["raw", "day", "most"], f1030, [], false⟩
def d1031 : Df := ⟨1031, "_law_best_parts", "_law_best_parts", true, false, topS 44, ["raw", "day", "nights", "best", "done", "some", "k", "points", "many", "parts"], ["raw", "day", "nights"], f1031, [], false⟩
def d1032 : Df := ⟨1032, "law", "law", true, false, topS 45, ["script", "row", "raw", "made", "tables", "day", "found", "nights", "ahead", "parts", "cheaper", "points", "many", "some", "k", "total", "at", "part", "gain", "most", "rows", "other", "line", "due", "first", "size"], ["script"], f1032, [], false⟩
def defsL : List Df := [d19, d20, d21, d10, d42, d43, d44, d45, d46, d47, d48, d50, d51, d52, d53, d67, d68, d69, d70, d71, d72, d73, d74, d75, d1000, d1001, d1002, d1006, d1022, d1009, d1026, d1027, d1028, d1030, d1031, d1032]
def knsL : List Str := ["__eq__", "left", "rates", "points", "scaled", "steady", "week", "percents"]
def clnL : List Str := ["Tariff"]
def clnG : Nat → Option Str := fun i => clnL[i]?
theorem cls_ok : clsOkB defsL clsL = true := by decide +kernel
theorem defs_ok : (defsL.all fun d => d.ok (Txt.of defsL knsL (cnOf consL) conG clsG clnG fuelG)) = true := by decide +kernel
theorem kns_ok : knOk knsL = true := by decide +kernel
theorem pg_eq : (fun f => (findDf f defsL).map (·.F)) = PG := (look_eq defsL).trans rfl
def lamsL : List Nat := []
theorem lams_ok : lamsOk defsL lamsL = true := by decide +kernel
theorem b19 (kV doc pm : Value) (an : Option Addr) (cdv ct : Value) (us : List Value) (hl : us.length = d19.ps.length) : bindArgs (PySem.W.fnOf d19.nm d19.ql (defArgs d19.st) (defBody d19.st) (defScope d19.st) .none kV doc pm an cdv ct) ⟨us, []⟩ = pure (d19.ps.zip us) := match us, hl with
  | [_], _ => rfl
theorem b20 (kV doc pm : Value) (an : Option Addr) (cdv ct : Value) (us : List Value) (hl : us.length = d20.ps.length) : bindArgs (PySem.W.fnOf d20.nm d20.ql (defArgs d20.st) (defBody d20.st) (defScope d20.st) .none kV doc pm an cdv ct) ⟨us, []⟩ = pure (d20.ps.zip us) := match us, hl with
  | [_, _, _], _ => rfl
theorem b21 (kV doc pm : Value) (an : Option Addr) (cdv ct : Value) (us : List Value) (hl : us.length = d21.ps.length) : bindArgs (PySem.W.fnOf d21.nm d21.ql (defArgs d21.st) (defBody d21.st) (defScope d21.st) .none kV doc pm an cdv ct) ⟨us, []⟩ = pure (d21.ps.zip us) := match us, hl with
  | [_], _ => rfl
theorem b10 (kV doc pm : Value) (an : Option Addr) (cdv ct : Value) (us : List Value) (hl : us.length = d10.ps.length) : bindArgs (PySem.W.fnOf d10.nm d10.ql (defArgs d10.st) (defBody d10.st) (defScope d10.st) .none kV doc pm an cdv ct) ⟨us, []⟩ = pure (d10.ps.zip us) := match us, hl with
  | [_], _ => rfl
theorem b42 (kV doc pm : Value) (an : Option Addr) (cdv ct : Value) (us : List Value) (hl : us.length = d42.ps.length) : bindArgs (PySem.W.fnOf d42.nm d42.ql (defArgs d42.st) (defBody d42.st) (defScope d42.st) .none kV doc pm an cdv ct) ⟨us, []⟩ = pure (d42.ps.zip us) := match us, hl with
  | [_, _, _], _ => rfl
theorem b43 (kV doc pm : Value) (an : Option Addr) (cdv ct : Value) (us : List Value) (hl : us.length = d43.ps.length) : bindArgs (PySem.W.fnOf d43.nm d43.ql (defArgs d43.st) (defBody d43.st) (defScope d43.st) .none kV doc pm an cdv ct) ⟨us, []⟩ = pure (d43.ps.zip us) := match us, hl with
  | [_], _ => rfl
theorem b44 (kV doc pm : Value) (an : Option Addr) (cdv ct : Value) (us : List Value) (hl : us.length = d44.ps.length) : bindArgs (PySem.W.fnOf d44.nm d44.ql (defArgs d44.st) (defBody d44.st) (defScope d44.st) .none kV doc pm an cdv ct) ⟨us, []⟩ = pure (d44.ps.zip us) := match us, hl with
  | [_], _ => rfl
theorem b45 (kV doc pm : Value) (an : Option Addr) (cdv ct : Value) (us : List Value) (hl : us.length = d45.ps.length) : bindArgs (PySem.W.fnOf d45.nm d45.ql (defArgs d45.st) (defBody d45.st) (defScope d45.st) .none kV doc pm an cdv ct) ⟨us, []⟩ = pure (d45.ps.zip us) := match us, hl with
  | [_], _ => rfl
theorem b46 (kV doc pm : Value) (an : Option Addr) (cdv ct : Value) (us : List Value) (hl : us.length = d46.ps.length) : bindArgs (PySem.W.fnOf d46.nm d46.ql (defArgs d46.st) (defBody d46.st) (defScope d46.st) .none kV doc pm an cdv ct) ⟨us, []⟩ = pure (d46.ps.zip us) := match us, hl with
  | [_], _ => rfl
theorem b47 (kV doc pm : Value) (an : Option Addr) (cdv ct : Value) (us : List Value) (hl : us.length = d47.ps.length) : bindArgs (PySem.W.fnOf d47.nm d47.ql (defArgs d47.st) (defBody d47.st) (defScope d47.st) .none kV doc pm an cdv ct) ⟨us, []⟩ = pure (d47.ps.zip us) := match us, hl with
  | [_, _], _ => rfl
theorem b48 (TA : Addr) (kV doc pm : Value) (an : Option Addr) (cdv ct : Value) (us its : List Value) (h1 : us.length = d48.ps.length) (h2 : its.length = 1) : ∃ k, bindArgs (PySem.W.fnOf d48.nm d48.ql (defArgs d48.st) (defBody d48.st) (defScope d48.st) (.ref TA) kV doc pm an cdv ct) ⟨us, []⟩ = seqItems? (.ref TA) >>= k ∧ k (some its.toArray) = pure (d48.ps.zip us) := match us, its, h1, h2 with
  | [_, _, _], [_], _, _ => ⟨_, rfl, rfl⟩
theorem b50 (kV doc pm : Value) (an : Option Addr) (cdv ct : Value) (us : List Value) (hl : us.length = d50.ps.length) : bindArgs (PySem.W.fnOf d50.nm d50.ql (defArgs d50.st) (defBody d50.st) (defScope d50.st) .none kV doc pm an cdv ct) ⟨us, []⟩ = pure (d50.ps.zip us) := match us, hl with
  | [_], _ => rfl
theorem b51 (kV doc pm : Value) (an : Option Addr) (cdv ct : Value) (us : List Value) (hl : us.length = d51.ps.length) : bindArgs (PySem.W.fnOf d51.nm d51.ql (defArgs d51.st) (defBody d51.st) (defScope d51.st) .none kV doc pm an cdv ct) ⟨us, []⟩ = pure (d51.ps.zip us) := match us, hl with
  | [_, _], _ => rfl
theorem b52 (kV doc pm : Value) (an : Option Addr) (cdv ct : Value) (us : List Value) (hl : us.length = d52.ps.length) : bindArgs (PySem.W.fnOf d52.nm d52.ql (defArgs d52.st) (defBody d52.st) (defScope d52.st) .none kV doc pm an cdv ct) ⟨us, []⟩ = pure (d52.ps.zip us) := match us, hl with
  | [_, _, _], _ => rfl
theorem b53 (kV doc pm : Value) (an : Option Addr) (cdv ct : Value) (us : List Value) (hl : us.length = d53.ps.length) : bindArgs (PySem.W.fnOf d53.nm d53.ql (defArgs d53.st) (defBody d53.st) (defScope d53.st) .none kV doc pm an cdv ct) ⟨us, []⟩ = pure (d53.ps.zip us) := match us, hl with
  | [_, _, _], _ => rfl
theorem b67 (kV doc pm : Value) (an : Option Addr) (cdv ct : Value) (us : List Value) (hl : us.length = d67.ps.length) : bindArgs (PySem.W.fnOf d67.nm d67.ql (defArgs d67.st) (defBody d67.st) (defScope d67.st) .none kV doc pm an cdv ct) ⟨us, []⟩ = pure (d67.ps.zip us) := match us, hl with
  | [_, _, _, _], _ => rfl
theorem b68 (kV doc pm : Value) (an : Option Addr) (cdv ct : Value) (us : List Value) (hl : us.length = d68.ps.length) : bindArgs (PySem.W.fnOf d68.nm d68.ql (defArgs d68.st) (defBody d68.st) (defScope d68.st) .none kV doc pm an cdv ct) ⟨us, []⟩ = pure (d68.ps.zip us) := match us, hl with
  | [_], _ => rfl
theorem b69 (kV doc pm : Value) (an : Option Addr) (cdv ct : Value) (us : List Value) (hl : us.length = d69.ps.length) : bindArgs (PySem.W.fnOf d69.nm d69.ql (defArgs d69.st) (defBody d69.st) (defScope d69.st) .none kV doc pm an cdv ct) ⟨us, []⟩ = pure (d69.ps.zip us) := match us, hl with
  | [_], _ => rfl
theorem b70 (kV doc pm : Value) (an : Option Addr) (cdv ct : Value) (us : List Value) (hl : us.length = d70.ps.length) : bindArgs (PySem.W.fnOf d70.nm d70.ql (defArgs d70.st) (defBody d70.st) (defScope d70.st) .none kV doc pm an cdv ct) ⟨us, []⟩ = pure (d70.ps.zip us) := match us, hl with
  | [_, _, _], _ => rfl
theorem b71 (kV doc pm : Value) (an : Option Addr) (cdv ct : Value) (us : List Value) (hl : us.length = d71.ps.length) : bindArgs (PySem.W.fnOf d71.nm d71.ql (defArgs d71.st) (defBody d71.st) (defScope d71.st) .none kV doc pm an cdv ct) ⟨us, []⟩ = pure (d71.ps.zip us) := match us, hl with
  | [_, _, _], _ => rfl
theorem b72 (kV doc pm : Value) (an : Option Addr) (cdv ct : Value) (us : List Value) (hl : us.length = d72.ps.length) : bindArgs (PySem.W.fnOf d72.nm d72.ql (defArgs d72.st) (defBody d72.st) (defScope d72.st) .none kV doc pm an cdv ct) ⟨us, []⟩ = pure (d72.ps.zip us) := match us, hl with
  | [_, _, _], _ => rfl
theorem b73 (kV doc pm : Value) (an : Option Addr) (cdv ct : Value) (us : List Value) (hl : us.length = d73.ps.length) : bindArgs (PySem.W.fnOf d73.nm d73.ql (defArgs d73.st) (defBody d73.st) (defScope d73.st) .none kV doc pm an cdv ct) ⟨us, []⟩ = pure (d73.ps.zip us) := match us, hl with
  | [_, _, _], _ => rfl
theorem b74 (kV doc pm : Value) (an : Option Addr) (cdv ct : Value) (us : List Value) (hl : us.length = d74.ps.length) : bindArgs (PySem.W.fnOf d74.nm d74.ql (defArgs d74.st) (defBody d74.st) (defScope d74.st) .none kV doc pm an cdv ct) ⟨us, []⟩ = pure (d74.ps.zip us) := match us, hl with
  | [_, _], _ => rfl
theorem b75 (kV doc pm : Value) (an : Option Addr) (cdv ct : Value) (us : List Value) (hl : us.length = d75.ps.length) : bindArgs (PySem.W.fnOf d75.nm d75.ql (defArgs d75.st) (defBody d75.st) (defScope d75.st) .none kV doc pm an cdv ct) ⟨us, []⟩ = pure (d75.ps.zip us) := match us, hl with
  | [_], _ => rfl
theorem b1000 (kV doc pm : Value) (an : Option Addr) (cdv ct : Value) (us : List Value) (hl : us.length = d1000.ps.length) : bindArgs (PySem.W.fnOf d1000.nm d1000.ql (defArgs d1000.st) (defBody d1000.st) (defScope d1000.st) .none kV doc pm an cdv ct) ⟨us, []⟩ = pure (d1000.ps.zip us) := match us, hl with
  | [_, _], _ => rfl
theorem b1001 (kV doc pm : Value) (an : Option Addr) (cdv ct : Value) (us : List Value) (hl : us.length = d1001.ps.length) : bindArgs (PySem.W.fnOf d1001.nm d1001.ql (defArgs d1001.st) (defBody d1001.st) (defScope d1001.st) .none kV doc pm an cdv ct) ⟨us, []⟩ = pure (d1001.ps.zip us) := match us, hl with
  | [_, _], _ => rfl
theorem b1002 (kV doc pm : Value) (an : Option Addr) (cdv ct : Value) (us : List Value) (hl : us.length = d1002.ps.length) : bindArgs (PySem.W.fnOf d1002.nm d1002.ql (defArgs d1002.st) (defBody d1002.st) (defScope d1002.st) .none kV doc pm an cdv ct) ⟨us, []⟩ = pure (d1002.ps.zip us) := match us, hl with
  | [_, _], _ => rfl
theorem b1006 (kV doc pm : Value) (an : Option Addr) (cdv ct : Value) (us : List Value) (hl : us.length = d1006.ps.length) : bindArgs (PySem.W.fnOf d1006.nm d1006.ql (defArgs d1006.st) (defBody d1006.st) (defScope d1006.st) .none kV doc pm an cdv ct) ⟨us, []⟩ = pure (d1006.ps.zip us) := match us, hl with
  | [_, _], _ => rfl
theorem b1022 (kV doc pm : Value) (an : Option Addr) (cdv ct : Value) (us : List Value) (hl : us.length = d1022.ps.length) : bindArgs (PySem.W.fnOf d1022.nm d1022.ql (defArgs d1022.st) (defBody d1022.st) (defScope d1022.st) .none kV doc pm an cdv ct) ⟨us, []⟩ = pure (d1022.ps.zip us) := match us, hl with
  | [_, _, _], _ => rfl
theorem b1009 (kV doc pm : Value) (an : Option Addr) (cdv ct : Value) (us : List Value) (hl : us.length = d1009.ps.length) : bindArgs (PySem.W.fnOf d1009.nm d1009.ql (defArgs d1009.st) (defBody d1009.st) (defScope d1009.st) .none kV doc pm an cdv ct) ⟨us, []⟩ = pure (d1009.ps.zip us) := match us, hl with
  | [_, _], _ => rfl
theorem b1026 (kV doc pm : Value) (an : Option Addr) (cdv ct : Value) (us : List Value) (hl : us.length = d1026.ps.length) : bindArgs (PySem.W.fnOf d1026.nm d1026.ql (defArgs d1026.st) (defBody d1026.st) (defScope d1026.st) .none kV doc pm an cdv ct) ⟨us, []⟩ = pure (d1026.ps.zip us) := match us, hl with
  | [_, _, _], _ => rfl
theorem b1027 (kV doc pm : Value) (an : Option Addr) (cdv ct : Value) (us : List Value) (hl : us.length = d1027.ps.length) : bindArgs (PySem.W.fnOf d1027.nm d1027.ql (defArgs d1027.st) (defBody d1027.st) (defScope d1027.st) .none kV doc pm an cdv ct) ⟨us, []⟩ = pure (d1027.ps.zip us) := match us, hl with
  | [_, _, _], _ => rfl
theorem b1028 (kV doc pm : Value) (an : Option Addr) (cdv ct : Value) (us : List Value) (hl : us.length = d1028.ps.length) : bindArgs (PySem.W.fnOf d1028.nm d1028.ql (defArgs d1028.st) (defBody d1028.st) (defScope d1028.st) .none kV doc pm an cdv ct) ⟨us, []⟩ = pure (d1028.ps.zip us) := match us, hl with
  | [_, _], _ => rfl
theorem b1030 (kV doc pm : Value) (an : Option Addr) (cdv ct : Value) (us : List Value) (hl : us.length = d1030.ps.length) : bindArgs (PySem.W.fnOf d1030.nm d1030.ql (defArgs d1030.st) (defBody d1030.st) (defScope d1030.st) .none kV doc pm an cdv ct) ⟨us, []⟩ = pure (d1030.ps.zip us) := match us, hl with
  | [_, _, _], _ => rfl
theorem b1031 (kV doc pm : Value) (an : Option Addr) (cdv ct : Value) (us : List Value) (hl : us.length = d1031.ps.length) : bindArgs (PySem.W.fnOf d1031.nm d1031.ql (defArgs d1031.st) (defBody d1031.st) (defScope d1031.st) .none kV doc pm an cdv ct) ⟨us, []⟩ = pure (d1031.ps.zip us) := match us, hl with
  | [_, _, _], _ => rfl
theorem b1032 (kV doc pm : Value) (an : Option Addr) (cdv ct : Value) (us : List Value) (hl : us.length = d1032.ps.length) : bindArgs (PySem.W.fnOf d1032.nm d1032.ql (defArgs d1032.st) (defBody d1032.st) (defScope d1032.st) .none kV doc pm an cdv ct) ⟨us, []⟩ = pure (d1032.ps.zip us) := match us, hl with
  | [_], _ => rfl
def depthG : Nat := 30
theorem law_holds : ∀ ns : List Int, ns.length ≤ 63 → ∃ g, KN.callF (fun f => (KN.findDf f defsL).map (·.F)) (KN.conOf consL) clsG fuelG depthG 1032 [.scr ns] [] = .ok (.bl true) g := fun ns _ => by
  rw [pg_eq]
  exact law_run ns
end KT
open PySem PySem.W PyProof.Rows
set_option maxHeartbeats 0 in
theorem PySem.Challenge.cw_keptnights_k32_whole_splitting_holds : PySem.Challenge.rw_keptnights_k32_whole_splitting.Holds := by
  w_on; o_law; k_head; (case hw => w_witness2)
  k_fill
  refine LamX.walk_ofTs (l := PySem.Challenge.rw_keptnights_k32_whole_splitting) (n := 63) (k := 2 * KT.depthG) (x := "script") (CX := fun w => L2.CX PySem.Challenge.rw_keptnights_k32_whole_splitting.prog w) rfl (by decide) rfl ⟨rfl, by decide, by decide⟩ (fun w h Y => PySem.W.kIn_of Y) ?F ?C
  case C => exact KN.cx_none
  case F =>
    intro w mg fa h YY KX G hmg
    refine' KN.end_ok2 (f := 1032) (d := KT.d1032) (L := KT.defsL) (B := [(0, ?C_0)]) (ns := KT.knsL) (fs := KT.lamsL) (C := KT.consL) (cs := KT.clsL) (xs := KT.clnL) (fuel := KT.fuelG) (k := KT.depthG) KX G hmg (.cons (KN.DefAt.mk (d := KT.d19) ?a0 ?l0 ?c0 ?k0 KT.b19) (.cons (KN.DefAt.mk (d := KT.d20) ?a1 ?l1 ?c1 ?k1 KT.b20) (.cons (KN.DefAt.mk (d := KT.d21) ?a2 ?l2 ?c2 ?k2 KT.b21) (.cons (KN.DefAt.mk (d := KT.d10) ?a3 ?l3 ?c3 ?k3 KT.b10) (.cons (KN.DefAt.mk (d := KT.d42) ?a4 ?l4 ?c4 ?k4 KT.b42) (.cons (KN.DefAt.mk (d := KT.d43) ?a5 ?l5 ?c5 ?k5 KT.b43) (.cons (KN.DefAt.mk (d := KT.d44) ?a6 ?l6 ?c6 ?k6 KT.b44) (.cons (KN.DefAt.mk (d := KT.d45) ?a7 ?l7 ?c7 ?k7 KT.b45) (.cons (KN.DefAt.mk (d := KT.d46) ?a8 ?l8 ?c8 ?k8 KT.b46) (.cons (KN.DefAt.mk (d := KT.d47) ?a9 ?l9 ?c9 ?k9 KT.b47) (.cons (KN.DefAt.mkH (d := KT.d48) (fun z => absurd z (by decide)) ?l10 ?c10 ?k10 ?t10 ?u10 (by decide) (by decide) ?v10 KT.b48) (.cons (KN.DefAt.mkM (d := KT.d50) (by decide) ?l11 ?c11 ?k11 KT.b50) (.cons (KN.DefAt.mkM (d := KT.d51) (by decide) ?l12 ?c12 ?k12 KT.b51) (.cons (KN.DefAt.mkM (d := KT.d52) (by decide) ?l13 ?c13 ?k13 KT.b52) (.cons (KN.DefAt.mkM (d := KT.d53) (by decide) ?l14 ?c14 ?k14 KT.b53) (.cons (KN.DefAt.mk (d := KT.d67) ?a15 ?l15 ?c15 ?k15 KT.b67) (.cons (KN.DefAt.mk (d := KT.d68) ?a16 ?l16 ?c16 ?k16 KT.b68) (.cons (KN.DefAt.mk (d := KT.d69) ?a17 ?l17 ?c17 ?k17 KT.b69) (.cons (KN.DefAt.mk (d := KT.d70) ?a18 ?l18 ?c18 ?k18 KT.b70) (.cons (KN.DefAt.mk (d := KT.d71) ?a19 ?l19 ?c19 ?k19 KT.b71) (.cons (KN.DefAt.mk (d := KT.d72) ?a20 ?l20 ?c20 ?k20 KT.b72) (.cons (KN.DefAt.mk (d := KT.d73) ?a21 ?l21 ?c21 ?k21 KT.b73) (.cons (KN.DefAt.mk (d := KT.d74) ?a22 ?l22 ?c22 ?k22 KT.b74) (.cons (KN.DefAt.mk (d := KT.d75) ?a23 ?l23 ?c23 ?k23 KT.b75) (.cons (KN.DefAt.mk (d := KT.d1000) ?a24 ?l24 ?c24 ?k24 KT.b1000) (.cons (KN.DefAt.mk (d := KT.d1001) ?a25 ?l25 ?c25 ?k25 KT.b1001) (.cons (KN.DefAt.mk (d := KT.d1002) ?a26 ?l26 ?c26 ?k26 KT.b1002) (.cons (KN.DefAt.mk (d := KT.d1006) ?a27 ?l27 ?c27 ?k27 KT.b1006) (.cons (KN.DefAt.mk (d := KT.d1022) ?a28 ?l28 ?c28 ?k28 KT.b1022) (.cons (KN.DefAt.mk (d := KT.d1009) ?a29 ?l29 ?c29 ?k29 KT.b1009) (.cons (KN.DefAt.mk (d := KT.d1026) ?a30 ?l30 ?c30 ?k30 KT.b1026) (.cons (KN.DefAt.mk (d := KT.d1027) ?a31 ?l31 ?c31 ?k31 KT.b1027) (.cons (KN.DefAt.mk (d := KT.d1028) ?a32 ?l32 ?c32 ?k32 KT.b1028) (.cons (KN.DefAt.mk (d := KT.d1030) ?a33 ?l33 ?c33 ?k33 KT.b1030) (.cons (KN.DefAt.mk (d := KT.d1031) ?a34 ?l34 ?c34 ?k34 KT.b1031) (.cons (KN.DefAt.mk (d := KT.d1032) ?a35 ?l35 ?c35 ?k35 KT.b1032) .nil)))))))))))))))))))))))))))))))))))) KT.defs_ok (KN.bl_all ?z0 ?z1 ?z2 ?z3 ?z4 ?z5 ?z6 ?z7 ?z8 ?z9 ?z10 ?z11 ?z12 ?z13 ?z14 ?z15 ?z16 ?z17 ?z18 ?z19) (.cons ?y0 (.cons ?y1 (.cons ?y2 (.cons ?y3 (.cons ?y4 .nil))))) KT.kns_ok KT.lams_ok .nil ?nd ?he (.cons (KN.ClAt.mk' ?n_0 ?kp_0 ?pg_0 ?hd_0 ?po_0 ?sa_0 ?mk_0 ?i1_0 ?i2_0 ?e_0 (.cons (x := "left") ?ma0_0 ?mb0_0 ?mc0_0 ?md0_0 ?me0_0 (.cons (x := "rates") ?ma0_1 ?mb0_1 ?mc0_1 ?md0_1 ?me0_1 (.cons (x := "points") ?ma0_2 ?mb0_2 ?mc0_2 ?md0_2 ?me0_2 .nil))) (.cons (x := "steady") ?pa0_0 ?pb0_0 ?pc0_0 ?pd0_0 ?pe0_0 ?pf0_0 .nil) (.cons (x := "week") ?fa0_0 ?fb0_0 (.cons (x := "percents") ?fa0_1 ?fb0_1 .nil))) ?ca_0 .nil) KT.cls_ok rfl rfl rfl (fun _ _ _ _ _ _ _ => rfl) KT.law_holds
    (case n_0 => k_is)
    (case kp_0 => k_is)
    (case pg_0 => k_is)
    (case hd_0 => k_is)
    (case po_0 => k_is)
    (case sa_0 => k_is)
    (case mk_0 => k_is)
    (case i1_0 => k_is)
    (case i2_0 => k_is)
    (case e_0 => exact rfl)
    (case ma0_2 => k_is)
    (case mb0_2 => k_is)
    (case mc0_2 => k_is)
    (case md0_2 => exact rfl)
    (case me0_2 => exact rfl)
    (case ma0_1 => k_is)
    (case mb0_1 => k_is)
    (case mc0_1 => k_is)
    (case md0_1 => exact rfl)
    (case me0_1 => exact rfl)
    (case ma0_0 => k_is)
    (case mb0_0 => k_is)
    (case mc0_0 => k_is)
    (case md0_0 => exact rfl)
    (case me0_0 => exact rfl)
    (case pa0_0 => k_is)
    (case pb0_0 => k_is)
    (case pc0_0 => k_is)
    (case pd0_0 => k_is)
    (case pe0_0 => exact rfl)
    (case pf0_0 => exact rfl)
    (case fa0_1 => k_is)
    (case fb0_1 => exact rfl)
    (case fa0_0 => k_is)
    (case fb0_0 => exact rfl)
    (case ca_0 => exact rfl)
    (case a0 => k_is); (case l0 => k_is); (case c0 => k_is); (case k0 => k_is)
    (case a1 => k_is); (case l1 => k_is); (case c1 => k_is); (case k1 => k_is)
    (case a2 => k_is); (case l2 => k_is); (case c2 => k_is); (case k2 => k_is)
    (case a3 => k_is); (case l3 => k_is); (case c3 => k_is); (case k3 => k_is)
    (case a4 => k_is); (case l4 => k_is); (case c4 => k_is); (case k4 => k_is)
    (case a5 => k_is); (case l5 => k_is); (case c5 => k_is); (case k5 => k_is)
    (case a6 => k_is); (case l6 => k_is); (case c6 => k_is); (case k6 => k_is)
    (case a7 => k_is); (case l7 => k_is); (case c7 => k_is); (case k7 => k_is)
    (case a8 => k_is); (case l8 => k_is); (case c8 => k_is); (case k8 => k_is)
    (case a9 => k_is); (case l9 => k_is); (case c9 => k_is); (case k9 => k_is)
    (case l10 => k_is); (case c10 => k_is); (case k10 => k_is)
    (case t10 => k_is); (case u10 => exact rfl); (case v10 => exact rfl)
    (case l11 => k_is); (case c11 => k_is); (case k11 => k_is)
    (case l12 => k_is); (case c12 => k_is); (case k12 => k_is)
    (case l13 => k_is); (case c13 => k_is); (case k13 => k_is)
    (case l14 => k_is); (case c14 => k_is); (case k14 => k_is)
    (case a15 => k_is); (case l15 => k_is); (case c15 => k_is); (case k15 => k_is)
    (case a16 => k_is); (case l16 => k_is); (case c16 => k_is); (case k16 => k_is)
    (case a17 => k_is); (case l17 => k_is); (case c17 => k_is); (case k17 => k_is)
    (case a18 => k_is); (case l18 => k_is); (case c18 => k_is); (case k18 => k_is)
    (case a19 => k_is); (case l19 => k_is); (case c19 => k_is); (case k19 => k_is)
    (case a20 => k_is); (case l20 => k_is); (case c20 => k_is); (case k20 => k_is)
    (case a21 => k_is); (case l21 => k_is); (case c21 => k_is); (case k21 => k_is)
    (case a22 => k_is); (case l22 => k_is); (case c22 => k_is); (case k22 => k_is)
    (case a23 => k_is); (case l23 => k_is); (case c23 => k_is); (case k23 => k_is)
    (case a24 => k_is); (case l24 => k_is); (case c24 => k_is); (case k24 => k_is)
    (case a25 => k_is); (case l25 => k_is); (case c25 => k_is); (case k25 => k_is)
    (case a26 => k_is); (case l26 => k_is); (case c26 => k_is); (case k26 => k_is)
    (case a27 => k_is); (case l27 => k_is); (case c27 => k_is); (case k27 => k_is)
    (case a28 => k_is); (case l28 => k_is); (case c28 => k_is); (case k28 => k_is)
    (case a29 => k_is); (case l29 => k_is); (case c29 => k_is); (case k29 => k_is)
    (case a30 => k_is); (case l30 => k_is); (case c30 => k_is); (case k30 => k_is)
    (case a31 => k_is); (case l31 => k_is); (case c31 => k_is); (case k31 => k_is)
    (case a32 => k_is); (case l32 => k_is); (case c32 => k_is); (case k32 => k_is)
    (case a33 => k_is); (case l33 => k_is); (case c33 => k_is); (case k33 => k_is)
    (case a34 => k_is); (case l34 => k_is); (case c34 => k_is); (case k34 => k_is)
    (case a35 => k_is); (case l35 => k_is); (case c35 => k_is); (case k35 => k_is)
    (case y0 => k_is)
    (case y1 => k_is)
    (case y2 => k_is)
    (case y3 => k_is)
    (case y4 => k_is)
    (case nd => decide)
    (case he => intro p hp; cases hp)
    (case z0 => k_is); (case z1 => k_is); (case z2 => k_is); (case z3 => k_is); (case z4 => k_is); (case z5 => k_is); (case z6 => k_is); (case z7 => k_is); (case z8 => k_is); (case z9 => k_is); (case z10 => k_is); (case z11 => k_is); (case z12 => k_is); (case z13 => k_is); (case z14 => k_is); (case z15 => k_is); (case z16 => k_is); (case z17 => k_is); (case z18 => k_is); (case z19 => k_is)

