import PyProof.Rows.All
import Wide.All
import OpenK.AllK
import Wide.FinOn
import HandS.Base
import HandS.Call
import HandS.List
import HandS.Comp
import HandS.Iter
import HandS.Words
import HandS.Flow
import HandS.IsInst
import HandS.Defaults
import HandS.Conv
import HandS.Zip
import HandS.Rev
import HandS.ForMost
import HandS.TupAny
import HandS.TupMul
import HandS.Style
import PyProof.ListMulRoad
import PyProof.FactsAll.tuple_2
import KE.GoesZip
import KE.GoesMore
import HandS.Deep
import HandS.SortInts
import KE.GoesEnum
import HandS.RevRange
import HandS.Walk
import HandS.Dict
import HandS.More
import HandS.DictComp
import HandS.Head0
import HandS.Head1
import HandS.Head2
import HandS.HeadEnd
import HandS.HeadHook1
import HandS.HeadHook2
import PySem.Challenge.RW_oneactmore_k06_exchanges_between_rows
set_option linter.all false
set_option autoImplicit false
/-! A small evaluator for the programs' subset: plain data D, a store of lists, no addresses. -/
namespace Pv
open PySem (Str)

inductive D where
  | non | bl (b : Bool) | int (i : Int) | str (x : Str) | tup (xs : List D) | loc (n : Nat) | scr (ns : List Int)
  deriving Inhabited

/-- what stands at a place of the store -/
inductive O where
  | lst (xs : List D) | dct (t : Bool) (kvs : List (D × D))
  deriving Inhabited

abbrev Sto := List O
abbrev Env := List (Option D)

inductive Rs (α : Type) where
  | ok (a : α) | exc (c : Nat) (v : D) (s : Sto) | bad

def Rs.bind {α β : Type} : Rs α → (α → Rs β) → Rs β
  | .ok a, f => f a
  | .exc c v s, _ => .exc c v s
  | .bad, _ => .bad
instance : Monad Rs where
  pure := Rs.ok
  bind := Rs.bind
@[simp] theorem ok_bind {α β : Type} (a : α) (f : α → Rs β) : (Rs.ok a >>= f) = f a := rfl
@[simp] theorem bad_bind {α β : Type} (f : α → Rs β) : ((Rs.bad : Rs α) >>= f) = Rs.bad := rfl
@[simp] theorem exc_bind {α β : Type} (c : Nat) (v : D) (s : Sto) (f : α → Rs β) : ((Rs.exc c v s : Rs α) >>= f) = Rs.exc c v s := rfl
@[simp] theorem pure_ok {α : Type} (a : α) : (pure a : Rs α) = Rs.ok a := rfl
theorem bind_ok {α β : Type} {r : Rs α} {f : α → Rs β} {b : β} (h : (r >>= f) = .ok b) : ∃ a, r = .ok a ∧ f a = .ok b := by
  cases r with
  | ok a => exact ⟨a, rfl, h⟩
  | exc c v s => cases h
  | bad => cases h

def Rs.ofO {α : Type} : Option α → Rs α
  | some a => .ok a
  | none => .bad
@[simp] theorem ofO_some {α : Type} (a : α) : Rs.ofO (some a) = .ok a := rfl
@[simp] theorem ofO_none {α : Type} : (Rs.ofO (none : Option α)) = .bad := rfl
theorem ofO_ok {α : Type} {o : Option α} {a : α} (h : Rs.ofO o = .ok a) : o = some a := by
  cases o with
  | none => cases h
  | some b => cases h; rfl

/-- a value, or a list that nobody else knows yet -/
inductive Vl where
  | d (x : D) | fr (xs : List D)
  deriving Inhabited

inductive Fl where
  | nx | br | ct | rt (v : Vl)

mutual
def D.pure : D → Bool
  | .loc _ => false
  | .tup xs => pureL xs
  | _ => true
def pureL : List D → Bool
  | [] => true
  | x :: xs => x.pure && pureL xs
end
mutual
def D.ub (n : Nat) : D → Bool
  | .loc l => decide (l < n)
  | .tup xs => ubL n xs
  | _ => true
def ubL (n : Nat) : List D → Bool
  | [] => true
  | x :: xs => x.ub n && ubL n xs
end

inductive Bo where | add | sub | mul | fdiv | mod | pow | shl | shr | band | bor
  deriving DecidableEq
inductive Co where | eq | ne | lt | le | gt | ge | is | isn | inn | nin
  deriving DecidableEq
/-- the types that isinstance asks for -/
inductive Ty where | int | bool | str | tuple | list
  deriving DecidableEq
/-- built-in functions of one argument -/
inductive F1 where | len | abs | int | tuple | list | max | min | sum | sorted | bool | any | all
  deriving DecidableEq
inductive F2 where | max | min
  deriving DecidableEq
inductive M0 where | pop | reverse
  deriving DecidableEq
inductive M1 where | append | pop | extend | index | get
  deriving DecidableEq
inductive M2 where | insert | setdefault | get
  deriving DecidableEq
mutual
inductive E where
  | var (i : Nat) | cn (c : D) | neg (a : E) | not (a : E) | bin (o : Bo) (a b : E) | cmp (o : Co) (a b : E)
  | and (a b : E) | or (a b : E) | ite (c a b : E) | tup (es : Es) | lst (es : Es)
  | idx (a b : E) | sl (a : E) (lo hi : Oe) | rev (a : E)
  | call (f : Nat) (es ks : Es) (perm : List Nat)
  | f1 (f : F1) (a : E) | f2 (f : F2) (a b : E) | isi (a : E) (t : Ty) | mkr (t : F1) (lo : Oe) (hi : E)
  | m0 (m : M0) (o : E) | m1 (m : M1) (o a : E) | m2 (m : M2) (o a b : E)
  | comp (elt : E) (tg : Tg) (it : It) (ifs : Es) (vs : List Nat) | dnew (t : Bool)
  | dget (o i : E) | din (neg : Bool) (i o : E) | dlen (o : E) | dgt (o k x : E)
  | chn (o p : Co) (a b c : E) | dcmp (k x : E) (tg : Tg) (it : It) (ifs : Es) (vs : List Nat)
inductive Es where
  | nil | cons (e : E) (es : Es)
inductive Oe where
  | none | some (e : E)
inductive It where
  | e (a : E) | rng (lo : Oe) (hi : E) | enum (a : E) | zip (a b : E) | rev (a : E) | rrg (hi : E)
inductive Tg where
  | var (i : Nat) | tup (ts : Tgs) | sub (o i : E)
inductive Tgs where
  | nil | cons (t : Tg) (ts : Tgs)
end
mutual
inductive St where
  | expr (e : E) | asg (t : Tg) (e : E) | aug (i : Nat) (o : Bo) (e : E) | augs (o i : E) (op : Bo) (e : E)
  | swap (ts : List Nat) (es : Es) | ite (c : E) (a b : Ss) | for (t : Tg) (it : It) (b : Ss) | while (c : E) (b : Ss)
  | ret (e : E) | retn | brk | cont | pass | dput (o k x : E)
inductive Ss where
  | nil | cons (s : St) (r : Ss)
end

/-! ### operations on data -/
def settle : Vl → Sto → D × Sto
  | .d x, S => (x, S)
  | .fr xs, S => (.loc S.length, S ++ [.lst xs])
@[simp] theorem settle_d (x : D) (S : Sto) : settle (.d x) S = (x, S) := rfl
@[simp] theorem settle_fr (xs : List D) (S : Sto) : settle (.fr xs) S = (.loc S.length, S ++ [.lst xs]) := rfl

/-- the items of a list or a tuple -/
def itemsD : D → Sto → Option (List D)
  | .tup xs, _ => some xs
  | .scr ns, _ => some (ns.map .int)
  | .loc l, S => match S[l]? with
    | some (.lst xs) => some xs
    | _ => none
  | _, _ => none
def items : Vl → Sto → Option (List D)
  | .fr xs, _ => some xs
  | .d x, S => itemsD x S
@[simp] theorem itemsD_tup (xs : List D) (S : Sto) : itemsD (.tup xs) S = some xs := rfl
@[simp] theorem items_fr (xs : List D) (S : Sto) : items (.fr xs) S = some xs := rfl
@[simp] theorem items_d (x : D) (S : Sto) : items (.d x) S = itemsD x S := rfl

def truthD : D → Sto → Option Bool
  | .non, _ => some false
  | .bl b, _ => some b
  | .int i, _ => some (i != 0)
  | .str _, _ => none
  | .tup xs, _ => some (!xs.isEmpty)
  | .scr ns, _ => some (!ns.isEmpty)
  | .loc l, S => match S[l]? with
    | some (.lst xs) => some (!xs.isEmpty)
    | _ => none
def truth : Vl → Sto → Option Bool
  | .d x, S => truthD x S
  | .fr xs, _ => some (!xs.isEmpty)
@[simp] theorem truth_bl (b : Bool) (S : Sto) : truth (.d (.bl b)) S = some b := rfl
@[simp] theorem truth_non (S : Sto) : truth (.d .non) S = some false := rfl

def line : Nat := 16777216
def binI : Bo → Int → Int → Option Int
  | .add, i, j => some (i + j)
  | .sub, i, j => some (i - j)
  | .mul, i, j => if i.natAbs < 18446744073709551616 ∨ j.natAbs < 18446744073709551616 then some (i * j) else none
  | .fdiv, i, j => if 0 < j ∧ j < 1073741824 then some (i / j) else none
  | .mod, i, j => if 0 < j then some (i % j) else none
  | .pow, i, j => if (0 ≤ j ∧ j ≤ 1000000) ∧ i.natAbs < 18446744073709551616 then some (i ^ j.toNat) else none
  | _, _, _ => none
def repl {α : Type} (n : Int) (xs : List α) : List α := (List.replicate n.toNat xs).flatten
/-- a list's items, not the script's -/
def lstV : Vl → Sto → Option (List D)
  | .fr xs, _ => some xs
  | .d (.loc l), S => match S[l]? with
    | some (.lst xs) => some xs
    | _ => none
  | _, _ => none
def numI : Vl → Option Int
  | .d (.int i) => some i
  | _ => none
def tupO : Vl → Option (List D)
  | .d (.tup xs) => some xs
  | _ => none
theorem numI_some {x : Vl} {i : Int} (h : numI x = some i) : x = .d (.int i) := by
  cases x with
  | fr xs => cases h
  | d x => cases x with
    | int j => cases h; rfl
    | _ => cases h
theorem tupO_some {x : Vl} {xs : List D} (h : tupO x = some xs) : x = .d (.tup xs) := by
  cases x with
  | fr xs => cases h
  | d x => cases x with
    | tup j => cases h; rfl
    | _ => cases h
/-- a + b, a * b .. of two values -/
def binV (o : Bo) (x y : Vl) (S : Sto) : Option Vl :=
  match numI x, numI y with
  | some i, some j => (binI o i j).map fun k => .d (.int k)
  | none, some n => match o with
    | .mul => match tupO x with
      | some xs => if xs.length ≤ 1000 ∧ (1 ≤ n ∧ n ≤ 1000) ∧ xs.isEmpty = false then some (.d (.tup (repl n xs))) else none
      | none => (lstV x S).bind fun xs => if xs.length ≤ 1000 ∧ (-1 ≤ n ∧ n ≤ 1000) then some (.fr (repl n xs)) else none
    | _ => none
  | none, none => match o with
    | .add => match tupO x, tupO y with
      | some xs, some ys => if xs.length + ys.length ≤ line then some (.d (.tup (xs ++ ys))) else none
      | none, none => (lstV x S).bind fun xs => (lstV y S).bind fun ys => if xs.length + ys.length ≤ line then some (.fr (xs ++ ys)) else none
      | _, _ => none
    | _ => none
  | some _, none => none

/-- == of data without lists -/
def scalEq : D → D → Option Bool
  | .non, .non => some true
  | .non, .int _ => some false
  | .int _, .non => some false
  | .non, .bl _ => some false
  | .bl _, .non => some false
  | .bl a, .bl b => some (a == b)
  | .int a, .int b => some (a == b)
  | .str a, .str b => some (decide (a = b))
  | .int _, .str _ => some false
  | .str _, .int _ => some false
  | .non, .str _ => some false
  | .str _, .non => some false
  | .bl _, .str _ => some false
  | .str _, .bl _ => some false
  | _, _ => none
def flat : D → Bool
  | .non => true
  | .bl _ => true
  | .int _ => true
  | .str _ => true
  | _ => false
/-- == of flat data, as 'in' asks it -/
def eqF : D → D → Bool
  | .non, .non => true
  | .bl a, .bl b => a == b
  | .bl a, .int b => (if a then 1 else 0) == b
  | .int a, .bl b => a == (if b then 1 else 0)
  | .int a, .int b => a == b
  | .str a, .str b => a == b
  | _, _ => false
def inF (x : D) (xs : List D) : Bool := xs.any fun y => eqF y x
def isD : D → D → Option Bool
  | .non, .non => some true
  | _, .non => some false
  | .bl a, .bl b => some (a == b)
  | .non, .bl _ => some false
  | .int _, .bl _ => some false
  | .str _, .bl _ => some false
  | .tup _, .bl _ => some false
  | _, _ => none
def ordI : Co → Int → Int → Option Bool
  | .lt, i, j => some (decide (i < j))
  | .le, i, j => some (decide (i ≤ j))
  | .gt, i, j => some (decide (j < i))
  | .ge, i, j => some (decide (j ≤ i))
  | _, _, _ => none
def inV (x : D) (y : Vl) (S : Sto) : Option Bool := (items y S).bind fun xs => if flat x && xs.all flat then some (inF x xs) else none
def dO : Vl → Option D
  | .d x => some x
  | _ => none
theorem dO_some {x : Vl} {d : D} (h : dO x = some d) : x = .d d := by
  cases x with
  | fr xs => cases h
  | d x => cases h; rfl
/-- whole numbers alone -/
def intsOf : List D → Option (List Int)
  | [] => some []
  | .int i :: xs => (intsOf xs).map fun r => i :: r
  | _ :: _ => none
def mapO {α β : Type} (f : α → Option β) : List α → Option (List β)
  | [] => some []
  | x :: xs => (f x).bind fun y => (mapO f xs).map (y :: ·)
/-- data of any depth, as it is told -/
def pyD : Nat → Sto → D → Option PySem.PyData
  | 0, _, _ => none
  | n + 1, S, d => match d with
    | .non => some .none
    | .bl b => some (.bool b)
    | .int i => some (.int i)
    | .str x => some (.str x)
    | .tup xs => (mapO (pyD n S) xs).map .tuple
    | .scr ns => some (.list (ns.map .int))
    | .loc l => match S[l]? with
      | some (.lst xs) => (mapO (pyD n S) xs).map .list
      | _ => none
def pyF : Nat := 12
def pyV (x : Vl) (S : Sto) : Option PySem.PyData :=
  match x with
  | .d d => pyD pyF S d
  | .fr xs => (mapO (pyD pyF S) xs).map .list
def deepEq (x y : Vl) (S : Sto) : Option Bool := (pyV x S).bind fun p => (pyV y S).bind fun q => if PySem.SeqAt.shaped p = true ∧ PySem.SeqAt.shaped q = true then some (PySem.PyData.eqv p q) else none
/-- the parts of data that hold parts -/
def partsP : PySem.PyData → Option (List PySem.PyData)
  | .list xs => some xs
  | .tuple xs => some xs
  | _ => none
def deepIn (x : D) (y : Vl) (S : Sto) : Option Bool := (pyD pyF S x).bind fun p => (pyV y S).bind fun q => (partsP q).bind fun qs => if PySem.SeqAt.shaped p = true ∧ PySem.SeqAt.shaped q = true then some (qs.any fun z => PySem.PyData.eqv z p) else none
def orE (a b : Option Bool) : Option Bool := match a with
  | some k => some k
  | none => b
@[simp] theorem orE_some (k : Bool) (b : Option Bool) : orE (some k) b = some k := rfl
@[simp] theorem orE_none (b : Option Bool) : orE none b = b := rfl
def eqV (x y : Vl) (S : Sto) : Option Bool := orE ((dO x).bind fun x => (dO y).bind fun y => scalEq x y) (deepEq x y S)
def inG (x : D) (y : Vl) (S : Sto) : Option Bool := orE (inV x y S) (deepIn x y S)
def lexB : List Int → List Int → Bool
  | [], [] => false
  | [], _ :: _ => true
  | _ :: _, [] => false
  | x :: xs, y :: ys => decide (x < y) || (x == y && lexB xs ys)
def tupI (x : Vl) : Option (List Int) := (tupO x).bind intsOf
def ltV (x y : Vl) : Option Bool := orE ((numI x).bind fun i => (numI y).bind fun j => some (decide (i < j))) ((tupI x).bind fun ns => (tupI y).bind fun ms => some (lexB ns ms))
def cmpV (o : Co) (x y : Vl) (S : Sto) : Option Bool :=
  match o with
  | .eq => eqV x y S
  | .ne => (eqV x y S).map not
  | .is => (dO x).bind fun x => (dO y).bind fun y => isD x y
  | .isn => (dO x).bind fun x => (dO y).bind fun y => (isD x y).map not
  | .inn => (dO x).bind fun x => inG x y S
  | .nin => (dO x).bind fun x => (inG x y S).map not
  | .lt => ltV x y
  | o => (numI x).bind fun i => (numI y).bind fun j => ordI o i j
@[simp] theorem binV_int (o : Bo) (i j : Int) (S : Sto) : binV o (.d (.int i)) (.d (.int j)) S = (binI o i j).map fun k => .d (.int k) := rfl
@[simp] theorem binV_tup (xs ys : List D) (S : Sto) : binV .add (.d (.tup xs)) (.d (.tup ys)) S = if xs.length + ys.length ≤ line then some (.d (.tup (xs ++ ys))) else none := rfl
@[simp] theorem binV_rep (xs : List D) (n : Int) (S : Sto) : binV .mul (.d (.tup xs)) (.d (.int n)) S = if xs.length ≤ 1000 ∧ (1 ≤ n ∧ n ≤ 1000) ∧ xs.isEmpty = false then some (.d (.tup (repl n xs))) else none := rfl
@[simp] theorem binV_catf (xs ys : List D) (S : Sto) : binV .add (.fr xs) (.fr ys) S = if xs.length + ys.length ≤ line then some (.fr (xs ++ ys)) else none := rfl
@[simp] theorem binV_repf (xs : List D) (n : Int) (S : Sto) : binV .mul (.fr xs) (.d (.int n)) S = if xs.length ≤ 1000 ∧ (-1 ≤ n ∧ n ≤ 1000) then some (.fr (repl n xs)) else none := rfl
@[simp] theorem binI_add (i j : Int) : binI .add i j = some (i + j) := rfl
@[simp] theorem binI_sub (i j : Int) : binI .sub i j = some (i - j) := rfl
theorem binI_mul {i j : Int} (h : i.natAbs < 18446744073709551616 ∨ j.natAbs < 18446744073709551616) : binI .mul i j = some (i * j) := if_pos h
theorem binI_fdiv {i j : Int} (h : 0 < j ∧ j < 1073741824) : binI .fdiv i j = some (i / j) := if_pos h
theorem binI_mod {i j : Int} (h : 0 < j) : binI .mod i j = some (i % j) := if_pos h
@[simp] theorem cmp_lt (i j : Int) (S : Sto) : cmpV .lt (.d (.int i)) (.d (.int j)) S = some (decide (i < j)) := rfl
@[simp] theorem cmp_le (i j : Int) (S : Sto) : cmpV .le (.d (.int i)) (.d (.int j)) S = some (decide (i ≤ j)) := rfl
@[simp] theorem cmp_gt (i j : Int) (S : Sto) : cmpV .gt (.d (.int i)) (.d (.int j)) S = some (decide (j < i)) := rfl
@[simp] theorem cmp_ge (i j : Int) (S : Sto) : cmpV .ge (.d (.int i)) (.d (.int j)) S = some (decide (j ≤ i)) := rfl
@[simp] theorem cmp_eq (x y : D) (S : Sto) : cmpV .eq (.d x) (.d y) S = orE (scalEq x y) (deepEq (.d x) (.d y) S) := rfl
@[simp] theorem cmp_ne (x y : D) (S : Sto) : cmpV .ne (.d x) (.d y) S = (orE (scalEq x y) (deepEq (.d x) (.d y) S)).map not := rfl
@[simp] theorem cmp_eqf (x : Vl) (ys : List D) (S : Sto) : cmpV .eq x (.fr ys) S = deepEq x (.fr ys) S := by cases x <;> rfl
@[simp] theorem cmp_nef (x : Vl) (ys : List D) (S : Sto) : cmpV .ne x (.fr ys) S = (deepEq x (.fr ys) S).map not := by cases x <;> rfl
@[simp] theorem cmp_is (x y : D) (S : Sto) : cmpV .is (.d x) (.d y) S = isD x y := rfl
@[simp] theorem cmp_isn (x y : D) (S : Sto) : cmpV .isn (.d x) (.d y) S = (isD x y).map not := rfl
@[simp] theorem cmp_in (x : D) (y : Vl) (S : Sto) : cmpV .inn (.d x) y S = inG x y S := rfl
@[simp] theorem cmp_nin (x : D) (y : Vl) (S : Sto) : cmpV .nin (.d x) y S = (inG x y S).map not := rfl
/-- isinstance(x, t) -/
def isTy (x : D) (t : Ty) (S : Sto) : Option Bool :=
  match x with
  | .non => some false
  | .bl _ => some (t == .bool || t == .int)
  | .int _ => some (t == .int)
  | .str _ => some (t == .str)
  | .tup _ => some (t == .tuple)
  | .scr _ => none
  | .loc l => match S[l]? with
    | some (.lst _) => some (t == .list)
    | _ => none

/-- an index, from either end -/
def ixN (n : Nat) (i : Int) : Option Nat := if 0 ≤ i then (if i < n then some i.toNat else none) else if -(n : Int) ≤ i then some (i + n).toNat else none
def atI (xs : List D) (i : Int) : Option D := (ixN xs.length i).bind fun j => xs[j]?
theorem atI_nat {xs : List D} {j : Nat} {x : D} (h : xs[j]? = some x) : atI xs (j : Int) = some x := by
  have hj : j < xs.length := (List.getElem?_eq_some_iff.mp h).1
  unfold atI ixN
  rw [if_pos (by omega), if_pos (by omega)]
  simpa using h
def idxV (x : Vl) (i : D) (S : Sto) : Option D :=
  match i with
  | .int i => (items x S).bind fun xs => atI xs i
  | _ => none

def sIx (n d : Nat) : Option Int → Nat
  | none => d
  | some v => if v < 0 then (v + (n : Int)).toNat else min v.toNat n
def cut (xs : List D) (lo hi : Option Int) : List D := (xs.drop (sIx xs.length 0 lo)).take (sIx xs.length xs.length hi - sIx xs.length 0 lo)
def sliceV (x : Vl) (lo hi : Option Int) (S : Sto) : Option Vl :=
  match x with
  | .d (.tup xs) => some (.d (.tup (cut xs lo hi)))
  | x => (items x S).map fun xs => .fr (cut xs lo hi)
def revV (x : Vl) (S : Sto) : Option Vl :=
  match tupO x with
  | some xs => some (.d (.tup xs.reverse))
  | none => (items x S).map fun xs => .fr xs.reverse

def insI (x : Int) : List Int → List Int
  | [] => [x]
  | y :: ys => if x ≤ y then x :: y :: ys else y :: insI x ys
def sortI : List Int → List Int
  | [] => []
  | x :: xs => insI x (sortI xs)
def maxI : List Int → Option Int
  | [] => none
  | x :: xs => match maxI xs with
    | none => some x
    | some m => some (if m < x then x else m)
def minI : List Int → Option Int
  | [] => none
  | x :: xs => match minI xs with
    | none => some x
    | some m => some (if x < m then x else m)
/-- the items of a list that is no tuple -/
def listV (x : Vl) (S : Sto) : Option (List D) :=
  match tupO x with
  | some _ => none
  | none => items x S
@[simp] theorem listV_fr (xs : List D) (S : Sto) : listV (.fr xs) S = some xs := rfl
def app1 (f : F1) (x : Vl) (S : Sto) : Option Vl :=
  match f with
  | .len => (items x S).map fun xs => .d (.int xs.length)
  | .abs => match x with
    | .d (.int i) => some (.d (.int (if i < 0 then -i else i)))
    | _ => none
  | .int => match x with
    | .d (.int i) => some (.d (.int i))
    | .d (.bl k) => some (.d (.int (if k then 1 else 0)))
    | _ => none
  | .tuple => (items x S).map fun xs => .d (.tup xs)
  | .list => (items x S).map fun xs => .fr xs
  | .max => (listV x S).bind fun xs => (intsOf xs).bind fun ns => (maxI ns).map fun m => .d (.int m)
  | .min => (listV x S).bind fun xs => (intsOf xs).bind fun ns => (minI ns).map fun m => .d (.int m)
  | .sum => (listV x S).bind fun xs => (intsOf xs).map fun ns => .d (.int ns.sum)
  | .sorted => (listV x S).bind fun xs => (intsOf xs).map fun ns => .fr ((sortI ns).map .int)
  | _ => none
def app2 (f : F2) (x y : D) : Option D :=
  match f, x, y with
  | .max, .int i, .int j => some (.int (if j > i then j else i))
  | .min, .int i, .int j => some (.int (if j < i then j else i))
  | _, _, _ => none

/-- a list's object is written: what is put in is plain data, or the list is the frame's own -/
def wr (b l : Nat) (x : D) : Prop := x.pure = true ∨ b ≤ l
/-- whose method it is -/
def recv (x : D) (S : Sto) : Option Unit :=
  match x with
  | .loc l => match S[l]? with
    | some (.lst _) => some ()
    | _ => none
  | _ => none
open Classical in
noncomputable def meth1 (b : Nat) (m : M1) (o : D) (x : D) (S : Sto) : Rs (Vl × Sto) :=
  match m, o with
  | .append, .loc l => match S[l]? with
    | some (.lst xs) => if xs.length < line ∧ wr b l x then .ok (.d .non, S.set l (.lst (xs ++ [x]))) else .bad
    | _ => .bad
  | .pop, .loc l => match S[l]?, x with
    | some (.lst xs), .int i => match ixN xs.length i with
      | some j => match xs[j]? with
        | some y => .ok (.d y, S.set l (.lst (xs.eraseIdx j)))
        | none => .bad
      | none => .bad
    | _, _ => .bad
  | .index, .loc l => match pyD pyF S (.loc l), pyD pyF S x with
    | some (.list ds), some d => if PySem.SeqAt.shaped (.list ds) = true ∧ PySem.SeqAt.shaped d = true then (match ds.findIdx? fun z => PySem.PyData.eqv z d with
      | some j => .ok (.d (.int (j : Nat)), S)
      | none => .bad) else .bad
    | _, _ => .bad
  | _, _ => .bad
open Classical in
noncomputable def meth2 (b : Nat) (m : M2) (o x y : D) (S : Sto) : Rs (Vl × Sto) :=
  match m, o, x with
  | .insert, .loc l, .int i => match S[l]? with
    | some (.lst xs) => if (0 ≤ i ∧ i < 4611686018427387904) ∧ xs.length < line ∧ wr b l y then .ok (.d .non, S.set l (.lst (xs.take i.toNat ++ [y] ++ xs.drop i.toNat))) else .bad
    | _ => .bad
  | _, _, _ => .bad
def meth0 (m : M0) (o : D) (S : Sto) : Rs (Vl × Sto) :=
  match m, o with
  | .pop, .loc l => match S[l]? with
    | some (.lst xs) => match xs[xs.length - 1]? with
      | some y => .ok (.d y, S.set l (.lst xs.dropLast))
      | none => .bad
    | _ => .bad
  | .reverse, .loc l => match S[l]? with
    | some (.lst xs) => .ok (.d .non, S.set l (.lst xs.reverse))
    | _ => .bad
  | _, _ => .bad
open Classical in
noncomputable def setI (b : Nat) (o i : D) (x : D) (S : Sto) : Rs Sto :=
  match o, i with
  | .loc l, .int i => match S[l]? with
    | some (.lst xs) => match ixN xs.length i with
      | some j => if wr b l x then .ok (S.set l (.lst (xs.set j x))) else .bad
      | none => .bad
    | _ => .bad
  | _, _ => .bad

/-- back from a call: the callee's own objects go where the result tells nothing of them -/
def leave (n : Nat) (v : Vl) (S : Sto) : Vl × Sto :=
  match v with
  | .fr xs => if ubL n xs then (.fr xs, S.take n) else (.fr xs, S)
  | .d (.loc l) => if l < n then (.d (.loc l), S.take n) else match S[l]? with
    | some (.lst xs) => if ubL n xs then (.fr xs, S.take n) else (.d (.loc l), S)
    | _ => (.d (.loc l), S)
  | .d x => if x.ub n then (.d x, S.take n) else (.d x, S)

abbrev Chk := List (Nat × O)
def Chk.ok (c : Chk) (S : Sto) : Prop := ∀ p ∈ c, S[p.1]? = some p.2
def chkOf (x : Vl) (S : Sto) : Chk :=
  match x with
  | .d (.loc l) => match S[l]? with
    | some o => [(l, o)]
    | none => []
  | _ => []
def enumD (xs : List D) : List D := xs.zipIdx.map fun p => .tup [.int (p.2 : Nat), p.1]
def zipD (xs ys : List D) : List D := List.zipWith (fun x y => .tup [x, y]) xs ys
def rngD (lo hi : Int) : List D := (List.range (hi - lo).toNat).map fun i => .int (lo + (i : Nat))

open Classical in
noncomputable def forL (c : Chk) (f : D → Env → Sto → Rs (Fl × Env × Sto)) : List D → Env → Sto → Rs (Fl × Env × Sto)
  | [], e, S => if c.ok S then .ok (.nx, e, S) else .bad
  | x :: xs, e, S => if c.ok S then f x e S >>= fun r => match r.1 with
      | .nx => forL c f xs r.2.1 r.2.2
      | .ct => forL c f xs r.2.1 r.2.2
      | .br => .ok (.nx, r.2)
      | .rt v => .ok (.rt v, r.2)
    else .bad
open Classical in
noncomputable def compL (c : Chk) (f : D → Sto → Rs (Option D × Sto)) : List D → Sto → Rs (List D × Sto)
  | [], S => if c.ok S then .ok ([], S) else .bad
  | x :: xs, S => if c.ok S then f x S >>= fun r => compL c f xs r.2 >>= fun q => .ok (r.1.toList ++ q.1, q.2) else .bad
/-- a while loop's turns: so many at most -/
def big : Nat := 1000000000
def whileL (t : Env → Sto → Rs (Bool × Sto)) (f : Env → Sto → Rs (Fl × Env × Sto)) : Nat → Env → Sto → Rs (Fl × Env × Sto)
  | 0, _, _ => .bad
  | n + 1, e, S => t e S >>= fun r => match r.1 with
    | false => .ok (.nx, e, r.2)
    | true => f e r.2 >>= fun r => match r.1 with
      | .nx => whileL t f n r.2.1 r.2.2
      | .ct => whileL t f n r.2.1 r.2.2
      | .br => .ok (.nx, r.2)
      | .rt v => .ok (.rt v, r.2)

abbrev Rc := Nat → List D → Sto → Rs (Vl × Sto)
def intO : D → Option Int
  | .int i => some i
  | _ => none

abbrev DV := Nat → Env → Sto → Rs (Vl × Sto)
abbrev DT := Nat → Env → Sto → Rs (Bool × Sto)
abbrev DD := Nat → Env → Sto → Rs (D × Sto)
abbrev DL := Nat → Env → Sto → Rs (List D × Sto)
abbrev DO := Nat → Env → Sto → Rs (Option Int × Sto)
abbrev DI := Nat → Env → Sto → Rs ((Chk × List D) × Sto)
abbrev DG := Nat → D → Env → Sto → Rs (Env × Sto)
abbrev DGs := Nat → List D → Env → Sto → Rs (Env × Sto)
/-- a value, settled -/
def sD (f : DV) : DD := fun b e S => f b e S >>= fun r => .ok (settle r.1 r.2)
/-- a value's truth -/
def sT (f : DV) : DT := fun b e S => f b e S >>= fun r => Rs.ofO (truth r.1 r.2) >>= fun k => .ok (k, r.2)
def sVar (i : Nat) : DV := fun _ e S => match e[i]? with
    | some (some x) => .ok (.d x, S)
    | _ => .bad
def sCn (c : D) : DV := fun _ _ S => .ok (.d c, S)
def sNeg (f : DV) : DV := fun b e S => f b e S >>= fun r => match r.1 with
    | .d (.int i) => .ok (.d (.int (-i)), r.2)
    | _ => .bad
def sNot (f : DV) : DV := fun b e S => f b e S >>= fun r => Rs.ofO (truth r.1 r.2) >>= fun k => .ok (.d (.bl (!k)), r.2)
def sBin (o : Bo) (f g : DV) : DV := fun b e S => f b e S >>= fun r => g b e r.2 >>= fun q => Rs.ofO (binV o r.1 q.1 q.2) >>= fun v => .ok (v, q.2)
def sCmp (o : Co) (f g : DV) : DV := fun b e S => f b e S >>= fun r => g b e r.2 >>= fun q => Rs.ofO (cmpV o r.1 q.1 q.2) >>= fun k => .ok (.d (.bl k), q.2)
def sAnd (f g : DV) : DV := fun b e S => sD f b e S >>= fun r => Rs.ofO (truthD r.1 r.2) >>= fun k => match k with
    | true => g b e r.2
    | false => .ok (.d r.1, r.2)
def sOr (f g : DV) : DV := fun b e S => sD f b e S >>= fun r => Rs.ofO (truthD r.1 r.2) >>= fun k => match k with
    | true => .ok (.d r.1, r.2)
    | false => g b e r.2
def sIte (c : DT) (f g : DV) : DV := fun b e S => c b e S >>= fun r => match r.1 with
    | true => f b e r.2
    | false => g b e r.2
def sTup (l : DL) : DV := fun b e S => l b e S >>= fun r => if r.1.length ≤ line then .ok (.d (.tup r.1), r.2) else .bad
def sLst (l : DL) : DV := fun b e S => l b e S >>= fun r => if r.1.length ≤ line then .ok (.fr r.1, r.2) else .bad
def sIdx (f g : DV) : DV := fun b e S => f b e S >>= fun r => sD g b e r.2 >>= fun q => Rs.ofO (idxV r.1 q.1 q.2) >>= fun v => .ok (.d v, q.2)
def sSl (f : DV) (lo hi : DO) : DV := fun b e S => f b e S >>= fun r => lo b e r.2 >>= fun p => hi b e p.2 >>= fun q => Rs.ofO (sliceV r.1 p.1 q.1 q.2) >>= fun v => .ok (v, q.2)
def sRev (f : DV) : DV := fun b e S => f b e S >>= fun r => Rs.ofO (revV r.1 r.2) >>= fun v => .ok (v, r.2)
/-- the arguments in the parameters' order -/
def arr {α : Type} (perm : List Nat) (xs : List α) : List α := perm.filterMap (xs[·]?)
def sCall (rc : Rc) (f : Nat) (l k : DL) (perm : List Nat) : DV := fun _ e S => l S.length e S >>= fun r => k S.length e r.2 >>= fun q => rc f (arr perm (r.1 ++ q.1)) q.2 >>= fun w => .ok (leave S.length w.1 w.2)
def sF1 (o : F1) (f : DV) : DV := fun b e S => f b e S >>= fun r => Rs.ofO (app1 o r.1 r.2) >>= fun v => .ok (v, r.2)
def sF2 (o : F2) (f g : DV) : DV := fun b e S => sD f b e S >>= fun r => sD g b e r.2 >>= fun q => Rs.ofO (app2 o r.1 q.1) >>= fun v => .ok (.d v, q.2)
def sIsi (f : DV) (t : Ty) : DV := fun b e S => sD f b e S >>= fun r => Rs.ofO (isTy r.1 t r.2) >>= fun k => .ok (.d (.bl k), r.2)
/-- range(lo, hi): the ends, in bounds -/
def sEnds (lo : DO) (hi : DV) : Nat → Env → Sto → Rs ((Int × Int) × Sto) := fun b e S => lo b e S >>= fun p => sD hi b e p.2 >>= fun q => Rs.ofO (intO q.1) >>= fun j =>
    if (-4611686018427387904 ≤ p.1.getD 0 ∧ p.1.getD 0 < 4611686018427387904) ∧ (-4611686018427387904 ≤ j ∧ j < 4611686018427387904) then .ok ((p.1.getD 0, j), q.2) else .bad
def sMkr (t : F1) (lo : DO) (hi : DV) : DV := fun b e S => sEnds lo hi b e S >>= fun r => if (r.1.2 - r.1.1).toNat ≤ line then
      (match t with
          | .tuple => .ok (.d (.tup (rngD r.1.1 r.1.2)), r.2)
          | .list => .ok (.fr (rngD r.1.1 r.1.2), r.2)
          | _ => .bad)
      else .bad
def sM0 (m : M0) (f : DV) : DV := fun b e S => sD f b e S >>= fun r => meth0 m r.1 r.2
noncomputable def sM1 (m : M1) (f g : DV) : DV := fun b e S => sD f b e S >>= fun r => Rs.ofO (recv r.1 r.2) >>= fun _ => sD g b e r.2 >>= fun q => meth1 b m r.1 q.1 q.2
noncomputable def sM2 (m : M2) (f g h : DV) : DV := fun b e S => sD f b e S >>= fun r => Rs.ofO (recv r.1 r.2) >>= fun _ => sD g b e r.2 >>= fun q => sD h b e q.2 >>= fun p => meth2 b m r.1 q.1 p.1 p.2
/-- a op b op c -/
def sChn (o p : Co) (f g h : DV) : DV := fun b e S => sD f b e S >>= fun r => sD g b e r.2 >>= fun q => Rs.ofO (cmpV o (.d r.1) (.d q.1) q.2) >>= fun k => match k with
  | true => sD h b e q.2 >>= fun w => Rs.ofO (cmpV p (.d q.1) (.d w.1) w.2) >>= fun l => .ok (.d (.bl l), w.2)
  | false => .ok (.d (.bl false), q.2)
/-- a block's own names are forgotten at each turn -/
def wipeE (e : Env) : List Nat → Env
  | [] => e
  | v :: vs => (wipeE e vs).set v none
noncomputable def sComp (x : DV) (tg : DG) (it : DI) (ifs : DT) (vs : List Nat) : DV := fun b e S => it b e S >>= fun r =>
      compL r.1.1 (fun d S => tg b d (wipeE e vs) S >>= fun p => ifs b p.1 p.2 >>= fun q => match q.1 with
        | true => sD x b p.1 q.2 >>= fun v => .ok (some v.1, v.2)
        | false => .ok (none, q.2)) r.1.2 r.2 >>= fun q => .ok (.fr q.1, q.2)
/-! dicts: their keys are whole numbers or texts -/
def isK : D → Bool
  | .int _ => true
  | .str _ => true
  | _ => false
def dctO (x : D) (S : Sto) : Option (List (D × D)) :=
  match x with
  | .loc l => match S[l]? with
    | some (.dct _ kvs) => some kvs
    | _ => none
  | _ => none
def getK (kvs : List (D × D)) (k : D) : Option D := (kvs.find? fun p => eqF p.1 k).map (·.2)
def putK (kvs : List (D × D)) (k v : D) : List (D × D) := if kvs.any (fun p => eqF p.1 k) then kvs.map (fun p => if eqF p.1 k then (p.1, v) else p) else kvs ++ [(k, v)]
open Classical in
noncomputable def setK (b : Nat) (o k x : D) (S : Sto) : Rs Sto :=
  match o with
  | .loc l => match S[l]? with
    | some (.dct t kvs) => if isK k = true ∧ kvs.length < line ∧ wr b l x then .ok (S.set l (.dct t (putK kvs k x))) else .bad
    | _ => .bad
  | _ => .bad
def sDnew (t : Bool) : DV := fun _ _ S => if t then .bad else .ok (.d (.loc S.length), S ++ [.dct false []])
def sDget (f g : DV) : DV := fun b e S => sD f b e S >>= fun r => sD g b e r.2 >>= fun q => Rs.ofO (if isK q.1 then (dctO r.1 q.2).bind fun kvs => getK kvs q.1 else none) >>= fun v => .ok (.d v, q.2)
def sDin (neg : Bool) (g f : DV) : DV := fun b e S => sD g b e S >>= fun r => sD f b e r.2 >>= fun q => Rs.ofO (if isK r.1 then (dctO q.1 q.2).map fun kvs => (getK kvs r.1).isSome else none) >>= fun k => .ok (.d (.bl (if neg then !k else k)), q.2)
def sDlen (f : DV) : DV := fun b e S => sD f b e S >>= fun r => Rs.ofO (dctO r.1 r.2) >>= fun kvs => .ok (.d (.int kvs.length), r.2)
def sDgt (f g h : DV) : DV := fun b e S => sD f b e S >>= fun r => Rs.ofO (dctO r.1 r.2) >>= fun _ => sD g b e r.2 >>= fun q => sD h b e q.2 >>= fun p => Rs.ofO (if isK q.1 then (dctO r.1 p.2).map fun kvs => (getK kvs q.1).getD p.1 else none) >>= fun v => .ok (.d v, p.2)
/-- the loop of a dict's comprehension -/
noncomputable def dcL (c : Chk) (f : D → Sto → Rs Sto) : List D → Sto → Rs Sto
  | [], S => open Classical in if c.ok S then .ok S else .bad
  | x :: xs, S => open Classical in if c.ok S then f x S >>= fun S => dcL c f xs S else .bad
/-- one turn of it -/
noncomputable def turnD (k x : DV) (t : DG) (u : DT) (e0 : Env) (b l : Nat) (d : D) (S : Sto) : Rs Sto := t b d e0 S >>= fun p => u b p.1 p.2 >>= fun q => match q.1 with
  | true => sD k b p.1 q.2 >>= fun w => sD x b p.1 w.2 >>= fun v => setK b (.loc l) w.1 v.1 v.2
  | false => .ok q.2
noncomputable def sDcmp (k x : DV) (t : DG) (it : DI) (u : DT) (vs : List Nat) : DV := fun b e S => it b e S >>= fun r => dcL r.1.1 (turnD k x t u (wipeE e vs) b r.2.length) r.1.2 (r.2 ++ [.dct false []]) >>= fun S' => .ok (.d (.loc r.2.length), S')
def sBad : DV := fun _ _ _ => .bad
def tAnd (f g : DT) : DT := fun b e S => f b e S >>= fun r => match r.1 with
    | true => g b e r.2
    | false => .ok (false, r.2)
def tOr (f g : DT) : DT := fun b e S => f b e S >>= fun r => match r.1 with
    | true => .ok (true, r.2)
    | false => g b e r.2
def tNot (f : DT) : DT := fun b e S => f b e S >>= fun r => .ok (!r.1, r.2)
def tYes : DT := fun _ _ S => .ok (true, S)
def lNil : DL := fun _ _ S => .ok ([], S)
def lCons (f : DV) (l : DL) : DL := fun b e S => sD f b e S >>= fun r => l b e r.2 >>= fun q => .ok (r.1 :: q.1, q.2)
def oNone : DO := fun _ _ S => .ok (none, S)
def oSome (f : DV) : DO := fun b e S => sD f b e S >>= fun r => Rs.ofO (intO r.1) >>= fun i => .ok (some i, r.2)
def iE (f : DV) : DI := fun b e S => f b e S >>= fun r => Rs.ofO (items r.1 r.2) >>= fun xs => .ok ((chkOf r.1 r.2, xs), r.2)
def iEnum (f : DV) : DI := fun b e S => f b e S >>= fun r => Rs.ofO (items r.1 r.2) >>= fun xs => .ok ((chkOf r.1 r.2, enumD xs), r.2)
def iRev (f : DV) : DI := fun b e S => f b e S >>= fun r => Rs.ofO (items r.1 r.2) >>= fun xs => .ok ((chkOf r.1 r.2, xs.reverse), r.2)
def iZip (f g : DV) : DI := fun b e S => f b e S >>= fun r => g b e r.2 >>= fun q => Rs.ofO (items r.1 q.2) >>= fun xs => Rs.ofO (items q.1 q.2) >>= fun ys => if (!(tupO q.1).isSome || (tupO r.1).isSome) = true then .ok ((chkOf r.1 q.2 ++ chkOf q.1 q.2, zipD xs ys), q.2) else .bad
def iRng (lo : DO) (hi : DV) : DI := fun b e S => sEnds lo hi b e S >>= fun r => if (r.1.2 - r.1.1).toNat ≤ line then .ok (([], rngD r.1.1 r.1.2), r.2) else .bad
/-- reversed(range(hi)) -/
def iRrg (hi : DV) : DI := fun b e S => iRng oNone hi b e S >>= fun r => .ok ((r.1.1, r.1.2.reverse), r.2)
def gVar (i : Nat) : DG := fun _ x e S => .ok (e.set i (some x), S)
def gTup (g : DGs) : DG := fun b x e S => match x with
    | .tup xs => g b xs e S
    | _ => .bad
noncomputable def gSub (o i : DV) : DG := fun b x e S => sD o b e S >>= fun r => sD i b e r.2 >>= fun q => setI b r.1 q.1 x q.2 >>= fun S => .ok (e, S)
def gNil : DGs := fun _ xs e S => match xs with
    | [] => .ok (e, S)
    | _ => .bad
def gCons (t : DG) (ts : DGs) : DGs := fun b xs e S => match xs with
    | [] => .bad
    | x :: xs => t b x e S >>= fun r => ts b xs r.1 r.2

structure Se where
  v : DV
  t : DT
mutual
noncomputable def evE (rc : Rc) : E → Se
  | .var i => ⟨sVar i, sT (sVar i)⟩
  | .cn c => ⟨sCn c, sT (sCn c)⟩
  | .neg a => ⟨sNeg (evE rc a).v, sT (sNeg (evE rc a).v)⟩
  | .not a => ⟨sNot (evE rc a).v, tNot (evE rc a).t⟩
  | .bin o x y => ⟨sBin o (evE rc x).v (evE rc y).v, sT (sBin o (evE rc x).v (evE rc y).v)⟩
  | .cmp o x y => ⟨sCmp o (evE rc x).v (evE rc y).v, sT (sCmp o (evE rc x).v (evE rc y).v)⟩
  | .and x y => ⟨sAnd (evE rc x).v (evE rc y).v, tAnd (evE rc x).t (evE rc y).t⟩
  | .or x y => ⟨sOr (evE rc x).v (evE rc y).v, tOr (evE rc x).t (evE rc y).t⟩
  | .ite c x y => ⟨sIte (evE rc c).t (evE rc x).v (evE rc y).v, fun _ _ _ => .bad⟩
  | .tup es => ⟨sTup (evEs rc es).1, sT (sTup (evEs rc es).1)⟩
  | .lst es => ⟨sLst (evEs rc es).1, sT (sLst (evEs rc es).1)⟩
  | .idx x i => ⟨sIdx (evE rc x).v (evE rc i).v, sT (sIdx (evE rc x).v (evE rc i).v)⟩
  | .sl x lo hi => ⟨sSl (evE rc x).v (evO rc lo) (evO rc hi), sT (sSl (evE rc x).v (evO rc lo) (evO rc hi))⟩
  | .rev x => ⟨sRev (evE rc x).v, sT (sRev (evE rc x).v)⟩
  | .call f es ks perm => ⟨sCall rc f (evEs rc es).1 (evEs rc ks).1 perm, sT (sCall rc f (evEs rc es).1 (evEs rc ks).1 perm)⟩
  | .f1 f x => ⟨sF1 f (evE rc x).v, sT (sF1 f (evE rc x).v)⟩
  | .f2 f x y => ⟨sF2 f (evE rc x).v (evE rc y).v, sT (sF2 f (evE rc x).v (evE rc y).v)⟩
  | .isi x t => ⟨sIsi (evE rc x).v t, sT (sIsi (evE rc x).v t)⟩
  | .mkr t lo hi => ⟨sMkr t (evO rc lo) (evE rc hi).v, sT (sMkr t (evO rc lo) (evE rc hi).v)⟩
  | .m0 m o => ⟨sM0 m (evE rc o).v, sT (sM0 m (evE rc o).v)⟩
  | .m1 m o x => ⟨sM1 m (evE rc o).v (evE rc x).v, sT (sM1 m (evE rc o).v (evE rc x).v)⟩
  | .m2 m o x y => ⟨sM2 m (evE rc o).v (evE rc x).v (evE rc y).v, sT (sM2 m (evE rc o).v (evE rc x).v (evE rc y).v)⟩
  | .chn o p x y z => ⟨sChn o p (evE rc x).v (evE rc y).v (evE rc z).v, sT (sChn o p (evE rc x).v (evE rc y).v (evE rc z).v)⟩
  | .dcmp k x tg it ifs vs => ⟨sDcmp (evE rc k).v (evE rc x).v (evTg rc tg) (evIt rc it) (evEs rc ifs).2 vs, sT (sDcmp (evE rc k).v (evE rc x).v (evTg rc tg) (evIt rc it) (evEs rc ifs).2 vs)⟩
  | .comp x tg it ifs vs => ⟨sComp (evE rc x).v (evTg rc tg) (evIt rc it) (evEs rc ifs).2 vs, sT (sComp (evE rc x).v (evTg rc tg) (evIt rc it) (evEs rc ifs).2 vs)⟩
  | .dnew t => ⟨sDnew t, sT (sDnew t)⟩
  | .dget o i => ⟨sDget (evE rc o).v (evE rc i).v, sT (sDget (evE rc o).v (evE rc i).v)⟩
  | .din neg i o => ⟨sDin neg (evE rc i).v (evE rc o).v, sT (sDin neg (evE rc i).v (evE rc o).v)⟩
  | .dlen o => ⟨sDlen (evE rc o).v, sT (sDlen (evE rc o).v)⟩
  | .dgt o k x => ⟨sDgt (evE rc o).v (evE rc k).v (evE rc x).v, sT (sDgt (evE rc o).v (evE rc k).v (evE rc x).v)⟩
noncomputable def evEs (rc : Rc) : Es → DL × DT
  | .nil => (lNil, tYes)
  | .cons x es => (lCons (evE rc x).v (evEs rc es).1, tAnd (evE rc x).t (evEs rc es).2)
noncomputable def evO (rc : Rc) : Oe → DO
  | .none => oNone
  | .some x => oSome (evE rc x).v
noncomputable def evIt (rc : Rc) : It → DI
  | .e x => iE (evE rc x).v
  | .enum x => iEnum (evE rc x).v
  | .rev x => iRev (evE rc x).v
  | .zip x y => iZip (evE rc x).v (evE rc y).v
  | .rng lo hi => iRng (evO rc lo) (evE rc hi).v
  | .rrg hi => iRrg (evE rc hi).v
noncomputable def evTg (rc : Rc) : Tg → DG
  | .var i => gVar i
  | .tup ts => gTup (evTgs rc ts)
  | .sub o i => gSub (evE rc o).v (evE rc i).v
noncomputable def evTgs (rc : Rc) : Tgs → DGs
  | .nil => gNil
  | .cons t ts => gCons (evTg rc t) (evTgs rc ts)
end

abbrev DF := Nat → Env → Sto → Rs (Fl × Env × Sto)
def envGet (e : Env) (i : Nat) : Rs D := match e[i]? with
  | some (some x) => .ok x
  | _ => .bad
def setAll : List Nat → List D → Env → Env
  | i :: is, x :: xs, e => setAll is xs (e.set i (some x))
  | _, _, e => e
/-- an item of a list, its index not below nought -/
def idxL (o i : D) (S : Sto) : Option D :=
  match o, i with
  | .loc l, .int k => match S[l]? with
    | some (.lst xs) => if 0 ≤ k then xs[k.toNat]? else none
    | _ => none
  | _, _ => none
def augI (o : Bo) (y x : D) : Option D :=
  match y, x with
  | .int k, .int j => (binI o k j).map .int
  | _, _ => none
def cExpr (f : DV) : DF := fun b e S => f b e S >>= fun r => .ok (.nx, e, r.2)
def cAsg (t : DG) (f : DV) : DF := fun b e S => sD f b e S >>= fun r => t b r.1 e r.2 >>= fun q => .ok (.nx, q)
def cAug (i : Nat) (o : Bo) (f : DV) : DF := fun b e S => envGet e i >>= fun y => sD f b e S >>= fun r => Rs.ofO (augI o y r.1) >>= fun n => .ok (.nx, e.set i (some n), r.2)
noncomputable def cAugs (o i : DV) (op : Bo) (f : DV) : DF := fun b e S => sD o b e S >>= fun p => sD i b e p.2 >>= fun q => Rs.ofO (idxL p.1 q.1 q.2) >>= fun y => sD f b e q.2 >>= fun r =>
    Rs.ofO (augI op y r.1) >>= fun n => setI b p.1 q.1 n r.2 >>= fun S => .ok (.nx, e, S)
def cSwap (ts : List Nat) (l : DL) : DF := fun b e S => l b e S >>= fun r => if r.1.length = ts.length then .ok (.nx, setAll ts r.1 e, r.2) else .bad
def cIte (c : DT) (x y : DF) : DF := fun b e S => c b e S >>= fun r => match r.1 with
    | true => x b e r.2
    | false => y b e r.2
noncomputable def cFor (t : DG) (it : DI) (body : DF) : DF := fun b e S => it b e S >>= fun r => forL r.1.1 (fun d e S => t b d e S >>= fun p => body b p.1 p.2) r.1.2 e r.2
def cWhile (c : DT) (body : DF) : DF := fun b e S => whileL (c b) (body b) big e S
def cRet (f : DV) : DF := fun b e S => f b e S >>= fun r => .ok (.rt r.1, e, r.2)
def cFl (f : Fl) : DF := fun _ e S => .ok (f, e, S)
noncomputable def cDput (o k f : DV) : DF := fun b e S => sD f b e S >>= fun p => sD o b e p.2 >>= fun r => sD k b e r.2 >>= fun q => setK b r.1 q.1 p.1 q.2 >>= fun S => .ok (.nx, e, S)
def cSeq (x y : DF) : DF := fun b e S => x b e S >>= fun q => match q.1 with
    | .nx => y b q.2.1 q.2.2
    | f => .ok (f, q.2)
mutual
noncomputable def evS (rc : Rc) : St → DF
  | .expr x => cExpr (evE rc x).v
  | .asg t x => cAsg (evTg rc t) (evE rc x).v
  | .aug i o x => cAug i o (evE rc x).v
  | .augs o i op x => cAugs (evE rc o).v (evE rc i).v op (evE rc x).v
  | .swap ts es => cSwap ts (evEs rc es).1
  | .ite c x y => cIte (evE rc c).t (evSs rc x) (evSs rc y)
  | .for t it body => cFor (evTg rc t) (evIt rc it) (evSs rc body)
  | .while c body => cWhile (evE rc c).t (evSs rc body)
  | .ret x => cRet (evE rc x).v
  | .retn => cFl (.rt (.d .non))
  | .brk => cFl .br
  | .cont => cFl .ct
  | .pass => cFl .nx
  | .dput o k x => cDput (evE rc o).v (evE rc k).v (evE rc x).v
noncomputable def evSs (rc : Rc) : Ss → DF
  | .nil => cFl .nx
  | .cons s r => cSeq (evS rc s) (evSs rc r)
end
/-- a def: its name, parameters, names by slot, body -/
structure Df where
  name : Str
  np : Nat
  nv : Nat
  body : Ss
def env0 (nv : Nat) (ds : List D) : Env := ds.map some ++ List.replicate (nv - ds.length) none
def flV : Fl → Option Vl
  | .nx => some (.d .non)
  | .rt v => some v
  | _ => none
noncomputable def callN (T : Nat → Option Df) : Nat → Rc
  | 0 => fun _ _ _ => .bad
  | n + 1 => fun f ds S => match T f with
    | none => .bad
    | some d => if ds.length = d.np then evSs (callN T n) d.body S.length (env0 d.nv ds) S >>= fun r => Rs.ofO (flV r.1) >>= fun v => .ok (leave S.length v r.2.2)
      else .bad
end Pv
set_option linter.all false
set_option autoImplicit false
set_option maxRecDepth 100000
/-! The evaluator's values and the machine's: relations. -/
namespace Pv
open PySem PySem.Spec PyProof.Rows
open L2 (V Hp HO upd upd_same upd_ne VK XK TE TT TA TS TG TGs TI It Cx PE PT PW PA PS PSs PG PGs PI Inv RelV SqL SqT)

/-- tuples and locked objects are kept -/
structure Tk (H H' : Hp) : Prop where
  tup : ∀ a vs, H a = some (.tup vs) → H' a = some (.tup vs)
  frz : ∀ a o u, H a = some (.frz o u) → H' a = some (.frz o u)
theorem Tk.refl (H : Hp) : Tk H H := ⟨fun _ _ h => h, fun _ _ _ h => h⟩
theorem Tk.trans {H H1 H2 : Hp} (a : Tk H H1) (b : Tk H1 H2) : Tk H H2 := ⟨fun p vs h => b.tup p vs (a.tup p vs h), fun p o u h => b.frz p o u (a.frz p o u h)⟩
theorem Tk.upd {H : Hp} {p : Addr} {o : HO} (h1 : ∀ vs, H p ≠ some (.tup vs)) (h2 : ∀ o u, H p ≠ some (.frz o u)) : Tk H (upd H p o) := by
  refine ⟨fun a vs h => ?_, fun a o u h => ?_⟩
  · rw [upd_ne (show a ≠ p from fun e => h1 vs (by rw [← e]; exact h))]; exact h
  · rw [upd_ne (show a ≠ p from fun e => h2 o u (by rw [← e]; exact h))]; exact h
/-- the script: locked, or of the written part -/
def Scr (K : PySem.W.Frag) (H : Hp) (a : Addr) (vs : List V) : Prop := (∃ o, H a = some (.frz o (.lst vs))) ∨ SqL K (fun _ => none) a vs
theorem Scr.sq {K : PySem.W.Frag} {H : Hp} {a : Addr} {vs : List V} (h : Scr K H a vs) : SqL K H a vs := by
  rcases h with ⟨o, h⟩ | (h | ⟨o, h⟩) | h
  · exact .inl (.inr ⟨o, h⟩)
  · cases h
  · cases h
  · exact .inr h
theorem Scr.keep {K : PySem.W.Frag} {H H' : Hp} (t : Tk H H') {a : Addr} {vs : List V} (h : Scr K H a vs) : Scr K H' a vs := by
  rcases h with ⟨o, h⟩ | h
  · exact .inl ⟨o, t.frz _ _ _ h⟩
  · exact .inr h
mutual
def RD (K : PySem.W.Frag) (H : Hp) (m : List Addr) : D → V → Prop
  | .non, v => v = .non
  | .bl b, v => v = .bl b
  | .int i, v => v = .int i
  | .str x, v => v = .str x
  | .loc l, v => ∃ a, m[l]? = some a ∧ v = .ref a
  | .tup xs, v => ∃ a vs, v = .ref a ∧ H a = some (.tup vs) ∧ RDs K H m xs vs
  | .scr ns, v => ∃ a, v = .ref a ∧ Scr K H a (ns.map V.int)
def RDs (K : PySem.W.Frag) (H : Hp) (m : List Addr) : List D → List V → Prop
  | [], vs => vs = []
  | x :: xs, vs => ∃ v ws, vs = v :: ws ∧ RD K H m x v ∧ RDs K H m xs ws
end
def kD : L2.Key → D
  | .inl i => .int i
  | .inr s => .str s
def RO (K : PySem.W.Frag) (H : Hp) (m : List Addr) (a : Addr) : O → Prop
  | .lst xs => ∃ vs, H a = some (.lst vs) ∧ RDs K H m xs vs
  | .dct t kvs => t = false ∧ ∃ ks : List (L2.Key × V), H a = some (.dK ks) ∧ kvs.map (·.1) = ks.map (fun p => kD p.1) ∧ RDs K H m (kvs.map (·.2)) (ks.map (·.2))
/-- the store is held by the abstract heap -/
structure Rl (K : PySem.W.Frag) (m : List Addr) (H : Hp) (S : Sto) : Prop where
  len : m.length = S.length
  nd : m.Nodup
  at_ : ∀ (l : Nat) (a : Addr) (o : O), m[l]? = some a → S[l]? = some o → RO K H m a o
def RE (K : PySem.W.Frag) (H : Hp) (m : List Addr) (e : Env) (σ : L2.St) : Prop := e.length = σ.length ∧ ∀ (i : Nat) (x : D), e[i]? = some (some x) → ∃ v, σ[i]? = some (some v) ∧ RD K H m x v
/-- what came since: objects beside the store's are kept, the store's new places are new objects -/
structure Le (H : Hp) (m : List Addr) (H' : Hp) (m' : List Addr) : Prop where
  pre : m <+: m'
  tk : Tk H H'
  rest : ∀ p o, H p = some o → p ∉ m → H' p = some o
  fresh : ∀ p, p ∈ m' → p ∉ m → H p = none
theorem Le.refl (H : Hp) (m : List Addr) : Le H m H m := ⟨List.prefix_refl m, Tk.refl H, fun _ _ h _ => h, fun _ h n => (n h).elim⟩
theorem Le.out {H H' : Hp} {m m' : List Addr} (a : Le H m H' m') {p : Addr} {o : HO} (h : H p = some o) (n : p ∉ m) : p ∉ m' := fun z => by
  have := a.fresh p z n; rw [h] at this; cases this
theorem Le.back {H H' : Hp} {m m' : List Addr} (a : Le H m H' m') {p : Addr} (h : H' p = none) (n : p ∉ m) : H p = none := by
  cases e : H p with
  | none => rfl
  | some o => have := a.rest p o e n; rw [h] at this; cases this
theorem Le.trans {H H1 H2 : Hp} {m m1 m2 : List Addr} (a : Le H m H1 m1) (b : Le H1 m1 H2 m2) : Le H m H2 m2 :=
  ⟨a.pre.trans b.pre, a.tk.trans b.tk, fun p o h n => b.rest p o (a.rest p o h n) (a.out h n), fun p h n => by
    by_cases h1 : p ∈ m1
    · exact a.fresh p h1 n
    · exact a.back (b.fresh p h h1) n⟩
theorem pre_get {m m' : List Addr} (a : m <+: m') {l : Nat} {p : Addr} (h : m[l]? = some p) : m'[l]? = some p := by
  obtain ⟨t, rfl⟩ := a
  have hl : l < m.length := (List.getElem?_eq_some_iff.mp h).1
  rw [List.getElem?_append_left hl]; exact h
mutual
theorem RD.mono' {K : PySem.W.Frag} {H H' : Hp} {m m' : List Addr} (hp : m <+: m') (ht : Tk H H') : ∀ {x : D} {v : V}, RD K H m x v → RD K H' m' x v
  | .non, _, h => h
  | .bl _, _, h => h
  | .int _, _, h => h
  | .str _, _, h => h
  | .loc l, v, h => by
    obtain ⟨a, ha, hv⟩ := (h : ∃ a, m[l]? = some a ∧ v = .ref a)
    exact ⟨a, pre_get hp ha, hv⟩
  | .scr ns, v, h => by
    obtain ⟨a, hv, ha⟩ := (h : ∃ a, v = .ref a ∧ Scr K H a (ns.map V.int))
    exact ⟨a, hv, ha.keep ht⟩
  | .tup xs, v, h => by
    obtain ⟨a, vs, hv, ha, hr⟩ := (h : ∃ a vs, v = .ref a ∧ H a = some (.tup vs) ∧ RDs K H m xs vs)
    exact ⟨a, vs, hv, ht.tup a vs ha, RDs.mono' hp ht hr⟩
theorem RDs.mono' {K : PySem.W.Frag} {H H' : Hp} {m m' : List Addr} (hp : m <+: m') (ht : Tk H H') : ∀ {xs : List D} {vs : List V}, RDs K H m xs vs → RDs K H' m' xs vs
  | [], _, h => h
  | x :: xs, vs, h => by
    obtain ⟨v, ws, hv, h1, h2⟩ := (h : ∃ v ws, vs = v :: ws ∧ RD K H m x v ∧ RDs K H m xs ws)
    exact ⟨v, ws, hv, RD.mono' hp ht h1, RDs.mono' hp ht h2⟩
end
theorem RD.mono {K : PySem.W.Frag} {H H' : Hp} {m m' : List Addr} (z : Le H m H' m') {x : D} {v : V} (h : RD K H m x v) : RD K H' m' x v := h.mono' z.pre z.tk
theorem RDs.mono {K : PySem.W.Frag} {H H' : Hp} {m m' : List Addr} (z : Le H m H' m') {x : List D} {v : List V} (h : RDs K H m x v) : RDs K H' m' x v := h.mono' z.pre z.tk
theorem RD.pre {K : PySem.W.Frag} {H : Hp} {m m' : List Addr} (z : m <+: m') {x : D} {v : V} (h : RD K H m x v) : RD K H m' x v := h.mono' z (Tk.refl H)
theorem RDs.pre {K : PySem.W.Frag} {H : Hp} {m m' : List Addr} (z : m <+: m') {x : List D} {v : List V} (h : RDs K H m x v) : RDs K H m' x v := h.mono' z (Tk.refl H)
/-! the two relations lean on tuples and on the places of the store alone -/
mutual
theorem RD.via {K : PySem.W.Frag} {H H' : Hp} {m m' : List Addr} (ht : Tk H H') : ∀ {n : Nat} {x : D} {v : V}, (∀ l a, l < n → m[l]? = some a → m'[l]? = some a) → x.ub n = true → RD K H m x v → RD K H' m' x v
  | _, .non, _, _, _, h => h
  | _, .bl _, _, _, _, h => h
  | _, .int _, _, _, _, h => h
  | _, .str _, _, _, _, h => h
  | n, .loc l, v, hm, hu, h => by
    obtain ⟨a, ha, hv⟩ := (h : ∃ a, m[l]? = some a ∧ v = .ref a)
    exact ⟨a, hm l a (by simpa [D.ub] using hu) ha, hv⟩
  | n, .scr ns, v, hm, hu, h => by
    obtain ⟨a, hv, ha⟩ := (h : ∃ a, v = .ref a ∧ Scr K H a (ns.map V.int))
    exact ⟨a, hv, ha.keep ht⟩
  | n, .tup xs, v, hm, hu, h => by
    obtain ⟨a, vs, hv, ha, hr⟩ := (h : ∃ a vs, v = .ref a ∧ H a = some (.tup vs) ∧ RDs K H m xs vs)
    exact ⟨a, vs, hv, ht.tup a vs ha, RDs.via ht hm (by simpa [D.ub] using hu) hr⟩
theorem RDs.via {K : PySem.W.Frag} {H H' : Hp} {m m' : List Addr} (ht : Tk H H') : ∀ {n : Nat} {xs : List D} {vs : List V}, (∀ l a, l < n → m[l]? = some a → m'[l]? = some a) → ubL n xs = true → RDs K H m xs vs → RDs K H' m' xs vs
  | _, [], _, _, _, h => h
  | n, x :: xs, vs, hm, hu, h => by
    obtain ⟨v, ws, hv, h1, h2⟩ := (h : ∃ v ws, vs = v :: ws ∧ RD K H m x v ∧ RDs K H m xs ws)
    have hu' : x.ub n = true ∧ ubL n xs = true := by simpa [ubL] using hu
    exact ⟨v, ws, hv, RD.via ht hm hu'.1 h1, RDs.via ht hm hu'.2 h2⟩
end
theorem RDs.length {K : PySem.W.Frag} {H : Hp} {m : List Addr} : ∀ {xs : List D} {vs : List V}, RDs K H m xs vs → xs.length = vs.length
  | [], vs, h => by rw [show vs = [] from h]; rfl
  | x :: xs, vs, h => by
    obtain ⟨v, ws, rfl, _, h2⟩ := (h : ∃ v ws, vs = v :: ws ∧ RD K H m x v ∧ RDs K H m xs ws)
    simp [RDs.length h2]
theorem RDs.get {K : PySem.W.Frag} {H : Hp} {m : List Addr} : ∀ {xs : List D} {vs : List V} {i : Nat} {x : D}, RDs K H m xs vs → xs[i]? = some x → ∃ v, vs[i]? = some v ∧ RD K H m x v
  | [], _, _, _, _, e => by simp at e
  | y :: xs, vs, i, x, h, e => by
    obtain ⟨v, ws, rfl, h1, h2⟩ := (h : ∃ v ws, vs = v :: ws ∧ RD K H m y v ∧ RDs K H m xs ws)
    cases i with
    | zero => simp at e; subst e; exact ⟨v, rfl, h1⟩
    | succ i => obtain ⟨u, e1, e2⟩ := RDs.get (i := i) h2 (by simpa using e); exact ⟨u, by simpa using e1, e2⟩
theorem RDs.of_get {K : PySem.W.Frag} {H : Hp} {m : List Addr} : ∀ {xs : List D} {vs : List V}, xs.length = vs.length → (∀ (i : Nat) (x : D) (v : V), xs[i]? = some x → vs[i]? = some v → RD K H m x v) → RDs K H m xs vs
  | [], vs, hl, _ => by cases vs with | nil => rfl | cons _ _ => simp at hl
  | x :: xs, vs, hl, h => by
    cases vs with
    | nil => simp at hl
    | cons v ws => exact ⟨v, ws, rfl, h 0 x v rfl rfl, RDs.of_get (by simpa using hl) fun i y u e1 e2 => h (i + 1) y u (by simpa using e1) (by simpa using e2)⟩
theorem RDs.append {K : PySem.W.Frag} {H : Hp} {m : List Addr} : ∀ {xs ys : List D} {vs ws : List V}, RDs K H m xs vs → RDs K H m ys ws → RDs K H m (xs ++ ys) (vs ++ ws)
  | [], _, vs, _, h, k => by rw [show vs = [] from h]; exact k
  | x :: xs, ys, vs, us, h, k => by
    obtain ⟨v, ws, rfl, h1, h2⟩ := (h : ∃ v ws, vs = v :: ws ∧ RD K H m x v ∧ RDs K H m xs ws)
    exact ⟨v, ws ++ us, rfl, h1, RDs.append h2 k⟩
theorem RDs.set {K : PySem.W.Frag} {H : Hp} {m : List Addr} {x : D} {v : V} (r : RD K H m x v) : ∀ {xs : List D} {vs : List V} (i : Nat), RDs K H m xs vs → RDs K H m (xs.set i x) (vs.set i v)
  | [], vs, i, h => by rw [show vs = [] from h]; exact (show RDs K H m [] ([].set i v) from by simp [RDs])
  | y :: xs, vs, i, h => by
    obtain ⟨u, ws, rfl, h1, h2⟩ := (h : ∃ v ws, vs = v :: ws ∧ RD K H m y v ∧ RDs K H m xs ws)
    cases i with
    | zero => exact ⟨v, ws, rfl, r, h2⟩
    | succ i => exact ⟨u, ws.set i v, rfl, h1, RDs.set r i h2⟩
theorem RDs.drop {K : PySem.W.Frag} {H : Hp} {m : List Addr} {xs : List D} {vs : List V} (h : RDs K H m xs vs) (n : Nat) : RDs K H m (xs.drop n) (vs.drop n) :=
  RDs.of_get (by simp [h.length]) fun i x v e1 e2 => by
    rw [List.getElem?_drop] at e1 e2
    obtain ⟨u, e3, r⟩ := h.get e1
    rw [e3] at e2; cases e2; exact r
theorem RDs.take {K : PySem.W.Frag} {H : Hp} {m : List Addr} {xs : List D} {vs : List V} (h : RDs K H m xs vs) (n : Nat) : RDs K H m (xs.take n) (vs.take n) :=
  RDs.of_get (by simp [h.length]) fun i x v e1 e2 => by
    rw [List.getElem?_take] at e1 e2
    split at e1
    · rename_i hi
      rw [if_pos hi] at e2
      obtain ⟨u, e3, r⟩ := h.get e1
      rw [e3] at e2; cases e2; exact r
    · cases e1
theorem RDs.reverse {K : PySem.W.Frag} {H : Hp} {m : List Addr} {xs : List D} {vs : List V} (h : RDs K H m xs vs) : RDs K H m xs.reverse vs.reverse :=
  RDs.of_get (by simp [h.length]) fun i x v e1 e2 => by
    have hi : i < xs.length := by have := (List.getElem?_eq_some_iff.mp e1).1; simpa using this
    rw [List.getElem?_reverse hi] at e1
    rw [List.getElem?_reverse (by rw [← h.length]; exact hi), ← h.length] at e2
    obtain ⟨u, e3, r⟩ := h.get e1
    rw [e3] at e2; cases e2; exact r
theorem RDs.eraseIdx {K : PySem.W.Frag} {H : Hp} {m : List Addr} : ∀ {xs : List D} {vs : List V} (i : Nat), RDs K H m xs vs → RDs K H m (xs.eraseIdx i) (vs.eraseIdx i)
  | [], vs, i, h => by rw [show vs = [] from h]; exact (show RDs K H m [] ([].eraseIdx i) from by simp [RDs])
  | y :: xs, vs, i, h => by
    obtain ⟨u, ws, rfl, h1, h2⟩ := (h : ∃ v ws, vs = v :: ws ∧ RD K H m y v ∧ RDs K H m xs ws)
    cases i with
    | zero => exact h2
    | succ i => exact ⟨u, ws.eraseIdx i, rfl, h1, RDs.eraseIdx i h2⟩
theorem RDs.dropLast {K : PySem.W.Frag} {H : Hp} {m : List Addr} {xs : List D} {vs : List V} (h : RDs K H m xs vs) : RDs K H m xs.dropLast vs.dropLast := by
  rw [List.dropLast_eq_take, List.dropLast_eq_take, ← h.length]; exact h.take _

/-- a value that may be a list that nobody else knows: it came behind H0 -/
def RV (K : PySem.W.Frag) (H0 H : Hp) (m : List Addr) : Vl → V → Prop
  | .d x, v => RD K H m x v
  | .fr xs, v => ∃ p vs, v = .ref p ∧ H p = some (.lst vs) ∧ p ∉ m ∧ H0 p = none ∧ RDs K H m xs vs
theorem RV.mono {K : PySem.W.Frag} {H0 H H' : Hp} {m m' : List Addr} (z : Le H m H' m') {r : Vl} {v : V} (h : RV K H0 H m r v) : RV K H0 H' m' r v := by
  cases r with
  | d x => exact RD.mono z h
  | fr xs =>
    obtain ⟨p, vs, hv, hp, hn, h0, hr⟩ := (h : ∃ p vs, v = .ref p ∧ H p = some (.lst vs) ∧ p ∉ m ∧ H0 p = none ∧ RDs K H m xs vs)
    exact ⟨p, vs, hv, z.rest p _ hp hn, z.out hp hn, h0, RDs.mono z hr⟩
theorem RV.from {K : PySem.W.Frag} {H00 H0 H : Hp} {m0 m00 m : List Addr} (z : Le H00 m00 H0 m0) (z2 : Le H0 m0 H m) {r : Vl} {v : V} (h : RV K H0 H m r v) : RV K H00 H m r v := by
  cases r with
  | d x => exact h
  | fr xs =>
    obtain ⟨p, vs, hv, hp, hn, h0, hr⟩ := (h : ∃ p vs, v = .ref p ∧ H p = some (.lst vs) ∧ p ∉ m ∧ H0 p = none ∧ RDs K H m xs vs)
    refine ⟨p, vs, hv, hp, hn, z.back h0 fun e => hn ?_, hr⟩
    exact (z.pre.trans z2.pre).subset e
theorem RE.mono {K : PySem.W.Frag} {H H' : Hp} {m m' : List Addr} (z : Le H m H' m') {e : Env} {σ : L2.St} (h : RE K H m e σ) : RE K H' m' e σ :=
  ⟨h.1, fun i x e => let ⟨v, e1, r⟩ := h.2 i x e; ⟨v, e1, RD.mono z r⟩⟩
theorem RE.set {K : PySem.W.Frag} {H : Hp} {m : List Addr} {e : Env} {σ : L2.St} (h : RE K H m e σ) {x : D} {v : V} (r : RD K H m x v) (i : Nat) : RE K H m (e.set i (some x)) (σ.set i (some v)) := by
  refine ⟨by simp [h.1], fun j y hj => ?_⟩
  by_cases hij : i = j
  · subst hij
    by_cases hl : i < e.length
    · rw [List.getElem?_set_self hl] at hj
      cases hj
      exact ⟨v, by rw [List.getElem?_set_self (by rw [← h.1]; exact hl)], r⟩
    · rw [List.getElem?_eq_none (by simp; omega)] at hj; cases hj
  · rw [List.getElem?_set_ne hij] at hj
    obtain ⟨u, e1, r1⟩ := h.2 j y hj
    exact ⟨u, by rw [List.getElem?_set_ne hij]; exact e1, r1⟩

section
variable {K : PySem.W.Frag} {m : List Addr} {H : Hp} {S : Sto}
/-- a new tuple (or another object that is not the store's) is laid -/
theorem Rl.laid (R : Rl K m H S) {p : Addr} {o : HO} (hp : H p = none) : Le H m (upd H p o) m ∧ Rl K m (upd H p o) S := by
  have ne : ∀ {b : Addr} {u : HO}, H b = some u → b ≠ p := fun h z => by rw [z, hp] at h; cases h
  have z : Le H m (upd H p o) m := ⟨List.prefix_refl m, Tk.upd (fun vs h => by rw [hp] at h; cases h) (fun _ _ h => by rw [hp] at h; cases h), fun q u h n => by rw [upd_ne (ne h)]; exact h, fun _ h n => (n h).elim⟩
  refine ⟨z, R.len, R.nd, fun l a u h1 h2 => ?_⟩
  have := R.at_ l a u h1 h2
  cases u with
  | lst xs => obtain ⟨vs, h, r⟩ := this; exact ⟨vs, by rw [upd_ne (ne h)]; exact h, RDs.mono z r⟩
  | dct _ _ => obtain ⟨ht, ks, h, hk, r⟩ := this; exact ⟨ht, ks, by rw [upd_ne (ne h)]; exact h, hk, RDs.mono z r⟩
theorem Rl.lst (R : Rl K m H S) {l : Nat} {a : Addr} {xs : List D} (h1 : m[l]? = some a) (h2 : S[l]? = some (.lst xs)) : ∃ vs, H a = some (.lst vs) ∧ RDs K H m xs vs := R.at_ l a _ h1 h2
/-- a new object is none of the store's -/
theorem Rl.new (R : Rl K m H S) {p : Addr} (hp : H p = none) : p ∉ m := fun hm => by
  obtain ⟨l, hl⟩ := List.getElem?_of_mem hm
  have hl' : l < S.length := by rw [← R.len]; exact (List.getElem?_eq_some_iff.mp hl).1
  have := R.at_ l p S[l] hl (List.getElem?_eq_getElem hl')
  cases e : S[l] with
  | lst ys => rw [e] at this; obtain ⟨us, h, _⟩ := this; rw [hp] at h; cases h
  | dct _ _ => rw [e] at this; obtain ⟨_, ks, h, _⟩ := this; rw [hp] at h; cases h
/-- a fresh list comes into the store -/
theorem Rl.push (R : Rl K m H S) {p : Addr} {vs : List V} {xs : List D} (hp : H p = some (.lst vs)) (hn : p ∉ m) (r : RDs K H m xs vs) : Rl K (m ++ [p]) H (S ++ [.lst xs]) := by
  have z : m <+: m ++ [p] := List.prefix_append _ _
  refine ⟨by simp [R.len], ?_, fun l a o h1 h2 => ?_⟩
  · rw [List.nodup_append]
    exact ⟨R.nd, by simp, fun a ha b hb => by simp at hb; subst hb; intro e; subst e; exact hn ha⟩
  · by_cases hl : l < m.length
    · rw [List.getElem?_append_left hl] at h1
      rw [List.getElem?_append_left (by rw [← R.len]; exact hl)] at h2
      have := R.at_ l a o h1 h2
      cases o with
      | lst ys => obtain ⟨ws, h, q⟩ := this; exact ⟨ws, h, q.pre z⟩
      | dct _ _ => obtain ⟨ht, ks, h, hk, q⟩ := this; exact ⟨ht, ks, h, hk, q.pre z⟩
    · have hl' : l < (m ++ [p]).length := (List.getElem?_eq_some_iff.mp h1).1
      have e : l = m.length := by simp at hl'; omega
      subst e
      simp at h1
      rw [R.len] at h2
      simp at h2
      subst h1; subst h2
      exact ⟨vs, hp, r.pre z⟩
theorem Le.push {H0 H : Hp} {m0 m : List Addr} (z : Le H0 m0 H m) {p : Addr} (h0 : H0 p = none) : Le H0 m0 H (m ++ [p]) :=
  ⟨z.pre.trans (List.prefix_append _ _), z.tk, z.rest, fun q h n => by
    rcases List.mem_append.mp h with h | h
    · exact z.fresh q h n
    · have e : q = p := by simpa using h
      subst e; exact h0⟩
/-- a value settled: a fresh list comes into the store -/
theorem settled {H0 : Hp} {m0 : List Addr} (z : Le H0 m0 H m) (R : Rl K m H S) {r : Vl} {v : V} (h : RV K H0 H m r v) : ∃ m', Le H0 m0 H m' ∧ m <+: m' ∧ Rl K m' H (settle r S).2 ∧ RD K H m' (settle r S).1 v := by
  cases r with
  | d x => exact ⟨m, z, List.prefix_refl m, R, h⟩
  | fr xs =>
    obtain ⟨p, vs, rfl, hp, hn, h0, hr⟩ := (h : ∃ p vs, v = .ref p ∧ H p = some (.lst vs) ∧ p ∉ m ∧ H0 p = none ∧ RDs K H m xs vs)
    exact ⟨m ++ [p], z.push h0, List.prefix_append _ _, R.push hp hn hr, ⟨p, by rw [← R.len]; simp, rfl⟩⟩
/-- a list's object is written -/
theorem Rl.write (R : Rl K m H S) {l : Nat} {a : Addr} {xs ys : List D} {vs ws : List V} (h1 : m[l]? = some a) (h2 : S[l]? = some (.lst xs)) (h3 : H a = some (.lst vs)) (r : RDs K H m ys ws) :
    Le H m (upd H a (.lst ws)) m ∧ Rl K m (upd H a (.lst ws)) (S.set l (.lst ys)) := by
  have ht : Tk H (upd H a (.lst ws)) := Tk.upd (fun us h => by rw [h3] at h; cases h) (fun _ _ h => by rw [h3] at h; cases h)
  have ham : a ∈ m := List.mem_of_getElem? h1
  refine ⟨⟨List.prefix_refl m, ht, fun p o h n => by rw [upd_ne (fun e => n (by subst e; exact ham))]; exact h, fun _ h n => (n h).elim⟩, by simp [R.len], R.nd, fun k b o hk ho => ?_⟩
  by_cases e : k = l
  · subst e
    rw [h1] at hk; cases hk
    have hl : k < S.length := (List.getElem?_eq_some_iff.mp h2).1
    rw [List.getElem?_set_self hl] at ho
    cases ho
    exact ⟨ws, upd_same, r.mono' (List.prefix_refl m) ht⟩
  · rw [List.getElem?_set_ne (Ne.symm e)] at ho
    have nb : b ≠ a := fun q => by
      subst q
      obtain ⟨hk1, hk2⟩ := List.getElem?_eq_some_iff.mp hk
      obtain ⟨hl1, hl2⟩ := List.getElem?_eq_some_iff.mp h1
      exact e ((List.getElem_inj R.nd).mp (hk2.trans hl2.symm))
    have := R.at_ k b o hk ho
    cases o with
    | lst zs => obtain ⟨us, h, q⟩ := this; exact ⟨us, by rw [upd_ne nb]; exact h, q.mono' (List.prefix_refl m) ht⟩
    | dct _ _ => obtain ⟨hf, ks, h, hk, q⟩ := this; exact ⟨hf, ks, by rw [upd_ne nb]; exact h, hk, q.mono' (List.prefix_refl m) ht⟩
/-- a dict's object is written -/
theorem Rl.writeD (R : Rl K m H S) {l : Nat} {a : Addr} {t : Bool} {kvs kvs' : List (D × D)} {ks ks' : List (L2.Key × V)} (h1 : m[l]? = some a) (h2 : S[l]? = some (.dct t kvs)) (h3 : H a = some (.dK ks)) (hk : kvs'.map (·.1) = ks'.map (fun p => kD p.1)) (r : RDs K H m (kvs'.map (·.2)) (ks'.map (·.2))) :
    Le H m (upd H a (.dK ks')) m ∧ Rl K m (upd H a (.dK ks')) (S.set l (.dct t kvs')) := by
  have ht : Tk H (upd H a (.dK ks')) := Tk.upd (fun us h => by rw [h3] at h; cases h) (fun _ _ h => by rw [h3] at h; cases h)
  have ham : a ∈ m := List.mem_of_getElem? h1
  refine ⟨⟨List.prefix_refl m, ht, fun p o h n => by rw [upd_ne (fun e => n (by subst e; exact ham))]; exact h, fun _ h n => (n h).elim⟩, by simp [R.len], R.nd, fun k b o hk' ho => ?_⟩
  by_cases e : k = l
  · subst e
    rw [h1] at hk'; cases hk'
    have hl : k < S.length := (List.getElem?_eq_some_iff.mp h2).1
    rw [List.getElem?_set_self hl] at ho
    cases ho
    obtain ⟨hf, _⟩ := R.at_ k a _ h1 h2
    exact ⟨hf, ks', upd_same, hk, r.mono' (List.prefix_refl m) ht⟩
  · rw [List.getElem?_set_ne (Ne.symm e)] at ho
    have nb : b ≠ a := fun q => by
      subst q
      obtain ⟨hk1, hk2⟩ := List.getElem?_eq_some_iff.mp hk'
      obtain ⟨hl1, hl2⟩ := List.getElem?_eq_some_iff.mp h1
      exact e ((List.getElem_inj R.nd).mp (hk2.trans hl2.symm))
    have := R.at_ k b o hk' ho
    cases o with
    | lst zs => obtain ⟨us, h, q⟩ := this; exact ⟨us, by rw [upd_ne nb]; exact h, q.mono' (List.prefix_refl m) ht⟩
    | dct _ _ => obtain ⟨hf, ks, h, hk, q⟩ := this; exact ⟨hf, ks, by rw [upd_ne nb]; exact h, hk, q.mono' (List.prefix_refl m) ht⟩
/-- a new dict comes into the store -/
theorem Rl.pushD (R : Rl K m H S) {p : Addr} (hp : H p = some (.dK [])) (hn : p ∉ m) : Rl K (m ++ [p]) H (S ++ [.dct false []]) := by
  have z : m <+: m ++ [p] := List.prefix_append _ _
  refine ⟨by simp [R.len], ?_, fun l a o h1 h2 => ?_⟩
  · rw [List.nodup_append]
    exact ⟨R.nd, by simp, fun a ha b hb => by simp at hb; subst hb; intro e; subst e; exact hn ha⟩
  · by_cases hl : l < m.length
    · rw [List.getElem?_append_left hl] at h1
      rw [List.getElem?_append_left (by rw [← R.len]; exact hl)] at h2
      have := R.at_ l a o h1 h2
      cases o with
      | lst ys => obtain ⟨ws, h, q⟩ := this; exact ⟨ws, h, q.pre z⟩
      | dct _ _ => obtain ⟨ht, ks, h, hk, q⟩ := this; exact ⟨ht, ks, h, hk, q.pre z⟩
    · have hl' : l < (m ++ [p]).length := (List.getElem?_eq_some_iff.mp h1).1
      have e : l = m.length := by simp at hl'; omega
      subst e
      simp at h1
      rw [R.len] at h2
      simp at h2
      subst h1; subst h2
      exact ⟨rfl, [], hp, rfl, rfl⟩
end

/-! ### what a frame may not do: put its own objects into older ones -/
def O.ub (n : Nat) : O → Bool
  | .lst xs => ubL n xs
  | .dct _ kvs => kvs.all fun p => p.1.ub n && p.2.ub n
def WF (n : Nat) (S : Sto) : Prop := ∀ l o, l < n → S[l]? = some o → o.ub n = true
structure Kp (b : Nat) (S S' : Sto) : Prop where
  len : S.length ≤ S'.length
  wf : ∀ n, n ≤ b → WF n S → WF n S'
theorem Kp.refl (b : Nat) (S : Sto) : Kp b S S := ⟨Nat.le_refl _, fun _ _ h => h⟩
theorem Kp.trans {b : Nat} {S S1 S2 : Sto} (x : Kp b S S1) (y : Kp b S1 S2) : Kp b S S2 := ⟨Nat.le_trans x.len y.len, fun n h w => y.wf n h (x.wf n h w)⟩
theorem Kp.mono {b c : Nat} {S S' : Sto} (x : Kp b S S') (h : c ≤ b) : Kp c S S' := ⟨x.len, fun n h1 w => x.wf n (Nat.le_trans h1 h) w⟩
mutual
theorem pure_ub {n : Nat} : ∀ {x : D}, x.pure = true → x.ub n = true
  | .non, _ => rfl
  | .bl _, _ => rfl
  | .int _, _ => rfl
  | .str _, _ => rfl
  | .loc _, h => by simp [D.pure] at h
  | .scr _, _ => rfl
  | .tup xs, h => pureL_ub (xs := xs) h
theorem pureL_ub {n : Nat} : ∀ {xs : List D}, pureL xs = true → ubL n xs = true
  | [], _ => rfl
  | x :: xs, h => by
    have h' : x.pure = true ∧ pureL xs = true := by simpa [pureL] using h
    simp [ubL, pure_ub h'.1, pureL_ub h'.2]
end
theorem Kp.push (b : Nat) (S : Sto) (o : O) (h : b ≤ S.length) : Kp b S (S ++ [o]) := ⟨by simp, fun n hn w l u hl hu => by
  rw [List.getElem?_append_left (by omega)] at hu
  exact w l u hl hu⟩
theorem Kp.settle {b : Nat} {S : Sto} (r : Vl) (h : b ≤ S.length) : Kp b S (settle r S).2 := by
  cases r with
  | d x => exact Kp.refl b S
  | fr xs => exact Kp.push b S _ h
theorem Kp.set {b l : Nat} {S : Sto} {o : O} (h : (∀ n, n ≤ b → WF n S → l < n → o.ub n = true)) : Kp b S (S.set l o) := ⟨by simp, fun n hn w k u hk hu => by
  by_cases e : k = l
  · subst e
    by_cases hl : k < S.length
    · rw [List.getElem?_set_self hl] at hu; cases hu
      exact h n hn w hk
    · rw [List.getElem?_eq_none (by simp; omega)] at hu; cases hu
  · rw [List.getElem?_set_ne (Ne.symm e)] at hu
    exact w k u hk hu⟩
theorem ubL_append {n : Nat} : ∀ {xs ys : List D}, ubL n (xs ++ ys) = (ubL n xs && ubL n ys)
  | [], ys => by simp [ubL]
  | x :: xs, ys => by simp [ubL, ubL_append (xs := xs), Bool.and_assoc]
theorem ubL_mem {n : Nat} : ∀ {xs : List D}, ubL n xs = true ↔ ∀ x ∈ xs, x.ub n = true
  | [] => by simp [ubL]
  | x :: xs => by simp [ubL, ubL_mem (xs := xs)]
theorem pureL_mem : ∀ {xs : List D}, pureL xs = true ↔ ∀ x ∈ xs, x.pure = true
  | [] => by simp [pureL]
  | x :: xs => by simp [pureL, pureL_mem (xs := xs)]
end Pv
set_option linter.all false
set_option autoImplicit false
set_option maxRecDepth 100000
/-! What the evaluator tells, the machine does: expressions. -/
namespace Pv
open PySem PySem.Spec PyProof.Rows
open L2 (V Hp HO upd upd_same upd_ne VK XK TE TT TA TS TG TGs TI It Cx PE PT PW PA PS PSs PG PGs PI Inv RelV SqL SqT OpR)

/-- the frame's base lies within the store -/
def KV {α : Type} (f : Nat → Env → Sto → Rs (α × Sto)) : Prop := ∀ (b : Nat) (e : Env) (S : Sto) (r : α) (S' : Sto), b ≤ S.length → f b e S = .ok (r, S') → Kp b S S'

def tE (K : PySem.W.Frag) (f : DV) : TE := fun σ H Q => ∃ (b : Nat) (m : List Addr) (e : Env) (S : Sto) (r : Vl) (S' : Sto), b ≤ S.length ∧ Rl K m H S ∧ RE K H m e σ ∧ f b e S = .ok (r, S') ∧
  ∀ v H' m', Le H m H' m' → Rl K m' H' S' → RV K H H' m' r v → Q v H'
def tD (K : PySem.W.Frag) (f : DD) : TE := fun σ H Q => ∃ (b : Nat) (m : List Addr) (e : Env) (S : Sto) (r : D) (S' : Sto), b ≤ S.length ∧ Rl K m H S ∧ RE K H m e σ ∧ f b e S = .ok (r, S') ∧
  ∀ v H' m', Le H m H' m' → Rl K m' H' S' → RD K H' m' r v → Q v H'
def tT (K : PySem.W.Frag) (f : DT) : TT := fun σ H Q => ∃ (b : Nat) (m : List Addr) (e : Env) (S : Sto) (k : Bool) (S' : Sto), b ≤ S.length ∧ Rl K m H S ∧ RE K H m e σ ∧ f b e S = .ok (k, S') ∧
  ∀ H' m', Le H m H' m' → Rl K m' H' S' → Q k H'
def tL (K : PySem.W.Frag) (f : DL) : TA := fun σ H Q => ∃ (b : Nat) (m : List Addr) (e : Env) (S : Sto) (r : List D) (S' : Sto), b ≤ S.length ∧ Rl K m H S ∧ RE K H m e σ ∧ f b e S = .ok (r, S') ∧
  ∀ vs H' m', Le H m H' m' → Rl K m' H' S' → RDs K H' m' r vs → Q vs H'

section
variable {X : Cx} {a b c ex : Expr} {f g : DV} {pos : Pos}

theorem PE.impI {t t' : TE} (h : PE X ex t) (k : ∀ pins s σ H Q, Inv X pins σ H s → t' σ H Q → t σ H Q) : PE X ex t' := ⟨fun pins s σ H Q I q => h.run pins s σ H Q I (k pins s σ H Q I q)⟩
theorem PE.imp {t t' : TE} (h : PE X ex t) (k : ∀ σ H Q, t' σ H Q → t σ H Q) : PE X ex t' := PE.impI h fun _ _ σ H Q _ => k σ H Q
theorem PT.imp {t t' : TT} (h : PT X ex t) (k : ∀ σ H Q, t' σ H Q → t σ H Q) : PT X ex t' := ⟨fun pins s σ H Q I q => h.run pins s σ H Q I (k σ H Q q)⟩
theorem PW.imp {t t' : TT} (h : PW X ex t) (k : ∀ σ H Q, t' σ H Q → t σ H Q) : PW X ex t' := ⟨fun w pins s σ H Q I q => h.run w pins s σ H Q I (k σ H Q q)⟩
theorem PA.imp {es : List Expr} {t t' : TA} (h : PA X es t) (k : ∀ σ H Q, t' σ H Q → t σ H Q) : PA X es t' := ⟨fun p pins s σ H Q I q => h.run p pins s σ H Q I (k σ H Q q)⟩

theorem KV.sD {f : DV} (h : KV f) : KV (sD f) := fun b e S r S' hb he => by
  obtain ⟨q, h1, h2⟩ := bind_ok he
  have k := h b e S q.1 q.2 hb h1
  have e2 : (settle q.1 q.2) = (r, S') := by injection h2
  rw [show S' = (settle q.1 q.2).2 from by rw [e2]]
  exact k.trans (Kp.settle _ (Nat.le_trans hb k.len))
theorem so_D (h : PE X ex (tE X.K f)) : PE X ex (tD X.K (sD f)) := PE.imp h fun σ H Q ⟨b, m, e, S, r, S', hb, R, RE, he, q⟩ => by
  obtain ⟨p, h1, h2⟩ := bind_ok he
  refine ⟨b, m, e, S, p.1, p.2, hb, R, RE, h1, fun v H' m' z R' rv => ?_⟩
  obtain ⟨m2, z2, _, R2, r2⟩ := settled z R' rv
  have e2 : (settle p.1 p.2) = (r, S') := by injection h2
  rw [e2] at R2 r2
  exact q v H' m2 z2 R2 r2
/-- a value used as data -/
theorem so_d {f : DV} {g : DD} (h : PE X ex (tD X.K g)) : PE X ex (tE X.K fun b e S => g b e S >>= fun r => .ok (.d r.1, r.2)) := PE.imp h fun σ H Q ⟨b, m, e, S, r, S', hb, R, RE, he, q⟩ => by
  obtain ⟨p, h1, h2⟩ := bind_ok he
  cases h2
  exact ⟨b, m, e, S, p.1, p.2, hb, R, RE, h1, fun v H' m' z R' rv => q v H' m' z R' rv⟩

theorem so_var {i : Nat} {x : Str} (hN : X.N[i]? = some x) (hv : L2.Vis X.env.scope x) (hd : (x == ("__debug__" : Str)) = false) (hcd : (x == ("__classdict__" : Str)) = false) : PE X (.Name x pos) (tE X.K (sVar i)) :=
  PE.imp (L2.pe_var hN hv hd hcd) fun σ H Q ⟨b, m, e, S, r, S', hb, R, RE, he, q⟩ => by
    unfold sVar at he
    split at he
    · rename_i x hx
      cases he
      obtain ⟨v, hv, rv⟩ := RE.2 i x hx
      exact ⟨v, hv, q v H m (Le.refl H m) R rv⟩
    · cases he
theorem so_const {v : V} {c : D} (h : PE X ex (L2.tC v)) (r : ∀ H m, RD X.K H m c v) : PE X ex (tE X.K (sCn c)) := PE.imp h fun σ H Q ⟨b, m, e, S, r', S', hb, R, RE, he, q⟩ => by
  cases he
  exact q v H m (Le.refl H m) R (r H m)

/-- two values in turn -/
theorem two_of {K : PySem.W.Frag} {f g : DV} {b : Nat} {e : Env} {S S1 S2 : Sto} {r1 r2 : Vl} {H : Hp} {m : List Addr} {σ : L2.St} {P : V → V → Hp → Prop} (kf : KV f) (hb : b ≤ S.length) (R : Rl K m H S) (RE : RE K H m e σ) (h1 : f b e S = .ok (r1, S1)) (h2 : g b e S1 = .ok (r2, S2))
    (q : ∀ x y H' m', Le H m H' m' → Rl K m' H' S2 → RV K H H' m' r1 x → RV K H H' m' r2 y → P x y H') : tE K f σ H fun x H1 => tE K g σ H1 fun y H2 => P x y H2 :=
  ⟨b, m, e, S, r1, S1, hb, R, RE, h1, fun x H1 m1 z1 R1 rx => ⟨b, m1, e, S1, r2, S2, Nat.le_trans hb (kf b e S r1 S1 hb h1).len, R1, RE.mono z1, h2, fun y H2 m2 z2 R2 ry => q x y H2 m2 (z1.trans z2) R2 (rx.mono z2) (RV.from z1 z2 ry)⟩⟩

/-- what an operator asks -/
def rB (K : PySem.W.Frag) (o : Bo) : L2.R2 := fun x y H Q => ∃ (H0 : Hp) (m : List Addr) (S : Sto) (vx vy v : Vl), Rl K m H S ∧ RV K H0 H m vx x ∧ RV K H0 H m vy y ∧ binV o vx vy S = some v ∧
  ∀ z H' m', Le H m H' m' → Rl K m' H' S → RV K H H' m' v z → Q z H'
def opOf : Bo → Operator
  | .add => .Add | .sub => .Sub | .mul => .Mult | .fdiv => .FloorDiv | .mod => .Mod | .pow => .Pow | .shl => .LShift | .shr => .RShift | .band => .BitAnd | .bor => .BitOr
theorem items_sq {K : PySem.W.Frag} {m : List Addr} {H H0 : Hp} {S : Sto} {x : Vl} {v : V} {xs : List D} (R : Rl K m H S) (r : RV K H0 H m x v) (h : items x S = some xs) :
    ∃ p vs, v = .ref p ∧ RDs K H m xs vs ∧ ((H p = some (.tup vs) ∧ x = .d (.tup xs)) ∨ (SqL K H p vs ∧ (tupO x = none))) := by
  cases x with
  | fr ys =>
    cases h
    obtain ⟨p, vs, rfl, hp, _, _, r⟩ := (r : ∃ p vs, v = .ref p ∧ H p = some (.lst vs) ∧ p ∉ m ∧ H0 p = none ∧ RDs K H m xs vs)
    exact ⟨p, vs, rfl, r, .inr ⟨SqL.of hp, rfl⟩⟩
  | d x =>
    cases x with
    | tup ys =>
      cases h
      obtain ⟨p, vs, rfl, hp, r⟩ := (r : ∃ a vs, v = .ref a ∧ H a = some (.tup vs) ∧ RDs K H m xs vs)
      exact ⟨p, vs, rfl, r, .inl ⟨hp, rfl⟩⟩
    | scr ns =>
      cases h
      obtain ⟨p, rfl, hp⟩ := (r : ∃ a, v = .ref a ∧ Scr K H a (ns.map V.int))
      refine ⟨p, _, rfl, ?_, .inr ⟨hp.sq, rfl⟩⟩
      exact RDs.of_get (by simp) fun i x v e1 e2 => by
        rw [List.getElem?_map] at e1 e2
        cases q : ns[i]? with
        | none => rw [q] at e1; cases e1
        | some n => rw [q] at e1 e2; cases e1; cases e2; rfl
    | loc l =>
      obtain ⟨p, hp, rfl⟩ := (r : ∃ a, m[l]? = some a ∧ v = .ref a)
      have h' : (match S[l]? with | some (.lst xs) => some xs | _ => none) = some xs := h
      split at h'
      · rename_i ys hy
        cases h'
        obtain ⟨vs, h1, h2⟩ := R.lst hp hy
        exact ⟨p, vs, rfl, h2, .inr ⟨SqL.of h1, rfl⟩⟩
      · cases h'
    | _ => cases h
theorem RV.laid {K : PySem.W.Frag} {m : List Addr} {H : Hp} {S : Sto} {Q : VK} {xs : List D} {vs : List V} (R : Rl K m H S) (r : RDs K H m xs vs) (q : ∀ z H' m', Le H m H' m' → Rl K m' H' S → RV K H H' m' (.d (.tup xs)) z → Q z H') :
    ∀ p, H p = none → Q (.ref p) (upd H p (.tup vs)) := fun p hp => by
  obtain ⟨z, R'⟩ := R.laid (o := .tup vs) hp
  exact q _ _ m z R' ⟨p, vs, rfl, upd_same, r.mono z⟩
theorem RV.laidL {K : PySem.W.Frag} {m : List Addr} {H : Hp} {S : Sto} {Q : VK} {xs : List D} {vs : List V} (R : Rl K m H S) (r : RDs K H m xs vs) (q : ∀ z H' m', Le H m H' m' → Rl K m' H' S → RV K H H' m' (.fr xs) z → Q z H') :
    ∀ p, H p = none → Q (.ref p) (upd H p (.lst vs)) := fun p hp => by
  obtain ⟨z, R'⟩ := R.laid (o := .lst vs) hp
  exact q _ _ m z R' ⟨p, vs, rfl, upd_same, R.new hp, hp, r.mono z⟩
end
end Pv
set_option linter.all false
set_option autoImplicit false
set_option maxRecDepth 100000
set_option maxHeartbeats 4000000
/-! a tuple, once over: the very tuple -/
namespace Pv
open PySem PySem.Spec PyProof.Rows L2
theorem tup_onceW (l : Addr) (items : Array Value) (n : Nat) (dd : Option Addr) (sl : Array (Option Value)) (u : Tok) :
    Meets (Builtin.«tuple.__mul__» ⟨[.ref l, .int 1 u], []⟩) (fun _ R s => s.heap.get? l = some { cls := .type "tuple", dict := dd, data := .seq items n, slots := sl } ∧
      R (.ok (.ret (.ref l))) s) :=
  .of_wp fun prog w A R s h => by
    obtain ⟨hp, g, d, tk, os⟩ := s
    obtain ⟨hl, h⟩ := h
    have f1 := AutoSeq1.idx_int
    have c0 : (decide ((1 : Int) < -(2 ^ 63)) || decide ((1 : Int) ≥ 2 ^ 63)) = false := by decide
    have c1 : (items.isEmpty || (1 : Int) == 1) = true := by simp
    wp_walk using wpAny_loadPart' hl
    repeat (first
      | (refine wpAny_ite_false (decide_eq_false (by rw [c0]; exact Bool.false_ne_true)) ?_; wp_walk using wpAny_loadPart' hl)
      | (refine wpAny_ite_true (decide_eq_true c1) ?_; wp_walk using wpAny_loadPart' hl))
    exact ⟨_, rfl, h⟩
def rOnce (K : PySem.W.Frag) : R2 := fun x y H Q => ∃ l xs, x = .ref l ∧ y = .int 1 ∧ SqT K H l xs ∧ Q (.ref l) H
theorem op_once {X : Cx} : OpR X (binaryOp .Mult) (rOnce X.K) := by
  intro pins s σ H x y v u Q I rx ry h
  obtain ⟨l, xs, rfl, rfl, hT, q⟩ := h
  cases rx
  obtain ⟨t, rfl⟩ := ry
  obtain ⟨its, r, ⟨⟨cls, dd, data, sl⟩, ho, hc, n, hd⟩, hs⟩ := I.tuple hT
  simp only at hc hd
  subst hc hd
  exact wpAny_binaryOp_repeat_ref (T := "tuple") (U := "int") (by decide) ⟨_, ho, rfl⟩ (fun s' => typeIs_int s' 1 t) noFill_tuple_mul F.fills_int_mul F.slot_int_rmul repeat_tuple F.slot_int_index.lookup
    (call_meets F.slot_int_rmul (typeIs_int s 1 t) F.entry_int_rmul (F.args_int_rmul_2 _ _) (int_rmul_tuple 1 t l its.toArray n dd sl)
      ⟨ho, rfl, ⟨_, ho, rfl⟩, call_meets F.slot_tuple_mul ⟨_, ho, rfl⟩ F.entry_tuple_mul (F.args_tuple_mul_2 _ _) (tup_onceW l its.toArray n dd sl t) ⟨ho, ⟨.ref l, H, I, rfl, q⟩⟩⟩)
end Pv
set_option linter.all false
set_option autoImplicit false
set_option maxRecDepth 100000
set_option maxHeartbeats 4000000
/-! zip of a tuple and a list -/
namespace Pv
open PySem PySem.Spec PyProof.Rows L2
/-- the tuple at a, the list at b: pairs -/
def ItM (K : PySem.W.Frag) (a b : Addr) : L2.It where
  go := fun i H => ∃ (us vs : List V) (u v : V), SqT K H a us ∧ SqL K H b vs ∧ us[i]? = some u ∧ vs[i]? = some v
  yld := fun i H r H' => ∃ p u v, r = .ref p ∧ H p = none ∧ H' = upd H p (.tup [u, v]) ∧ (∀ us, SqT K H a us → us[i]? = some u) ∧ ∀ vs, SqL K H b vs → vs[i]? = some v
  stop := fun i H => ∃ us vs : List V, SqT K H a us ∧ SqL K H b vs ∧ i ≤ us.length ∧ i ≤ vs.length ∧ (i = us.length ∨ i = vs.length)
theorem sepM {z t o x y a b : Addr} (D : ZipApart z t o x y a b) : ZipSep2 z t o x y [x, a] [y, b] where
  TIz := D.TIz
  TOz := D.TOz
  TITO := D.TITO
  TIi1 := D.TIi1
  mem1 := by simp
  zf1 := by simp; exact ⟨fun e => D.i1z e.symm, fun e => D.l1z e.symm⟩
  Tf1 := by simp; exact ⟨D.TOi1, fun e => D.l1TO e.symm⟩
  TIi2 := D.TIi2
  mem2 := by simp
  zf2 := by simp; exact ⟨fun e => D.i2z e.symm, fun e => D.l2z e.symm⟩
  Tf2 := by simp; exact ⟨D.TOi2, fun e => D.l2TO e.symm⟩
  sep1_2 := by simp; exact ⟨D.i12, fun e => D.l2i1 e.symm⟩
  sep2_1 := by simp; exact ⟨fun e => D.i12 e.symm, fun e => D.l1i2 e.symm⟩
theorem five {α : Type} [DecidableEq α] {p : α → Prop} {a b c d e : α} (h1 : p a) (h2 : p b) (h3 : p c) (h4 : p d) (h5 : p e) : ∀ x ∈ [a, b, c, d, e], p x := by
  intro x hx
  simp only [List.mem_cons, List.mem_nil_iff, or_false] at hx
  rcases hx with rfl | rfl | rfl | rfl | rfl
  · exact h1
  · exact h2
  · exact h3
  · exact h4
  · exact h5
theorem turnM {P : Program} {w : World} {K : PySem.W.Frag} {elts : List Expr} {kk : Nat} {tpos : Pos} {a b z t o x y : Addr} (D : ZipApart z t o x y a b) :
    Turn P w K (.Tuple elts kk tpos) (ItM K a b) [z, t, o, x, y] z (fun i h => IsZip h z t o .none ∧ IsTupOf2 h t (.ref x) (.ref y) ∧ (∃ p q, IsTupOf2 h o p q) ∧ h.IsTupleIter x a i ∧ h.IsListIter y b i) where
  mem := by simp
  obj := fun i h ⟨e1, e2, ⟨p, q, e3⟩, ⟨o4, e4, _, d4⟩, ⟨o5, e5, _, d5⟩⟩ =>
    five ⟨_, e1, fun _ k => nomatch k⟩ ⟨_, e2, fun _ k => nomatch k⟩ ⟨_, e3, fun _ k => nomatch k⟩ ⟨o4, e4, fun _ k => by rw [d4] at k; cases k⟩ ⟨o5, e5, fun _ k => by rw [d5] at k; cases k⟩
  keep := fun i h h' ⟨e1, e2, ⟨p, q, e3⟩, e4, e5⟩ k =>
    ⟨k z (by simp) _ e1, k t (by simp) _ e2, ⟨p, q, k o (by simp) _ e3⟩, e4.at fun ob g => k x (by simp) ob g, e5.at fun ob g => k y (by simp) ob g⟩
  item := by
    intro X hP hw hK hc i pins s σ H E I hf ⟨e1, e2, ⟨p, q, e3⟩, e4, e5⟩ ⟨us, vs, u, v, hu, hv, gu, gv⟩
    subst hP hw hK
    obtain ⟨its, r1, t1, _⟩ := I.tuple hu
    obtain ⟨jts, r2, t2, _⟩ := I.list hv
    obtain ⟨u', hu', ru⟩ := r1.get gu
    obtain ⟨v', hv', rv⟩ := r2.get gv
    have li : i < its.toArray.size := by simpa using (List.getElem?_eq_some_iff.mp hu').1
    have lj : i < jts.toArray.size := by simpa using (List.getElem?_eq_some_iff.mp hv').1
    have hz := Heap.lt_size e1
    have hh : X.A.in1.handled = none := I.ok.hd hc
    refine wpAny_pyNext_zipD2_item (sepM D) (Draws.tuple hh x a D.l1i1 its.toArray) (Draws.list hh y b D.l2i2 jts.toArray) e1 e2 e3 ⟨e4, t1⟩ ⟨e5, t2.isList⟩ li lj fun m1 m2 h' tk p1 p2 z' o' s1 s2 nT _ kk => ?_
    have q1 : m1 = u' := by
      have p1 : its.toArray[i]? = some m1 := p1
      rw [List.getElem?_toArray, hu'] at p1
      exact (Option.some.inj p1).symm
    have q2 : m2 = v' := by
      have p2 : jts.toArray[i]? = some m2 := p2
      rw [List.getElem?_toArray, hv'] at p2
      exact (Option.some.inj p2).symm
    subst q1 q2
    refine ⟨_, rfl, wpAny_letOwnedTupleGo_zip (s := { s with heap := h', toks := tk }) z' fun h2 z2 sb => ?_⟩
    have nT2 : IsTupOf2 h2 s.heap.objs.size m1 m2 := (sb.2 _ (Nat.ne_of_gt hz)).trans nT
    have lt : ∀ {c : Addr} {ob : Obj}, s.heap.get? c = some ob → c ≠ s.heap.objs.size := fun g => Nat.ne_of_lt (Heap.lt_size g)
    have new : ObjOk X.prog X.w (upd H s.heap.objs.size (.tup [u, v])) h2 s.heap.objs.size (.tup [u, v]) := ⟨(by show 2 ≤ sizeLine; decide), [m1, m2], .cons ru (.cons rv .nil), _, nT2, rfl, _, rfl⟩
    have keep : ∀ c ob, c ∉ [z, t, o, x, y] → s.heap.get? c = some ob → h2.get? c = some ob := fun c ob hc g => by
      simp only [List.mem_cons, List.mem_nil_iff, or_false, not_or] at hc
      exact (sb.2 c hc.1).trans (kk c ob hc.1 hc.2.2.1 hc.2.2.2.1 hc.2.2.2.2 g)
    have I1 : Inv X pins σ (upd H s.heap.objs.size (.tup [u, v])) { s with heap := h2, toks := tk } := I.turnedNew (t' := tk) (ch := [z, t, o, x, y]) keep hf (Nat.le_refl _) new
    refine ⟨.ref s.heap.objs.size, _, I1, rfl, ⟨_, u, v, rfl, I.hok.fresh (Nat.le_refl _), rfl, fun l hl => by rw [I.tuple_inj hl hu]; exact gu, fun l hl => by rw [I.list_inj hl hv]; exact gv⟩, ⟨z2, ?_, ⟨m1, m2, ?_⟩, ?_, ?_⟩, ?_⟩
    · exact (sb.2 _ D.TIz).trans (kk _ _ D.TIz D.TITO D.TIi1 D.TIi2 e2)
    · exact (sb.2 _ D.TOz).trans o'
    · exact s1.1.at fun ob g => (sb.2 _ D.i1z).trans g
    · exact s2.1.at fun ob g => (sb.2 _ D.i2z).trans g
    · intro c hcm
      have hl : c ≠ s.heap.objs.size := by
        exact five (p := fun c => c ≠ s.heap.objs.size) (lt e1) (lt e2) (lt e3) (by obtain ⟨_, g, _⟩ := e4; exact lt g) (by obtain ⟨_, g, _⟩ := e5; exact lt g) c hcm
      rw [upd_ne hl]
      exact (hf c hcm).1
  done := by
    intro X hP hw hK hc i pins s σ H E I hf ⟨e1, e2, ⟨p, q, e3⟩, e4, e5⟩ ⟨us, vs, hu, hv, l1, l2, hend⟩
    subst hP hw hK
    obtain ⟨its, r1, t1, _⟩ := I.tuple hu
    obtain ⟨jts, r2, t2, _⟩ := I.list hv
    have k1 := r1.length
    have k2 := r2.length
    have hh : X.A.in1.handled = none := I.ok.hd hc
    refine wpAny_pyNext_zipD2_end (sepM D) (Draws.tuple hh x a D.l1i1 its.toArray) (Draws.list hh y b D.l2i2 jts.toArray) e1 e2 e3 ⟨e4, t1⟩ ⟨e5, t2.isList⟩ (by simp; omega) (by simp; omega) (by simp; omega) fun h' tk kk => ⟨rfl, ?_⟩
    refine I.turnedL (t' := tk) (ch := [z, t, o, x, y]) (fun c ob hc g => ?_) hf
    simp only [List.mem_cons, List.mem_nil_iff, or_false, not_or] at hc
    exact kk c ob hc.1 hc.2.2.1 hc.2.2.2.1 hc.2.2.2.2 g
  self := fun A i s Q E e k => wpAny_pyIter_zip e.1 k
theorem begin_zipM {X : Cx} {pins : List (Addr × Obj)} {σ : L2.St} {H1 : Hp} {s1 : Shared} {R : L2.It → Hp → Prop} {elts : List Expr} {kk : Nat} {tpos : Pos} (I1 : Inv X pins σ H1 s1) {a b : Addr} {us ws : List V} (hu : SqT X.K H1 a us) (hv : SqL X.K H1 b ws) (q : R (ItM X.K a b) H1) :
    wpAny (model X.prog X.w) X.A (call (.type "zip") [.ref a, .ref b]) (fun v s2 => wpAny (model X.prog X.w) X.A (pyIter v) (L2.PIE X pins σ (.Tuple elts kk tpos) R) X.xe s2) X.xe s1 := by
  obtain ⟨its, r1, t1, _⟩ := I1.tuple hu
  obtain ⟨jts, r2, t2, _⟩ := I1.list hv
  have new : ∀ c, s1.heap.objs.size ≤ c → FpOk X pins H1 c := fun c hc => I1.fpOk hc (I1.hok.fresh hc)
  obtain ⟨oa, ga, _⟩ := id t1
  refine zip_begins2 (begins_tuple a its.toArray) (begins_list b jts.toArray) t1 t2.isList fun h' z1 z2 z3 z4 z5 _ kk2 => wpAny_pyIter_zip z1 ?_
  refine ⟨s1.heap.objs.size + 4, [s1.heap.objs.size + 4, s1.heap.objs.size + 2, s1.heap.objs.size + 3, s1.heap.objs.size, s1.heap.objs.size + 1], _, _, H1, rfl, I1.kept (t' := s1.toks) kk2, turnM (PySem.W.ktu_apart s1.heap.objs.size a b (Heap.lt_size ga) t2.lt), ⟨z1, z2, ⟨_, _, z3⟩, ⟨_, z4, rfl, rfl⟩, ⟨_, z5, rfl, rfl⟩⟩, five ?_ ?_ ?_ ?_ ?_, q⟩
  · exact new _ (Nat.le_add_right _ _)
  · exact new _ (Nat.le_add_right _ _)
  · exact new _ (Nat.le_add_right _ _)
  · exact new _ (Nat.le_refl _)
  · exact new _ (Nat.le_add_right _ _)
theorem begin_zipL {X : Cx} {pins : List (Addr × Obj)} {σ : L2.St} {H1 : Hp} {s1 : Shared} {R : L2.It → Hp → Prop} {elts : List Expr} {kk : Nat} {tpos : Pos} (I1 : Inv X pins σ H1 s1) {a b : Addr} {us ws : List V} (hu : SqL X.K H1 a us) (hv : SqL X.K H1 b ws) (q : R (L2.Itz X.K a b) H1) :
    wpAny (model X.prog X.w) X.A (call (.type "zip") [.ref a, .ref b]) (fun v s2 => wpAny (model X.prog X.w) X.A (pyIter v) (L2.PIE X pins σ (.Tuple elts kk tpos) R) X.xe s2) X.xe s1 := by
  obtain ⟨its, r1, t1, _⟩ := I1.list hu
  obtain ⟨jts, r2, t2, _⟩ := I1.list hv
  have new : ∀ c, s1.heap.objs.size ≤ c → FpOk X pins H1 c := fun c hc => I1.fpOk hc (I1.hok.fresh hc)
  refine zip_begins2 (begins_list a its.toArray) (begins_list b jts.toArray) t1.isList t2.isList fun h' z1 z2 z3 z4 z5 _ kk2 => wpAny_pyIter_zip z1 ?_
  refine ⟨s1.heap.objs.size + 4, [s1.heap.objs.size + 4, s1.heap.objs.size + 2, s1.heap.objs.size + 3, s1.heap.objs.size, s1.heap.objs.size + 1], _, _, H1, rfl, I1.kept (t' := s1.toks) kk2, turn_zip (PySem.W.ktu_apart s1.heap.objs.size a b t1.lt t2.lt), ⟨z1, z2, ⟨_, _, z3⟩, ⟨_, z4, rfl, rfl⟩, ⟨_, z5, rfl, rfl⟩⟩, five ?_ ?_ ?_ ?_ ?_, q⟩
  · exact new _ (Nat.le_add_right _ _)
  · exact new _ (Nat.le_add_right _ _)
  · exact new _ (Nat.le_add_right _ _)
  · exact new _ (Nat.le_refl _)
  · exact new _ (Nat.le_add_right _ _)
theorem begin_zipT {X : Cx} {pins : List (Addr × Obj)} {σ : L2.St} {H1 : Hp} {s1 : Shared} {R : L2.It → Hp → Prop} {elts : List Expr} {kk : Nat} {tpos : Pos} (I1 : Inv X pins σ H1 s1) {a b : Addr} {us ws : List V} (hu : SqT X.K H1 a us) (hv : SqT X.K H1 b ws) (q : R (RZ.ItzT X.K a b) H1) :
    wpAny (model X.prog X.w) X.A (call (.type "zip") [.ref a, .ref b]) (fun v s2 => wpAny (model X.prog X.w) X.A (pyIter v) (L2.PIE X pins σ (.Tuple elts kk tpos) R) X.xe s2) X.xe s1 := by
  obtain ⟨its, r1, t1, _⟩ := I1.tuple hu
  obtain ⟨jts, r2, t2, _⟩ := I1.tuple hv
  have new : ∀ c, s1.heap.objs.size ≤ c → FpOk X pins H1 c := fun c hc => I1.fpOk hc (I1.hok.fresh hc)
  obtain ⟨oa, ga, _⟩ := id t1
  obtain ⟨ob, gb, _⟩ := id t2
  refine zip_begins2 (begins_tuple a its.toArray) (begins_tuple b jts.toArray) t1 t2 fun h' z1 z2 z3 z4 z5 _ kk2 => wpAny_pyIter_zip z1 ?_
  refine ⟨s1.heap.objs.size + 4, [s1.heap.objs.size + 4, s1.heap.objs.size + 2, s1.heap.objs.size + 3, s1.heap.objs.size, s1.heap.objs.size + 1], _, _, H1, rfl, I1.kept (t' := s1.toks) kk2, RZ.turn_zipT (PySem.W.ktu_apart s1.heap.objs.size a b (Heap.lt_size ga) (Heap.lt_size gb)), ⟨z1, z2, ⟨_, _, z3⟩, ⟨_, z4, rfl, rfl⟩, ⟨_, z5, rfl, rfl⟩⟩, five ?_ ?_ ?_ ?_ ?_, q⟩
  · exact new _ (Nat.le_add_right _ _)
  · exact new _ (Nat.le_add_right _ _)
  · exact new _ (Nat.le_add_right _ _)
  · exact new _ (Nat.le_refl _)
  · exact new _ (Nat.le_add_right _ _)
/-- zip of two lists, of two tuples, of a tuple and a list -/
def iZipX (K : PySem.W.Frag) (ta : TA) : TI := fun σ H R => ta σ H fun vs H1 => ∃ a b us ws, vs = [.ref a, .ref b] ∧ ((SqL K H1 a us ∧ SqL K H1 b ws ∧ R (L2.Itz K a b) H1) ∨ (SqT K H1 a us ∧ SqT K H1 b ws ∧ R (RZ.ItzT K a b) H1) ∨ (SqT K H1 a us ∧ SqL K H1 b ws ∧ R (ItM K a b) H1))
theorem pi_zipX {X : Cx} {e e2 : Expr} {ta : TA} {p pos tpos : Pos} {elts : List Expr} {kk : Nat} (hg : Gl X "zip") (hm : X.mg "zip" = none) (ha : PA X [e, e2] ta)
    (hs : starEach [e, e2] X.env = (false, eval e X.env) :: starEach [e2] X.env) (hpl : (backTo pos (starEach [e2] X.env)).any (·.1) = false) :
    PI X (.Tuple elts kk tpos) (.Call (.Name "zip" p) [e, e2] [] pos) (iZipX X.K ta) :=
  ⟨fun pins s σ H R I h => Call_ (ld_blt I hg hm PyProof.Rows.boot_zip (PyProof.Rows.callWith_type1 (thn (ha.run pos pins s σ H _ I h) fun vals s1 ⟨vs, H1, I1, r1, a, b, us, ws, ex, q⟩ => by
    subst ex
    cases r1 with
    | cons ra rr => cases rr with
      | cons rb rr =>
        cases rr
        cases ra
        cases rb
        rcases q with ⟨hu, hv, q⟩ | ⟨hu, hv, q⟩ | ⟨hu, hv, q⟩
        · exact begin_zipL I1 hu hv q
        · exact begin_zipT I1 hu hv q
        · exact begin_zipM I1 hu hv q) hs hpl))⟩
end Pv
set_option linter.all false
set_option autoImplicit false
set_option maxRecDepth 100000
/-! What the evaluator tells, the machine does: operators. -/
namespace Pv
open PySem PySem.Spec PyProof.Rows
open L2 (V Hp HO upd upd_same upd_ne VK XK TE TT TA TS TG TGs TI It Cx PE PT PW PA PS PSs PG PGs PI Inv RelV SqL SqT OpR)
section
variable {X : Cx} {a b c ex : Expr} {f g : DV} {pos : Pos}

theorem lstV_at {K : PySem.W.Frag} {m : List Addr} {H H0 : Hp} {S : Sto} {x : Vl} {v : V} {xs : List D} (R : Rl K m H S) (r : RV K H0 H m x v) (h : lstV x S = some xs) :
    ∃ p vs, v = .ref p ∧ H p = some (.lst vs) ∧ RDs K H m xs vs := by
  cases x with
  | fr ys =>
    cases h
    obtain ⟨p, vs, rfl, hp, _, _, r⟩ := (r : ∃ p vs, v = .ref p ∧ H p = some (.lst vs) ∧ p ∉ m ∧ H0 p = none ∧ RDs K H m xs vs)
    exact ⟨p, vs, rfl, hp, r⟩
  | d x =>
    cases x with
    | loc l =>
      obtain ⟨p, hp, rfl⟩ := (r : ∃ a, m[l]? = some a ∧ v = .ref a)
      have h' : (match S[l]? with | some (.lst xs) => some xs | _ => none) = some xs := h
      split at h'
      · rename_i ys hy
        cases h'
        obtain ⟨vs, h1, h2⟩ := R.lst hp hy
        exact ⟨p, vs, rfl, h1, h2⟩
      · cases h'
    | _ => cases h
theorem RDs.rep {K : PySem.W.Frag} {m : List Addr} {H : Hp} {xs : List D} {vs : List V} (r : RDs K H m xs vs) : ∀ n : Nat, RDs K H m (List.replicate n xs).flatten (List.replicate n vs).flatten
  | 0 => rfl
  | n + 1 => by rw [List.replicate_succ, List.replicate_succ, List.flatten_cons, List.flatten_cons]; exact r.append (RDs.rep r n)
theorem tup_at {K : PySem.W.Frag} {m : List Addr} {H H0 : Hp} {x : Vl} {v : V} {xs : List D} (r : RV K H0 H m x v) (h : tupO x = some xs) : ∃ p vs, v = .ref p ∧ H p = some (.tup vs) ∧ RDs K H m xs vs := by
  rw [tupO_some h] at r; exact r
theorem line_eq : line = sizeLine := rfl

/-- ints under an operator -/
theorem opB_int {o : Bo} {i j k : Int} (h : binI o i j = some k) {pins : List (Addr × Obj)} {s : Shared} {σ : L2.St} {H : Hp} {v u : Value} {Q : VK} (I : Inv X pins σ H s) (rx : RelV (.int i) v) (ry : RelV (.int j) u) (q : Q (.int k) H) :
    wpAny (model X.prog X.w) X.A (binaryOp (opOf o) v u) (L2.EP X pins σ Q) X.xe s := by
  cases o with
  | add => cases h; exact L2.op_add pins s σ H _ _ v u Q I rx ry ⟨i, j, rfl, rfl, q⟩
  | sub => cases h; exact L2.op_sub pins s σ H _ _ v u Q I rx ry ⟨i, j, rfl, rfl, q⟩
  | mul =>
    by_cases e : i.natAbs < 18446744073709551616 ∨ j.natAbs < 18446744073709551616
    · rw [binI_mul e] at h; cases h
      exact L2.op_mul pins s σ H _ _ v u Q I rx ry ⟨i, j, rfl, rfl, e.imp (fun z => by constructor <;> omega) (fun z => by constructor <;> omega), q⟩
    · rw [show binI .mul i j = none from if_neg e] at h; cases h
  | fdiv =>
    by_cases e : 0 < j ∧ j < 1073741824
    · rw [binI_fdiv e] at h; cases h
      exact L2.op_fdiv pins s σ H _ _ v u Q I rx ry ⟨i, j, rfl, rfl, e, q⟩
    · rw [show binI .fdiv i j = none from if_neg e] at h; cases h
  | mod =>
    by_cases e : 0 < j
    · rw [binI_mod e] at h; cases h
      exact L2.op_mod pins s σ H _ _ v u Q I rx ry ⟨i, j, rfl, rfl, e, q⟩
    · rw [show binI .mod i j = none from if_neg e] at h; cases h
  | pow =>
    by_cases e : (0 ≤ j ∧ j ≤ 1000000) ∧ i.natAbs < 18446744073709551616
    · rw [show binI .pow i j = some (i ^ j.toNat) from if_pos e] at h; cases h
      exact L2.op_pow pins s σ H _ _ v u Q I rx ry ⟨i, j, rfl, rfl, ⟨e.1.1, e.1.2, e.2⟩, q⟩
    · rw [show binI .pow i j = none from if_neg e] at h; cases h
  | _ => cases h
theorem opB_ok (o : Bo) : OpR X (binaryOp (opOf o)) (rB X.K o) := by
  intro pins s σ H x y v u Q I rx ry ⟨H0, m, S, vx, vy, w, R, hx, hy, hb, q⟩
  unfold binV at hb
  split at hb
  · rename_i i j hi hj
    rw [numI_some hi] at hx
    rw [numI_some hj] at hy
    cases (show x = .int i from hx)
    cases (show y = .int j from hy)
    cases e : binI o i j with
    | none => rw [e] at hb; cases hb
    | some k =>
      rw [e] at hb; cases hb
      exact opB_int e I rx ry (q _ H m (Le.refl H m) R rfl)
  · rename_i n hi hj
    rw [numI_some hj] at hy
    cases (show y = .int n from hy)
    cases o with
    | mul =>
      simp only at hb
      split at hb
      · rename_i xs ht
        obtain ⟨p, vs, rfl, hp, r⟩ := tup_at hx ht
        split at hb
        · rename_i hc
          cases hb
          have hne : vs ≠ [] := fun z => by
            have := r.length
            rw [z] at this
            have h0 : xs = [] := List.eq_nil_of_length_eq_zero this
            rw [h0] at hc; simp at hc
          by_cases h1 : n = 1
          · subst h1
            refine op_once pins s σ H _ _ v u Q I rx ry ⟨p, vs, rfl, rfl, SqT.of hp, q _ H m (Le.refl H m) R ⟨p, vs, rfl, hp, ?_⟩⟩
            rw [show repl 1 xs = xs by simp [repl]]
            exact r
          · exact L2.op_repT pins s σ H _ _ v u Q I rx ry ⟨p, n, vs, rfl, rfl, SqT.of hp, hne, (by have := hc.2.1.1; omega), hc.2.1.2, by rw [← r.length]; exact hc.1, RV.laid R (r.rep _) q⟩
        · cases hb
      · cases e : lstV vx S with
        | none => rw [e] at hb; cases hb
        | some xs =>
          rw [e] at hb
          obtain ⟨p, vs, rfl, hp, r⟩ := lstV_at R hx e
          simp only [Option.bind_some] at hb
          split at hb
          · rename_i hc
            cases hb
            refine L2.op_rep pins s σ H _ _ v u Q I rx ry ⟨p, n, vs, rfl, rfl, hp, by omega, by omega, ?_, RV.laidL R (r.rep _) q⟩
            rw [← r.length]
            have h1 : n.toNat ≤ 1000 := by omega
            exact Nat.le_trans (Nat.mul_le_mul hc.1 h1) (by decide)
          · cases hb
    | _ => cases hb
  · cases o with
    | add =>
      simp only at hb
      split at hb
      · rename_i xs ys h1 h2
        obtain ⟨p, vs, rfl, hp, r⟩ := tup_at hx h1
        obtain ⟨p2, ws, rfl, hp2, r2⟩ := tup_at hy h2
        split at hb
        · rename_i hc
          cases hb
          refine L2.op_catA pins s σ H _ _ v u Q I rx ry ⟨p, p2, vs, ws, rfl, rfl, SqT.of hp, SqT.of hp2, by rw [← r.length, ← r2.length]; exact hc, fun e => ?_, fun _ e => ?_, fun _ _ => RV.laid R (r.append r2) q⟩
          · have e0 : xs = [] := List.eq_nil_of_length_eq_zero (by rw [r.length, e]; rfl)
            subst e0
            exact q _ H m (Le.refl H m) R ⟨p2, ws, rfl, hp2, r2⟩
          · have e0 : ys = [] := List.eq_nil_of_length_eq_zero (by rw [r2.length, e]; rfl)
            subst e0
            refine q _ H m (Le.refl H m) R ⟨p, vs, rfl, hp, ?_⟩
            rw [List.append_nil]; exact r
        · cases hb
      · cases e : lstV vx S with
        | none => rw [e] at hb; cases hb
        | some xs =>
          cases e2 : lstV vy S with
          | none => rw [e, e2] at hb; cases hb
          | some ys =>
            rw [e, e2] at hb
            obtain ⟨p, vs, rfl, hp, r⟩ := lstV_at R hx e
            obtain ⟨p2, ws, rfl, hp2, r2⟩ := lstV_at R hy e2
            simp only [Option.bind_some] at hb
            split at hb
            · rename_i hc
              cases hb
              exact L2.op_cat pins s σ H _ _ v u Q I rx ry ⟨p, p2, vs, ws, rfl, rfl, hp, hp2, by rw [← r.length, ← r2.length]; exact hc, RV.laidL R (r.append r2) q⟩
            · cases hb
      · cases hb
    | _ => cases hb
  · cases hb
theorem so_bin (o : Bo) (kf : KV f) (ha : PE X a (tE X.K f)) (hb : PE X b (tE X.K g)) : PE X (.BinOp a (opOf o) b pos) (tE X.K (sBin o f g)) :=
  PE.imp (L2.pe_op (opB_ok o) ha hb) fun σ H Q ⟨b, m, e, S, r, S', hb, R, RE, he, q⟩ => by
    obtain ⟨p1, h1, he⟩ := bind_ok he
    obtain ⟨p2, h2, he⟩ := bind_ok he
    obtain ⟨w, h3, he⟩ := bind_ok he
    cases he
    exact two_of kf hb R RE h1 h2 fun x y H' m' z R' rx ry => ⟨H, m', p2.2, p1.1, p2.1, _, R', rx, ry, ofO_ok h3, fun t H2 m2 z2 R2 rt => q t H2 m2 (z.trans z2) R2 (RV.from z z2 rt)⟩

/-! comparisons -/
def coOf : Co → CmpOp
  | .eq => .Eq | .ne => .NotEq | .lt => .Lt | .le => .LtE | .gt => .Gt | .ge => .GtE | .is => .Is | .isn => .IsNot | .inn => .In | .nin => .NotIn
def rC (K : PySem.W.Frag) (o : Co) : L2.R2 := fun x y H Q => ∃ (H0 : Hp) (m : List Addr) (S : Sto) (vx vy : Vl) (k : Bool), Rl K m H S ∧ RV K H0 H m vx x ∧ RV K H0 H m vy y ∧ cmpV o vx vy S = some k ∧ Q (.bl k) H
theorem flat_rel {K : PySem.W.Frag} {H : Hp} {m : List Addr} {x : D} {v : V} (h : flat x = true) (r : RD K H m x v) : L2.flatV v = true := by
  cases x with
  | non => cases (show v = .non from r); rfl
  | bl k => cases (show v = .bl k from r); rfl
  | int k => cases (show v = .int k from r); rfl
  | str k => cases (show v = .str k from r); rfl
  | _ => cases h
theorem eqF_rel {K : PySem.W.Frag} {H : Hp} {m : List Addr} {x y : D} {v u : V} (hx : flat x = true) (hy : flat y = true) (rx : RD K H m x v) (ry : RD K H m y u) : L2.eqV v u = eqF x y := by
  cases x with
  | non => cases (show v = .non from rx); cases y with
    | non => cases (show u = .non from ry); rfl
    | bl k => cases (show u = .bl k from ry); rfl
    | int k => cases (show u = .int k from ry); rfl
    | str k => cases (show u = .str k from ry); rfl
    | _ => cases hy
  | bl j => cases (show v = .bl j from rx); cases y with
    | non => cases (show u = .non from ry); rfl
    | bl k => cases (show u = .bl k from ry); rfl
    | int k => cases (show u = .int k from ry); rfl
    | str k => cases (show u = .str k from ry); rfl
    | _ => cases hy
  | int j => cases (show v = .int j from rx); cases y with
    | non => cases (show u = .non from ry); rfl
    | bl k => cases (show u = .bl k from ry); rfl
    | int k => cases (show u = .int k from ry); rfl
    | str k => cases (show u = .str k from ry); rfl
    | _ => cases hy
  | str j => cases (show v = .str j from rx); cases y with
    | non => cases (show u = .non from ry); rfl
    | bl k => cases (show u = .bl k from ry); rfl
    | int k => cases (show u = .int k from ry); rfl
    | str k => cases (show u = .str k from ry); rfl
    | _ => cases hy
  | _ => cases hx
theorem inF_rel {K : PySem.W.Frag} {H : Hp} {m : List Addr} {x : D} {v : V} (hx : flat x = true) (rx : RD K H m x v) : ∀ {xs : List D} {vs : List V}, xs.all flat = true → RDs K H m xs vs → vs.all L2.flatV = true ∧ L2.inV v vs = inF x xs
  | [], vs, _, r => by rw [show vs = [] from r]; exact ⟨rfl, rfl⟩
  | y :: xs, vs, h, r => by
    obtain ⟨u, ws, rfl, r1, r2⟩ := (r : ∃ v ws, vs = v :: ws ∧ RD K H m y v ∧ RDs K H m xs ws)
    have h' : flat y = true ∧ xs.all flat = true := by simpa using h
    obtain ⟨e1, e2⟩ := inF_rel hx rx h'.2 r2
    refine ⟨by simp [flat_rel h'.1 r1, e1], ?_⟩
    have e2' : (ws.any fun y => L2.eqV y v) = (xs.any fun y => eqF y x) := e2
    show ((u :: ws).any fun y => L2.eqV y v) = ((y :: xs).any fun y => eqF y x)
    simp only [List.any_cons]
    rw [e2', eqF_rel h'.1 hx r1 rx]
theorem scal_rel {K : PySem.W.Frag} {H : Hp} {m : List Addr} {x y : D} {v u : V} {k : Bool} (h : scalEq x y = some k) (rx : RD K H m x v) (ry : RD K H m y u) : L2.scal v u = true ∧ decide (v = u) = k := by
  cases x with
  | non => cases (show v = .non from rx); cases y with
    | non => cases (show u = .non from ry); cases h; exact ⟨rfl, by simp⟩
    | bl k => cases (show u = .bl k from ry); cases h; exact ⟨rfl, by simp⟩
    | int k => cases (show u = .int k from ry); cases h; exact ⟨rfl, by simp⟩
    | str k => cases (show u = .str k from ry); cases h; exact ⟨rfl, by simp⟩
    | _ => cases h
  | bl j => cases (show v = .bl j from rx); cases y with
    | non => cases (show u = .non from ry); cases h; exact ⟨rfl, by simp⟩
    | bl k => cases (show u = .bl k from ry); cases h; exact ⟨rfl, L2.dec_bl⟩
    | str k => cases (show u = .str k from ry); cases h; exact ⟨rfl, by simp⟩
    | _ => cases h
  | int j => cases (show v = .int j from rx); cases y with
    | non => cases (show u = .non from ry); cases h; exact ⟨rfl, by simp⟩
    | int k => cases (show u = .int k from ry); cases h; exact ⟨rfl, L2.dec_int⟩
    | str k => cases (show u = .str k from ry); cases h; exact ⟨rfl, by simp⟩
    | _ => cases h
  | str j => cases (show v = .str j from rx); cases y with
    | non => cases (show u = .non from ry); cases h; exact ⟨rfl, by simp⟩
    | bl k => cases (show u = .bl k from ry); cases h; exact ⟨rfl, by simp⟩
    | int k => cases (show u = .int k from ry); cases h; exact ⟨rfl, by simp⟩
    | str k => cases (show u = .str k from ry); cases h; exact ⟨rfl, by simp⟩
    | _ => cases h
  | _ => cases h
theorem ref_of {K : PySem.W.Frag} {H : Hp} {m : List Addr} {x : D} {v : V} (r : RD K H m x v) : v = .non ∧ x = .non ∨ (∃ b, v = .bl b ∧ x = .bl b) ∨ (∃ i, v = .int i ∧ x = .int i) ∨ (∃ z, v = .str z ∧ x = .str z) ∨ (∃ a, v = .ref a ∧ ((∃ xs, x = .tup xs) ∨ (∃ l, x = .loc l) ∨ ∃ ns, x = .scr ns)) := by
  cases x with
  | non => exact .inl ⟨r, rfl⟩
  | bl k => exact .inr (.inl ⟨k, r, rfl⟩)
  | int k => exact .inr (.inr (.inl ⟨k, r, rfl⟩))
  | str k => exact .inr (.inr (.inr (.inl ⟨k, r, rfl⟩)))
  | tup xs => obtain ⟨a, _, h, _⟩ := (r : ∃ a vs, v = .ref a ∧ H a = some (.tup vs) ∧ RDs K H m xs vs); exact .inr (.inr (.inr (.inr ⟨a, h, .inl ⟨xs, rfl⟩⟩)))
  | loc l => obtain ⟨a, _, h⟩ := (r : ∃ a, m[l]? = some a ∧ v = .ref a); exact .inr (.inr (.inr (.inr ⟨a, h, .inr (.inl ⟨l, rfl⟩)⟩)))
  | scr ns => obtain ⟨a, h, _⟩ := (r : ∃ a, v = .ref a ∧ Scr K H a (ns.map V.int)); exact .inr (.inr (.inr (.inr ⟨a, h, .inr (.inr ⟨ns, rfl⟩)⟩)))
theorem isD_ok {H : Hp} {m : List Addr} {x y : D} {vx vy : V} {k : Bool} (h : isD x y = some k) (hx : RD X.K H m x vx) (hy : RD X.K H m y vy) {pins : List (Addr × Obj)} {s : Shared} {σ : L2.St} {v u : Value} {Q : VK} (I : Inv X pins σ H s) (rx : RelV vx v) (ry : RelV vy u) :
    (Q (.bl k) H → wpAny (model X.prog X.w) X.A (compareOp .Is v u) (L2.EP X pins σ Q) X.xe s) ∧ (Q (.bl (!k)) H → wpAny (model X.prog X.w) X.A (compareOp .IsNot v u) (L2.EP X pins σ Q) X.xe s) := by
  have no : ∀ {v u : Value}, plainIs v u = true → v ≠ u → k = false → (Q (.bl k) H → wpAny (model X.prog X.w) X.A (compareOp .Is v u) (L2.EP X pins σ Q) X.xe s) ∧ (Q (.bl (!k)) H → wpAny (model X.prog X.w) X.A (compareOp .IsNot v u) (L2.EP X pins σ Q) X.xe s) := fun hp hn hk => by
    subst hk
    exact ⟨fun q => wpAny_is_other hp hn ⟨.bl false, H, I, rfl, q⟩, fun q => wpAny_isNot_other hp hn ⟨.bl true, H, I, rfl, q⟩⟩
  cases y with
  | non =>
    cases (show vy = .non from hy)
    have e : k = decide (vx = .non) := by
      rcases ref_of hx with ⟨rfl, rfl⟩ | ⟨b, rfl, rfl⟩ | ⟨i, rfl, rfl⟩ | ⟨z, rfl, rfl⟩ | ⟨a, rfl, ⟨xs, rfl⟩ | ⟨l, rfl⟩ | ⟨ns, rfl⟩⟩ <;> (cases h; simp)
    subst e
    exact ⟨fun q => L2.op_isN pins s σ H _ _ v u Q I rx ry ⟨rfl, q⟩, fun q => L2.op_notN pins s σ H _ _ v u Q I rx ry ⟨rfl, q⟩⟩
  | bl j =>
    cases (show vy = .bl j from hy)
    cases (show u = Value.bool j from ry)
    cases x with
    | non => cases (show vx = .non from hx); cases (show v = Value.none from rx); cases h; exact no rfl (fun z => by cases z) rfl
    | bl i =>
      cases (show vx = .bl i from hx); cases (show v = Value.bool i from rx)
      have e : k = (i == j) := by cases h; rfl
      subst e
      exact ⟨fun q => wpAny_is_plain rfl ⟨.bl (i == j), H, I, by show Value.bool _ = _; rw [show (Value.bool i == Value.bool j) = (i == j) from by cases i <;> cases j <;> rfl], q⟩,
        fun q => wpAny_isNot_plain rfl ⟨.bl (!(i == j)), H, I, by show Value.bool _ = _; rw [show (Value.bool i == Value.bool j) = (i == j) from by cases i <;> cases j <;> rfl], q⟩⟩
    | int i => cases (show vx = .int i from hx); obtain ⟨t, rfl⟩ := (rx : ∃ t, v = Value.int i t); cases h; exact no rfl (fun z => by cases z) rfl
    | str i => cases (show vx = .str i from hx); obtain ⟨t, rfl⟩ := (rx : ∃ t, v = Value.str i t); cases h; exact no rfl (fun z => by cases z) rfl
    | tup xs =>
      obtain ⟨p, _, rfl, _⟩ := (hx : ∃ a vs, vx = .ref a ∧ H a = some (.tup vs) ∧ RDs X.K H m xs vs)
      cases (show v = Value.ref p from rx); cases h; exact no rfl (fun z => by cases z) rfl
    | _ => cases h
  | _ => cases x <;> cases h
mutual
theorem pyD_dp {K : PySem.W.Frag} {m : List Addr} {H : Hp} {S : Sto} (R : Rl K m H S) : ∀ (n : Nat) (d : D) (v : V) (p : PyData), RD K H m d v → pyD n S d = some p → L2.Dp K H v p
  | 0, _, _, _, _, h => by cases h
  | n + 1, d, v, p, r, h => by
    unfold pyD at h
    cases d with
    | non => cases h; cases (show v = .non from r); exact .non
    | bl b => cases h; cases (show v = .bl b from r); exact .bl b
    | int i => cases h; cases (show v = .int i from r); exact .int i
    | str x => cases h; cases (show v = .str x from r); exact .str x
    | tup xs =>
      obtain ⟨a, vs, rfl, ha, rs⟩ := (r : ∃ a vs, v = .ref a ∧ H a = some (.tup vs) ∧ RDs K H m xs vs)
      obtain ⟨ps, hp, rfl⟩ := Option.map_eq_some_iff.mp h
      exact .tup (SqT.of ha) (pyL_dp R n xs vs ps rs hp)
    | scr ns =>
      obtain ⟨a, rfl, hs⟩ := (r : ∃ a, v = .ref a ∧ Scr K H a (ns.map V.int))
      cases h
      refine .lst hs.sq ?_
      clear hs
      induction ns with
      | nil => exact .nil
      | cons i is ih => exact .cons (.int i) ih
    | loc l =>
      obtain ⟨a, hm, rfl⟩ := (r : ∃ a, m[l]? = some a ∧ v = .ref a)
      dsimp only at h
      split at h
      · rename_i xs hl
        obtain ⟨vs, ha, rs⟩ := R.lst hm hl
        obtain ⟨ps, hp, rfl⟩ := Option.map_eq_some_iff.mp h
        exact .lst (SqL.of ha) (pyL_dp R n xs vs ps rs hp)
      · cases h
theorem pyL_dp {K : PySem.W.Frag} {m : List Addr} {H : Hp} {S : Sto} (R : Rl K m H S) : ∀ (n : Nat) (xs : List D) (vs : List V) (ps : List PyData), RDs K H m xs vs → mapO (pyD n S) xs = some ps → L2.DpAll K H vs ps
  | n, [], vs, ps, r, h => by cases (show vs = [] from r); cases h; exact .nil
  | n, x :: xs, vs, ps, r, h => by
    obtain ⟨v, ws, rfl, r1, r2⟩ := (r : ∃ v ws, vs = v :: ws ∧ RD K H m x v ∧ RDs K H m xs ws)
    unfold mapO at h
    obtain ⟨p, h1, h⟩ := Option.bind_eq_some_iff.mp h
    obtain ⟨qs, h2, rfl⟩ := Option.map_eq_some_iff.mp h
    exact .cons (pyD_dp R n x v p r1 h1) (pyL_dp R n xs ws qs r2 h2)
end
theorem pyV_dp {K : PySem.W.Frag} {m : List Addr} {H H0 : Hp} {S : Sto} {x : Vl} {v : V} {p : PyData} (R : Rl K m H S) (r : RV K H0 H m x v) (h : pyV x S = some p) : L2.Dp K H v p := by
  cases x with
  | d d => exact pyD_dp R _ d v p r h
  | fr xs =>
    obtain ⟨a, vs, rfl, ha, _, _, rs⟩ := (r : ∃ p vs, v = .ref p ∧ H p = some (.lst vs) ∧ p ∉ m ∧ H0 p = none ∧ RDs K H m xs vs)
    obtain ⟨ps, hp, rfl⟩ := Option.map_eq_some_iff.mp h
    exact .lst (SqL.of ha) (pyL_dp R _ xs vs ps rs hp)
theorem deepEq_dp {K : PySem.W.Frag} {m : List Addr} {H H0 : Hp} {S : Sto} {x y : Vl} {v u : V} {k : Bool} (R : Rl K m H S) (rx : RV K H0 H m x v) (ry : RV K H0 H m y u) (h : deepEq x y S = some k) :
    ∃ d e, L2.Dp K H v d ∧ L2.Dp K H u e ∧ SeqAt.shaped d = true ∧ SeqAt.shaped e = true ∧ PyData.eqv d e = k := by
  unfold deepEq at h
  obtain ⟨p, h1, h⟩ := Option.bind_eq_some_iff.mp h
  obtain ⟨q, h2, h⟩ := Option.bind_eq_some_iff.mp h
  split at h
  · rename_i hs
    cases h
    exact ⟨p, q, pyV_dp R rx h1, pyV_dp R ry h2, hs.1, hs.2, rfl⟩
  · cases h
theorem deepIn_dp {K : PySem.W.Frag} {m : List Addr} {H H0 : Hp} {S : Sto} {x : D} {y : Vl} {v u : V} {k : Bool} (R : Rl K m H S) (rx : RD K H m x v) (ry : RV K H0 H m y u) (h : deepIn x y S = some k) :
    ∃ d e ds, L2.Dp K H v d ∧ L2.Dp K H u e ∧ (e = .list ds ∨ e = .tuple ds) ∧ SeqAt.shaped d = true ∧ SeqAt.shaped e = true ∧ (ds.any fun z => PyData.eqv z d) = k := by
  unfold deepIn at h
  obtain ⟨p, h1, h⟩ := Option.bind_eq_some_iff.mp h
  obtain ⟨q, h2, h⟩ := Option.bind_eq_some_iff.mp h
  obtain ⟨qs, h3, h⟩ := Option.bind_eq_some_iff.mp h
  split at h
  · rename_i hs
    cases h
    refine ⟨p, q, qs, pyD_dp R _ x v p rx h1, pyV_dp R ry h2, ?_, hs.1, hs.2, rfl⟩
    cases q <;> cases h3 <;> first | exact .inl rfl | exact .inr rfl
  · cases h
theorem op_inX (hu : X.A.units + 65 < cLine) {pins : List (Addr × Obj)} {s : Shared} {σ : L2.St} {H : Hp} {x y : V} {v u : Value} {Q : VK} (I : Inv X pins σ H s) (rx : RelV x v) (ry : RelV y u) {d e : PyData} {ds : List PyData} (hd : L2.Dp X.K H x d) (he : L2.Dp X.K H y e)
    (hs : e = .list ds ∨ e = .tuple ds) (sd : SeqAt.shaped d = true) (se : SeqAt.shaped e = true) :
    (Q (.bl (ds.any fun z => PyData.eqv z d)) H → wpAny (model X.prog X.w) X.A (compareOp .In v u) (L2.EP X pins σ Q) X.xe s) ∧ (Q (.bl (!ds.any fun z => PyData.eqv z d)) H → wpAny (model X.prog X.w) X.A (compareOp .NotIn v u) (L2.EP X pins σ Q) X.xe s) := by
  obtain ⟨as, r1⟩ := L2.Dp.reads I d x v hd rx
  obtain ⟨bs, r2⟩ := L2.Dp.reads I e y u he ry
  rcases hs with rfl | rfl
  · exact ⟨fun q => SeqAt.in_list_reads r2 r1 (SeqAt.canLay_of_shaped se) (SeqAt.canLay_of_shaped sd) (room_in_shaped sd hu) ⟨.bl _, H, I, rfl, q⟩, fun q => SeqAt.notIn_list_reads r2 r1 (SeqAt.canLay_of_shaped se) (SeqAt.canLay_of_shaped sd) (room_in_shaped sd hu) ⟨.bl _, H, I, rfl, q⟩⟩
  · exact ⟨fun q => SeqAt.in_tuple_reads r2 r1 (SeqAt.canLay_of_shaped se) (SeqAt.canLay_of_shaped sd) (room_in_shaped sd hu) ⟨.bl _, H, I, rfl, q⟩, fun q => SeqAt.notIn_tuple_reads r2 r1 (SeqAt.canLay_of_shaped se) (SeqAt.canLay_of_shaped sd) (room_in_shaped sd hu) ⟨.bl _, H, I, rfl, q⟩⟩
theorem lexB_eq : ∀ ns ms : List Int, HT.lexLt ns ms = lexB ns ms
  | [], [] => rfl
  | [], _ :: _ => rfl
  | _ :: _, [] => rfl
  | x :: xs, y :: ys => by
    unfold HT.lexLt lexB
    rw [lexB_eq xs ys]
    rcases Int.lt_trichotomy x y with h | h | h
    · have h2 : x ≠ y := by omega
      simp [h, h2]
    · subst h; simp
    · have h1 : ¬ x < y := by omega
      have h2 : x ≠ y := by omega
      simp [h1, h2]
theorem intsOf_eq : ∀ {xs : List D} {ns : List Int}, intsOf xs = some ns → xs = ns.map .int
  | [], ns, h => by cases h; rfl
  | x :: xs, ns, h => by
    cases x with
    | int i =>
      obtain ⟨ms, h1, rfl⟩ := Option.map_eq_some_iff.mp (show (intsOf xs).map (fun r => i :: r) = some ns from h)
      rw [intsOf_eq h1]
      rfl
    | _ => cases h
theorem RDs.ints {K : PySem.W.Frag} {H : Hp} {m : List Addr} : ∀ {ns : List Int} {vs : List V}, RDs K H m (ns.map .int) vs → vs = ns.map V.int
  | [], _, h => h
  | n :: ns, vs, h => by
    obtain ⟨v, ws, rfl, r1, r2⟩ := (h : ∃ v ws, vs = v :: ws ∧ RD K H m (.int n) v ∧ RDs K H m (ns.map .int) ws)
    cases (show v = .int n from r1)
    rw [RDs.ints r2]
    rfl
theorem tupI_rel {K : PySem.W.Frag} {m : List Addr} {H H0 : Hp} {x : Vl} {v : V} {ns : List Int} (r : RV K H0 H m x v) (h : tupI x = some ns) : ∃ a, v = .ref a ∧ L2.SqT K H a (ns.map V.int) := by
  unfold tupI at h
  obtain ⟨xs, h1, h⟩ := Option.bind_eq_some_iff.mp h
  rw [tupO_some h1] at r
  obtain ⟨a, vs, rfl, ha, rs⟩ := (r : ∃ a vs, v = .ref a ∧ H a = some (.tup vs) ∧ RDs K H m xs vs)
  rw [intsOf_eq h] at rs
  rw [rs.ints] at ha
  exact ⟨a, rfl, SqT.of ha⟩
theorem opC_ok (hu : X.A.units + 65 < cLine) (o : Co) : OpR X (compareOp (coOf o)) (rC X.K o) := by
  intro pins s σ H x y v u Q I rx ry ⟨H0, m, S, vx, vy, k, R, hx, hy, hb, q⟩
  have intsE : ∀ {i j : Int}, numI vx = some i → numI vy = some j → x = .int i ∧ y = .int j := fun hi hj => by
    rw [numI_some hi] at hx
    rw [numI_some hj] at hy
    exact ⟨hx, hy⟩
  have dsE : ∀ {i j : D}, dO vx = some i → dO vy = some j → RD X.K H m i x ∧ RD X.K H m j y := fun hi hj => by
    rw [dO_some hi] at hx
    rw [dO_some hj] at hy
    exact ⟨hx, hy⟩
  have insE : ∀ {d : D} {k : Bool}, dO vx = some d → inV d vy S = some k → ∃ p xs, y = .ref p ∧ (SqL X.K H p xs ∨ SqT X.K H p xs) ∧ L2.flatV x = true ∧ xs.all L2.flatV = true ∧ L2.inV x xs = k := fun {d k} h1 h2 => by
    rw [dO_some h1] at hx
    unfold inV at h2
    cases e : items vy S with
    | none => rw [e] at h2; cases h2
    | some xs =>
      rw [e] at h2
      simp only [Option.bind_some] at h2
      split at h2
      · rename_i hc
        cases h2
        have hc' : flat d = true ∧ xs.all flat = true := by simpa using hc
        obtain ⟨p, vs, rfl, r, w⟩ := items_sq R hy e
        obtain ⟨e1, e2⟩ := inF_rel hc'.1 hx hc'.2 r
        refine ⟨p, vs, rfl, ?_, flat_rel hc'.1 hx, e1, e2⟩
        rcases w with ⟨w, _⟩ | ⟨w, _⟩
        · exact .inr (SqT.of w)
        · exact .inl w
      · cases h2
  cases o with
  | eq =>
    have hb : eqV vx vy S = some k := hb
    unfold eqV at hb
    cases e0 : (dO vx).bind fun x => (dO vy).bind fun y => scalEq x y with
    | some k' =>
      rw [e0] at hb
      cases hb
      obtain ⟨d1, e1, e0⟩ := Option.bind_eq_some_iff.mp e0
      obtain ⟨d2, e2, e0⟩ := Option.bind_eq_some_iff.mp e0
      obtain ⟨h1, h2⟩ := dsE e1 e2
      obtain ⟨h3, rfl⟩ := scal_rel e0 h1 h2
      exact L2.op_eq pins s σ H _ _ v u Q I rx ry ⟨h3, q⟩
    | none =>
      rw [e0] at hb
      obtain ⟨d, e, g1, g2, g3, g4, rfl⟩ := deepEq_dp R hx hy hb
      exact L2.op_eqD (by omega) pins s σ H _ _ v u Q I rx ry ⟨d, e, g1, g2, g3, g4, q⟩
  | ne =>
    have hb : (eqV vx vy S).map not = some k := hb
    obtain ⟨k0, hc, rfl⟩ := Option.map_eq_some_iff.mp hb
    clear hb
    unfold eqV at hc
    cases e0 : (dO vx).bind fun x => (dO vy).bind fun y => scalEq x y with
    | some k' =>
      rw [e0] at hc
      cases hc
      obtain ⟨d1, e1, e0⟩ := Option.bind_eq_some_iff.mp e0
      obtain ⟨d2, e2, e0⟩ := Option.bind_eq_some_iff.mp e0
      obtain ⟨h1, h2⟩ := dsE e1 e2
      obtain ⟨h3, rfl⟩ := scal_rel e0 h1 h2
      exact L2.op_ne pins s σ H _ _ v u Q I rx ry ⟨h3, q⟩
    | none =>
      rw [e0] at hc
      obtain ⟨d, e, g1, g2, g3, g4, rfl⟩ := deepEq_dp R hx hy hc
      exact L2.op_neD (by omega) pins s σ H _ _ v u Q I rx ry ⟨d, e, g1, g2, g3, g4, q⟩
  | is =>
    cases e1 : dO vx with
    | none => simp [cmpV, e1] at hb
    | some d1 => cases e2 : dO vy with
      | none => simp [cmpV, e1, e2] at hb
      | some d2 =>
        have hb' : isD d1 d2 = some k := by simpa [cmpV, e1, e2] using hb
        obtain ⟨h1, h2⟩ := dsE e1 e2
        exact (isD_ok hb' h1 h2 I rx ry).1 q
  | isn =>
    cases e1 : dO vx with
    | none => simp [cmpV, e1] at hb
    | some d1 => cases e2 : dO vy with
      | none => simp [cmpV, e1, e2] at hb
      | some d2 => cases e3 : isD d1 d2 with
        | none => simp [cmpV, e1, e2, e3] at hb
        | some k' =>
          have hb' : (!k') = k := by simpa [cmpV, e1, e2, e3] using hb
          obtain ⟨h1, h2⟩ := dsE e1 e2
          subst hb'
          exact (isD_ok e3 h1 h2 I rx ry).2 q
  | inn =>
    have hb : ((dO vx).bind fun x => inG x vy S) = some k := hb
    obtain ⟨d1, e1, hb⟩ := Option.bind_eq_some_iff.mp hb
    unfold inG at hb
    cases e0 : inV d1 vy S with
    | some k' =>
      rw [e0] at hb
      cases hb
      obtain ⟨p, xs, rfl, h1, h2, h3, rfl⟩ := insE e1 e0
      exact L2.op_in_seq pins s σ H _ _ v u Q I rx ry ⟨p, xs, rfl, h1, h2, h3, q⟩
    | none =>
      rw [e0] at hb
      rw [dO_some e1] at hx
      obtain ⟨d, e, ds, g1, g2, g3, g4, g5, rfl⟩ := deepIn_dp R hx hy hb
      exact (op_inX hu I rx ry g1 g2 g3 g4 g5).1 q
  | nin =>
    have hb : ((dO vx).bind fun x => (inG x vy S).map not) = some k := hb
    obtain ⟨d1, e1, hb2⟩ := Option.bind_eq_some_iff.mp hb
    obtain ⟨k0, hc, rfl⟩ := Option.map_eq_some_iff.mp hb2
    clear hb hb2
    unfold inG at hc
    cases e0 : inV d1 vy S with
    | some k' =>
      rw [e0] at hc
      cases hc
      obtain ⟨p, xs, rfl, h1, h2, h3, rfl⟩ := insE e1 e0
      exact L2.op_notIn_seq pins s σ H _ _ v u Q I rx ry ⟨p, xs, rfl, h1, h2, h3, q⟩
    | none =>
      rw [e0] at hc
      rw [dO_some e1] at hx
      obtain ⟨d, e, ds, g1, g2, g3, g4, g5, rfl⟩ := deepIn_dp R hx hy hc
      exact (op_inX hu I rx ry g1 g2 g3 g4 g5).2 q
  | lt =>
    have hb : ltV vx vy = some k := hb
    unfold ltV at hb
    cases e0 : (numI vx).bind fun i => (numI vy).bind fun j => some (decide (i < j)) with
    | some k' =>
      rw [e0] at hb
      cases hb
      obtain ⟨i, e1, e0⟩ := Option.bind_eq_some_iff.mp e0
      obtain ⟨j, e2, e0⟩ := Option.bind_eq_some_iff.mp e0
      cases e0
      obtain ⟨rfl, rfl⟩ := intsE e1 e2
      exact L2.op_lt pins s σ H _ _ v u Q I rx ry ⟨i, j, rfl, rfl, q⟩
    | none =>
      rw [e0] at hb
      obtain ⟨ns, e1, hb⟩ := Option.bind_eq_some_iff.mp (show ((tupI vx).bind fun ns => (tupI vy).bind fun ms => some (lexB ns ms)) = some k from hb)
      obtain ⟨ms, e2, hb⟩ := Option.bind_eq_some_iff.mp hb
      cases hb
      obtain ⟨a, rfl, h1⟩ := tupI_rel hx e1
      obtain ⟨b, rfl, h2⟩ := tupI_rel hy e2
      refine L2.op_ltT (by omega) pins s σ H _ _ v u Q I rx ry ⟨a, b, ns, ms, rfl, rfl, h1, h2, ?_⟩
      rw [lexB_eq]
      exact q
  | le =>
    cases e1 : numI vx with
    | none => simp [cmpV, e1] at hb
    | some i => cases e2 : numI vy with
      | none => simp [cmpV, e1, e2] at hb
      | some j =>
        obtain ⟨rfl, rfl⟩ := intsE e1 e2
        have : k = decide (i ≤ j) := by simpa [cmpV, e1, e2, ordI] using hb.symm
        subst this
        exact L2.op_le pins s σ H _ _ v u Q I rx ry ⟨i, j, rfl, rfl, q⟩
  | gt =>
    cases e1 : numI vx with
    | none => simp [cmpV, e1] at hb
    | some i => cases e2 : numI vy with
      | none => simp [cmpV, e1, e2] at hb
      | some j =>
        obtain ⟨rfl, rfl⟩ := intsE e1 e2
        have : k = decide (j < i) := by simpa [cmpV, e1, e2, ordI] using hb.symm
        subst this
        exact L2.op_gt pins s σ H _ _ v u Q I rx ry ⟨i, j, rfl, rfl, q⟩
  | ge =>
    cases e1 : numI vx with
    | none => simp [cmpV, e1] at hb
    | some i => cases e2 : numI vy with
      | none => simp [cmpV, e1, e2] at hb
      | some j =>
        obtain ⟨rfl, rfl⟩ := intsE e1 e2
        have : k = decide (j ≤ i) := by simpa [cmpV, e1, e2, ordI] using hb.symm
        subst this
        exact L2.op_ge pins s σ H _ _ v u Q I rx ry ⟨i, j, rfl, rfl, q⟩
theorem so_cmp (hu : X.A.units + 65 < cLine) (o : Co) (kf : KV f) (ha : PE X a (tE X.K f)) (hb : PE X b (tE X.K g)) (hm : behindInMarks (coOf o) b = false) : PE X (.Compare a [coOf o] [b] pos) (tE X.K (sCmp o f g)) :=
  PE.imp (L2.pe_cmpR (opC_ok hu o) ha hb hm) fun σ H Q ⟨b, m, e, S, r, S', hb, R, RE, he, q⟩ => by
    obtain ⟨p1, h1, he⟩ := bind_ok he
    obtain ⟨p2, h2, he⟩ := bind_ok he
    obtain ⟨w, h3, he⟩ := bind_ok he
    cases he
    exact two_of kf hb R RE h1 h2 fun x y H' m' z R' rx ry => ⟨H, m', p2.2, p1.1, p2.1, w, R', rx, ry, ofO_ok h3, q _ H' m' z R' rfl⟩
theorem so_cmpT (hu : X.A.units + 65 < cLine) (o : Co) (kf : KV f) (ha : PE X a (tE X.K f)) (hb : PE X b (tE X.K g)) (hm : behindInMarks (coOf o) b = false) : PT X (.Compare a [coOf o] [b] pos) (tT X.K (sT (sCmp o f g))) :=
  PT.imp (L2.pt_cmpR (opC_ok hu o) ha hb hm) fun σ H Q ⟨b, m, e, S, r, S', hb, R, RE, he, q⟩ => by
    obtain ⟨p0, h0, he⟩ := bind_ok he
    obtain ⟨k, hk, he⟩ := bind_ok he
    obtain ⟨p1, h1, h0⟩ := bind_ok h0
    obtain ⟨p2, h2, h0⟩ := bind_ok h0
    obtain ⟨w, h3, h0⟩ := bind_ok h0
    have e0 : (Vl.d (.bl w), p2.2) = p0 := by injection h0
    subst e0
    have e : w = k := by have := ofO_ok hk; simpa using this
    subst e
    have e1 : (w, p2.2) = (r, S') := by injection he
    injection e1 with e1 e2
    subst e1
    subst e2
    exact two_of kf hb R RE h1 h2 fun x y H' m' z R' rx ry => ⟨H, m', p2.2, p1.1, p2.1, w, R', rx, ry, ofO_ok h3, w, rfl, q H' m' z R'⟩
end
end Pv
set_option linter.all false
set_option autoImplicit false
set_option maxRecDepth 100000
/-! What the evaluator tells, the machine does: expressions, tests, arguments. -/
namespace Pv
open PySem PySem.Spec PyProof.Rows
open L2 (V Hp HO upd upd_same upd_ne VK XK TE TT TA TS TG TGs TI It Cx PE PT PW PA PS PSs PG PGs PI Inv RelV SqL SqT OpR)

/-! ### the frame's base -/
theorem KV.two {α β γ : Type} {f : Nat → Env → Sto → Rs (α × Sto)} {g : α → Nat → Env → Sto → Rs (β × Sto)} {h : α → β → Sto → Rs γ} (kf : KV f) (kg : ∀ a, KV (g a)) :
    KV fun b e S => f b e S >>= fun r => g r.1 b e r.2 >>= fun q => h r.1 q.1 q.2 >>= fun v => .ok (v, q.2) := fun b e S r S' hb he => by
  obtain ⟨p1, h1, he⟩ := bind_ok he
  obtain ⟨p2, h2, he⟩ := bind_ok he
  obtain ⟨w, h3, he⟩ := bind_ok he
  cases he
  have k1 := kf b e S p1.1 p1.2 hb h1
  exact k1.trans (kg _ b e p1.2 p2.1 p2.2 (Nat.le_trans hb k1.len) h2)
theorem KV.one {α γ : Type} {f : Nat → Env → Sto → Rs (α × Sto)} {h : α → Sto → Rs γ} (kf : KV f) : KV fun b e S => f b e S >>= fun r => h r.1 r.2 >>= fun v => .ok (v, r.2) := fun b e S r S' hb he => by
  obtain ⟨p1, h1, he⟩ := bind_ok he
  obtain ⟨w, h3, he⟩ := bind_ok he
  cases he
  exact kf b e S p1.1 p1.2 hb h1
theorem KV.var (i : Nat) : KV (sVar i) := fun b e S r S' hb he => by
  unfold sVar at he
  split at he
  · cases he; exact Kp.refl b _
  · cases he
theorem KV.cn (c : D) : KV (sCn c) := fun b e S r S' hb he => by cases he; exact Kp.refl b _
theorem KV.bad : KV sBad := fun _ _ _ _ _ _ he => by cases he
section
variable {f g : DV} {c t u : DT} {l : DL}
theorem KV.neg (kf : KV f) : KV (sNeg f) := fun b e S r S' hb he => by
  obtain ⟨p1, h1, he⟩ := bind_ok he
  split at he
  · cases he; exact kf b e S p1.1 p1.2 hb h1
  · cases he
theorem KV.not (kf : KV f) : KV (sNot f) := fun b e S r S' hb he => by
  obtain ⟨p1, h1, he⟩ := bind_ok he
  obtain ⟨k, h2, he⟩ := bind_ok he
  cases he; exact kf b e S p1.1 p1.2 hb h1
theorem KV.bin {o : Bo} (kf : KV f) (kg : KV g) : KV (sBin o f g) := fun b e S r S' hb he => by
  obtain ⟨p1, h1, he⟩ := bind_ok he
  obtain ⟨p2, h2, he⟩ := bind_ok he
  obtain ⟨w, h3, he⟩ := bind_ok he
  cases he
  have k1 := kf b e S p1.1 p1.2 hb h1
  exact k1.trans (kg b e p1.2 p2.1 p2.2 (Nat.le_trans hb k1.len) h2)
theorem KV.cmp {o : Co} (kf : KV f) (kg : KV g) : KV (sCmp o f g) := fun b e S r S' hb he => by
  obtain ⟨p1, h1, he⟩ := bind_ok he
  obtain ⟨p2, h2, he⟩ := bind_ok he
  obtain ⟨w, h3, he⟩ := bind_ok he
  cases he
  have k1 := kf b e S p1.1 p1.2 hb h1
  exact k1.trans (kg b e p1.2 p2.1 p2.2 (Nat.le_trans hb k1.len) h2)
theorem KV.and (kf : KV f) (kg : KV g) : KV (sAnd f g) := fun b e S r S' hb he => by
  obtain ⟨p1, h1, he⟩ := bind_ok he
  obtain ⟨k, h2, he⟩ := bind_ok he
  have k1 := kf.sD b e S p1.1 p1.2 hb h1
  cases k with
  | true => exact k1.trans (kg b e p1.2 r S' (Nat.le_trans hb k1.len) he)
  | false => cases he; exact k1
theorem KV.or (kf : KV f) (kg : KV g) : KV (sOr f g) := fun b e S r S' hb he => by
  obtain ⟨p1, h1, he⟩ := bind_ok he
  obtain ⟨k, h2, he⟩ := bind_ok he
  have k1 := kf.sD b e S p1.1 p1.2 hb h1
  cases k with
  | false => exact k1.trans (kg b e p1.2 r S' (Nat.le_trans hb k1.len) he)
  | true => cases he; exact k1
theorem KV.ite (kc : KV c) (kf : KV f) (kg : KV g) : KV (sIte c f g) := fun b e S r S' hb he => by
  obtain ⟨p1, h1, he⟩ := bind_ok he
  have k1 := kc b e S p1.1 p1.2 hb h1
  split at he
  · exact k1.trans (kf b e p1.2 r S' (Nat.le_trans hb k1.len) he)
  · exact k1.trans (kg b e p1.2 r S' (Nat.le_trans hb k1.len) he)
theorem KV.tup (kl : KV l) : KV (sTup l) := fun b e S r S' hb he => by
  obtain ⟨p1, h1, he⟩ := bind_ok he
  split at he
  · cases he; exact kl b e S p1.1 p1.2 hb h1
  · cases he
theorem KV.lst (kl : KV l) : KV (sLst l) := fun b e S r S' hb he => by
  obtain ⟨p1, h1, he⟩ := bind_ok he
  split at he
  · cases he; exact kl b e S p1.1 p1.2 hb h1
  · cases he
theorem KV.idx (kf : KV f) (kg : KV g) : KV (sIdx f g) := fun b e S r S' hb he => by
  obtain ⟨p1, h1, he⟩ := bind_ok he
  obtain ⟨p2, h2, he⟩ := bind_ok he
  obtain ⟨w, h3, he⟩ := bind_ok he
  cases he
  have k1 := kf b e S p1.1 p1.2 hb h1
  exact k1.trans (kg.sD b e p1.2 p2.1 p2.2 (Nat.le_trans hb k1.len) h2)
theorem KV.oNone : KV oNone := fun b e S r S' hb he => by cases he; exact Kp.refl b _
theorem KV.oSome (kf : KV f) : KV (oSome f) := fun b e S r S' hb he => by
  obtain ⟨p1, h1, he⟩ := bind_ok he
  obtain ⟨k, h2, he⟩ := bind_ok he
  cases he; exact kf.sD b e S p1.1 p1.2 hb h1
theorem KV.sl {lo hi : DO} (kf : KV f) (kl : KV lo) (kh : KV hi) : KV (sSl f lo hi) := fun b e S r S' hb he => by
  obtain ⟨p1, h1, he⟩ := bind_ok he
  obtain ⟨p2, h2, he⟩ := bind_ok he
  obtain ⟨p3, h3, he⟩ := bind_ok he
  obtain ⟨w, h4, he⟩ := bind_ok he
  cases he
  have k1 := kf b e S p1.1 p1.2 hb h1
  have k2 := k1.trans (kl b e p1.2 p2.1 p2.2 (Nat.le_trans hb k1.len) h2)
  exact k2.trans (kh b e p2.2 p3.1 p3.2 (Nat.le_trans hb k2.len) h3)
theorem KV.rev (kf : KV f) : KV (sRev f) := fun b e S r S' hb he => by
  obtain ⟨p1, h1, he⟩ := bind_ok he
  obtain ⟨k, h2, he⟩ := bind_ok he
  cases he; exact kf b e S p1.1 p1.2 hb h1
theorem KV.f1 {o : F1} (kf : KV f) : KV (sF1 o f) := fun b e S r S' hb he => by
  obtain ⟨p1, h1, he⟩ := bind_ok he
  obtain ⟨k, h2, he⟩ := bind_ok he
  cases he; exact kf b e S p1.1 p1.2 hb h1
theorem KV.f2 {o : F2} (kf : KV f) (kg : KV g) : KV (sF2 o f g) := fun b e S r S' hb he => by
  obtain ⟨p1, h1, he⟩ := bind_ok he
  obtain ⟨p2, h2, he⟩ := bind_ok he
  obtain ⟨w, h3, he⟩ := bind_ok he
  cases he
  have k1 := kf.sD b e S p1.1 p1.2 hb h1
  exact k1.trans (kg.sD b e p1.2 p2.1 p2.2 (Nat.le_trans hb k1.len) h2)
theorem KV.isi {t : Ty} (kf : KV f) : KV (sIsi f t) := fun b e S r S' hb he => by
  obtain ⟨p1, h1, he⟩ := bind_ok he
  obtain ⟨k, h2, he⟩ := bind_ok he
  cases he; exact kf.sD b e S p1.1 p1.2 hb h1
theorem KV.ends {lo : DO} (kl : KV lo) (kg : KV g) : KV (sEnds lo g) := fun b e S r S' hb he => by
  obtain ⟨p1, h1, he⟩ := bind_ok he
  obtain ⟨p2, h2, he⟩ := bind_ok he
  obtain ⟨w, h3, he⟩ := bind_ok he
  have k1 := kl b e S p1.1 p1.2 hb h1
  split at he
  · cases he; exact k1.trans (kg.sD b e p1.2 p2.1 p2.2 (Nat.le_trans hb k1.len) h2)
  · cases he
theorem KV.mkr {t : F1} {lo : DO} (kl : KV lo) (kg : KV g) : KV (sMkr t lo g) := fun b e S r S' hb he => by
  obtain ⟨p1, h1, he⟩ := bind_ok he
  have k1 := KV.ends kl kg b e S p1.1 p1.2 hb h1
  split at he
  · split at he
    · cases he; exact k1
    · cases he; exact k1
    · cases he
  · cases he
theorem KV.sT (kf : KV f) : KV (sT f) := fun b e S r S' hb he => by
  obtain ⟨p1, h1, he⟩ := bind_ok he
  obtain ⟨k, h2, he⟩ := bind_ok he
  cases he; exact kf b e S p1.1 p1.2 hb h1
theorem KV.tAnd (kt : KV t) (ku : KV u) : KV (tAnd t u) := fun b e S r S' hb he => by
  obtain ⟨p1, h1, he⟩ := bind_ok he
  have k1 := kt b e S p1.1 p1.2 hb h1
  split at he
  · exact k1.trans (ku b e p1.2 r S' (Nat.le_trans hb k1.len) he)
  · cases he; exact k1
theorem KV.tOr (kt : KV t) (ku : KV u) : KV (tOr t u) := fun b e S r S' hb he => by
  obtain ⟨p1, h1, he⟩ := bind_ok he
  have k1 := kt b e S p1.1 p1.2 hb h1
  split at he
  · cases he; exact k1
  · exact k1.trans (ku b e p1.2 r S' (Nat.le_trans hb k1.len) he)
theorem KV.tNot (kt : KV t) : KV (tNot t) := fun b e S r S' hb he => by
  obtain ⟨p1, h1, he⟩ := bind_ok he
  cases he; exact kt b e S p1.1 p1.2 hb h1
theorem KV.tYes : KV tYes := fun b e S r S' hb he => by cases he; exact Kp.refl b _
theorem KV.lNil : KV lNil := fun b e S r S' hb he => by cases he; exact Kp.refl b _
theorem KV.lCons (kf : KV f) (kl : KV l) : KV (lCons f l) := fun b e S r S' hb he => by
  obtain ⟨p1, h1, he⟩ := bind_ok he
  obtain ⟨p2, h2, he⟩ := bind_ok he
  cases he
  have k1 := kf.sD b e S p1.1 p1.2 hb h1
  exact k1.trans (kl b e p1.2 p2.1 p2.2 (Nat.le_trans hb k1.len) h2)
end

section
variable {X : Cx} {a b c ex : Expr} {f g : DV} {pos : Pos}
/-! ### truth -/
theorem tru_list {K : PySem.W.Frag} {m : List Addr} {H H0 : Hp} {S : Sto} {x : Vl} {v : V} {xs : List D} (R : Rl K m H S) (r : RV K H0 H m x v) (h : items x S = some xs) : L2.TruV K v H (!xs.isEmpty) := by
  obtain ⟨p, vs, rfl, r, w⟩ := items_sq R r h
  have e : xs.isEmpty = vs.isEmpty := by
    have := r.length
    cases xs with
    | nil => cases vs with
      | nil => rfl
      | cons _ _ => simp at this
    | cons _ _ => cases vs with
      | nil => simp at this
      | cons _ _ => rfl
  rw [e]
  rcases w with ⟨w, _⟩ | ⟨w, _⟩
  · exact .inr (.inl ⟨vs, SqT.of w, rfl⟩)
  · exact .inl ⟨vs, w, rfl⟩
theorem truD_rel {K : PySem.W.Frag} {m : List Addr} {H H0 : Hp} {S : Sto} {x : D} {v : V} {k : Bool} (R : Rl K m H S) (r : RD K H m x v) (h : truthD x S = some k) : L2.TruV K v H k := by
  cases x with
  | non => cases (show v = .non from r); cases h; rfl
  | bl j => cases (show v = .bl j from r); cases h; rfl
  | int j => cases (show v = .int j from r); cases h; rfl
  | str j => cases h
  | tup xs => cases h; exact tru_list (H0 := H) (x := .d (.tup xs)) R r rfl
  | scr ns =>
    cases h
    have := tru_list (H0 := H) (x := .d (.scr ns)) R r rfl
    rw [show (ns.map D.int).isEmpty = ns.isEmpty from by cases ns <;> rfl] at this
    exact this
  | loc l =>
    have h' : (match S[l]? with | some (.lst xs) => some (!xs.isEmpty) | _ => none) = some k := h
    split at h'
    · rename_i xs hx
      cases h'
      exact tru_list (H0 := H) (x := .d (.loc l)) R r (by show (match S[l]? with | some (.lst xs) => some xs | _ => none) = some xs; rw [hx])
    · cases h'
theorem tru_rel {K : PySem.W.Frag} {m : List Addr} {H H0 : Hp} {S : Sto} {x : Vl} {v : V} {k : Bool} (R : Rl K m H S) (r : RV K H0 H m x v) (h : truth x S = some k) : L2.TruV K v H k := by
  cases x with
  | d x => exact truD_rel (H0 := H0) R r h
  | fr xs => cases h; exact tru_list R r rfl
/-- what isTrue does not look into -/
def plainT : Expr → Bool
  | .UnaryOp .Not _ _ => false
  | .BoolOp .. => false
  | .IfExp .. => false
  | .Compare .. => false
  | _ => true
theorem plainT_is {e : Expr} (h : plainT e = true) (env : PySem.Env) (whole : Sem Value) : isTrue e env whole = (do let v ← whole; standAt e.pos; holding [v] (truthy v)) := by
  cases e with
  | UnaryOp op x p => cases op with
    | Not => cases h
    | _ => rfl
  | BoolOp _ _ _ => cases h
  | IfExp _ _ _ _ => cases h
  | Compare _ _ _ _ => cases h
  | _ => rfl
theorem so_sT (h : plainT ex = true) (he : PE X ex (tE X.K f)) : PT X ex (tT X.K (sT f)) := PT.imp (L2.pt_truth he (plainT_is h X.env)) fun σ H Q ⟨b, m, e, S, r, S', hb, R, RE, he, q⟩ => by
  obtain ⟨p1, h1, he⟩ := bind_ok he
  obtain ⟨k, h2, he⟩ := bind_ok he
  cases he
  exact ⟨b, m, e, S, p1.1, p1.2, hb, R, RE, h1, fun v H' m' z R' rv => ⟨_, tru_rel R' rv (ofO_ok h2), q H' m' z R'⟩⟩
theorem so_not (he : PE X a (tE X.K f)) : PE X (.UnaryOp .Not a pos) (tE X.K (sNot f)) := PE.imp (L2.pe_notT he) fun σ H Q ⟨b, m, e, S, r, S', hb, R, RE, he, q⟩ => by
  obtain ⟨p1, h1, he⟩ := bind_ok he
  obtain ⟨k, h2, he⟩ := bind_ok he
  cases he
  exact ⟨b, m, e, S, p1.1, p1.2, hb, R, RE, h1, fun v H' m' z R' rv => ⟨_, tru_rel R' rv (ofO_ok h2), q _ H' m' z R' rfl⟩⟩
theorem so_tNot {t : DT} (he : PT X a (tT X.K t)) : PT X (.UnaryOp .Not a pos) (tT X.K (tNot t)) := PT.imp (L2.pt_not he) fun σ H Q ⟨b, m, e, S, r, S', hb, R, RE, he, q⟩ => by
  obtain ⟨p1, h1, he⟩ := bind_ok he
  cases he
  exact ⟨b, m, e, S, p1.1, p1.2, hb, R, RE, h1, fun H' m' z R' => q H' m' z R'⟩
theorem so_neg (he : PE X a (tE X.K f)) : PE X (.UnaryOp .USub a pos) (tE X.K (sNeg f)) := PE.imp (L2.pe_un L2.un_neg he) fun σ H Q ⟨b, m, e, S, r, S', hb, R, RE, he, q⟩ => by
  obtain ⟨p1, h1, he⟩ := bind_ok he
  refine ⟨b, m, e, S, p1.1, p1.2, hb, R, RE, h1, fun v H' m' z R' rv => ?_⟩
  split at he
  · rename_i i hi
    rw [hi] at rv
    cases (show v = .int i from rv)
    cases he
    exact ⟨i, rfl, q _ H' m' z R' rfl⟩
  · cases he
theorem so_and {rest : List Expr} (kf : KV f) (ha : PE X a (tE X.K f)) (hb : PE X (.BoolOp .And (b :: rest) pos) (tE X.K g)) : PE X (.BoolOp .And (a :: b :: rest) pos) (tE X.K (sAnd f g)) :=
  PE.imp (L2.pe_andT (so_D ha) hb) fun σ H Q ⟨b, m, e, S, r, S', hb, R, RE, he, q⟩ => by
    obtain ⟨p1, h1, he⟩ := bind_ok he
    obtain ⟨k, h2, he⟩ := bind_ok he
    have k1 := kf.sD b e S p1.1 p1.2 hb h1
    refine ⟨b, m, e, S, p1.1, p1.2, hb, R, RE, h1, fun v H' m' z R' rv => ⟨k, truD_rel (H0 := H') R' rv (ofO_ok h2), ?_⟩⟩
    cases k with
    | true => exact L2.iteT ⟨b, m', e, p1.2, r, S', Nat.le_trans hb k1.len, R', RE.mono z, he, fun w H2 m2 z2 R2 rw_ => q w H2 m2 (z.trans z2) R2 (RV.from z z2 rw_)⟩
    | false => cases he; exact L2.iteF (q v H' m' z R' rv)
theorem so_or {rest : List Expr} (kf : KV f) (ha : PE X a (tE X.K f)) (hb : PE X (.BoolOp .Or (b :: rest) pos) (tE X.K g)) : PE X (.BoolOp .Or (a :: b :: rest) pos) (tE X.K (sOr f g)) :=
  PE.imp (L2.pe_orT (so_D ha) hb) fun σ H Q ⟨b, m, e, S, r, S', hb, R, RE, he, q⟩ => by
    obtain ⟨p1, h1, he⟩ := bind_ok he
    obtain ⟨k, h2, he⟩ := bind_ok he
    have k1 := kf.sD b e S p1.1 p1.2 hb h1
    refine ⟨b, m, e, S, p1.1, p1.2, hb, R, RE, h1, fun v H' m' z R' rv => ⟨k, truD_rel (H0 := H') R' rv (ofO_ok h2), ?_⟩⟩
    cases k with
    | false => exact L2.iteF ⟨b, m', e, p1.2, r, S', Nat.le_trans hb k1.len, R', RE.mono z, he, fun w H2 m2 z2 R2 rw_ => q w H2 m2 (z.trans z2) R2 (RV.from z z2 rw_)⟩
    | true => cases he; exact L2.iteT (q v H' m' z R' rv)
theorem so_tAnd {t u : DT} {rest : List Expr} (kt : KV t) (ha : PT X a (tT X.K t)) (hb : PW X (.BoolOp .And (b :: rest) pos) (tT X.K u)) : PW X (.BoolOp .And (a :: b :: rest) pos) (tT X.K (tAnd t u)) :=
  PW.imp (L2.pw_and ha hb) fun σ H Q ⟨b, m, e, S, r, S', hb, R, RE, he, q⟩ => by
    obtain ⟨p1, h1, he⟩ := bind_ok he
    have k1 := kt b e S p1.1 p1.2 hb h1
    refine ⟨b, m, e, S, p1.1, p1.2, hb, R, RE, h1, fun H' m' z R' => ?_⟩
    cases e1 : p1.1 with
    | true =>
      rw [e1] at he
      exact L2.iteT ⟨b, m', e, p1.2, r, S', Nat.le_trans hb k1.len, R', RE.mono z, he, fun H2 m2 z2 R2 => q H2 m2 (z.trans z2) R2⟩
    | false => rw [e1] at he; cases he; exact L2.iteF (q H' m' z R')
theorem so_tOr {t u : DT} {rest : List Expr} (kt : KV t) (ha : PT X a (tT X.K t)) (hb : PW X (.BoolOp .Or (b :: rest) pos) (tT X.K u)) : PW X (.BoolOp .Or (a :: b :: rest) pos) (tT X.K (tOr t u)) :=
  PW.imp (L2.pw_or ha hb) fun σ H Q ⟨b, m, e, S, r, S', hb, R, RE, he, q⟩ => by
    obtain ⟨p1, h1, he⟩ := bind_ok he
    have k1 := kt b e S p1.1 p1.2 hb h1
    refine ⟨b, m, e, S, p1.1, p1.2, hb, R, RE, h1, fun H' m' z R' => ?_⟩
    cases e1 : p1.1 with
    | false =>
      rw [e1] at he
      exact L2.iteF ⟨b, m', e, p1.2, r, S', Nat.le_trans hb k1.len, R', RE.mono z, he, fun H2 m2 z2 R2 => q H2 m2 (z.trans z2) R2⟩
    | true => rw [e1] at he; cases he; exact L2.iteT (q H' m' z R')
theorem so_ite {t : DT} (kt : KV t) (hc : PT X c (tT X.K t)) (ha : PE X a (tE X.K f)) (hb : PE X b (tE X.K g)) : PE X (.IfExp c a b pos) (tE X.K (sIte t f g)) :=
  PE.imp (L2.pe_ifExp hc ha hb) fun σ H Q ⟨b, m, e, S, r, S', hb, R, RE, he, q⟩ => by
    obtain ⟨p1, h1, he⟩ := bind_ok he
    have k1 := kt b e S p1.1 p1.2 hb h1
    refine ⟨b, m, e, S, p1.1, p1.2, hb, R, RE, h1, fun H' m' z R' => ?_⟩
    cases e1 : p1.1 with
    | true =>
      rw [e1] at he
      exact L2.iteT ⟨b, m', e, p1.2, r, S', Nat.le_trans hb k1.len, R', RE.mono z, he, fun w H2 m2 z2 R2 rw_ => q w H2 m2 (z.trans z2) R2 (RV.from z z2 rw_)⟩
    | false =>
      rw [e1] at he
      exact L2.iteF ⟨b, m', e, p1.2, r, S', Nat.le_trans hb k1.len, R', RE.mono z, he, fun w H2 m2 z2 R2 rw_ => q w H2 m2 (z.trans z2) R2 (RV.from z z2 rw_)⟩

/-! ### argument lists -/
def noStar : Expr → Bool
  | .Starred .. => false
  | _ => true
theorem star1 {e : Expr} (h : noStar e = true) (es : List Expr) (env : PySem.Env) : starEach (e :: es) env = (false, eval e env) :: starEach es env := by
  cases e <;> first | rfl | cases h
theorem so_lNil : PA X [] (tL X.K lNil) := PA.imp L2.pa_nil fun σ H Q ⟨b, m, e, S, r, S', hb, R, RE, he, q⟩ => by
  cases he
  exact q [] H m (Le.refl H m) R rfl
theorem so_lCons {es : List Expr} {l : DL} (h : noStar a = true) (kf : KV f) (ha : PE X a (tE X.K f)) (hl : PA X es (tL X.K l)) : PA X (a :: es) (tL X.K (lCons f l)) :=
  PA.imp (L2.pa_cons (so_D ha) hl (star1 h es X.env)) fun σ H Q ⟨b, m, e, S, r, S', hb, R, RE, he, q⟩ => by
    obtain ⟨p1, h1, he⟩ := bind_ok he
    obtain ⟨p2, h2, he⟩ := bind_ok he
    cases he
    have k1 := kf.sD b e S p1.1 p1.2 hb h1
    exact ⟨b, m, e, S, p1.1, p1.2, hb, R, RE, h1, fun v H' m' z R' rv => ⟨b, m', e, p1.2, p2.1, p2.2, Nat.le_trans hb k1.len, R', RE.mono z, h2, fun vs H2 m2 z2 R2 rvs => q _ H2 m2 (z.trans z2) R2 ⟨v, vs, rfl, rv.mono z2, rvs⟩⟩⟩
theorem so_tup {es : List Expr} {l : DL} {x1 : Nat} (hl : PA X es (tL X.K l)) : PE X (.Tuple es x1 pos) (tE X.K (sTup l)) := PE.imp (L2.pe_tup hl) fun σ H Q ⟨b, m, e, S, r, S', hb, R, RE, he, q⟩ => by
  obtain ⟨p1, h1, he⟩ := bind_ok he
  split at he
  · rename_i hn
    cases he
    exact ⟨b, m, e, S, p1.1, p1.2, hb, R, RE, h1, fun vs H' m' z R' rv => ⟨by rw [← rv.length]; exact hn, RV.laid R' rv fun w H2 m2 z2 R2 r2 => q w H2 m2 (z.trans z2) R2 (RV.from z z2 r2)⟩⟩
  · cases he
theorem so_lst {es : List Expr} {l : DL} (hl : PA X es (tL X.K l)) : PE X (.List es pos) (tE X.K (sLst l)) := PE.imp (L2.pe_lst hl) fun σ H Q ⟨b, m, e, S, r, S', hb, R, RE, he, q⟩ => by
  obtain ⟨p1, h1, he⟩ := bind_ok he
  split at he
  · rename_i hn
    cases he
    exact ⟨b, m, e, S, p1.1, p1.2, hb, R, RE, h1, fun vs H' m' z R' rv => ⟨by rw [← rv.length]; exact hn, RV.laidL R' rv fun w H2 m2 z2 R2 r2 => q w H2 m2 (z.trans z2) R2 (RV.from z z2 r2)⟩⟩
  · cases he

/-! ### subscripts -/
theorem ixN_eq (n : Nat) (i : Int) : L2.ixN n i = ixN n i := rfl
theorem RDs.atI {K : PySem.W.Frag} {H : Hp} {m : List Addr} {xs : List D} {vs : List V} {i : Int} {x : D} (r : RDs K H m xs vs) (h : atI xs i = some x) : ∃ v, L2.atI vs i = some v ∧ RD K H m x v := by
  unfold Pv.atI at h
  cases e : ixN xs.length i with
  | none => rw [e] at h; cases h
  | some j =>
    rw [e] at h
    obtain ⟨v, h1, h2⟩ := r.get (show xs[j]? = some x from h)
    refine ⟨v, ?_, h2⟩
    unfold L2.atI
    rw [← r.length, ixN_eq, e]
    exact h1
def noSlice : Expr → Bool
  | .Slice .. => false
  | _ => true
theorem plainIx {e : Expr} (h : noSlice e = true) : L2.PlainIx e := by
  intro o i
  cases e <;> first | rfl | cases h
theorem so_idx (h : noSlice b = true) (kf : KV f) (ha : PE X a (tE X.K f)) (hb : PE X b (tE X.K g)) : PE X (.Subscript a b pos) (tE X.K (sIdx f g)) :=
  PE.imp (L2.pe_ix L2.ix_seq ha (so_D hb) (plainIx h)) fun σ H Q ⟨b, m, e, S, r, S', hb, R, RE, he, q⟩ => by
    obtain ⟨p1, h1, he⟩ := bind_ok he
    obtain ⟨p2, h2, he⟩ := bind_ok he
    obtain ⟨w, h3, he⟩ := bind_ok he
    have e1 : (Vl.d w, p2.2) = (r, S') := by injection he
    injection e1 with e1 e2
    subst e1
    subst e2
    have k1 := kf b e S p1.1 p1.2 hb h1
    refine ⟨b, m, e, S, p1.1, p1.2, hb, R, RE, h1, fun x H1 m1 z1 R1 rx => ⟨b, m1, e, p1.2, p2.1, p2.2, Nat.le_trans hb k1.len, R1, RE.mono z1, h2, fun y H2 m2 z2 R2 ry => ?_⟩⟩
    have h3' := ofO_ok h3
    unfold idxV at h3'
    split at h3'
    · rename_i i hi
      rw [hi] at ry
      cases (show y = .int i from ry)
      cases e3 : items p1.1 p2.2 with
      | none => rw [e3] at h3'; cases h3'
      | some xs =>
        rw [e3] at h3'
        obtain ⟨p, vs, rfl, r3, w3⟩ := items_sq R2 (rx.mono z2) e3
        obtain ⟨v, h4, h5⟩ := r3.atI (show atI xs i = some w from h3')
        rcases w3 with ⟨w3, _⟩ | ⟨w3, _⟩
        · exact .inr (.inl ⟨p, vs, i, v, rfl, rfl, SqT.of w3, h4, q v H2 m2 (z1.trans z2) R2 h5⟩)
        · exact .inl ⟨p, vs, i, v, rfl, rfl, w3, h4, q v H2 m2 (z1.trans z2) R2 h5⟩
    · cases h3'

/-! ### slices -/
def tO (K : PySem.W.Frag) (f : DO) : L2.TO := fun σ H Q => ∃ (b : Nat) (m : List Addr) (e : Env) (S : Sto) (r : Option Int) (S' : Sto), b ≤ S.length ∧ Rl K m H S ∧ RE K H m e σ ∧ f b e S = .ok (r, S') ∧
  ∀ H' m', Le H m H' m' → Rl K m' H' S' → Q r H'
theorem PO.imp {e : Option Expr} {t t' : L2.TO} (h : L2.PO X e t) (k : ∀ σ H Q, t' σ H Q → t σ H Q) : L2.PO X e t' := ⟨fun pins s σ H Q I q => h.run pins s σ H Q I (k σ H Q q)⟩
theorem so_oNone : L2.PO X none (tO X.K oNone) := PO.imp L2.po_none fun σ H Q ⟨b, m, e, S, r, S', hb, R, RE, he, q⟩ => by
  cases he
  exact q H m (Le.refl H m) R
theorem so_oSome (ha : PE X a (tE X.K f)) : L2.PO X (some a) (tO X.K (oSome f)) := PO.imp (L2.po_some (so_D ha)) fun σ H Q ⟨b, m, e, S, r, S', hb, R, RE, he, q⟩ => by
  obtain ⟨p1, h1, he⟩ := bind_ok he
  obtain ⟨i, h2, he⟩ := bind_ok he
  cases he
  refine ⟨b, m, e, S, p1.1, p1.2, hb, R, RE, h1, fun v H' m' z R' rv => ?_⟩
  have h2' := ofO_ok h2
  unfold intO at h2'
  split at h2'
  · rename_i j hj
    rw [hj] at rv
    cases h2'
    exact ⟨i, rv, q H' m' z R'⟩
  · cases h2'
theorem sIx_eq (n d : Nat) (o : Option Int) : HT.sIx n d o = sIx n d o := by cases o <;> rfl
theorem RDs.cut {K : PySem.W.Frag} {H : Hp} {m : List Addr} {xs : List D} {vs : List V} (r : RDs K H m xs vs) (lo hi : Option Int) : RDs K H m (cut xs lo hi) (L2.cutV vs lo hi) := by
  unfold Pv.cut L2.cutV
  rw [← r.length, sIx_eq, sIx_eq]
  exact (r.drop _).take _
theorem so_sl {lo hi : Option Expr} {l u : DO} {p2 : Pos} (kf : KV f) (kl : KV l) (ku : KV u) (ha : PE X a (tE X.K f)) (hl : L2.PO X lo (tO X.K l)) (hu : L2.PO X hi (tO X.K u)) : PE X (.Subscript a (.Slice lo hi none p2) pos) (tE X.K (sSl f l u)) :=
  PE.imp (L2.pe_slice (L2.SlR.or L2.sl_tupA L2.sl_list) ha hl hu) fun σ H Q ⟨b, m, e, S, r, S', hb, R, RE, he, q⟩ => by
    obtain ⟨p1, h1, he⟩ := bind_ok he
    obtain ⟨p2, h2, he⟩ := bind_ok he
    obtain ⟨p3, h3, he⟩ := bind_ok he
    obtain ⟨w, h4, he⟩ := bind_ok he
    have e1 : (w, p3.2) = (r, S') := by injection he
    injection e1 with e1 e2
    subst e1
    subst e2
    have k1 := kf b e S p1.1 p1.2 hb h1
    have k2 := kl b e p1.2 p2.1 p2.2 (Nat.le_trans hb k1.len) h2
    refine ⟨b, m, e, S, p1.1, p1.2, hb, R, RE, h1, fun x H1 m1 z1 R1 rx => ⟨b, m1, e, p1.2, p2.1, p2.2, Nat.le_trans hb k1.len, R1, RE.mono z1, h2, fun H2 m2 z2 R2 => ⟨b, m2, e, p2.2, p3.1, p3.2, Nat.le_trans hb (Nat.le_trans k1.len k2.len), R2, RE.mono (z1.trans z2), h3, fun H3 m3 z3 R3 => ?_⟩⟩⟩
    have h4' := ofO_ok h4
    have z : Le H m H3 m3 := z1.trans (z2.trans z3)
    have rx3 := rx.mono (z2.trans z3)
    have lists : ∀ {xs : List D}, items p1.1 p3.2 = some xs → tupO p1.1 = none → w = .fr (cut xs p2.1 p3.1) → L2.rSlL X.K x p2.1 p3.1 H3 Q := fun {xs} e1 e2 e3 => by
      obtain ⟨p, vs, rfl, r3, w3⟩ := items_sq R3 rx3 e1
      rcases w3 with ⟨_, w3⟩ | ⟨w3, _⟩
      · rw [w3] at e2; cases e2
      · subst e3
        exact ⟨p, vs, rfl, w3, RV.laidL R3 (r3.cut _ _) fun t H4 m4 z4 R4 r4 => q t H4 m4 (z.trans z4) R4 (RV.from z z4 r4)⟩
    unfold sliceV at h4'
    split at h4'
    · rename_i xs hx
      cases h4'
      rw [hx] at rx3
      obtain ⟨p, vs, rfl, hp, r3⟩ := (rx3 : ∃ a vs, x = .ref a ∧ H3 a = some (.tup vs) ∧ RDs X.K H3 m3 xs vs)
      refine .inl ⟨p, vs, rfl, SqT.of hp, fun hw => ?_, fun _ => RV.laid R3 (r3.cut _ _) fun t H4 m4 z4 R4 r4 => q t H4 m4 (z.trans z4) R4 (RV.from z z4 r4)⟩
      refine q _ H3 m3 z R3 ⟨p, vs, rfl, hp, ?_⟩
      have ew : cut xs p2.1 p3.1 = xs := by
        unfold cut
        rw [← sIx_eq, ← sIx_eq, r3.length, hw.1, hw.2]
        simp [← r3.length]
      rw [ew]; exact r3
    · rename_i hx
      cases e3 : items p1.1 p3.2 with
      | none => rw [e3] at h4'; cases h4'
      | some xs =>
        rw [e3] at h4'
        refine .inr (lists e3 ?_ ?_)
        · cases e5 : tupO p1.1 with
          | none => rfl
          | some ys => exact (hx ys (tupO_some e5)).elim
        · simpa using h4'.symm
end
end Pv
set_option linter.all false
set_option maxRecDepth 100000
set_option maxHeartbeats 4000000
/-! t[::-1] of a tuple. -/
namespace HT
open PySem PySem.Spec PyProof.Rows
section
variable {prog : Program} {w : World} {A : Around} {E : Value → Shared → Prop} {s : Shared}
theorem sliceApplied_rev {sl : Addr} {vl vu vs : Value} {n : Nat} {Q : Int × Int × Nat → Shared → Prop} (hs : s.heap.IsSliceOf sl vl vu vs) (pl : IsPart vl none) (pu : IsPart vu none) (ps : IsPart vs (some (-1)))
    (h : Q ((n : Int) - 1, -1, n) s) : wpAny (model prog w) A (Builtin.Slice.sliceApplied (.ref sl) (pure (n : Int))) Q E s := by
  obtain ⟨os, hos, hcs, hds⟩ := id hs
  unfold Builtin.Slice.sliceApplied Builtin.Slice.sliceFields
  refine wpAny_bind (wpAny_bind (wpAny_field hos hds (x := vl) rfl (wpAny_bind (wpAny_field hos hds (x := vu) rfl (wpAny_bind (wpAny_field hos hds (x := vs) rfl (wpAny_pure ?_)))))))
  refine wpAny_bind (slicePart_ ps ?_)
  show wpAny _ _ (if ((-1 : Int) == 0) = true then _ else _) _ _ s
  rw [if_neg (by decide)]
  refine wpAny_bind (slicePart_ pl (wpAny_bind (slicePart_ pu (wpAny_bind (wpAny_pure ?_)))))
  show wpAny _ _ (pure (((n : Int) - 1), (-1 : Int), Builtin.Slice.slicePlaces ((n : Int) - 1) (-1) (-1))) _ _ s
  have e : Builtin.Slice.slicePlaces ((n : Int) - 1) (-1) (-1) = n := by
    unfold Builtin.Slice.slicePlaces
    rw [if_neg (by decide)]
    by_cases h0 : n = 0
    · subst h0; rfl
    · rw [if_pos (by omega)]
      rw [show (-(-1) : Int) = 1 by decide, Int.ediv_one]
      omega
  rw [e]
  exact wpAny_pure h
theorem pick_rev (xs : Array Value) : ((List.range xs.size).filterMap fun (m : Nat) => xs[(((xs.size : Int) - 1) + (m : Int) * (-1)).toNat]?).toArray = xs.toList.reverse.toArray := by
  have e : ((List.range xs.size).filterMap fun (m : Nat) => xs[(((xs.size : Int) - 1) + (m : Int) * (-1)).toNat]?) = ((List.range xs.size).map fun k => xs.size - 1 - k).filterMap (xs[·]?) := by
    rw [List.filterMap_map]
    congr 1
    funext m
    show _ = xs[xs.size - 1 - m]?
    congr 1
    omega
  rw [e, PySem.W.krv_range, List.filterMap_reverse, PySem.W.krv_all]
theorem getItem_tuple_rev {t sl : Addr} {items : Array Value} {vl vu vs : Value} {Q : Value → Shared → Prop} (ht : IsTup s.heap t items) (hs : s.heap.IsSliceOf sl vl vu vs) (pl : IsPart vl none) (pu : IsPart vu none) (ps : IsPart vs (some (-1)))
    (h : Q (.ref s.heap.objs.size) { s with heap := s.heap.push { cls := .type "tuple", data := .seq items.toList.reverse.toArray } })
    (hsz : items.size ≤ sizeLine) : wpAny (model prog w) A (getItem (.ref t) (.ref sl)) Q E s := by
  have htake : sizeOk (.seq items.toList.reverse.toArray) := by
    show items.toList.reverse.toArray.size ≤ sizeLine
    rw [List.size_toArray, List.length_reverse, Array.length_toList]
    exact hsz
  obtain ⟨os, hos, hcs, hds⟩ := id hs
  have hTs : s.TypeIs (.ref sl) "slice" := ⟨os, hos, hcs⟩
  unfold getItem
  try with_reducible refine wpAny_holding ?_
  first | refine wpAny_bind (wpAny_pure ?_) | skip
  refine wpAny_bind (wpAny_sequenceKey ht.typeIs (by decide) ?_)
  refine wpAny_bind (wpAny_callSpecial?_slot (name := Str.ofString "__getitem__") ht.typeIs PyProof.Rows.slot_tuple_getitem
    (wpAny_call_entry PyProof.Rows.slot_tuple_getitem ht.typeIs entry_tuple_getitem ?_ (args_tuple_getitem _ _)))
  show wpAny _ _ (Builtin.Tuple.tupleItemsOf (.ref t) >>= _) _ _ s
  refine wpAny_bind (tupleItemsOf_ ht ?_)
  refine wpAny_bind (wpAny_typeOf hTs ?_)
  rw [if_pos (by decide)]
  refine wpAny_bind (sliceApplied_rev hs pl pu ps ?_)
  have hno : ¬ ((((items.size : Int) - 1) == 0 && (-1 : Int) == 1 && items.size == items.size) = true) := by
    intro q
    rw [Bool.and_eq_true, Bool.and_eq_true] at q
    exact absurd q.1.2 (by decide)
  show wpAny _ _ (if (((items.size : Int) - 1) == 0 && (-1 : Int) == 1 && items.size == items.size) = true then _ else _) _ _ s
  rw [if_neg hno, pick_rev]
  first
    | exact wpAny_bind (m := Builtin.Tuple.tupleExact _) (wpAny_newObj_type (wpAny_pure ⟨_, rfl, wpAny_pure h⟩) htake)
    | exact wpAny_bind (m := Builtin.Tuple.tupleExact _) (wpAny_newObj_type (wpAny_bind (wpAny_pure (wpAny_pure ⟨_, rfl, wpAny_pure h⟩))) htake)
    | exact wpAny_bind (wpAny_bind (m := Builtin.Tuple.tupleExact _) (wpAny_newObj_type (wpAny_pure (wpAny_pure ⟨_, rfl, wpAny_pure h⟩)) htake))
    | exact wpAny_bind (wpAny_bind (m := Builtin.Tuple.tupleExact _) (wpAny_newObj_type (wpAny_pure ⟨_, rfl, wpAny_pure h⟩) htake))
end
end HT
namespace L2
open PySem PySem.Spec PyProof.Rows
section
variable {X : Cx}
/-- x[::-1] of a list or of a tuple -/
def tRevA (K : PySem.W.Frag) (te : TE) : TE := fun σ H Q => te σ H fun x H1 => ∃ a xs, x = .ref a ∧ ((SqL K H1 a xs ∧ ∀ p, H1 p = none → Q (.ref p) (upd H1 p (.lst xs.reverse))) ∨ (SqT K H1 a xs ∧ ∀ p, H1 p = none → Q (.ref p) (upd H1 p (.tup xs.reverse))))
theorem pe_revA {e : Expr} {te : TE} {k : Nat} {p1 p2 p3 pos : Pos} (he : PE X e te) : PE X (.Subscript e (.Slice none none (some (.UnaryOp .USub (.Constant (.int 1) k p1) p2)) p3) pos) (tRevA X.K te) := by
  refine ⟨fun pins s σ H Q I h => ?_⟩
  refine Subscript_ (thn (he.run pins s σ H _ I h) fun v s1 ⟨x, H1, I1, r1, q1⟩ => ?_)
  obtain ⟨a, xs, ex, hq⟩ := q1
  subst ex
  cases r1
  have hst : PO X (some (.UnaryOp .USub (.Constant (.int 1) k p1) p2)) (tPart (tUn (rU fun i => .int (-i)) (tC (.int 1)))) := po_some (pe_un un_neg pe_int)
  refine wpAny_Slice (thn (po_none.run pins s1 σ H1 (fun o H2 => o = none ∧ H2 = H1) I1 ⟨rfl, rfl⟩) fun vl s2 ⟨l, H2, I2, pl, el, e2⟩ => ?_)
  subst el e2
  refine thn (po_none.run pins s2 σ H2 (fun o H3 => o = none ∧ H3 = H2) I2 ⟨rfl, rfl⟩) fun vu s3 ⟨u, H3, I3, pu, eu, e3⟩ => ?_
  subst eu e3
  refine thn (hst.run pins s3 σ H3 (fun o H4 => o = some (-1) ∧ H4 = H3) I3 ⟨1, rfl, -1, rfl, rfl, rfl⟩) fun vs s4 ⟨o, H4, I4, ps, eo, e4⟩ => ?_
  subst eo e4
  have I5 : Inv X pins σ H4 { s4 with heap := s4.heap.push { cls := .type "slice", data := .fields #[vl, vu, vs] } } := I4.kept (t' := s4.toks) fun b ob q => Heap.get?_push_of_some _ q
  show wpAny (model X.prog X.w) X.A (subscriptTail e (.Slice none none (some (.UnaryOp .USub (.Constant (.int 1) k p1) p2)) p3) (.ref a) (.ref s4.heap.objs.size)) (EP X pins σ Q) X.xe { s4 with heap := s4.heap.push { cls := .type "slice", data := .fields #[vl, vu, vs] } }
  rcases hq with ⟨hx, q⟩ | ⟨hx, q⟩
  · obtain ⟨its, r, ht, hz⟩ := I5.list hx
    have hlen := r.length
    refine tail_any (ops := [.ref a, .ref s4.heap.objs.size]) ht.isList.typeIs (PySem.slot_list_getitem.lookup) ?_ (by with_unfolding_all rfl)
    refine wpAny_getItem_list_slice ht.isList (Heap.IsSliceOf.new _ vl vu vs) pl pu ps (by decide) ?_ (by rw [List.size_toArray]; omega)
    rw [PySem.W.krv_pick]
    refine ⟨.ref _, _, I5.laid (t' := s4.toks) (o := .lst xs.reverse) (fun b ob q => Heap.get?_push_of_some _ q) (Nat.le_refl _) ?_, rfl, q _ (I5.hok.fresh (Nat.le_refl _))⟩
    exact ⟨by rw [List.length_reverse]; exact hz, _, 0, r.reverse, Heap.get?_push_size _ rfl⟩
  · obtain ⟨its, r, ht, hz⟩ := I5.tuple hx
    have hlen : its.toArray.size = xs.length := by rw [List.size_toArray]; exact r.length.symm
    refine tail_any (ops := [.ref a, .ref s4.heap.objs.size]) ht.typeIs PyProof.Rows.slot_tuple_getitem.lookup ?_ (by with_unfolding_all rfl)
    refine HT.getItem_tuple_rev ht (Heap.IsSliceOf.new _ vl vu vs) pl pu ps ?_ (by rw [hlen]; exact hz)
    refine ⟨.ref _, _, I5.laid (t' := s4.toks) (o := .tup xs.reverse) (fun b ob q => Heap.get?_push_of_some _ q) (Nat.le_refl _) ?_, rfl, q _ (I5.hok.fresh (Nat.le_refl _))⟩
    exact ⟨by rw [List.length_reverse]; exact hz, _, r.reverse, IsTup.new _ _⟩
end
end L2
set_option linter.all false
set_option autoImplicit false
set_option maxRecDepth 100000
/-! What the evaluator tells, the machine does: built-in functions, methods. -/
namespace Pv
open PySem PySem.Spec PyProof.Rows
open L2 (V Hp HO upd upd_same upd_ne VK XK TE TT TA TS TG TGs TI It Cx PE PT PW PA PS PSs PG PGs PI Inv RelV SqL SqT OpR CallR Gl)

theorem maxI_spec : ∀ {ns : List Int} {m : Int}, maxI ns = some m → m ∈ ns ∧ ∀ y ∈ ns, y ≤ m
  | [], _, h => by cases h
  | x :: xs, m, h => by
    unfold maxI at h
    cases e : maxI xs with
    | none =>
      rw [e] at h
      cases h
      cases xs with
      | nil => exact ⟨by simp, fun y hy => by simp at hy; omega⟩
      | cons y ys => unfold maxI at e; split at e <;> cases e
    | some k =>
      rw [e] at h
      obtain ⟨h1, h2⟩ := maxI_spec e
      cases h
      split
      · exact ⟨by simp, fun y hy => by rcases List.mem_cons.mp hy with rfl | hy; exact Int.le_refl _; exact Int.le_trans (h2 y hy) (by omega)⟩
      · exact ⟨List.mem_cons_of_mem _ h1, fun y hy => by rcases List.mem_cons.mp hy with rfl | hy; omega; exact h2 y hy⟩
theorem minI_spec : ∀ {ns : List Int} {m : Int}, minI ns = some m → m ∈ ns ∧ ∀ y ∈ ns, m ≤ y
  | [], _, h => by cases h
  | x :: xs, m, h => by
    unfold minI at h
    cases e : minI xs with
    | none =>
      rw [e] at h
      cases h
      cases xs with
      | nil => exact ⟨by simp, fun y hy => by simp at hy; omega⟩
      | cons y ys => unfold minI at e; split at e <;> cases e
    | some k =>
      rw [e] at h
      obtain ⟨h1, h2⟩ := minI_spec e
      cases h
      split
      · exact ⟨by simp, fun y hy => by rcases List.mem_cons.mp hy with rfl | hy; exact Int.le_refl _; exact Int.le_trans (by omega) (h2 y hy)⟩
      · exact ⟨List.mem_cons_of_mem _ h1, fun y hy => by rcases List.mem_cons.mp hy with rfl | hy; omega; exact h2 y hy⟩
theorem insI_perm (x : Int) : ∀ ys : List Int, (insI x ys).Perm (x :: ys)
  | [] => List.Perm.refl _
  | y :: ys => by
    unfold insI
    split
    · exact List.Perm.refl _
    · exact (List.Perm.cons y (insI_perm x ys)).trans (List.Perm.swap x y ys)
theorem sortI_perm : ∀ xs : List Int, (sortI xs).Perm xs
  | [] => List.Perm.refl _
  | x :: xs => (insI_perm x _).trans (List.Perm.cons x (sortI_perm xs))
theorem insI_sorted (x : Int) : ∀ {ys : List Int}, ys.Pairwise (· ≤ ·) → (insI x ys).Pairwise (· ≤ ·)
  | [], _ => by simp [insI]
  | y :: ys, h => by
    unfold insI
    split
    · rename_i hxy
      refine List.pairwise_cons.mpr ⟨fun z hz => ?_, h⟩
      rcases List.mem_cons.mp hz with rfl | hz
      · exact hxy
      · exact Int.le_trans hxy ((List.pairwise_cons.mp h).1 z hz)
    · refine List.pairwise_cons.mpr ⟨fun z hz => ?_, insI_sorted x (List.pairwise_cons.mp h).2⟩
      have := (insI_perm x ys).mem_iff.mp hz
      rcases List.mem_cons.mp this with rfl | hz
      · omega
      · exact (List.pairwise_cons.mp h).1 z hz
theorem sortI_sorted : ∀ xs : List Int, (sortI xs).Pairwise (· ≤ ·)
  | [] => List.Pairwise.nil
  | x :: xs => insI_sorted x (sortI_sorted xs)
theorem sorted_same {a b : List Int} (hp : a.Perm b) (ha : a.Pairwise (· ≤ ·)) (hb : b.Pairwise (· ≤ ·)) : a = b :=
  List.Perm.eq_of_pairwise (fun x y _ _ h1 h2 => by omega) ha hb hp
theorem intsOf_map : ∀ {xs : List D} {ns : List Int}, intsOf xs = some ns → xs = ns.map .int
  | [], ns, h => by cases h; rfl
  | x :: xs, ns, h => by
    cases x with
    | int i =>
      unfold intsOf at h
      cases e : intsOf xs with
      | none => rw [e] at h; cases h
      | some r => rw [e] at h; cases h; rw [intsOf_map e]; rfl
    | _ => cases h
theorem intsOf_of : ∀ (ns : List Int), intsOf (ns.map .int) = some ns
  | [] => rfl
  | n :: ns => by simp [intsOf, intsOf_of ns]
theorem RDs.of_ints {K : PySem.W.Frag} {H : Hp} {m : List Addr} : ∀ (ns : List Int), RDs K H m (ns.map .int) (ns.map V.int)
  | [] => rfl
  | n :: ns => ⟨.int n, _, rfl, rfl, RDs.of_ints ns⟩
section
variable {X : Cx} {a b c ex : Expr} {f g : DV} {pos : Pos}
theorem listV_at {K : PySem.W.Frag} {m : List Addr} {H H0 : Hp} {S : Sto} {x : Vl} {v : V} {xs : List D} (R : Rl K m H S) (r : RV K H0 H m x v) (h : listV x S = some xs) : ∃ p vs, v = .ref p ∧ SqL K H p vs ∧ RDs K H m xs vs := by
  unfold listV at h
  split at h
  · cases h
  · rename_i ht
    obtain ⟨p, vs, rfl, r3, w3⟩ := items_sq R r h
    rcases w3 with ⟨_, w3⟩ | ⟨w3, _⟩
    · rw [w3] at ht; cases ht
    · exact ⟨p, vs, rfl, w3, r3⟩

/-! ### built-in functions of one argument -/
def rF1 (K : PySem.W.Frag) (o : F1) : List V → Hp → VK → Prop := fun xs H Q => ∃ (H0 : Hp) (m : List Addr) (S : Sto) (x : V) (vx v : Vl), xs = [x] ∧ Rl K m H S ∧ RV K H0 H m vx x ∧ app1 o vx S = some v ∧
  ∀ z H' m', Le H m H' m' → Rl K m' H' S → RV K H H' m' v z → Q z H'
def f1Name : F1 → Str
  | .len => "len" | .abs => "abs" | .int => "int" | .tuple => "tuple" | .list => "list" | .max => "max" | .min => "min" | .sum => "sum" | .sorted => "sorted" | .bool => "bool" | .any => "any" | .all => "all"
def f1Val : F1 → Value
  | .len => .builtin "len" | .abs => .builtin "abs" | .int => .type "int" | .tuple => .type "tuple" | .list => .type "list" | .max => .builtin "max" | .min => .builtin "min" | .sum => .builtin "sum" | .sorted => .builtin "sorted" | .bool => .type "bool" | .any => .builtin "any" | .all => .builtin "all"
theorem callF1 (hc : X.calm = true) (o : F1) : CallR X (f1Val o) (rF1 X.K o) := by
  intro pins s σ H xs us Q I r ⟨H0, m, S, x, vx, v, ex, R, rx, ha, q⟩
  subst ex
  cases o with
  | len =>
    cases e : items vx S with
    | none => simp [app1, e] at ha
    | some xs =>
      have hv : v = .d (.int xs.length) := by simpa [app1, e] using ha.symm
      obtain ⟨p, vs, rfl, r3, w3⟩ := items_sq R rx e
      refine L2.call_len_seq pins s σ H _ us Q I r ⟨p, vs, rfl, ?_, q _ H m (Le.refl H m) R (by rw [hv, r3.length]; rfl)⟩
      rcases w3 with ⟨w3, _⟩ | ⟨w3, _⟩
      · exact .inr (SqT.of w3)
      · exact .inl w3
  | abs =>
    cases vx with
    | fr ys => cases ha
    | d d => cases d with
      | int i =>
        cases ha
        cases (show x = .int i from rx)
        exact L2.call_abs pins s σ H _ us Q I r ⟨i, rfl, q _ H m (Le.refl H m) R rfl⟩
      | _ => cases ha
  | int =>
    cases vx with
    | fr ys => cases ha
    | d d => cases d with
      | int i =>
        cases ha
        cases (show x = .int i from rx)
        exact L2.call_int1 pins s σ H _ us Q I r (.inl ⟨i, rfl, q _ H m (Le.refl H m) R rfl⟩)
      | bl i =>
        cases ha
        cases (show x = .bl i from rx)
        exact L2.call_int1 pins s σ H _ us Q I r (.inr ⟨i, rfl, q _ H m (Le.refl H m) R rfl⟩)
      | _ => cases ha
  | tuple =>
    cases e : items vx S with
    | none => simp [app1, e] at ha
    | some xs =>
      have hv : v = .d (.tup xs) := by simpa [app1, e] using ha.symm
      subst hv
      obtain ⟨p, vs, rfl, r3, w3⟩ := items_sq R rx e
      refine L2.call_tuple_of pins s σ H _ us Q I r ⟨p, vs, rfl, ?_⟩
      rcases w3 with ⟨w3, _⟩ | ⟨w3, _⟩
      · exact .inr ⟨SqT.of w3, q _ H m (Le.refl H m) R ⟨p, vs, rfl, w3, r3⟩⟩
      · exact .inl ⟨w3, RV.laid R r3 q⟩
  | list =>
    cases e : items vx S with
    | none => simp [app1, e] at ha
    | some xs =>
      have hv : v = .fr xs := by simpa [app1, e] using ha.symm
      subst hv
      obtain ⟨p, vs, rfl, r3, w3⟩ := items_sq R rx e
      refine L2.call_list_of pins s σ H _ us Q I r ⟨p, vs, rfl, ?_, RV.laidL R r3 q⟩
      rcases w3 with ⟨w3, _⟩ | ⟨w3, _⟩
      · exact .inr (SqT.of w3)
      · exact .inl w3
  | max =>
    cases e : listV vx S with
    | none => simp [app1, e] at ha
    | some xs => cases e2 : intsOf xs with
      | none => simp [app1, e, e2] at ha
      | some ns => cases e3 : maxI ns with
        | none => simp [app1, e, e2, e3] at ha
        | some k =>
          have hv : v = .d (.int k) := by simpa [app1, e, e2, e3] using ha.symm
          subst hv
          obtain ⟨p, vs, rfl, w3, r3⟩ := listV_at R rx e
          rw [intsOf_map e2] at r3
          rw [r3.ints] at w3
          obtain ⟨k1, k2⟩ := maxI_spec e3
          refine L2.cr_max hc pins s σ H _ us Q I r ⟨p, ns, rfl, w3, List.length_pos_of_mem k1, fun j h1 h2 => ?_⟩
          have ej : j = k := Int.le_antisymm (k2 j h1) (h2 k k1)
          subst ej
          exact q _ H m (Le.refl H m) R rfl
  | min =>
    cases e : listV vx S with
    | none => simp [app1, e] at ha
    | some xs => cases e2 : intsOf xs with
      | none => simp [app1, e, e2] at ha
      | some ns => cases e3 : minI ns with
        | none => simp [app1, e, e2, e3] at ha
        | some k =>
          have hv : v = .d (.int k) := by simpa [app1, e, e2, e3] using ha.symm
          subst hv
          obtain ⟨p, vs, rfl, w3, r3⟩ := listV_at R rx e
          rw [intsOf_map e2] at r3
          rw [r3.ints] at w3
          obtain ⟨k1, k2⟩ := minI_spec e3
          refine L2.cr_min hc pins s σ H _ us Q I r ⟨p, ns, rfl, w3, List.length_pos_of_mem k1, fun j h1 h2 => ?_⟩
          have ej : j = k := Int.le_antisymm (h2 k k1) (k2 j h1)
          subst ej
          exact q _ H m (Le.refl H m) R rfl
  | sum =>
    cases e : listV vx S with
    | none => simp [app1, e] at ha
    | some xs => cases e2 : intsOf xs with
      | none => simp [app1, e, e2] at ha
      | some ns =>
          have hv : v = .d (.int ns.sum) := by simpa [app1, e, e2] using ha.symm
          subst hv
          obtain ⟨p, vs, rfl, w3, r3⟩ := listV_at R rx e
          rw [intsOf_map e2] at r3
          rw [r3.ints] at w3
          exact L2.cr_sum hc pins s σ H _ us Q I r ⟨p, ns, rfl, w3, q _ H m (Le.refl H m) R rfl⟩
  | sorted =>
    cases e : listV vx S with
    | none => simp [app1, e] at ha
    | some xs => cases e2 : intsOf xs with
      | none => simp [app1, e, e2] at ha
      | some ns =>
          have hv : v = .fr ((sortI ns).map .int) := by simpa [app1, e, e2] using ha.symm
          subst hv
          obtain ⟨p, vs, rfl, w3, r3⟩ := listV_at R rx e
          rw [intsOf_map e2] at r3
          rw [r3.ints] at w3
          refine L2.cr_sortedI pins s σ H _ us Q I r ⟨p, ns, rfl, w3, fun ns' p' hp hs hn => ?_⟩
          have en : ns' = sortI ns := sorted_same (hp.trans (sortI_perm ns).symm) hs (sortI_sorted ns)
          subst en
          exact RV.laidL R (RDs.of_ints _) q p' hn
  | _ => cases ha
def bltin : F1 → Bool
  | .int => false | .tuple => false | .list => false | .bool => false
  | _ => true
theorem so_f1 (o : F1) (hc : X.calm = true) {p : Pos} (h : noStar a = true) (hg : Gl X (f1Name o)) (hm : X.mg (f1Name o) = none) (ha : PE X a (tE X.K f)) : PE X (.Call (.Name (f1Name o) p) [a] [] pos) (tE X.K (sF1 o f)) := by
  have hA : PA X [a] (L2.tCons (tE X.K f) L2.tNil) := L2.pa_cons ha L2.pa_nil (star1 h [] X.env)
  have k : ∀ σ H Q, tE X.K (sF1 o f) σ H Q → L2.tCB (rF1 X.K o) (L2.tCons (tE X.K f) L2.tNil) σ H Q := fun σ H Q ⟨b, m, e, S, r, S', hb, R, RE, he, q⟩ => by
    obtain ⟨p1, h1, he⟩ := bind_ok he
    obtain ⟨w, h2, he⟩ := bind_ok he
    have e1 : (w, p1.2) = (r, S') := by injection he
    injection e1 with e1 e2
    subst e1
    subst e2
    exact ⟨b, m, e, S, p1.1, p1.2, hb, R, RE, h1, fun v H' m' z R' rv => ⟨H, m', p1.2, v, p1.1, w, rfl, R', rv, ofO_ok h2, fun t H2 m2 z2 R2 rt => q t H2 m2 (z.trans z2) R2 (RV.from z z2 rt)⟩⟩
  refine PE.imp ?_ k
  have hs := star1 h [] X.env
  cases o with
  | len => exact L2.pe_callB (callF1 hc .len) hg hm boot_len hA (by decide) (by decide) hs rfl
  | abs => exact L2.pe_callB (callF1 hc .abs) hg hm boot_abs hA (by decide) (by decide) hs rfl
  | max => exact L2.pe_callB (callF1 hc .max) hg hm boot_max hA (by decide) (by decide) hs rfl
  | min => exact L2.pe_callB (callF1 hc .min) hg hm boot_min hA (by decide) (by decide) hs rfl
  | sum => exact L2.pe_callB (callF1 hc .sum) hg hm boot_sum hA (by decide) (by decide) hs rfl
  | sorted => exact L2.pe_callB (callF1 hc .sorted) hg hm boot_sorted hA (by decide) (by decide) hs rfl
  | any => exact L2.pe_callB (callF1 hc .any) hg hm boot_any hA (by decide) (by decide) hs rfl
  | all => exact L2.pe_callB (callF1 hc .all) hg hm boot_all hA (by decide) (by decide) hs rfl
  | int => exact L2.pe_callTy (callF1 hc .int) hg hm boot_int hA (by decide) (by decide) hs rfl
  | tuple => exact L2.pe_callTy (callF1 hc .tuple) hg hm boot_tuple hA (by decide) (by decide) hs rfl
  | list => exact L2.pe_callTy (callF1 hc .list) hg hm boot_list hA (by decide) (by decide) hs rfl
  | bool => exact L2.pe_callTy (callF1 hc .bool) hg hm boot_bool hA (by decide) (by decide) hs rfl

/-! ### max, min of two -/
def f2Name : F2 → Str
  | .max => "max" | .min => "min"
def f2Id : F2 → String
  | .max => "max" | .min => "min"
def rF2 (K : PySem.W.Frag) (o : F2) : List V → Hp → VK → Prop := fun xs H Q => ∃ (i j : Int) (k : D), xs = [.int i, .int j] ∧ app2 o (.int i) (.int j) = some k ∧ ∀ z, RD K H [] k z → Q z H
theorem so_f2 (o : F2) (hc : X.calm = true) {p : Pos} (h : noStar a = true) (h' : noStar b = true) (hg : Gl X (f2Name o)) (hm : X.mg (f2Name o) = none) (kf : KV f) (ha : PE X a (tE X.K f)) (hb : PE X b (tE X.K g)) :
    PE X (.Call (.Name (f2Name o) p) [a, b] [] pos) (tE X.K (sF2 o f g)) := by
  have hA : PA X [a, b] (L2.tCons (tD X.K (sD f)) (L2.tCons (tD X.K (sD g)) L2.tNil)) := L2.pa_cons (so_D ha) (L2.pa_cons (so_D hb) L2.pa_nil (star1 h' [] X.env)) (star1 h [b] X.env)
  have hs := star1 h [b] X.env
  have hpl : (backTo pos (starEach [b] X.env)).any (·.1) = false := by rw [star1 h' [] X.env]; rfl
  have two : ∀ {σ : L2.St} {H : Hp} {Q : VK} {r : List V → Hp → VK → Prop}, tE X.K (sF2 o f g) σ H Q → (∀ (i j : Int) (k : D) (H' : Hp), app2 o (.int i) (.int j) = some k → (∀ z, (∃ n, k = .int n ∧ z = .int n) → Q z H') → r [.int i, .int j] H' Q) → L2.tCB r (L2.tCons (tD X.K (sD f)) (L2.tCons (tD X.K (sD g)) L2.tNil)) σ H Q := fun {σ H Q r} ⟨b, m, e, S, w, S', hb, R, RE, he, q⟩ hr => by
    obtain ⟨p1, h1, he⟩ := bind_ok he
    obtain ⟨p2, h2, he⟩ := bind_ok he
    obtain ⟨k, h3, he⟩ := bind_ok he
    have e1 : (Vl.d k, p2.2) = (w, S') := by injection he
    injection e1 with e1 e2
    subst e1
    subst e2
    have k1 := kf.sD b e S p1.1 p1.2 hb h1
    refine ⟨b, m, e, S, p1.1, p1.2, hb, R, RE, h1, fun x H1 m1 z1 R1 rx => ⟨b, m1, e, p1.2, p2.1, p2.2, Nat.le_trans hb k1.len, R1, RE.mono z1, h2, fun y H2 m2 z2 R2 ry => ?_⟩⟩
    have h3' := ofO_ok h3
    have hk : ∃ i j : Int, p1.1 = .int i ∧ p2.1 = .int j := by
      unfold app2 at h3'
      split at h3'
      · exact ⟨_, _, ‹_›, ‹_›⟩
      · exact ⟨_, _, ‹_›, ‹_›⟩
      · cases h3'
    obtain ⟨i, j, e1, e2⟩ := hk
    rw [e1] at rx h3'
    rw [e2] at ry h3'
    cases (show x = .int i from rx)
    cases (show y = .int j from ry)
    exact hr i j k H2 h3' fun z ⟨n, e4, e5⟩ => q z H2 m2 (z1.trans z2) R2 (by subst e4; subst e5; rfl)
  cases o with
  | max =>
    refine PE.imp (L2.pe_callB (L2.call_max2 hc) hg hm boot_max hA (by decide) (by decide) hs hpl) fun σ H Q w => two w fun i j k H' e q => ⟨i, j, rfl, q _ ?_⟩
    cases e
    exact ⟨_, rfl, rfl⟩
  | min =>
    refine PE.imp (L2.pe_callB (L2.call_min2 hc) hg hm boot_min hA (by decide) (by decide) hs hpl) fun σ H Q w => two w fun i j k H' e q => ⟨i, j, rfl, q _ ?_⟩
    cases e
    exact ⟨_, rfl, rfl⟩

/-! ### isinstance -/
def tyName : Ty → Str
  | .int => "int" | .bool => "bool" | .str => "str" | .tuple => "tuple" | .list => "list"
def tyId : Ty → String
  | .int => "int" | .bool => "bool" | .str => "str" | .tuple => "tuple" | .list => "list"
theorem boot_ty (t : Ty) : bootBuiltins (tyName t) = some (.type (tyId t)) := by
  cases t with
  | int => exact boot_int
  | bool => exact boot_bool
  | str => exact boot_str
  | tuple => exact boot_tuple
  | list => exact boot_list
theorem isTy_ok {K : PySem.W.Frag} {m : List Addr} {H : Hp} {S : Sto} {x : D} {v : V} {t : Ty} {k : Bool} (R : Rl K m H S) (r : RD K H m x v) (h : isTy x t S = some k) : ∃ u, L2.TyX K H v u ∧ PySem.W.kitOne K u (.type (tyId t)) = some k := by
  cases x with
  | non => cases (show v = .non from r); refine ⟨_, .base .non, ?_⟩; cases h; cases t <;> exact L2.kit_ty (by decide +kernel)
  | bl j => cases (show v = .bl j from r); refine ⟨_, .base (.bl j), ?_⟩; cases h; cases t <;> exact L2.kit_ty (by decide +kernel)
  | int j => cases (show v = .int j from r); refine ⟨_, .base (.int j), ?_⟩; cases h; cases t <;> exact L2.kit_ty (by decide +kernel)
  | str j => cases (show v = .str j from r); refine ⟨_, .base (.str j), ?_⟩; cases h; cases t <;> exact L2.kit_ty (by decide +kernel)
  | tup xs =>
    obtain ⟨p, vs, rfl, hp, _⟩ := (r : ∃ a vs, v = .ref a ∧ H a = some (.tup vs) ∧ RDs K H m xs vs)
    refine ⟨_, .base (.tup hp), ?_⟩
    cases h; cases t <;> exact L2.kit_ty (by decide +kernel)
  | scr ns => cases h
  | loc l =>
    obtain ⟨p, hp, rfl⟩ := (r : ∃ a, m[l]? = some a ∧ v = .ref a)
    have h' : (match S[l]? with | some (.lst _) => some (t == .list) | _ => none) = some k := h
    split at h'
    · rename_i ys hy
      cases h'
      obtain ⟨vs, h1, h2⟩ := R.lst hp hy
      refine ⟨_, .base (.lst h1), ?_⟩
      cases t <;> exact L2.kit_ty (by decide +kernel)
    · cases h'
theorem so_isi (t : Ty) {p p2 : Pos} (h : noStar a = true) (hg : Gl X "isinstance") (hm : X.mg "isinstance" = none) (hg2 : Gl X (tyName t)) (hm2 : X.mg (tyName t) = none) (kf : KV f) (ha : PE X a (tE X.K f)) :
    PE X (.Call (.Name "isinstance" p) [a, .Name (tyName t) p2] [] pos) (tE X.K (sIsi f t)) := by
  have hT : PE X (.Name (tyName t) p2) (L2.tC (.ty (tyId t))) := L2.pe_bltn hg2 hm2 (boot_ty t) rfl (by cases t <;> decide) (by cases t <;> decide)
  have hA : PA X [a, .Name (tyName t) p2] (L2.tCons (tD X.K (sD f)) (L2.tCons (L2.tC (.ty (tyId t))) L2.tNil)) := L2.pa_cons (so_D ha) (L2.pa_cons hT L2.pa_nil rfl) (star1 h _ X.env)
  refine PE.imp (L2.pe_callB L2.call_isi hg hm boot_isinstance hA (by decide) (by decide) (star1 h _ X.env) rfl) fun σ H Q ⟨b, m, e, S, w, S', hb, R, RE, he, q⟩ => ?_
  obtain ⟨p1, h1, he⟩ := bind_ok he
  obtain ⟨k, h3, he⟩ := bind_ok he
  cases he
  refine ⟨b, m, e, S, p1.1, p1.2, hb, R, RE, h1, fun x H1 m1 z1 R1 rx => ?_⟩
  obtain ⟨u, h4, h5⟩ := isTy_ok R1 rx (ofO_ok h3)
  exact ⟨x, _, u, _, k, rfl, .ty _, h4, h5, q _ H1 m1 z1 R1 rfl⟩

/-! ### list(range(..)), tuple(range(..)) -/
theorem so_ends1 {p : Pos} (h : noStar b = true) (hg : Gl X "range") (hm : X.mg "range" = none) (hb : PE X b (tE X.K g)) :
    ∃ t, L2.PRg X (.Call (.Name "range" p) [b] [] pos) t ∧ ∀ σ H (Q : Int → Int → Hp → Prop), (∃ (b : Nat) (m : List Addr) (e : Env) (S : Sto) (r : Int × Int) (S' : Sto), b ≤ S.length ∧ Rl X.K m H S ∧ RE X.K H m e σ ∧ sEnds oNone g b e S = .ok (r, S') ∧ ∀ H' m', Le H m H' m' → Rl X.K m' H' S' → Q r.1 r.2 H') → t σ H Q := by
  refine ⟨_, L2.prg_1 hg hm (so_D hb) (star1 h [] X.env), fun σ H Q ⟨b, m, e, S, r, S', hb, R, RE, he, q⟩ => ?_⟩
  obtain ⟨p0, h0, he⟩ := bind_ok he
  cases h0
  obtain ⟨p1, h1, he⟩ := bind_ok he
  obtain ⟨j, h2, he⟩ := bind_ok he
  refine ⟨b, m, e, S, p1.1, p1.2, hb, R, RE, h1, fun v H' m' z R' rv => ?_⟩
  have h2' := ofO_ok h2
  unfold intO at h2'
  split at h2'
  · rename_i i hi
    rw [hi] at rv
    cases h2'
    split at he
    · cases he; exact ⟨_, rv, q H' m' z R'⟩
    · cases he
  · cases h2'
theorem so_ends2 {p : Pos} (h : noStar a = true) (h' : noStar b = true) (hg : Gl X "range") (hm : X.mg "range" = none) (kf : KV f) (ha : PE X a (tE X.K f)) (hb : PE X b (tE X.K g)) :
    ∃ t, L2.PRg X (.Call (.Name "range" p) [a, b] [] pos) t ∧ ∀ σ H (Q : Int → Int → Hp → Prop), (∃ (b : Nat) (m : List Addr) (e : Env) (S : Sto) (r : Int × Int) (S' : Sto), b ≤ S.length ∧ Rl X.K m H S ∧ RE X.K H m e σ ∧ sEnds (oSome f) g b e S = .ok (r, S') ∧ ∀ H' m', Le H m H' m' → Rl X.K m' H' S' → Q r.1 r.2 H') → t σ H Q := by
  refine ⟨_, L2.prg_2 hg hm (so_D ha) (so_D hb) (star1 h [b] X.env) (star1 h' [] X.env) (by rw [star1 h' [] X.env]; rfl), fun σ H Q ⟨b, m, e, S, r, S', hb, R, RE, he, q⟩ => ?_⟩
  obtain ⟨p0, h0, he⟩ := bind_ok he
  obtain ⟨q0, h00, h0⟩ := bind_ok h0
  obtain ⟨i, h01, h0⟩ := bind_ok h0
  cases h0
  obtain ⟨p1, h1, he⟩ := bind_ok he
  obtain ⟨j, h2, he⟩ := bind_ok he
  have k1 := kf.sD b e S q0.1 q0.2 hb h00
  refine ⟨b, m, e, S, q0.1, q0.2, hb, R, RE, h00, fun x H1 m1 z1 R1 rx => ⟨b, m1, e, q0.2, p1.1, p1.2, Nat.le_trans hb k1.len, R1, RE.mono z1, h1, fun y H2 m2 z2 R2 ry => ?_⟩⟩
  have h2' := ofO_ok h2
  have h1' := ofO_ok h01
  unfold intO at h1' h2'
  split at h1'
  · rename_i i' hi
    rw [hi] at rx
    cases h1'
    split at h2'
    · rename_i j' hj
      rw [hj] at ry
      cases h2'
      split at he
      · cases he; exact ⟨_, _, rx, ry, q H2 m2 (z1.trans z2) R2⟩
      · cases he
    · cases h2'
  · cases h1'
theorem ends_bd {lo : DO} {b : Nat} {e : Env} {S S' : Sto} {r : Int × Int} (h : sEnds lo g b e S = .ok (r, S')) : (-4611686018427387904 ≤ r.1 ∧ r.1 < 4611686018427387904) ∧ (-4611686018427387904 ≤ r.2 ∧ r.2 < 4611686018427387904) := by
  obtain ⟨p0, h0, he⟩ := bind_ok h
  obtain ⟨p1, h1, he⟩ := bind_ok he
  obtain ⟨j, h2, he⟩ := bind_ok he
  split at he
  · cases he; assumption
  · cases he
theorem rgD_rel {K : PySem.W.Frag} {H : Hp} {m : List Addr} (i j : Int) : RDs K H m (rngD i j) (L2.rgV i j) := by
  unfold rngD L2.rgV
  refine RDs.of_get (by simp) fun n x v e1 e2 => ?_
  rw [List.getElem?_map] at e1 e2
  cases e : (List.range (j - i).toNat)[n]? with
  | none => rw [e] at e1; cases e1
  | some k => rw [e] at e1 e2; cases e1; cases e2; rfl
theorem so_mkr (t : F1) {lo : DO} {er : Expr} {p : Pos} {tr : L2.St → Hp → (Int → Int → Hp → Prop) → Prop} (hc : X.calm = true) (h : noStar er = true) (hg : Gl X (f1Name t)) (hm : X.mg (f1Name t) = none) (hr : L2.PRg X er tr)
    (k : ∀ σ H (Q : Int → Int → Hp → Prop), (∃ (b : Nat) (m : List Addr) (e : Env) (S : Sto) (r : Int × Int) (S' : Sto), b ≤ S.length ∧ Rl X.K m H S ∧ RE X.K H m e σ ∧ sEnds lo g b e S = .ok (r, S') ∧ ∀ H' m', Le H m H' m' → Rl X.K m' H' S' → Q r.1 r.2 H') → tr σ H Q) (ht : t = .list ∨ t = .tuple) :
    PE X (.Call (.Name (f1Name t) p) [er] [] pos) (tE X.K (sMkr t lo g)) := by
  rcases ht with rfl | rfl
  · refine PE.imp (L2.pe_listRg hc hg hm hr (star1 h [] X.env)) fun σ H Q ⟨b, m, e, S, r, S', hb, R, RE, he, q⟩ => ?_
    obtain ⟨p1, h1, he⟩ := bind_ok he
    split at he
    · rename_i hl
      cases he
      have hd := ends_bd h1
      refine k σ H _ ⟨b, m, e, S, p1.1, p1.2, hb, R, RE, h1, fun H' m' z R' => ⟨⟨by omega, by omega, by omega, by omega, hl⟩, RV.laidL R' (rgD_rel _ _) fun w H2 m2 z2 R2 r2 => q w H2 m2 (z.trans z2) R2 (RV.from z z2 r2)⟩⟩
    · cases he
  · refine PE.imp (L2.pe_tupRg hc hg hm hr (star1 h [] X.env)) fun σ H Q ⟨b, m, e, S, r, S', hb, R, RE, he, q⟩ => ?_
    obtain ⟨p1, h1, he⟩ := bind_ok he
    split at he
    · rename_i hl
      cases he
      have hd := ends_bd h1
      refine k σ H _ ⟨b, m, e, S, p1.1, p1.2, hb, R, RE, h1, fun H' m' z R' => ⟨⟨by omega, by omega, by omega, by omega, hl⟩, RV.laid R' (rgD_rel _ _) fun w H2 m2 z2 R2 r2 => q w H2 m2 (z.trans z2) R2 (RV.from z z2 r2)⟩⟩
    · cases he
theorem so_rev {k : Nat} {p1 p2 p3 : Pos} (ha : PE X a (tE X.K f)) : PE X (.Subscript a (.Slice none none (some (.UnaryOp .USub (.Constant (.int 1) k p1) p2)) p3) pos) (tE X.K (sRev f)) :=
  PE.imp (L2.pe_revA ha) fun σ H Q ⟨b, m, e, S, r, S', hb, R, RE, he, q⟩ => by
    obtain ⟨p1, h1, he⟩ := bind_ok he
    obtain ⟨w, h2, he⟩ := bind_ok he
    have e1 : (w, p1.2) = (r, S') := by injection he
    injection e1 with e1 e2
    subst e1
    subst e2
    refine ⟨b, m, e, S, p1.1, p1.2, hb, R, RE, h1, fun v H' m' z R' rv => ?_⟩
    have h2' := ofO_ok h2
    unfold revV at h2'
    split at h2'
    · rename_i xs ht
      have hw : w = .d (.tup xs.reverse) := by simpa using h2'.symm
      subst hw
      have e0 := tupO_some ht
      rw [e0] at rv
      obtain ⟨p, vs, rfl, hp, r3⟩ := (rv : ∃ a vs, v = .ref a ∧ H' a = some (.tup vs) ∧ RDs X.K H' m' xs vs)
      exact ⟨p, vs, rfl, .inr ⟨.inl (.inl hp), RV.laid R' r3.reverse fun t H4 m4 z4 R4 r4 => q t H4 m4 (z.trans z4) R4 (RV.from z z4 r4)⟩⟩
    · rename_i ht
      cases e3 : items p1.1 p1.2 with
      | none => rw [e3] at h2'; cases h2'
      | some xs =>
        rw [e3] at h2'
        have hw : w = .fr xs.reverse := by simpa using h2'.symm
        subst hw
        obtain ⟨p, vs, rfl, r3, w3⟩ := items_sq R' rv e3
        rcases w3 with ⟨_, w3⟩ | ⟨w3, _⟩
        · rw [w3] at ht; cases ht
        · exact ⟨p, vs, rfl, .inl ⟨w3, RV.laidL R' r3.reverse fun t H4 m4 z4 R4 r4 => q t H4 m4 (z.trans z4) R4 (RV.from z z4 r4)⟩⟩
end
end Pv
set_option linter.all false
set_option autoImplicit false
set_option maxRecDepth 100000
/-! What the evaluator tells, the machine does: methods, targets, what is walked. -/
namespace Pv
open PySem PySem.Spec PyProof.Rows
open L2 (V Hp HO upd upd_same upd_ne VK XK TE TT TA TS TG TGs TI It Cx PE PT PW PA PS PSs PG PGs PI Inv RelV SqL SqT OpR CallR Gl)
theorem seq_ix {n : Nat} {i : Int} {j : Nat} (h : ixN n i = some j) : seqIndex? i n = some j ∧ j < n ∧ -(n : Int) ≤ i ∧ i < n := L2.ixN_seq h
theorem meth1_app {b : Nat} {o x : D} {S S' : Sto} {w : Vl} (h : meth1 b .append o x S = .ok (w, S')) : ∃ l xs, o = .loc l ∧ S[l]? = some (.lst xs) ∧ xs.length < line ∧ wr b l x ∧ w = .d .non ∧ S' = S.set l (.lst (xs ++ [x])) := by
  cases o with
  | loc l =>
    unfold meth1 at h
    simp only at h
    split at h
    · rename_i xs hx
      split at h
      · rename_i hc
        have e1 : (Vl.d .non, S.set l (.lst (xs ++ [x]))) = (w, S') := by injection h
        injection e1 with e1 e2
        exact ⟨l, xs, rfl, hx, hc.1, hc.2, e1.symm, e2.symm⟩
      · cases h
    · cases h
  | _ => cases h
theorem meth1_pop {b : Nat} {o x : D} {S S' : Sto} {w : Vl} (h : meth1 b .pop o x S = .ok (w, S')) : ∃ l xs i j y, o = .loc l ∧ x = .int i ∧ S[l]? = some (.lst xs) ∧ ixN xs.length i = some j ∧ xs[j]? = some y ∧ w = .d y ∧ S' = S.set l (.lst (xs.eraseIdx j)) := by
  cases o with
  | loc l => cases x with
    | int i =>
      unfold meth1 at h
      simp only at h
      split at h
      · rename_i xs _ hx hi
        cases hi
        split at h
        · rename_i j hj
          split at h
          · rename_i y hy
            have e1 : (Vl.d y, S.set l (.lst (xs.eraseIdx j))) = (w, S') := by injection h
            injection e1 with e1 e2
            exact ⟨l, xs, i, j, y, rfl, rfl, hx, hj, hy, e1.symm, e2.symm⟩
          · cases h
        · cases h
      · cases h
    | _ =>
      unfold meth1 at h
      simp only at h
      split at h <;> first | cases h | (rename_i hi; cases hi)
  | _ => cases h
theorem meth0_pop {o : D} {S S' : Sto} {w : Vl} (h : meth0 .pop o S = .ok (w, S')) : ∃ l xs y, o = .loc l ∧ S[l]? = some (.lst xs) ∧ xs[xs.length - 1]? = some y ∧ w = .d y ∧ S' = S.set l (.lst xs.dropLast) := by
  cases o with
  | loc l =>
    unfold meth0 at h
    simp only at h
    split at h
    · rename_i xs hx
      split at h
      · rename_i y hy
        have e1 : (Vl.d y, S.set l (.lst xs.dropLast)) = (w, S') := by injection h
        injection e1 with e1 e2
        exact ⟨l, xs, y, rfl, hx, hy, e1.symm, e2.symm⟩
      · cases h
    · cases h
  | _ => cases h
theorem meth0_rev {o : D} {S S' : Sto} {w : Vl} (h : meth0 .reverse o S = .ok (w, S')) : ∃ l xs, o = .loc l ∧ S[l]? = some (.lst xs) ∧ w = .d .non ∧ S' = S.set l (.lst xs.reverse) := by
  cases o with
  | loc l =>
    unfold meth0 at h
    simp only at h
    split at h
    · rename_i xs hx
      have e1 : (Vl.d .non, S.set l (.lst xs.reverse)) = (w, S') := by injection h
      injection e1 with e1 e2
      exact ⟨l, xs, rfl, hx, e1.symm, e2.symm⟩
    · cases h
  | _ => cases h
theorem KV.m0 {f : DV} {m : M0} (kf : KV f) : KV (sM0 m f) := fun b e S r S' hb he => by
  obtain ⟨p1, h1, he⟩ := bind_ok he
  have k1 := kf.sD b e S p1.1 p1.2 hb h1
  refine k1.trans ?_
  unfold meth0 at he
  split at he
  · split at he
    · rename_i xs hx
      split at he
      · cases he
        refine Kp.set fun n hn w hl => ?_
        have := w _ _ hl hx
        refine ubL_mem.mpr fun y hy => (ubL_mem.mp this) y (List.dropLast_subset _ hy)
      · cases he
    · cases he
  · split at he
    · rename_i xs hx
      cases he
      refine Kp.set fun n hn w hl => ?_
      have := w _ _ hl hx
      exact ubL_mem.mpr fun y hy => (ubL_mem.mp this) y (List.mem_reverse.mp hy)
    · cases he
  · cases he
theorem wr_ub {b l n : Nat} {x : D} (h : wr b l x) (hn : n ≤ b) (hl : l < n) : x.ub n = true := by
  rcases h with h | h
  · exact pure_ub h
  · omega
theorem KV.m1 {f g : DV} {m : M1} (kf : KV f) (kg : KV g) : KV (sM1 m f g) := fun b e S r S' hb he => by
  obtain ⟨p1, h1, he⟩ := bind_ok he
  obtain ⟨_, _, he⟩ := bind_ok he
  obtain ⟨p2, h2, he⟩ := bind_ok he
  have k1 := kf.sD b e S p1.1 p1.2 hb h1
  have k2 := k1.trans (kg.sD b e p1.2 p2.1 p2.2 (Nat.le_trans hb k1.len) h2)
  refine k2.trans ?_
  unfold meth1 at he
  split at he
  · split at he
    · rename_i xs hx
      split at he
      · rename_i hc
        cases he
        refine Kp.set fun n hn w hl => ?_
        have := w _ _ hl hx
        show ubL n (xs ++ [p2.1]) = true
        rw [ubL_append, show ubL n xs = true from this]
        simp [ubL, wr_ub hc.2 hn hl]
      · cases he
    · cases he
  · split at he
    · rename_i xs i hx hi
      split at he
      · split at he
        · cases he
          refine Kp.set fun n hn w hl => ?_
          have := w _ _ hl hx
          exact ubL_mem.mpr fun y hy => (ubL_mem.mp this) y (List.eraseIdx_subset hy)
        · cases he
      · cases he
    · cases he
  · split at he
    · split at he
      · split at he
        · cases he
          exact Kp.refl b _
        · cases he
      · cases he
    · cases he
  · cases he
theorem meth1_idx {b : Nat} {o x : D} {S S' : Sto} {w : Vl} (h : meth1 b .index o x S = .ok (w, S')) : ∃ l ds d j z, o = .loc l ∧ pyD pyF S (.loc l) = some (.list ds) ∧ pyD pyF S x = some d ∧ SeqAt.shaped (.list ds) = true ∧ SeqAt.shaped d = true ∧ ds[j]? = some z ∧ PyData.eqv z d = true ∧ (∀ (m : Nat) (z' : PyData), m < j → ds[m]? = some z' → PyData.eqv z' d = false) ∧ w = .d (.int (j : Nat)) ∧ S' = S := by
  cases o with
  | loc l =>
    unfold meth1 at h
    simp only at h
    split at h
    · rename_i ds d h1 h2
      split at h
      · rename_i hs
        split at h
        · rename_i j hj
          have e1 : (Vl.d (.int (j : Nat)), S) = (w, S') := by injection h
          injection e1 with e1 e2
          obtain ⟨hl, hz, hn⟩ := List.findIdx?_eq_some_iff_getElem.mp hj
          refine ⟨l, ds, d, j, ds[j], rfl, h1, h2, hs.1, hs.2, List.getElem?_eq_getElem hl, hz, fun m z' hm hz' => ?_, e1.symm, e2.symm⟩
          obtain ⟨hml, e⟩ := List.getElem?_eq_some_iff.mp hz'
          have := hn m hm
          rw [e] at this
          simpa using this
        · cases h
      · cases h
    · cases h
  | _ => cases h
theorem setI_kp {b : Nat} {o i x : D} {S S' : Sto} (h : setI b o i x S = .ok S') : Kp b S S' := by
  unfold setI at h
  split at h
  · split at h
    · rename_i xs hx
      split at h
      · split at h
        · rename_i hc
          cases h
          refine Kp.set fun n hn w hl => ?_
          have := w _ _ hl hx
          refine ubL_mem.mpr fun y hy => ?_
          rcases List.mem_or_eq_of_mem_set hy with hy | rfl
          · exact (ubL_mem.mp this) y hy
          · exact wr_ub hc hn hl
        · cases h
      · cases h
    · cases h
  · cases h
/-- targets -/
def KG {β : Type} (g : Nat → β → Env → Sto → Rs (Env × Sto)) : Prop := ∀ (b : Nat) (x : β) (e : Env) (S : Sto) (e' : Env) (S' : Sto), b ≤ S.length → g b x e S = .ok (e', S') → Kp b S S' ∧ e'.length = e.length
theorem KG.var (i : Nat) : KG (gVar i) := fun b x e S e' S' hb he => by cases he; exact ⟨Kp.refl b _, by simp⟩
theorem KG.sub {o i : DV} (ko : KV o) (ki : KV i) : KG (gSub o i) := fun b x e S e' S' hb he => by
  obtain ⟨p1, h1, he⟩ := bind_ok he
  obtain ⟨p2, h2, he⟩ := bind_ok he
  obtain ⟨S2, h3, he⟩ := bind_ok he
  cases he
  have k1 := ko.sD b e S p1.1 p1.2 hb h1
  exact ⟨(k1.trans (ki.sD b e p1.2 p2.1 p2.2 (Nat.le_trans hb k1.len) h2)).trans (setI_kp h3), rfl⟩
theorem KG.tup {g : DGs} (kg : KG g) : KG (gTup g) := fun b x e S e' S' hb he => by
  unfold gTup at he
  split at he
  · exact kg b _ e S e' S' hb he
  · cases he
theorem KG.nil : KG gNil := fun b x e S e' S' hb he => by
  unfold gNil at he
  split at he
  · cases he; exact ⟨Kp.refl b _, rfl⟩
  · cases he
theorem KG.cons {t : DG} {ts : DGs} (kt : KG t) (ks : KG ts) : KG (gCons t ts) := fun b x e S e' S' hb he => by
  unfold gCons at he
  split at he
  · cases he
  · obtain ⟨p1, h1, he⟩ := bind_ok he
    obtain ⟨k1, l1⟩ := kt b _ e S p1.1 p1.2 hb h1
    obtain ⟨k2, l2⟩ := ks b _ p1.1 p1.2 e' S' (Nat.le_trans hb k1.len) he
    exact ⟨k1.trans k2, l2.trans l1⟩

section
variable {X : Cx} {a b c ex : Expr} {f g : DV} {pos : Pos}
/-! ### methods of lists -/
def plainO : Expr → Bool
  | .Name .. => true
  | .Subscript .. => true
  | _ => false
theorem attr_plain {o : Expr} (h : plainO o = true) (name : Str) (env : PySem.Env) (w : Sem Value) : attributeBase o name env w = w := by
  cases o with
  | Name _ _ => rfl
  | Subscript _ _ _ => rfl
  | _ => cases h
theorem recv_at {K : PySem.W.Frag} {m : List Addr} {H : Hp} {S : Sto} {x : D} {v : V} {u : Unit} (R : Rl K m H S) (r : RD K H m x v) (h : recv x S = some u) : L2.tyV K "list" v H := by
  unfold recv at h
  split at h
  · rename_i l
    obtain ⟨p, hp, rfl⟩ := (r : ∃ a, m[l]? = some a ∧ v = .ref a)
    split at h
    · rename_i ys hy
      obtain ⟨vs, h1, h2⟩ := R.lst hp hy
      exact .inl ⟨rfl, vs, SqL.of h1⟩
    · cases h
  · cases h
theorem few1 {e : Expr} (h : noStar e = true) (cpos : Pos) (env : PySem.Env) : ((backTo cpos (starEach (e :: []) env)).all (fun x => !x.1) && (backToKw cpos (keywordEach [] env)).all (fun x => x.1.isSome)
      && decide ((e :: ([] : List Expr)).length + ([] : List Keyword).length + (if ([] : List Keyword).isEmpty then 0 else 1) < 30)) = true := by
  rw [star1 h [] env]; rfl
/-- pop(i), the list's length bounded by the machine -/
theorem mt_pop : L2.MtR X "list.pop" (fun x vs H Q => ∃ l xs i k y, x = .ref l ∧ vs = [.int i] ∧ H l = some (.lst xs) ∧ ixN xs.length i = some k ∧ xs[k]? = some y ∧ Q y (upd H l (.lst (xs.eraseIdx k)))) := by
  intro pins s σ H x vs v us Q I rx r ⟨l, xs, i, k, y, e1, e2, h1, h2, h3, q⟩
  obtain ⟨s1, s2, s3, s4⟩ := seq_ix h2
  have hz : xs.length ≤ sizeLine := (I.lstM h1).1
  have hz' : xs.length ≤ 16777216 := hz
  exact L2.mt_popAt pins s σ H x vs v us Q I rx r ⟨l, xs, i, k, y, e1, e2, h1, by omega, by omega, s1, h3, q⟩
def m1Name : M1 → Str
  | .append => "append" | .pop => "pop" | .extend => "extend" | .index => "index" | .get => "get"
theorem so_m1 (hu : X.A.units + 65 < cLine) (m : M1) {apos cpos : Pos} (hm : m = .append ∨ m = .pop ∨ m = .index) (ho : plainO a = true) (h : noStar b = true) (hl : (apos.endLine == cpos.line) = true) (kf : KV f) (ha : PE X a (tE X.K f)) (hb : PE X b (tE X.K g)) :
    PE X (.Call (.Attribute a (m1Name m) apos) [b] [] cpos) (tE X.K (sM1 m f g)) := by
  have hA : PA X [b] (L2.tCons (tD X.K (sD g)) L2.tNil) := L2.pa_cons (so_D hb) L2.pa_nil (star1 h [] X.env)
  have core : ∀ {σ : L2.St} {H : Hp} {Q : VK} {r : V → List V → Hp → VK → Prop}, tE X.K (sM1 m f g) σ H Q → (∀ (x y : V) (dx dy : D) (H' : Hp) (m' : List Addr) (S S' : Sto) (w : Vl) (b' : Nat), Rl X.K m' H' S → RD X.K H' m' dx x → RD X.K H' m' dy y → meth1 b' m dx dy S = .ok (w, S') →
      (∀ z H2 m2, Le H' m' H2 m2 → Rl X.K m2 H2 S' → RV X.K H' H2 m2 w z → Q z H2) → r x [y] H' Q) → L2.tBM X.K "list" r (tD X.K (sD f)) (L2.tCons (tD X.K (sD g)) L2.tNil) σ H Q := fun {σ H Q r} ⟨b, m0, e, S, w, S', hb, R, RE, he, q⟩ hr => by
    obtain ⟨p1, h1, he⟩ := bind_ok he
    obtain ⟨u, h0, he⟩ := bind_ok he
    obtain ⟨p2, h2, he⟩ := bind_ok he
    have k1 := kf.sD b e S p1.1 p1.2 hb h1
    refine ⟨b, m0, e, S, p1.1, p1.2, hb, R, RE, h1, fun x H1 m1 z1 R1 rx => ⟨recv_at R1 rx (ofO_ok h0), b, m1, e, p1.2, p2.1, p2.2, Nat.le_trans hb k1.len, R1, RE.mono z1, h2, fun y H2 m2 z2 R2 ry => ?_⟩⟩
    exact hr x y p1.1 p2.1 H2 m2 p2.2 S' w b R2 (rx.mono z2) ry he fun z H3 m3 z3 R3 r3 => q z H3 m3 (z1.trans (z2.trans z3)) R3 (RV.from (z1.trans z2) z3 r3)
  rcases hm with rfl | rfl | rfl
  · refine PE.imp (L2.pe_bm PySem.F.plainAttrs_list PySem.F.slot_list_append PySem.F.type_list_append L2.mt_append (so_D ha) hA (attr_plain ho _ _ _) (few1 h _ _) hl (star1 h [] X.env) rfl) fun σ H Q w => core w fun x y dx dy H' m' S S' w b' R rx ry he q => ?_
    obtain ⟨l, xs, rfl, hx, hc, _, rfl, rfl⟩ := meth1_app he
    obtain ⟨p, hp, rfl⟩ := (rx : ∃ a, m'[l]? = some a ∧ x = .ref a)
    obtain ⟨vs, h1, h2⟩ := R.lst hp hx
    obtain ⟨z, R'⟩ := R.write (ys := xs ++ [dy]) (ws := vs ++ [y]) hp hx h1 (h2.append ⟨y, [], rfl, ry, rfl⟩)
    exact ⟨p, vs, y, rfl, rfl, h1, by rw [← h2.length]; exact hc, q _ _ m' z R' rfl⟩
  · refine PE.imp (L2.pe_bm PySem.F.plainAttrs_list PySem.F.slot_list_pop PySem.F.type_list_pop mt_pop (so_D ha) hA (attr_plain ho _ _ _) (few1 h _ _) hl (star1 h [] X.env) rfl) fun σ H Q w => core w fun x y dx dy H' m' S S' w b' R rx ry he q => ?_
    obtain ⟨l, xs, i, j, y0, rfl, rfl, hx, hj, hy, rfl, rfl⟩ := meth1_pop he
    cases (show y = .int i from ry)
    obtain ⟨p, hp, rfl⟩ := (rx : ∃ a, m'[l]? = some a ∧ x = .ref a)
    obtain ⟨vs, h1, h2⟩ := R.lst hp hx
    obtain ⟨v, h3, h4⟩ := h2.get hy
    obtain ⟨z, R'⟩ := R.write hp hx h1 (h2.eraseIdx j)
    exact ⟨p, vs, i, j, v, rfl, rfl, h1, by rw [← h2.length]; exact hj, h3, q _ _ m' z R' (h4.mono z)⟩
  · refine PE.imp (L2.pe_bm PySem.F.plainAttrs_list PySem.F.slot_list_index PySem.F.type_list_index (L2.mt_indexD hu) (so_D ha) hA (attr_plain ho _ _ _) (few1 h _ _) hl (star1 h [] X.env) rfl) fun σ H Q w => core w fun x y dx dy H' m' S S' w b' R rx ry he q => ?_
    obtain ⟨l, ds, d, j, z, rfl, h1, h2, s1, s2, hz, hzd, hno, rfl, rfl⟩ := meth1_idx he
    have d1 := pyD_dp R _ _ _ _ rx h1
    have d2 := pyD_dp R _ _ _ _ ry h2
    obtain ⟨p, hp, rfl⟩ := (rx : ∃ a, m'[l]? = some a ∧ x = .ref a)
    exact ⟨p, y, d, ds, j, z, rfl, rfl, d1, d2, s1, s2, hz, hzd, hno, q _ _ m' (Le.refl _ _) R rfl⟩
def m0Name : M0 → Str
  | .pop => "pop" | .reverse => "reverse"
theorem so_m0 (m : M0) {apos cpos : Pos} (ho : plainO a = true) (hl : (apos.endLine == cpos.line) = true) (ha : PE X a (tE X.K f)) : PE X (.Call (.Attribute a (m0Name m) apos) [] [] cpos) (tE X.K (sM0 m f)) := by
  cases m with
  | pop =>
    refine PE.imp (L2.pe_bm0 PySem.F.plainAttrs_list PySem.F.slot_list_pop PySem.F.type_list_pop L2.mt_pop (so_D ha) (attr_plain ho _ _ _) hl) fun σ H Q ⟨b, m0, e, S, w, S', hb, R, RE, he, q⟩ => ?_
    obtain ⟨p1, h1, he⟩ := bind_ok he
    refine ⟨b, m0, e, S, p1.1, p1.2, hb, R, RE, h1, fun x H1 m1 z1 R1 rx => ?_⟩
    obtain ⟨l, xs, y, hl0, hx, hy, rfl, rfl⟩ := meth0_pop he
    rw [hl0] at rx
    obtain ⟨p, hp, rfl⟩ := (rx : ∃ a, m1[l]? = some a ∧ x = .ref a)
    obtain ⟨vs, h1, h2⟩ := R1.lst hp hx
    obtain ⟨v, h3, h4⟩ := h2.get hy
    obtain ⟨z, R'⟩ := R1.write hp hx h1 h2.dropLast
    exact ⟨.inl ⟨rfl, vs, SqL.of h1⟩, p, vs, v, rfl, rfl, h1, by rw [← h2.length]; exact h3, q _ _ m1 (z1.trans z) R' (h4.mono z)⟩
  | reverse =>
    refine PE.imp (L2.pe_bm0 PySem.F.plainAttrs_list PySem.F.slot_list_reverse PySem.F.type_list_reverse L2.mt_reverse (so_D ha) (attr_plain ho _ _ _) hl) fun σ H Q ⟨b, m0, e, S, w, S', hb, R, RE, he, q⟩ => ?_
    obtain ⟨p1, h1, he⟩ := bind_ok he
    refine ⟨b, m0, e, S, p1.1, p1.2, hb, R, RE, h1, fun x H1 m1 z1 R1 rx => ?_⟩
    obtain ⟨l, xs, hl0, hx, rfl, rfl⟩ := meth0_rev he
    rw [hl0] at rx
    obtain ⟨p, hp, rfl⟩ := (rx : ∃ a, m1[l]? = some a ∧ x = .ref a)
    obtain ⟨vs, h1, h2⟩ := R1.lst hp hx
    obtain ⟨z, R'⟩ := R1.write hp hx h1 h2.reverse
    exact ⟨.inl ⟨rfl, vs, SqL.of h1⟩, p, vs, rfl, rfl, h1, q _ _ m1 (z1.trans z) R' rfl⟩

/-! ### targets -/
/-- but for these slots all is as it was -/
def Ws (ts : List Nat) (σ σ' : L2.St) : Prop := ∀ vs : List Nat, (∀ i ∈ ts, i ∈ vs) → L2.wipe σ' vs = L2.wipe σ vs
theorem Ws.refl (ts : List Nat) (σ : L2.St) : Ws ts σ σ := fun _ _ => rfl
theorem wipe_at (σ : L2.St) (j : Nat) : ∀ vs : List Nat, (L2.wipe σ vs)[j]? = if j ∈ vs then (if j < σ.length then some none else none) else σ[j]?
  | [] => by simp [L2.wipe]
  | v :: vs => by
    unfold L2.wipe
    rw [List.getElem?_set, L2.wipe_length]
    by_cases e : v = j
    · subst e; simp
    · rw [if_neg e, wipe_at σ j vs]
      have : (j ∈ v :: vs) ↔ j ∈ vs := by simp [Ne.symm e]
      simp only [this]
theorem Ws.set (i : Nat) (σ : L2.St) (v : V) : Ws [i] σ (σ.set i (some v)) := fun vs h => by
  apply List.ext_getElem?
  intro j
  rw [wipe_at, wipe_at, List.length_set]
  by_cases hj : j ∈ vs
  · rw [if_pos hj, if_pos hj]
  · rw [if_neg hj, if_neg hj, List.getElem?_set_ne]
    intro e
    subst e
    exact hj (h _ (by simp))
def tG {β γ : Type} (K : PySem.W.Frag) (rel : Hp → List Addr → β → γ → Prop) (ts : List Nat) (g : Nat → β → Env → Sto → Rs (Env × Sto)) : γ → L2.St → Hp → (L2.St → Hp → Prop) → Prop := fun v σ H Q =>
  ∃ (b : Nat) (m : List Addr) (e : Env) (S : Sto) (x : β) (e' : Env) (S' : Sto), b ≤ S.length ∧ Rl K m H S ∧ RE K H m e σ ∧ rel H m x v ∧ g b x e S = .ok (e', S') ∧ ∀ σ' H' m', Le H m H' m' → Rl K m' H' S' → RE K H' m' e' σ' → Ws ts σ σ' → Q σ' H'
abbrev tg (K : PySem.W.Frag) (ts : List Nat) (g : DG) : TG := tG K (RD K) ts g
abbrev tgs (K : PySem.W.Frag) (ts : List Nat) (g : DGs) : TGs := tG K (RDs K) ts g
theorem PG.imp {t t' : TG} (h : PG X ex t) (k : ∀ v σ H Q, t' v σ H Q → t v σ H Q) : PG X ex t' := ⟨fun pins s σ H v u Q I r q => h.run pins s σ H v u Q I r (k v σ H Q q)⟩
theorem PGs.imp {es : List Expr} {t t' : TGs} (h : PGs X es t) (k : ∀ v σ H Q, t' v σ H Q → t v σ H Q) : PGs X es t' := ⟨fun pins s σ H v u Q I r q => h.run pins s σ H v u Q I r (k v σ H Q q)⟩
theorem so_gVar {i : Nat} {x : Str} (hN : X.N.Nodup) (hi : X.N[i]? = some x) (hx : L2.Loc X.env.scope x) (hf : X.fn x = true ∨ X.env.scope.names.lookup x = some .local) : PG X (.Name x pos) (tg X.K [i] (gVar i)) :=
  PG.imp (L2.pg_name hN hi hx hf) fun v σ H Q ⟨b, m, e, S, d, e', S', hb, R, RE, rx, he, q⟩ => by
    cases he
    exact q _ H m (Le.refl H m) R (RE.set rx i) (Ws.set i σ v)
theorem set_sub {K : PySem.W.Frag} {m : List Addr} {H : Hp} {S S' : Sto} {o i x : D} {vo vi v : V} {b : Nat} {Q : Hp → Prop} (R : Rl K m H S) (ro : RD K H m o vo) (ri : RD K H m i vi) (rx : RD K H m x v) (h : setI b o i x S = .ok S')
    (q : ∀ H', Le H m H' m → Rl K m H' S' → Q H') : L2.rSetL vo vi v H Q := by
  unfold setI at h
  split at h
  · rename_i l k
    cases (show vi = .int k from ri)
    split at h
    · rename_i xs hx
      split at h
      · rename_i j hj
        split at h
        · cases h
          obtain ⟨p, hp, rfl⟩ := (ro : ∃ a, m[l]? = some a ∧ vo = .ref a)
          obtain ⟨vs, h1, h2⟩ := R.lst hp hx
          obtain ⟨z, R'⟩ := R.write hp hx h1 (h2.set rx j)
          exact ⟨p, vs, k, j, rfl, rfl, h1, by rw [ixN_eq, ← h2.length]; exact hj, q _ z R'⟩
        · cases h
      · cases h
    · cases h
  · cases h
theorem asg_sub {o i : Expr} {tpos : Pos} (h : noSlice i = true) (env : PySem.Env) (v : Value) : assign (.Subscript o i tpos) env v = (do
    let ov ← holding [v] (eval o env)
    let iv ← holding [v, ov] (eval i env)
    standAt tpos
    holding [v, ov, iv] (setItem ov iv v)
    release [v, ov, iv] []) := by
  cases i <;> first | rfl | cases h
theorem so_gSub {o i : DV} (h : noSlice b = true) (ko : KV o) (ho : PE X a (tE X.K o)) (hi : PE X b (tE X.K i)) : PG X (.Subscript a b pos) (tg X.K [] (gSub o i)) :=
  PG.imp (L2.pg_sub (so_D ho) (so_D hi) L2.set_list (asg_sub h X.env)) fun v σ H Q ⟨b, m, e, S, d, e', S', hb, R, RE, rx, he, q⟩ => by
    obtain ⟨p1, h1, he⟩ := bind_ok he
    obtain ⟨p2, h2, he⟩ := bind_ok he
    obtain ⟨S2, h3, he⟩ := bind_ok he
    cases he
    have k1 := ko.sD b e S p1.1 p1.2 hb h1
    exact ⟨b, m, e, S, p1.1, p1.2, hb, R, RE, h1, fun vo H1 m1 z1 R1 ro => ⟨b, m1, e, p1.2, p2.1, p2.2, Nat.le_trans hb k1.len, R1, RE.mono z1, h2, fun vi H2 m2 z2 R2 ri =>
      set_sub R2 (ro.mono z2) ri (rx.mono (z1.trans z2)) h3 fun H3 z3 R3 => q σ H3 m2 (z1.trans (z2.trans z3)) R3 (RE.mono (z1.trans (z2.trans z3))) (Ws.refl _ _)⟩⟩
theorem so_gNil : PGs X [] (tgs X.K [] gNil) := PGs.imp L2.pgs_nil fun v σ H Q ⟨b, m, e, S, d, e', S', hb, R, RE, rx, he, q⟩ => by
  unfold gNil at he
  split at he
  · cases he
    exact ⟨rx, q σ H m (Le.refl H m) R RE (Ws.refl _ _)⟩
  · cases he
theorem starG {e : Expr} (h : noStar e = true) (es : List Expr) (env : PySem.Env) : assignEach (e :: es) env = (false, assign e env) :: assignEach es env := by
  cases e <;> first | rfl | cases h
theorem so_gCons {es : List Expr} {t : DG} {ts : DGs} {is js : List Nat} (h : noStar a = true) (kt : KG t) (ht : PG X a (tg X.K is t)) (hts : PGs X es (tgs X.K js ts)) : PGs X (a :: es) (tgs X.K (is ++ js) (gCons t ts)) :=
  PGs.imp (L2.pgs_cons ht hts (by rw [starG h]; rfl)) fun vs σ H Q ⟨b, m, e, S, d, e', S', hb, R, RE, rx, he, q⟩ => by
    unfold gCons at he
    split at he
    · cases he
    · rename_i x xs
      obtain ⟨p1, h1, he⟩ := bind_ok he
      obtain ⟨v, ws, rfl, r1, r2⟩ := (rx : ∃ v ws, vs = v :: ws ∧ RD X.K H m x v ∧ RDs X.K H m xs ws)
      have k1 := (kt b x e S p1.1 p1.2 hb h1).1
      exact ⟨v, ws, rfl, b, m, e, S, x, p1.1, p1.2, hb, R, RE, r1, h1, fun σ' H' m' z R' RE' w1 => ⟨b, m', p1.1, p1.2, xs, e', S', Nat.le_trans hb k1.len, R', RE', r2.mono z, he, fun σ2 H2 m2 z2 R2 RE2 w2 => q σ2 H2 m2 (z.trans z2) R2 RE2 fun vs hv => (w2 vs fun i hi => hv i (by simp [hi])).trans (w1 vs fun i hi => hv i (by simp [hi]))⟩⟩
theorem gTup_len {ts : DGs} {b : Nat} {xs : List D} {e e' : Env} {S S' : Sto} (n : Nat) (hn : ∀ b xs e S e' S', ts b xs e S = .ok (e', S') → xs.length = n) (h : ts b xs e S = .ok (e', S')) : xs.length = n := hn b xs e S e' S' h
/-- so many items are taken -/
def GL (n : Nat) (ts : DGs) : Prop := ∀ b xs e S r, ts b xs e S = .ok r → xs.length = n
theorem GL.nil : GL 0 gNil := fun b xs e S r h => by
  unfold gNil at h
  split at h
  · rfl
  · cases h
theorem GL.cons {n : Nat} {t : DG} {ts : DGs} (h : GL n ts) : GL (n + 1) (gCons t ts) := fun b xs e S r he => by
  unfold gCons at he
  split at he
  · cases he
  · obtain ⟨p1, h1, he⟩ := bind_ok he
    simp [h b _ _ _ _ he]
theorem each_len : ∀ (es : List Expr) (env : PySem.Env), (assignEach es env).length = es.length
  | [], _ => rfl
  | e :: es, env => by cases e <;> exact congrArg (· + 1) (each_len es env)
theorem each_star {env : PySem.Env} : ∀ {es : List Expr}, es.all noStar = true → (assignEach es env).findIdx? (·.1) = none
  | [], _ => rfl
  | e :: es, h => by
    have h' : noStar e = true ∧ es.all noStar = true := by simpa using h
    rw [starG h'.1, List.findIdx?_cons]
    simp [each_star h'.2]
theorem so_gTup {es : List Expr} {k : Nat} {ts : DGs} {is : List Nat} (hc : X.calm = true) (hn : GL es.length ts) (hst : es.all noStar = true) (hts : PGs X es (tgs X.K is ts)) : PG X (.Tuple es k pos) (tg X.K is (gTup ts)) :=
  PG.imp (L2.pg_tup hc hts (each_len es X.env) (each_star hst)) fun v σ H Q ⟨b, m, e, S, d, e', S', hb, R, RE, rx, he, q⟩ => by
    unfold gTup at he
    split at he
    · rename_i xs
      obtain ⟨p, vs, rfl, hp, r⟩ := (rx : ∃ a vs, v = .ref a ∧ H a = some (.tup vs) ∧ RDs X.K H m xs vs)
      exact ⟨p, vs, rfl, SqT.of hp, by rw [← r.length]; exact hn _ _ _ _ _ he, b, m, e, S, xs, e', S', hb, R, RE, r, he, q⟩
    · cases he
end
end Pv
set_option linter.all false
set_option autoImplicit false
set_option maxRecDepth 100000
/-! enumerate of a tuple, zip of a list and a tuple: what the layer lacks. -/
namespace Pv
open PySem PySem.Spec PyProof.Rows
open L2 (V Hp HO upd upd_same upd_ne VK XK TE TT TA TS TG TGs TI It Cx PE PT PW PA PS PSs PG PGs PI Inv RelV SqL SqT OpR CallR Gl)

set_option maxHeartbeats 1000000 in
theorem enum_new1 {v : Value} {o : Obj} {P : Heap → Prop} (B : Begins v o P) :
    Meets (Builtin.«enumerate.__new__» ⟨[.type "enumerate", v], []⟩) (fun _ R s => P s.heap ∧
      R (.ok (.ret (.ref (s.heap.push o).objs.size))) { s with heap := (s.heap.push o).push { cls := .type "enumerate", data := .fields #[.none, .bool false, .ref s.heap.objs.size, rawInt 0, .none, .none] } }) :=
  .of_wp fun prog w A R s h => by
    obtain ⟨hp, g, d, tk, os⟩ := s
    obtain ⟨h1, h⟩ := h
    have sub := sub_enumerate
    have iter : ∀ {A' : Around} {E : Value → Shared → Prop} {Q : Value → Shared → Prop}, Q (.ref hp.objs.size) ⟨hp.push o, g, d, tk, os⟩ → wpAny (model prog w) A' (pyIter v) Q E ⟨hp, g, d, tk, os⟩ :=
      fun q => B.iter prog w _ _ ⟨hp, g, d, tk, os⟩ _ h1 q
    wp_walk using iter
    refine wpAny_stack_any fun st => wpAny_pure ?_
    split
    · rename_i c _ _ _ _ _
      cases (c == Value.type "enumerate") <;> (wp_walk using iter; exact ⟨_, rfl, h⟩)
    · wp_walk using iter
      exact ⟨_, rfl, h⟩
theorem enum_call1 {prog : Program} {w : World} {A : Around} {E : Value → Shared → Prop} {s : Shared} {v : Value} {o : Obj} {P : Heap → Prop} {Q : Value → Shared → Prop} (B : Begins v o P) (h1 : P s.heap)
    (h : ∀ h', IsEnum h' (s.heap.objs.size + 1) s.heap.objs.size 0 .none → h'.get? s.heap.objs.size = some o → (∀ b u, s.heap.get? b = some u → h'.get? b = some u) → Q (.ref (s.heap.objs.size + 1)) { s with heap := h' }) :
    wpAny (model prog w) A (call (.type "enumerate") [v]) Q E s := by
  refine callType_new F.called_enumerate (by decide) (F.typeCall_enumerate_1 _) (F.newCall_enumerate_1 _) (fun obj => F.args_object_init_2 obj _) F.entry_enumerate_new (enum_new1 B) ⟨h1, ?_⟩
  have hz : (s.heap.push o).objs.size = s.heap.objs.size + 1 := Heap.size_push ..
  have he : IsEnum ((s.heap.push o).push { cls := .type "enumerate", data := .fields #[.none, .bool false, .ref s.heap.objs.size, rawInt 0, .none, .none] }) (s.heap.objs.size + 1) s.heap.objs.size 0 .none := by
    have q := Heap.get?_push_size (s.heap.push o) (o := { cls := .type "enumerate", data := .fields #[.none, .bool false, .ref s.heap.objs.size, rawInt 0, .none, .none] }) rfl
    rw [hz] at q
    exact q
  show _ ∧ _
  rw [hz]
  exact ⟨⟨_, he, rfl⟩, h _ he (Heap.get?_push_of_some _ (Heap.get?_push_size _ B.free)) fun b u q => Heap.get?_push_of_some _ (Heap.get?_push_of_some _ q)⟩

/-- the tuple at a, each item in a new pair with its number -/
def IteT (K : PySem.W.Frag) (a : Addr) : L2.It :=
  ⟨fun i H => ∃ (xs : List V) (x : V), SqT K H a xs ∧ xs[i]? = some x, fun i H v H' => ∃ T x, v = .ref T ∧ H T = none ∧ H' = upd H T (.tup [.int (i : Nat), x]) ∧ ∀ xs, SqT K H a xs → xs[i]? = some x, fun i H => ∃ xs : List V, SqT K H a xs ∧ xs.length = i⟩
theorem turn_enumT {P : Program} {w : World} {K : PySem.W.Frag} {elts : List Expr} {kk : Nat} {tpos : Pos} (a e it : Addr) :
    L2.Turn P w K (.Tuple elts kk tpos) (IteT K a) [e, it] e (fun i h => (∃ old, IsEnum h e it ((i : Nat) : Int) old) ∧ h.IsTupleIter it a i ∧ e ≠ it ∧ a ≠ e ∧ a ≠ it) where
  mem := by simp
  obj := fun i h ⟨⟨old, he⟩, ⟨o, ho, _, hd⟩, _⟩ b hb => by
    rcases (show b = e ∨ b = it by simpa using hb) with rfl | rfl
    · exact ⟨_, he, fun v q => nomatch q⟩
    · exact ⟨o, ho, fun v q => by rw [hd] at q; cases q⟩
  keep := fun i h h' ⟨⟨old, he⟩, hi, r⟩ k => ⟨⟨old, k e (by simp) _ he⟩, hi.at fun o q => k it (by simp) o q, r⟩
  item := by
    intro X hP hw hK hc i pins s σ H E I hf ⟨⟨old, he⟩, hit, hne, hae, hai⟩ ⟨xs, x, hq, hx⟩
    subst hP hw hK
    obtain ⟨its, rv, p, _⟩ := I.tuple hq
    obtain ⟨u, hu, ru⟩ := rv.get hx
    have p' : s.heap.IsTuple a its.toArray := p
    have hlt : i < its.toArray.size := by have := (List.getElem?_eq_some_iff.mp hu).1; simpa using this
    have D := Draws.tuple (prog := X.prog) (w := X.w) (A := X.A.in1) (I.ok.hd hc) it a hai its.toArray
    refine wpAny_pyNext_enum_itemD D he ⟨hit, p'⟩ hlt hne (by simp [hne, Ne.symm hae]) fun y h' tk hy ho hst hT hsz hk => ?_
    have ey : y = u := by
      have h1 : its[i]? = some y := by simpa using hy
      rw [hu] at h1
      exact (Option.some.inj h1).symm
    subst ey
    refine ⟨_, rfl, wpAny_letOwnedTupleGo_enum (s := { s with heap := h', toks := tk + 1 }) ho fun h'' he' sb => ?_⟩
    have hel : e < s.heap.objs.size := Heap.lt_size he
    have hil : it < s.heap.objs.size := by obtain ⟨_, q, _⟩ := hit; exact Heap.lt_size q
    have hT2 : h''.get? s.heap.objs.size = some { cls := .type "tuple", data := .seq #[.int i tk, y] } := (sb.2 _ (Nat.ne_of_gt hel)).trans hT
    have I1 : Inv X pins σ (upd H s.heap.objs.size (.tup [.int (i : Nat), x])) { s with heap := h'', toks := tk + 1 } :=
      I.turnedNew (ch := [e, it]) (fun b ob hb q => (sb.2 b (fun z => hb (by simp [z]))).trans (hk b ob (fun z => hb (by simp [z])) (fun z => hb (by simp [z])) q)) hf (Nat.le_refl _)
        ⟨by show 2 ≤ sizeLine; decide, [.int i tk, y], .cons ⟨_, rfl⟩ (.cons ru .nil), ⟨_, hT2, rfl, _, rfl⟩⟩
    refine ⟨.ref s.heap.objs.size, _, I1, rfl, ⟨_, x, rfl, I.hok.fresh (Nat.le_refl _), rfl, fun ys hy => by rw [I.tuple_inj hy hq]; exact hx⟩, ⟨⟨y, ?_⟩, hst.1.at fun o q => (sb.2 it (Ne.symm hne)).trans q, hne, hae, hai⟩, fun b hb => ?_⟩
    · have e1 : ((i + 1 : Nat) : Int) = (i : Int) + 1 := by omega
      rw [e1]; exact he'
    · have hb' : b < s.heap.objs.size := by
        rcases (show b = e ∨ b = it by simpa using hb) with rfl | rfl
        · exact hel
        · exact hil
      rw [upd_ne (Nat.ne_of_lt hb')]
      exact (hf b hb).1
  done := by
    intro X hP hw hK hc i pins s σ H E I hf ⟨⟨old, he⟩, hit, hne, hae, hai⟩ ⟨xs, hq, hx⟩
    subst hP hw hK
    obtain ⟨its, rv, p, _⟩ := I.tuple hq
    obtain ⟨f0, f1, f2, f3, f4, f5⟩ := hf it (by simp)
    have p' : s.heap.IsTuple a its.toArray := p
    have hl := rv.length
    have D := Draws.tuple (prog := X.prog) (w := X.w) (A := X.A.in1) (I.ok.hd hc) it a hai its.toArray
    have hi : i = its.toArray.size := by simp; omega
    rw [hi] at hit
    exact wpAny_pyNext_enum_endD D he ⟨hit, p'⟩ fun h' eb => ⟨rfl, I.turned (t' := s.toks) (fun b o hb q => eb b o hb q) f0 f1 f3 f4 f5⟩
  self := fun A i s Q E ⟨⟨_, he⟩, _⟩ h => wpAny_pyIter_enum he h
/-- enumerate of a list or a tuple -/
def iEnA (K : PySem.W.Frag) (ta : TA) : L2.TI := fun σ H R => ta σ H fun vs H1 => ∃ a xs, vs = [.ref a] ∧ ((SqL K H1 a xs ∧ R (L2.Ite K a) H1) ∨ (SqT K H1 a xs ∧ R (IteT K a) H1))
theorem pi_enumA {X : Cx} {e : Expr} {ta : TA} {p pos tpos : Pos} {elts : List Expr} {kk : Nat} (hg : Gl X "enumerate") (hm : X.mg "enumerate" = none) (ha : PA X [e] ta) (hs : starEach [e] X.env = [(false, eval e X.env)]) :
    PI X (.Tuple elts kk tpos) (.Call (.Name "enumerate" p) [e] [] pos) (iEnA X.K ta) := by
  refine ⟨fun pins s σ H R I h => ?_⟩
  refine Call_ (L2.ld_blt I hg hm boot_enumerate (PyProof.Rows.callWith_type1 (L2.thn (ha.run pos pins s σ H _ I h) fun us s1 ⟨vs, H1, I1, r1, a, xs, ex, q⟩ => ?_) hs rfl))
  subst ex
  cases r1 with
  | cons r rr =>
    cases rr
    cases r
    have fresh : ∀ b, b ∈ [s1.heap.objs.size + 1, s1.heap.objs.size] → L2.FpOk X pins H1 b := fun b hb => by
      have hle : s1.heap.objs.size ≤ b := by
        rcases (show b = s1.heap.objs.size + 1 ∨ b = s1.heap.objs.size by simpa using hb) with z | z <;> omega
      exact I1.fpOk hle (I1.hok.fresh hle)
    rcases q with ⟨hq, q⟩ | ⟨hq, q⟩
    · obtain ⟨its, rv, p', _⟩ := I1.list hq
      refine call_enumerate_list p'.isList fun h' he hit _ hk => wpAny_pyIter_enum he ?_
      exact ⟨s1.heap.objs.size + 1, _, _, _, H1, rfl, I1.kept (t' := s1.toks) hk, L2.turn_enum a (s1.heap.objs.size + 1) s1.heap.objs.size, ⟨⟨.none, he⟩, hit, Nat.succ_ne_self _⟩, fresh, q⟩
    · obtain ⟨its, rv, p', _⟩ := I1.tuple hq
      have pt : s1.heap.IsTuple a its.toArray := p'
      have hal : a < s1.heap.objs.size := by obtain ⟨o, ho, _⟩ := id pt; exact Heap.lt_size ho
      refine enum_call1 (begins_tuple a its.toArray) pt fun h' he hit hk => wpAny_pyIter_enum he ?_
      exact ⟨s1.heap.objs.size + 1, _, _, _, H1, rfl, I1.kept (t' := s1.toks) hk, turn_enumT a (s1.heap.objs.size + 1) s1.heap.objs.size, ⟨⟨.none, he⟩, ⟨_, hit, rfl, rfl⟩, Nat.succ_ne_self _, Nat.ne_of_lt (Nat.lt_succ_of_lt hal), Nat.ne_of_lt hal⟩, fresh, q⟩
end Pv
set_option linter.all false
set_option autoImplicit false
set_option maxRecDepth 100000
/-! What the evaluator tells, the machine does: what is walked, comprehensions. -/
namespace Pv
open PySem PySem.Spec PyProof.Rows
open L2 (V Hp HO upd upd_same upd_ne VK XK TE TT TA TS TG TGs TI Cx PE PT PW PA PS PSs PG PGs PI Inv RelV SqL SqT OpR CallR Gl)

/-- what is walked gives these items, as long as the lists that it reads stay as they are -/
def Wk (K : PySem.W.Frag) (H : Hp) (m : List Addr) (J : L2.It) (c : Chk) (xs : List D) : Prop := ∀ H2 m2 S2, Le H m H2 m2 → Rl K m2 H2 S2 → c.ok S2 →
  (∀ i, i < xs.length → J.go i H2) ∧ J.stop xs.length H2 ∧ ∀ (i : Nat) (x : D) (v : V) (H3 : Hp), xs[i]? = some x → J.yld i H2 v H3 → Le H2 m2 H3 m2 ∧ Rl K m2 H3 S2 ∧ RD K H3 m2 x v
def tI (K : PySem.W.Frag) (f : DI) : TI := fun σ H R => ∃ (b : Nat) (m : List Addr) (e : Env) (S : Sto) (c : Chk) (xs : List D) (S' : Sto), b ≤ S.length ∧ Rl K m H S ∧ RE K H m e σ ∧ f b e S = .ok ((c, xs), S') ∧
  ∀ J H' m', Le H m H' m' → Rl K m' H' S' → Wk K H' m' J c xs → xs.length ≤ line → R J H'
theorem PI.imp {X : Cx} {tg it : Expr} {t t' : TI} (h : PI X tg it t) (k : ∀ σ H R, t' σ H R → t σ H R) : PI X tg it t' := ⟨fun pins s σ H R I q => h.run pins s σ H R I (k σ H R q)⟩
section
variable {K : PySem.W.Frag} {m : List Addr} {H H0 : Hp} {S : Sto}
def SrcL (K : PySem.W.Frag) (H : Hp) (m : List Addr) (c : Chk) (xs : List D) (p : Addr) : Prop := ∀ H2 m2 S2, Le H m H2 m2 → Rl K m2 H2 S2 → c.ok S2 → ∃ vs, SqL K H2 p vs ∧ RDs K H2 m2 xs vs
def SrcT (K : PySem.W.Frag) (H : Hp) (m : List Addr) (xs : List D) (p : Addr) : Prop := ∀ H2 m2, Le H m H2 m2 → ∃ vs, SqT K H2 p vs ∧ RDs K H2 m2 xs vs
theorem src_of {x : Vl} {v : V} {xs : List D} {c : Chk} (R : Rl K m H S) (r : RV K H0 H m x v) (h : items x S = some xs) (hc : ∀ S2, c.ok S2 → (chkOf x S).ok S2) : ∃ p, v = .ref p ∧ (SrcL K H m c xs p ∨ (SrcT K H m xs p ∧ ∃ ys, tupO x = some ys)) := by
  cases x with
  | fr ys =>
    cases h
    obtain ⟨p, vs, rfl, hp, hn, _, r⟩ := (r : ∃ p vs, v = .ref p ∧ H p = some (.lst vs) ∧ p ∉ m ∧ H0 p = none ∧ RDs K H m xs vs)
    exact ⟨p, rfl, .inl fun H2 m2 S2 z R2 _ => ⟨vs, SqL.of (z.rest p _ hp hn), r.mono z⟩⟩
  | d x =>
    cases x with
    | tup ys =>
      cases h
      obtain ⟨p, vs, rfl, hp, r⟩ := (r : ∃ a vs, v = .ref a ∧ H a = some (.tup vs) ∧ RDs K H m xs vs)
      exact ⟨p, rfl, .inr ⟨fun H2 m2 z => ⟨vs, SqT.of (z.tk.tup p vs hp), r.mono z⟩, xs, rfl⟩⟩
    | scr ns =>
      cases h
      obtain ⟨p, rfl, hp⟩ := (r : ∃ a, v = .ref a ∧ Scr K H a (ns.map V.int))
      exact ⟨p, rfl, .inl fun H2 m2 S2 z R2 _ => ⟨_, (hp.keep z.tk).sq, RDs.of_ints ns⟩⟩
    | loc l =>
      obtain ⟨p, hp, rfl⟩ := (r : ∃ a, m[l]? = some a ∧ v = .ref a)
      have h' : (match S[l]? with | some (.lst xs) => some xs | _ => none) = some xs := h
      split at h'
      · rename_i ys hy
        cases h'
        refine ⟨p, rfl, .inl fun H2 m2 S2 z R2 k => ?_⟩
        have k2 : (chkOf (.d (.loc l)) S).ok S2 := hc S2 k
        have k3 : S2[l]? = some (.lst xs) := by
          have : chkOf (.d (.loc l)) S = [(l, .lst xs)] := by
            show (match S[l]? with | some o => [(l, o)] | none => []) = [(l, .lst xs)]
            rw [hy]
          rw [this] at k2
          exact k2 (l, .lst xs) (by simp)
        obtain ⟨vs, h1, h2⟩ := R2.lst (pre_get z.pre hp) k3
        exact ⟨vs, SqL.of h1, h2⟩
      · cases h'
    | _ => cases h
variable {X : Cx} {pins : List (Addr × Obj)} {σ : L2.St} {s : Shared}
/-! lists' and tuples' contents are one -/
theorem wk_list {c : Chk} {xs : List D} {p : Addr} (h : SrcL K H m c xs p) : Wk K H m (L2.Itl K p) c xs := fun H2 m2 S2 z R2 k => by
  obtain ⟨vs, h1, r⟩ := h H2 m2 S2 z R2 k
  refine ⟨fun i hi => ?_, ⟨vs, h1, Nat.le_of_eq r.length.symm⟩, fun i x v H3 hx ⟨e, y⟩ => ?_⟩
  · obtain ⟨v, hv, _⟩ := r.get (List.getElem?_eq_getElem hi)
    exact ⟨vs, v, h1, hv⟩
  · subst e
    obtain ⟨u, hu, ru⟩ := r.get hx
    have := y vs h1
    rw [hu] at this; cases this
    exact ⟨Le.refl _ _, R2, ru⟩
theorem wk_tup {c : Chk} {xs : List D} {p : Addr} (h : SrcT K H m xs p) : Wk K H m (L2.Itt K p) c xs := fun H2 m2 S2 z R2 k => by
  obtain ⟨vs, h1, r⟩ := h H2 m2 z
  refine ⟨fun i hi => ?_, ⟨vs, h1, Nat.le_of_eq r.length.symm⟩, fun i x v H3 hx ⟨e, y⟩ => ?_⟩
  · obtain ⟨v, hv, _⟩ := r.get (List.getElem?_eq_getElem hi)
    exact ⟨vs, v, h1, hv⟩
  · subst e
    obtain ⟨u, hu, ru⟩ := r.get hx
    have := y vs h1
    rw [hu] at this; cases this
    exact ⟨Le.refl _ _, R2, ru⟩
theorem rev_get {α : Type} {xs : List α} {i : Nat} (hi : i < xs.length) : xs.reverse[i]? = xs[xs.length - 1 - i]? := List.getElem?_reverse hi
theorem wk_rev {c : Chk} {xs : List D} {p : Addr} (h : SrcL K H m c xs p) : Wk K H m (L2.Itv K p xs.length) c xs.reverse := fun H2 m2 S2 z R2 k => by
  obtain ⟨vs, h1, r⟩ := h H2 m2 S2 z R2 k
  have w := L2.walk_rev (K := K) (a := p) (xs := vs)
  rw [← r.length] at w
  refine ⟨fun i hi => w.goes i H2 (by simpa using hi) h1, by rw [List.length_reverse]; exact w.stops H2 h1, fun i x v H3 hx y => ?_⟩
  have hi : i < xs.length := by have := (List.getElem?_eq_some_iff.mp hx).1; simpa using this
  obtain ⟨e, y2⟩ := w.yields i H2 v H3 hi h1 y
  subst e
  rw [rev_get hi] at hx
  obtain ⟨u, hu, ru⟩ := r.get hx
  rw [hu] at y2
  cases y2
  exact ⟨Le.refl _ _, R2, ru⟩
theorem wk_revT {c : Chk} {xs : List D} {p : Addr} (h : SrcT K H m xs p) : Wk K H m (RT.ItvT K p xs.length) c xs.reverse := fun H2 m2 S2 z R2 k => by
  obtain ⟨vs, h1, r⟩ := h H2 m2 z
  have hl := r.length
  refine ⟨fun i hi => ?_, by rw [List.length_reverse]; exact Nat.le_refl _, fun i x v H3 hx ⟨e, y⟩ => ?_⟩
  · have hi' : i < xs.length := by simpa using hi
    have hj : xs.length - 1 - i < xs.length := by omega
    obtain ⟨v, hv, _⟩ := r.get (List.getElem?_eq_getElem hj)
    exact ⟨hi', vs, v, h1, hv⟩
  · subst e
    have hi : i < xs.length := by have := (List.getElem?_eq_some_iff.mp hx).1; simpa using this
    rw [rev_get hi] at hx
    obtain ⟨u, hu, ru⟩ := r.get hx
    have := y vs h1
    rw [hu] at this
    cases this
    exact ⟨Le.refl _ _, R2, ru⟩
theorem enum_get {xs : List D} {i : Nat} {x : D} (h : (enumD xs)[i]? = some x) : ∃ y, xs[i]? = some y ∧ x = .tup [.int (i : Nat), y] := by
  unfold enumD at h
  rw [List.getElem?_map, List.getElem?_zipIdx] at h
  cases e : xs[i]? with
  | none => rw [e] at h; cases h
  | some y => rw [e] at h; simp at h; exact ⟨y, rfl, h.symm⟩
theorem enum_len (xs : List D) : (enumD xs).length = xs.length := by simp [enumD]
theorem pair_laid {T : Addr} {x y : V} {a b : D} {H2 H3 : Hp} {m2 : List Addr} {S2 : Sto} (R2 : Rl K m2 H2 S2) (hT : H2 T = none) (e : H3 = upd H2 T (.tup [x, y])) (r1 : RD K H2 m2 a x) (r2 : RD K H2 m2 b y) :
    Le H2 m2 H3 m2 ∧ Rl K m2 H3 S2 ∧ RD K H3 m2 (.tup [a, b]) (.ref T) := by
  subst e
  obtain ⟨z, R3⟩ := R2.laid (o := .tup [x, y]) hT
  exact ⟨z, R3, T, [x, y], rfl, upd_same, x, [y], rfl, r1.mono z, y, [], rfl, r2.mono z, rfl⟩
theorem wk_enum {c : Chk} {xs : List D} {p : Addr} (h : SrcL K H m c xs p) : Wk K H m (L2.Ite K p) c (enumD xs) := fun H2 m2 S2 z R2 k => by
  obtain ⟨vs, h1, r⟩ := h H2 m2 S2 z R2 k
  rw [enum_len]
  refine ⟨fun i hi => ?_, ⟨vs, h1, Nat.le_of_eq r.length.symm⟩, fun i x v H3 hx ⟨T, y, ev, hT, e3, hy⟩ => ?_⟩
  · obtain ⟨v, hv, _⟩ := r.get (List.getElem?_eq_getElem hi)
    exact ⟨vs, v, h1, hv⟩
  · obtain ⟨d, hd, rfl⟩ := enum_get hx
    obtain ⟨u, hu, ru⟩ := r.get hd
    have := hy vs h1
    rw [hu] at this; cases this
    subst ev
    exact pair_laid R2 hT e3 rfl ru
theorem wk_enumT {c : Chk} {xs : List D} {p : Addr} (h : SrcT K H m xs p) : Wk K H m (IteT K p) c (enumD xs) := fun H2 m2 S2 z R2 k => by
  obtain ⟨vs, h1, r⟩ := h H2 m2 z
  rw [enum_len]
  refine ⟨fun i hi => ?_, ⟨vs, h1, r.length.symm⟩, fun i x v H3 hx ⟨T, y, ev, hT, e3, hy⟩ => ?_⟩
  · obtain ⟨v, hv, _⟩ := r.get (List.getElem?_eq_getElem hi)
    exact ⟨vs, v, h1, hv⟩
  · obtain ⟨d, hd, rfl⟩ := enum_get hx
    obtain ⟨u, hu, ru⟩ := r.get hd
    have := hy vs h1
    rw [hu] at this; cases this
    subst ev
    exact pair_laid R2 hT e3 rfl ru
theorem zip_get {xs ys : List D} {i : Nat} {x : D} (h : (zipD xs ys)[i]? = some x) : ∃ a b, xs[i]? = some a ∧ ys[i]? = some b ∧ x = .tup [a, b] := by
  unfold zipD at h
  rw [List.getElem?_zipWith] at h
  cases e1 : xs[i]? with
  | none => rw [e1] at h; cases h
  | some a => cases e2 : ys[i]? with
    | none => rw [e1, e2] at h; cases h
    | some b => rw [e1, e2] at h; cases h; exact ⟨a, b, rfl, rfl, rfl⟩
theorem zip_len (xs ys : List D) : (zipD xs ys).length = min xs.length ys.length := by simp [zipD]
theorem wk_zip {c : Chk} {xs ys : List D} {p q : Addr} (h : SrcL K H m c xs p) (h' : SrcL K H m c ys q) : Wk K H m (L2.Itz K p q) c (zipD xs ys) := fun H2 m2 S2 z R2 k => by
  obtain ⟨vs, h1, r⟩ := h H2 m2 S2 z R2 k
  obtain ⟨ws, h1', r'⟩ := h' H2 m2 S2 z R2 k
  rw [zip_len]
  have e1 := r.length
  have e2 := r'.length
  refine ⟨fun i hi => ?_, ⟨vs, ws, h1, h1', by omega⟩, fun i x v H3 hx ⟨T, a, b, ev, hT, e3, ha, hb⟩ => ?_⟩
  · obtain ⟨v, hv, _⟩ := r.get (List.getElem?_eq_getElem (show i < xs.length by omega))
    obtain ⟨w, hw, _⟩ := r'.get (List.getElem?_eq_getElem (show i < ys.length by omega))
    exact ⟨vs, ws, v, w, h1, h1', hv, hw⟩
  · obtain ⟨d, d', hd, hd', rfl⟩ := zip_get hx
    obtain ⟨u, hu, ru⟩ := r.get hd
    obtain ⟨u', hu', ru'⟩ := r'.get hd'
    have q1 := ha vs h1
    have q2 := hb ws h1'
    rw [hu] at q1; cases q1
    rw [hu'] at q2; cases q2
    subst ev
    exact pair_laid R2 hT e3 ru ru'
theorem wk_zipT {c : Chk} {xs ys : List D} {p q : Addr} (h : SrcT K H m xs p) (h' : SrcT K H m ys q) : Wk K H m (RZ.ItzT K p q) c (zipD xs ys) := fun H2 m2 S2 z R2 k => by
  obtain ⟨vs, h1, r⟩ := h H2 m2 z
  obtain ⟨ws, h1', r'⟩ := h' H2 m2 z
  rw [zip_len]
  have e1 := r.length
  have e2 := r'.length
  refine ⟨fun i hi => ?_, ⟨vs, ws, h1, h1', by omega⟩, fun i x v H3 hx ⟨T, a, b, ev, hT, e3, ha, hb⟩ => ?_⟩
  · obtain ⟨v, hv, _⟩ := r.get (List.getElem?_eq_getElem (show i < xs.length by omega))
    obtain ⟨w, hw, _⟩ := r'.get (List.getElem?_eq_getElem (show i < ys.length by omega))
    exact ⟨vs, ws, v, w, h1, h1', hv, hw⟩
  · obtain ⟨d, d', hd, hd', rfl⟩ := zip_get hx
    obtain ⟨u, hu, ru⟩ := r.get hd
    obtain ⟨u', hu', ru'⟩ := r'.get hd'
    have q1 := ha vs h1
    have q2 := hb ws h1'
    rw [hu] at q1; cases q1
    rw [hu'] at q2; cases q2
    subst ev
    exact pair_laid R2 hT e3 ru ru'
theorem wk_zipM {c : Chk} {xs ys : List D} {p q : Addr} (h : SrcT K H m xs p) (h' : SrcL K H m c ys q) : Wk K H m (ItM K p q) c (zipD xs ys) := fun H2 m2 S2 z R2 k => by
  obtain ⟨vs, h1, r⟩ := h H2 m2 z
  obtain ⟨ws, h1', r'⟩ := h' H2 m2 S2 z R2 k
  rw [zip_len]
  have e1 := r.length
  have e2 := r'.length
  refine ⟨fun i hi => ?_, ⟨vs, ws, h1, h1', by omega, by omega, by omega⟩, fun i x v H3 hx ⟨T, a, b, ev, hT, e3, ha, hb⟩ => ?_⟩
  · obtain ⟨v, hv, _⟩ := r.get (List.getElem?_eq_getElem (show i < xs.length by omega))
    obtain ⟨w, hw, _⟩ := r'.get (List.getElem?_eq_getElem (show i < ys.length by omega))
    exact ⟨vs, ws, v, w, h1, h1', hv, hw⟩
  · obtain ⟨d, d', hd, hd', rfl⟩ := zip_get hx
    obtain ⟨u, hu, ru⟩ := r.get hd
    obtain ⟨u', hu', ru'⟩ := r'.get hd'
    have q1 := ha vs h1
    have q2 := hb ws h1'
    rw [hu] at q1; cases q1
    rw [hu'] at q2; cases q2
    subst ev
    exact pair_laid R2 hT e3 ru ru'
theorem wk_rng {c : Chk} (i j : Int) : Wk K H m (L2.Itr i (j - i).toNat) c (rngD i j) := fun H2 m2 S2 z R2 k => by
  have hl : (rngD i j).length = (j - i).toNat := by simp [rngD]
  rw [hl]
  refine ⟨fun n hn => hn, Nat.le_refl _, fun n x v H3 hx ⟨e, y⟩ => ?_⟩
  subst e
  subst y
  unfold rngD at hx
  rw [List.getElem?_map] at hx
  cases e : (List.range (j - i).toNat)[n]? with
  | none => rw [e] at hx; cases hx
  | some k =>
    rw [e] at hx
    have : k = n := by
      obtain ⟨h1, h2⟩ := List.getElem?_eq_some_iff.mp e
      simpa using h2.symm
    subst this
    cases hx
    exact ⟨Le.refl _ _, R2, rfl⟩
theorem wk_rrg {c : Chk} (i j : Int) : Wk K H m (L2.Itc (i + (((j - i).toNat : Nat) : Int) - 1) (-1) (j - i).toNat) c (rngD i j).reverse := fun H2 m2 S2 z R2 k => by
  have hl : (rngD i j).reverse.length = (j - i).toNat := by simp [rngD]
  rw [hl]
  refine ⟨fun n hn => hn, Nat.le_refl _, fun n x v H3 hx ⟨e, y⟩ => ?_⟩
  subst e
  subst y
  have hn : n < (rngD i j).length := by
    have := (List.getElem?_eq_some_iff.mp hx).1
    simpa using this
  have hn2 : n < (j - i).toNat := by simpa [rngD] using hn
  rw [List.getElem?_reverse hn] at hx
  unfold rngD at hx
  rw [List.getElem?_map] at hx
  obtain ⟨k, hk, e⟩ := Option.map_eq_some_iff.mp hx
  obtain ⟨h1, h2⟩ := List.getElem?_eq_some_iff.mp hk
  simp at h2
  subst h2
  subst e
  refine ⟨Le.refl _ _, R2, ?_⟩
  show V.int (i + (((j - i).toNat : Nat) : Int) - 1 + (n : Nat) * (-1)) = V.int (i + (((j - i).toNat - 1 - n : Nat) : Int))
  congr 1
  omega
end
section
variable {X : Cx} {a b c ex tgt : Expr} {f g : DV} {pos : Pos}
/-- a value that is a list or a tuple, whichever: two rules joined -/
theorem PI.or {X : Cx} {tg l : Expr} {t : TE} (hl : PE X l t) : PI X tg l (fun σ H R => t σ H fun x H1 => ∃ p, x = .ref p ∧ ((∃ xs, SqL X.K H1 p xs) ∧ R (L2.Itl X.K p) H1 ∨ (∃ xs, SqT X.K H1 p xs) ∧ R (L2.Itt X.K p) H1)) := by
  refine ⟨fun pins s σ H R I h => ?_⟩
  refine L2.thn (hl.run pins s σ H _ I h) fun v s1 ⟨x, H1, I1, r1, p, ex, q⟩ => ?_
  subst ex
  have own : PE (X) l (fun _ _ Q => True) → True := fun _ => trivial
  cases r1
  rcases q with ⟨⟨xs, hq⟩, q⟩ | ⟨⟨xs, hq⟩, q⟩
  · obtain ⟨its, rv, p', _⟩ := I1.list hq
    refine wpAny_pyIter_list p'.isList ?_
    refine ⟨s1.heap.objs.size, [s1.heap.objs.size], _, _, H1, rfl, I1.kept (t' := s1.toks) fun b u e => Heap.get?_push_of_some _ e, L2.turn_list p s1.heap.objs.size, ⟨_, Heap.get?_push_size _ rfl, rfl, rfl⟩, fun b hb => ?_, q⟩
    have e' : b = s1.heap.objs.size := by simpa using hb
    subst e'
    exact I1.fpOk (Nat.le_refl _) (I1.hok.fresh (Nat.le_refl _))
  · obtain ⟨its, rv, p', _⟩ := I1.tuple hq
    refine wpAny_pyIter_tuple (show s1.heap.IsTuple p its.toArray from p') ?_
    refine ⟨s1.heap.objs.size, [s1.heap.objs.size], _, _, H1, rfl, I1.kept (t' := s1.toks) fun b u e => Heap.get?_push_of_some _ e, L2.turn_tuple p s1.heap.objs.size, ⟨_, Heap.get?_push_size _ rfl, rfl, rfl⟩, fun b hb => ?_, q⟩
    have e' : b = s1.heap.objs.size := by simpa using hb
    subst e'
    exact I1.fpOk (Nat.le_refl _) (I1.hok.fresh (Nat.le_refl _))
/-- what the machine knows where a walk begins -/
theorem PI.inv {X : Cx} {tg it : Expr} {t : TI} (h : PI X tg it t) : PI X tg it fun σ H R => t σ H fun J H1 => (∃ pins s, Inv X pins σ H1 s) → R J H1 :=
  ⟨fun pins s σ H R I q => L2.thn (h.run pins s σ H _ I q) fun v s1 h1 => L2.thn h1 fun w s2 ⟨it, fp, tn, J, H', e, I', T, t0, f, r⟩ => ⟨it, fp, tn, J, H', e, I', T, t0, f, r ⟨pins, s2, I'⟩⟩⟩
theorem chk_now (x : Vl) (S : Sto) : (chkOf x S).ok S := fun p hp => by
  unfold chkOf at hp
  split at hp
  · split at hp
    · rename_i o ho
      rw [List.mem_singleton.mp hp]
      exact ho
    · cases hp
  · cases hp
theorem src_len {p : Addr} {m : List Addr} {c : Chk} {xs : List D} {S : Sto} {H : Hp} {pins : List (Addr × Obj)} {σ : L2.St} {s : Shared} (I : Inv X pins σ H s) (R : Rl X.K m H S) (hc : c.ok S) (w : SrcL X.K H m c xs p ∨ SrcT X.K H m xs p) : xs.length ≤ line := by
  rcases w with w | w
  · obtain ⟨vs, h1, h2⟩ := w H m S (Le.refl _ _) R hc
    obtain ⟨_, _, _, hz⟩ := I.list h1
    rw [h2.length]; exact hz
  · obtain ⟨vs, h1, h2⟩ := w H m (Le.refl _ _)
    obtain ⟨_, _, _, hz⟩ := I.tuple h1
    rw [h2.length]; exact hz
theorem so_iE (ha : PE X a (tE X.K f)) : PI X tgt a (tI X.K (iE f)) := PI.imp (PI.inv (PI.or ha)) fun σ H R ⟨b, m, e, S, c, xs, S', hb, Rr, RE, he, q⟩ => by
  obtain ⟨p1, h1, he⟩ := bind_ok he
  obtain ⟨ys, h2, he⟩ := bind_ok he
  have e1 : ((chkOf p1.1 p1.2, ys), p1.2) = ((c, xs), S') := by injection he
  injection e1 with e1 e2
  injection e1 with e1 e3
  subst e1
  subst e2
  subst e3
  refine ⟨b, m, e, S, p1.1, p1.2, hb, Rr, RE, h1, fun v H' m' z R' rv => ?_⟩
  obtain ⟨p, rfl, w⟩ := src_of (c := chkOf p1.1 p1.2) R' rv (ofO_ok h2) fun _ k => k
  refine ⟨p, rfl, ?_⟩
  have hl := fun pins s (I : Inv X pins σ H' s) => src_len I R' (chk_now _ _) (w.imp_right And.left)
  rcases w with w | w
  · obtain ⟨vs, h3, _⟩ := w H' m' p1.2 (Le.refl _ _) R' (chk_now _ _)
    exact .inl ⟨⟨vs, h3⟩, fun ⟨pins, s, I⟩ => q _ H' m' z R' (wk_list w) (hl pins s I)⟩
  · replace w := w.1
    obtain ⟨vs, h3, _⟩ := w H' m' (Le.refl _ _)
    exact .inr ⟨⟨vs, h3⟩, fun ⟨pins, s, I⟩ => q _ H' m' z R' (wk_tup w) (hl pins s I)⟩
theorem so_iRev {p : Pos} (h : noStar a = true) (hg : Gl X "reversed") (hm : X.mg "reversed" = none) (ha : PE X a (tE X.K f)) : PI X tgt (.Call (.Name "reversed" p) [a] [] pos) (tI X.K (iRev f)) := PI.imp (PI.inv (RT.pi_revA hg hm ha (star1 h [] X.env))) fun σ H R ⟨b, m, e, S, c, xs, S', hb, Rr, RE, he, q⟩ => by
  obtain ⟨p1, h1, he⟩ := bind_ok he
  obtain ⟨ys, h2, he⟩ := bind_ok he
  have e1 : ((chkOf p1.1 p1.2, ys.reverse), p1.2) = ((c, xs), S') := by injection he
  injection e1 with e1 e2
  injection e1 with e1 e3
  subst e1
  subst e2
  subst e3
  refine ⟨b, m, e, S, p1.1, p1.2, hb, Rr, RE, h1, fun v H' m' z R' rv => ?_⟩
  obtain ⟨p, rfl, w⟩ := src_of (c := chkOf p1.1 p1.2) R' rv (ofO_ok h2) fun _ k => k
  have hl := fun pins s (I : Inv X pins σ H' s) => src_len I R' (chk_now _ _) (w.imp_right And.left)
  rcases w with w | w
  · obtain ⟨vs, h3, h4⟩ := w H' m' p1.2 (Le.refl _ _) R' (chk_now _ _)
    refine ⟨p, vs, rfl, .inl ⟨h3, fun ⟨pins, s, I⟩ => ?_⟩⟩
    rw [← h4.length]
    exact q _ H' m' z R' (wk_rev w) (by rw [List.length_reverse]; exact hl pins s I)
  · replace w := w.1
    obtain ⟨vs, h3, h4⟩ := w H' m' (Le.refl _ _)
    refine ⟨p, vs, rfl, .inr ⟨h3, fun ⟨pins, s, I⟩ => ?_⟩⟩
    rw [← h4.length]
    exact q _ H' m' z R' (wk_revT w) (by rw [List.length_reverse]; exact hl pins s I)
theorem so_iEnum {p tpos : Pos} {elts : List Expr} {kk : Nat} (h : noStar a = true) (hg : Gl X "enumerate") (hm : X.mg "enumerate" = none) (ha : PE X a (tE X.K f)) : PI X (.Tuple elts kk tpos) (.Call (.Name "enumerate" p) [a] [] pos) (tI X.K (iEnum f)) :=
  PI.imp (PI.inv (pi_enumA hg hm (L2.pa_cons ha L2.pa_nil (star1 h [] X.env)) (star1 h [] X.env))) fun σ H R ⟨b, m, e, S, c, xs, S', hb, Rr, RE, he, q⟩ => by
  obtain ⟨p1, h1, he⟩ := bind_ok he
  obtain ⟨ys, h2, he⟩ := bind_ok he
  have e1 : ((chkOf p1.1 p1.2, enumD ys), p1.2) = ((c, xs), S') := by injection he
  injection e1 with e1 e2
  injection e1 with e1 e3
  subst e1
  subst e2
  subst e3
  refine ⟨b, m, e, S, p1.1, p1.2, hb, Rr, RE, h1, fun v H' m' z R' rv => ?_⟩
  obtain ⟨p, rfl, w⟩ := src_of (c := chkOf p1.1 p1.2) R' rv (ofO_ok h2) fun _ k => k
  have hl := fun pins s (I : Inv X pins σ H' s) => src_len I R' (chk_now _ _) (w.imp_right And.left)
  rcases w with w | w
  · obtain ⟨vs, h3, h4⟩ := w H' m' p1.2 (Le.refl _ _) R' (chk_now _ _)
    exact ⟨p, vs, rfl, .inl ⟨h3, fun ⟨pins, s, I⟩ => q _ H' m' z R' (wk_enum w) (by rw [enum_len]; exact hl pins s I)⟩⟩
  · replace w := w.1
    obtain ⟨vs, h3, h4⟩ := w H' m' (Le.refl _ _)
    exact ⟨p, vs, rfl, .inr ⟨h3, fun ⟨pins, s, I⟩ => q _ H' m' z R' (wk_enumT w) (by rw [enum_len]; exact hl pins s I)⟩⟩
theorem tup_src {K : PySem.W.Frag} {H H0 : Hp} {m : List Addr} {S : Sto} {x : Vl} {v : V} {xs : List D} {c : Chk} (R : Rl K m H S) (r : RV K H0 H m x v) (h : items x S = some xs) (hc : ∀ S2, c.ok S2 → (chkOf x S).ok S2) :
    ∃ p, v = .ref p ∧ (((tupO x).isSome = true ∧ SrcT K H m xs p) ∨ ((tupO x).isSome = false ∧ SrcL K H m c xs p)) := by
  cases e : tupO x with
  | some ys =>
    rw [tupO_some e] at h r
    cases h
    obtain ⟨p, vs, rfl, hp, r⟩ := (r : ∃ a vs, v = .ref a ∧ H a = some (.tup vs) ∧ RDs K H m xs vs)
    exact ⟨p, rfl, .inl ⟨rfl, fun H2 m2 z => ⟨vs, SqT.of (z.tk.tup p vs hp), r.mono z⟩⟩⟩
  | none =>
    obtain ⟨p, rfl, w⟩ := src_of (c := c) R r h hc
    refine ⟨p, rfl, .inr ⟨rfl, ?_⟩⟩
    rcases w with w | w
    · exact w
    · rcases w.2 with ⟨ys, hy⟩
      rw [hy] at e; cases e
theorem so_iZip {p tpos : Pos} {elts : List Expr} {kk : Nat} (h : noStar a = true) (h' : noStar b = true) (hg : Gl X "zip") (hm : X.mg "zip" = none) (kf : KV f) (ha : PE X a (tE X.K f)) (hb : PE X b (tE X.K g)) :
    PI X (.Tuple elts kk tpos) (.Call (.Name "zip" p) [a, b] [] pos) (tI X.K (iZip f g)) :=
  PI.imp (PI.inv (pi_zipX hg hm (L2.pa_cons ha (L2.pa_cons hb L2.pa_nil (star1 h' [] X.env)) (star1 h [b] X.env)) (star1 h [b] X.env) (by rw [star1 h' [] X.env]; rfl))) fun σ H R ⟨b, m, e, S, c, xs, S', hb, Rr, RE, he, q⟩ => by
  obtain ⟨p1, h1, he⟩ := bind_ok he
  obtain ⟨p2, h2, he⟩ := bind_ok he
  obtain ⟨ys, h3, he⟩ := bind_ok he
  obtain ⟨zs, h4, he⟩ := bind_ok he
  split at he
  · rename_i hs
    have e1 : ((chkOf p1.1 p2.2 ++ chkOf p2.1 p2.2, zipD ys zs), p2.2) = ((c, xs), S') := by injection he
    injection e1 with e1 e2
    injection e1 with e1 e3
    subst e1
    subst e2
    subst e3
    refine two_of kf hb Rr RE h1 h2 fun x y H' m' z R' rx ry => ?_
    obtain ⟨p, rfl, w1⟩ := tup_src (c := chkOf p1.1 p2.2 ++ chkOf p2.1 p2.2) R' rx (ofO_ok h3) fun _ k u hu => k u (List.mem_append_left _ hu)
    obtain ⟨p', rfl, w2⟩ := tup_src (c := chkOf p1.1 p2.2 ++ chkOf p2.1 p2.2) R' ry (ofO_ok h4) fun _ k u hu => k u (List.mem_append_right _ hu)
    have now : (chkOf p1.1 p2.2 ++ chkOf p2.1 p2.2).ok p2.2 := fun u hu => (List.mem_append.mp hu).elim (chk_now _ _ u) (chk_now _ _ u)
    rcases w1 with ⟨t1, w1⟩ | ⟨t1, w1⟩ <;> rcases w2 with ⟨t2, w2⟩ | ⟨t2, w2⟩
    · obtain ⟨vs, q1, _⟩ := w1 H' m' (Le.refl _ _)
      obtain ⟨ws, q2, _⟩ := w2 H' m' (Le.refl _ _)
      exact ⟨p, p', vs, ws, rfl, .inr (.inl ⟨q1, q2, fun ⟨pins, s, I⟩ => q _ H' m' z R' (wk_zipT w1 w2) (by rw [zip_len]; exact Nat.le_trans (Nat.min_le_left _ _) (src_len I R' now (.inr w1)))⟩)⟩
    · obtain ⟨vs, q1, _⟩ := w1 H' m' (Le.refl _ _)
      obtain ⟨ws, q2, _⟩ := w2 H' m' p2.2 (Le.refl _ _) R' now
      exact ⟨p, p', vs, ws, rfl, .inr (.inr ⟨q1, q2, fun ⟨pins, s, I⟩ => q _ H' m' z R' (wk_zipM w1 w2) (by rw [zip_len]; exact Nat.le_trans (Nat.min_le_left _ _) (src_len I R' now (.inr w1)))⟩)⟩
    · rw [t1, t2] at hs; cases hs
    · obtain ⟨vs, q1, _⟩ := w1 H' m' p2.2 (Le.refl _ _) R' now
      obtain ⟨ws, q2, _⟩ := w2 H' m' p2.2 (Le.refl _ _) R' now
      exact ⟨p, p', vs, ws, rfl, .inl ⟨q1, q2, fun ⟨pins, s, I⟩ => q _ H' m' z R' (wk_zip w1 w2) (by rw [zip_len]; exact Nat.le_trans (Nat.min_le_left _ _) (src_len I R' now (.inl w1)))⟩⟩
  · cases he
theorem so_iRng1 {p : Pos} (h : noStar b = true) (hg : Gl X "range") (hm : X.mg "range" = none) (hb : PE X b (tE X.K g)) : PI X tgt (.Call (.Name "range" p) [b] [] pos) (tI X.K (iRng oNone g)) :=
  PI.imp (L2.pi_range1 hg hm (L2.pa_cons (so_D hb) L2.pa_nil (star1 h [] X.env)) (star1 h [] X.env)) fun σ H R ⟨b, m, e, S, c, xs, S', hb, Rr, RE, he, q⟩ => by
  obtain ⟨p1, h1, he⟩ := bind_ok he
  split at he
  · rename_i hl
    have hd := ends_bd h1
    have e1 : (([], rngD p1.1.1 p1.1.2), p1.2) = ((c, xs), S') := by injection he
    injection e1 with e1 e2
    injection e1 with e1 e3
    subst e1
    subst e2
    subst e3
    obtain ⟨p0, h0, h1⟩ := bind_ok h1
    cases h0
    obtain ⟨p2, h2, h1⟩ := bind_ok h1
    obtain ⟨j, h3, h1⟩ := bind_ok h1
    refine ⟨b, m, e, S, p2.1, p2.2, hb, Rr, RE, h2, fun v H' m' z R' rv => ?_⟩
    have h3' := ofO_ok h3
    unfold intO at h3'
    split at h3'
    · rename_i i hi
      rw [hi] at rv
      have ej : i = j := by injection h3'
      subst ej
      split at h1
      · have e6 : (((0 : Int), i), p2.2) = p1 := by injection h1
        subst e6
        refine ⟨i, by rw [show v = .int i from rv], by omega, by omega, ?_⟩
        have e5 : (i - 0).toNat = i.toNat := by simp
        have wk := wk_rng (K := X.K) (H := H') (m := m') (c := []) 0 i
        rw [e5] at wk
        exact q _ H' m' z R' wk (by simpa [rngD] using hl)
      · cases h1
    · cases h3'
  · cases he
theorem so_iRrg {p p2 pos2 : Pos} (h : noStar b = true) (hg : Gl X "reversed") (hm : X.mg "reversed" = none) (hg2 : Gl X "range") (hm2 : X.mg "range" = none) (hb : PE X b (tE X.K g)) : PI X tgt (.Call (.Name "reversed" p) [.Call (.Name "range" p2) [b] [] pos2] [] pos) (tI X.K (iRrg g)) :=
  PI.imp (L2.pi_revR hg hm (L2.prg_1 hg2 hm2 (so_D hb) (star1 h [] X.env)) rfl) fun σ H R ⟨b, m, e, S, c, xs, S', hb, Rr, RE, he, q⟩ => by
  obtain ⟨p9, he9, he8⟩ := bind_ok he
  have e9 : ((p9.1.1, p9.1.2.reverse), p9.2) = ((c, xs), S') := by injection he8
  injection e9 with e8 e7
  injection e8 with e6 e5
  obtain ⟨p1, h1, he⟩ := bind_ok he9
  split at he
  · rename_i hl
    have hd := ends_bd h1
    have e1 : (([], rngD p1.1.1 p1.1.2), p1.2) = p9 := by injection he
    subst e1
    subst e7
    subst e6
    subst e5
    obtain ⟨p0, h0, h1⟩ := bind_ok h1
    cases h0
    obtain ⟨p2, h2, h1⟩ := bind_ok h1
    obtain ⟨j, h3, h1⟩ := bind_ok h1
    refine ⟨b, m, e, S, p2.1, p2.2, hb, Rr, RE, h2, fun v H' m' z R' rv => ?_⟩
    have h3' := ofO_ok h3
    unfold intO at h3'
    split at h3'
    · rename_i i hi
      rw [hi] at rv
      have ej : i = j := by injection h3'
      subst ej
      split at h1
      · have e6 : (((0 : Int), i), p2.2) = p1 := by injection h1
        subst e6
        refine ⟨i, by rw [show v = .int i from rv], by omega, by omega, by omega, by omega, ?_⟩
        exact q _ H' m' z R' (wk_rrg (K := X.K) (H := H') (m := m') (c := []) 0 i) (by simpa [rngD] using hl)
      · cases h1
    · cases h3'
  · cases he
theorem so_iRng2 {p : Pos} (h : noStar a = true) (h' : noStar b = true) (hg : Gl X "range") (hm : X.mg "range" = none) (kf : KV f) (ha : PE X a (tE X.K f)) (hb : PE X b (tE X.K g)) : PI X tgt (.Call (.Name "range" p) [a, b] [] pos) (tI X.K (iRng (oSome f) g)) :=
  PI.imp (L2.pi_range2 hg hm (L2.pa_cons (so_D ha) (L2.pa_cons (so_D hb) L2.pa_nil (star1 h' [] X.env)) (star1 h [b] X.env)) (by rw [star1 h, star1 h']; rfl) (star1 h' [] X.env)) fun σ H R ⟨b, m, e, S, c, xs, S', hb, Rr, RE, he, q⟩ => by
  obtain ⟨p1, h1, he⟩ := bind_ok he
  split at he
  · rename_i hl
    have hd := ends_bd h1
    have e1 : (([], rngD p1.1.1 p1.1.2), p1.2) = ((c, xs), S') := by injection he
    injection e1 with e1 e2
    injection e1 with e1 e3
    subst e1
    subst e2
    subst e3
    obtain ⟨p0, h0, h1⟩ := bind_ok h1
    obtain ⟨q0, h00, h0⟩ := bind_ok h0
    obtain ⟨i, h01, h0⟩ := bind_ok h0
    cases h0
    obtain ⟨p2, h2, h1⟩ := bind_ok h1
    obtain ⟨j, h3, h1⟩ := bind_ok h1
    have k1 := kf.sD b e S q0.1 q0.2 hb h00
    refine ⟨b, m, e, S, q0.1, q0.2, hb, Rr, RE, h00, fun x H1 m1 z1 R1 rx => ⟨b, m1, e, q0.2, p2.1, p2.2, Nat.le_trans hb k1.len, R1, RE.mono z1, h2, fun y H2 m2 z2 R2 ry => ?_⟩⟩
    have h3' := ofO_ok h3
    have h01' := ofO_ok h01
    unfold intO at h3' h01'
    split at h01'
    · rename_i i' hi
      rw [hi] at rx
      cases h01'
      split at h3'
      · rename_i j' hj
        rw [hj] at ry
        cases h3'
        split at h1
        · cases h1
          exact ⟨i, j, by rw [show x = .int i from rx, show y = .int j from ry], ⟨hd.1.1, hd.1.2, hd.2.1, hd.2.2⟩, q _ H2 m2 (z1.trans z2) R2 (wk_rng _ _) (by simpa [rngD] using hl)⟩
        · cases h1
      · cases h3'
    · cases h01'
  · cases he
end
end Pv
set_option linter.all false
set_option autoImplicit false
set_option maxRecDepth 100000
/-! What the evaluator tells, the machine does: comprehensions, statements. -/
namespace Pv
open PySem PySem.Spec PyProof.Rows
open L2 (V Hp HO upd upd_same upd_ne VK XK TE TT TA TS TG TGs TI Cx PE PT PW PA PS PSs PG PGs PI Inv RelV SqL SqT OpR CallR Gl)

theorem KV.iE {f : DV} (kf : KV f) : KV (iE f) := fun b e S r S' hb he => by
  obtain ⟨p1, h1, he⟩ := bind_ok he
  obtain ⟨k, h2, he⟩ := bind_ok he
  cases he; exact kf b e S p1.1 p1.2 hb h1
theorem KV.iEnum {f : DV} (kf : KV f) : KV (iEnum f) := fun b e S r S' hb he => by
  obtain ⟨p1, h1, he⟩ := bind_ok he
  obtain ⟨k, h2, he⟩ := bind_ok he
  cases he; exact kf b e S p1.1 p1.2 hb h1
theorem KV.iRev {f : DV} (kf : KV f) : KV (iRev f) := fun b e S r S' hb he => by
  obtain ⟨p1, h1, he⟩ := bind_ok he
  obtain ⟨k, h2, he⟩ := bind_ok he
  cases he; exact kf b e S p1.1 p1.2 hb h1
theorem KV.iZip {f g : DV} (kf : KV f) (kg : KV g) : KV (iZip f g) := fun b e S r S' hb he => by
  obtain ⟨p1, h1, he⟩ := bind_ok he
  obtain ⟨p2, h2, he⟩ := bind_ok he
  obtain ⟨_, _, he⟩ := bind_ok he
  obtain ⟨_, _, he⟩ := bind_ok he
  have k1 := kf b e S p1.1 p1.2 hb h1
  split at he
  · cases he; exact k1.trans (kg b e p1.2 p2.1 p2.2 (Nat.le_trans hb k1.len) h2)
  · cases he
theorem KV.iRng {lo : DO} {g : DV} (kl : KV lo) (kg : KV g) : KV (iRng lo g) := fun b e S r S' hb he => by
  obtain ⟨p1, h1, he⟩ := bind_ok he
  split at he
  · cases he; exact KV.ends kl kg b e S p1.1 p1.2 hb h1
  · cases he
theorem KV.iRrg {g : DV} (kg : KV g) : KV (iRrg g) := fun b e S r S' hb he => by
  obtain ⟨p1, h1, he⟩ := bind_ok he
  have h2 := KV.iRng KV.oNone kg b e S p1.1 p1.2 hb h1
  have e1 : ((p1.1.1, p1.1.2.reverse), p1.2) = (r, S') := by injection he
  injection e1 with _ e2
  rw [← e2]
  exact h2
theorem compL_kp {b : Nat} {c : Chk} {f : D → Sto → Rs (Option D × Sto)} (kf : ∀ x S r S', b ≤ S.length → f x S = .ok (r, S') → Kp b S S') : ∀ (xs : List D) (S : Sto) (r : List D) (S' : Sto), b ≤ S.length → compL c f xs S = .ok (r, S') → Kp b S S'
  | [], S, r, S', hb, h => by
    unfold compL at h
    split at h
    · cases h; exact Kp.refl b _
    · cases h
  | x :: xs, S, r, S', hb, h => by
    unfold compL at h
    split at h
    · obtain ⟨p1, h1, h⟩ := bind_ok h
      obtain ⟨p2, h2, h⟩ := bind_ok h
      cases h
      have k1 := kf x S p1.1 p1.2 hb h1
      exact k1.trans (compL_kp kf xs p1.2 p2.1 p2.2 (Nat.le_trans hb k1.len) h2)
    · cases h
/-- one turn of a comprehension -/
def turnC (x : DV) (t : DG) (u : DT) (e0 : Env) (b : Nat) (d : D) (S : Sto) : Rs (Option D × Sto) := t b d e0 S >>= fun p => u b p.1 p.2 >>= fun q => match q.1 with
  | true => sD x b p.1 q.2 >>= fun v => .ok (some v.1, v.2)
  | false => .ok (none, q.2)
theorem turnC_kp {x : DV} {t : DG} {u : DT} {e0 : Env} {b : Nat} (kx : KV x) (kt : KG t) (ku : KV u) (d : D) (S : Sto) (r : Option D) (S' : Sto) (hb : b ≤ S.length) (h : turnC x t u e0 b d S = .ok (r, S')) : Kp b S S' := by
  obtain ⟨p1, h1, h⟩ := bind_ok h
  obtain ⟨p2, h2, h⟩ := bind_ok h
  have k1 := (kt b d e0 S p1.1 p1.2 hb h1).1
  have k2 := k1.trans (ku b p1.1 p1.2 p2.1 p2.2 (Nat.le_trans hb k1.len) h2)
  split at h
  · obtain ⟨p3, h3, h⟩ := bind_ok h
    cases h
    exact k2.trans (kx.sD b p1.1 p2.2 p3.1 p3.2 (Nat.le_trans hb k2.len) h3)
  · cases h; exact k2
theorem sComp_eq (x : DV) (t : DG) (it : DI) (u : DT) (vs : List Nat) (b : Nat) (e : Env) (S : Sto) : sComp x t it u vs b e S = it b e S >>= fun r => compL r.1.1 (turnC x t u (wipeE e vs) b) r.1.2 r.2 >>= fun q => .ok (.fr q.1, q.2) := rfl
theorem KV.comp {x : DV} {t : DG} {it : DI} {u : DT} {vs : List Nat} (kx : KV x) (kt : KG t) (ki : KV it) (ku : KV u) : KV (sComp x t it u vs) := fun b e S r S' hb he => by
  rw [sComp_eq] at he
  obtain ⟨p1, h1, he⟩ := bind_ok he
  obtain ⟨p2, h2, he⟩ := bind_ok he
  cases he
  have k1 := ki b e S p1.1 p1.2 hb h1
  exact k1.trans (compL_kp (fun d S r S' hb h => turnC_kp kx kt ku d S r S' hb h) _ _ _ _ (Nat.le_trans hb k1.len) h2)
theorem RE.wipe {K : PySem.W.Frag} {H : Hp} {m : List Addr} {e : Env} {σ : L2.St} (h : RE K H m e σ) : ∀ vs : List Nat, RE K H m (wipeE e vs) (L2.wipe σ vs)
  | [] => h
  | v :: vs => by
    have h' := RE.wipe h vs
    refine ⟨by show ((wipeE e vs).set v none).length = ((L2.wipe σ vs).set v none).length; simp [h'.1], fun i x hi => ?_⟩
    have hi' : ((wipeE e vs).set v none)[i]? = some (some x) := hi
    by_cases ev : v = i
    · subst ev
      rw [List.getElem?_set] at hi'
      simp at hi'
    · rw [List.getElem?_set_ne ev] at hi'
      obtain ⟨w, h1, h2⟩ := h'.2 i x hi'
      exact ⟨w, by show ((L2.wipe σ vs).set v none)[i]? = _; rw [List.getElem?_set_ne ev]; exact h1, h2⟩
theorem wipe_wipe (σ : L2.St) (vs : List Nat) : L2.wipe (L2.wipe σ vs) vs = L2.wipe σ vs := by
  apply List.ext_getElem?
  intro j
  rw [wipe_at, wipe_at, L2.wipe_length]
  by_cases hj : j ∈ vs
  · rw [if_pos hj, if_pos hj]
  · rw [if_neg hj, if_neg hj]
theorem Rl.other {K : PySem.W.Frag} {m : List Addr} {H : Hp} {S : Sto} (R : Rl K m H S) {p : Addr} {vs ws : List V} (hp : H p = some (.lst vs)) (hn : p ∉ m) : Tk H (upd H p (.lst ws)) ∧ Rl K m (upd H p (.lst ws)) S := by
  have t : Tk H (upd H p (.lst ws)) := Tk.upd (fun us h => by rw [hp] at h; cases h) (fun _ _ h => by rw [hp] at h; cases h)
  refine ⟨t, R.len, R.nd, fun l a o h1 h2 => ?_⟩
  have na : a ≠ p := fun e => hn (by subst e; exact List.mem_of_getElem? h1)
  have := R.at_ l a o h1 h2
  cases o with
  | lst zs => obtain ⟨us, h, q⟩ := this; exact ⟨us, by rw [upd_ne na]; exact h, q.mono' (List.prefix_refl m) t⟩
  | dct _ _ => obtain ⟨hf, ks, h, hk, q⟩ := this; exact ⟨hf, ks, by rw [upd_ne na]; exact h, hk, q.mono' (List.prefix_refl m) t⟩
theorem Le.other {H1 H : Hp} {m1 m : List Addr} (z : Le H1 m1 H m) {p : Addr} {vs ws : List V} (hp : H p = some (.lst vs)) (h1 : H1 p = none) : Le H1 m1 (upd H p (.lst ws)) m :=
  ⟨z.pre, z.tk.trans (Tk.upd (fun us h => by rw [hp] at h; cases h) (fun _ _ h => by rw [hp] at h; cases h)), fun q o h n => by
    rw [upd_ne (fun e => by subst e; rw [h1] at h; cases h)]
    exact z.rest q o h n, z.fresh⟩
section
variable {X : Cx} {a b c ex tgt iter elt : Expr} {f g : DV} {pos : Pos}
theorem compL_cons {c : Chk} {f : D → Sto → Rs (Option D × Sto)} {x : D} {xs : List D} {S : Sto} {r : List D × Sto} (h : compL c f (x :: xs) S = .ok r) : c.ok S ∧ ∃ p q, f x S = .ok p ∧ compL c f xs p.2 = .ok q ∧ r = (p.1.toList ++ q.1, q.2) := by
  unfold compL at h
  split at h
  · rename_i hc
    obtain ⟨p, h1, h⟩ := bind_ok h
    obtain ⟨q, h2, h⟩ := bind_ok h
    refine ⟨hc, p, q, h1, h2, ?_⟩
    injection h with h
    exact h.symm
  · cases h
theorem compL_nil {c : Chk} {f : D → Sto → Rs (Option D × Sto)} {S : Sto} {r : List D × Sto} (h : compL c f [] S = .ok r) : c.ok S ∧ r = ([], S) := by
  unfold compL at h
  split at h
  · rename_i hc
    injection h with h
    exact ⟨hc, h.symm⟩
  · cases h
theorem so_comp {ifs : List Expr} {scope : Scope} {own : List (Str × Nat)} {x : DV} {t : DG} {it : DI} {u : DT} {ts : List Nat} (hc : X.calm = true) (hN : X.N.Nodup) (ok : L2.BlkOk X.N X.env.scope scope own) (hts : ∀ i ∈ ts, i ∈ own.map (·.2))
    (hi : PI X tgt iter (tI X.K it)) (hg : ∀ (s : Shared) (H : Hp) (C : Addr) (cl : List (Str × Addr)) (fp : List Addr), PG (X.blk s H scope (compEnvC scope cl C X.env) fp) tgt (tg X.K ts t))
    (ht : ∀ (s : Shared) (H : Hp) (C : Addr) (cl : List (Str × Addr)) (fp : List Addr), L2.PTs (X.blk s H scope (compEnvC scope cl C X.env) fp) ifs (tT X.K u))
    (he : ∀ (s : Shared) (H : Hp) (C : Addr) (cl : List (Str × Addr)) (fp : List Addr), PE (X.blk s H scope (compEnvC scope cl C X.env) fp) elt (tE X.K x))
    (hs : ∀ x, foldedSetIterable iter X.env x = pure x) (kx : KV x) (kt : KG t) (ki : KV it) (ku : KV u) : ∀ σ H Q, tE X.K (sComp x t it u (own.map (·.2))) σ H Q → L2.tLc (tI X.K it) (tg X.K ts t) (tT X.K u) (tD X.K (sD x)) (own.map (·.2)) σ H Q := fun σ H Q ⟨b, m, e, S, r, S', hb, R, REe, hev, q⟩ => by
  rw [sComp_eq] at hev
  obtain ⟨p1, h1, hev⟩ := bind_ok hev
  obtain ⟨p2, h2, hev⟩ := bind_ok hev
  have e1 : (Vl.fr p2.1, p2.2) = (r, S') := by injection hev
  injection e1 with e1 e2
  subst e1
  subst e2
  have k1 := ki b e S p1.1 p1.2 hb h1
  generalize hF : turnC x t u (wipeE e (own.map (·.2))) b = F at h2
  have kF : ∀ d S r S', b ≤ S.length → F d S = .ok (r, S') → Kp b S S' := fun d S r S' hb h => by rw [← hF] at h; exact turnC_kp kx kt ku d S r S' hb h
  refine ⟨b, m, e, S, p1.1.1, p1.1.2, p1.2, hb, R, REe, h1, fun J H1 m1 z1 R1 wk hl L hL => ?_⟩
  generalize hxs : p1.1.2 = xs at h2 wk hl
  generalize hck : p1.1.1 = ck at h2 wk
  have nL := R1.new hL
  refine ⟨fun i k Hc => k = xs.length - i ∧ i ≤ xs.length ∧ ∃ (mc : List Addr) (Sc : Sto) (acc : List D) (vs : List V) (rest : List D × Sto), Le H1 m1 Hc mc ∧ Rl X.K mc Hc Sc ∧ b ≤ Sc.length ∧ Hc L = some (.lst vs) ∧ L ∉ mc ∧ RDs X.K Hc mc acc vs ∧
    acc.length ≤ i ∧ compL ck F (xs.drop i) Sc = .ok rest ∧ acc ++ rest.1 = p2.1 ∧ rest.2 = p2.2, ⟨xs.length, ?_⟩, ?_⟩
  · obtain ⟨zL, RL⟩ := R1.laid (o := .lst []) hL
    exact ⟨rfl, Nat.zero_le _, m1, p1.2, [], [], p2, zL, RL, Nat.le_trans hb k1.len, upd_same, nL, rfl, Nat.le_refl _, h2, rfl, rfl⟩
  · rintro i k Hc ⟨rfl, hi, mc, Sc, acc, vs, rest, zc, Rc, hbc, hDc, nDc, ra, hal, hcl, e3, e4⟩
    by_cases hlt : i < xs.length
    · rw [List.drop_eq_getElem_cons hlt] at hcl
      obtain ⟨hck, p, q2, hf, hr, er⟩ := compL_cons hcl
      obtain ⟨g1, _, g3⟩ := wk Hc mc Sc zc Rc hck
      refine .inr ⟨g1 i hlt, _, fun H' h => h, fun x' H' hy => ?_⟩
      obtain ⟨zy, Ry, rx⟩ := g3 i xs[i] x' H' (List.getElem?_eq_getElem hlt) hy
      rw [← hF] at hf
      obtain ⟨pt, ht1, hf⟩ := bind_ok hf
      obtain ⟨pu, hu1, hf⟩ := bind_ok hf
      have kt1 := (kt b _ _ Sc pt.1 pt.2 hbc ht1).1
      have ku1 := kt1.trans (ku b pt.1 pt.2 pu.1 pu.2 (Nat.le_trans hbc kt1.len) hu1)
      have hDy := zy.rest L _ hDc nDc
      have nDy := nDc
      refine ⟨b, mc, _, Sc, xs[i], pt.1, pt.2, hbc, Ry, ((Pv.RE.mono (z1.trans (zc.trans zy)) REe).wipe _), rx, ht1, fun σ2 H2 m2 z2 R2 RE2 ws => ⟨(ws _ hts).trans (wipe_wipe σ _), b, m2, pt.1, pt.2, pu.1, pu.2, Nat.le_trans hbc kt1.len, R2, RE2, hu1, fun H3 m3 z3 R3 => ?_⟩⟩
      have hD3 := z3.rest L _ (z2.rest L _ hDy nDy) (z2.out hDy nDy)
      have nD3 := z3.out (z2.rest L _ hDy nDy) (z2.out hDy nDy)
      have zz : Le H1 m1 H3 m3 := zc.trans (zy.trans (z2.trans z3))
      cases ek : pu.1 with
      | true =>
        rw [ek] at hf
        obtain ⟨px, hx1, hf⟩ := bind_ok hf
        have ep : (some px.1, px.2) = p := by injection hf
        subst ep
        have kx1 := ku1.trans (kx.sD b pt.1 pu.2 px.1 px.2 (Nat.le_trans hbc ku1.len) hx1)
        refine L2.iteT ⟨b, m3, pt.1, pu.2, px.1, px.2, Nat.le_trans hbc ku1.len, R3, Pv.RE.mono z3 RE2, hx1, fun y H4 m4 z4 R4 ry => ?_⟩
        have hD4 := z4.rest L _ hD3 nD3
        have nD4 := z4.out hD3 nD3
        have ra4 := ra.mono (zy.trans (z2.trans (z3.trans z4)))
        obtain ⟨t5, R5⟩ := R4.other (ws := vs ++ [y]) hD4 nD4
        refine ⟨vs, hD4, ?_, xs.length - (i + 1), by omega, rfl, by omega, m4, px.2, acc ++ [px.1], vs ++ [y], q2, (zz.trans z4).other hD4 hL, R5, Nat.le_trans hbc kx1.len, upd_same, nD4, ?_, by simp; omega, hr, ?_, ?_⟩
        · rw [← ra.length]
          exact Nat.lt_of_le_of_lt hal (Nat.lt_of_lt_of_le hlt hl)
        · exact (ra4.append (show RDs X.K H4 m4 [px.1] [y] from ⟨y, [], rfl, ry, rfl⟩)).mono' (List.prefix_refl _) t5
        · rw [← e3, er]; simp
        · rw [← e4, er]
      | false =>
        rw [ek] at hf
        have ep : (none, pu.2) = p := by injection hf
        subst ep
        refine L2.iteF ⟨xs.length - (i + 1), by omega, rfl, by omega, m3, pu.2, acc, vs, q2, zz, R3, Nat.le_trans hbc ku1.len, hD3, nD3, ra.mono (zy.trans (z2.trans z3)), by omega, hr, ?_, ?_⟩
        · rw [← e3, er]; simp
        · rw [← e4, er]
    · have hie : i = xs.length := by omega
      subst hie
      rw [List.drop_length] at hcl
      obtain ⟨hck, er⟩ := compL_nil hcl
      subst er
      have e4' : Sc = p2.2 := e4
      have e3' : acc = p2.1 := by simpa using e3
      obtain ⟨_, g2, _⟩ := wk Hc mc Sc zc Rc hck
      refine .inl ⟨g2, q _ Hc mc (z1.trans zc) (by rw [← e4']; exact Rc) ⟨L, vs, rfl, hDc, nDc, z1.back hL fun hm => nL (z1.pre.subset hm), by rw [← e3']; exact ra⟩⟩
theorem PTs.imp {ifs : List Expr} {t t' : TT} (h : L2.PTs X ifs t) (k : ∀ σ H Q, t' σ H Q → t σ H Q) : L2.PTs X ifs t' := ⟨fun pins s σ H Q I q => h.run pins s σ H Q I (k σ H Q q)⟩
theorem so_tYes : L2.PTs X [] (tT X.K tYes) := PTs.imp L2.pts_nil fun σ H Q ⟨b, m, e, S, r, S', hb, R, RE, he, q⟩ => by
  cases he
  exact q H m (Le.refl H m) R
theorem so_tOne {t : DT} (h : PT X a (tT X.K t)) : L2.PTs X [a] (tT X.K (tAnd t tYes)) := PTs.imp (L2.pts_one h) fun σ H Q ⟨b, m, e, S, r, S', hb, R, RE, he, q⟩ => by
  obtain ⟨p1, h1, he⟩ := bind_ok he
  refine ⟨b, m, e, S, p1.1, p1.2, hb, R, RE, h1, fun H' m' z R' => ?_⟩
  cases e1 : p1.1 with
  | true => rw [e1] at he; cases he; exact q H' m' z R'
  | false => rw [e1] at he; cases he; exact q H' m' z R'
end
end Pv
set_option linter.all false
set_option autoImplicit false
set_option maxRecDepth 100000
/-! What the evaluator tells, the machine does: statements. -/
namespace Pv
open PySem PySem.Spec PyProof.Rows
open L2 (V Hp HO upd upd_same upd_ne VK XK TE TT TA TS TG TGs TI Cx PE PT PW PA PS PSs PG PGs PI Inv RelV SqL SqT OpR CallR Gl Ends)

/-- what is wanted behind a statement -/
def fin (K : PySem.W.Frag) (H : Hp) (m : List Addr) (Dn : Ends) (fl : Fl) (e' : Env) (S' : Sto) : Prop :=
  match fl with
  | .nx => ∀ σ' H' m', Le H m H' m' → Rl K m' H' S' → RE K H' m' e' σ' → Dn.nx σ' H'
  | .br => ∀ σ' H' m', Le H m H' m' → Rl K m' H' S' → RE K H' m' e' σ' → Dn.bk σ' H'
  | .ct => ∀ σ' H' m', Le H m H' m' → Rl K m' H' S' → RE K H' m' e' σ' → Dn.ct σ' H'
  | .rt v => ∀ z H' m', Le H m H' m' → Rl K m' H' S' → RV K H H' m' v z → Dn.rt z H'
theorem fin.from {K : PySem.W.Frag} {H H1 : Hp} {m m1 : List Addr} {Dn : Ends} {fl : Fl} {e' : Env} {S' : Sto} (z : Le H m H1 m1) (h : fin K H m Dn fl e' S') : fin K H1 m1 Dn fl e' S' := by
  cases fl with
  | nx => exact fun σ' H' m' z' R' E' => h σ' H' m' (z.trans z') R' E'
  | br => exact fun σ' H' m' z' R' E' => h σ' H' m' (z.trans z') R' E'
  | ct => exact fun σ' H' m' z' R' E' => h σ' H' m' (z.trans z') R' E'
  | rt v => exact fun w H' m' z' R' r => h w H' m' (z.trans z') R' (RV.from z z' r)
def tF (K : PySem.W.Frag) (f : DF) : TS := fun Dn σ H => ∃ (b : Nat) (m : List Addr) (e : Env) (S : Sto) (fl : Fl) (e' : Env) (S' : Sto), b ≤ S.length ∧ Rl K m H S ∧ RE K H m e σ ∧ f b e S = .ok (fl, e', S') ∧ fin K H m Dn fl e' S'
def KF (f : DF) : Prop := ∀ (b : Nat) (e : Env) (S : Sto) (fl : Fl) (e' : Env) (S' : Sto), b ≤ S.length → f b e S = .ok (fl, e', S') → Kp b S S'
theorem KF.fl (f : Fl) : KF (cFl f) := fun b e S fl e' S' hb h => by cases h; exact Kp.refl b _
theorem KF.expr {f : DV} (kf : KV f) : KF (cExpr f) := fun b e S fl e' S' hb h => by
  obtain ⟨p1, h1, h⟩ := bind_ok h
  cases h; exact kf b e S p1.1 p1.2 hb h1
theorem KF.ret {f : DV} (kf : KV f) : KF (cRet f) := fun b e S fl e' S' hb h => by
  obtain ⟨p1, h1, h⟩ := bind_ok h
  cases h; exact kf b e S p1.1 p1.2 hb h1
theorem KF.asg {f : DV} {t : DG} (kf : KV f) (kt : KG t) : KF (cAsg t f) := fun b e S fl e' S' hb h => by
  obtain ⟨p1, h1, h⟩ := bind_ok h
  obtain ⟨p2, h2, h⟩ := bind_ok h
  cases h
  have k1 := kf.sD b e S p1.1 p1.2 hb h1
  exact k1.trans (kt b _ e p1.2 _ _ (Nat.le_trans hb k1.len) h2).1
theorem KF.aug {f : DV} {i : Nat} {o : Bo} (kf : KV f) : KF (cAug i o f) := fun b e S fl e' S' hb h => by
  obtain ⟨y, h0, h⟩ := bind_ok h
  obtain ⟨p1, h1, h⟩ := bind_ok h
  obtain ⟨n, h2, h⟩ := bind_ok h
  cases h
  exact kf.sD b e S p1.1 p1.2 hb h1
theorem KF.augs {o i f : DV} {op : Bo} (ko : KV o) (ki : KV i) (kf : KV f) : KF (cAugs o i op f) := fun b e S fl e' S' hb h => by
  obtain ⟨p1, h1, h⟩ := bind_ok h
  obtain ⟨p2, h2, h⟩ := bind_ok h
  obtain ⟨y, _, h⟩ := bind_ok h
  obtain ⟨p3, h3, h⟩ := bind_ok h
  obtain ⟨n, _, h⟩ := bind_ok h
  obtain ⟨S3, h4, h⟩ := bind_ok h
  cases h
  have k1 := ko.sD b e S p1.1 p1.2 hb h1
  have k2 := k1.trans (ki.sD b e p1.2 p2.1 p2.2 (Nat.le_trans hb k1.len) h2)
  exact (k2.trans (kf.sD b e p2.2 p3.1 p3.2 (Nat.le_trans hb k2.len) h3)).trans (setI_kp h4)
theorem KF.swap {ts : List Nat} {l : DL} (kl : KV l) : KF (cSwap ts l) := fun b e S fl e' S' hb h => by
  obtain ⟨p1, h1, h⟩ := bind_ok h
  split at h
  · cases h; exact kl b e S p1.1 p1.2 hb h1
  · cases h
theorem KF.ite {c : DT} {f g : DF} (kc : KV c) (kf : KF f) (kg : KF g) : KF (cIte c f g) := fun b e S fl e' S' hb h => by
  obtain ⟨p1, h1, h⟩ := bind_ok h
  have k1 := kc b e S p1.1 p1.2 hb h1
  split at h
  · exact k1.trans (kf b e p1.2 fl e' S' (Nat.le_trans hb k1.len) h)
  · exact k1.trans (kg b e p1.2 fl e' S' (Nat.le_trans hb k1.len) h)
theorem KF.seq {f g : DF} (kf : KF f) (kg : KF g) : KF (cSeq f g) := fun b e S fl e' S' hb h => by
  obtain ⟨⟨f1, e1, S1⟩, h1, h⟩ := bind_ok h
  have k1 := kf b e S f1 e1 S1 hb h1
  cases f1 with
  | nx => exact k1.trans (kg b _ S1 fl e' S' (Nat.le_trans hb k1.len) h)
  | br => cases h; exact k1
  | ct => cases h; exact k1
  | rt v => cases h; exact k1
theorem forL_kp {b : Nat} {c : Chk} {f : D → Env → Sto → Rs (Fl × Env × Sto)} (kf : ∀ x e S fl e' S', b ≤ S.length → f x e S = .ok (fl, e', S') → Kp b S S') :
    ∀ (xs : List D) (e : Env) (S : Sto) (fl : Fl) (e' : Env) (S' : Sto), b ≤ S.length → forL c f xs e S = .ok (fl, e', S') → Kp b S S'
  | [], e, S, fl, e', S', hb, h => by
    unfold forL at h
    split at h
    · cases h; exact Kp.refl b _
    · cases h
  | x :: xs, e, S, fl, e', S', hb, h => by
    unfold forL at h
    split at h
    · obtain ⟨⟨f1, e1, S1⟩, h1, h⟩ := bind_ok h
      have k1 := kf x e S f1 e1 S1 hb h1
      cases f1 with
      | nx => exact k1.trans (forL_kp kf xs _ S1 fl e' S' (Nat.le_trans hb k1.len) h)
      | ct => exact k1.trans (forL_kp kf xs _ S1 fl e' S' (Nat.le_trans hb k1.len) h)
      | br => cases h; exact k1
      | rt v => cases h; exact k1
    · cases h
theorem KF.for {t : DG} {it : DI} {body : DF} (kt : KG t) (ki : KV it) (kb : KF body) : KF (cFor t it body) := fun b e S fl e' S' hb h => by
  obtain ⟨p1, h1, h⟩ := bind_ok h
  have k1 := ki b e S p1.1 p1.2 hb h1
  refine k1.trans (forL_kp (fun x e S fl e' S' hb h => ?_) _ _ _ fl e' S' (Nat.le_trans hb k1.len) h)
  obtain ⟨p2, h2, h⟩ := bind_ok h
  have k2 := (kt b x e S p2.1 p2.2 hb h2).1
  exact k2.trans (kb b _ p2.2 fl e' S' (Nat.le_trans hb k2.len) h)
theorem whileL_kp {b : Nat} {t : Env → Sto → Rs (Bool × Sto)} {f : Env → Sto → Rs (Fl × Env × Sto)} (kt : ∀ e S k S', b ≤ S.length → t e S = .ok (k, S') → Kp b S S') (kf : ∀ e S fl e' S', b ≤ S.length → f e S = .ok (fl, e', S') → Kp b S S') :
    ∀ (n : Nat) (e : Env) (S : Sto) (fl : Fl) (e' : Env) (S' : Sto), b ≤ S.length → whileL t f n e S = .ok (fl, e', S') → Kp b S S'
  | 0, e, S, fl, e', S', hb, h => by cases h
  | n + 1, e, S, fl, e', S', hb, h => by
    unfold whileL at h
    obtain ⟨p1, h1, h⟩ := bind_ok h
    have k1 := kt e S p1.1 p1.2 hb h1
    split at h
    · cases h; exact k1
    · obtain ⟨⟨f1, e1, S1⟩, h2, h⟩ := bind_ok h
      have k2 := k1.trans (kf e p1.2 f1 e1 S1 (Nat.le_trans hb k1.len) h2)
      cases f1 with
      | nx => exact k2.trans (whileL_kp kt kf n _ S1 fl e' S' (Nat.le_trans hb k2.len) h)
      | ct => exact k2.trans (whileL_kp kt kf n _ S1 fl e' S' (Nat.le_trans hb k2.len) h)
      | br => cases h; exact k2
      | rt v => cases h; exact k2
theorem KF.while {c : DT} {body : DF} (kc : KV c) (kb : KF body) : KF (cWhile c body) := fun b e S fl e' S' hb h =>
  whileL_kp (fun e S k S' hb h => kc b e S k S' hb h) (fun e S fl e' S' hb h => kb b e S fl e' S' hb h) _ _ _ fl e' S' hb h

section
variable {X : Cx} {a b c ex tgt iter : Expr} {f g : DV} {pos : Pos} {st : Stmt} {sts : List Stmt}
theorem PS.imp {t t' : TS} (h : PS X st t) (k : ∀ D σ H, t' D σ H → t D σ H) : PS X st t' := ⟨fun pins s σ H D I q => h.run pins s σ H D I (k D σ H q)⟩
theorem PSs.imp {t t' : TS} (h : PSs X sts t) (k : ∀ D σ H, t' D σ H → t D σ H) : PSs X sts t' := ⟨fun pins s σ H D I q => h.run pins s σ H D I (k D σ H q)⟩
theorem so_pass : PS X (.Pass pos) (tF X.K (cFl .nx)) := PS.imp L2.ps_pass fun D σ H ⟨b, m, e, S, fl, e', S', hb, R, E, he, q⟩ => by cases he; exact q σ H m (Le.refl _ _) R E
theorem so_brk : PS X (.Break pos) (tF X.K (cFl .br)) := PS.imp L2.ps_break fun D σ H ⟨b, m, e, S, fl, e', S', hb, R, E, he, q⟩ => by cases he; exact q σ H m (Le.refl _ _) R E
theorem so_cont : PS X (.Continue pos) (tF X.K (cFl .ct)) := PS.imp L2.ps_continue fun D σ H ⟨b, m, e, S, fl, e', S', hb, R, E, he, q⟩ => by cases he; exact q σ H m (Le.refl _ _) R E
theorem so_retn : PS X (.Return none pos) (tF X.K (cFl (.rt (.d .non)))) := PS.imp L2.ps_retN fun D σ H ⟨b, m, e, S, fl, e', S', hb, R, E, he, q⟩ => by cases he; exact q _ H m (Le.refl _ _) R rfl
theorem so_ret (ha : PE X a (tE X.K f)) : PS X (.Return (some a) pos) (tF X.K (cRet f)) := PS.imp (L2.ps_ret ha) fun D σ H ⟨b, m, e, S, fl, e', S', hb, R, E, he, q⟩ => by
  obtain ⟨p1, h1, he⟩ := bind_ok he
  cases he
  exact ⟨b, m, e, S, p1.1, p1.2, hb, R, E, h1, fun v H' m' z R' r => q v H' m' z R' r⟩
def noComp : Expr → Bool
  | .ListComp .. => false | .SetComp .. => false | .DictComp .. => false
  | _ => true
theorem noSwap {e : Expr} (h : noComp e = true) (t : Option Expr) (n : Nat) (env : PySem.Env) : swapsWith e t n env = pure false := by
  cases e <;> first | rfl | cases h
theorem noSwapS {e : Expr} (h : noComp e = true) (t : Expr) (n : Nat) (env : PySem.Env) : swapsWithSole [t] e n env = pure false := noSwap h (some t) n env
theorem so_expr (hn : noComp a = true) (ha : PE X a (tE X.K f)) : PS X (.Expr a pos) (tF X.K (cExpr f)) := PS.imp (L2.ps_expr ha (noSwap hn _ _ _)) fun D σ H ⟨b, m, e, S, fl, e', S', hb, R, E, he, q⟩ => by
  obtain ⟨p1, h1, he⟩ := bind_ok he
  cases he
  exact ⟨b, m, e, S, p1.1, p1.2, hb, R, E, h1, fun v H' m' z R' r => q σ H' m' z R' (RE.mono z E)⟩
theorem so_asg {t : DG} {ts : List Nat} (hst : noStar tgt = true) (kf : KV f) (ha : PE X a (tE X.K f)) (ht : PG X tgt (tg X.K ts t)) (hn : ∀ n, swapsWithSole [tgt] a n X.env = pure false) (hw : swappedStores [tgt] a X.env = pure none) : PS X (.Assign [tgt] a pos) (tF X.K (cAsg t f)) :=
  PS.imp (L2.ps_asg (so_D ha) ht (hn _) hw (by rw [starG hst]; rfl)) fun D σ H ⟨b, m, e, S, fl, e', S', hb, R, E, he, q⟩ => by
    obtain ⟨p1, h1, he⟩ := bind_ok he
    obtain ⟨⟨e2, S2⟩, h2, he⟩ := bind_ok he
    cases he
    have k1 := kf.sD b e S p1.1 p1.2 hb h1
    exact ⟨b, m, e, S, p1.1, p1.2, hb, R, E, h1, fun v H' m' z R' r => ⟨b, m', e, p1.2, p1.1, _, _, Nat.le_trans hb k1.len, R', RE.mono z E, r, h2, fun σ2 H2 m2 z2 R2 E2 _ => q σ2 H2 m2 (z.trans z2) R2 E2⟩⟩
theorem so_if {t : DT} {x y : DF} {as bs : List Stmt} (kt : KV t) (hc : PT X c (tT X.K t)) (ha : PSs X as (tF X.K x)) (hb : PSs X bs (tF X.K y)) : PS X (.If c as bs pos) (tF X.K (cIte t x y)) :=
  PS.imp (L2.ps_if hc ha hb) fun D σ H ⟨b, m, e, S, fl, e', S', hb, R, E, he, q⟩ => by
    obtain ⟨p1, h1, he⟩ := bind_ok he
    have k1 := kt b e S p1.1 p1.2 hb h1
    refine ⟨b, m, e, S, p1.1, p1.2, hb, R, E, h1, fun H' m' z R' => ?_⟩
    cases e1 : p1.1 with
    | true => rw [e1] at he; exact L2.iteT ⟨b, m', e, p1.2, fl, e', S', Nat.le_trans hb k1.len, R', RE.mono z E, he, q.from z⟩
    | false => rw [e1] at he; exact L2.iteF ⟨b, m', e, p1.2, fl, e', S', Nat.le_trans hb k1.len, R', RE.mono z E, he, q.from z⟩
theorem so_nil : PSs X [] (tF X.K (cFl .nx)) := PSs.imp L2.pss_nil fun D σ H ⟨b, m, e, S, fl, e', S', hb, R, E, he, q⟩ => by cases he; exact q σ H m (Le.refl _ _) R E
theorem so_seq {x y : DF} (kx : KF x) (h1 : PS X st (tF X.K x)) (h2 : PSs X sts (tF X.K y)) : PSs X (st :: sts) (tF X.K (cSeq x y)) :=
  PSs.imp (L2.pss_cons h1 h2) fun D σ H ⟨b, m, e, S, fl, e', S', hb, R, E, he, q⟩ => by
    obtain ⟨⟨f1, e1, S1⟩, h1, he⟩ := bind_ok he
    have k1 := kx b e S f1 e1 S1 hb h1
    refine ⟨b, m, e, S, f1, e1, S1, hb, R, E, h1, ?_⟩
    cases f1 with
    | nx => exact fun σ' H' m' z R' E' => ⟨b, m', e1, S1, fl, e', S', Nat.le_trans hb k1.len, R', E', he, q.from z⟩
    | br => cases he; exact q
    | ct => cases he; exact q
    | rt v => cases he; exact q
theorem forL_cons {c : Chk} {f : D → Env → Sto → Rs (Fl × Env × Sto)} {x : D} {xs : List D} {e : Env} {S : Sto} {r : Fl × Env × Sto} (h : forL c f (x :: xs) e S = .ok r) : c.ok S ∧ ∃ p, f x e S = .ok p ∧
    (((p.1 = .nx ∨ p.1 = .ct) ∧ forL c f xs p.2.1 p.2.2 = .ok r) ∨ (p.1 = .br ∧ r = (.nx, p.2)) ∨ ∃ v, p.1 = .rt v ∧ r = p) := by
  unfold forL at h
  split at h
  · rename_i hc
    obtain ⟨p, h1, h⟩ := bind_ok h
    obtain ⟨p1, p2⟩ := p
    refine ⟨hc, (p1, p2), h1, ?_⟩
    cases p1 with
    | nx => exact .inl ⟨.inl rfl, h⟩
    | ct => exact .inl ⟨.inr rfl, h⟩
    | br => injection h with h; exact .inr (.inl ⟨rfl, h.symm⟩)
    | rt v => injection h with h; exact .inr (.inr ⟨v, rfl, h.symm⟩)
  · cases h
theorem forL_nil {c : Chk} {f : D → Env → Sto → Rs (Fl × Env × Sto)} {e : Env} {S : Sto} {r : Fl × Env × Sto} (h : forL c f [] e S = .ok r) : c.ok S ∧ r = (.nx, e, S) := by
  unfold forL at h
  split at h
  · rename_i hc
    injection h with h
    exact ⟨hc, h.symm⟩
  · cases h
theorem so_for {t : DG} {it : DI} {body : DF} {ts : List Nat} {bs : List Stmt} (hp : PassesOwn (model X.prog X.w) X.A X.env X.xe) (hc : X.calm = true) (kt : KG t) (ki : KV it) (kb : KF body) (hi : PI X tgt iter (tI X.K it)) (hg : PG X tgt (tg X.K ts t)) (hb : PSs X bs (tF X.K body))
    (hs : ∀ x, foldedSetIterable iter X.env x = pure x) : PS X (.For tgt iter bs [] pos) (tF X.K (cFor t it body)) :=
  PS.imp (L2.ps_for hp hc hi hg hb hs) fun Dn σ H ⟨b, m, e, S, fl, e', S', hb, R, E, he, q⟩ => by
    obtain ⟨p1, h1, he⟩ := bind_ok he
    have k1 := ki b e S p1.1 p1.2 hb h1
    generalize hF : (fun d e S => t b d e S >>= fun p => body b p.1 p.2 : D → Env → Sto → Rs (Fl × Env × Sto)) = F at he
    have kF : ∀ x e S fl e' S', b ≤ S.length → F x e S = .ok (fl, e', S') → Kp b S S' := fun x e S fl e' S' hb h => by
      rw [← hF] at h
      obtain ⟨p2, h2, h⟩ := bind_ok h
      have k2 := (kt b x e S p2.1 p2.2 hb h2).1
      exact k2.trans (kb b _ p2.2 fl e' S' (Nat.le_trans hb k2.len) h)
    refine ⟨b, m, e, S, p1.1.1, p1.1.2, p1.2, hb, R, E, h1, fun J H1 m1 z1 R1 wk hl => ?_⟩
    generalize hxs : p1.1.2 = xs at he wk hl
    generalize hck : p1.1.1 = ck at he wk
    have q1 := q.from z1
    refine ⟨fun i k σc Hc => k = xs.length - i ∧ i ≤ xs.length ∧ ∃ (mc : List Addr) (ec : Env) (Sc : Sto), Le H1 m1 Hc mc ∧ Rl X.K mc Hc Sc ∧ RE X.K Hc mc ec σc ∧ b ≤ Sc.length ∧ forL ck F (xs.drop i) ec Sc = .ok (fl, e', S'),
      ⟨xs.length, rfl, Nat.zero_le _, m1, e, p1.2, Le.refl _ _, R1, RE.mono z1 E, Nat.le_trans hb k1.len, he⟩, ?_⟩
    rintro i k σc Hc ⟨rfl, hi, mc, ec, Sc, zc, Rc, Ec, hbc, hfl⟩
    by_cases hlt : i < xs.length
    · rw [List.drop_eq_getElem_cons hlt] at hfl
      obtain ⟨hck, p, hf, hr⟩ := forL_cons hfl
      obtain ⟨g1, _, g3⟩ := wk Hc mc Sc zc Rc hck
      refine .inr ⟨g1 i hlt, _, fun σ' H' h => h, fun x' H' hy => ?_⟩
      obtain ⟨zy, Ry, rx⟩ := g3 i xs[i] x' H' (List.getElem?_eq_getElem hlt) hy
      have kf1 := kF _ _ Sc p.1 p.2.1 p.2.2 hbc hf
      rw [← hF] at hf
      obtain ⟨pt, ht1, hf⟩ := bind_ok hf
      have kt1 := (kt b _ _ Sc pt.1 pt.2 hbc ht1).1
      refine ⟨b, mc, ec, Sc, xs[i], pt.1, pt.2, hbc, Ry, RE.mono zy Ec, rx, ht1, fun σ2 H2 m2 z2 R2 E2 _ => ?_⟩
      have zz : Le H1 m1 H2 m2 := zc.trans (zy.trans z2)
      refine ⟨b, m2, pt.1, pt.2, p.1, p.2.1, p.2.2, Nat.le_trans hbc kt1.len, R2, E2, hf, ?_⟩
      rcases hr with ⟨hp1, hr⟩ | ⟨hp1, hr⟩ | ⟨v, hp1, hr⟩
      · have next : ∀ σ' H' m', Le H2 m2 H' m' → Rl X.K m' H' p.2.2 → RE X.K H' m' p.2.1 σ' → ∃ m', m' < xs.length - i ∧ (m' = xs.length - (i + 1) ∧ i + 1 ≤ xs.length ∧ ∃ (mc : List Addr) (ec : Env) (Sc : Sto), Le H1 m1 H' mc ∧ Rl X.K mc H' Sc ∧ RE X.K H' mc ec σ' ∧ b ≤ Sc.length ∧ forL ck F (xs.drop (i + 1)) ec Sc = .ok (fl, e', S')) :=
          fun σ' H' m' z' R' E' => ⟨xs.length - (i + 1), by omega, rfl, by omega, m', p.2.1, p.2.2, zz.trans z', R', E', Nat.le_trans hbc kf1.len, hr⟩
        rcases hp1 with hp1 | hp1 <;> rw [hp1] <;> exact next
      · rw [hp1]
        injection hr with e1 e2
        subst e1
        have e3 : p.2.1 = e' ∧ p.2.2 = S' := by rw [← e2]; exact ⟨rfl, rfl⟩
        rw [e3.1, e3.2]
        exact q1.from zz
      · rw [hp1]
        have e3 : fl = .rt v ∧ p.2.1 = e' ∧ p.2.2 = S' := by
          rw [← hp1, ← hr]; exact ⟨rfl, rfl, rfl⟩
        rw [e3.2.1, e3.2.2]
        have := q1.from zz
        rw [e3.1] at this
        exact this
    · have hie : i = xs.length := by omega
      subst hie
      rw [List.drop_length] at hfl
      obtain ⟨hck, er⟩ := forL_nil hfl
      obtain ⟨_, g2, _⟩ := wk Hc mc Sc zc Rc hck
      cases er
      exact .inl ⟨g2, q1 σc Hc mc zc Rc Ec⟩
theorem so_while {t : DT} {body : DF} {bs : List Stmt} (hp : PassesOwn (model X.prog X.w) X.A X.env X.xe) (kt : KV t) (kb : KF body) (hc : PT X c (tT X.K t)) (hb : PSs X bs (tF X.K body)) : PS X (.While c bs [] pos) (tF X.K (cWhile t body)) :=
  PS.imp (L2.ps_while hp hc hb) fun Dn σ H ⟨b, m, e, S, fl, e', S', hb, R, E, he, q⟩ => by
    refine ⟨fun n σc Hc => ∃ (mc : List Addr) (ec : Env) (Sc : Sto), Le H m Hc mc ∧ Rl X.K mc Hc Sc ∧ RE X.K Hc mc ec σc ∧ b ≤ Sc.length ∧ whileL (t b) (body b) n ec Sc = .ok (fl, e', S'), ⟨big, m, e, S, Le.refl _ _, R, E, hb, he⟩, ?_⟩
    rintro n σc Hc ⟨mc, ec, Sc, zc, Rc, Ec, hbc, hw⟩
    cases n with
    | zero => cases hw
    | succ n =>
      unfold whileL at hw
      obtain ⟨p1, h1, hw⟩ := bind_ok hw
      have k1 := kt b ec Sc p1.1 p1.2 hbc h1
      refine ⟨b, mc, ec, Sc, p1.1, p1.2, hbc, Rc, Ec, h1, fun H' m' z R' => ?_⟩
      cases e1 : p1.1 with
      | false =>
        rw [e1] at hw
        cases hw
        exact L2.iteF (q σc H' m' (zc.trans z) R' (RE.mono z Ec))
      | true =>
        rw [e1] at hw
        obtain ⟨p, h2, hw⟩ := bind_ok hw
        have k2 := k1.trans (kb b ec p1.2 p.1 p.2.1 p.2.2 (Nat.le_trans hbc k1.len) h2)
        refine L2.iteT ⟨_, fun σ' H' h => h, b, m', ec, p1.2, p.1, p.2.1, p.2.2, Nat.le_trans hbc k1.len, R', RE.mono z Ec, h2, ?_⟩
        obtain ⟨f1, e2, S2⟩ := p
        have zz := zc.trans z
        cases f1 with
        | nx => exact fun σ' H2 m2 z2 R2 E2 => ⟨n, Nat.lt_succ_self n, m2, e2, S2, zz.trans z2, R2, E2, Nat.le_trans hbc k2.len, hw⟩
        | ct => exact fun σ' H2 m2 z2 R2 E2 => ⟨n, Nat.lt_succ_self n, m2, e2, S2, zz.trans z2, R2, E2, Nat.le_trans hbc k2.len, hw⟩
        | br =>
          cases hw
          exact q.from zz
        | rt v =>
          cases hw
          exact q.from zz
end
end Pv
set_option linter.all false
set_option autoImplicit false
set_option maxRecDepth 100000
/-! What the evaluator tells, the machine does: calls of defs, the rest of the statements. -/
namespace Pv
open PySem PySem.Spec PyProof.Rows
open L2 (V Hp HO upd upd_same upd_ne VK XK TE TT TA TS TG TGs TI Cx PE PT PW PA PS PSs PG PGs PI Inv RelV SqL SqT OpR CallR Gl Ends Vals Room FnOk CX0 E0)

/-! ### back from a call -/
mutual
theorem RD.ub {K : PySem.W.Frag} {H : Hp} {m : List Addr} : ∀ {x : D} {v : V}, RD K H m x v → x.ub m.length = true
  | .non, _, _ => rfl
  | .bl _, _, _ => rfl
  | .int _, _, _ => rfl
  | .str _, _, _ => rfl
  | .scr _, _, _ => rfl
  | .loc l, v, h => by
    obtain ⟨a, ha, _⟩ := (h : ∃ a, m[l]? = some a ∧ v = .ref a)
    simpa [D.ub] using (List.getElem?_eq_some_iff.mp ha).1
  | .tup xs, v, h => by
    obtain ⟨a, vs, _, _, hr⟩ := (h : ∃ a vs, v = .ref a ∧ H a = some (.tup vs) ∧ RDs K H m xs vs)
    exact RDs.ub hr
theorem RDs.ub {K : PySem.W.Frag} {H : Hp} {m : List Addr} : ∀ {xs : List D} {vs : List V}, RDs K H m xs vs → ubL m.length xs = true
  | [], _, _ => rfl
  | x :: xs, vs, h => by
    obtain ⟨v, ws, _, h1, h2⟩ := (h : ∃ v ws, vs = v :: ws ∧ RD K H m x v ∧ RDs K H m xs ws)
    simp [ubL, RD.ub h1, RDs.ub h2]
end
theorem kD_ub {n : Nat} (k : L2.Key) : (kD k).ub n = true := by cases k <;> rfl
theorem dct_ub {n : Nat} : ∀ {kvs : List (D × D)} {ks : List (L2.Key × V)}, kvs.map (·.1) = ks.map (fun p => kD p.1) → ubL n (kvs.map (·.2)) = true → (kvs.all fun p => p.1.ub n && p.2.ub n) = true
  | [], _, _, _ => rfl
  | p :: kvs, [], h, _ => by simp at h
  | p :: kvs, k :: ks, h, hu => by
    rw [List.map_cons, List.map_cons] at h
    injection h with h1 h2
    have hu : p.2.ub n = true ∧ ubL n (kvs.map (·.2)) = true := by simpa [ubL] using hu
    rw [List.all_cons, h1, kD_ub, hu.1, dct_ub h2 hu.2]
    rfl
theorem ub_dct {n : Nat} : ∀ {kvs : List (D × D)}, (kvs.all fun p => p.1.ub n && p.2.ub n) = true → ubL n (kvs.map (·.2)) = true
  | [], _ => rfl
  | p :: kvs, h => by
    rw [List.all_cons, Bool.and_eq_true, Bool.and_eq_true] at h
    show (p.2.ub n && ubL n (kvs.map (·.2))) = true
    rw [h.1.2, ub_dct h.2]
    rfl
theorem Rl.wf {K : PySem.W.Frag} {m : List Addr} {H : Hp} {S : Sto} (R : Rl K m H S) : WF S.length S := fun l o hl ho => by
  have hm : l < m.length := by rw [R.len]; exact hl
  have := R.at_ l m[l] o (List.getElem?_eq_getElem hm) ho
  rw [← R.len]
  cases o with
  | lst xs => obtain ⟨vs, _, r⟩ := this; exact r.ub
  | dct _ kvs =>
    obtain ⟨_, ks, _, hk, r⟩ := this
    exact dct_ub hk r.ub
section
variable {K : PySem.W.Frag} {m0 m : List Addr} {H0 H : Hp} {S : Sto}
theorem take_pre (z : m0 <+: m) : m.take m0.length = m0 := by
  obtain ⟨t, rfl⟩ := z
  simp
theorem Le.cut (z : Le H0 m0 H m) : Le H0 m0 H m0 := ⟨List.prefix_refl _, z.tk, z.rest, fun _ h n => (n h).elim⟩
theorem back_get (z : m0 <+: m) {l : Nat} {a : Addr} (hl : l < m0.length) (h : m[l]? = some a) : m0[l]? = some a := by
  obtain ⟨t, rfl⟩ := z
  rwa [List.getElem?_append_left hl] at h
theorem RD.cut (z : m0 <+: m) {x : D} {v : V} (hu : x.ub m0.length = true) (r : RD K H m x v) : RD K H m0 x v := RD.via (Tk.refl H) (fun l a hl h => back_get z hl h) hu r
theorem RDs.cutm (z : m0 <+: m) {x : List D} {v : List V} (hu : ubL m0.length x = true) (r : RDs K H m x v) : RDs K H m0 x v := RDs.via (Tk.refl H) (fun l a hl h => back_get z hl h) hu r
theorem Rl.cut (R : Rl K m H S) (z : m0 <+: m) (w : WF m0.length S) : Rl K m0 H (S.take m0.length) := by
  have hle : m0.length ≤ S.length := by rw [← R.len]; exact z.length_le
  refine ⟨by simp; omega, List.Nodup.sublist z.sublist R.nd, fun l a o h1 h2 => ?_⟩
  have hl : l < m0.length := (List.getElem?_eq_some_iff.mp h1).1
  rw [List.getElem?_take, if_pos hl] at h2
  have := R.at_ l a o (pre_get z h1) h2
  have hu := w l o hl h2
  cases o with
  | lst xs => obtain ⟨vs, h, r⟩ := this; exact ⟨vs, h, r.cutm z hu⟩
  | dct _ kvs => obtain ⟨hf, ks, h, hk, r⟩ := this; exact ⟨hf, ks, h, hk, r.cutm z (ub_dct hu)⟩
theorem leave_ok (z : Le H0 m0 H m) (R : Rl K m H S) (w : WF m0.length S) {r : Vl} {v : V} (h : RV K H0 H m r v) : ∃ m', Le H0 m0 H m' ∧ Rl K m' H (leave m0.length r S).2 ∧ RV K H0 H m' (leave m0.length r S).1 v := by
  have same : ∀ r', RV K H0 H m r' v → (leave m0.length r S) = (r', S) → ∃ m', Le H0 m0 H m' ∧ Rl K m' H (leave m0.length r S).2 ∧ RV K H0 H m' (leave m0.length r S).1 v := fun r' hr e => by
    rw [e]; exact ⟨m, z, R, hr⟩
  have cut : ∀ r', RV K H0 H m0 r' v → (leave m0.length r S) = (r', S.take m0.length) → ∃ m', Le H0 m0 H m' ∧ Rl K m' H (leave m0.length r S).2 ∧ RV K H0 H m' (leave m0.length r S).1 v := fun r' hr e => by
    rw [e]; exact ⟨m0, z.cut, R.cut z.pre w, hr⟩
  cases r with
  | fr xs =>
    obtain ⟨p, vs, rfl, hp, hn, h0, hr⟩ := (h : ∃ p vs, v = .ref p ∧ H p = some (.lst vs) ∧ p ∉ m ∧ H0 p = none ∧ RDs K H m xs vs)
    by_cases e : ubL m0.length xs = true
    · exact cut (.fr xs) ⟨p, vs, rfl, hp, fun hm => hn (z.pre.subset hm), h0, hr.cutm z.pre e⟩ (by show (if ubL m0.length xs then _ else _) = _; rw [if_pos e])
    · exact same (.fr xs) ⟨p, vs, rfl, hp, hn, h0, hr⟩ (by show (if ubL m0.length xs then _ else _) = _; rw [if_neg e])
  | d x =>
    have plain : (∀ l, x ≠ .loc l) → ∃ m', Le H0 m0 H m' ∧ Rl K m' H (leave m0.length (.d x) S).2 ∧ RV K H0 H m' (leave m0.length (.d x) S).1 v := fun hx => by
      have el : leave m0.length (.d x) S = if x.ub m0.length then (.d x, S.take m0.length) else (.d x, S) := by
        cases x with
        | loc l => exact (hx l rfl).elim
        | _ => rfl
      by_cases e : x.ub m0.length = true
      · rw [if_pos e] at el; exact cut (.d x) (RD.cut z.pre e h) el
      · rw [if_neg e] at el; exact same (.d x) h el
    cases x with
    | loc l =>
      by_cases hl : l < m0.length
      · exact cut (.d (.loc l)) (RD.cut (K := K) (H := H) (x := .loc l) z.pre (by simpa [D.ub] using hl) h) (by show (if l < m0.length then _ else _) = _; rw [if_pos hl])
      · cases e : S[l]? with
        | none => exact same (.d (.loc l)) h (by show (if l < m0.length then _ else match S[l]? with | some (.lst xs) => _ | _ => _) = _; rw [if_neg hl, e])
        | some o =>
          cases o with
          | dct _ _ => exact same (.d (.loc l)) h (by show (if l < m0.length then _ else match S[l]? with | some (.lst xs) => _ | _ => _) = _; rw [if_neg hl, e])
          | lst xs =>
            by_cases eu : ubL m0.length xs = true
            · obtain ⟨p, hp, rfl⟩ := (h : ∃ a, m[l]? = some a ∧ v = .ref a)
              obtain ⟨vs, h1, h2⟩ := R.lst hp e
              have hn : p ∉ m0 := fun hm => by
                obtain ⟨k, hk⟩ := List.getElem?_of_mem hm
                obtain ⟨k1, k2⟩ := List.getElem?_eq_some_iff.mp (pre_get z.pre hk)
                obtain ⟨l1, l2⟩ := List.getElem?_eq_some_iff.mp hp
                have : k = l := (List.getElem_inj R.nd).mp (k2.trans l2.symm)
                have hk0 := (List.getElem?_eq_some_iff.mp hk).1
                omega
              exact cut (.fr xs) ⟨p, vs, rfl, h1, hn, z.fresh p (List.mem_of_getElem? hp) hn, h2.cutm z.pre eu⟩
                (by show (if l < m0.length then _ else match S[l]? with | some (.lst xs) => _ | _ => _) = _; rw [if_neg hl, e]; show (if ubL m0.length xs then _ else _) = _; rw [if_pos eu])
            · exact same (.d (.loc l)) h (by show (if l < m0.length then _ else match S[l]? with | some (.lst xs) => _ | _ => _) = _; rw [if_neg hl, e]; show (if ubL m0.length xs then _ else _) = _; rw [if_neg eu])
    | _ => exact plain fun l z => by cases z
end
theorem leave_kp {b n : Nat} {S S' : Sto} {r : Vl} (k : Kp b S S') (hb : n = S.length) : Kp b S (leave n r S').2 ∧ S.length ≤ (leave n r S').2.length := by
  have ht : Kp b S (S'.take n) := by
    refine ⟨by simp; have := k.len; omega, fun m hm w l o hl ho => ?_⟩
    rw [List.getElem?_take] at ho
    split at ho
    · exact k.wf m hm w l o hl ho
    · cases ho
  have : (leave n r S').2 = S' ∨ (leave n r S').2 = S'.take n := by
    unfold leave
    split
    · split <;> simp
    · split
      · simp
      · split
        · split <;> simp
        · simp
    · split <;> simp
  rcases this with e | e <;> rw [e]
  · exact ⟨k, k.len⟩
  · exact ⟨ht, ht.len⟩

/-! ### keeping, of calls -/
def KC (rc : Rc) : Prop := ∀ f ds S r S', rc f ds S = .ok (r, S') → Kp S.length S S'
theorem KV.call {rc : Rc} {f : Nat} {l k : DL} {perm : List Nat} (kr : KC rc) (kl : KV l) (kk : KV k) : KV (sCall rc f l k perm) := fun b e S r S' hb he => by
  obtain ⟨p1, h1, he⟩ := bind_ok he
  obtain ⟨p2, h2, he⟩ := bind_ok he
  obtain ⟨p3, h3, he⟩ := bind_ok he
  have e1 : leave S.length p3.1 p3.2 = (r, S') := by injection he
  have k1 := kl S.length e S p1.1 p1.2 (Nat.le_refl _) h1
  have k2 := k1.trans (kk S.length e p1.2 p2.1 p2.2 k1.len h2)
  have k3 := k2.trans ((kr _ _ _ p3.1 p3.2 h3).mono k2.len)
  have := (leave_kp (r := p3.1) k3 rfl).1
  rw [e1] at this
  exact this.mono hb

/-! ### calls -/
theorem arr_get {α : Type} (perm : List Nat) (xs : List α) (h : ∀ i ∈ perm, i < xs.length) : (arr perm xs).length = perm.length ∧ ∀ j : Nat, (arr perm xs)[j]? = (perm[j]?).bind (xs[·]?) := by
  induction perm with
  | nil => exact ⟨rfl, fun j => by simp [arr]⟩
  | cons i perm ih =>
    obtain ⟨h1, h2⟩ := ih fun k hk => h k (by simp [hk])
    have hi : i < xs.length := h i (by simp)
    have e : arr (i :: perm) xs = xs[i] :: arr perm xs := by
      unfold arr
      rw [List.filterMap_cons, List.getElem?_eq_getElem hi]
    rw [e]
    refine ⟨by simp [h1], fun j => ?_⟩
    cases j with
    | zero => simp [List.getElem?_eq_getElem hi]
    | succ j => simpa using h2 j
theorem arr_vals {perm : List Nat} : ∀ {vs : List V} {us : List Value}, Vals vs us → Vals (arr perm vs) (arr perm us) := fun {vs us} r => by
  induction perm with
  | nil => exact .nil
  | cons i perm ih =>
    unfold arr at ih ⊢
    rw [List.filterMap_cons, List.filterMap_cons]
    cases e : vs[i]? with
    | none => rw [r.none_of e]; exact ih
    | some v =>
      obtain ⟨u, h1, h2⟩ := r.get e
      rw [h1]; exact .cons h2 ih
theorem arr_rds {K : PySem.W.Frag} {H : Hp} {m : List Addr} {perm : List Nat} : ∀ {xs : List D} {vs : List V}, RDs K H m xs vs → RDs K H m (arr perm xs) (arr perm vs) := fun {xs vs} r => by
  induction perm with
  | nil => exact (show RDs K H m [] [] from rfl)
  | cons i perm ih =>
    unfold arr at ih ⊢
    rw [List.filterMap_cons, List.filterMap_cons]
    cases e : xs[i]? with
    | none =>
      have : vs[i]? = none := by
        rw [List.getElem?_eq_none_iff] at e ⊢
        rw [← r.length]; exact e
      rw [this]; exact ih
    | some x =>
      obtain ⟨v, h1, h2⟩ := r.get e
      rw [h1]; exact ⟨v, _, rfl, h2, ih⟩
/-- what a def's call keeps, by the evaluator -/
def spN (K : PySem.W.Frag) (rc : Rc) (np : Nat) (f : Nat) : L2.Sp := fun vs H Q _ => vs.length = np ∧ ∃ (m : List Addr) (S : Sto) (ds : List D) (r : Vl) (S' : Sto), Rl K m H S ∧ RDs K H m ds vs ∧ rc f ds S = .ok (r, S') ∧
  ∀ v H' m', Le H m H' m' → Rl K m' H' S' → RV K H H' m' r v → Q v H'
def kwOk (ks : List Str) (kws : List Keyword) : Bool := decide (kws.map (·.arg) = ks.map some)
theorem kw_each (env : PySem.Env) : ∀ kws : List Keyword, keywordEach kws env = kws.map fun k => (k.arg, eval k.value env)
  | [] => rfl
  | ⟨n, v, p⟩ :: r => by
    show (n, eval v env) :: keywordEach r env = _
    rw [kw_each env r]; rfl
theorem kw_names (pos : Pos) (env : PySem.Env) (kws : List Keyword) : (backToKw pos (keywordEach kws env)).map (·.1) = kws.map (·.arg) := by
  rw [kw_each]
  unfold backToKw
  simp
theorem kw_facts {ks : List Str} {kws : List Keyword} (h : kwOk ks kws = true) (pos : Pos) (env : PySem.Env) : (backToKw pos (keywordEach kws env)).all (·.1.isSome) = true ∧ (backToKw pos (keywordEach kws env)).filterMap (·.1) = ks ∧ (backToKw pos (keywordEach kws env)).any (·.1.isNone) = false := by
  have e := kw_names pos env kws
  rw [of_decide_eq_true h] at e
  generalize backToKw pos (keywordEach kws env) = l at e
  have hl : ∀ p ∈ l, p.1.isSome = true := fun p hp => by
    have : p.1 ∈ l.map (·.1) := List.mem_map_of_mem hp
    rw [e] at this
    obtain ⟨k, _, hk⟩ := List.mem_map.mp this
    rw [← hk]; rfl
  refine ⟨List.all_eq_true.mpr hl, ?_, ?_⟩
  · have : l.filterMap (·.1) = (l.map (·.1)).filterMap id := by rw [List.filterMap_map]; rfl
    rw [this, e, List.filterMap_map]
    simp
  · apply Bool.eq_false_iff.mpr
    intro hc
    obtain ⟨p, hp, hq⟩ := List.any_eq_true.mp hc
    have := hl p hp
    cases e : p.1 <;> simp [e] at this hq
theorem plain_args {env : PySem.Env} {pos : Pos} : ∀ {es : List Expr}, es.all noStar = true → (backTo pos (starEach es env)).any (·.1) = false
  | [], _ => rfl
  | e :: es, h => by
    have h' : noStar e = true ∧ es.all noStar = true := by simpa using h
    rw [star1 h'.1]
    have := plain_args (env := env) (pos := pos) h'.2
    unfold backTo at this ⊢
    rw [List.map_cons, List.any_cons, this]
    rfl
def tK (K : PySem.W.Frag) (f : DL) : TA := tL K f
section
variable {X : Cx} {a b c ex : Expr} {f g : DV} {pos : Pos}
theorem PK.imp {kws : List Keyword} {t t' : TA} (h : L2.PK X kws t) (k : ∀ σ H Q, t' σ H Q → t σ H Q) : L2.PK X kws t' := ⟨fun p pins s σ H Q I q => h.run p pins s σ H Q I (k σ H Q q)⟩
theorem so_kNil : L2.PK X [] (tL X.K lNil) := PK.imp L2.pk_nil fun σ H Q ⟨b, m, e, S, r, S', hb, R, RE, he, q⟩ => by
  cases he
  exact q [] H m (Le.refl H m) R rfl
theorem so_kCons {kws : List Keyword} {nm : Option Str} {kp : Pos} {l : DL} (kf : KV f) (ha : PE X a (tE X.K f)) (hl : L2.PK X kws (tL X.K l)) : L2.PK X (⟨nm, a, kp⟩ :: kws) (tL X.K (lCons f l)) :=
  PK.imp (L2.pk_cons (so_D ha) hl) fun σ H Q ⟨b, m, e, S, r, S', hb, R, RE, he, q⟩ => by
    obtain ⟨p1, h1, he⟩ := bind_ok he
    obtain ⟨p2, h2, he⟩ := bind_ok he
    cases he
    have k1 := kf.sD b e S p1.1 p1.2 hb h1
    exact ⟨b, m, e, S, p1.1, p1.2, hb, R, RE, h1, fun v H' m' z R' rv => ⟨b, m', e, p1.2, p2.1, p2.2, Nat.le_trans hb k1.len, R', RE.mono z, h2, fun vs H2 m2 z2 R2 rvs => q _ H2 m2 (z.trans z2) R2 ⟨v, vs, rfl, rv.mono z2, rvs⟩⟩⟩
/-- which call shapes bind how: n values, keywords ks, put in the order of perm -/
def Bd (K : PySem.W.Frag) (fd : FuncData) (ps : List Str) (n : Nat) (ks : List Str) (perm : List Nat) : Prop :=
  ∀ (s : Shared) (us ws : List Value), K.In s.heap → us.length = n → ws.length = ks.length → BindsTo s fd ⟨us, ks.zip ws⟩ (ps.zip (arr perm (us ++ ws)))
theorem tL_len {K : PySem.W.Frag} {l : DL} {n : Nat} (hn : ∀ b e S r S', l b e S = .ok (r, S') → r.length = n) {σ : L2.St} {H : Hp} {Q : List V → Hp → Prop} (h : tL K l σ H Q) : tL K l σ H fun vs H' => vs.length = n ∧ Q vs H' := by
  obtain ⟨b, m, e, S, r, S', hb, R, RE, he, q⟩ := h
  exact ⟨b, m, e, S, r, S', hb, R, RE, he, fun vs H' m' z R' rv => ⟨by rw [← rv.length]; exact hn b e S r S' he, q vs H' m' z R' rv⟩⟩
def LL (l : DL) (n : Nat) : Prop := ∀ b e S r S', l b e S = .ok (r, S') → r.length = n
theorem LL.nil : LL lNil 0 := fun b e S r S' h => by cases h; rfl
theorem LL.cons {f : DV} {l : DL} {n : Nat} (h : LL l n) : LL (lCons f l) (n + 1) := fun b e S r S' he => by
  obtain ⟨p1, h1, he⟩ := bind_ok he
  obtain ⟨p2, h2, he⟩ := bind_ok he
  cases he
  simp [h _ _ _ _ _ h2]
theorem so_call {rc : Rc} {k fi : Nat} {fa : Addr} {fd : FuncData} {ps ks : List Str} {np : Nat} {perm : List Nat} {x : Str} {p : Pos} {es : List Expr} {kws : List Keyword} {l kl : DL} (kr : KC rc) (F : FnOk X.prog X.w X.K X.mg X.base CX0 k fa fd ps (spN X.K rc np fi))
    (hr : Room k X.A) (hg : Gl X x) (hm : X.mg x = some (.ref fa)) (hk : PySem.W.keepIn X.K (.ref fa) = true) (hB : Bd X.K fd ps es.length ks perm) (hnp : perm.length = np) (hpm : ∀ i ∈ perm, i < es.length + ks.length) (hst : es.all noStar = true) (hkw : kwOk ks kws = true) (hd : (x == ("__debug__" : Str)) = false)
    (h0l : es = [] → l = lNil) (kl1 : KV l) (kl2 : KV kl) (ll1 : LL l es.length) (ll2 : LL kl ks.length) (ha : PA X es (tL X.K l)) (hK : L2.PK X kws (tL X.K kl)) : PE X (.Call (.Name x p) es kws pos) (tE X.K (sCall rc fi l kl perm)) := by
  have core : ∀ σ H Q, tE X.K (sCall rc fi l kl perm) σ H Q → tL X.K l σ H fun vs H1 => vs.length = es.length ∧ tL X.K kl σ H1 fun zs H2 => zs.length = ks.length ∧ spN X.K rc np fi (arr perm (vs ++ zs)) H2 Q E0 := fun σ H Q ⟨b, m, e, S, r, S', hb, R, RE, he, q⟩ => by
    obtain ⟨p1, h1, he⟩ := bind_ok he
    obtain ⟨p2, h2, he⟩ := bind_ok he
    obtain ⟨p3, h3, he⟩ := bind_ok he
    have e1 : leave S.length p3.1 p3.2 = (r, S') := by injection he
    have k1 := kl1 S.length e S p1.1 p1.2 (Nat.le_refl _) h1
    have k2 := k1.trans (kl2 S.length e p1.2 p2.1 p2.2 k1.len h2)
    have k3 := k2.trans ((kr _ _ _ p3.1 p3.2 h3).mono k2.len)
    refine ⟨S.length, m, e, S, p1.1, p1.2, Nat.le_refl _, R, RE, h1, fun vs H1 m1 z1 R1 r1 => ⟨by rw [← r1.length]; exact ll1 _ _ _ _ _ h1, S.length, m1, e, p1.2, p2.1, p2.2, k1.len, R1, RE.mono z1, h2, fun zs H2 m2 z2 R2 r2 => ⟨by rw [← r2.length]; exact ll2 _ _ _ _ _ h2, ?_, m2, p2.2, _, p3.1, p3.2, R2, arr_rds ((r1.mono z2).append r2), h3, fun v H3 m3 z3 R3 r3 => ?_⟩⟩⟩
    · have l1 : vs.length = es.length := by rw [← r1.length]; exact ll1 _ _ _ _ _ h1
      have l2 : zs.length = ks.length := by rw [← r2.length]; exact ll2 _ _ _ _ _ h2
      rw [(arr_get perm (vs ++ zs) fun i hi => by rw [List.length_append, l1, l2]; exact hpm i hi).1, hnp]
    · have z := z1.trans (z2.trans z3)
      have hlen := R.len
      have w : WF m.length p3.2 := by rw [hlen]; exact k3.wf _ (Nat.le_refl _) R.wf
      obtain ⟨m4, z4, R4, r4⟩ := leave_ok z R3 w (RV.from (z1.trans z2) z3 r3)
      rw [hlen, e1] at R4 r4
      exact q v H3 m4 z4 R4 r4
  refine ⟨fun pins s σ H Q I h => ?_⟩
  replace h := core σ H Q h
  have hb : L2.KBn X.K fd ps es.length ks (fun us ws => arr perm (us ++ ws)) (fun vs zs => arr perm (vs ++ zs)) := ⟨fun s us ws h1 h2 h3 => hB s us ws h1 h2 h3, fun r1 r2 => arr_vals (r1.append r2)⟩
  obtain ⟨f1, f2, f3⟩ := kw_facts hkw pos X.env
  cases es with
  | nil =>
    refine wpAny_Call_Name_kw (L2.ld_glob I hg hm ?_ hd)
    refine PySem.W.callWith_KW0 (h₀ := X.base) I.ok.mod.kin hk f1 ?_ (by rw [f3]; rfl)
    have el := h0l rfl
    subst el
    obtain ⟨b, m, e, S, r, S', hb0, R, RE, he, q⟩ := h
    cases he
    obtain ⟨_, q2⟩ := q [] H m (Le.refl _ _) R rfl
    refine L2.thn (hK.run pos pins s σ H _ I q2) fun ws s2 ⟨zs, H2, I2, rz, q3, q4⟩ => ⟨I2.kIn, ?_⟩
    rw [f2]
    exact L2.run_fnN (us := []) (vs := []) F hr hb L2.pass0 I2 .nil rz rfl q3 q4
  | cons e0 es =>
    have h' : L2.tCallN (e0 :: es).length ks.length (spN X.K rc np fi) (fun vs zs => arr perm (vs ++ zs)) E0 (tL X.K l) (tL X.K kl) σ H Q := by
      obtain ⟨b, m, e, S, r, S', hb0, R, RE, he, q⟩ := h
      refine ⟨b, m, e, S, r, S', hb0, R, RE, he, fun vs H1 m1 z1 R1 r1 => ?_⟩
      obtain ⟨q1, b2, m2, e2, S2, r2, S3, hb2, R2, RE2, he2, q2⟩ := q vs H1 m1 z1 R1 r1
      exact ⟨b2, m2, e2, S2, r2, S3, hb2, R2, RE2, he2, fun zs H2 m3 z2 R3 r3 => let ⟨q3, q4⟩ := q2 zs H2 m3 z2 R3 r3; ⟨q1, q3, q4⟩⟩
    have hst' : noStar e0 = true ∧ es.all noStar = true := by simpa using hst
    exact (L2.pe_callN F hr hg hm hk hb L2.pass0 ha hK f1 f2 hd (star1 hst'.1 es X.env) (by rw [plain_args hst, f3]; rfl)).run pins s σ H Q I h'
end
end Pv
set_option linter.all false
set_option autoImplicit false
set_option maxRecDepth 100000
/-! What the evaluator tells, the machine does: op=, several targets at once, a comprehension stored. -/
namespace Pv
open PySem PySem.Spec PyProof.Rows
open L2 (V Hp HO upd upd_same upd_ne VK XK TE TT TA TS TG TGs TI Cx PE PT PW PA PS PSs PG PGs PI Inv RelV SqL SqT OpR CallR Gl Ends Vals Room FnOk CX0 E0)
section
variable {X : Cx} {a b c ex : Expr} {f g : DV} {pos : Pos}
def augOk : Bo → Bool
  | .add => true | .sub => true | .mul => true | .fdiv => true
  | _ => false
def ipB (o : Bo) : L2.TIp := fun x y H Q => ∃ i j k, x = .int i ∧ y = .int j ∧ binI o i j = some k ∧ Q (.int k) H
theorem ip_ok {o : Bo} (h : augOk o = true) : L2.PIp X (opOf o) (ipB o) := by
  intro pins s σ H x y v u Q I rx ry ⟨i, j, k, ex, ey, hk, q⟩
  subst ex
  subst ey
  cases o with
  | add => cases hk; exact L2.iop_add pins s σ H _ _ v u Q I rx ry ⟨i, j, rfl, rfl, q⟩
  | sub => cases hk; exact L2.iop_sub pins s σ H _ _ v u Q I rx ry ⟨i, j, rfl, rfl, q⟩
  | mul =>
    by_cases e : i.natAbs < 18446744073709551616 ∨ j.natAbs < 18446744073709551616
    · rw [binI_mul e] at hk; cases hk
      exact L2.iop_mul pins s σ H _ _ v u Q I rx ry ⟨i, j, rfl, rfl, e.imp (fun z => by constructor <;> omega) (fun z => by constructor <;> omega), q⟩
    · rw [show binI .mul i j = none from if_neg e] at hk; cases hk
  | fdiv =>
    by_cases e : 0 < j ∧ j < 1073741824
    · rw [binI_fdiv e] at hk; cases hk
      exact L2.iop_fdiv pins s σ H _ _ v u Q I rx ry ⟨i, j, rfl, rfl, e, q⟩
    · rw [show binI .fdiv i j = none from if_neg e] at hk; cases hk
  | _ => cases h
theorem augI_some {o : Bo} {y x n : D} (h : augI o y x = some n) : ∃ i j k, y = .int i ∧ x = .int j ∧ binI o i j = some k ∧ n = .int k := by
  unfold augI at h
  split at h
  · rename_i i j
    cases e : binI o i j with
    | none => rw [e] at h; cases h
    | some k => rw [e] at h; cases h; exact ⟨i, j, k, rfl, rfl, e, rfl⟩
  · cases h
theorem so_aug {o : Bo} {i : Nat} {x : Str} {px : Pos} (ho : augOk o = true) (hN : X.N.Nodup) (hi : X.N[i]? = some x) (hx : L2.Loc X.env.scope x) (hf : X.fn x = true ∨ X.env.scope.names.lookup x = some .local) (ha : PE X a (tE X.K f)) :
    PS X (.AugAssign (.Name x px) (opOf o) a pos) (tF X.K (cAug i o f)) := PS.imp (L2.ps_aug hN hi hx (so_D ha) (ip_ok ho) hf) fun D σ H ⟨b, m, e, S, fl, e', S', hb, R, E, he, q⟩ => by
  obtain ⟨y, h0, he⟩ := bind_ok he
  obtain ⟨p1, h1, he⟩ := bind_ok he
  obtain ⟨n, h2, he⟩ := bind_ok he
  cases he
  obtain ⟨i', j', k', e1, e2, e3, e4⟩ := augI_some (ofO_ok h2)
  have hy : e[i]? = some (some y) := by
    unfold envGet at h0
    split at h0
    · rename_i z hz; cases h0; exact hz
    · cases h0
  obtain ⟨v, hv, rv⟩ := E.2 i y hy
  refine ⟨v, hv, b, m, e, S, p1.1, p1.2, hb, R, E, h1, fun w H' m' z R' rw_ => ?_⟩
  rw [e1] at rv
  rw [e2] at rw_
  exact ⟨i', j', k', rv, rw_, e3, q _ H' m' z R' (by rw [e4]; exact RE.set (x := .int k') (v := .int k') (RE.mono z E) rfl i)⟩
theorem pget_list : L2.PGet X (fun o i H Q => ∃ p xs k v, o = .ref p ∧ i = .int k ∧ SqL X.K H p xs ∧ 0 ≤ k ∧ xs[k.toNat]? = some v ∧ Q v H) := by
  intro pins s σ H o i ov iv Q I ro ri ⟨p, xs, k, v, eo, ei, hq, h0, hx, q⟩
  subst eo
  subst ei
  cases ro
  obtain ⟨t, rfl⟩ := (ri : ∃ t, iv = Value.int k t)
  obtain ⟨its, r, pl, hz⟩ := I.list hq
  obtain ⟨u, hu, ru⟩ := r.get hx
  have hl : k.toNat < xs.length := (List.getElem?_eq_some_iff.mp hx).1
  have hz' : xs.length ≤ 16777216 := hz
  exact wpAny_getItem_list pl.isList h0 (by omega) (by simpa using hu) ⟨v, H, I, ru, q⟩
theorem augst {i : Expr} (h : noSlice i = true) (ov iv new : Value) : augStore i ov iv new = (do
    holding [new, ov, iv] (setItem ov iv new)
    release [new, ov, iv] []
    pure .next) := by
  cases i <;> first | rfl | cases h
theorem so_augs {o : Bo} {x y : DV} {px : Pos} (ho : augOk o = true) (h : noSlice b = true) (kx : KV x) (ky : KV y) (kf : KV f) (hx : PE X a (tE X.K x)) (hy : PE X b (tE X.K y)) (hc : PE X c (tE X.K f)) :
    PS X (.AugAssign (.Subscript a b px) (opOf o) c pos) (tF X.K (cAugs x y o f)) := PS.imp (L2.ps_augS (so_D hx) (so_D hy) pget_list (so_D hc) (ip_ok ho) L2.set_list (augst h)) fun D σ H ⟨b, m, e, S, fl, e', S', hb, R, E, he, q⟩ => by
  obtain ⟨p1, h1, he⟩ := bind_ok he
  obtain ⟨p2, h2, he⟩ := bind_ok he
  obtain ⟨d, h3, he⟩ := bind_ok he
  obtain ⟨p3, h4, he⟩ := bind_ok he
  obtain ⟨n, h5, he⟩ := bind_ok he
  obtain ⟨S4, h6, he⟩ := bind_ok he
  cases he
  have k1 := kx.sD b e S p1.1 p1.2 hb h1
  have k2 := k1.trans (ky.sD b e p1.2 p2.1 p2.2 (Nat.le_trans hb k1.len) h2)
  obtain ⟨i', j', k', e1, e2, e3, e4⟩ := augI_some (ofO_ok h5)
  refine ⟨b, m, e, S, p1.1, p1.2, hb, R, E, h1, fun vo H1 m1 z1 R1 r1 => ⟨b, m1, e, p1.2, p2.1, p2.2, Nat.le_trans hb k1.len, R1, RE.mono z1 E, h2, fun vi H2 m2 z2 R2 r2 => ?_⟩⟩
  have r1' := r1.mono z2
  have h3' := ofO_ok h3
  unfold idxL at h3'
  split at h3'
  · rename_i l k hl hk
    rw [hk] at r2
    rw [hl] at r1'
    cases (show vi = .int k from r2)
    split at h3'
    · rename_i xs hxs
      split at h3'
      · rename_i h0
        obtain ⟨p, hp, rfl⟩ := (r1' : ∃ a, m2[l]? = some a ∧ vo = .ref a)
        obtain ⟨vs, w1, w2⟩ := R2.lst hp hxs
        obtain ⟨v, w3, w4⟩ := w2.get h3'
        refine ⟨p, vs, k, v, rfl, rfl, SqL.of w1, h0, w3, b, m2, e, p2.2, p3.1, p3.2, Nat.le_trans hb k2.len, R2, RE.mono (z1.trans z2) E, h4, fun w H3 m3 z3 R3 r3 => ?_⟩
        rw [e1] at w4
        rw [e2] at r3
        refine ⟨i', j', k', w4, r3, e3, ?_⟩
        rw [hl, hk, e4] at h6
        have rl : RD X.K H3 m3 (.loc l) (.ref p) := ⟨p, pre_get z3.pre hp, rfl⟩
        exact set_sub (i := .int k) (x := .int k') (v := .int k') R3 rl rfl rfl h6 fun H4 z4 R4 => q σ H4 m3 (z1.trans (z2.trans (z3.trans z4))) R4 (RE.mono (z1.trans (z2.trans (z3.trans z4))) E)
      · cases h3'
    · cases h3'
  · cases h3'

/-! ### a, b = x, y -/
def isStar : Expr → Bool
  | .Starred .. => true
  | _ => false
def nameAt (env : PySem.Env) (line : Nat) : Expr → Option Str
  | .Name id pos => if env.kindOf id == some .local && pos.line == line then some id else none
  | _ => none
theorem swap_eq (env : PySem.Env) (ts vs : List Expr) (k k2 : Nat) (p p2 : Pos) : swappedStores [.Tuple ts k p] (.Tuple vs k2 p2) env =
  (if (!(ts.length == 2 || ts.length == 3) || vs.length != ts.length || env.blockKind != .function) = true then pure none
   else if (vs.any isStar) = true then pure none
   else if ((ts.filterMap (nameAt env ((ts.head?.map (·.pos.line)).getD 0))).length != ts.length || (ts.filterMap (nameAt env ((ts.head?.map (·.pos.line)).getD 0))).eraseDups.length != (ts.filterMap (nameAt env ((ts.head?.map (·.pos.line)).getD 0))).length) = true then pure none
   else if (vs.all (foldedForSure 8)) = true then pure none
   else if (vs.all (constantsAlone 8)) = true then (do unsupported "assign.tuple-of-constant-expressions:order-of-the-stores"; pure (some (ts.filterMap (nameAt env ((ts.head?.map (·.pos.line)).getD 0)))))
   else pure (some (ts.filterMap (nameAt env ((ts.head?.map (·.pos.line)).getD 0))))) := by
  unfold swappedStores
  rfl
def nameSc (sc : Scope) (line : Nat) : Expr → Option Str
  | .Name id pos => if sc.names.lookup id == some .local && pos.line == line then some id else none
  | _ => none
/-- what the exchange of stores comes to; none: not told -/
def swapC (sc : Scope) (ts vs : List Expr) : Option (Option (List Str)) :=
  if (!(ts.length == 2 || ts.length == 3) || vs.length != ts.length) = true then some none
  else if (vs.any isStar) = true then some none
  else if ((ts.filterMap (nameSc sc ((ts.head?.map (·.pos.line)).getD 0))).length != ts.length || (ts.filterMap (nameSc sc ((ts.head?.map (·.pos.line)).getD 0))).eraseDups.length != (ts.filterMap (nameSc sc ((ts.head?.map (·.pos.line)).getD 0))).length) = true then some none
  else if (vs.all (foldedForSure 8)) = true then some none
  else if (vs.all (constantsAlone 8)) = true then none
  else some (some (ts.filterMap (nameSc sc ((ts.head?.map (·.pos.line)).getD 0))))
theorem swap_is {env : PySem.Env} {sc : Scope} (he : env.scope = sc) (hk : sc.kind = .function) {ts vs : List Expr} {k k2 : Nat} {p p2 : Pos} {r : Option (List Str)} (h : swapC sc ts vs = some r) : swappedStores [.Tuple ts k p] (.Tuple vs k2 p2) env = pure r := by
  subst he
  have hb : env.blockKind = .function := by unfold Env.blockKind; rw [hk]; rfl
  have hn : ∀ line, nameAt env line = nameSc env.scope line := fun line => by funext x; cases x <;> rfl
  rw [swap_eq, hb]
  simp only [hn]
  unfold swapC at h
  split at h
  · rename_i h1
    cases h
    rw [if_pos (by rw [h1]; rfl)]
  · rename_i h1
    rw [if_neg (by rw [Bool.eq_false_iff.mpr h1]; decide)]
    split at h
    · rename_i h2; cases h; rw [if_pos h2]
    · rename_i h2
      rw [if_neg h2]
      split at h
      · rename_i h3; cases h; rw [if_pos h3]
      · rename_i h3
        rw [if_neg h3]
        split at h
        · rename_i h4; cases h; rw [if_pos h4]
        · rename_i h4
          rw [if_neg h4]
          split at h
          · cases h
          · rename_i h5; cases h; rw [if_neg h5]
def isTup : Expr → Bool
  | .Tuple .. => true
  | _ => false
def plainG : Expr → Bool
  | .Name .. => true
  | .Subscript .. => true
  | _ => false
theorem swap_plain {env : PySem.Env} {t e : Expr} (h : plainG t = true) : swappedStores [t] e env = pure none := by
  cases t with
  | Name _ _ => cases e <;> rfl
  | Subscript _ _ _ => cases e <;> rfl
  | _ => cases h
theorem swap_val {env : PySem.Env} {ts : List Expr} {k : Nat} {p : Pos} {e : Expr} (h : isTup e = false) : swappedStores [.Tuple ts k p] e env = pure none := by
  cases e with
  | Tuple _ _ _ => cases h
  | _ => rfl
theorem so_swap2 {i j : Nat} {x y : Str} {px py pt pt2 : Pos} {kt k2 : Nat} {l : DL} (hc : X.calm = true) (hN : X.N.Nodup) (hi : X.N[i]? = some x) (hj : X.N[j]? = some y) (hij : i ≠ j) (hx : X.env.scope.names.lookup x = some .local) (hy : X.env.scope.names.lookup y = some .local)
    (ha : PA X [a, b] (tL X.K l)) (hw : swappedStores [.Tuple [.Name x px, .Name y py] kt pt] (.Tuple [a, b] k2 pt2) X.env = pure (some [x, y])) :
    PS X (.Assign [.Tuple [.Name x px, .Name y py] kt pt] (.Tuple [a, b] k2 pt2) pos) (tF X.K (cSwap [i, j] l)) := PS.imp (L2.ps_par hc hN hi hj hij hx hy ha hw) fun D σ H ⟨b, m, e, S, fl, e', S', hb, R, E, he, q⟩ => by
  obtain ⟨p1, h1, he⟩ := bind_ok he
  split at he
  · rename_i hl
    cases he
    refine ⟨b, m, e, S, p1.1, p1.2, hb, R, E, h1, fun vs H' m' z R' rv => ?_⟩
    obtain ⟨ds, S1⟩ := p1
    match ds, hl with
    | [d1, d2], _ =>
      obtain ⟨v, ws, rfl, r1, v2, ws2, rfl, r2, r3⟩ := rv
      cases (show ws2 = [] from r3)
      exact ⟨v, v2, rfl, q _ H' m' z R' (RE.set (RE.set (RE.mono z E) r1 i) r2 j)⟩
  · cases he
theorem so_swap3 {i j h : Nat} {x y z : Str} {px py pz pt pt2 : Pos} {kt k2 : Nat} {l : DL} (hc : X.calm = true) (hN : X.N.Nodup) (hi : X.N[i]? = some x) (hj : X.N[j]? = some y) (hh : X.N[h]? = some z) (hij : i ≠ j) (hih : i ≠ h) (hjh : j ≠ h) (hx : X.env.scope.names.lookup x = some .local) (hy : X.env.scope.names.lookup y = some .local) (hz : X.env.scope.names.lookup z = some .local)
    (ha : PA X [a, b, c] (tL X.K l)) (hw : swappedStores [.Tuple [.Name x px, .Name y py, .Name z pz] kt pt] (.Tuple [a, b, c] k2 pt2) X.env = pure (some [x, y, z])) :
    PS X (.Assign [.Tuple [.Name x px, .Name y py, .Name z pz] kt pt] (.Tuple [a, b, c] k2 pt2) pos) (tF X.K (cSwap [i, j, h] l)) := PS.imp (L2.ps_par3 hc hN hi hj hh hij hih hjh hx hy hz ha hw) fun D σ H ⟨b, m, e, S, fl, e', S', hb, R, E, he, q⟩ => by
  obtain ⟨p1, h1, he⟩ := bind_ok he
  split at he
  · rename_i hl
    cases he
    refine ⟨b, m, e, S, p1.1, p1.2, hb, R, E, h1, fun vs H' m' z R' rv => ?_⟩
    obtain ⟨ds, S1⟩ := p1
    match ds, hl with
    | [d1, d2, d3], _ =>
      obtain ⟨v, ws, rfl, r1, v2, ws2, rfl, r2, v3, ws3, rfl, r3, r4⟩ := rv
      cases (show ws3 = [] from r4)
      exact ⟨v, v2, v3, rfl, q _ H' m' z R' (RE.set (RE.set (RE.set (RE.mono z E) r1 i) r2 j) r3 h)⟩
  · cases he
theorem so_setComp {i : Nat} {y : Str} {py : Pos} {elt tgt iter : Expr} {ifs : List Expr} {scope : Scope} {own : List (Str × Nat)} {cpos : Pos} {x : DV} {t : DG} {it : DI} {u : DT} {ts : List Nat} (hc : X.calm = true) (hN : X.N.Nodup) (hy : X.N[i]? = some y) (hyl : X.env.scope.names.lookup y = some .local)
    (hsw : swapsWith (.ListComp elt [⟨tgt, iter, ifs, 0⟩] scope cpos) (some (.Name y py)) pos.line X.env = pure true) (ok : L2.BlkOk X.N X.env.scope scope own) (hts : ∀ i ∈ ts, i ∈ own.map (·.2))
    (hi : PI X tgt iter (tI X.K it)) (hg : ∀ (s : Shared) (H : Hp) (C : Addr) (cl : List (Str × Addr)) (fp : List Addr), PG (X.blk s H scope (compEnvC scope cl C X.env) fp) tgt (tg X.K ts t))
    (ht : ∀ (s : Shared) (H : Hp) (C : Addr) (cl : List (Str × Addr)) (fp : List Addr), L2.PTs (X.blk s H scope (compEnvC scope cl C X.env) fp) ifs (tT X.K u))
    (he : ∀ (s : Shared) (H : Hp) (C : Addr) (cl : List (Str × Addr)) (fp : List Addr), PE (X.blk s H scope (compEnvC scope cl C X.env) fp) elt (tE X.K x))
    (hs : ∀ x, foldedSetIterable iter X.env x = pure x) (kx : KV x) (kt : KG t) (ki : KV it) (ku : KV u) :
    PS X (.Assign [.Name y py] (.ListComp elt [⟨tgt, iter, ifs, 0⟩] scope cpos) pos) (tF X.K (cAsg (gVar i) (sComp x t it u (own.map (·.2))))) :=
  PS.imp (L2.ps_setLc hc hN hy hyl hsw hi ok hg ht (fun s H C cl fp => so_D (he s H C cl fp)) hs) fun D σ H ⟨b, m, e, S, fl, e', S', hb, R, E, hev, q⟩ => by
    obtain ⟨p1, h1, hev⟩ := bind_ok hev
    obtain ⟨p2, h2, hev⟩ := bind_ok hev
    cases h2
    cases hev
    obtain ⟨p0, h0, h1⟩ := bind_ok h1
    have e1 : settle p0.1 p0.2 = p1 := by injection h1
    refine so_comp hc hN ok hts hi hg ht he hs kx kt ki ku σ H _ ⟨b, m, e, S, p0.1, p0.2, hb, R, E, h0, fun v H' m' z R' rv => ?_⟩
    obtain ⟨m2, z2, z3, R2, r2⟩ := settled z R' rv
    rw [e1] at R2 r2
    exact q _ H' m2 z2 R2 (RE.set (RE.mono z2 E) r2 i)
theorem so_compE {elt tgt iter : Expr} {ifs : List Expr} {scope : Scope} {own : List (Str × Nat)} {x : DV} {t : DG} {it : DI} {u : DT} {ts : List Nat} (hc : X.calm = true) (hN : X.N.Nodup) (ok : L2.BlkOk X.N X.env.scope scope own) (hts : ∀ i ∈ ts, i ∈ own.map (·.2))
    (hi : PI X tgt iter (tI X.K it)) (hg : ∀ (s : Shared) (H : Hp) (C : Addr) (cl : List (Str × Addr)) (fp : List Addr), PG (X.blk s H scope (compEnvC scope cl C X.env) fp) tgt (tg X.K ts t))
    (ht : ∀ (s : Shared) (H : Hp) (C : Addr) (cl : List (Str × Addr)) (fp : List Addr), L2.PTs (X.blk s H scope (compEnvC scope cl C X.env) fp) ifs (tT X.K u))
    (he : ∀ (s : Shared) (H : Hp) (C : Addr) (cl : List (Str × Addr)) (fp : List Addr), PE (X.blk s H scope (compEnvC scope cl C X.env) fp) elt (tE X.K x))
    (hs : ∀ x, foldedSetIterable iter X.env x = pure x) (kx : KV x) (kt : KG t) (ki : KV it) (ku : KV u) : PE X (.ListComp elt [⟨tgt, iter, ifs, 0⟩] scope pos) (tE X.K (sComp x t it u (own.map (·.2)))) :=
  PE.imp (L2.pe_lc hc hN hi ok hg ht (fun s H C cl fp => so_D (he s H C cl fp)) hs) (so_comp hc hN ok hts hi hg ht he hs kx kt ki ku)
end
end Pv
set_option linter.all false
set_option autoImplicit false
set_option maxRecDepth 100000
/-! What the evaluator tells, the machine does: dicts. -/
namespace Pv
open PySem PySem.Spec PyProof.Rows
open L2 (V Hp HO upd upd_same upd_ne VK XK TE TT TA TS TG TGs TI It Cx PE PT PW PA PS PSs PG PGs PI Inv RelV SqL SqT OpR CallR Gl Ends)
section
variable {K : PySem.W.Frag} {H : Hp} {m : List Addr}
theorem isK_kD {x : D} (h : isK x = true) : ∃ j : L2.Key, x = kD j := by
  cases x with
  | int i => exact ⟨.inl i, rfl⟩
  | str s => exact ⟨.inr s, rfl⟩
  | _ => cases h
theorem kD_V {j : L2.Key} {v : V} (h : RD K H m (kD j) v) : v = L2.kV j := by
  cases j with
  | inl i => exact h
  | inr s => exact h
theorem eqF_kD (a b : L2.Key) : eqF (kD a) (kD b) = decide (a = b) := by
  cases a with
  | inl i => cases b with
    | inl j =>
      show (i == j) = _
      by_cases h : i = j
      · rw [h]; simp
      · rw [beq_eq_false_iff_ne.mpr h, decide_eq_false (fun e => h (Sum.inl.inj e))]
    | inr t => rfl
  | inr s => cases b with
    | inl j => rfl
    | inr t =>
      show decide (s = t) = _
      by_cases h : s = t
      · rw [h]; simp
      · rw [decide_eq_false h, decide_eq_false (fun e => h (Sum.inr.inj e))]
/-- a dict's entries and the machine's -/
def RK (K : PySem.W.Frag) (H : Hp) (m : List Addr) (kvs : List (D × D)) (ks : List (L2.Key × V)) : Prop := kvs.map (·.1) = ks.map (fun p => kD p.1) ∧ RDs K H m (kvs.map (·.2)) (ks.map (·.2))
theorem RK.cons {p : D × D} {kvs : List (D × D)} {ks : List (L2.Key × V)} (h : RK K H m (p :: kvs) ks) : ∃ k v ks', ks = (k, v) :: ks' ∧ p.1 = kD k ∧ RD K H m p.2 v ∧ RK K H m kvs ks' := by
  obtain ⟨h1, h2⟩ := h
  cases ks with
  | nil => simp at h1
  | cons q ks =>
    rw [List.map_cons, List.map_cons] at h1
    injection h1 with a b
    obtain ⟨v, ws, e, r1, r2⟩ := (h2 : ∃ v ws, (q :: ks).map (·.2) = v :: ws ∧ RD K H m p.2 v ∧ RDs K H m (kvs.map (·.2)) ws)
    rw [List.map_cons] at e
    injection e with e1 e2
    subst e1
    subst e2
    exact ⟨q.1, q.2, ks, rfl, a, r1, b, r2⟩
theorem RK.mk {p : D × D} {k : L2.Key} {v : V} {kvs : List (D × D)} {ks : List (L2.Key × V)} (h1 : p.1 = kD k) (h2 : RD K H m p.2 v) (h : RK K H m kvs ks) : RK K H m (p :: kvs) ((k, v) :: ks) := by
  refine ⟨?_, v, ks.map (·.2), rfl, h2, h.2⟩
  rw [List.map_cons, List.map_cons, h.1, h1]
theorem RK.get {j : L2.Key} : ∀ {kvs : List (D × D)} {ks : List (L2.Key × V)}, RK K H m kvs ks → (∀ x, getK kvs (kD j) = some x → ∃ v, L2.valV ks j = some v ∧ RD K H m x v) ∧ (getK kvs (kD j) = none → L2.valV ks j = none)
  | [], ks, h => by
    have : ks = [] := by
      cases ks with
      | nil => rfl
      | cons q ks => have := h.1; simp at this
    subst this
    exact And.intro (fun x hx => by cases (hx : none = some x)) (fun _ => rfl)
  | p :: kvs, ks, h => by
    obtain ⟨k, v, ks', rfl, h1, h2, h3⟩ := h.cons
    have ih := RK.get (j := j) h3
    by_cases e : k = j
    · have e1 : getK (p :: kvs) (kD j) = some p.2 := by
        unfold getK
        rw [List.find?_cons, h1, eqF_kD, decide_eq_true e]
        rfl
      rw [e1, L2.valV_pos e]
      exact ⟨fun x hx => by cases hx; exact ⟨v, rfl, h2⟩, fun hx => by cases hx⟩
    · have e1 : getK (p :: kvs) (kD j) = getK kvs (kD j) := by
        unfold getK
        rw [List.find?_cons, h1, eqF_kD, decide_eq_false e]
      rw [e1, L2.valV_neg (show ¬ ((k, v) : L2.Key × V).1 = j from e)]
      exact ih
theorem RK.isSome {j : L2.Key} {kvs : List (D × D)} {ks : List (L2.Key × V)} (h : RK K H m kvs ks) : (getK kvs (kD j)).isSome = (L2.valV ks j).isSome := by
  obtain ⟨a, b⟩ := h.get (j := j)
  cases e : getK kvs (kD j) with
  | none => rw [b e]; rfl
  | some x => obtain ⟨v, e1, _⟩ := a x e; rw [e1]; rfl
theorem RK.any {j : L2.Key} : ∀ {kvs : List (D × D)} {ks : List (L2.Key × V)}, RK K H m kvs ks → (kvs.any fun p => eqF p.1 (kD j)) = ks.any fun p => decide (p.1 = j)
  | [], ks, h => by
    have : ks = [] := by
      cases ks with
      | nil => rfl
      | cons q ks => have := h.1; simp at this
    subst this
    rfl
  | p :: kvs, ks, h => by
    obtain ⟨k, v, ks', rfl, h1, h2, h3⟩ := h.cons
    rw [List.any_cons, List.any_cons, h1, eqF_kD, RK.any h3]
theorem RK.rep {j : L2.Key} {x : D} {v : V} (r : RD K H m x v) : ∀ {kvs : List (D × D)} {ks : List (L2.Key × V)}, RK K H m kvs ks → RK K H m (kvs.map fun p => if eqF p.1 (kD j) then (p.1, x) else p) (ks.map fun p => if p.1 = j then (p.1, v) else p)
  | [], ks, h => by
    have : ks = [] := by
      cases ks with
      | nil => rfl
      | cons q ks => have := h.1; simp at this
    subst this
    exact h
  | p :: kvs, ks, h => by
    obtain ⟨k, u, ks', rfl, h1, h2, h3⟩ := h.cons
    have ih := RK.rep (j := j) r h3
    rw [List.map_cons, List.map_cons]
    by_cases e : k = j
    · have a : (if eqF p.1 (kD j) = true then (p.1, x) else p) = (p.1, x) := if_pos (by rw [h1, eqF_kD, decide_eq_true e])
      have b : (if ((k, u) : L2.Key × V).1 = j then (((k, u) : L2.Key × V).1, v) else (k, u)) = (k, v) := if_pos e
      rw [a, b]
      exact RK.mk h1 r ih
    · have a : (if eqF p.1 (kD j) = true then (p.1, x) else p) = p := if_neg (by rw [h1, eqF_kD, decide_eq_false e]; simp)
      have b : (if ((k, u) : L2.Key × V).1 = j then (((k, u) : L2.Key × V).1, v) else (k, u)) = (k, u) := if_neg e
      rw [a, b]
      exact RK.mk h1 h2 ih
theorem RK.put {j : L2.Key} {x : D} {v : V} (r : RD K H m x v) {kvs : List (D × D)} {ks : List (L2.Key × V)} (h : RK K H m kvs ks) : RK K H m (putK kvs (kD j) x) (L2.putK ks j v) := by
  unfold putK L2.putK
  rw [h.any]
  by_cases e : (ks.any fun p => decide (p.1 = j)) = true
  · rw [if_pos e, if_pos e]
    exact h.rep r
  · rw [if_neg e, if_neg e]
    refine ⟨?_, ?_⟩
    · rw [List.map_append, List.map_append, h.1]
      rfl
    · rw [List.map_append, List.map_append]
      exact h.2.append ⟨v, [], rfl, r, rfl⟩
theorem RK.len {kvs : List (D × D)} {ks : List (L2.Key × V)} (h : RK K H m kvs ks) : kvs.length = ks.length := by
  have := congrArg List.length h.1
  simpa using this
theorem dct_at {S : Sto} (R : Rl K m H S) {x : D} {v : V} {kvs : List (D × D)} (r : RD K H m x v) (h : dctO x S = some kvs) : ∃ l a ks, x = .loc l ∧ v = .ref a ∧ m[l]? = some a ∧ (∃ t, S[l]? = some (.dct t kvs)) ∧ H a = some (.dK ks) ∧ RK K H m kvs ks := by
  unfold dctO at h
  split at h
  · rename_i l
    obtain ⟨a, ha, rfl⟩ := (r : ∃ a, m[l]? = some a ∧ v = .ref a)
    split at h
    · rename_i t kvs' e
      cases h
      obtain ⟨_, ks, h1, h2, h3⟩ := R.at_ l a _ ha e
      exact ⟨l, a, ks, rfl, rfl, ha, ⟨t, e⟩, h1, h2, h3⟩
    · cases h
  · cases h
end
/-! the frame's base is kept -/
theorem KV.dnew (t : Bool) : KV (sDnew t) := fun b e S r S' hb he => by
  unfold sDnew at he
  split at he
  · cases he
  · cases he
    refine ⟨by simp, fun n hn w l o hl ho => ?_⟩
    have hlt : l < S.length := by omega
    rw [List.getElem?_append_left hlt] at ho
    exact w l o hl ho
theorem KV.dget {f g : DV} (kf : KV f) (kg : KV g) : KV (sDget f g) := fun b e S r S' hb he => by
  obtain ⟨p1, h1, he⟩ := bind_ok he
  obtain ⟨p2, h2, he⟩ := bind_ok he
  obtain ⟨w, h3, he⟩ := bind_ok he
  cases he
  have k1 := kf.sD b e S p1.1 p1.2 hb h1
  exact k1.trans (kg.sD b e p1.2 p2.1 p2.2 (Nat.le_trans hb k1.len) h2)
theorem KV.din {neg : Bool} {f g : DV} (kf : KV f) (kg : KV g) : KV (sDin neg f g) := fun b e S r S' hb he => by
  obtain ⟨p1, h1, he⟩ := bind_ok he
  obtain ⟨p2, h2, he⟩ := bind_ok he
  obtain ⟨w, h3, he⟩ := bind_ok he
  cases he
  have k1 := kf.sD b e S p1.1 p1.2 hb h1
  exact k1.trans (kg.sD b e p1.2 p2.1 p2.2 (Nat.le_trans hb k1.len) h2)
theorem KV.dlen {f : DV} (kf : KV f) : KV (sDlen f) := fun b e S r S' hb he => by
  obtain ⟨p1, h1, he⟩ := bind_ok he
  obtain ⟨w, h3, he⟩ := bind_ok he
  cases he
  exact kf.sD b e S p1.1 p1.2 hb h1
theorem KV.dgt {f g h : DV} (kf : KV f) (kg : KV g) (kh : KV h) : KV (sDgt f g h) := fun b e S r S' hb he => by
  obtain ⟨p1, h1, he⟩ := bind_ok he
  obtain ⟨_, _, he⟩ := bind_ok he
  obtain ⟨p2, h2, he⟩ := bind_ok he
  obtain ⟨p3, h3, he⟩ := bind_ok he
  obtain ⟨w, h4, he⟩ := bind_ok he
  cases he
  have k1 := kf.sD b e S p1.1 p1.2 hb h1
  have k2 := k1.trans (kg.sD b e p1.2 p2.1 p2.2 (Nat.le_trans hb k1.len) h2)
  exact k2.trans (kh.sD b e p2.2 p3.1 p3.2 (Nat.le_trans hb k2.len) h3)
theorem setK_kp {b : Nat} {o k x : D} {S S' : Sto} (h : setK b o k x S = .ok S') : Kp b S S' := by
  unfold setK at h
  split at h
  · rename_i l
    split at h
    · rename_i t kvs hx
      split at h
      · rename_i hc
        cases h
        obtain ⟨hk, _, hw⟩ := hc
        have kub : ∀ n, k.ub n = true := fun n => by
          obtain ⟨j, rfl⟩ := isK_kD hk
          exact kD_ub j
        refine Kp.set fun n hn w hl => ?_
        have h0 : (kvs.all fun p => p.1.ub n && p.2.ub n) = true := w _ _ hl hx
        show ((putK kvs k x).all fun p => p.1.ub n && p.2.ub n) = true
        have xub := wr_ub hw hn hl
        rw [List.all_eq_true] at h0 ⊢
        unfold putK
        split
        · intro p hp
          obtain ⟨q, hq, rfl⟩ := List.mem_map.mp hp
          have := h0 q hq
          split
          · rw [Bool.and_eq_true] at this ⊢
            exact ⟨this.1, xub⟩
          · exact this
        · intro p hp
          rcases List.mem_append.mp hp with hp | hp
          · exact h0 p hp
          · rw [List.mem_singleton.mp hp, Bool.and_eq_true]
            exact ⟨kub n, xub⟩
      · cases h
    · cases h
  · cases h
theorem KF.dput {o k f : DV} (ko : KV o) (kk : KV k) (kf : KV f) : KF (cDput o k f) := fun b e S fl e' S' hb he => by
  obtain ⟨p1, h1, he⟩ := bind_ok he
  obtain ⟨p2, h2, he⟩ := bind_ok he
  obtain ⟨p3, h3, he⟩ := bind_ok he
  obtain ⟨S2, h4, he⟩ := bind_ok he
  cases he
  have k1 := kf.sD b e S p1.1 p1.2 hb h1
  have k2 := k1.trans (ko.sD b e p1.2 p2.1 p2.2 (Nat.le_trans hb k1.len) h2)
  have k3 := k2.trans (kk.sD b e p2.2 p3.1 p3.2 (Nat.le_trans hb k2.len) h3)
  exact k3.trans (setK_kp h4)
section
variable {X : Cx} {a b c : Expr} {f g h : DV} {pos : Pos}
theorem noSl {e : Expr} (h : noSlice e = true) : L2.NoSl e := by
  intro o i
  cases e <;> first | rfl | cases h
theorem so_dnew : PE X (.Dict [] [] pos) (tE X.K (sDnew false)) :=
  PE.imp L2.pe_dnewK fun σ H Q ⟨b, m, e, S, r, S', hb, R, RE, he, q⟩ => by
    cases he
    intro p hp
    obtain ⟨z, R1⟩ := R.laid (o := .dK []) hp
    have hn := R.new hp
    exact q (.ref p) _ (m ++ [p]) (z.push hp) (R1.pushD upd_same hn) ⟨p, by rw [← R.len]; simp, rfl⟩
theorem so_dget (hu : X.A.units + 1 < cLine) (hs : noSlice b = true) (kf : KV f) (ha : PE X a (tE X.K f)) (hb : PE X b (tE X.K g)) : PE X (.Subscript a b pos) (tE X.K (sDget f g)) :=
  PE.imp (L2.pe_dget hu (so_D ha) (so_D hb) (noSl hs)) fun σ H Q ⟨b, m, e, S, r, S', hb, R, RE, he, q⟩ => by
    obtain ⟨p1, h1, he⟩ := bind_ok he
    obtain ⟨p2, h2, he⟩ := bind_ok he
    obtain ⟨w, h3, he⟩ := bind_ok he
    cases he
    have k1 := kf.sD b e S p1.1 p1.2 hb h1
    refine ⟨b, m, e, S, p1.1, p1.2, hb, R, RE, h1, fun x H1 m1 z1 R1 rx => ⟨b, m1, e, p1.2, p2.1, p2.2, Nat.le_trans hb k1.len, R1, RE.mono z1, h2, fun y H2 m2 z2 R2 ry => ?_⟩⟩
    have h3 := ofO_ok h3
    split at h3
    · rename_i hk
      obtain ⟨j, ej⟩ := isK_kD hk
      rw [ej] at ry h3
      cases hd : dctO p1.1 p2.2 with
      | none => rw [hd] at h3; cases h3
      | some kvs =>
        rw [hd] at h3
        obtain ⟨l, ad, ks, _, rfl, _, _, h4, h5⟩ := dct_at R2 (rx.mono z2) hd
        obtain ⟨v, h6, h7⟩ := h5.get.1 w h3
        refine ⟨ad, v, rfl, ?_, q v H2 m2 (z1.trans z2) R2 h7⟩
        rw [kD_V ry, ← h6]
        exact L2.DGet.k h4
    · cases h3
theorem so_din1 {neg : Bool} (kf : KV f) {σ : L2.St} {H : Hp} {Q : VK} (w : tE X.K (sDin neg f g) σ H Q) : tD X.K (sD f) σ H fun y H1 => tD X.K (sD g) σ H1 fun x H2 => ∃ a o, x = .ref a ∧ L2.DGet H2 a y o ∧ Q (.bl (if neg then !o.isSome else o.isSome)) H2 := by
  obtain ⟨b, m, e, S, r, S', hb, R, RE, he, q⟩ := w
  obtain ⟨p1, h1, he⟩ := bind_ok he
  obtain ⟨p2, h2, he⟩ := bind_ok he
  obtain ⟨w, h3, he⟩ := bind_ok he
  cases he
  have k1 := kf.sD b e S p1.1 p1.2 hb h1
  refine ⟨b, m, e, S, p1.1, p1.2, hb, R, RE, h1, fun x H1 m1 z1 R1 rx => ⟨b, m1, e, p1.2, p2.1, p2.2, Nat.le_trans hb k1.len, R1, RE.mono z1, h2, fun y H2 m2 z2 R2 ry => ?_⟩⟩
  have h3 := ofO_ok h3
  split at h3
  · rename_i hk
    obtain ⟨j, ej⟩ := isK_kD hk
    rw [ej] at rx h3
    cases hd : dctO p2.1 p2.2 with
    | none => rw [hd] at h3; cases h3
    | some kvs =>
      rw [hd] at h3
      obtain ⟨l, ad, ks, _, rfl, _, _, h4, h5⟩ := dct_at R2 ry hd
      have h6 : (getK kvs (kD j)).isSome = w := by simpa using h3
      rw [h5.isSome] at h6
      refine ⟨ad, L2.valV ks j, rfl, ?_, q _ H2 m2 (z1.trans z2) R2 (by rw [h6]; rfl)⟩
      rw [kD_V rx]
      exact L2.DGet.k h4
  · cases h3
theorem so_din (hu : X.A.units + 1 < cLine) (neg : Bool) (kf : KV f) (ha : PE X a (tE X.K f)) (hb : PE X b (tE X.K g)) (hm : behindInMarks (if neg then .NotIn else .In) b = false) : PE X (.Compare a [if neg then .NotIn else .In] [b] pos) (tE X.K (sDin neg f g)) := by
  cases neg with
  | true => exact PE.imp (L2.pe_cmp (L2.pc_dnotin hu (so_D ha) (so_D hb)) hm) fun σ H Q w => so_din1 kf w
  | false => exact PE.imp (L2.pe_cmp (L2.pc_din hu (so_D ha) (so_D hb)) hm) fun σ H Q w => so_din1 kf w
theorem so_dinT (hu : X.A.units + 1 < cLine) (neg : Bool) (kf : KV f) (ha : PE X a (tE X.K f)) (hb : PE X b (tE X.K g)) (hm : behindInMarks (if neg then .NotIn else .In) b = false) : PT X (.Compare a [if neg then .NotIn else .In] [b] pos) (tT X.K (sT (sDin neg f g))) := by
  have key : ∀ {σ : L2.St} {H : Hp} {Q : Bool → Hp → Prop}, tT X.K (sT (sDin neg f g)) σ H Q → tE X.K (sDin neg f g) σ H fun v H' => ∃ k, v = .bl k ∧ Q k H' := fun {σ H Q} ⟨b, m, e, S, r, S', hb, R, RE, he, q⟩ => by
    obtain ⟨p0, h0, he⟩ := bind_ok he
    obtain ⟨k, hk, he⟩ := bind_ok he
    have hp : ∃ w, p0.1 = .d (.bl w) := by
      obtain ⟨p1, h1, h0⟩ := bind_ok h0
      obtain ⟨p2, h2, h0⟩ := bind_ok h0
      obtain ⟨w, h3, h0⟩ := bind_ok h0
      cases h0
      exact ⟨_, rfl⟩
    obtain ⟨w, hw⟩ := hp
    have e : w = k := by
      have := ofO_ok hk
      rw [hw] at this
      simpa using this
    subst e
    have e1 : (w, p0.2) = (r, S') := by injection he
    injection e1 with e1 e2
    subst e1
    subst e2
    exact ⟨b, m, e, S, p0.1, p0.2, hb, R, RE, h0, fun v H' m' z R' rv => by
      rw [hw] at rv
      exact ⟨w, rv, q H' m' z R'⟩⟩
  cases neg with
  | true => exact PT.imp (L2.pt_cmp (L2.pc_dnotin hu (so_D ha) (so_D hb)) hm) fun σ H Q w => so_din1 kf (key w)
  | false => exact PT.imp (L2.pt_cmp (L2.pc_din hu (so_D ha) (so_D hb)) hm) fun σ H Q w => so_din1 kf (key w)
def rDlen (K : PySem.W.Frag) : List V → Hp → VK → Prop := fun xs H Q => ∃ a ks, xs = [.ref a] ∧ H a = some (.dK ks) ∧ Q (.int ks.length) H
theorem call_dlen : CallR X (.builtin "len") (rDlen X.K) := by
  intro pins s σ H xs us Q I r ⟨a, ks, ex, ha, q⟩
  subst ex
  cases r with
  | cons h t =>
    cases t
    obtain rfl := (show _ = Value.ref a from h)
    exact L2.d_len I (.inl ha) fun t s' I' => ⟨.int ks.length, H, I', ⟨t, rfl⟩, q⟩
theorem so_dlen {p : Pos} (hn : noStar a = true) (hg : Gl X "len") (hm : X.mg "len" = none) (ha : PE X a (tE X.K f)) : PE X (.Call (.Name "len" p) [a] [] pos) (tE X.K (sDlen f)) := by
  have hA : PA X [a] (L2.tCons (tD X.K (sD f)) L2.tNil) := L2.pa_cons (so_D ha) L2.pa_nil (star1 hn [] X.env)
  refine PE.imp (L2.pe_callB call_dlen hg hm boot_len hA (by decide) (by decide) (star1 hn [] X.env) rfl) fun σ H Q ⟨b, m, e, S, r, S', hb, R, RE, he, q⟩ => ?_
  obtain ⟨p1, h1, he⟩ := bind_ok he
  obtain ⟨kvs, h2, he⟩ := bind_ok he
  cases he
  refine ⟨b, m, e, S, p1.1, p1.2, hb, R, RE, h1, fun v H' m' z R' rv => ?_⟩
  obtain ⟨l, ad, ks, _, rfl, _, _, h4, h5⟩ := dct_at R' rv (ofO_ok h2)
  exact ⟨ad, ks, rfl, h4, q _ H' m' z R' (by rw [h5.len]; rfl)⟩
theorem few2 {e x : Expr} (h : noStar e = true) (h2 : noStar x = true) (cpos : Pos) (env : PySem.Env) : ((backTo cpos (starEach [e, x] env)).all (fun x => !x.1) && (backToKw cpos (keywordEach [] env)).all (fun x => x.1.isSome)
    && decide (([e, x] : List Expr).length + ([] : List Keyword).length + (if ([] : List Keyword).isEmpty then 0 else 1) < 30)) = true := by
  rw [star1 h [x] env, star1 h2 [] env]; rfl
theorem trees2 {e x : Expr} (h : noStar e = true) (h2 : noStar x = true) (cpos : Pos) (env : PySem.Env) : backTo cpos (starEach [e, x] env) = [(false, eval e env), (false, eval x env)] := by
  rw [star1 h [x] env, star1 h2 [] env]; rfl
theorem so_dgt {apos cpos : Pos} (hu : X.A.units + 1 < cLine) (ho : plainO a = true) (h1 : noStar b = true) (h2 : noStar c = true) (hl : (apos.endLine == cpos.line) = true) (kf : KV f) (kg : KV g) (ha : PE X a (tE X.K f)) (hb : PE X b (tE X.K g)) (hc : PE X c (tE X.K h)) :
    PE X (.Call (.Attribute a "get" apos) [b, c] [] cpos) (tE X.K (sDgt f g h)) :=
  PE.imp (L2.pe_dget2 hu (so_D ha) (so_D hb) (so_D hc) ⟨attr_plain ho _ _ _, few2 h1 h2 _ _, hl, trees2 h1 h2 _ _⟩) fun σ H Q ⟨b, m, e, S, r, S', hb, R, RE, he, q⟩ => by
    obtain ⟨p1, h1, he⟩ := bind_ok he
    obtain ⟨kvs0, h0, he⟩ := bind_ok he
    obtain ⟨p2, h2, he⟩ := bind_ok he
    obtain ⟨p3, h3, he⟩ := bind_ok he
    obtain ⟨w, h4, he⟩ := bind_ok he
    cases he
    have k1 := kf.sD b e S p1.1 p1.2 hb h1
    have k2 := k1.trans (kg.sD b e p1.2 p2.1 p2.2 (Nat.le_trans hb k1.len) h2)
    refine ⟨b, m, e, S, p1.1, p1.2, hb, R, RE, h1, fun x H1 m1 z1 R1 rx => ?_⟩
    obtain ⟨l, ad, ks0, el, rfl, hml, _, h5, _⟩ := dct_at R1 rx (ofO_ok h0)
    refine ⟨ad, rfl, .inl ⟨ks0, .inl h5⟩, b, m1, e, p1.2, p2.1, p2.2, Nat.le_trans hb k1.len, R1, RE.mono z1, h2, fun y H2 m2 z2 R2 ry => ⟨b, m2, e, p2.2, p3.1, p3.2, Nat.le_trans hb k2.len, R2, RE.mono (z1.trans z2), h3, fun zv H3 m3 z3 R3 rz => ?_⟩⟩
    have h4 := ofO_ok h4
    split at h4
    · rename_i hk
      obtain ⟨j, ej⟩ := isK_kD hk
      rw [ej] at ry h4
      cases hd : dctO p1.1 p3.2 with
      | none => rw [hd] at h4; cases h4
      | some kvs =>
        rw [hd] at h4
        have h4 : (getK kvs (kD j)).getD p3.1 = w := by simpa using h4
        obtain ⟨l2, ad2, ks, _, e2, _, _, h6, h7⟩ := dct_at R3 ((rx.mono z2).mono z3) hd
        cases e2
        refine ⟨L2.valV ks j, ?_, ?_⟩
        · rw [kD_V ry]
          exact L2.DGet.k h6
        · obtain ⟨g1, g2⟩ := h7.get (j := j)
          cases e5 : getK kvs (kD j) with
          | none =>
            rw [e5] at h4
            rw [g2 e5]
            have h4 : p3.1 = w := h4
            rw [← h4] at q
            exact q _ H3 m3 (z1.trans (z2.trans z3)) R3 rz
          | some x =>
            rw [e5] at h4
            have h4 : x = w := h4
            obtain ⟨v, e6, r6⟩ := g1 x e5
            rw [e6]
            rw [← h4] at q
            exact q _ H3 m3 (z1.trans (z2.trans z3)) R3 r6
    · cases h4
theorem so_dput {pos' : Pos} (hu : X.A.units + 1 < cLine) (kh : KV h) (kf : KV f) (ha : PE X a (tE X.K f)) (hb : PE X b (tE X.K g)) (hc : PE X c (tE X.K h)) (hs : swapsWith c (some (.Subscript a b pos')) pos.line X.env = pure false) :
    PS X (.Assign [.Subscript a b pos'] c pos) (tF X.K (cDput f g h)) :=
  PS.imp (L2.ps_dput hu (so_D ha) (so_D hb) (so_D hc) hs) fun D σ H ⟨b, m, e, S, fl, e', S', hb, R, E, he, q⟩ => by
    obtain ⟨p1, h1, he⟩ := bind_ok he
    obtain ⟨p2, h2, he⟩ := bind_ok he
    obtain ⟨p3, h3, he⟩ := bind_ok he
    obtain ⟨S2, h4, he⟩ := bind_ok he
    cases he
    have k1 := kh.sD b e S p1.1 p1.2 hb h1
    have k2 := k1.trans (kf.sD b e p1.2 p2.1 p2.2 (Nat.le_trans hb k1.len) h2)
    refine ⟨b, m, e, S, p1.1, p1.2, hb, R, E, h1, fun v H1 m1 z1 R1 rv => ⟨b, m1, e, p1.2, p2.1, p2.2, Nat.le_trans hb k1.len, R1, E.mono z1, h2, fun x H2 m2 z2 R2 rx => ⟨b, m2, e, p2.2, p3.1, p3.2, Nat.le_trans hb k2.len, R2, E.mono (z1.trans z2), h3, fun y H3 m3 z3 R3 ry => ?_⟩⟩⟩
    unfold setK at h4
    split at h4
    · rename_i l el
      split at h4
      · rename_i t kvs hx
        split at h4
        · rename_i hcnd
          cases h4
          obtain ⟨hk, hlen, _⟩ := hcnd
          obtain ⟨j, ej⟩ := isK_kD hk
          rw [ej] at ry
          rw [el] at rx
          have hd : dctO (.loc l) p3.2 = some kvs := by
            show (match p3.2[l]? with
              | some (.dct _ kvs) => some kvs
              | _ => none) = _
            rw [hx]
          obtain ⟨l2, ad, ks, e1, rfl, hml, _, h6, h7⟩ := dct_at R3 (rx.mono z3) hd
          cases e1
          have rv3 := (rv.mono z2).mono z3
          have h8 := h7.put (j := j) rv3
          rw [← ej] at h8
          obtain ⟨z4, R4⟩ := R3.writeD hml hx h6 h8.1 h8.2
          refine ⟨ad, _, rfl, ?_, q σ _ m3 (z1.trans (z2.trans (z3.trans z4))) R4 (E.mono (z1.trans (z2.trans (z3.trans z4))))⟩
          rw [kD_V ry]
          exact L2.DPut.k h6 (by rw [← h7.len]; exact hlen)
        · cases h4
      · cases h4
    · cases h4
end
end Pv
set_option linter.all false
set_option autoImplicit false
set_option maxRecDepth 100000
/-! What the evaluator tells, the machine does: insert, a op b op c, {k: x for ..}. -/
namespace Pv
open PySem PySem.Spec PyProof.Rows
open L2 (V Hp HO upd upd_same upd_ne VK XK TE TT TA TS TG TGs TI It Cx PE PT PW PA PS PSs PG PGs PI Inv RelV SqL SqT OpR CallR Gl Ends)
theorem meth2_ins {b : Nat} {o x y : D} {S S' : Sto} {w : Vl} (h : meth2 b .insert o x y S = .ok (w, S')) : ∃ l xs i, o = .loc l ∧ x = .int i ∧ S[l]? = some (.lst xs) ∧ 0 ≤ i ∧ i < 4611686018427387904 ∧ xs.length < line ∧ wr b l y ∧ w = .d .non ∧ S' = S.set l (.lst (xs.take i.toNat ++ [y] ++ xs.drop i.toNat)) := by
  cases o with
  | loc l => cases x with
    | int i =>
      unfold meth2 at h
      simp only at h
      split at h
      · rename_i xs hx
        split at h
        · rename_i hc
          have e1 : (Vl.d .non, S.set l (.lst (xs.take i.toNat ++ [y] ++ xs.drop i.toNat))) = (w, S') := by injection h
          injection e1 with e1 e2
          exact ⟨l, xs, i, rfl, rfl, hx, hc.1.1, hc.1.2, hc.2.1, hc.2.2, e1.symm, e2.symm⟩
        · cases h
      · cases h
    | _ => cases h
  | _ => cases h
theorem meth2_kp {b : Nat} {m : M2} {o x y : D} {S S' : Sto} {w : Vl} (h : meth2 b m o x y S = .ok (w, S')) : Kp b S S' := by
  cases m with
  | insert =>
    obtain ⟨l, xs, i, rfl, rfl, hx, _, _, _, hw, _, rfl⟩ := meth2_ins h
    refine Kp.set fun n hn w hl => ?_
    have h0 : ubL n xs = true := w _ _ hl hx
    refine ubL_mem.mpr fun z hz => ?_
    rcases List.mem_append.mp hz with hz | hz
    · rcases List.mem_append.mp hz with hz | hz
      · exact (ubL_mem.mp h0) z (List.mem_of_mem_take hz)
      · rw [List.mem_singleton.mp hz]
        exact wr_ub hw hn hl
    · exact (ubL_mem.mp h0) z (List.mem_of_mem_drop hz)
  | _ =>
    unfold meth2 at h
    cases o <;> cases x <;> cases h
theorem KV.m2 {m : M2} {f g h : DV} (kf : KV f) (kg : KV g) (kh : KV h) : KV (sM2 m f g h) := fun b e S r S' hb he => by
  obtain ⟨p1, h1, he⟩ := bind_ok he
  obtain ⟨_, _, he⟩ := bind_ok he
  obtain ⟨p2, h2, he⟩ := bind_ok he
  obtain ⟨p3, h3, he⟩ := bind_ok he
  have k1 := kf.sD b e S p1.1 p1.2 hb h1
  have k2 := k1.trans (kg.sD b e p1.2 p2.1 p2.2 (Nat.le_trans hb k1.len) h2)
  have k3 := k2.trans (kh.sD b e p2.2 p3.1 p3.2 (Nat.le_trans hb k2.len) h3)
  exact k3.trans (meth2_kp he)
theorem KV.chn {o p : Co} {f g h : DV} (kf : KV f) (kg : KV g) (kh : KV h) : KV (sChn o p f g h) := fun b e S r S' hb he => by
  obtain ⟨p1, h1, he⟩ := bind_ok he
  obtain ⟨p2, h2, he⟩ := bind_ok he
  obtain ⟨k, h3, he⟩ := bind_ok he
  have k1 := kf.sD b e S p1.1 p1.2 hb h1
  have k2 := k1.trans (kg.sD b e p1.2 p2.1 p2.2 (Nat.le_trans hb k1.len) h2)
  cases k with
  | true =>
    obtain ⟨p3, h4, he⟩ := bind_ok he
    obtain ⟨l, h5, he⟩ := bind_ok he
    cases he
    exact k2.trans (kh.sD b e p2.2 p3.1 p3.2 (Nat.le_trans hb k2.len) h4)
  | false => cases he; exact k2
theorem setK_is {b l : Nat} {k x : D} {S S' : Sto} (h : setK b (.loc l) k x S = .ok S') : ∃ t kvs, S[l]? = some (.dct t kvs) ∧ isK k = true ∧ kvs.length < line ∧ S.set l (.dct t (putK kvs k x)) = S' := by
  unfold setK at h
  dsimp only at h
  split at h
  · rename_i t kvs hx
    split at h
    · rename_i hc
      exact ⟨t, kvs, hx, hc.1, hc.2.1, by injection h⟩
    · cases h
  · cases h
theorem dcL_cons {c : Chk} {f : D → Sto → Rs Sto} {x : D} {xs : List D} {S S' : Sto} (h : dcL c f (x :: xs) S = .ok S') : c.ok S ∧ ∃ S1, f x S = .ok S1 ∧ dcL c f xs S1 = .ok S' := by
  unfold dcL at h
  split at h
  · rename_i hc
    obtain ⟨p, h1, h⟩ := bind_ok h
    exact ⟨hc, p, h1, h⟩
  · cases h
theorem dcL_nil {c : Chk} {f : D → Sto → Rs Sto} {S S' : Sto} (h : dcL c f [] S = .ok S') : c.ok S ∧ S' = S := by
  unfold dcL at h
  split at h
  · rename_i hc
    injection h with h
    exact ⟨hc, h.symm⟩
  · cases h
theorem dcL_kp {b : Nat} {c : Chk} {f : D → Sto → Rs Sto} (kf : ∀ x S S', b ≤ S.length → f x S = .ok S' → Kp b S S') : ∀ (xs : List D) (S S' : Sto), b ≤ S.length → dcL c f xs S = .ok S' → Kp b S S'
  | [], S, S', hb, h => by
    obtain ⟨_, rfl⟩ := dcL_nil h
    exact Kp.refl b _
  | x :: xs, S, S', hb, h => by
    obtain ⟨_, S1, h1, h2⟩ := dcL_cons h
    have k1 := kf x S S1 hb h1
    exact k1.trans (dcL_kp kf xs S1 S' (Nat.le_trans hb k1.len) h2)
theorem turnD_kp {k x : DV} {t : DG} {u : DT} {e0 : Env} {b l : Nat} (kk : KV k) (kx : KV x) (kt : KG t) (ku : KV u) (d : D) (S S' : Sto) (hb : b ≤ S.length) (h : turnD k x t u e0 b l d S = .ok S') : Kp b S S' := by
  obtain ⟨p1, h1, h⟩ := bind_ok h
  obtain ⟨p2, h2, h⟩ := bind_ok h
  have k1 := (kt b d e0 S p1.1 p1.2 hb h1).1
  have k2 := k1.trans (ku b p1.1 p1.2 p2.1 p2.2 (Nat.le_trans hb k1.len) h2)
  split at h
  · obtain ⟨p3, h3, h⟩ := bind_ok h
    obtain ⟨p4, h4, h⟩ := bind_ok h
    have k3 := k2.trans (kk.sD b p1.1 p2.2 p3.1 p3.2 (Nat.le_trans hb k2.len) h3)
    have k4 := k3.trans (kx.sD b p1.1 p3.2 p4.1 p4.2 (Nat.le_trans hb k3.len) h4)
    exact k4.trans (setK_kp h)
  · cases h; exact k2
theorem Kp.pushD {b : Nat} {S : Sto} (hb : b ≤ S.length) : Kp b S (S ++ [.dct false []]) := by
  refine ⟨by simp, fun n hn w l o hl ho => ?_⟩
  have hlt : l < S.length := by omega
  rw [List.getElem?_append_left hlt] at ho
  exact w l o hl ho
theorem KV.dcmp {k x : DV} {t : DG} {it : DI} {u : DT} {vs : List Nat} (kk : KV k) (kx : KV x) (kt : KG t) (ki : KV it) (ku : KV u) : KV (sDcmp k x t it u vs) := fun b e S r S' hb he => by
  obtain ⟨p1, h1, he⟩ := bind_ok he
  obtain ⟨S2, h2, he⟩ := bind_ok he
  cases he
  have k1 := ki b e S p1.1 p1.2 hb h1
  have hb1 := Nat.le_trans hb k1.len
  exact (k1.trans (Kp.pushD hb1)).trans (dcL_kp (fun d S S' hb h => turnD_kp kk kx kt ku d S S' hb h) _ _ _ (by simp; omega) h2)
section
variable {X : Cx} {a b c tgt iter kx vx : Expr} {f g h : DV} {pos : Pos}
theorem so_m2 {apos cpos : Pos} (ho : plainO a = true) (h1 : noStar b = true) (h2 : noStar c = true) (hl : (apos.endLine == cpos.line) = true) (kf : KV f) (kg : KV g) (ha : PE X a (tE X.K f)) (hb : PE X b (tE X.K g)) (hc : PE X c (tE X.K h)) :
    PE X (.Call (.Attribute a "insert" apos) [b, c] [] cpos) (tE X.K (sM2 .insert f g h)) := by
  have hA : PA X [b, c] (L2.tCons (tD X.K (sD g)) (L2.tCons (tD X.K (sD h)) L2.tNil)) := L2.pa_cons (so_D hb) (L2.pa_cons (so_D hc) L2.pa_nil (star1 h2 [] X.env)) (star1 h1 [c] X.env)
  refine PE.imp (L2.pe_bm PySem.F.plainAttrs_list PySem.F.slot_list_insert PySem.F.type_list_insert L2.mt_insert (so_D ha) hA (attr_plain ho _ _ _) (few2 h1 h2 _ _) hl (star1 h1 [c] X.env) (by rw [star1 h2 [] X.env]; rfl)) fun σ H Q ⟨b, m0, e, S, w, S', hb, R, RE, he, q⟩ => ?_
  obtain ⟨p1, h1, he⟩ := bind_ok he
  obtain ⟨u, h0, he⟩ := bind_ok he
  obtain ⟨p2, h2, he⟩ := bind_ok he
  obtain ⟨p3, h3, he⟩ := bind_ok he
  have k1 := kf.sD b e S p1.1 p1.2 hb h1
  have k2 := k1.trans (kg.sD b e p1.2 p2.1 p2.2 (Nat.le_trans hb k1.len) h2)
  refine ⟨b, m0, e, S, p1.1, p1.2, hb, R, RE, h1, fun x H1 m1 z1 R1 rx => ⟨recv_at R1 rx (ofO_ok h0), b, m1, e, p1.2, p2.1, p2.2, Nat.le_trans hb k1.len, R1, RE.mono z1, h2, fun y H2 m2 z2 R2 ry => ⟨b, m2, e, p2.2, p3.1, p3.2, Nat.le_trans hb k2.len, R2, RE.mono (z1.trans z2), h3, fun v H3 m3 z3 R3 rv => ?_⟩⟩⟩
  obtain ⟨l, xs, i, hl0, hi0, hx, i0, i1, hc, _, rfl, rfl⟩ := meth2_ins he
  rw [hl0] at rx
  rw [hi0] at ry
  cases (show y = .int i from ry)
  obtain ⟨p, hp, rfl⟩ := ((rx.mono z2).mono z3 : ∃ a, m3[l]? = some a ∧ x = .ref a)
  obtain ⟨vs, e1, e2⟩ := R3.lst hp hx
  have e3 : RDs X.K H3 m3 (xs.take i.toNat ++ [p3.1] ++ xs.drop i.toNat) (vs.take i.toNat ++ [v] ++ vs.drop i.toNat) := ((e2.take i.toNat).append (show RDs X.K H3 m3 [p3.1] [v] from ⟨v, [], rfl, rv, rfl⟩)).append (e2.drop i.toNat)
  obtain ⟨z, R'⟩ := R3.write hp hx e1 e3
  exact ⟨p, vs, i, v, rfl, rfl, e1, by rw [← e2.length]; exact hc, i0, by omega, q _ _ m3 (z1.trans (z2.trans (z3.trans z))) R' rfl⟩
theorem chn_core {o p : Co} (kf : KV f) (kg : KV g) {σ : L2.St} {H : Hp} {Q : VK} (w : tE X.K (sChn o p f g h) σ H Q) : L2.tChain (rC X.K o) (rC X.K p) (tD X.K (sD f)) (tD X.K (sD g)) (tD X.K (sD h)) σ H Q := by
  obtain ⟨b, m, e, S, r, S', hb, R, RE, he, q⟩ := w
  obtain ⟨p1, h1, he⟩ := bind_ok he
  obtain ⟨p2, h2, he⟩ := bind_ok he
  obtain ⟨k, h3, he⟩ := bind_ok he
  have k1 := kf.sD b e S p1.1 p1.2 hb h1
  have k2 := k1.trans (kg.sD b e p1.2 p2.1 p2.2 (Nat.le_trans hb k1.len) h2)
  refine ⟨b, m, e, S, p1.1, p1.2, hb, R, RE, h1, fun x H1 m1 z1 R1 rx => ⟨b, m1, e, p1.2, p2.1, p2.2, Nat.le_trans hb k1.len, R1, RE.mono z1, h2, fun y H2 m2 z2 R2 ry => ⟨H, m2, p2.2, .d p1.1, .d p2.1, k, R2, rx.mono z2, ry, ofO_ok h3, k, rfl, ?_⟩⟩⟩
  cases k with
  | true =>
    obtain ⟨p3, h4, he⟩ := bind_ok he
    obtain ⟨l, h5, he⟩ := bind_ok he
    cases he
    refine L2.iteT ⟨b, m2, e, p2.2, p3.1, p3.2, Nat.le_trans hb k2.len, R2, RE.mono (z1.trans z2), h4, fun v H4 m4 z4 R4 rv => ⟨H, m4, p3.2, .d p2.1, .d p3.1, l, R4, ry.mono z4, rv, ofO_ok h5, q _ H4 m4 (z1.trans (z2.trans z4)) R4 rfl⟩⟩
  | false =>
    cases he
    exact L2.iteF (q _ H2 m2 (z1.trans z2) R2 rfl)
theorem so_chn (hu : X.A.units + 65 < cLine) (o p : Co) (kf : KV f) (kg : KV g) (ha : PE X a (tE X.K f)) (hb : PE X b (tE X.K g)) (hc : PE X c (tE X.K h)) (hm : lastMarks [coOf o, coOf p] [b, c] = false) : PE X (.Compare a [coOf o, coOf p] [b, c] pos) (tE X.K (sChn o p f g h)) :=
  PE.imp (L2.pe_chain (opC_ok hu o) (opC_ok hu p) (so_D ha) (so_D hb) (so_D hc) hm) fun σ H Q w => chn_core kf kg w
theorem so_chnT (hu : X.A.units + 65 < cLine) (o p : Co) (kf : KV f) (kg : KV g) (ha : PE X a (tE X.K f)) (hb : PE X b (tE X.K g)) (hc : PE X c (tE X.K h)) (hm : lastMarks [coOf o, coOf p] [b, c] = false) : PT X (.Compare a [coOf o, coOf p] [b, c] pos) (tT X.K (sT (sChn o p f g h))) := by
  have key : ∀ {σ : L2.St} {H : Hp} {Q : Bool → Hp → Prop}, tT X.K (sT (sChn o p f g h)) σ H Q → tE X.K (sChn o p f g h) σ H fun v H' => ∃ k, v = .bl k ∧ Q k H' := fun {σ H Q} ⟨b, m, e, S, r, S', hb, R, RE, he, q⟩ => by
    obtain ⟨p0, h0, he⟩ := bind_ok he
    obtain ⟨k, hk, he⟩ := bind_ok he
    have hp : ∃ w, p0.1 = .d (.bl w) := by
      obtain ⟨p1, h1, h0⟩ := bind_ok h0
      obtain ⟨p2, h2, h0⟩ := bind_ok h0
      obtain ⟨w, h3, h0⟩ := bind_ok h0
      cases w with
      | true =>
        obtain ⟨p3, h4, h0⟩ := bind_ok h0
        obtain ⟨l, h5, h0⟩ := bind_ok h0
        cases h0
        exact ⟨_, rfl⟩
      | false => cases h0; exact ⟨_, rfl⟩
    obtain ⟨w, hw⟩ := hp
    have e : w = k := by
      have := ofO_ok hk
      rw [hw] at this
      simpa using this
    subst e
    have e1 : (w, p0.2) = (r, S') := by injection he
    injection e1 with e1 e2
    subst e1
    subst e2
    exact ⟨b, m, e, S, p0.1, p0.2, hb, R, RE, h0, fun v H' m' z R' rv => by
      rw [hw] at rv
      exact ⟨w, rv, q H' m' z R'⟩⟩
  exact PT.imp (L2.pt_chain (opC_ok hu o) (opC_ok hu p) (so_D ha) (so_D hb) (so_D hc) hm) fun σ H Q w => chn_core kf kg (key w)
theorem so_dc {scope : Scope} {own : List (Str × Nat)} {k x : DV} {t : DG} {it : DI} {u : DT} {ts : List Nat} (hc : X.calm = true) (hN : X.N.Nodup) (ok : L2.BlkOk X.N X.env.scope scope own) (hts : ∀ i ∈ ts, i ∈ own.map (·.2))
    (kk : KV k) (kx : KV x) (kt : KG t) (ki : KV it) (ku : KV u) : ∀ σ H Q, tE X.K (sDcmp k x t it u (own.map (·.2))) σ H Q → L2.tDc (tI X.K it) (tg X.K ts t) (tT X.K u) (tD X.K (sD k)) (tD X.K (sD x)) (own.map (·.2)) σ H Q := fun σ H Q ⟨b, m, e, S, r, S', hb, R, REe, hev, q⟩ => by
  obtain ⟨p1, h1, hev⟩ := bind_ok hev
  obtain ⟨S2, h2, hev⟩ := bind_ok hev
  have e1 : (Vl.d (.loc p1.2.length), S2) = (r, S') := by injection hev
  injection e1 with e1 e2
  subst e1
  subst e2
  have k1 := ki b e S p1.1 p1.2 hb h1
  generalize hF : turnD k x t u (wipeE e (own.map (·.2))) b p1.2.length = F at h2
  have kF : ∀ d S S', b ≤ S.length → F d S = .ok S' → Kp b S S' := fun d S S' hb h => by rw [← hF] at h; exact turnD_kp kk kx kt ku d S S' hb h
  refine ⟨b, m, e, S, p1.1.1, p1.1.2, p1.2, hb, R, REe, h1, fun J H1 m1 z1 R1 wk hl L hL => ?_⟩
  generalize hxs : p1.1.2 = xs at h2 wk hl
  generalize hck : p1.1.1 = ck at h2 wk
  have nL := R1.new hL
  obtain ⟨zL, RL⟩ := R1.laid (o := .dK []) hL
  have RP := RL.pushD upd_same nL
  have zP := zL.push hL
  have hmL : (m1 ++ [L])[p1.2.length]? = some L := by rw [← R1.len]; simp
  refine ⟨fun i n Hc => n = xs.length - i ∧ i ≤ xs.length ∧ ∃ (mc : List Addr) (Sc : Sto), Le (upd H1 L (.dK [])) (m1 ++ [L]) Hc mc ∧ Rl X.K mc Hc Sc ∧ b ≤ Sc.length ∧ dcL ck F (xs.drop i) Sc = .ok S2, ⟨xs.length, ?_⟩, ?_⟩
  · exact ⟨rfl, Nat.zero_le _, m1 ++ [L], p1.2 ++ [.dct false []], Le.refl _ _, RP, by have := k1.len; simp; omega, by rw [List.drop_zero]; exact h2⟩
  · rintro i n Hc ⟨rfl, hi, mc, Sc, zc, Rc, hbc, hcl⟩
    have zc1 : Le H1 m1 Hc mc := zP.trans zc
    by_cases hlt : i < xs.length
    · rw [List.drop_eq_getElem_cons hlt] at hcl
      obtain ⟨hck, S3, hf, hr⟩ := dcL_cons hcl
      obtain ⟨g1, _, g3⟩ := wk Hc mc Sc zc1 Rc hck
      refine .inr ⟨g1 i hlt, _, fun H' h => h, fun x' H' hy => ?_⟩
      obtain ⟨zy, Ry, rx⟩ := g3 i xs[i] x' H' (List.getElem?_eq_getElem hlt) hy
      rw [← hF] at hf
      obtain ⟨pt, ht1, hf⟩ := bind_ok hf
      obtain ⟨pu, hu1, hf⟩ := bind_ok hf
      have kt1 := (kt b _ _ Sc pt.1 pt.2 hbc ht1).1
      have ku1 := kt1.trans (ku b pt.1 pt.2 pu.1 pu.2 (Nat.le_trans hbc kt1.len) hu1)
      refine ⟨b, mc, _, Sc, xs[i], pt.1, pt.2, hbc, Ry, ((Pv.RE.mono (z1.trans (zc1.trans zy)) REe).wipe _), rx, ht1, fun σ2 H2 m2 z2 R2 RE2 ws => ⟨(ws _ hts).trans (wipe_wipe σ _), b, m2, pt.1, pt.2, pu.1, pu.2, Nat.le_trans hbc kt1.len, R2, RE2, hu1, fun H3 m3 z3 R3 => ?_⟩⟩
      have zz : Le (upd H1 L (.dK [])) (m1 ++ [L]) H3 m3 := zc.trans (zy.trans (z2.trans z3))
      cases ek : pu.1 with
      | true =>
        rw [ek] at hf
        obtain ⟨pk, hk1, hf⟩ := bind_ok hf
        obtain ⟨pv, hv1, hf⟩ := bind_ok hf
        have kk1 := ku1.trans (kk.sD b pt.1 pu.2 pk.1 pk.2 (Nat.le_trans hbc ku1.len) hk1)
        have kv1 := kk1.trans (kx.sD b pt.1 pk.2 pv.1 pv.2 (Nat.le_trans hbc kk1.len) hv1)
        refine L2.iteT ⟨b, m3, pt.1, pu.2, pk.1, pk.2, Nat.le_trans hbc ku1.len, R3, Pv.RE.mono z3 RE2, hk1, fun y H4 m4 z4 R4 ry => ⟨b, m4, pt.1, pk.2, pv.1, pv.2, Nat.le_trans hbc kk1.len, R4, Pv.RE.mono (z3.trans z4) RE2, hv1, fun zv H5 m5 z5 R5 rv => ?_⟩⟩
        have ry5 := ry.mono z5
        obtain ⟨t, kvs, hx, hk, hlen, e3⟩ := setK_is hf
        obtain ⟨j, ej⟩ := isK_kD hk
        rw [ej] at ry5
        have hd : dctO (.loc p1.2.length) pv.2 = some kvs := by
          show (match pv.2[p1.2.length]? with
            | some (.dct _ kvs) => some kvs
            | _ => none) = _
          rw [hx]
        have hm5 : m5[p1.2.length]? = some L := pre_get ((zz.trans (z4.trans z5)).pre) hmL
        obtain ⟨l2, ad, ks, e1, e4, hml, _, h6, h7⟩ := dct_at R5 (show RD X.K H5 m5 (.loc p1.2.length) (.ref L) from ⟨L, hm5, rfl⟩) hd
        cases e1
        cases e4
        have h8 := h7.put (j := j) rv
        rw [← ej] at h8
        obtain ⟨z6, R6⟩ := R5.writeD hml hx h6 h8.1 h8.2
        rw [e3] at R6
        exact ⟨ks, j, kD_V ry5, h6, by rw [← h7.len]; exact hlen, xs.length - (i + 1), by omega, rfl, by omega, m5, S3, zz.trans (z4.trans (z5.trans z6)), R6, by rw [← e3]; have := kv1.len; simp; omega, hr⟩
      | false =>
        rw [ek] at hf
        have ep : pu.2 = S3 := by injection hf
        subst ep
        exact L2.iteF ⟨xs.length - (i + 1), by omega, rfl, by omega, m3, pu.2, zz, R3, Nat.le_trans hbc ku1.len, hr⟩
    · have hie : i = xs.length := by omega
      subst hie
      rw [List.drop_length] at hcl
      obtain ⟨hck, er⟩ := dcL_nil hcl
      obtain ⟨_, g2, _⟩ := wk Hc mc Sc zc1 Rc hck
      refine .inl ⟨g2, q _ Hc mc (z1.trans zc1) (by rw [er]; exact Rc) ⟨L, pre_get zc.pre hmL, rfl⟩⟩
end
end Pv
namespace L2
open PySem PySem.Spec PyProof.Rows
section
variable {X : Cx}
/-- name = {..} on one line, the name a local -/
theorem ps_setDc {i : Nat} {y : Str} {py : Pos} {kx vx tg iter : Expr} {ifs : List Expr} {scope : Scope} {own : List (Str × Nat)} {pos spos : Pos} {wi : TI} {g : TG} {tt : TT} {tk tv : TE} (hc : X.calm = true) (hN : X.N.Nodup) (hy : X.N[i]? = some y) (hyl : X.env.scope.names.lookup y = some .local)
    (hsw : swapsWith (.DictComp kx vx [⟨tg, iter, ifs, 0⟩] scope pos) (some (.Name y py)) spos.line X.env = pure true) (hi : PI X tg iter wi) (ok : BlkOk X.N X.env.scope scope own)
    (hg : ∀ (s : Shared) (H : Hp) (C : Addr) (cl : List (Str × Addr)) (fp : List Addr), PG (X.blk s H scope (compEnvC scope cl C X.env) fp) tg g) (ht : ∀ (s : Shared) (H : Hp) (C : Addr) (cl : List (Str × Addr)) (fp : List Addr), PTs (X.blk s H scope (compEnvC scope cl C X.env) fp) ifs tt)
    (hk : ∀ (s : Shared) (H : Hp) (C : Addr) (cl : List (Str × Addr)) (fp : List Addr), PE (X.blk s H scope (compEnvC scope cl C X.env) fp) kx tk)
    (he : ∀ (s : Shared) (H : Hp) (C : Addr) (cl : List (Str × Addr)) (fp : List Addr), PE (X.blk s H scope (compEnvC scope cl C X.env) fp) vx tv) (hs : ∀ x, foldedSetIterable iter X.env x = pure x) :
    PS X (.Assign [.Name y py] (.DictComp kx vx [⟨tg, iter, ifs, 0⟩] scope pos) spos) (tAsg (tDc wi g tt tk tv (own.map (·.2))) (gName i)) := by
  constructor
  intro pn s0 σ H DD I0 hh
  rw [exec_Assign_Name_used _ _ _ _ hsw]
  apply wpAny_bind
  apply wpAny_standAt
  apply wpAny_bind
  show wpAny _ X.A (do let _ ← comprehension (.DictComp kx vx [⟨tg, iter, ifs, 0⟩] scope pos) scope X.env (firstIterPos [⟨tg, iter, ifs, 0⟩] pos) newDict false (eval iter X.env) (some (assign (.Name y py) X.env))) _ _ s0
  have h2 : tDc wi g tt tk tv (own.map (·.2)) σ H (fun x H1 => gName i x σ H1 DD.nx) := hh
  apply wpAny_bind
  refine thn (dc_core (Qf := fun _ t1 => SP X pn DD .next t1) hc hN I0 hi ok hg ht hk he hs h2 ?_) fun _ t1 z => wpAny_pure (wpAny_pure z)
  intro LL CC t1 mm HH I1 qq nn ff
  show wpAny _ _ (assign (.Name y py) X.env (.ref LL)) _ _ _
  refine wpAny_assign_Name (store_ok2 (v := V.ref LL) I1 hN hy (.inl hyl) rfl ?_ (.inr hyl))
  intro t2 I2 ⟨aa, same, aEq⟩
  obtain ⟨p0, p1, p2, p3, p4, p5⟩ := ff
  have other : CC ≠ aa := aEq.elim (fun z => by rw [z]; exact p1) fun z e => p4 y aa z e.symm
  exact ⟨mm, nn.sameBut same other, fun t3 same3 => ⟨_, HH, I2.turned (t' := t2.toks) (fun b o hb e => (same3.2 b hb).trans e) p0 p1 p3 p4 p5, qq⟩⟩
end
end L2
namespace Pv
open PySem PySem.Spec PyProof.Rows
open L2 (V Hp HO upd upd_same upd_ne VK XK TE TT TA TS TG TGs TI It Cx PE PT PW PA PS PSs PG PGs PI Inv RelV SqL SqT OpR CallR Gl Ends)
section
variable {X : Cx} {tgt iter kx vx : Expr} {pos : Pos}
theorem so_dcE {ifs : List Expr} {scope : Scope} {own : List (Str × Nat)} {k x : DV} {t : DG} {it : DI} {u : DT} {ts : List Nat} (hc : X.calm = true) (hN : X.N.Nodup) (ok : L2.BlkOk X.N X.env.scope scope own) (hts : ∀ i ∈ ts, i ∈ own.map (·.2))
    (hi : PI X tgt iter (tI X.K it)) (hg : ∀ (s : Shared) (H : Hp) (C : Addr) (cl : List (Str × Addr)) (fp : List Addr), PG (X.blk s H scope (compEnvC scope cl C X.env) fp) tgt (tg X.K ts t))
    (ht : ∀ (s : Shared) (H : Hp) (C : Addr) (cl : List (Str × Addr)) (fp : List Addr), L2.PTs (X.blk s H scope (compEnvC scope cl C X.env) fp) ifs (tT X.K u))
    (hk : ∀ (s : Shared) (H : Hp) (C : Addr) (cl : List (Str × Addr)) (fp : List Addr), PE (X.blk s H scope (compEnvC scope cl C X.env) fp) kx (tE X.K k))
    (he : ∀ (s : Shared) (H : Hp) (C : Addr) (cl : List (Str × Addr)) (fp : List Addr), PE (X.blk s H scope (compEnvC scope cl C X.env) fp) vx (tE X.K x))
    (hs : ∀ x, foldedSetIterable iter X.env x = pure x) (kk : KV k) (kx' : KV x) (kt : KG t) (ki : KV it) (ku : KV u) : PE X (.DictComp kx vx [⟨tgt, iter, ifs, 0⟩] scope pos) (tE X.K (sDcmp k x t it u (own.map (·.2)))) :=
  PE.imp (L2.pe_dc hc hN hi ok hg ht (fun s H C cl fp => so_D (hk s H C cl fp)) (fun s H C cl fp => so_D (he s H C cl fp)) hs) (so_dc hc hN ok hts kk kx' kt ki ku)
theorem so_setDc {i : Nat} {y : Str} {py : Pos} {ifs : List Expr} {scope : Scope} {own : List (Str × Nat)} {cpos : Pos} {k x : DV} {t : DG} {it : DI} {u : DT} {ts : List Nat} (hc : X.calm = true) (hN : X.N.Nodup) (hy : X.N[i]? = some y) (hyl : X.env.scope.names.lookup y = some .local)
    (hsw : swapsWith (.DictComp kx vx [⟨tgt, iter, ifs, 0⟩] scope cpos) (some (.Name y py)) pos.line X.env = pure true) (ok : L2.BlkOk X.N X.env.scope scope own) (hts : ∀ i ∈ ts, i ∈ own.map (·.2))
    (hi : PI X tgt iter (tI X.K it)) (hg : ∀ (s : Shared) (H : Hp) (C : Addr) (cl : List (Str × Addr)) (fp : List Addr), PG (X.blk s H scope (compEnvC scope cl C X.env) fp) tgt (tg X.K ts t))
    (ht : ∀ (s : Shared) (H : Hp) (C : Addr) (cl : List (Str × Addr)) (fp : List Addr), L2.PTs (X.blk s H scope (compEnvC scope cl C X.env) fp) ifs (tT X.K u))
    (hk : ∀ (s : Shared) (H : Hp) (C : Addr) (cl : List (Str × Addr)) (fp : List Addr), PE (X.blk s H scope (compEnvC scope cl C X.env) fp) kx (tE X.K k))
    (he : ∀ (s : Shared) (H : Hp) (C : Addr) (cl : List (Str × Addr)) (fp : List Addr), PE (X.blk s H scope (compEnvC scope cl C X.env) fp) vx (tE X.K x))
    (hs : ∀ x, foldedSetIterable iter X.env x = pure x) (kk : KV k) (kx' : KV x) (kt : KG t) (ki : KV it) (ku : KV u) :
    PS X (.Assign [.Name y py] (.DictComp kx vx [⟨tgt, iter, ifs, 0⟩] scope cpos) pos) (tF X.K (cAsg (gVar i) (sDcmp k x t it u (own.map (·.2))))) :=
  PS.imp (L2.ps_setDc hc hN hy hyl hsw hi ok hg ht (fun s H C cl fp => so_D (hk s H C cl fp)) (fun s H C cl fp => so_D (he s H C cl fp)) hs) fun D σ H ⟨b, m, e, S, fl, e', S', hb, R, E, hev, q⟩ => by
    obtain ⟨p1, h1, hev⟩ := bind_ok hev
    obtain ⟨p2, h2, hev⟩ := bind_ok hev
    cases h2
    cases hev
    obtain ⟨p0, h0, h1⟩ := bind_ok h1
    have e1 : settle p0.1 p0.2 = p1 := by injection h1
    refine so_dc hc hN ok hts kk kx' kt ki ku σ H _ ⟨b, m, e, S, p0.1, p0.2, hb, R, E, h0, fun v H' m' z R' rv => ?_⟩
    obtain ⟨m2, z2, z3, R2, r2⟩ := settled z R' rv
    rw [e1] at R2 r2
    exact q _ H' m2 z2 R2 (RE.set (RE.mono z2 E) r2 i)
end
end Pv
set_option linter.all false
set_option autoImplicit false
set_option maxRecDepth 100000
/-! The check that a text is the evaluator's term, and what follows from it. -/
namespace Pv
open PySem PySem.Spec PyProof.Rows
open L2 (V Hp HO upd upd_same upd_ne VK XK TE TT TA TS TG TGs TI Cx PE PT PW PA PS PSs PG PGs PI Inv RelV SqL SqT OpR CallR Gl Ends Vals Room FnOk CX0 E0)

/-- what is known of the defs: name, parameters, the shapes in which it is called; the built-in names that no def takes -/
structure Fs where
  name : Str
  np : Nat
  shapes : List (Nat × List Str × List Nat)
structure Gs where
  fns : List Fs
  frees : List Str
def opB : Bo → Operator → Bool
  | .add, .Add => true | .sub, .Sub => true | .mul, .Mult => true | .fdiv, .FloorDiv => true | .mod, .Mod => true | .pow, .Pow => true | .shl, .LShift => true | .shr, .RShift => true | .band, .BitAnd => true | .bor, .BitOr => true
  | _, _ => false
theorem opB_is {o : Bo} {op : Operator} (h : opB o op = true) : op = opOf o := by cases o <;> cases op <;> first | rfl | cases h
def coB : Co → CmpOp → Bool
  | .eq, .Eq => true | .ne, .NotEq => true | .lt, .Lt => true | .le, .LtE => true | .gt, .Gt => true | .ge, .GtE => true | .is, .Is => true | .isn, .IsNot => true | .inn, .In => true | .nin, .NotIn => true
  | _, _ => false
theorem coB_is {o : Co} {op : CmpOp} (h : coB o op = true) : op = coOf o := by cases o <;> cases op <;> first | rfl | cases h
def visB (sc : Scope) (x : Str) : Bool := match sc.names.lookup x with
  | some .local => true | some .cell => true | some .free => true
  | _ => false
def locB (sc : Scope) (x : Str) : Bool := match sc.names.lookup x with
  | some .local => true | some .cell => true
  | _ => false
def glB (sc : Scope) (x : Str) : Bool := match sc.names.lookup x with
  | some .globalImplicit => true
  | _ => false
def freeB (G : Gs) (sc : Scope) (x : Str) : Bool := glB sc x && G.frees.any fun y => decide (y = x)
def strB (x y : Str) : Bool := decide (x = y)
def slotB (N : List Str) (i : Nat) (x : Str) : Bool := decide (N[i]? = some x)
def noSet : Expr → Bool
  | .Set .. => false
  | _ => true
def ownOf (N : List Str) (vs : List Nat) : List (Str × Nat) := vs.map fun i => (N.getD i "", i)
mutual
def slots : Tg → List Nat
  | .var i => [i]
  | .tup ts => slotsL ts
  | .sub _ _ => []
def slotsL : Tgs → List Nat
  | .nil => []
  | .cons t ts => slots t ++ slotsL ts
end
def cellB (sc : Scope) (x : Str) : Bool := match sc.names.lookup x with
  | some .cell => true
  | _ => false
def lclB (sc : Scope) (x : Str) : Bool := match sc.names.lookup x with
  | some .local => true
  | _ => false
/-- a block's scope as it runs: what is the def's cell is a cell -/
def reSc (scope sc : Scope) : Scope := { scope with names := scope.names.map fun (n, k) => if (k == .free && sc.kind == .function && sc.names.lookup n == some .cell) then (n, .cell) else (n, k) }
def dbgB (x : Str) : Bool := !(x == ("__debug__" : Str)) && !(x == ("__classdict__" : Str))
/-! what an expression is made of -/
def dName : Expr → Option Str
  | .Name x _ => some x
  | _ => none
theorem dName_is {x : Expr} {s : Str} (h : dName x = some s) : ∃ p, x = .Name s p := by cases x <;> cases h; exact ⟨_, rfl⟩
def dConst : Expr → Option Const
  | .Constant c _ _ => some c
  | _ => none
theorem dConst_is {x : Expr} {s : Const} (h : dConst x = some s) : ∃ k p, x = .Constant s k p := by cases x <;> cases h; exact ⟨_, _, rfl⟩
def dNeg : Expr → Option Expr
  | .UnaryOp .USub x _ => some x
  | _ => none
theorem dNeg_is {x a : Expr} (h : dNeg x = some a) : ∃ p, x = .UnaryOp .USub a p := by
  unfold dNeg at h
  split at h
  · cases h; exact ⟨_, rfl⟩
  · cases h
def dNot : Expr → Option Expr
  | .UnaryOp .Not x _ => some x
  | _ => none
theorem dNot_is {x a : Expr} (h : dNot x = some a) : ∃ p, x = .UnaryOp .Not a p := by
  unfold dNot at h
  split at h
  · cases h; exact ⟨_, rfl⟩
  · cases h
def dBin : Expr → Option (Expr × Operator × Expr)
  | .BinOp x op y _ => some (x, op, y)
  | _ => none
theorem dBin_is {x a b : Expr} {op : Operator} (h : dBin x = some (a, op, b)) : ∃ p, x = .BinOp a op b p := by cases x <;> cases h; exact ⟨_, rfl⟩
def dCmp : Expr → Option (Expr × CmpOp × Expr)
  | .Compare x [op] [y] _ => some (x, op, y)
  | _ => none
theorem dCmp_is {x a b : Expr} {op : CmpOp} (h : dCmp x = some (a, op, b)) : ∃ p, x = .Compare a [op] [b] p := by
  unfold dCmp at h
  split at h
  · cases h; exact ⟨_, rfl⟩
  · cases h
def dAnd : Expr → Option (Expr × Expr × List Expr × Pos)
  | .BoolOp .And (x :: y :: r) p => some (x, y, r, p)
  | _ => none
theorem dAnd_is {x a b : Expr} {r : List Expr} {p : Pos} (h : dAnd x = some (a, b, r, p)) : x = .BoolOp .And (a :: b :: r) p := by
  unfold dAnd at h
  split at h
  · cases h; rfl
  · cases h
def dOr : Expr → Option (Expr × Expr × List Expr × Pos)
  | .BoolOp .Or (x :: y :: r) p => some (x, y, r, p)
  | _ => none
theorem dOr_is {x a b : Expr} {r : List Expr} {p : Pos} (h : dOr x = some (a, b, r, p)) : x = .BoolOp .Or (a :: b :: r) p := by
  unfold dOr at h
  split at h
  · cases h; rfl
  · cases h
def dIf : Expr → Option (Expr × Expr × Expr)
  | .IfExp c x y _ => some (c, x, y)
  | _ => none
theorem dIf_is {x a b c : Expr} (h : dIf x = some (c, a, b)) : ∃ p, x = .IfExp c a b p := by cases x <;> cases h; exact ⟨_, rfl⟩
def dTup : Expr → Option (List Expr)
  | .Tuple xs _ _ => some xs
  | _ => none
theorem dTup_is {x : Expr} {l : List Expr} (h : dTup x = some l) : ∃ k p, x = .Tuple l k p := by cases x <;> cases h; exact ⟨_, _, rfl⟩
def dLst : Expr → Option (List Expr)
  | .List xs _ => some xs
  | _ => none
theorem dLst_is {x : Expr} {l : List Expr} (h : dLst x = some l) : ∃ p, x = .List l p := by cases x <;> cases h; exact ⟨_, rfl⟩
def dSub : Expr → Option (Expr × Expr)
  | .Subscript x y _ => some (x, y)
  | _ => none
theorem dSub_is {x a b : Expr} (h : dSub x = some (a, b)) : ∃ p, x = .Subscript a b p := by cases x <;> cases h; exact ⟨_, rfl⟩
def dSlc : Expr → Option (Option Expr × Option Expr)
  | .Slice l u none _ => some (l, u)
  | _ => none
theorem dSlc_is {x : Expr} {l u : Option Expr} (h : dSlc x = some (l, u)) : ∃ p, x = .Slice l u none p := by
  unfold dSlc at h
  split at h
  · cases h; exact ⟨_, rfl⟩
  · cases h
def dRev : Expr → Bool
  | .Slice none none (some (.UnaryOp .USub (.Constant (.int 1) _ _) _)) _ => true
  | _ => false
theorem dRev_is {x : Expr} (h : dRev x = true) : ∃ k p1 p2 p3, x = .Slice none none (some (.UnaryOp .USub (.Constant (.int 1) k p1) p2)) p3 := by
  unfold dRev at h
  split at h
  · exact ⟨_, _, _, _, rfl⟩
  · cases h
def dCall : Expr → Option (Str × List Expr × List Keyword)
  | .Call (.Name x _) as kws _ => some (x, as, kws)
  | _ => none
theorem dCall_is {x : Expr} {s : Str} {as : List Expr} {kws : List Keyword} (h : dCall x = some (s, as, kws)) : ∃ p q, x = .Call (.Name s p) as kws q := by
  unfold dCall at h
  split at h
  · cases h; exact ⟨_, _, rfl⟩
  · cases h
/-- f(a), no keyword -/
def dC1 (x : Expr) : Option (Str × Expr) := match dCall x with
  | some (s, [a], []) => some (s, a)
  | _ => none
theorem dC1_is {x a : Expr} {s : Str} (h : dC1 x = some (s, a)) : ∃ p q, x = .Call (.Name s p) [a] [] q := by
  unfold dC1 at h
  split at h
  · rename_i e; cases h; exact dCall_is e
  · cases h
def dC2 (x : Expr) : Option (Str × Expr × Expr) := match dCall x with
  | some (s, [a, b], []) => some (s, a, b)
  | _ => none
theorem dC2_is {x a b : Expr} {s : Str} (h : dC2 x = some (s, a, b)) : ∃ p q, x = .Call (.Name s p) [a, b] [] q := by
  unfold dC2 at h
  split at h
  · rename_i e; cases h; exact dCall_is e
  · cases h
def dM0 : Expr → Option (Expr × Str)
  | .Call (.Attribute o nm ap) [] [] cp => if (ap.endLine == cp.line) = true then some (o, nm) else none
  | _ => none
theorem dM0_is {x o : Expr} {nm : Str} (h : dM0 x = some (o, nm)) : ∃ ap cp, (ap.endLine == cp.line) = true ∧ x = .Call (.Attribute o nm ap) [] [] cp := by
  unfold dM0 at h
  split at h
  · split at h
    · cases h; exact ⟨_, _, ‹_›, rfl⟩
    · cases h
  · cases h
def dM1 : Expr → Option (Expr × Str × Expr)
  | .Call (.Attribute o nm ap) [a] [] cp => if (ap.endLine == cp.line) = true then some (o, nm, a) else none
  | _ => none
theorem dM1_is {x o a : Expr} {nm : Str} (h : dM1 x = some (o, nm, a)) : ∃ ap cp, (ap.endLine == cp.line) = true ∧ x = .Call (.Attribute o nm ap) [a] [] cp := by
  unfold dM1 at h
  split at h
  · split at h
    · cases h; exact ⟨_, _, ‹_›, rfl⟩
    · cases h
  · cases h
def dM2 : Expr → Option (Expr × Str × Expr × Expr)
  | .Call (.Attribute o nm ap) [a, b] [] cp => if (ap.endLine == cp.line) = true then some (o, nm, a, b) else none
  | _ => none
theorem dM2_is {x o a b : Expr} {nm : Str} (h : dM2 x = some (o, nm, a, b)) : ∃ ap cp, (ap.endLine == cp.line) = true ∧ x = .Call (.Attribute o nm ap) [a, b] [] cp := by
  unfold dM2 at h
  split at h
  · split at h
    · cases h; exact ⟨_, _, ‹_›, rfl⟩
    · cases h
  · cases h
def dDict : Expr → Bool
  | .Dict [] [] _ => true
  | _ => false
theorem dDict_is {x : Expr} (h : dDict x = true) : ∃ p, x = .Dict [] [] p := by
  unfold dDict at h
  split at h
  · exact ⟨_, rfl⟩
  · cases h
def dComp : Expr → Option (Expr × Expr × Expr × List Expr × Scope)
  | .ListComp elt [⟨tgt, iter, cs, 0⟩] scope _ => some (elt, tgt, iter, cs, scope)
  | _ => none
theorem dComp_is {x elt tgt iter : Expr} {cs : List Expr} {scope : Scope} (h : dComp x = some (elt, tgt, iter, cs, scope)) : ∃ p, x = .ListComp elt [⟨tgt, iter, cs, 0⟩] scope p := by
  unfold dComp at h
  split at h
  · cases h; exact ⟨_, rfl⟩
  · cases h
def dChn : Expr → Option (Expr × CmpOp × Expr × CmpOp × Expr)
  | .Compare x [o, p] [y, z] _ => some (x, o, y, p, z)
  | _ => none
theorem dChn_is {x a b c : Expr} {o p : CmpOp} (h : dChn x = some (a, o, b, p, c)) : ∃ q, x = .Compare a [o, p] [b, c] q := by
  unfold dChn at h
  split at h
  · cases h; exact ⟨_, rfl⟩
  · cases h
def dDcm : Expr → Option (Expr × Expr × Expr × Expr × List Expr × Scope)
  | .DictComp kx vx [⟨tgt, iter, cs, 0⟩] scope _ => some (kx, vx, tgt, iter, cs, scope)
  | _ => none
theorem dDcm_is {x kx vx tgt iter : Expr} {cs : List Expr} {scope : Scope} (h : dDcm x = some (kx, vx, tgt, iter, cs, scope)) : ∃ p, x = .DictComp kx vx [⟨tgt, iter, cs, 0⟩] scope p := by
  unfold dDcm at h
  split at h
  · cases h; exact ⟨_, rfl⟩
  · cases h
def cnB : D → Const → Bool
  | .non, .none => true
  | .bl b, .bool c => b == c
  | .int i, .int j => decide (i = j)
  | .str s, .str t => strB s t
  | _, _ => false
def fnB (sc : Scope) : Bool := match sc.kind with
  | .function => true
  | _ => false
def shapeB (G : Gs) (f : Nat) (perm : List Nat) (s : Str) (as : List Expr) (kws : List Keyword) : Bool := match G.fns[f]? with
  | some d => strB d.name s && d.shapes.any fun q => q.1 == as.length && decide (kws.map (·.arg) = q.2.1.map some) && decide (q.2.2 = perm) && perm.length == d.np && perm.all fun i => decide (i < as.length + q.2.1.length)
  | none => false
mutual
def okE (G : Gs) (N : List Str) : E → Scope → Expr → Bool
  | .var i, sc, x => match dName x with
    | some s => slotB N i s && visB sc s && dbgB s
    | none => false
  | .cn c, sc, x => match dConst x with
    | some k => cnB c k
    | none => false
  | .neg a, sc, x => match dNeg x with
    | some y => okE G N a sc y
    | none => false
  | .not a, sc, x => match dNot x with
    | some y => okE G N a sc y
    | none => false
  | .bin o a b, sc, x => match dBin x with
    | some (y, op, z) => opB o op && okE G N a sc y && okE G N b sc z
    | none => false
  | .cmp o a b, sc, x => match dCmp x with
    | some (y, op, z) => coB o op && okE G N a sc y && okE G N b sc z && !behindInMarks op z
    | none => false
  | .and a b, sc, x => match dAnd x with
    | some (y, z, [], _) => okE G N a sc y && okE G N b sc z
    | some (y, z, w :: r, p) => okE G N a sc y && okE G N b sc (.BoolOp .And (z :: w :: r) p)
    | none => false
  | .or a b, sc, x => match dOr x with
    | some (y, z, [], _) => okE G N a sc y && okE G N b sc z
    | some (y, z, w :: r, p) => okE G N a sc y && okE G N b sc (.BoolOp .Or (z :: w :: r) p)
    | none => false
  | .ite c a b, sc, x => match dIf x with
    | some (t, y, z) => okE G N c sc t && okE G N a sc y && okE G N b sc z
    | none => false
  | .tup es, sc, x => match dTup x with
    | some xs => okEs G N es sc xs
    | none => false
  | .lst es, sc, x => match dLst x with
    | some xs => okEs G N es sc xs
    | none => false
  | .idx a b, sc, x => match dSub x with
    | some (y, z) => noSlice z && okE G N a sc y && okE G N b sc z
    | none => false
  | .sl a lo hi, sc, x => match dSub x with
    | some (y, z) => (match dSlc z with
      | some (l, u) => okE G N a sc y && okO G N lo sc l && okO G N hi sc u
      | none => false)
    | none => false
  | .rev a, sc, x => match dSub x with
    | some (y, z) => dRev z && okE G N a sc y
    | none => false
  | .call f es ks perm, sc, x => match dCall x with
    | some (s, as, kws) => shapeB G f perm s as kws && glB sc s && dbgB s && as.all noStar && okEs G N es sc as && okKs G N ks sc kws
    | none => false
  | .f1 o a, sc, x => match dC1 x with
    | some (s, y) => strB s (f1Name o) && freeB G sc s && noStar y && okE G N a sc y
    | none => false
  | .f2 o a b, sc, x => match dC2 x with
    | some (s, y, z) => strB s (f2Name o) && freeB G sc s && noStar y && noStar z && okE G N a sc y && okE G N b sc z
    | none => false
  | .isi a t, sc, x => match dC2 x with
    | some (s, y, z) => (match dName z with
      | some r => strB s "isinstance" && freeB G sc s && strB r (tyName t) && freeB G sc r && noStar y && okE G N a sc y
      | none => false)
    | none => false
  | .mkr t lo hi, sc, x => match dC1 x with
    | some (s, w) => (t == .list || t == .tuple) && strB s (f1Name t) && freeB G sc s && (match lo with
      | .none => (match dC1 w with
        | some (r, y) => strB r "range" && freeB G sc r && noStar y && okE G N hi sc y
        | none => false)
      | .some lo => (match dC2 w with
        | some (r, y, z) => strB r "range" && freeB G sc r && noStar y && noStar z && okE G N lo sc y && okE G N hi sc z
        | none => false))
    | none => false
  | .m0 m o, sc, x => match dM0 x with
    | some (y, nm) => strB nm (m0Name m) && plainO y && okE G N o sc y
    | none => false
  | .m1 m o a, sc, x => match dM1 x with
    | some (y, nm, z) => (m == .append || m == .pop || m == .index) && strB nm (m1Name m) && plainO y && noStar z && okE G N o sc y && okE G N a sc z
    | none => false
  | .comp x tg it ifs vs, sc, w => match dComp w with
    | some (elt, tgt, iter, cs, scope) => fnB scope && L2.blkC N sc scope (ownOf N vs) && (slots tg).all (fun i => vs.contains i) && noSet iter && okIt G N it sc tgt iter && okTg G N tg scope (reSc scope sc) tgt && okE G N x (reSc scope sc) elt && decide (cs.length ≤ 1) && okEs G N ifs (reSc scope sc) cs
    | none => false
  | .m2 m o a b, sc, x => match dM2 x with
    | some (y, nm, z, w) => (m == .insert && strB nm "insert" && plainO y && noStar z && noStar w) && okE G N o sc y && okE G N a sc z && okE G N b sc w
    | none => false
  | .chn o p a b e, sc, x => match dChn x with
    | some (y, op, z, oq, w) => (coB o op && coB p oq && !lastMarks [op, oq] [z, w]) && okE G N a sc y && okE G N b sc z && okE G N e sc w
    | none => false
  | .dcmp k x tg it ifs vs, sc, w => match dDcm w with
    | some (kx, vx, tgt, iter, cs, scope) => fnB scope && L2.blkC N sc scope (ownOf N vs) && (slots tg).all (fun i => vs.contains i) && noSet iter && okIt G N it sc tgt iter && okTg G N tg scope (reSc scope sc) tgt && (okE G N k (reSc scope sc) kx && okE G N x (reSc scope sc) vx) && decide (cs.length ≤ 1) && okEs G N ifs (reSc scope sc) cs
    | none => false
  | .dnew t, _, x => !t && dDict x
  | .dget a b, sc, x => match dSub x with
    | some (y, z) => noSlice z && okE G N a sc y && okE G N b sc z
    | none => false
  | .din neg a b, sc, x => match dCmp x with
    | some (y, op, z) => coB (if neg then .nin else .inn) op && okE G N a sc y && okE G N b sc z && !behindInMarks op z
    | none => false
  | .dlen a, sc, x => match dC1 x with
    | some (s, y) => strB s "len" && freeB G sc s && noStar y && okE G N a sc y
    | none => false
  | .dgt o a b, sc, x => match dM2 x with
    | some (y, nm, z, w) => (strB nm "get" && plainO y && noStar z && noStar w) && okE G N o sc y && okE G N a sc z && okE G N b sc w
    | none => false
def okEs (G : Gs) (N : List Str) : Es → Scope → List Expr → Bool
  | .nil, _, l => l.isEmpty
  | .cons e es, sc, l => match l with
    | x :: xs => noStar x && okE G N e sc x && okEs G N es sc xs
    | [] => false
def okKs (G : Gs) (N : List Str) : Es → Scope → List Keyword → Bool
  | .nil, _, l => l.isEmpty
  | .cons e es, sc, l => match l with
    | x :: xs => okE G N e sc x.value && okKs G N es sc xs
    | [] => false
def okO (G : Gs) (N : List Str) : Oe → Scope → Option Expr → Bool
  | .none, _, o => o.isNone
  | .some e, sc, o => match o with
    | some x => okE G N e sc x
    | none => false
def okIt (G : Gs) (N : List Str) : It → Scope → Expr → Expr → Bool
  | .e a, sc, _, x => okE G N a sc x
  | .rng lo hi, sc, _, x => match lo with
    | .none => (match dC1 x with
      | some (r, y) => strB r "range" && freeB G sc r && noStar y && okE G N hi sc y
      | none => false)
    | .some lo => (match dC2 x with
      | some (r, y, z) => strB r "range" && freeB G sc r && noStar y && noStar z && okE G N lo sc y && okE G N hi sc z
      | none => false)
  | .enum a, sc, t, x => (dTup t).isSome && (match dC1 x with
    | some (r, y) => strB r "enumerate" && freeB G sc r && noStar y && okE G N a sc y
    | none => false)
  | .zip a b, sc, t, x => (dTup t).isSome && (match dC2 x with
    | some (r, y, z) => strB r "zip" && freeB G sc r && noStar y && noStar z && okE G N a sc y && okE G N b sc z
    | none => false)
  | .rev a, sc, _, x => match dC1 x with
    | some (r, y) => strB r "reversed" && freeB G sc r && noStar y && okE G N a sc y
    | none => false
  | .rrg hi, sc, _, x => match dC1 x with
    | some (r, y) => (match dC1 y with
      | some (r2, z) => (strB r "reversed" && freeB G sc r && strB r2 "range" && freeB G sc r2) && noStar z && okE G N hi sc z
      | none => false)
    | none => false
def okTg (G : Gs) (N : List Str) : Tg → Scope → Scope → Expr → Bool
  | .var i, osc, sc, x => match dName x with
    | some s => slotB N i s && locB sc s && (cellB osc s || lclB sc s)
    | none => false
  | .tup ts, osc, sc, x => match dTup x with
    | some xs => xs.all noStar && okTgs G N ts osc sc xs
    | none => false
  | .sub o i, _, sc, x => match dSub x with
    | some (y, z) => noSlice z && okE G N o sc y && okE G N i sc z
    | none => false
def okTgs (G : Gs) (N : List Str) : Tgs → Scope → Scope → List Expr → Bool
  | .nil, _, _, l => l.isEmpty
  | .cons t ts, osc, sc, l => match l with
    | x :: xs => noStar x && okTg G N t osc sc x && okTgs G N ts osc sc xs
    | [] => false
end
/-! what a statement is made of -/
/-- may x be stored at t as a plain assignment -/
def asgB (sc : Scope) (t x : Expr) : Bool := (plainG t && noComp x) || (match dTup t with
  | some ts => (match dTup x with
    | some vs => decide (swapC sc ts vs = some none)
    | none => noComp x)
  | none => false)
/-- a comprehension stored at a def's cell: as any value -/
def compCell (sc : Scope) (t x : Expr) : Bool := match t, x with
  | .Name y _, .ListComp .. => cellB sc y
  | .Name y _, .DictComp .. => cellB sc y
  | _, _ => false
/-- a comprehension stored at a name, its list laid by exchange -/
def compB (sc : Scope) (t x : Expr) : Bool := match t, x with
  | .Name y py, .ListComp _ _ scope cp => lclB sc y && (py.line == cp.line) && !(scope.names.any fun (m, k) => m == y && (k == .local || k == .cell))
  | _, _ => false
/-- a dict's comprehension stored at a name, laid by exchange -/
def dcB (sc : Scope) (t x : Expr) : Bool := match t, x with
  | .Name y py, .DictComp _ _ _ scope cp => lclB sc y && (py.line == cp.line) && !(scope.names.any fun (m, k) => m == y && (k == .local || k == .cell))
  | _, _ => false
def isVarG : Tg → Bool
  | .var _ => true
  | _ => false
def swapB (sc : Scope) (N : List Str) (ts : List Nat) (t v : List Expr) : Bool := match ts, t, v with
  | [i, j], [.Name x px, .Name y py], [a, b] => slotB N i x && slotB N j y && !(i == j) && lclB sc x && lclB sc y && decide (swapC sc [.Name x px, .Name y py] [a, b] = some (some [x, y]))
  | [i, j, h], [.Name x px, .Name y py, .Name z pz], [a, b, c] => slotB N i x && slotB N j y && slotB N h z && !(i == j) && !(i == h) && !(j == h) && lclB sc x && lclB sc y && lclB sc z && decide (swapC sc [.Name x px, .Name y py, .Name z pz] [a, b, c] = some (some [x, y, z]))
  | _, _, _ => false
mutual
def okS (G : Gs) (N : List Str) (sc : Scope) : Pv.St → Stmt → Bool
  | .expr a, x => match x with
    | .Expr y _ => noComp y && okE G N a sc y
    | _ => false
  | .asg t a, x => match x with
    | .Assign [tgt] y _ => okTg G N t sc sc tgt && noStar tgt && okE G N a sc y && (asgB sc tgt y || compCell sc tgt y || (isVarG t && compB sc tgt y) || (isVarG t && dcB sc tgt y))
    | _ => false
  | .aug i o a, x => match x with
    | .AugAssign (.Name s _) op y _ => opB o op && augOk o && slotB N i s && locB sc s && okE G N a sc y
    | _ => false
  | .augs a b o c, x => match x with
    | .AugAssign (.Subscript y z _) op w _ => opB o op && augOk o && noSlice z && okE G N a sc y && okE G N b sc z && okE G N c sc w
    | _ => false
  | .swap ts es, x => match x with
    | .Assign [.Tuple t _ _] (.Tuple v _ _) _ => swapB sc N ts t v && okEs G N es sc v
    | _ => false
  | .ite c a b, x => match x with
    | .If t xs ys _ => okE G N c sc t && okSs G N sc a xs && okSs G N sc b ys
    | _ => false
  | .for t it b, x => match x with
    | .For tgt iter bs [] _ => noSet iter && okIt G N it sc tgt iter && okTg G N t sc sc tgt && okSs G N sc b bs
    | _ => false
  | .while c b, x => match x with
    | .While t bs [] _ => okE G N c sc t && okSs G N sc b bs
    | _ => false
  | .ret a, x => match x with
    | .Return (some y) _ => okE G N a sc y
    | _ => false
  | .retn, x => match x with
    | .Return none _ => true
    | _ => false
  | .brk, x => match x with
    | .Break _ => true
    | _ => false
  | .cont, x => match x with
    | .Continue _ => true
    | _ => false
  | .pass, x => match x with
    | .Pass _ => true
    | _ => false
  | .dput a b c, x => match x with
    | .Assign [.Subscript y z _] w _ => noComp w && okE G N a sc y && okE G N b sc z && okE G N c sc w
    | _ => false
def okSs (G : Gs) (N : List Str) (sc : Scope) : Ss → List Stmt → Bool
  | .nil, l => l.isEmpty
  | .cons s r, l => match l with
    | x :: xs => okS G N sc s x && okSs G N sc r xs
    | [] => false
end
end Pv
set_option linter.all false
set_option autoImplicit false
set_option maxRecDepth 100000
/-! What the check says, the machine does. -/
namespace Pv
open PySem PySem.Spec PyProof.Rows
open L2 (V Hp HO upd upd_same upd_ne VK XK TE TT TA TS TG TGs TI Cx PE PT PW PA PS PSs PG PGs PI Inv RelV SqL SqT OpR CallR Gl Ends Vals Room FnOk CX0 E0)

/-- the defs as they stand: each keeps what the evaluator tells, in so many calls one within another -/
def Fns (P : Program) (w : World) (K : PySem.W.Frag) (mg : Str → Option Value) (base : Heap) (n : Nat) (rc : Rc) (G : Gs) : Prop := ∀ f d, G.fns[f]? = some d → ∃ (fa : Addr) (fd : FuncData) (ps : List Str), mg d.name = some (.ref fa) ∧ PySem.W.keepIn K (.ref fa) = true ∧
  FnOk P w K mg base CX0 n fa fd ps (spN K rc d.np f) ∧ ∀ s ∈ d.shapes, Bd K fd ps s.1 s.2.1 s.2.2
/-- where a piece of text stands -/
structure Cz (n : Nat) (rc : Rc) (G : Gs) (N : List Str) (osc sc : Scope) (X : Cx) : Prop where
  hN : X.N = N
  nd : N.Nodup
  hsc : X.env.scope = sc
  kd : sc.kind = .function
  calm : X.calm = true
  room : Room n X.A
  cell : ∀ x, osc.names.lookup x = some .cell → X.fn x = true
  free : ∀ x ∈ G.frees, X.mg x = none
  fns : Fns X.prog X.w X.K X.mg X.base n rc G
section
variable {n : Nat} {rc : Rc} {G : Gs} {N : List Str} {osc sc : Scope} {X : Cx}
theorem Cz.slot (c : Cz n rc G N osc sc X) {i : Nat} {x : Str} (h : slotB N i x = true) : X.N[i]? = some x := by
  rw [c.hN]; exact of_decide_eq_true h
theorem Cz.vis (c : Cz n rc G N osc sc X) {x : Str} (h : visB sc x = true) : L2.Vis X.env.scope x := by
  rw [c.hsc]
  unfold visB at h
  split at h
  · exact .inl ‹_›
  · exact .inr (.inl ‹_›)
  · exact .inr (.inr ‹_›)
  · cases h
theorem Cz.loc (c : Cz n rc G N osc sc X) {x : Str} (h : locB sc x = true) (h2 : (cellB osc x || lclB sc x) = true) : L2.Loc X.env.scope x ∧ (X.fn x = true ∨ X.env.scope.names.lookup x = some .local) := by
  rw [c.hsc]
  refine ⟨?_, ?_⟩
  · unfold locB at h
    split at h
    · exact .inl ‹_›
    · exact .inr ‹_›
    · cases h
  · rcases Bool.or_eq_true_iff.mp h2 with h2 | h2
    · unfold cellB at h2
      split at h2
      · exact .inl (c.cell x ‹_›)
      · cases h2
    · unfold lclB at h2
      split at h2
      · exact .inr ‹_›
      · cases h2
theorem Cz.gl (c : Cz n rc G N osc sc X) {x : Str} (h : glB sc x = true) : Gl X x := by
  unfold glB at h
  split at h
  · show X.env.scope.names.lookup x = _
    rw [c.hsc]; assumption
  · cases h
theorem Cz.fr (c : Cz n rc G N osc sc X) {x : Str} (h : freeB G sc x = true) : Gl X x ∧ X.mg x = none := by
  have h' : glB sc x = true ∧ (G.frees.any fun y => decide (y = x)) = true := by simpa [freeB] using h
  refine ⟨c.gl h'.1, ?_⟩
  obtain ⟨y, hy, e⟩ := List.any_eq_true.mp h'.2
  rw [← of_decide_eq_true e]
  exact c.free y hy
theorem Cz.blk (c : Cz n rc G N osc sc X) (s : Shared) (H : Hp) (scope : Scope) (C : Addr) (cl : List (Str × Addr)) (fp : List Addr) (hk : scope.kind = .function) : Cz n rc G N scope (reSc scope sc) (X.blk s H scope (compEnvC scope cl C X.env) fp) :=
  ⟨c.hN, c.nd, by show relabel scope X.env = reSc scope sc; unfold relabel reSc; rw [← c.hsc]; rfl, hk, c.calm, c.room, fun x h => by show (scope.names.lookup x == some .cell) = true; rw [h]; rfl, c.free, c.fns⟩
end
theorem dbg {x : Str} (h : dbgB x = true) : (x == ("__debug__" : Str)) = false ∧ (x == ("__classdict__" : Str)) = false := by
  unfold dbgB at h
  have h' : (!(x == ("__debug__" : Str))) = true ∧ (!(x == ("__classdict__" : Str))) = true := by simpa only [Bool.and_eq_true] using h
  exact ⟨Bool.not_eq_true' _ ▸ h'.1, Bool.not_eq_true' _ ▸ h'.2⟩
/-! the evaluator keeps the frame base -/
mutual
theorem kvE {rc : Rc} (kr : KC rc) : ∀ e : E, KV (evE rc e).v ∧ KV (evE rc e).t
  | .var i => ⟨KV.var i, (KV.var i).sT⟩
  | .cn c => ⟨KV.cn c, (KV.cn c).sT⟩
  | .neg a => ⟨(kvE kr a).1.neg, (kvE kr a).1.neg.sT⟩
  | .not a => ⟨(kvE kr a).1.not, (kvE kr a).2.tNot⟩
  | .bin o a b => ⟨KV.bin (kvE kr a).1 (kvE kr b).1, (KV.bin (kvE kr a).1 (kvE kr b).1).sT⟩
  | .cmp o a b => ⟨KV.cmp (kvE kr a).1 (kvE kr b).1, (KV.cmp (kvE kr a).1 (kvE kr b).1).sT⟩
  | .and a b => ⟨KV.and (kvE kr a).1 (kvE kr b).1, KV.tAnd (kvE kr a).2 (kvE kr b).2⟩
  | .or a b => ⟨KV.or (kvE kr a).1 (kvE kr b).1, KV.tOr (kvE kr a).2 (kvE kr b).2⟩
  | .ite c a b => ⟨KV.ite (kvE kr c).2 (kvE kr a).1 (kvE kr b).1, fun _ _ _ _ _ _ h => by cases h⟩
  | .tup es => ⟨KV.tup (kvEs kr es).1, (KV.tup (kvEs kr es).1).sT⟩
  | .lst es => ⟨KV.lst (kvEs kr es).1, (KV.lst (kvEs kr es).1).sT⟩
  | .idx a b => ⟨KV.idx (kvE kr a).1 (kvE kr b).1, (KV.idx (kvE kr a).1 (kvE kr b).1).sT⟩
  | .sl a lo hi => ⟨KV.sl (kvE kr a).1 (kvO kr lo) (kvO kr hi), (KV.sl (kvE kr a).1 (kvO kr lo) (kvO kr hi)).sT⟩
  | .rev a => ⟨(kvE kr a).1.rev, (kvE kr a).1.rev.sT⟩
  | .call f es ks perm => ⟨KV.call kr (kvEs kr es).1 (kvEs kr ks).1, (KV.call kr (kvEs kr es).1 (kvEs kr ks).1).sT⟩
  | .f1 o a => ⟨(kvE kr a).1.f1, (kvE kr a).1.f1.sT⟩
  | .f2 o a b => ⟨KV.f2 (kvE kr a).1 (kvE kr b).1, (KV.f2 (kvE kr a).1 (kvE kr b).1).sT⟩
  | .isi a t => ⟨(kvE kr a).1.isi, (kvE kr a).1.isi.sT⟩
  | .mkr t lo hi => ⟨KV.mkr (kvO kr lo) (kvE kr hi).1, (KV.mkr (kvO kr lo) (kvE kr hi).1).sT⟩
  | .m0 m o => ⟨(kvE kr o).1.m0, (kvE kr o).1.m0.sT⟩
  | .m1 m o a => ⟨KV.m1 (kvE kr o).1 (kvE kr a).1, (KV.m1 (kvE kr o).1 (kvE kr a).1).sT⟩
  | .m2 m o a b => ⟨KV.m2 (kvE kr o).1 (kvE kr a).1 (kvE kr b).1, (KV.m2 (kvE kr o).1 (kvE kr a).1 (kvE kr b).1).sT⟩
  | .chn o p a b c => ⟨KV.chn (kvE kr a).1 (kvE kr b).1 (kvE kr c).1, (KV.chn (kvE kr a).1 (kvE kr b).1 (kvE kr c).1).sT⟩
  | .dcmp k x tg it ifs vs => ⟨KV.dcmp (kvE kr k).1 (kvE kr x).1 (kvTg kr tg) (kvIt kr it) (kvEs kr ifs).2, (KV.dcmp (kvE kr k).1 (kvE kr x).1 (kvTg kr tg) (kvIt kr it) (kvEs kr ifs).2).sT⟩
  | .comp x tg it ifs vs => ⟨KV.comp (kvE kr x).1 (kvTg kr tg) (kvIt kr it) (kvEs kr ifs).2, (KV.comp (kvE kr x).1 (kvTg kr tg) (kvIt kr it) (kvEs kr ifs).2).sT⟩
  | .dnew t => ⟨KV.dnew t, (KV.dnew t).sT⟩
  | .dget a b => ⟨KV.dget (kvE kr a).1 (kvE kr b).1, (KV.dget (kvE kr a).1 (kvE kr b).1).sT⟩
  | .din neg a b => ⟨KV.din (kvE kr a).1 (kvE kr b).1, (KV.din (kvE kr a).1 (kvE kr b).1).sT⟩
  | .dlen a => ⟨KV.dlen (kvE kr a).1, (KV.dlen (kvE kr a).1).sT⟩
  | .dgt a b c => ⟨KV.dgt (kvE kr a).1 (kvE kr b).1 (kvE kr c).1, (KV.dgt (kvE kr a).1 (kvE kr b).1 (kvE kr c).1).sT⟩
theorem kvEs {rc : Rc} (kr : KC rc) : ∀ e : Es, KV (evEs rc e).1 ∧ KV (evEs rc e).2
  | .nil => ⟨KV.lNil, KV.tYes⟩
  | .cons x es => ⟨KV.lCons (kvE kr x).1 (kvEs kr es).1, KV.tAnd (kvE kr x).2 (kvEs kr es).2⟩
theorem kvO {rc : Rc} (kr : KC rc) : ∀ e : Oe, KV (evO rc e)
  | .none => KV.oNone
  | .some x => (kvE kr x).1.oSome
theorem kvIt {rc : Rc} (kr : KC rc) : ∀ e : It, KV (evIt rc e)
  | .e x => (kvE kr x).1.iE
  | .enum x => (kvE kr x).1.iEnum
  | .rev x => (kvE kr x).1.iRev
  | .zip x y => KV.iZip (kvE kr x).1 (kvE kr y).1
  | .rng lo hi => KV.iRng (kvO kr lo) (kvE kr hi).1
  | .rrg hi => KV.iRrg (kvE kr hi).1
theorem kvTg {rc : Rc} (kr : KC rc) : ∀ t : Tg, KG (evTg rc t)
  | .var i => KG.var i
  | .tup ts => (kvTgs kr ts).tup
  | .sub o i => KG.sub (kvE kr o).1 (kvE kr i).1
theorem kvTgs {rc : Rc} (kr : KC rc) : ∀ t : Tgs, KG (evTgs rc t)
  | .nil => KG.nil
  | .cons t ts => KG.cons (kvTg kr t) (kvTgs kr ts)
end
mutual
theorem kvS {rc : Rc} (kr : KC rc) : ∀ s : Pv.St, KF (evS rc s)
  | .expr x => KF.expr (kvE kr x).1
  | .asg t x => KF.asg (kvE kr x).1 (kvTg kr t)
  | .aug i o x => KF.aug (kvE kr x).1
  | .augs o i op x => KF.augs (kvE kr o).1 (kvE kr i).1 (kvE kr x).1
  | .swap ts es => KF.swap (kvEs kr es).1
  | .ite c x y => KF.ite (kvE kr c).2 (kvSs kr x) (kvSs kr y)
  | .for t it body => KF.for (kvTg kr t) (kvIt kr it) (kvSs kr body)
  | .while c body => KF.while (kvE kr c).2 (kvSs kr body)
  | .ret x => KF.ret (kvE kr x).1
  | .retn => KF.fl _
  | .brk => KF.fl _
  | .cont => KF.fl _
  | .pass => KF.fl _
  | .dput o k x => KF.dput (kvE kr o).1 (kvE kr k).1 (kvE kr x).1
theorem kvSs {rc : Rc} (kr : KC rc) : ∀ s : Ss, KF (evSs rc s)
  | .nil => KF.fl _
  | .cons s r => KF.seq (kvS kr s) (kvSs kr r)
end
theorem kcN (T : Nat → Option Df) : ∀ n, KC (callN T n)
  | 0 => fun _ _ _ _ _ h => by cases h
  | n + 1 => fun f ds S r S' h => by
    unfold callN at h
    split at h
    · cases h
    · rename_i d hd
      split at h
      · obtain ⟨⟨fl, e', S1⟩, h1, h⟩ := bind_ok h
        obtain ⟨v, h2, h⟩ := bind_ok h
        have e1 : leave S.length v S1 = (r, S') := by injection h
        have k1 := kvSs (kcN T n) d.body S.length _ S fl e' S1 (Nat.le_refl _) h1
        have := (leave_kp (r := v) k1 rfl).1
        rw [e1] at this
        exact this
      · cases h
theorem llEs {rc : Rc} : ∀ {es : Es} {G : Gs} {N : List Str} {sc : Scope} {xs : List Expr}, okEs G N es sc xs = true → LL (evEs rc es).1 xs.length
  | .nil, _, _, _, [], _ => LL.nil
  | .cons e es, G, N, sc, x :: xs, h => by
    have h' : (noStar x = true ∧ okE G N e sc x = true) ∧ okEs G N es sc xs = true := by simpa [okEs] using h
    exact LL.cons (llEs h'.2)
  | .nil, _, _, _, _ :: _, h => by simp [okEs] at h
  | .cons _ _, _, _, _, [], h => by simp [okEs] at h
theorem llKs {rc : Rc} : ∀ {es : Es} {G : Gs} {N : List Str} {sc : Scope} {xs : List Keyword}, okKs G N es sc xs = true → LL (evEs rc es).1 xs.length
  | .nil, _, _, _, [], _ => LL.nil
  | .cons e es, G, N, sc, ⟨k, x, p⟩ :: xs, h => by
    have h' : okE G N e sc x = true ∧ okKs G N es sc xs = true := by simpa [okKs] using h
    exact LL.cons (llKs h'.2)
  | .nil, _, _, _, _ :: _, h => by simp [okKs] at h
  | .cons _ _, _, _, _, [], h => by simp [okKs] at h
theorem glTs {rc : Rc} : ∀ {ts : Tgs} {G : Gs} {N : List Str} {osc sc : Scope} {xs : List Expr}, okTgs G N ts osc sc xs = true → GL xs.length (evTgs rc ts)
  | .nil, _, _, _, _, [], _ => GL.nil
  | .cons t ts, G, N, osc, sc, x :: xs, h => by
    have h' : (noStar x = true ∧ okTg G N t osc sc x = true) ∧ okTgs G N ts osc sc xs = true := by simpa [okTgs] using h
    exact GL.cons (glTs h'.2)
  | .nil, _, _, _, _, _ :: _, h => by simp [okTgs] at h
  | .cons _ _, _, _, _, _, [], h => by simp [okTgs] at h
theorem foldSet {iter : Expr} (h : noSet iter = true) (env : PySem.Env) (x : Value) : foldedSetIterable iter env x = pure x := by
  cases iter <;> first | rfl | cases h
theorem PT.pw {X : Cx} {op : BoolOp} {vs : List Expr} {p : Pos} {t : TT} (h : PT X (.BoolOp op vs p) t) : PW X (.BoolOp op vs p) t := ⟨fun _ pins s σ H Q I q => h.run pins s σ H Q I q⟩
theorem so_badT {X : Cx} {ex : Expr} : PT X ex (tT X.K fun _ _ _ => .bad) := ⟨fun pins s σ H Q I ⟨b, m, e, S, k, S', hb, R, E, he, q⟩ => by cases he⟩
theorem nil_of {rc : Rc} {es : Es} {G : Gs} {N : List Str} {sc : Scope} (h : okEs G N es sc [] = true) : es = .nil := by
  cases es with
  | nil => rfl
  | cons _ _ => simp [okEs] at h
end Pv
set_option linter.all false
set_option autoImplicit false
set_option maxRecDepth 100000
/-! The check, met: every expression. -/
namespace Pv
open PySem PySem.Spec PyProof.Rows
open L2 (V Hp HO upd upd_same upd_ne VK XK TE TT TA TS TG TGs TI Cx PE PT PW PA PS PSs PG PGs PI Inv RelV SqL SqT OpR CallR Gl Ends Vals Room FnOk CX0 E0)
theorem strB_is {x y : Str} (h : strB x y = true) : x = y := of_decide_eq_true h
theorem cn_ok {X : Cx} {c : D} {k : Const} {q : Nat} {p : Pos} (h : cnB c k = true) : PE X (.Constant k q p) (tE X.K (sCn c)) := by
  cases c with
  | non => cases k <;> first | exact so_const L2.pe_non (fun _ _ => rfl) | cases h
  | bl b => cases k with
    | bool j => have e : b = j := eq_of_beq h; subst e; exact so_const L2.pe_bl (fun _ _ => rfl)
    | _ => cases h
  | int i => cases k with
    | int j => have e : i = j := of_decide_eq_true h; subst e; exact so_const L2.pe_int (fun _ _ => rfl)
    | _ => cases h
  | str s => cases k with
    | str j => have e : s = j := strB_is h; subst e; exact so_const L2.pe_str (fun _ _ => rfl)
    | _ => cases h
  | _ => cases h
theorem and3 {a b c : Bool} (h : (a && b && c) = true) : a = true ∧ b = true ∧ c = true := by cases a <;> cases b <;> cases c <;> first | exact ⟨rfl, rfl, rfl⟩ | cases h
theorem and4 {a b c d : Bool} (h : (a && b && c && d) = true) : a = true ∧ b = true ∧ c = true ∧ d = true := by cases a <;> cases b <;> cases c <;> cases d <;> first | exact ⟨rfl, rfl, rfl, rfl⟩ | cases h
theorem and2 {a b : Bool} (h : (a && b) = true) : a = true ∧ b = true := by cases a <;> cases b <;> first | exact ⟨rfl, rfl⟩ | cases h
def isDbg (s : Str) : Bool := s == ("__debug__" : Str)
/-- a call's facts, out of the check -/
theorem so_callC {n : Nat} {rc : Rc} {G : Gs} {N : List Str} {osc sc : Scope} {X : Cx} (c : Cz n rc G N osc sc X) (kr : KC rc) {f : Nat} {es ks : Es} {perm : List Nat} {s : Str} {as : List Expr} {kws : List Keyword} {p q : Pos}
    (h1 : shapeB G f perm s as kws = true) (h2 : glB sc s = true) (h3 : dbgB s = true) (h4 : as.all noStar = true) (h5 : okEs G N es sc as = true) (h6 : okKs G N ks sc kws = true)
    (pa : PA X as (tL X.K (evEs rc es).1)) (pk : L2.PK X kws (tL X.K (evEs rc ks).1)) : PE X (.Call (.Name s p) as kws q) (tE X.K (evE rc (.call f es ks perm)).v) := by
  unfold shapeB at h1
  split at h1
  · rename_i d hd
    obtain ⟨e1, h1⟩ := and2 h1
    have es1 := strB_is e1
    obtain ⟨qq, hq, h1⟩ := List.any_eq_true.mp h1
    obtain ⟨h1, b5⟩ := and2 h1
    obtain ⟨b1, b2, b3, b4⟩ := and4 h1
    have c1 : qq.1 = as.length := eq_of_beq b1
    have c2 : kws.map (·.arg) = qq.2.1.map some := of_decide_eq_true b2
    have c3 : qq.2.2 = perm := of_decide_eq_true b3
    have c4 : perm.length = d.np := eq_of_beq b4
    obtain ⟨fa, fd, ps, hm, hk, F, hB⟩ := c.fns f d hd
    have hb := hB qq hq
    rw [c1, c3] at hb
    rw [es1] at hm
    have hkl : kws.length = qq.2.1.length := by
      have := congrArg List.length c2
      simpa using this
    exact so_call kr F c.room (c.gl h2) hm hk hb c4 (fun i hi => of_decide_eq_true (List.all_eq_true.mp b5 i hi)) h4 (decide_eq_true c2) (dbg h3).1 (fun e => by subst e; rw [nil_of (rc := rc) h5]; rfl)
      (kvEs kr es).1 (kvEs kr ks).1 (llEs h5) (by rw [← hkl]; exact llKs h6) pa pk
  · cases h1
theorem so_testsC {n : Nat} {rc : Rc} {G : Gs} {N : List Str} {sc : Scope} {X : Cx} {cs : List Expr} {ifs : Es} (h : cs.length ≤ 1) (hk : okEs G N ifs sc cs = true)
    (ih : ∀ a es, ifs = .cons a es → ∀ y, okE G N a sc y = true → PT X y (tT X.K (evE rc a).t)) : L2.PTs X cs (tT X.K (evEs rc ifs).2) := by
  cases cs with
  | nil => rw [nil_of (rc := rc) hk]; exact so_tYes
  | cons y ys =>
    cases ys with
    | cons _ _ => exact absurd h (by simp)
    | nil =>
      cases ifs with
      | nil => unfold okEs at hk; cases hk
      | cons a es =>
        unfold okEs at hk
        obtain ⟨_, h2, h3⟩ := and3 hk
        have := nil_of (rc := rc) h3
        subst this
        exact so_tOne (ih a _ rfl y h2)
mutual
theorem soE {n : Nat} {rc : Rc} {G : Gs} {N : List Str} (kr : KC rc) : ∀ (e : E) {osc sc : Scope} {X : Cx} {x : Expr}, Cz n rc G N osc sc X → okE G N e sc x = true → PE X x (tE X.K (evE rc e).v) ∧ PT X x (tT X.K (evE rc e).t)
  | .var i, osc, sc, X, x, c, h => by
    unfold okE at h
    split at h
    · rename_i s e
      obtain ⟨p, rfl⟩ := dName_is e
      obtain ⟨h1, h2, h3⟩ := and3 h
      have r := so_var (pos := p) (c.slot h1) (c.vis h2) (dbg h3).1 (dbg h3).2
      exact ⟨r, so_sT rfl r⟩
    · cases h
  | .cn k, osc, sc, X, x, c, h => by
    unfold okE at h
    split at h
    · rename_i s e
      obtain ⟨q, p, rfl⟩ := dConst_is e
      have r := cn_ok (X := X) (q := q) (p := p) h
      exact ⟨r, so_sT rfl r⟩
    · cases h
  | .neg a, osc, sc, X, x, c, h => by
    unfold okE at h
    split at h
    · rename_i s e
      obtain ⟨p, rfl⟩ := dNeg_is e
      have r := so_neg (pos := p) (soE kr a c h).1
      exact ⟨r, so_sT rfl r⟩
    · cases h
  | .not a, osc, sc, X, x, c, h => by
    unfold okE at h
    split at h
    · rename_i s e
      obtain ⟨p, rfl⟩ := dNot_is e
      have r := soE kr a c h
      exact ⟨so_not r.1, so_tNot r.2⟩
    · cases h
  | .bin o a b, osc, sc, X, x, c, h => by
    unfold okE at h
    split at h
    · rename_i y op z e
      obtain ⟨p, rfl⟩ := dBin_is e
      obtain ⟨h1, h2, h3⟩ := and3 h
      rw [opB_is h1]
      have r := so_bin (pos := p) o (kvE kr a).1 (soE kr a c h2).1 (soE kr b c h3).1
      exact ⟨r, so_sT rfl r⟩
    · cases h
  | .cmp o a b, osc, sc, X, x, c, h => by
    unfold okE at h
    split at h
    · rename_i y op z e
      obtain ⟨p, rfl⟩ := dCmp_is e
      obtain ⟨h1, h2, h3, h4⟩ := and4 h
      have e1 := opB_is (o := .add) (op := .Add) rfl
      rw [coB_is h1] at h4 ⊢
      have hm : behindInMarks (coOf o) z = false := by simpa using h4
      have hu : X.A.units + 65 < cLine := by have := c.room.un; omega
      exact ⟨so_cmp hu o (kvE kr a).1 (soE kr a c h2).1 (soE kr b c h3).1 hm, so_cmpT hu o (kvE kr a).1 (soE kr a c h2).1 (soE kr b c h3).1 hm⟩
    · cases h
  | .and a b, osc, sc, X, x, c, h => by
    unfold okE at h
    split at h
    · rename_i y z p e
      rw [dAnd_is e]
      obtain ⟨h1, h2⟩ := and2 h
      have r := soE kr a c h1
      have r2 := soE kr b c h2
      exact ⟨so_and (kvE kr a).1 r.1 (L2.pe_one r2.1), (so_tAnd (kvE kr a).2 r.2 (L2.pw_and1 r2.2)).pt⟩
    · rename_i y z w r p e
      rw [dAnd_is e]
      obtain ⟨h1, h2⟩ := and2 h
      have r := soE kr a c h1
      have r2 := soE kr b c h2
      exact ⟨so_and (kvE kr a).1 r.1 r2.1, (so_tAnd (kvE kr a).2 r.2 (Pv.PT.pw r2.2)).pt⟩
    · cases h
  | .or a b, osc, sc, X, x, c, h => by
    unfold okE at h
    split at h
    · rename_i y z p e
      rw [dOr_is e]
      obtain ⟨h1, h2⟩ := and2 h
      have r := soE kr a c h1
      have r2 := soE kr b c h2
      exact ⟨so_or (kvE kr a).1 r.1 (L2.pe_one r2.1), (so_tOr (kvE kr a).2 r.2 (L2.pw_or1 r2.2)).pt⟩
    · rename_i y z w r p e
      rw [dOr_is e]
      obtain ⟨h1, h2⟩ := and2 h
      have r := soE kr a c h1
      have r2 := soE kr b c h2
      exact ⟨so_or (kvE kr a).1 r.1 r2.1, (so_tOr (kvE kr a).2 r.2 (Pv.PT.pw r2.2)).pt⟩
    · cases h
  | .ite t a b, osc, sc, X, x, c, h => by
    unfold okE at h
    split at h
    · rename_i u y z e
      obtain ⟨p, rfl⟩ := dIf_is e
      obtain ⟨h1, h2, h3⟩ := and3 h
      exact ⟨so_ite (kvE kr t).2 (soE kr t c h1).2 (soE kr a c h2).1 (soE kr b c h3).1, so_badT⟩
    · cases h
  | .tup es, osc, sc, X, x, c, h => by
    unfold okE at h
    split at h
    · rename_i xs e
      obtain ⟨k, p, rfl⟩ := dTup_is e
      have r := so_tup (x1 := k) (pos := p) (soEs kr es c h)
      exact ⟨r, so_sT rfl r⟩
    · cases h
  | .lst es, osc, sc, X, x, c, h => by
    unfold okE at h
    split at h
    · rename_i xs e
      obtain ⟨p, rfl⟩ := dLst_is e
      have r := so_lst (pos := p) (soEs kr es c h)
      exact ⟨r, so_sT rfl r⟩
    · cases h
  | .idx a b, osc, sc, X, x, c, h => by
    unfold okE at h
    split at h
    · rename_i y z e
      obtain ⟨p, rfl⟩ := dSub_is e
      obtain ⟨h1, h2, h3⟩ := and3 h
      have r := so_idx (pos := p) h1 (kvE kr a).1 (soE kr a c h2).1 (soE kr b c h3).1
      exact ⟨r, so_sT rfl r⟩
    · cases h
  | .sl a lo hi, osc, sc, X, x, c, h => by
    unfold okE at h
    split at h
    · rename_i y z e
      obtain ⟨p, rfl⟩ := dSub_is e
      split at h
      · rename_i l u e2
        obtain ⟨p2, rfl⟩ := dSlc_is e2
        obtain ⟨h1, h2, h3⟩ := and3 h
        have r := so_sl (pos := p) (p2 := p2) (kvE kr a).1 (kvO kr lo) (kvO kr hi) (soE kr a c h1).1 (soO kr lo c h2) (soO kr hi c h3)
        exact ⟨r, so_sT rfl r⟩
      · cases h
    · cases h
  | .rev a, osc, sc, X, x, c, h => by
    unfold okE at h
    split at h
    · rename_i y z e
      obtain ⟨p, rfl⟩ := dSub_is e
      obtain ⟨h1, h2⟩ := and2 h
      obtain ⟨k, p1, p2, p3, rfl⟩ := dRev_is h1
      have r := so_rev (pos := p) (k := k) (p1 := p1) (p2 := p2) (p3 := p3) (soE kr a c h2).1
      exact ⟨r, so_sT rfl r⟩
    · cases h
  | .call f es ks perm, osc, sc, X, x, c, h => by
    unfold okE at h
    split at h
    · rename_i s as kws e
      obtain ⟨p, q, rfl⟩ := dCall_is e
      obtain ⟨h, h6⟩ := and2 h
      obtain ⟨h, h5⟩ := and2 h
      obtain ⟨h1, h2, h3, h4⟩ := and4 h
      have r := so_callC (p := p) (q := q) c kr h1 h2 h3 h4 h5 h6 (soEs kr es c h5) (soKs kr ks c h6)
      exact ⟨r, so_sT rfl r⟩
    · cases h
  | .f1 o a, osc, sc, X, x, c, h => by
    unfold okE at h
    split at h
    · rename_i s y e
      obtain ⟨p, q, rfl⟩ := dC1_is e
      obtain ⟨h1, h2, h3, h4⟩ := and4 h
      rw [strB_is h1] at h2 ⊢
      have r := so_f1 (pos := q) (p := p) o c.calm h3 (c.fr h2).1 (c.fr h2).2 (soE kr a c h4).1
      exact ⟨r, so_sT rfl r⟩
    · cases h
  | .f2 o a b, osc, sc, X, x, c, h => by
    unfold okE at h
    split at h
    · rename_i s y z e
      obtain ⟨p, q, rfl⟩ := dC2_is e
      obtain ⟨h, h6⟩ := and2 h
      obtain ⟨h, h5⟩ := and2 h
      obtain ⟨h1, h2, h3, h4⟩ := and4 h
      rw [strB_is h1] at h2 ⊢
      have r := so_f2 (pos := q) (p := p) o c.calm h3 h4 (c.fr h2).1 (c.fr h2).2 (kvE kr a).1 (soE kr a c h5).1 (soE kr b c h6).1
      exact ⟨r, so_sT rfl r⟩
    · cases h
  | .isi a t, osc, sc, X, x, c, h => by
    unfold okE at h
    split at h
    · rename_i s y z e
      obtain ⟨p, q, rfl⟩ := dC2_is e
      split at h
      · rename_i w e2
        obtain ⟨p2, rfl⟩ := dName_is e2
        obtain ⟨h, h6⟩ := and2 h
        obtain ⟨h, h5⟩ := and2 h
        obtain ⟨h1, h2, h3, h4⟩ := and4 h
        rw [strB_is h1] at h2 ⊢
        rw [strB_is h3] at h4 ⊢
        have r := so_isi (pos := q) (p := p) (p2 := p2) t h5 (c.fr h2).1 (c.fr h2).2 (c.fr h4).1 (c.fr h4).2 (kvE kr a).1 (soE kr a c h6).1
        exact ⟨r, so_sT rfl r⟩
      · cases h
    · cases h
  | .mkr t lo hi, osc, sc, X, x, c, h => by
    unfold okE at h
    split at h
    · rename_i s w e
      obtain ⟨p, q, rfl⟩ := dC1_is e
      obtain ⟨h1, h2, h3, h4⟩ := and4 h
      have ht : t = .list ∨ t = .tuple := by
        rcases Bool.or_eq_true_iff.mp h1 with h | h
        · exact .inl (by cases t <;> first | rfl | cases h)
        · exact .inr (by cases t <;> first | rfl | cases h)
      rw [strB_is h2] at h3 ⊢
      cases lo with
      | none =>
        dsimp only at h4
        split at h4
        · rename_i r y e2
          obtain ⟨p2, q2, rfl⟩ := dC1_is e2
          obtain ⟨k1, k2, k3, k4⟩ := and4 h4
          rw [strB_is k1] at k2 ⊢
          obtain ⟨tt, g1, g2⟩ := so_ends1 (pos := q2) (p := p2) k3 (c.fr k2).1 (c.fr k2).2 (soE kr hi c k4).1
          have r := so_mkr (pos := q) (p := p) t c.calm rfl (c.fr h3).1 (c.fr h3).2 g1 g2 ht
          exact ⟨r, so_sT rfl r⟩
        · cases h4
      | some lo =>
        dsimp only at h4
        split at h4
        · rename_i r y z e2
          obtain ⟨p2, q2, rfl⟩ := dC2_is e2
          obtain ⟨h4, k6⟩ := and2 h4
          obtain ⟨h4, k5⟩ := and2 h4
          obtain ⟨k1, k2, k3, k4⟩ := and4 h4
          rw [strB_is k1] at k2 ⊢
          obtain ⟨tt, g1, g2⟩ := so_ends2 (pos := q2) (p := p2) k3 k4 (c.fr k2).1 (c.fr k2).2 (kvE kr lo).1 (soE kr lo c k5).1 (soE kr hi c k6).1
          have r := so_mkr (pos := q) (p := p) t c.calm rfl (c.fr h3).1 (c.fr h3).2 g1 g2 ht
          exact ⟨r, so_sT rfl r⟩
        · cases h4
    · cases h
  | .m0 m o, osc, sc, X, x, c, h => by
    unfold okE at h
    split at h
    · rename_i y nm e
      obtain ⟨ap, cp, hl, rfl⟩ := dM0_is e
      obtain ⟨h1, h2, h3⟩ := and3 h
      rw [strB_is h1]
      have r := so_m0 (X := X) (apos := ap) (cpos := cp) m h2 hl (soE kr o c h3).1
      exact ⟨r, so_sT rfl r⟩
    · cases h
  | .m1 m o a, osc, sc, X, x, c, h => by
    unfold okE at h
    split at h
    · rename_i y nm z e
      obtain ⟨ap, cp, hl, rfl⟩ := dM1_is e
      obtain ⟨h, h6⟩ := and2 h
      obtain ⟨h, h5⟩ := and2 h
      obtain ⟨h1, h2, h3, h4⟩ := and4 h
      have hm : m = .append ∨ m = .pop ∨ m = .index := by
        rcases Bool.or_eq_true_iff.mp h1 with h | h
        · rcases Bool.or_eq_true_iff.mp h with h | h
          · exact .inl (by cases m <;> first | rfl | cases h)
          · exact .inr (.inl (by cases m <;> first | rfl | cases h))
        · exact .inr (.inr (by cases m <;> first | rfl | cases h))
      rw [strB_is h2]
      have r := so_m1 (X := X) (apos := ap) (cpos := cp) (show X.A.units + 65 < cLine by have := c.room.un; omega) m hm h3 h4 hl (kvE kr o).1 (soE kr o c h5).1 (soE kr a c h6).1
      exact ⟨r, so_sT rfl r⟩
    · cases h
  | .comp elt tg it ifs vs, osc, sc, X, w, c, h => by
    unfold okE at h
    split at h
    · rename_i ex tgt iter cs scope e
      obtain ⟨p, rfl⟩ := dComp_is e
      obtain ⟨h, h9⟩ := and2 h
      obtain ⟨h, h8⟩ := and2 h
      obtain ⟨h, h7⟩ := and2 h
      obtain ⟨h, h6⟩ := and2 h
      obtain ⟨h, h5⟩ := and2 h
      obtain ⟨h1, h2, h3, h4⟩ := and4 h
      have hk : scope.kind = .function := by
        unfold fnB at h1
        split at h1
        · assumption
        · cases h1
      have ow : (ownOf N vs).map (·.2) = vs := by unfold ownOf; rw [List.map_map]; exact List.map_id' vs
      have bl : L2.BlkOk X.N X.env.scope scope (ownOf N vs) := by rw [c.hN, c.hsc]; exact L2.blkOk_by h2
      have r := so_compE (pos := p) c.calm (c.hN ▸ c.nd) bl (ts := slots tg) (fun i hi => by rw [ow]; have := List.all_eq_true.mp h3 i hi; simpa using this) (soIt kr it c h5)
        (fun s H C cl fp => soTg kr tg (c.blk s H scope C cl fp hk) h6) (fun s H C cl fp => so_testsC (n := n) (of_decide_eq_true h8) h9 (fun a es e y hy => soE1 kr ifs (c.blk s H scope C cl fp hk) a es e y hy)) (fun s H C cl fp => (soE kr elt (c.blk s H scope C cl fp hk) h7).1)
        (foldSet h4 X.env) (kvE kr elt).1 (kvTg kr tg) (kvIt kr it) (kvEs kr ifs).2
      rw [ow] at r
      exact ⟨r, so_sT rfl r⟩
    · cases h
  | .m2 m o a b, osc, sc, X, x, c, h => by
    unfold okE at h
    split at h
    · rename_i y nm z w e
      obtain ⟨ap, cp, hl, rfl⟩ := dM2_is e
      obtain ⟨h1, h2, h3, h4⟩ := and4 h
      obtain ⟨h1, g4⟩ := and2 h1
      obtain ⟨g0, g1, g2, g3⟩ := and4 h1
      have hm : m = .insert := by cases m <;> first | rfl | cases g0
      subst hm
      rw [strB_is g1]
      have r := so_m2 (X := X) (apos := ap) (cpos := cp) g2 g3 g4 hl (kvE kr o).1 (kvE kr a).1 (soE kr o c h2).1 (soE kr a c h3).1 (soE kr b c h4).1
      exact ⟨r, so_sT rfl r⟩
    · cases h
  | .chn o p a b d, osc, sc, X, x, c, h => by
    unfold okE at h
    split at h
    · rename_i y op z oq w e
      obtain ⟨q, rfl⟩ := dChn_is e
      obtain ⟨h1, h2, h3, h4⟩ := and4 h
      obtain ⟨g1, g2, g3⟩ := and3 h1
      rw [coB_is g1, coB_is g2] at g3 ⊢
      have hm : lastMarks [coOf o, coOf p] [z, w] = false := by simpa using g3
      exact ⟨so_chn (show X.A.units + 65 < cLine by have := c.room.un; omega) o p (kvE kr a).1 (kvE kr b).1 (soE kr a c h2).1 (soE kr b c h3).1 (soE kr d c h4).1 hm, so_chnT (show X.A.units + 65 < cLine by have := c.room.un; omega) o p (kvE kr a).1 (kvE kr b).1 (soE kr a c h2).1 (soE kr b c h3).1 (soE kr d c h4).1 hm⟩
    · cases h
  | .dcmp k x tg it ifs vs, osc, sc, X, w, c, h => by
    unfold okE at h
    split at h
    · rename_i kx vx tgt iter cs scope e
      obtain ⟨p, rfl⟩ := dDcm_is e
      obtain ⟨h, h9⟩ := and2 h
      obtain ⟨h, h8⟩ := and2 h
      obtain ⟨h, h7⟩ := and2 h
      obtain ⟨h, h6⟩ := and2 h
      obtain ⟨h, h5⟩ := and2 h
      obtain ⟨h1, h2, h3, h4⟩ := and4 h
      obtain ⟨h7, h10⟩ := and2 h7
      have hk : scope.kind = .function := by
        unfold fnB at h1
        split at h1
        · assumption
        · cases h1
      have ow : (ownOf N vs).map (·.2) = vs := by unfold ownOf; rw [List.map_map]; exact List.map_id' vs
      have bl : L2.BlkOk X.N X.env.scope scope (ownOf N vs) := by rw [c.hN, c.hsc]; exact L2.blkOk_by h2
      have r := so_dcE (pos := p) c.calm (c.hN ▸ c.nd) bl (ts := slots tg) (fun i hi => by rw [ow]; have := List.all_eq_true.mp h3 i hi; simpa using this) (soIt kr it c h5)
        (fun s H C cl fp => soTg kr tg (c.blk s H scope C cl fp hk) h6) (fun s H C cl fp => so_testsC (n := n) (of_decide_eq_true h8) h9 (fun a es e y hy => soE1 kr ifs (c.blk s H scope C cl fp hk) a es e y hy)) (fun s H C cl fp => (soE kr k (c.blk s H scope C cl fp hk) h7).1) (fun s H C cl fp => (soE kr x (c.blk s H scope C cl fp hk) h10).1)
        (foldSet h4 X.env) (kvE kr k).1 (kvE kr x).1 (kvTg kr tg) (kvIt kr it) (kvEs kr ifs).2
      rw [ow] at r
      exact ⟨r, so_sT rfl r⟩
    · cases h
  | .dnew t, osc, sc, X, x, c, h => by
    unfold okE at h
    obtain ⟨h1, h2⟩ := and2 h
    obtain ⟨p, rfl⟩ := dDict_is h2
    have e : t = false := by cases t <;> first | rfl | cases h1
    subst e
    have r := so_dnew (X := X) (pos := p)
    exact ⟨r, so_sT rfl r⟩
  | .dget a b, osc, sc, X, x, c, h => by
    unfold okE at h
    split at h
    · rename_i y z e
      obtain ⟨p, rfl⟩ := dSub_is e
      obtain ⟨h1, h2, h3⟩ := and3 h
      have hu : X.A.units + 1 < cLine := by have := c.room.un; omega
      have r := so_dget (pos := p) hu h1 (kvE kr a).1 (soE kr a c h2).1 (soE kr b c h3).1
      exact ⟨r, so_sT rfl r⟩
    · cases h
  | .din neg a b, osc, sc, X, x, c, h => by
    unfold okE at h
    split at h
    · rename_i y op z e
      obtain ⟨p, rfl⟩ := dCmp_is e
      obtain ⟨h1, h2, h3, h4⟩ := and4 h
      have hop : op = if neg then .NotIn else .In := by
        have := coB_is h1
        cases neg <;> exact this
      subst hop
      have hm : behindInMarks (if neg then .NotIn else .In) z = false := by simpa using h4
      have hu : X.A.units + 1 < cLine := by have := c.room.un; omega
      exact ⟨so_din hu neg (kvE kr a).1 (soE kr a c h2).1 (soE kr b c h3).1 hm, so_dinT hu neg (kvE kr a).1 (soE kr a c h2).1 (soE kr b c h3).1 hm⟩
    · cases h
  | .dlen a, osc, sc, X, x, c, h => by
    unfold okE at h
    split at h
    · rename_i s y e
      obtain ⟨p, q, rfl⟩ := dC1_is e
      obtain ⟨h1, h2, h3, h4⟩ := and4 h
      rw [strB_is h1] at h2 ⊢
      have r := so_dlen (pos := q) (p := p) h3 (c.fr h2).1 (c.fr h2).2 (soE kr a c h4).1
      exact ⟨r, so_sT rfl r⟩
    · cases h
  | .dgt o a b, osc, sc, X, x, c, h => by
    unfold okE at h
    split at h
    · rename_i y nm z w e
      obtain ⟨ap, cp, hl, rfl⟩ := dM2_is e
      obtain ⟨h1, h2, h3, h4⟩ := and4 h
      obtain ⟨g1, g2, g3, g4⟩ := and4 h1
      rw [strB_is g1]
      have hu : X.A.units + 1 < cLine := by have := c.room.un; omega
      have r := so_dgt (X := X) (apos := ap) (cpos := cp) hu g2 g3 g4 hl (kvE kr o).1 (kvE kr a).1 (soE kr o c h2).1 (soE kr a c h3).1 (soE kr b c h4).1
      exact ⟨r, so_sT rfl r⟩
    · cases h
theorem soE1 {n : Nat} {rc : Rc} {G : Gs} {N : List Str} (kr : KC rc) : ∀ (ifs : Es) {osc sc : Scope} {X : Cx}, Cz n rc G N osc sc X → ∀ a es, ifs = .cons a es → ∀ y, okE G N a sc y = true → PT X y (tT X.K (evE rc a).t)
  | .nil, _, _, _, _, _, _, e, _, _ => by cases e
  | .cons a es, _, _, _, c, _, _, e, y, hy => by cases e; exact (soE kr a c hy).2
theorem soEs {n : Nat} {rc : Rc} {G : Gs} {N : List Str} (kr : KC rc) : ∀ (es : Es) {osc sc : Scope} {X : Cx} {xs : List Expr}, Cz n rc G N osc sc X → okEs G N es sc xs = true → PA X xs (tL X.K (evEs rc es).1)
  | .nil, _, _, _, [], c, _ => so_lNil
  | .nil, _, _, _, _ :: _, c, h => by unfold okEs at h; cases h
  | .cons _ _, _, _, _, [], c, h => by unfold okEs at h; cases h
  | .cons e es, _, _, _, x :: xs, c, h => by
    unfold okEs at h
    obtain ⟨h1, h2, h3⟩ := and3 h
    exact so_lCons h1 (kvE kr e).1 (soE kr e c h2).1 (soEs kr es c h3)
theorem soKs {n : Nat} {rc : Rc} {G : Gs} {N : List Str} (kr : KC rc) : ∀ (es : Es) {osc sc : Scope} {X : Cx} {xs : List Keyword}, Cz n rc G N osc sc X → okKs G N es sc xs = true → L2.PK X xs (tL X.K (evEs rc es).1)
  | .nil, _, _, _, [], c, _ => so_kNil
  | .nil, _, _, _, _ :: _, c, h => by unfold okKs at h; cases h
  | .cons _ _, _, _, _, [], c, h => by unfold okKs at h; cases h
  | .cons e es, _, _, _, ⟨nm, x, kp⟩ :: xs, c, h => by
    unfold okKs at h
    obtain ⟨h1, h2⟩ := and2 h
    exact so_kCons (kvE kr e).1 (soE kr e c h1).1 (soKs kr es c h2)
theorem soO {n : Nat} {rc : Rc} {G : Gs} {N : List Str} (kr : KC rc) : ∀ (o : Oe) {osc sc : Scope} {X : Cx} {x : Option Expr}, Cz n rc G N osc sc X → okO G N o sc x = true → L2.PO X x (tO X.K (evO rc o))
  | .none, _, _, _, none, c, _ => so_oNone
  | .none, _, _, _, some _, c, h => by unfold okO at h; cases h
  | .some _, _, _, _, none, c, h => by unfold okO at h; cases h
  | .some e, _, _, _, some x, c, h => by
    unfold okO at h
    exact so_oSome (soE kr e c h).1
theorem soIt {n : Nat} {rc : Rc} {G : Gs} {N : List Str} (kr : KC rc) : ∀ (it : It) {osc sc : Scope} {X : Cx} {t x : Expr}, Cz n rc G N osc sc X → okIt G N it sc t x = true → PI X t x (tI X.K (evIt rc it))
  | .e a, _, _, _, _, _, c, h => by
    unfold okIt at h
    exact so_iE (soE kr a c h).1
  | .rng lo hi, _, _, X, t, x, c, h => by
    unfold okIt at h
    cases lo with
    | none =>
      dsimp only at h
      split at h
      · rename_i r y e
        obtain ⟨p, q, rfl⟩ := dC1_is e
        obtain ⟨k1, k2, k3, k4⟩ := and4 h
        rw [strB_is k1] at k2 ⊢
        exact so_iRng1 k3 (c.fr k2).1 (c.fr k2).2 (soE kr hi c k4).1
      · cases h
    | some lo =>
      dsimp only at h
      split at h
      · rename_i r y z e
        obtain ⟨p, q, rfl⟩ := dC2_is e
        obtain ⟨h, k6⟩ := and2 h
        obtain ⟨h, k5⟩ := and2 h
        obtain ⟨k1, k2, k3, k4⟩ := and4 h
        rw [strB_is k1] at k2 ⊢
        exact so_iRng2 k3 k4 (c.fr k2).1 (c.fr k2).2 (kvE kr lo).1 (soE kr lo c k5).1 (soE kr hi c k6).1
      · cases h
  | .rrg hi, _, _, X, t, x, c, h => by
    unfold okIt at h
    split at h
    · rename_i r y e
      obtain ⟨p, q, rfl⟩ := dC1_is e
      split at h
      · rename_i r2 z e2
        obtain ⟨p2, q2, rfl⟩ := dC1_is e2
        obtain ⟨h, k6⟩ := and2 h
        obtain ⟨h, k5⟩ := and2 h
        obtain ⟨k1, k2, k3, k4⟩ := and4 h
        rw [strB_is k1] at k2 ⊢
        rw [strB_is k3] at k4 ⊢
        exact so_iRrg k5 (c.fr k2).1 (c.fr k2).2 (c.fr k4).1 (c.fr k4).2 (soE kr hi c k6).1
      · cases h
    · cases h
  | .enum a, _, _, X, t, x, c, h => by
    unfold okIt at h
    obtain ⟨g, h⟩ := and2 h
    obtain ⟨ts, e0⟩ := Option.isSome_iff_exists.mp g
    obtain ⟨k0, p0, rfl⟩ := dTup_is e0
    split at h
    · rename_i r y e
      obtain ⟨p, q, rfl⟩ := dC1_is e
      obtain ⟨k1, k2, k3, k4⟩ := and4 h
      rw [strB_is k1] at k2 ⊢
      exact so_iEnum k3 (c.fr k2).1 (c.fr k2).2 (soE kr a c k4).1
    · cases h
  | .zip a b, _, _, X, t, x, c, h => by
    unfold okIt at h
    obtain ⟨g, h⟩ := and2 h
    obtain ⟨ts, e0⟩ := Option.isSome_iff_exists.mp g
    obtain ⟨k0, p0, rfl⟩ := dTup_is e0
    split at h
    · rename_i r y z e
      obtain ⟨p, q, rfl⟩ := dC2_is e
      obtain ⟨h, k6⟩ := and2 h
      obtain ⟨h, k5⟩ := and2 h
      obtain ⟨k1, k2, k3, k4⟩ := and4 h
      rw [strB_is k1] at k2 ⊢
      exact so_iZip k3 k4 (c.fr k2).1 (c.fr k2).2 (kvE kr a).1 (soE kr a c k5).1 (soE kr b c k6).1
    · cases h
  | .rev a, _, _, X, t, x, c, h => by
    unfold okIt at h
    split at h
    · rename_i r y e
      obtain ⟨p, q, rfl⟩ := dC1_is e
      obtain ⟨k1, k2, k3, k4⟩ := and4 h
      rw [strB_is k1] at k2 ⊢
      exact so_iRev k3 (c.fr k2).1 (c.fr k2).2 (soE kr a c k4).1
    · cases h
theorem soTg {n : Nat} {rc : Rc} {G : Gs} {N : List Str} (kr : KC rc) : ∀ (t : Tg) {osc sc : Scope} {X : Cx} {x : Expr}, Cz n rc G N osc sc X → okTg G N t osc sc x = true → PG X x (tg X.K (slots t) (evTg rc t))
  | .var i, _, _, X, x, c, h => by
    unfold okTg at h
    split at h
    · rename_i s e
      obtain ⟨p, rfl⟩ := dName_is e
      obtain ⟨h1, h2, h3⟩ := and3 h
      have l := c.loc h2 h3
      exact so_gVar (c.hN ▸ c.nd) (c.slot h1) l.1 l.2
    · cases h
  | .tup ts, _, _, X, x, c, h => by
    unfold okTg at h
    split at h
    · rename_i xs e
      obtain ⟨k, p, rfl⟩ := dTup_is e
      obtain ⟨h1, h2⟩ := and2 h
      exact so_gTup c.calm (glTs h2) h1 (soTgs kr ts c h2)
    · cases h
  | .sub o i, _, _, X, x, c, h => by
    unfold okTg at h
    split at h
    · rename_i y z e
      obtain ⟨p, rfl⟩ := dSub_is e
      obtain ⟨h1, h2, h3⟩ := and3 h
      exact so_gSub h1 (kvE kr o).1 (soE kr o c h2).1 (soE kr i c h3).1
    · cases h
theorem soTgs {n : Nat} {rc : Rc} {G : Gs} {N : List Str} (kr : KC rc) : ∀ (ts : Tgs) {osc sc : Scope} {X : Cx} {xs : List Expr}, Cz n rc G N osc sc X → okTgs G N ts osc sc xs = true → PGs X xs (tgs X.K (slotsL ts) (evTgs rc ts))
  | .nil, _, _, _, [], c, _ => so_gNil
  | .nil, _, _, _, _ :: _, c, h => by unfold okTgs at h; cases h
  | .cons _ _, _, _, _, [], c, h => by unfold okTgs at h; cases h
  | .cons t ts, _, _, _, x :: xs, c, h => by
    unfold okTgs at h
    obtain ⟨h1, h2, h3⟩ := and3 h
    exact so_gCons h1 (kvTg kr t) (soTg kr t c h2) (soTgs kr ts c h3)
end
end Pv
set_option linter.all false
set_option autoImplicit false
set_option maxRecDepth 100000
/-! The check, met: every statement, every def. -/
namespace Pv
open PySem PySem.Spec PyProof.Rows
open L2 (V Hp HO upd upd_same upd_ne VK XK TE TT TA TS TG TGs TI Cx PE PT PW PA PS PSs PG PGs PI Inv RelV SqL SqT OpR CallR Gl Ends Vals Room FnOk CX0 E0)
theorem asg_ok {X : Cx} {t x : Expr} (hk : X.env.scope.kind = .function) (h0 : asgB X.env.scope t x = true) : noComp x = true ∧ swappedStores [t] x X.env = pure none := by
  unfold asgB at h0
  rcases Bool.or_eq_true_iff.mp h0 with h | h
  · obtain ⟨h1, h2⟩ := and2 h
    exact ⟨h2, swap_plain h1⟩
  · clear h0
    cases e : dTup t with
    | none => rw [e] at h; cases h
    | some ts =>
      obtain ⟨k, p, rfl⟩ := dTup_is e
      cases e2 : dTup x with
      | some vs =>
        obtain ⟨k2, p2, rfl⟩ := dTup_is e2
        exact ⟨rfl, swap_is rfl hk (of_decide_eq_true h)⟩
      | none =>
        rw [e2] at h
        refine ⟨h, swap_val ?_⟩
        cases x <;> first | rfl | cases e2
theorem cell_ok {X : Cx} {t x : Expr} (h : compCell X.env.scope t x = true) : (∀ n, swapsWithSole [t] x n X.env = pure false) ∧ swappedStores [t] x X.env = pure none := by
  unfold compCell at h
  split at h
  · rename_i y p elt g scope cp
    unfold cellB at h
    split at h
    · rename_i hl
      refine ⟨fun n => ?_, rfl⟩
      have hko : X.env.kindOf y = some .cell := hl
      show (pure ((X.env.blockKind == .function && X.env.kindOf y == some .local && p.line == cp.line) && !(scope.names.any fun (m, k) => m == y && (k == .local || k == .cell))) : Sem Bool) = pure false
      rw [hko, show ((some NameKind.cell == some NameKind.local) = false) from rfl]
      simp
    · cases h
  · rename_i y p kx vx g scope cp
    unfold cellB at h
    split at h
    · rename_i hl
      refine ⟨fun n => ?_, rfl⟩
      have hko : X.env.kindOf y = some .cell := hl
      show (pure ((X.env.blockKind == .function && X.env.kindOf y == some .local && p.line == cp.line) && !(scope.names.any fun (m, k) => m == y && (k == .local || k == .cell))) : Sem Bool) = pure false
      rw [hko, show ((some NameKind.cell == some NameKind.local) = false) from rfl]
      simp
    · cases h
  · cases h
theorem lcl_is {sc : Scope} {x : Str} (h : lclB sc x = true) : sc.names.lookup x = some .local := by
  unfold lclB at h
  split at h
  · assumption
  · cases h
theorem comp_sw {env : PySem.Env} {y : Str} {py cp : Pos} {elt : Expr} {g : List Comprehension} {scope : Scope} {line : Nat} (hk : env.scope.kind = .function) (hl : env.scope.names.lookup y = some .local) (h1 : (py.line == cp.line) = true)
    (h2 : (!(scope.names.any fun (m, k) => m == y && (k == .local || k == .cell))) = true) : swapsWith (.ListComp elt g scope cp) (some (.Name y py)) line env = pure true := by
  have hb : env.blockKind = .function := by unfold Env.blockKind; rw [hk]; rfl
  have hko : env.kindOf y = some .local := hl
  show (pure ((env.blockKind == .function && env.kindOf y == some .local && py.line == cp.line) && !(scope.names.any fun (m, k) => m == y && (k == .local || k == .cell))) : Sem Bool) = pure true
  rw [hb, hko, h1, h2]
  rfl
theorem comp_parts {G : Gs} {N : List Str} {sc : Scope} {elt : E} {tg : Tg} {it : It} {ifs : Es} {vs : List Nat} {w : Expr} (h : okE G N (.comp elt tg it ifs vs) sc w = true) : ∃ ex tgt iter cs scope p, w = .ListComp ex [⟨tgt, iter, cs, 0⟩] scope p ∧
    scope.kind = .function ∧ L2.blkC N sc scope (ownOf N vs) = true ∧ (slots tg).all (fun i => vs.contains i) = true ∧ noSet iter = true ∧ okIt G N it sc tgt iter = true ∧ okTg G N tg scope (reSc scope sc) tgt = true ∧ okE G N elt (reSc scope sc) ex = true ∧ cs.length ≤ 1 ∧ okEs G N ifs (reSc scope sc) cs = true := by
  unfold okE at h
  split at h
  · rename_i ex tgt iter cs scope e
    obtain ⟨p, rfl⟩ := dComp_is e
    obtain ⟨h, h9⟩ := and2 h
    obtain ⟨h, h8⟩ := and2 h
    obtain ⟨h, h7⟩ := and2 h
    obtain ⟨h, h6⟩ := and2 h
    obtain ⟨h, h5⟩ := and2 h
    obtain ⟨h1, h2, h3, h4⟩ := and4 h
    have hk : scope.kind = .function := by
      unfold fnB at h1
      split at h1
      · assumption
      · cases h1
    exact ⟨_, _, _, _, _, p, rfl, hk, h2, h3, h4, h5, h6, h7, of_decide_eq_true h8, h9⟩
  · cases h
theorem cb_is {sc : Scope} {t x : Expr} (h : compB sc t x = true) : ∃ y py elt g scope cp, t = .Name y py ∧ x = .ListComp elt g scope cp ∧ lclB sc y = true ∧ (py.line == cp.line) = true ∧ (!(scope.names.any fun (m, k) => m == y && (k == .local || k == .cell))) = true := by
  unfold compB at h
  split at h
  · obtain ⟨h1, h2, h3⟩ := and3 h
    exact ⟨_, _, _, _, _, _, rfl, rfl, h1, h2, h3⟩
  · cases h
theorem soCA {n : Nat} {rc : Rc} {G : Gs} {N : List Str} (kr : KC rc) {sc : Scope} {X : Cx} (c : Cz n rc G N sc sc X) (t : Tg) (a : E) {tgt y : Expr} {pos : Pos} (h1 : okTg G N t sc sc tgt = true) (h3 : okE G N a sc y = true) (h : (isVarG t && compB sc tgt y) = true) :
    PS X (.Assign [tgt] y pos) (tF X.K (evS rc (.asg t a))) := by
  obtain ⟨hv, hc⟩ := and2 h
  obtain ⟨z, py, elt0, g0, scope0, cp, rfl, rfl, k1, k2, k3⟩ := cb_is hc
  cases t with
  | var i =>
    unfold okTg at h1
    dsimp only [dName] at h1
    obtain ⟨g1, g2, g3⟩ := and3 h1
    cases a with
    | comp elt tg it ifs vs =>
      obtain ⟨ex, tgt, iter, cs, scope, p, e, hk, f2, f3, f4, f5, f6, f7, f8, f9⟩ := comp_parts h3
      cases e
      have ow : (ownOf N vs).map (·.2) = vs := by unfold ownOf; rw [List.map_map]; exact List.map_id' vs
      have bl : L2.BlkOk X.N X.env.scope scope0 (ownOf N vs) := by rw [c.hN, c.hsc]; exact L2.blkOk_by f2
      have hl : X.env.scope.names.lookup z = some .local := by rw [c.hsc]; exact lcl_is k1
      have r := so_setComp (pos := pos) c.calm (c.hN ▸ c.nd) (c.slot g1) hl (comp_sw (elt := elt0) (by rw [c.hsc]; exact c.kd) hl k2 k3) bl (ts := slots tg) (fun i hi => by rw [ow]; have := List.all_eq_true.mp f3 i hi; simpa using this) (soIt kr it c f5)
        (fun s H C cl fp => soTg kr tg (c.blk s H scope0 C cl fp hk) f6) (fun s H C cl fp => so_testsC (n := n) f8 f9 (fun a es e y hy => soE1 kr ifs (c.blk s H scope0 C cl fp hk) a es e y hy)) (fun s H C cl fp => (soE kr elt (c.blk s H scope0 C cl fp hk) f7).1)
        (foldSet f4 X.env) (kvE kr elt).1 (kvTg kr tg) (kvIt kr it) (kvEs kr ifs).2
      rw [ow] at r
      exact r
    | _ => unfold okE at h3; first | cases h3 | (dsimp only [dName, dConst, dNeg, dNot, dBin, dCmp, dAnd, dOr, dIf, dTup, dLst, dSub, dCall, dC1, dC2, dM0, dM1, dM2, dChn, dDcm] at h3; cases h3) | (have h4 := (and2 h3).2; cases h4)
  | _ => cases hv
theorem dc_parts {G : Gs} {N : List Str} {sc : Scope} {k x : E} {tg : Tg} {it : It} {ifs : Es} {vs : List Nat} {w : Expr} (h : okE G N (.dcmp k x tg it ifs vs) sc w = true) : ∃ kx vx tgt iter cs scope p, w = .DictComp kx vx [⟨tgt, iter, cs, 0⟩] scope p ∧
    scope.kind = .function ∧ L2.blkC N sc scope (ownOf N vs) = true ∧ (slots tg).all (fun i => vs.contains i) = true ∧ noSet iter = true ∧ okIt G N it sc tgt iter = true ∧ okTg G N tg scope (reSc scope sc) tgt = true ∧ okE G N k (reSc scope sc) kx = true ∧ okE G N x (reSc scope sc) vx = true ∧ cs.length ≤ 1 ∧ okEs G N ifs (reSc scope sc) cs = true := by
  unfold okE at h
  split at h
  · rename_i kx vx tgt iter cs scope e
    obtain ⟨p, rfl⟩ := dDcm_is e
    obtain ⟨h, h9⟩ := and2 h
    obtain ⟨h, h8⟩ := and2 h
    obtain ⟨h, h7⟩ := and2 h
    obtain ⟨h, h6⟩ := and2 h
    obtain ⟨h, h5⟩ := and2 h
    obtain ⟨h1, h2, h3, h4⟩ := and4 h
    obtain ⟨h7, h10⟩ := and2 h7
    have hk : scope.kind = .function := by
      unfold fnB at h1
      split at h1
      · assumption
      · cases h1
    exact ⟨_, _, _, _, _, _, p, rfl, hk, h2, h3, h4, h5, h6, h7, h10, of_decide_eq_true h8, h9⟩
  · cases h
theorem dcb_is {sc : Scope} {t x : Expr} (h : dcB sc t x = true) : ∃ y py kx vx g scope cp, t = .Name y py ∧ x = .DictComp kx vx g scope cp ∧ lclB sc y = true ∧ (py.line == cp.line) = true ∧ (!(scope.names.any fun (m, k) => m == y && (k == .local || k == .cell))) = true := by
  unfold dcB at h
  split at h
  · obtain ⟨h1, h2, h3⟩ := and3 h
    exact ⟨_, _, _, _, _, _, _, rfl, rfl, h1, h2, h3⟩
  · cases h
theorem dc_sw {env : PySem.Env} {y : Str} {py cp : Pos} {kx vx : Expr} {g : List Comprehension} {scope : Scope} {line : Nat} (hk : env.scope.kind = .function) (hl : env.scope.names.lookup y = some .local) (h1 : (py.line == cp.line) = true)
    (h2 : (!(scope.names.any fun (m, k) => m == y && (k == .local || k == .cell))) = true) : swapsWith (.DictComp kx vx g scope cp) (some (.Name y py)) line env = pure true := by
  have hb : env.blockKind = .function := by unfold Env.blockKind; rw [hk]; rfl
  have hko : env.kindOf y = some .local := hl
  show (pure ((env.blockKind == .function && env.kindOf y == some .local && py.line == cp.line) && !(scope.names.any fun (m, k) => m == y && (k == .local || k == .cell))) : Sem Bool) = pure true
  rw [hb, hko, h1, h2]
  rfl
theorem soDA {n : Nat} {rc : Rc} {G : Gs} {N : List Str} (kr : KC rc) {sc : Scope} {X : Cx} (c : Cz n rc G N sc sc X) (t : Tg) (a : E) {tgt y : Expr} {pos : Pos} (h1 : okTg G N t sc sc tgt = true) (h3 : okE G N a sc y = true) (h : (isVarG t && dcB sc tgt y) = true) :
    PS X (.Assign [tgt] y pos) (tF X.K (evS rc (.asg t a))) := by
  obtain ⟨hv, hc⟩ := and2 h
  obtain ⟨z, py, kx0, vx0, g0, scope0, cp, rfl, rfl, k1, k2, k3⟩ := dcb_is hc
  cases t with
  | var i =>
    unfold okTg at h1
    dsimp only [dName] at h1
    obtain ⟨g1, g2, g3⟩ := and3 h1
    cases a with
    | dcmp k x tg it ifs vs =>
      obtain ⟨kx, vx, tgt, iter, cs, scope, p, e, hk, f2, f3, f4, f5, f6, f7, f10, f8, f9⟩ := dc_parts h3
      cases e
      have ow : (ownOf N vs).map (·.2) = vs := by unfold ownOf; rw [List.map_map]; exact List.map_id' vs
      have bl : L2.BlkOk X.N X.env.scope scope0 (ownOf N vs) := by rw [c.hN, c.hsc]; exact L2.blkOk_by f2
      have hl : X.env.scope.names.lookup z = some .local := by rw [c.hsc]; exact lcl_is k1
      have r := so_setDc (pos := pos) c.calm (c.hN ▸ c.nd) (c.slot g1) hl (dc_sw (kx := kx0) (vx := vx0) (by rw [c.hsc]; exact c.kd) hl k2 k3) bl (ts := slots tg) (fun i hi => by rw [ow]; have := List.all_eq_true.mp f3 i hi; simpa using this) (soIt kr it c f5)
        (fun s H C cl fp => soTg kr tg (c.blk s H scope0 C cl fp hk) f6) (fun s H C cl fp => so_testsC (n := n) f8 f9 (fun a es e y hy => soE1 kr ifs (c.blk s H scope0 C cl fp hk) a es e y hy)) (fun s H C cl fp => (soE kr k (c.blk s H scope0 C cl fp hk) f7).1) (fun s H C cl fp => (soE kr x (c.blk s H scope0 C cl fp hk) f10).1)
        (foldSet f4 X.env) (kvE kr k).1 (kvE kr x).1 (kvTg kr tg) (kvIt kr it) (kvEs kr ifs).2
      rw [ow] at r
      exact r
    | _ => unfold okE at h3; first | cases h3 | (dsimp only [dName, dConst, dNeg, dNot, dBin, dCmp, dAnd, dOr, dIf, dTup, dLst, dSub, dCall, dC1, dC2, dM0, dM1, dM2, dComp, dChn] at h3; cases h3) | (have h4 := (and2 h3).2; cases h4)
  | _ => cases hv
mutual
theorem soS {n : Nat} {rc : Rc} {G : Gs} {N : List Str} (kr : KC rc) {osc sc : Scope} {X : Cx} (c : Cz n rc G N osc sc X) (hp : PassesOwn (model X.prog X.w) X.A X.env X.xe) (hsc : osc = sc) : ∀ (s : Pv.St) {x : Stmt}, okS G N sc s x = true → PS X x (tF X.K (evS rc s))
  | .expr a, x, h => by
    unfold okS at h
    split at h
    · obtain ⟨h1, h2⟩ := and2 h
      exact so_expr h1 (soE kr a c h2).1
    · cases h
  | .asg t a, x, h => by
    unfold okS at h
    split at h
    · rename_i tgt y p
      obtain ⟨h1, h2, h3, h4⟩ := and4 h
      have c' : Cz n rc G N sc sc X := hsc ▸ c
      rcases Bool.or_eq_true_iff.mp h4 with h4 | hd
      rcases Bool.or_eq_true_iff.mp h4 with h | h
      · rcases Bool.or_eq_true_iff.mp h with h | h
        · have r := asg_ok (X := X) (t := tgt) (x := y) (by rw [c.hsc]; exact c.kd) (by rw [c.hsc]; exact h)
          exact so_asg h2 (kvE kr a).1 (soE kr a c h3).1 (soTg kr t c' h1) (fun n => noSwapS r.1 _ _ _) r.2
        · have r := cell_ok (X := X) (t := tgt) (x := y) (by rw [c.hsc]; exact h)
          exact so_asg h2 (kvE kr a).1 (soE kr a c h3).1 (soTg kr t c' h1) r.1 r.2
      · exact soCA kr c' t a h1 h3 h
      · exact soDA kr c' t a h1 h3 hd
    · cases h
  | .aug i o a, x, h => by
    unfold okS at h
    split at h
    · rename_i s px op y p
      obtain ⟨h, h5⟩ := and2 h
      obtain ⟨h1, h2, h3, h4⟩ := and4 h
      rw [opB_is h1]
      have c' : Cz n rc G N sc sc X := hsc ▸ c
      have l := c'.loc h4 (by
        unfold locB at h4
        unfold cellB lclB
        split at h4
        · rename_i e; rw [e]; rfl
        · rename_i e; rw [e]; rfl
        · cases h4)
      exact so_aug h2 (c.hN ▸ c.nd) (c.slot h3) l.1 l.2 (soE kr a c h5).1
    · cases h
  | .augs a b o e, x, h => by
    unfold okS at h
    split at h
    · rename_i y z px op w p
      obtain ⟨h, h6⟩ := and2 h
      obtain ⟨h, h5⟩ := and2 h
      obtain ⟨h1, h2, h3, h4⟩ := and4 h
      rw [opB_is h1]
      exact so_augs h2 h3 (kvE kr a).1 (kvE kr b).1 (kvE kr e).1 (soE kr a c h4).1 (soE kr b c h5).1 (soE kr e c h6).1
    · cases h
  | .swap ts es, x, h => by
    unfold okS at h
    split at h
    · rename_i t kt pt v kv pv p
      obtain ⟨h1, h2⟩ := and2 h
      unfold swapB at h1
      split at h1
      · rename_i i j x px y py a b
        obtain ⟨h1, h8⟩ := and2 h1
        obtain ⟨h1, h7⟩ := and2 h1
        obtain ⟨h1, h6⟩ := and2 h1
        obtain ⟨h3, h4, h5⟩ := and3 h1
        have hij : i ≠ j := by intro e; subst e; simp at h5
        exact so_swap2 c.calm (c.hN ▸ c.nd) (c.slot h3) (c.slot h4) hij (by rw [c.hsc]; exact lcl_is h6) (by rw [c.hsc]; exact lcl_is h7) (soEs kr es c h2) (swap_is c.hsc c.kd (of_decide_eq_true h8))
      · rename_i i j k x px y py z pz a b d
        obtain ⟨h1, g10⟩ := and2 h1
        obtain ⟨h1, g9⟩ := and2 h1
        obtain ⟨h1, g8⟩ := and2 h1
        obtain ⟨h1, g7⟩ := and2 h1
        obtain ⟨h1, g6⟩ := and2 h1
        obtain ⟨h1, g5⟩ := and2 h1
        obtain ⟨g1, g2, g3, g4⟩ := and4 h1
        exact so_swap3 c.calm (c.hN ▸ c.nd) (c.slot g1) (c.slot g2) (c.slot g3) (by intro e; subst e; simp at g4) (by intro e; subst e; simp at g5) (by intro e; subst e; simp at g6) (by rw [c.hsc]; exact lcl_is g7) (by rw [c.hsc]; exact lcl_is g8) (by rw [c.hsc]; exact lcl_is g9) (soEs kr es c h2) (swap_is c.hsc c.kd (of_decide_eq_true g10))
      · cases h1
    · cases h
  | .ite t a b, x, h => by
    unfold okS at h
    split at h
    · obtain ⟨h1, h2, h3⟩ := and3 h
      exact so_if (kvE kr t).2 (soE kr t c h1).2 (soSs kr c hp hsc a h2) (soSs kr c hp hsc b h3)
    · cases h
  | .for t it b, x, h => by
    unfold okS at h
    split at h
    · obtain ⟨h1, h2, h3, h4⟩ := and4 h
      have c' : Cz n rc G N sc sc X := hsc ▸ c
      exact so_for hp c.calm (kvTg kr t) (kvIt kr it) (kvSs kr b) (soIt kr it c h2) (soTg kr t c' h3) (soSs kr c hp hsc b h4) (foldSet h1 X.env)
    · cases h
  | .while t b, x, h => by
    unfold okS at h
    split at h
    · obtain ⟨h1, h2⟩ := and2 h
      exact so_while hp (kvE kr t).2 (kvSs kr b) (soE kr t c h1).2 (soSs kr c hp hsc b h2)
    · cases h
  | .ret a, x, h => by
    unfold okS at h
    split at h
    · exact so_ret (soE kr a c h).1
    · cases h
  | .retn, x, h => by
    unfold okS at h
    split at h
    · exact so_retn
    · cases h
  | .brk, x, h => by
    unfold okS at h
    split at h
    · exact so_brk
    · cases h
  | .cont, x, h => by
    unfold okS at h
    split at h
    · exact so_cont
    · cases h
  | .pass, x, h => by
    unfold okS at h
    split at h
    · exact so_pass
    · cases h
  | .dput a b e, x, h => by
    unfold okS at h
    split at h
    · rename_i y z px w p
      obtain ⟨h1, h2, h3, h4⟩ := and4 h
      have hu : X.A.units + 1 < cLine := by have := c.room.un; omega
      exact so_dput hu (kvE kr e).1 (kvE kr a).1 (soE kr a c h2).1 (soE kr b c h3).1 (soE kr e c h4).1 (noSwap h1 _ _ _)
    · cases h
theorem soSs {n : Nat} {rc : Rc} {G : Gs} {N : List Str} (kr : KC rc) {osc sc : Scope} {X : Cx} (c : Cz n rc G N osc sc X) (hp : PassesOwn (model X.prog X.w) X.A X.env X.xe) (hsc : osc = sc) : ∀ (s : Ss) {xs : List Stmt}, okSs G N sc s xs = true → PSs X xs (tF X.K (evSs rc s))
  | .nil, [], _ => so_nil
  | .nil, _ :: _, h => by unfold okSs at h; cases h
  | .cons _ _, [], h => by unfold okSs at h; cases h
  | .cons s r, x :: xs, h => by
    unfold okSs at h
    obtain ⟨h1, h2⟩ := and2 h
    exact so_seq (kvS kr s) (soS kr c hp hsc s h1) (soSs kr c hp hsc r h2)
end
end Pv
set_option linter.all false
set_option autoImplicit false
set_option maxRecDepth 100000
/-! Every def keeps what the evaluator tells; a law's end. -/
namespace Pv
open PySem PySem.Spec PyProof.Rows
open L2 (V Hp HO upd upd_same upd_ne VK XK TE TT TA TS TG TGs TI Cx PE PT PW PA PS PSs PG PGs PI Inv RelV SqL SqT OpR CallR Gl Ends Vals Room FnOk CX0 E0 FunD FnScope cxOf)
/-- a def as it is met -/
structure Fn where
  name : Str
  st : Stmt
  N : List Str
  np : Nat
  body : Ss
  shapes : List (Nat × List Str × List Nat)
def Fn.args (f : Fn) : Arguments := L2.defArgs f.st
def Fn.code (f : Fn) : List Stmt := L2.defBody f.st
def Fn.scope (f : Fn) : Scope := L2.defScope f.st
def Fn.ps (f : Fn) : List Str := f.N.take f.np
def tOf (L : List Fn) : Nat → Option Df := fun i => (L[i]?).map fun f => ⟨f.name, f.np, f.N.length, f.body⟩
def gOf (L : List Fn) (frees : List Str) : Gs := ⟨L.map fun f => ⟨f.name, f.np, f.shapes⟩, frees⟩
def Fn.scB (f : Fn) : Bool := (match f.scope.kind with
  | .function => true
  | _ => false) && !f.scope.isCoroutine && !f.scope.isGenerator && decide f.N.Nodup && decide (f.np ≤ f.N.length) && f.ps.all (fun x => decide (f.scope.names.lookup x = some .local) || decide (f.scope.names.lookup x = some .cell)) && f.scope.names.all fun y => y.2 != .free
def Fn.chk (G : Gs) (f : Fn) : Bool := f.scB && okSs G f.N f.scope f.body f.code
theorem Fn.sc_ok {f : Fn} (h : f.scB = true) : FnScope f.N f.ps f.scope := by
  unfold Fn.scB at h
  obtain ⟨h, h7⟩ := and2 h
  obtain ⟨h, h6⟩ := and2 h
  obtain ⟨h, h5⟩ := and2 h
  obtain ⟨h1, h2, h3, h4⟩ := and4 h
  have hl : f.ps.length = f.np := by unfold Fn.ps; rw [List.length_take]; exact Nat.min_eq_left (of_decide_eq_true h5)
  refine ⟨?_, by simpa using h2, by simpa using h3, of_decide_eq_true h4, by rw [hl]; rfl, fun x hx => ?_, fun y hy => ?_⟩
  · split at h1
    · assumption
    · cases h1
  · have := List.all_eq_true.mp h6 x hx
    simpa using this
  · have := List.all_eq_true.mp h7 y hy
    simpa using this
theorem Fn.ps_len {f : Fn} (h : f.scB = true) : f.ps.length = f.np := by
  unfold Fn.scB at h
  obtain ⟨h, h7⟩ := and2 h
  obtain ⟨h, h6⟩ := and2 h
  obtain ⟨h, h5⟩ := and2 h
  unfold Fn.ps; rw [List.length_take]; exact Nat.min_eq_left (of_decide_eq_true h5)
/-- how a call's shape binds -/
def ShapeOk (f : Fn) (s : Nat × List Str × List Nat) : Prop := ∀ (kV doc pm : Value) (an : Option Addr) (cdv ct : Value) (us ws : List Value), us.length = s.1 → ws.length = s.2.1.length →
  bindArgs (PySem.W.fnOf f.name f.name f.args f.code f.scope .none kV doc pm an cdv ct) ⟨us, s.2.1.zip ws⟩ = pure (f.ps.zip (arr s.2.2 (us ++ ws)))
abbrev FnP (K : PySem.W.Frag) (f : Fn) (fa : Addr) (fd : FuncData) : Prop := FunD K f.name f.name f.args f.code f.scope [] [] fa fd
theorem bd_of {K : PySem.W.Frag} {f : Fn} {fa : Addr} {fd : FuncData} (F : FnP K f fa fd) {s : Nat × List Str × List Nat} (h : ShapeOk f s) : Bd K fd f.ps s.1 s.2.1 s.2.2 := by
  obtain ⟨oc, od, dV, kV, doc, pm, an, cdv, ct, osl, rfl, lk, hcd, hD, hK⟩ := F.ex
  rcases hD with ⟨_, rfl⟩ | ⟨e, _⟩
  · exact fun s us ws _ h1 h2 => .of_eq (h kV doc pm an cdv ct us ws h1 h2)
  · exact absurd rfl e
/-- the table lies as said -/
structure Tab (P : Program) (K : PySem.W.Frag) (mg : Str → Option Value) (L : List Fn) (frees : List Str) : Prop where
  fns : ∀ (i : Nat) (f : Fn), L[i]? = some f → ∃ fa fd, mg f.name = some (.ref fa) ∧ FnP K f fa fd
  frees : ∀ x ∈ frees, mg x = none
theorem env0_start {K : PySem.W.Frag} {H : Hp} {m : List Addr} {N : List Str} {ds : List D} {vs : List V} (h : RDs K H m ds vs) : RE K H m (env0 N.length ds) (L2.start N vs) := by
  have hl := h.length
  refine ⟨by unfold env0 L2.start; simp [hl], fun i x hx => ?_⟩
  unfold env0 at hx
  by_cases hi : i < ds.length
  · rw [List.getElem?_append_left (by simpa using hi), List.getElem?_map] at hx
    obtain ⟨y, hy, e⟩ := Option.map_eq_some_iff.mp hx
    cases e
    obtain ⟨v, hv, r⟩ := h.get hy
    refine ⟨v, ?_, r⟩
    unfold L2.start
    rw [List.getElem?_append_left (by simpa [← hl] using hi), List.getElem?_map, hv]
    rfl
  · rw [List.getElem?_append_right (by simpa using Nat.le_of_not_lt hi), List.getElem?_replicate] at hx
    split at hx <;> cases hx
theorem gOf_get {L : List Fn} {frees : List Str} {i : Nat} {d : Fs} (h : (gOf L frees).fns[i]? = some d) : ∃ f, L[i]? = some f ∧ (⟨f.name, f.np, f.shapes⟩ : Fs) = d := by
  have h : (L.map fun f : Fn => (⟨f.name, f.np, f.shapes⟩ : Fs))[i]? = some d := h
  rw [List.getElem?_map] at h
  exact Option.map_eq_some_iff.mp h
theorem fn_step {P : Program} {w : World} {K : PySem.W.Frag} {mg : Str → Option Value} {base : Heap} {L : List Fn} {frees : List Str} (tb : Tab P K mg L frees) (ck : ∀ f ∈ L, f.chk (gOf L frees) = true) {n : Nat} (ih : Fns P w K mg base n (callN (tOf L) n) (gOf L frees))
    {i : Nat} {f : Fn} {fa : Addr} {fd : FuncData} (hf : L[i]? = some f) (F : FnP K f fa fd) : FnOk P w K mg base CX0 (n + 1) fa fd f.ps (spN K (callN (tOf L) (n + 1)) f.np i) := by
  have hmem := List.mem_of_getElem? hf
  obtain ⟨hsc, hok⟩ := and2 (ck f hmem)
  have sc := Fn.sc_ok hsc
  refine F.ok sc (fun vs H Q E h => by rw [Fn.ps_len hsc]; exact h.1) (fun cdv A outer s H vs Q E hr h => ?_)
  obtain ⟨_, m, S, ds, r, S', R, rd, hc, q⟩ := h
  unfold callN at hc
  have hT : tOf L i = some ⟨f.name, f.np, f.N.length, f.body⟩ := by unfold tOf; rw [hf]; rfl
  rw [hT] at hc
  dsimp only at hc
  split at hc
  · obtain ⟨⟨fl, e', S1⟩, h1, hc⟩ := bind_ok hc
    obtain ⟨v, h2, hc⟩ := bind_ok hc
    have e1 : leave S.length v S1 = (r, S') := by injection hc
    have kr := kcN (tOf L) n
    have kp := kvSs kr f.body S.length _ S fl e' S1 (Nat.le_refl _) h1
    have wf : WF m.length S1 := by rw [R.len]; exact kp.wf _ (Nat.le_refl _) R.wf
    have out : ∀ (v' : V) (H' : Hp) (m' : List Addr), Le H m H' m' → Rl K m' H' S1 → RV K H H' m' v v' → Q v' H' := fun v' H' m' z R' rv => by
      obtain ⟨m2, z2, R2, r2⟩ := leave_ok z R' wf rv
      rw [R.len, e1] at R2 r2
      exact q v' H' m2 z2 R2 r2
    have cz : Cz n (callN (tOf L) n) (gOf L frees) f.N f.scope f.scope (cxOf CX0 P w K mg base f.N f.name f.scope fa cdv A outer s H E).nox :=
      ⟨rfl, sc.nd, rfl, sc.kind, rfl, hr, fun _ _ => rfl, fun x hx => tb.frees x hx, ih⟩
    refine ⟨tF K (evSs (callN (tOf L) n) f.body), PSs.nox (soSs kr cz PassesOwn.never rfl f.body hok), S.length, m, env0 f.N.length ds, S, fl, e', S1, Nat.le_refl _, R, env0_start rd, h1, ?_⟩
    cases fl with
    | nx =>
      cases (show some (Vl.d .non) = some v from by cases h2; rfl)
      exact fun σ' H' m' z R' E' => out .non H' m' z R' rfl
    | rt u =>
      cases (show some u = some v from by cases h2; rfl)
      exact fun z H' m' le R' rv => out z H' m' le R' rv
    | br => cases h2
    | ct => cases h2
  · cases hc
theorem fns_ok {P : Program} {w : World} {K : PySem.W.Frag} {mg : Str → Option Value} {base : Heap} {L : List Fn} {frees : List Str} (tb : Tab P K mg L frees) (ck : ∀ f ∈ L, f.chk (gOf L frees) = true) (sh : ∀ f ∈ L, ∀ s ∈ f.shapes, ShapeOk f s) : ∀ n, Fns P w K mg base n (callN (tOf L) n) (gOf L frees) := by
  intro n
  induction n with
  | zero =>
    intro i d hd
    obtain ⟨f, hf, e⟩ := gOf_get hd
    subst e
    obtain ⟨fa, fd, hm, F⟩ := tb.fns i f hf
    have hmem := List.mem_of_getElem? hf
    have hsc := (and2 (ck f hmem)).1
    exact ⟨fa, fd, f.ps, hm, F.kp, ⟨fun vs H Q E h => by rw [Fn.ps_len hsc]; exact h.1, fun A outer s H args us vs Q E _ _ _ _ h => by
      obtain ⟨_, m, S, ds, r, S', _, _, h, _⟩ := h
      cases h⟩, fun s hs => bd_of F (sh f hmem s hs)⟩
  | succ n ih =>
    intro i d hd
    obtain ⟨f, hf, e⟩ := gOf_get hd
    subst e
    obtain ⟨fa, fd, hm, F⟩ := tb.fns i f hf
    exact ⟨fa, fd, f.ps, hm, F.kp, fn_step tb ck ih hf F, fun s hs => bd_of F (sh f (List.mem_of_getElem? hf) s hs)⟩
end Pv
set_option linter.all false
set_option autoImplicit false
set_option maxRecDepth 100000
/-! A law's end: what the evaluator tells is what the law tells. -/
namespace Pv
open PySem PySem.Spec PyProof.Rows
open L2 (V Hp HO VK XK Cx RelV SqL Room FnOk CX0 E0 FunD FnScope)
def Fn.dd (f : Fn) : He.DefD := ⟨(f.name, none), f.name, f.name, f.args, f.code, f.scope, [], []⟩
def faOf (L : List Fn) (frees : List Str) : List He.Fa := L.map (fun f => .glo f.name) ++ frees.map .free
def fnO (L : List Fn) : List He.DefD := L.map Fn.dd
theorem tab_of {P : Program} {K : PySem.W.Frag} {h : Heap} {mg : Str → Option Value} {L : List Fn} {frees : List Str} (X : K.In h) (G : h.Ns mainGlobals mg) (c : He.SaysD (faOf L frees) (fnO L) K) : Tab P K mg L frees := by
  refine ⟨fun i f hf => ?_, fun x hx => ?_⟩
  · have h1 : (faOf L frees)[i]? = some (.glo f.name) := by
      unfold faOf
      rw [List.getElem?_append_left (by have := (List.getElem?_eq_some_iff.mp hf).1; simpa using this), List.getElem?_map, hf]
      rfl
    have h2 : (fnO L)[i]? = some f.dd := by unfold fnO; rw [List.getElem?_map, hf]; rfl
    obtain ⟨fd, F⟩ := c.def_ i (d := f.dd) h2
    exact ⟨_, fd, He.glo_ok X G (c.fact i (f := .glo f.name) h1), F⟩
  · obtain ⟨j, hj, e⟩ := List.mem_iff_getElem.mp hx
    have h1 : (faOf L frees)[L.length + j]? = some (.free x) := by
      unfold faOf
      rw [List.getElem?_append_right (by simp)]
      simp [hj, e]
    exact He.free_ok X G (c.fact _ (f := .free x) h1)
/-- the law's def, last of the table; k calls deep -/
theorem walk_law {l : PySem.W.OpenLaw} {n k lvl li : Nat} {q : Program} {loose : List Str} {XP : (Str → Option Value) → Heap → Prop} {d : DefRec} {L : List Fn} {frees : List Str} {f : Fn}
    (hn : l.most = some n) (hn2 : n ≤ sizeLine) (hdf : d.params.defaults = []) (hr : Room (k + 1) PySem.callerA) (hl0 : L[li]? = some f) (hdn : d.name = f.name) (hnp : f.np = 1) (x : Str) (hx : f.ps = [x])
    (hs : (1, [], [0]) ∈ f.shapes) (ck : ∀ f ∈ L, f.chk (gOf L frees) = true) (sh : ∀ f ∈ L, ∀ s ∈ f.shapes, ShapeOk f s)
    (law : ∀ ns : List Int, ns.length ≤ n → ∃ S', callN (tOf L) (k + 1) li [.scr ns] [] = .ok (.d (.bl true), S')) :
    PySem.W.WalkO q loose XP (He.hookD lvl (faOf L frees) (fnO L)).says l.row.toRowW d [] (fun f vs => PySem.call f vs) := by
  refine L2.walk_ofE (l := l) (n := n) (k := k + 1) (x := x) (CX := CX0) hn hn2 hdf hr (fun w mg fa h Y G hmg => ?_) (fun _ _ _ _ z => z)
  obtain ⟨K, KX, c⟩ := Y
  have tb : Tab l.prog K mg L frees := tab_of KX G c
  obtain ⟨fa', fd, hm, F⟩ := tb.fns li f hl0
  rw [hdn] at hmg
  have e : fa' = fa := by have := hm.symm.trans hmg; injection this with this; injection this
  subst e
  refine ⟨K, fd, spN K (callN (tOf L) (k + 1)) 1 li, KX, fun s u => ?_, fun H a ns hln hO hS => ?_, fun base _ _ => ?_⟩
  · have b := FunD.bindsA (ps := [x]) F (fun kV doc pm an cdv ct us hl => match us, hl with
      | [u], _ => by
        have h := sh f (List.mem_of_getElem? hl0) _ hs kV doc pm an cdv ct [u] [] rfl rfl
        rw [hx] at h
        exact h) s [u] rfl
    exact b
  · obtain ⟨S', hc⟩ := law ns hln
    refine ⟨rfl, [], [], [.scr ns], .d (.bl true), S', ⟨rfl, List.nodup_nil, fun l a o h => by cases h⟩, ⟨.ref a, [], rfl, ⟨a, rfl, ?_⟩, rfl⟩, hc, fun v H' m' z R' rv => rv⟩
    rcases hS with (h | ⟨o, h⟩) | h
    · rcases hO a with h' | ⟨o, xs, h'⟩ <;> rw [h] at h' <;> cases h'
    · exact .inl ⟨o, h⟩
    · exact .inr (.inr h)
  · have r := fn_step (base := base) (w := w) tb ck (fns_ok tb ck sh k) hl0 F
    rw [hx, hnp] at r
    exact r
end Pv
set_option linter.all false
set_option autoImplicit false
/-! Reasoning about runs of the evaluator. -/
namespace Pv
open PySem (Str)
def Ok {α : Type} (r : Rs α) (Q : α → Prop) : Prop := ∃ a, r = .ok a ∧ Q a
theorem Ok.ok {α : Type} {a : α} {Q : α → Prop} (h : Q a) : Ok (.ok a) Q := ⟨a, rfl, h⟩
theorem Ok.eq {α : Type} {r : Rs α} {a : α} {Q : α → Prop} (e : r = .ok a) (h : Q a) : Ok r Q := ⟨a, e, h⟩
theorem Ok.mono {α : Type} {r : Rs α} {P Q : α → Prop} (h : Ok r P) (k : ∀ a, P a → Q a) : Ok r Q := by
  obtain ⟨a, e, p⟩ := h
  exact ⟨a, e, k a p⟩
theorem Ok.bind {α β : Type} {r : Rs α} {f : α → Rs β} {Q : β → Prop} (h : Ok r fun a => Ok (f a) Q) : Ok (r >>= f) Q := by
  obtain ⟨a, e, b, e2, q⟩ := h
  exact ⟨b, by rw [e]; exact e2, q⟩
theorem Ok.ofO {α : Type} {o : Option α} {a : α} {Q : α → Prop} (e : o = some a) (h : Q a) : Ok (Rs.ofO o) Q := ⟨a, by rw [e]; rfl, h⟩
section
variable {T : Nat → Option Df} {n : Nat} {rc : Rc} {b : Nat} {e : Env} {S : Sto} {Q : Fl × Env × Sto → Prop}
theorem ok_nil (h : Q (.nx, e, S)) : Ok (evSs rc .nil b e S) Q := ⟨_, rfl, h⟩
theorem ok_seq {s : St} {r : Ss} (h : Ok (evS rc s b e S) fun q => match q.1 with
    | .nx => Ok (evSs rc r b q.2.1 q.2.2) Q
    | fl => Q (fl, q.2)) : Ok (evSs rc (.cons s r) b e S) Q := by
  obtain ⟨⟨fl, e1, S1⟩, h1, h2⟩ := h
  show Ok (evS rc s b e S >>= _) Q
  rw [h1]
  cases fl <;> first | exact h2 | exact ⟨_, rfl, h2⟩
theorem ok_expr {x : E} {r : Ss} (h : Ok ((evE rc x).v b e S) fun w => Ok (evSs rc r b e w.2) Q) : Ok (evSs rc (.cons (.expr x) r) b e S) Q := by
  refine ok_seq (Ok.bind (h.mono fun w hw => ?_))
  exact ⟨_, rfl, hw⟩
theorem ok_asg {i : Nat} {x : E} {r : Ss} (h : Ok ((evE rc x).v b e S) fun w => Ok (evSs rc r b (e.set i (some (settle w.1 w.2).1)) (settle w.1 w.2).2) Q) : Ok (evSs rc (.cons (.asg (.var i) x) r) b e S) Q := by
  refine ok_seq ?_
  show Ok (sD (evE rc x).v b e S >>= _) _
  refine Ok.bind (Ok.bind (h.mono fun w hw => ?_))
  exact ⟨_, rfl, ⟨_, rfl, hw⟩⟩
theorem ok_asgG {t : Tg} {x : E} {r : Ss} (h : Ok ((evE rc x).v b e S) fun w => Ok (evTg rc t b (settle w.1 w.2).1 e (settle w.1 w.2).2) fun q => Ok (evSs rc r b q.1 q.2) Q) : Ok (evSs rc (.cons (.asg t x) r) b e S) Q := by
  refine ok_seq ?_
  show Ok (sD (evE rc x).v b e S >>= _) _
  refine Ok.bind (Ok.bind (h.mono fun w hw => ?_))
  refine ⟨_, rfl, Ok.bind (hw.mono fun q hq => ?_)⟩
  exact ⟨_, rfl, hq⟩
theorem ok_ret {x : E} {r : Ss} (h : Ok ((evE rc x).v b e S) fun w => Q (.rt w.1, e, w.2)) : Ok (evSs rc (.cons (.ret x) r) b e S) Q := by
  refine ok_seq (Ok.bind (h.mono fun w hw => ?_))
  exact ⟨_, rfl, hw⟩
theorem ok_retn {r : Ss} (h : Q (.rt (.d .non), e, S)) : Ok (evSs rc (.cons .retn r) b e S) Q := ok_seq ⟨_, rfl, h⟩
theorem ok_brk {r : Ss} (h : Q (.br, e, S)) : Ok (evSs rc (.cons .brk r) b e S) Q := ok_seq ⟨_, rfl, h⟩
theorem ok_cont {r : Ss} (h : Q (.ct, e, S)) : Ok (evSs rc (.cons .cont r) b e S) Q := ok_seq ⟨_, rfl, h⟩
theorem ok_pass {r : Ss} (h : Ok (evSs rc r b e S) Q) : Ok (evSs rc (.cons .pass r) b e S) Q := ok_seq ⟨_, rfl, h⟩
/-- what follows an inner block -/
def Then (rc : Rc) (r : Ss) (b : Nat) (Q : Fl × Env × Sto → Prop) : Fl × Env × Sto → Prop := fun q => match q.1 with
    | .nx => Ok (evSs rc r b q.2.1 q.2.2) Q
    | fl => Q (fl, q.2)
theorem Then.nx {r : Ss} (h : Ok (evSs rc r b e S) Q) : Then rc r b Q (.nx, e, S) := h
theorem Then.rt {r : Ss} {v : Vl} (h : Q (.rt v, e, S)) : Then rc r b Q (.rt v, e, S) := h
theorem Then.br {r : Ss} (h : Q (.br, e, S)) : Then rc r b Q (.br, e, S) := h
theorem Then.ct {r : Ss} (h : Q (.ct, e, S)) : Then rc r b Q (.ct, e, S) := h
theorem ok_ite {c : E} {x y r : Ss} (h : Ok ((evE rc c).t b e S) fun k => (k.1 = true → Ok (evSs rc x b e k.2) (Then rc r b Q)) ∧ (k.1 = false → Ok (evSs rc y b e k.2) (Then rc r b Q))) : Ok (evSs rc (.cons (.ite c x y) r) b e S) Q := by
  refine ok_seq (Ok.bind (h.mono fun k hk => ?_))
  obtain ⟨k, S1⟩ := k
  cases k with
  | true => exact hk.1 rfl
  | false => exact hk.2 rfl
theorem ok_swap {ts : List Nat} {es : Es} {r : Ss} (h : Ok ((evEs rc es).1 b e S) fun w => w.1.length = ts.length ∧ Ok (evSs rc r b (setAll ts w.1 e) w.2) Q) : Ok (evSs rc (.cons (.swap ts es) r) b e S) Q := by
  refine ok_seq (Ok.bind (h.mono fun w hw => ?_))
  rw [if_pos hw.1]
  exact ⟨_, rfl, hw.2⟩
/-- a for loop: I of the items that are left -/
theorem ok_forL {c : Chk} {f : D → Env → Sto → Rs (Fl × Env × Sto)} {Q : Fl × Env × Sto → Prop} (I : List D → Env → Sto → Prop) (hc : ∀ xs e S, I xs e S → c.ok S)
    (h : ∀ x xs e S, I (x :: xs) e S → Ok (f x e S) fun r => match r.1 with
      | .nx => I xs r.2.1 r.2.2
      | .ct => I xs r.2.1 r.2.2
      | .br => Q (.nx, r.2)
      | .rt v => Q (.rt v, r.2)) (h0 : ∀ e S, I [] e S → Q (.nx, e, S)) : ∀ xs e S, I xs e S → Ok (forL c f xs e S) Q
  | [], e, S, hI => ⟨_, if_pos (hc _ _ _ hI), h0 e S hI⟩
  | x :: xs, e, S, hI => by
    obtain ⟨⟨fl, e1, S1⟩, h1, h2⟩ := h x xs e S hI
    unfold forL
    rw [if_pos (hc _ _ _ hI), h1]
    cases fl with
    | nx => exact ok_forL I hc h h0 xs e1 S1 h2
    | ct => exact ok_forL I hc h h0 xs e1 S1 h2
    | br => exact ⟨_, rfl, h2⟩
    | rt v => exact ⟨_, rfl, h2⟩
theorem ok_for {t : Tg} {it : It} {body r : Ss} (h : Ok (evIt rc it b e S) fun w => Ok (forL w.1.1 (fun d e S => evTg rc t b d e S >>= fun p => evSs rc body b p.1 p.2) w.1.2 e w.2) (Then rc r b Q)) : Ok (evSs rc (.cons (.for t it body) r) b e S) Q := by
  refine ok_seq ?_
  show Ok (evIt rc it b e S >>= _) _
  exact Ok.bind h
theorem ok_compL {c : Chk} {f : D → Sto → Rs (Option D × Sto)} {Q : List D × Sto → Prop} (I : List D → List D → Sto → Prop) (hc : ∀ xs ys S, I xs ys S → c.ok S)
    (h : ∀ x xs ys S, I (x :: xs) ys S → Ok (f x S) fun r => I xs (ys ++ r.1.toList) r.2) : ∀ xs ys S, I xs ys S → (∀ zs S', I [] (ys ++ zs) S' → Q (zs, S')) → Ok (compL c f xs S) Q
  | [], ys, S, hI, hQ => ⟨_, if_pos (hc _ _ _ hI), hQ [] S (by rw [List.append_nil]; exact hI)⟩
  | x :: xs, ys, S, hI, hQ => by
    obtain ⟨⟨o, S1⟩, h1, h2⟩ := h x xs ys S hI
    unfold compL
    rw [if_pos (hc _ _ _ hI), h1]
    refine Ok.bind (Ok.ok (Ok.bind ?_))
    refine Ok.mono (ok_compL (Q := fun r => Q (o.toList ++ r.1, r.2)) I hc h xs (ys ++ o.toList) S1 h2 fun zs S' hz => hQ _ _ (by rw [← List.append_assoc]; exact hz)) fun r hr => ⟨_, rfl, hr⟩
theorem ok_comp {x : E} {t : Tg} {it : It} {ifs : Es} {vs : List Nat} {Q : Vl × Sto → Prop} (h : Ok (evIt rc it b e S) fun w => Ok (compL w.1.1 (fun d S => evTg rc t b d (wipeE e vs) S >>= fun p => (evEs rc ifs).2 b p.1 p.2 >>= fun q => match q.1 with
        | true => sD (evE rc x).v b p.1 q.2 >>= fun v => .ok (some v.1, v.2)
        | false => .ok (none, q.2)) w.1.2 w.2) fun r => Q (.fr r.1, r.2)) : Ok ((evE rc (.comp x t it ifs vs)).v b e S) Q := by
  show Ok (evIt rc it b e S >>= _) _
  refine Ok.bind (h.mono fun w hw => Ok.bind (hw.mono fun r hr => ?_))
  exact ⟨_, rfl, hr⟩
theorem ok_call {f : Nat} {es ks : Es} {perm : List Nat} {Q : Vl × Sto → Prop} (h : Ok ((evEs rc es).1 S.length e S) fun r => Ok ((evEs rc ks).1 S.length e r.2) fun q => Ok (rc f (arr perm (r.1 ++ q.1)) q.2) fun w => Q (leave S.length w.1 w.2)) : Ok ((evE rc (.call f es ks perm)).v b e S) Q := by
  show Ok ((evEs rc es).1 S.length e S >>= _) _
  refine Ok.bind (h.mono fun r hr => Ok.bind (hr.mono fun q hq => Ok.bind (hq.mono fun w hw => ?_)))
  exact ⟨_, rfl, hw⟩
/-- a def, called -/
theorem ok_fn {f : Nat} {d : Df} {ds : List D} {Q : Vl × Sto → Prop} (hT : T f = some d) (hl : ds.length = d.np) (h : Ok (evSs (callN T n) d.body S.length (env0 d.nv ds) S) fun r => ∃ v, flV r.1 = some v ∧ Q (leave S.length v r.2.2)) : Ok (callN T (n + 1) f ds S) Q := by
  obtain ⟨⟨fl, e1, S1⟩, h1, v, hv, hq⟩ := h
  refine ⟨_, ?_, hq⟩
  show (match T f with
    | none => Rs.bad
    | some d => if ds.length = d.np then evSs (callN T n) d.body S.length (env0 d.nv ds) S >>= fun r => Rs.ofO (flV r.1) >>= fun v => .ok (leave S.length v r.2.2) else .bad) = _
  rw [hT]
  dsimp only
  rw [if_pos hl, h1]
  show Rs.ofO (flV fl) >>= _ = _
  rw [hv]
  rfl
end
@[simp] theorem le_line {n : Nat} (h : n ≤ 16777216) : n ≤ line := h
theorem lt_line {n : Nat} (h : n < 16777216) : n < line := h
/-- for i in range(k) -/
theorem ok_for0 {rc : Rc} {b : Nat} {e : Env} {S : Sto} {Q : Fl × Env × Sto → Prop} {t : Tg} {hi : E} {body r : Ss} {k : Int} (h : (evE rc hi).v b e S = .ok (.d (.int k), S)) (hk : k ≤ 1000000) (hk0 : -1000000 ≤ k) (h2 : Ok (forL [] (fun d e S => evTg rc t b d e S >>= fun p => evSs rc body b p.1 p.2) (rngD 0 k) e S) (Then rc r b Q)) : Ok (evSs rc (.cons (.for t (.rng .none hi) body) r) b e S) Q := by
  refine ok_for ?_
  refine Ok.eq (a := (([], rngD 0 k), S)) ?_ h2
  show ((Rs.ok (none, S) >>= fun p => sD (evE rc hi).v b e p.2 >>= _) >>= _) = _
  show ((((evE rc hi).v b e S >>= fun r => Rs.ok (settle r.1 r.2)) >>= _) >>= _) = _
  rw [h]
  show ((if (-4611686018427387904 ≤ (0 : Int) ∧ (0 : Int) < 4611686018427387904) ∧ (-4611686018427387904 ≤ k ∧ k < 4611686018427387904) then Rs.ok (((0 : Int), k), S) else .bad) >>= _) = _
  rw [if_pos ⟨by omega, by omega⟩]
  show (if (k - 0).toNat ≤ line then Rs.ok (([], rngD 0 k), S) else .bad) = _
  rw [if_pos (by unfold line; omega)]
theorem rngD_nil {lo hi : Int} (h : hi ≤ lo) : rngD lo hi = [] := by
  unfold rngD
  rw [show (hi - lo).toNat = 0 by omega]
  rfl
theorem rngD_cons {lo hi : Int} (h : lo < hi) : rngD lo hi = .int lo :: rngD (lo + 1) hi := by
  unfold rngD
  obtain ⟨k, hk⟩ : ∃ k, (hi - lo).toNat = k + 1 := ⟨(hi - lo).toNat - 1, by omega⟩
  rw [hk, show (hi - (lo + 1)).toNat = k by omega, List.range_succ_eq_map]
  simp [List.map_map, Function.comp_def]
  intro a _
  omega
/-- for i in range(lo, hi) -/
theorem ok_rng {f : D → Env → Sto → Rs (Fl × Env × Sto)} {Q : Fl × Env × Sto → Prop} {lo hi : Int} (I : Int → Env → Sto → Prop) (hl : lo ≤ hi)
    (h : ∀ i e S, lo ≤ i → i < hi → I i e S → Ok (f (.int i) e S) fun r => match r.1 with
      | .nx => I (i + 1) r.2.1 r.2.2
      | .ct => I (i + 1) r.2.1 r.2.2
      | .br => Q (.nx, r.2)
      | .rt v => Q (.rt v, r.2)) (h0 : ∀ e S, I hi e S → Q (.nx, e, S)) {e : Env} {S : Sto} (hI : I lo e S) : Ok (forL [] f (rngD lo hi) e S) Q := by
  refine ok_forL (fun xs e S => ∃ i, xs = rngD i hi ∧ lo ≤ i ∧ i ≤ hi ∧ I i e S) (fun _ _ _ _ p hp => by cases hp) ?_ ?_ _ _ _ ⟨lo, rfl, Int.le_refl _, hl, hI⟩
  · rintro x xs e S ⟨i, hx, i0, i1, hI⟩
    have hlt : i < hi := by
      rcases Int.lt_or_le i hi with z | z
      · exact z
      · rw [rngD_nil z] at hx; cases hx
    rw [rngD_cons hlt] at hx
    cases hx
    refine (h i e S i0 hlt hI).mono fun r hr => ?_
    obtain ⟨fl, e1, S1⟩ := r
    cases fl with
    | nx => exact ⟨i + 1, rfl, by omega, by omega, hr⟩
    | ct => exact ⟨i + 1, rfl, by omega, by omega, hr⟩
    | br => exact hr
    | rt v => exact hr
  · rintro e S ⟨i, hx, i0, i1, hI⟩
    have : i = hi := by
      rcases Int.lt_or_le i hi with z | z
      · rw [rngD_cons z] at hx; cases hx
      · omega
    subst this
    exact h0 e S hI
/-- for x in xs, the turns counted -/
theorem ok_cnt {c : Chk} {f : D → Env → Sto → Rs (Fl × Env × Sto)} {Q : Fl × Env × Sto → Prop} {xs : List D} (I : Nat → Env → Sto → Prop) (hc : ∀ k e S, I k e S → c.ok S)
    (h : ∀ k x e S, xs[k]? = some x → I k e S → Ok (f x e S) fun r => match r.1 with
      | .nx => I (k + 1) r.2.1 r.2.2
      | .ct => I (k + 1) r.2.1 r.2.2
      | .br => Q (.nx, r.2)
      | .rt v => Q (.rt v, r.2)) (h0 : ∀ e S, I xs.length e S → Q (.nx, e, S)) {e : Env} {S : Sto} (hI : I 0 e S) : Ok (forL c f xs e S) Q := by
  refine ok_forL (fun ys e S => ∃ k, ys = xs.drop k ∧ k ≤ xs.length ∧ I k e S) (fun _ _ _ ⟨k, _, _, hI⟩ => hc k _ _ hI) ?_ ?_ _ _ _ ⟨0, rfl, Nat.zero_le _, hI⟩
  · rintro x ys e S ⟨k, hx, hk, hI⟩
    have hlt : k < xs.length := by
      rcases Nat.lt_or_ge k xs.length with z | z
      · exact z
      · rw [List.drop_of_length_le z] at hx; cases hx
    rw [List.drop_eq_getElem_cons hlt] at hx
    injection hx with e1 e2
    subst e1
    subst e2
    refine (h k xs[k] e S (List.getElem?_eq_getElem hlt) hI).mono fun r hr => ?_
    obtain ⟨fl, e1, S1⟩ := r
    cases fl with
    | nx => exact ⟨k + 1, rfl, hlt, hr⟩
    | ct => exact ⟨k + 1, rfl, hlt, hr⟩
    | br => exact hr
    | rt v => exact hr
  · rintro e S ⟨k, hx, hk, hI⟩
    have : k = xs.length := by
      rcases Nat.lt_or_ge k xs.length with z | z
      · rw [List.drop_eq_getElem_cons z] at hx; cases hx
      · omega
    subst this
    exact h0 e S hI
/-- [.. for x in xs], the turns counted; ys: what stands in the list by then -/
theorem ok_ccnt {c : Chk} {f : D → Sto → Rs (Option D × Sto)} {Q : List D × Sto → Prop} {xs : List D} (I : Nat → List D → Sto → Prop) (hc : ∀ k ys S, I k ys S → c.ok S)
    (h : ∀ k x ys S, xs[k]? = some x → I k ys S → Ok (f x S) fun r => I (k + 1) (ys ++ r.1.toList) r.2) (h0 : ∀ ys S, I xs.length ys S → Q (ys, S)) {S : Sto} (hI : I 0 [] S) : Ok (compL c f xs S) Q := by
  refine ok_compL (fun zs ys S => ∃ k, zs = xs.drop k ∧ k ≤ xs.length ∧ I k ys S) (fun _ _ _ ⟨k, _, _, hI⟩ => hc k _ _ hI) ?_ xs [] S ⟨0, rfl, Nat.zero_le _, hI⟩ ?_
  · rintro x zs ys S ⟨k, hx, hk, hI⟩
    have hlt : k < xs.length := by
      rcases Nat.lt_or_ge k xs.length with z | z
      · exact z
      · rw [List.drop_of_length_le z] at hx; cases hx
    rw [List.drop_eq_getElem_cons hlt] at hx
    injection hx with e1 e2
    subst e1
    subst e2
    exact (h k xs[k] ys S (List.getElem?_eq_getElem hlt) hI).mono fun r hr => ⟨k + 1, rfl, hlt, hr⟩
  · rintro zs S ⟨k, hx, hk, hI⟩
    have : k = xs.length := by
      rcases Nat.lt_or_ge k xs.length with z | z
      · rw [List.drop_eq_getElem_cons z] at hx; cases hx
      · omega
    subst this
    exact h0 _ _ hI
theorem rngD_get {lo hi : Int} {k : Nat} {x : D} (h : (rngD lo hi)[k]? = some x) : x = .int (lo + k) ∧ lo + k < hi := by
  unfold rngD at h
  rw [List.getElem?_map] at h
  obtain ⟨y, h1, rfl⟩ := Option.map_eq_some_iff.mp h
  obtain ⟨h2, h3⟩ := List.getElem?_eq_some_iff.mp h1
  simp at h3
  simp at h2
  subst h3
  exact ⟨rfl, by omega⟩
theorem enumD_get {xs : List D} {k : Nat} {x : D} (h : (enumD xs)[k]? = some x) : ∃ d, x = .tup [.int k, d] ∧ xs[k]? = some d := by
  unfold enumD at h
  rw [List.getElem?_map] at h
  obtain ⟨p, h1, rfl⟩ := Option.map_eq_some_iff.mp h
  rw [List.getElem?_zipIdx] at h1
  obtain ⟨d, h2, rfl⟩ := Option.map_eq_some_iff.mp h1
  exact ⟨d, by simp, h2⟩
@[simp] theorem enumD_len (xs : List D) : (enumD xs).length = xs.length := by unfold enumD; simp
@[simp] theorem rngD_len (lo hi : Int) : (rngD lo hi).length = (hi - lo).toNat := by unfold rngD; simp
@[simp] theorem rs_assoc {α β γ : Type} (x : Rs α) (f : α → Rs β) (g : β → Rs γ) : (x >>= f) >>= g = x >>= fun a => f a >>= g := by cases x <;> rfl
/-! expressions, told by simp -/
section
variable {rc : Rc} {b : Nat} {e : Env} {S : Sto}
@[simp] theorem v_var (i : Nat) : (evE rc (.var i)).v b e S = match e[i]? with
    | some (some x) => .ok (.d x, S)
    | _ => .bad := rfl
@[simp] theorem v_cn (c : D) : (evE rc (.cn c)).v b e S = .ok (.d c, S) := rfl
@[simp] theorem v_neg (x : E) : (evE rc (.neg x)).v b e S = (evE rc x).v b e S >>= fun r => match r.1 with
    | .d (.int i) => .ok (.d (.int (-i)), r.2)
    | _ => .bad := rfl
@[simp] theorem v_not (x : E) : (evE rc (.not x)).v b e S = (evE rc x).v b e S >>= fun r => Rs.ofO (truth r.1 r.2) >>= fun k => .ok (.d (.bl (!k)), r.2) := rfl
@[simp] theorem v_bin (o : Bo) (x y : E) : (evE rc (.bin o x y)).v b e S = (evE rc x).v b e S >>= fun r => (evE rc y).v b e r.2 >>= fun q => Rs.ofO (binV o r.1 q.1 q.2) >>= fun v => .ok (v, q.2) := rfl
@[simp] theorem v_cmp (o : Co) (x y : E) : (evE rc (.cmp o x y)).v b e S = (evE rc x).v b e S >>= fun r => (evE rc y).v b e r.2 >>= fun q => Rs.ofO (cmpV o r.1 q.1 q.2) >>= fun k => .ok (.d (.bl k), q.2) := rfl
@[simp] theorem v_and (x y : E) : (evE rc (.and x y)).v b e S = (evE rc x).v b e S >>= fun r => Rs.ofO (truthD (settle r.1 r.2).1 (settle r.1 r.2).2) >>= fun k => match k with
    | true => (evE rc y).v b e (settle r.1 r.2).2
    | false => .ok (.d (settle r.1 r.2).1, (settle r.1 r.2).2) := by
  show (((evE rc x).v b e S >>= fun r => Rs.ok (settle r.1 r.2)) >>= _) = _
  cases (evE rc x).v b e S <;> rfl
@[simp] theorem v_or (x y : E) : (evE rc (.or x y)).v b e S = (evE rc x).v b e S >>= fun r => Rs.ofO (truthD (settle r.1 r.2).1 (settle r.1 r.2).2) >>= fun k => match k with
    | true => .ok (.d (settle r.1 r.2).1, (settle r.1 r.2).2)
    | false => (evE rc y).v b e (settle r.1 r.2).2 := by
  show (((evE rc x).v b e S >>= fun r => Rs.ok (settle r.1 r.2)) >>= _) = _
  cases (evE rc x).v b e S <;> rfl
@[simp] theorem v_ite (c x y : E) : (evE rc (.ite c x y)).v b e S = (evE rc c).t b e S >>= fun r => match r.1 with
    | true => (evE rc x).v b e r.2
    | false => (evE rc y).v b e r.2 := rfl
@[simp] theorem v_tup (es : Es) : (evE rc (.tup es)).v b e S = (evEs rc es).1 b e S >>= fun r => if r.1.length ≤ line then .ok (.d (.tup r.1), r.2) else .bad := rfl
@[simp] theorem v_lst (es : Es) : (evE rc (.lst es)).v b e S = (evEs rc es).1 b e S >>= fun r => if r.1.length ≤ line then .ok (.fr r.1, r.2) else .bad := rfl
theorem sD_b {f : DV} {α : Type} (g : D × Sto → Rs α) : (sD f b e S >>= g) = (f b e S >>= fun r => g (settle r.1 r.2)) := by
  show ((f b e S >>= fun r => Rs.ok (settle r.1 r.2)) >>= g) = _
  cases f b e S <;> rfl
@[simp] theorem v_idx (x y : E) : (evE rc (.idx x y)).v b e S = (evE rc x).v b e S >>= fun r => (evE rc y).v b e r.2 >>= fun q => Rs.ofO (idxV r.1 (settle q.1 q.2).1 (settle q.1 q.2).2) >>= fun v => .ok (.d v, (settle q.1 q.2).2) := by
  show ((evE rc x).v b e S >>= fun r => sD (evE rc y).v b e r.2 >>= _) = _
  cases (evE rc x).v b e S with
  | ok r => exact sD_b _
  | _ => rfl
@[simp] theorem v_sl (x : E) (lo hi : Oe) : (evE rc (.sl x lo hi)).v b e S = (evE rc x).v b e S >>= fun r => evO rc lo b e r.2 >>= fun p => evO rc hi b e p.2 >>= fun q => Rs.ofO (sliceV r.1 p.1 q.1 q.2) >>= fun v => .ok (v, q.2) := rfl
@[simp] theorem v_rev (x : E) : (evE rc (.rev x)).v b e S = (evE rc x).v b e S >>= fun r => Rs.ofO (revV r.1 r.2) >>= fun v => .ok (v, r.2) := rfl
@[simp] theorem v_f1 (o : F1) (x : E) : (evE rc (.f1 o x)).v b e S = (evE rc x).v b e S >>= fun r => Rs.ofO (app1 o r.1 r.2) >>= fun v => .ok (v, r.2) := rfl
@[simp] theorem v_f2 (o : F2) (x y : E) : (evE rc (.f2 o x y)).v b e S = (evE rc x).v b e S >>= fun r => (evE rc y).v b e (settle r.1 r.2).2 >>= fun q => Rs.ofO (app2 o (settle r.1 r.2).1 (settle q.1 q.2).1) >>= fun v => .ok (.d v, (settle q.1 q.2).2) := by
  show (sD (evE rc x).v b e S >>= _) = _
  rw [sD_b]
  cases (evE rc x).v b e S with
  | ok r => exact sD_b _
  | _ => rfl
@[simp] theorem v_isi (x : E) (t : Ty) : (evE rc (.isi x t)).v b e S = (evE rc x).v b e S >>= fun r => Rs.ofO (isTy (settle r.1 r.2).1 t (settle r.1 r.2).2) >>= fun k => .ok (.d (.bl k), (settle r.1 r.2).2) := sD_b _
@[simp] theorem v_m1 (m : M1) (x y : E) : (evE rc (.m1 m x y)).v b e S = (evE rc x).v b e S >>= fun r => Rs.ofO (recv (settle r.1 r.2).1 (settle r.1 r.2).2) >>= fun _ => (evE rc y).v b e (settle r.1 r.2).2 >>= fun q => meth1 b m (settle r.1 r.2).1 (settle q.1 q.2).1 (settle q.1 q.2).2 := by
  show (sD (evE rc x).v b e S >>= _) = _
  rw [sD_b]
  cases (evE rc x).v b e S with
  | ok r =>
    show (Rs.ofO _ >>= fun _ => _) = (Rs.ofO _ >>= fun _ => _)
    cases (recv (settle r.1 r.2).1 (settle r.1 r.2).2) with
    | none => rfl
    | some u => exact sD_b _
  | _ => rfl
@[simp] theorem v_m0 (m : M0) (x : E) : (evE rc (.m0 m x)).v b e S = (evE rc x).v b e S >>= fun r => meth0 m (settle r.1 r.2).1 (settle r.1 r.2).2 := sD_b _
@[simp] theorem l_nil : (evEs rc .nil).1 b e S = .ok ([], S) := rfl
@[simp] theorem l_cons (x : E) (es : Es) : (evEs rc (.cons x es)).1 b e S = (evE rc x).v b e S >>= fun r => (evEs rc es).1 b e (settle r.1 r.2).2 >>= fun q => .ok ((settle r.1 r.2).1 :: q.1, q.2) := sD_b _
theorem i_rng0 (hi : E) {k : Int} (h : (evE rc hi).v b e S = .ok (.d (.int k), S)) (hk : k ≤ 1000000) (hk0 : -1000000 ≤ k) : evIt rc (.rng .none hi) b e S = .ok (([], rngD 0 k), S) := by
  show (((Rs.ok (none, S) >>= fun p => sD (evE rc hi).v b e p.2 >>= _) >>= _) : Rs ((Chk × List D) × Sto)) = _
  show (((((evE rc hi).v b e S >>= fun r => Rs.ok (settle r.1 r.2)) >>= _) >>= _) : Rs ((Chk × List D) × Sto)) = _
  rw [h]
  show ((if (-4611686018427387904 ≤ (0 : Int) ∧ (0 : Int) < 4611686018427387904) ∧ (-4611686018427387904 ≤ k ∧ k < 4611686018427387904) then Rs.ok (((0 : Int), k), S) else .bad) >>= _) = _
  rw [if_pos ⟨by omega, by omega⟩]
  show (if (k - 0).toNat ≤ line then _ else Rs.bad) = _
  rw [if_pos (by unfold line; omega)]
theorem v_mkr0 (t : F1) (hi : E) {k : Int} (h : (evE rc hi).v b e S = .ok (.d (.int k), S)) (hk : k ≤ 1000000) (hk0 : -1000000 ≤ k) (ht : t = .list ∨ t = .tuple) : (evE rc (.mkr t .none hi)).v b e S = .ok (if t = .list then .fr (rngD 0 k) else .d (.tup (rngD 0 k)), S) := by
  show (((Rs.ok (none, S) >>= fun p => sD (evE rc hi).v b e p.2 >>= _) >>= _) : Rs (Vl × Sto)) = _
  show (((((evE rc hi).v b e S >>= fun r => Rs.ok (settle r.1 r.2)) >>= _) >>= _) : Rs (Vl × Sto)) = _
  rw [h]
  show ((if (-4611686018427387904 ≤ (0 : Int) ∧ (0 : Int) < 4611686018427387904) ∧ (-4611686018427387904 ≤ k ∧ k < 4611686018427387904) then Rs.ok (((0 : Int), k), S) else .bad) >>= _) = _
  rw [if_pos ⟨by omega, by omega⟩]
  show (if (k - 0).toNat ≤ line then _ else Rs.bad) = _
  rw [if_pos (by unfold line; omega)]
  rcases ht with rfl | rfl <;> rfl
@[simp] theorem e2_nil : (evEs rc .nil).2 b e S = .ok (true, S) := rfl
@[simp] theorem e2_cons (x : E) (es : Es) : (evEs rc (.cons x es)).2 b e S = (evE rc x).t b e S >>= fun r => match r.1 with
    | true => (evEs rc es).2 b e r.2
    | false => .ok (false, r.2) := rfl
@[simp] theorem sD_ap (f : DV) : sD f b e S = f b e S >>= fun r => .ok (settle r.1 r.2) := rfl
@[simp] theorem t_var (i : Nat) : (evE rc (.var i)).t b e S = (evE rc (.var i)).v b e S >>= fun r => Rs.ofO (truth r.1 r.2) >>= fun k => .ok (k, r.2) := rfl
@[simp] theorem t_cmp (o : Co) (x y : E) : (evE rc (.cmp o x y)).t b e S = (evE rc (.cmp o x y)).v b e S >>= fun r => Rs.ofO (truth r.1 r.2) >>= fun k => .ok (k, r.2) := rfl
@[simp] theorem t_isi (x : E) (t : Ty) : (evE rc (.isi x t)).t b e S = (evE rc (.isi x t)).v b e S >>= fun r => Rs.ofO (truth r.1 r.2) >>= fun k => .ok (k, r.2) := rfl
@[simp] theorem t_idx (x y : E) : (evE rc (.idx x y)).t b e S = (evE rc (.idx x y)).v b e S >>= fun r => Rs.ofO (truth r.1 r.2) >>= fun k => .ok (k, r.2) := rfl
@[simp] theorem t_f1 (o : F1) (x : E) : (evE rc (.f1 o x)).t b e S = (evE rc (.f1 o x)).v b e S >>= fun r => Rs.ofO (truth r.1 r.2) >>= fun k => .ok (k, r.2) := rfl
@[simp] theorem t_bin (o : Bo) (x y : E) : (evE rc (.bin o x y)).t b e S = (evE rc (.bin o x y)).v b e S >>= fun r => Rs.ofO (truth r.1 r.2) >>= fun k => .ok (k, r.2) := rfl
theorem t_call (f : Nat) (es ks : Es) (perm : List Nat) : (evE rc (.call f es ks perm)).t b e S = (evE rc (.call f es ks perm)).v b e S >>= fun r => Rs.ofO (truth r.1 r.2) >>= fun k => .ok (k, r.2) := rfl
@[simp] theorem t_not (x : E) : (evE rc (.not x)).t b e S = (evE rc x).t b e S >>= fun r => .ok (!r.1, r.2) := rfl
@[simp] theorem t_and (x y : E) : (evE rc (.and x y)).t b e S = (evE rc x).t b e S >>= fun r => match r.1 with
    | true => (evE rc y).t b e r.2
    | false => .ok (false, r.2) := rfl
@[simp] theorem t_or (x y : E) : (evE rc (.or x y)).t b e S = (evE rc x).t b e S >>= fun r => match r.1 with
    | true => .ok (true, r.2)
    | false => (evE rc y).t b e r.2 := rfl
@[simp] theorem o_none : evO rc .none b e S = .ok (none, S) := rfl
@[simp] theorem o_some (x : E) : evO rc (.some x) b e S = (evE rc x).v b e S >>= fun r => Rs.ofO (intO (settle r.1 r.2).1) >>= fun i => .ok (some i, (settle r.1 r.2).2) := sD_b _
@[simp] theorem i_e (x : E) : evIt rc (.e x) b e S = (evE rc x).v b e S >>= fun r => Rs.ofO (items r.1 r.2) >>= fun xs => .ok ((chkOf r.1 r.2, xs), r.2) := rfl
@[simp] theorem i_enum (x : E) : evIt rc (.enum x) b e S = (evE rc x).v b e S >>= fun r => Rs.ofO (items r.1 r.2) >>= fun xs => .ok ((chkOf r.1 r.2, enumD xs), r.2) := rfl
@[simp] theorem i_rev (x : E) : evIt rc (.rev x) b e S = (evE rc x).v b e S >>= fun r => Rs.ofO (items r.1 r.2) >>= fun xs => .ok ((chkOf r.1 r.2, xs.reverse), r.2) := rfl
@[simp] theorem i_zip (x y : E) : evIt rc (.zip x y) b e S = (evE rc x).v b e S >>= fun r => (evE rc y).v b e r.2 >>= fun q => Rs.ofO (items r.1 q.2) >>= fun xs => Rs.ofO (items q.1 q.2) >>= fun ys => if (!(tupO q.1).isSome || (tupO r.1).isSome) = true then .ok ((chkOf r.1 q.2 ++ chkOf q.1 q.2, zipD xs ys), q.2) else .bad := rfl
@[simp] theorem i_rng (lo : Oe) (hi : E) : evIt rc (.rng lo hi) b e S = (evO rc lo b e S >>= fun p => (evE rc hi).v b e p.2 >>= fun q => Rs.ofO (intO (settle q.1 q.2).1) >>= fun j =>
    if (-4611686018427387904 ≤ p.1.getD 0 ∧ p.1.getD 0 < 4611686018427387904) ∧ (-4611686018427387904 ≤ j ∧ j < 4611686018427387904) then Rs.ok ((p.1.getD 0, j), (settle q.1 q.2).2) else .bad) >>= fun r => if (r.1.2 - r.1.1).toNat ≤ line then .ok (([], rngD r.1.1 r.1.2), r.2) else .bad := by
  show ((evO rc lo b e S >>= fun p => sD (evE rc hi).v b e p.2 >>= _) >>= _) = _
  cases evO rc lo b e S with
  | ok p =>
    show ((sD (evE rc hi).v b e p.2 >>= _) >>= _) = _
    rw [sD_b]
    rfl
  | _ => rfl
@[simp] theorem g_var (i : Nat) (x : D) : evTg rc (.var i) b x e S = .ok (e.set i (some x), S) := rfl
@[simp] theorem g_tup (ts : Tgs) (xs : List D) : evTg rc (.tup ts) b (.tup xs) e S = evTgs rc ts b xs e S := rfl
@[simp] theorem g_sub (o i : E) (x : D) : evTg rc (.sub o i) b x e S = (evE rc o).v b e S >>= fun r => (evE rc i).v b e (settle r.1 r.2).2 >>= fun q => setI b (settle r.1 r.2).1 (settle q.1 q.2).1 x (settle q.1 q.2).2 >>= fun S => .ok (e, S) := by
  show (sD (evE rc o).v b e S >>= _) = _
  rw [sD_b]
  cases (evE rc o).v b e S with
  | ok r => exact sD_b _
  | _ => rfl
@[simp] theorem g_nil : evTgs rc .nil b [] e S = .ok (e, S) := rfl
@[simp] theorem g_cons (t : Tg) (ts : Tgs) (x : D) (xs : List D) : evTgs rc (.cons t ts) b (x :: xs) e S = evTg rc t b x e S >>= fun r => evTgs rc ts b xs r.1 r.2 := rfl
@[simp] theorem env0_eq (nv : Nat) (ds : List D) : env0 nv ds = ds.map some ++ List.replicate (nv - ds.length) none := rfl
@[simp] theorem idxV_int (x : Vl) (i : Int) (S : Sto) : idxV x (.int i) S = (items x S).bind fun xs => atI xs i := rfl
@[simp] theorem itemsD_loc (l : Nat) (S : Sto) : itemsD (.loc l) S = match S[l]? with
  | some (.lst xs) => some xs
  | _ => none := rfl
@[simp] theorem atI_0 (x : D) (xs : List D) : atI (x :: xs) 0 = some x := atI_nat (j := 0) rfl
@[simp] theorem atI_1 (x y : D) (xs : List D) : atI (x :: y :: xs) 1 = some y := atI_nat (j := 1) rfl
@[simp] theorem atI_2 (x y z : D) (xs : List D) : atI (x :: y :: z :: xs) 2 = some z := atI_nat (j := 2) rfl
@[simp] theorem app_int (i : Int) (S : Sto) : app1 .int (.d (.int i)) S = some (.d (.int i)) := rfl
@[simp] theorem app_abs (i : Int) (S : Sto) : app1 .abs (.d (.int i)) S = some (.d (.int (if i < 0 then -i else i))) := rfl
@[simp] theorem app_len (x : Vl) (S : Sto) : app1 .len x S = (items x S).map fun xs => .d (.int xs.length) := rfl
@[simp] theorem app_tuple (x : Vl) (S : Sto) : app1 .tuple x S = (items x S).map fun xs => .d (.tup xs) := rfl
@[simp] theorem app_list (x : Vl) (S : Sto) : app1 .list x S = (items x S).map fun xs => .fr xs := rfl
open Classical in
theorem setI_int (l : Nat) (i : Int) (x : D) : setI b (.loc l) (.int i) x S = match S[l]? with
    | some (.lst xs) => match ixN xs.length i with
      | some j => if wr b l x then .ok (S.set l (.lst (xs.set j x))) else .bad
      | none => .bad
    | _ => .bad := rfl
open Classical in
theorem meth_append (l : Nat) (x : D) : meth1 b .append (.loc l) x S = match S[l]? with
    | some (.lst xs) => if xs.length < line ∧ wr b l x then .ok (.d .non, S.set l (.lst (xs ++ [x]))) else .bad
    | _ => .bad := rfl
theorem meth_app {l : Nat} {x : D} {xs : List D} (h : S[l]? = some (.lst xs)) (hl : xs.length < 16777216) (hw : wr b l x) : meth1 b .append (.loc l) x S = .ok (.d .non, S.set l (.lst (xs ++ [x]))) := by
  rw [meth_append, h]
  exact if_pos ⟨hl, hw⟩
theorem set_at {l : Nat} {o o2 : O} (h : S[l]? = some o) : (S.set l o2)[l]? = some o2 := List.getElem?_set_self (List.getElem?_eq_some_iff.mp h).1
theorem set_ne {l k : Nat} {o : Option O} {o2 : O} (h : S[k]? = o) (hk : l ≠ k) : (S.set l o2)[k]? = o := by rw [List.getElem?_set_ne hk]; exact h
theorem push_lt {k : Nat} {o : O} {T : Sto} (h : S[k]? = some o) : (S ++ T)[k]? = some o := by rw [List.getElem?_append_left (List.getElem?_eq_some_iff.mp h).1]; exact h
theorem push_at {o : O} : (S ++ [o])[S.length]? = some o := by simp
theorem at_lt {k : Nat} {o : O} (h : S[k]? = some o) : k < S.length := (List.getElem?_eq_some_iff.mp h).1
@[simp] theorem ixN_0 (n : Nat) : ixN (n + 1) 0 = some 0 := by unfold ixN; simp
@[simp] theorem ixN_1 (n : Nat) : ixN (n + 2) 1 = some 1 := by unfold ixN; simp; omega
@[simp] theorem wr_int (l : Nat) (i : Int) : wr b l (.int i) := .inl rfl
@[simp] theorem wr_non (l : Nat) : wr b l .non := .inl rfl
@[simp] theorem wr_own (l : Nat) (x : D) (h : b ≤ l) : wr b l x := .inr h
end
/-! what a run leaves of the store -/
theorem leave_pure {n : Nat} {x : D} {S : Sto} (h : x.pure = true) : leave n (.d x) S = (.d x, S.take n) := by
  cases x with
  | loc l => cases h
  | non => rfl
  | bl b => rfl
  | int i => rfl
  | str s => rfl
  | scr ns => rfl
  | tup xs =>
    show (if D.ub n (.tup xs) then _ else _) = _
    rw [if_pos (pure_ub h)]
@[simp] theorem chkOf_tup (xs : List D) (S : Sto) : chkOf (.d (.tup xs)) S = [] := rfl
@[simp] theorem chkOf_fr (xs : List D) (S : Sto) : chkOf (.fr xs) S = [] := rfl
@[simp] theorem chkOf_scr (ns : List Int) (S : Sto) : chkOf (.d (.scr ns)) S = [] := rfl
theorem chkOf_loc (l : Nat) (S : Sto) : chkOf (.d (.loc l)) S = match S[l]? with
    | some o => [(l, o)]
    | none => [] := rfl
theorem chk_nil (S : Sto) : Chk.ok [] S := fun p hp => by cases hp
theorem chk_one {l : Nat} {o : O} {S : Sto} (h : S[l]? = some o) : Chk.ok [(l, o)] S := fun p hp => by
  cases List.mem_singleton.mp hp
  exact h
@[simp] theorem isD_non (x : D) : isD x .non = some (match x with
  | .non => true
  | _ => false) := by cases x <;> rfl
@[simp] theorem isD_int (i : Int) (b : Bool) : isD (.int i) (.bl b) = some false := rfl
@[simp] theorem isTy_int (i : Int) (t : Ty) (S : Sto) : isTy (.int i) t S = some (t == .int) := rfl
@[simp] theorem isTy_non (t : Ty) (S : Sto) : isTy .non t S = some false := rfl
@[simp] theorem isTy_bl (b : Bool) (t : Ty) (S : Sto) : isTy (.bl b) t S = some (t == .bool || t == .int) := rfl
@[simp] theorem isTy_tup (xs : List D) (t : Ty) (S : Sto) : isTy (.tup xs) t S = some (t == .tuple) := rfl
@[simp] theorem scalEq_int (i j : Int) : scalEq (.int i) (.int j) = some (i == j) := rfl
@[simp] theorem scalEq_non : scalEq .non .non = some true := rfl
@[simp] theorem scalEq_in (i : Int) : scalEq (.int i) .non = some false := rfl
@[simp] theorem scalEq_ni (i : Int) : scalEq .non (.int i) = some false := rfl
@[simp] theorem leave_non (n : Nat) (S : Sto) : leave n (.d .non) S = (.d .non, S.take n) := rfl
@[simp] theorem leave_bl (n : Nat) (b : Bool) (S : Sto) : leave n (.d (.bl b)) S = (.d (.bl b), S.take n) := rfl
@[simp] theorem leave_int (n : Nat) (i : Int) (S : Sto) : leave n (.d (.int i)) S = (.d (.int i), S.take n) := rfl
@[simp] theorem leave_str (n : Nat) (i : Str) (S : Sto) : leave n (.d (.str i)) S = (.d (.str i), S.take n) := rfl
@[simp] theorem take_self (S : Sto) : S.take S.length = S := List.take_length
@[simp] theorem take_set (S : Sto) (l : Nat) (o : O) : (S.set l o).take S.length = S.set l o := List.take_of_length_le (by simp)
theorem atI_of {xs : List D} {i : Int} (h : 0 ≤ i) (h2 : i < xs.length) : ∃ x, x ∈ xs ∧ atI xs i = some x ∧ xs[i.toNat]? = some x := by
  obtain ⟨j, rfl⟩ := Int.eq_ofNat_of_zero_le h
  have hj : j < xs.length := by omega
  exact ⟨xs[j], List.getElem_mem _, atI_nat (List.getElem?_eq_getElem hj), by simp⟩
theorem pureL_of {xs : List D} (h : ∀ x ∈ xs, x.pure = true) : pureL xs = true := by
  induction xs with
  | nil => rfl
  | cons x xs ih =>
    show (x.pure && pureL xs) = true
    rw [h x (by simp), ih fun y hy => h y (by simp [hy])]
    rfl
theorem pure_ints (ns : List Int) : (D.tup (ns.map .int)).pure = true := pureL_of (by simp; intro _ _; rfl)
theorem cut_take {xs : List D} {p : Int} (h : 0 ≤ p) : cut xs none (some p) = xs.take p.toNat := by
  unfold cut sIx
  simp [Int.not_lt.mpr h]
theorem cut_drop {xs : List D} {p : Int} (h : 0 ≤ p) : cut xs (some p) none = xs.drop p.toNat := by
  unfold cut sIx
  simp [Int.not_lt.mpr h]
  by_cases h2 : p.toNat ≤ xs.length
  · rw [Nat.min_eq_left h2]
    exact List.take_of_length_le (by simp)
  · rw [Nat.min_eq_right (by omega), List.drop_of_length_le (Nat.le_refl _), List.drop_of_length_le (show xs.length ≤ p.toNat by omega)]
    simp
@[simp] theorem slice_tup (xs : List D) (lo hi : Option Int) (S : Sto) : sliceV (.d (.tup xs)) lo hi S = some (.d (.tup (cut xs lo hi))) := rfl
@[simp] theorem intO_int (i : Int) : intO (.int i) = some i := rfl
theorem inF_non {xs : List D} : inF .non xs = true ↔ ∃ x ∈ xs, x = .non := by
  unfold inF
  rw [List.any_eq_true]
  constructor
  · rintro ⟨x, hx, h⟩
    refine ⟨x, hx, ?_⟩
    cases x <;> first | rfl | cases h
  · rintro ⟨x, hx, rfl⟩
    exact ⟨_, hx, rfl⟩
theorem inG_tup {x : D} {xs : List D} {S : Sto} (h : flat x = true) (h2 : xs.all flat = true) : inG x (.d (.tup xs)) S = some (inF x xs) := by
  unfold inG inV
  simp [h]
  rw [if_pos (by simpa using h2)]
  rfl
/-! == of lists of whole numbers -/
theorem mapO_ints (n : Nat) (S : Sto) : ∀ ns : List Int, mapO (pyD (n + 1) S) (ns.map .int) = some (ns.map .int)
  | [] => rfl
  | i :: ns => by
    show ((pyD (n + 1) S (.int i)).bind fun y => (mapO (pyD (n + 1) S) (ns.map .int)).map (y :: ·)) = _
    rw [mapO_ints n S ns]
    rfl
theorem lay_ints : ∀ ns : List Int, PySem.PyData.canLayAll0 (ns.map .int) = true
  | [] => rfl
  | i :: ns => by
    show (PySem.PyData.canLay0 (.int i) && PySem.PyData.canLayAll0 (ns.map .int)) = true
    rw [lay_ints ns]
    rfl
theorem depth_ints : ∀ ns : List Int, PySem.PyData.depthAll (ns.map .int) ≤ 1
  | [] => by decide
  | i :: ns => by
    have := depth_ints ns
    show max (PySem.PyData.depth (.int i)) (PySem.PyData.depthAll (ns.map .int)) ≤ 1
    have h1 : PySem.PyData.depth (.int i) ≤ 1 := by unfold PySem.PyData.depth; omega
    omega
theorem shaped_ints (ns : List Int) : PySem.SeqAt.shaped (.list (ns.map .int)) = true := by
  have h1 := lay_ints ns
  have h2 := depth_ints ns
  have h3 : PySem.PyData.depth (.list (ns.map .int)) ≤ 64 := by
    show PySem.PyData.depthAll (ns.map .int) + 1 ≤ 64
    omega
  show (PySem.PyData.canLayAll0 (ns.map .int) && decide (PySem.PyData.depth (.list (ns.map .int)) ≤ 64)) = true
  rw [h1, decide_eq_true h3]
  rfl
theorem eq_nil {p : Nat} {S : Sto} {ns : List Int} (h : S[p]? = some (.lst (ns.map .int))) : deepEq (.d (.loc p)) (.fr []) S = some ns.isEmpty := by
  have h1 : pyD pyF S (.loc p) = some (.list (ns.map .int)) := by
    show (match S[p]? with
      | some (.lst xs) => (mapO (pyD 11 S) xs).map PySem.PyData.list
      | _ => none) = _
    rw [h]
    show (mapO (pyD 11 S) (ns.map .int)).map PySem.PyData.list = _
    rw [mapO_ints]
    rfl
  show ((pyD pyF S (.loc p)).bind fun p => (some (PySem.PyData.list [])).bind fun q => if PySem.SeqAt.shaped p = true ∧ PySem.SeqAt.shaped q = true then some (PySem.PyData.eqv p q) else none) = _
  rw [h1]
  show (if PySem.SeqAt.shaped (.list (ns.map .int)) = true ∧ PySem.SeqAt.shaped (.list []) = true then some (PySem.PyData.eqv (.list (ns.map .int)) (.list [])) else none) = _
  rw [if_pos ⟨shaped_ints ns, shaped_ints []⟩]
  cases ns <;> rfl
theorem take_le {S : Sto} {n : Nat} (h : S.length ≤ n) : S.take n = S := List.take_of_length_le h
/-! ### draws: a box of two whole numbers -/
def Bx (S : Sto) (l : Nat) : Prop := ∃ a b : Int, S[l]? = some (.lst [.int a, .int b])
theorem Bx.lt {S : Sto} {l : Nat} (h : Bx S l) : l < S.length := by
  obtain ⟨a, b, h⟩ := h
  exact (List.getElem?_eq_some_iff.mp h).1
/-- a draw moves the box alone -/
structure Fr (l : Nat) (S S' : Sto) : Prop where
  len : S'.length = S.length
  rest : ∀ j, j ≠ l → S'[j]? = S[j]?
  bx : Bx S' l
theorem Fr.refl {l : Nat} {S : Sto} (h : Bx S l) : Fr l S S := ⟨rfl, fun _ _ => rfl, h⟩
theorem Fr.trans {l : Nat} {S S1 S2 : Sto} (x : Fr l S S1) (y : Fr l S1 S2) : Fr l S S2 := ⟨y.len.trans x.len, fun j h => (y.rest j h).trans (x.rest j h), y.bx⟩
theorem Fr.at {l k : Nat} {S S' : Sto} {o : Option O} (x : Fr l S S') (h : S[k]? = o) (hk : k ≠ l) : S'[k]? = o := by rw [x.rest k hk]; exact h
theorem Fr.set {l : Nat} {S : Sto} {a b : Int} (h : l < S.length) : Fr l S (S.set l (.lst [.int a, .int b])) := ⟨by simp, fun j hj => by rw [List.getElem?_set_ne (fun e => hj e.symm)], a, b, List.getElem?_set_self h⟩
/-- in a def that draws: its own objects come behind -/
structure Gr (l : Nat) (S S' : Sto) : Prop where
  len : S.length ≤ S'.length
  rest : ∀ j, j < S.length → j ≠ l → S'[j]? = S[j]?
  bx : Bx S' l
theorem Gr.refl {l : Nat} {S : Sto} (h : Bx S l) : Gr l S S := ⟨Nat.le_refl _, fun _ _ _ => rfl, h⟩
theorem Gr.fr {l : Nat} {S S1 S2 : Sto} (x : Gr l S S1) (y : Fr l S1 S2) : Gr l S S2 := ⟨by rw [y.len]; exact x.len, fun j h1 h2 => (y.rest j h2).trans (x.rest j h1 h2), y.bx⟩
theorem Gr.push {l : Nat} {S S1 : Sto} (x : Gr l S S1) (T : Sto) : Gr l S (S1 ++ T) := ⟨by have := x.len; simp; omega, fun j h1 h2 => by rw [List.getElem?_append_left (by have := x.len; omega)]; exact x.rest j h1 h2, by
  obtain ⟨a, b, h⟩ := x.bx
  exact ⟨a, b, by rw [List.getElem?_append_left (List.getElem?_eq_some_iff.mp h).1]; exact h⟩⟩
theorem Gr.set {l : Nat} {S S1 : Sto} (x : Gr l S S1) {j : Nat} (o : O) (hj : S.length ≤ j) (hl : j ≠ l) : Gr l S (S1.set j o) := ⟨by rw [List.length_set]; exact x.len, fun i h1 h2 => by rw [List.getElem?_set_ne (by omega)]; exact x.rest i h1 h2, by
  obtain ⟨a, b, h⟩ := x.bx
  exact ⟨a, b, by rw [List.getElem?_set_ne hl]; exact h⟩⟩
theorem Gr.leave {l : Nat} {S S1 : Sto} (x : Gr l S S1) (hl : l < S.length) : Fr l S (S1.take S.length) := ⟨by rw [List.length_take]; have := x.len; omega, fun j h => by
  rw [List.getElem?_take]
  split
  · exact x.rest j ‹_› h
  · exact (List.getElem?_eq_none (by omega)).symm, by
  obtain ⟨a, b, h⟩ := x.bx
  exact ⟨a, b, by rw [List.getElem?_take, if_pos hl]; exact h⟩⟩
def tailOf : Ss → Ss
  | .cons _ r => r
  | s => s
/-- a comprehension that draws nothing -/
theorem ok_filt {rc : Rc} {b : Nat} {e : Env} {S : Sto} {x : E} {t : Tg} {it : It} {ifs : Es} {vs : List Nat} {c : Chk} {xs : List D} (p : D → Bool) (g : D → D) (hi : Ok (evIt rc it b e S) fun r => r = ((c, xs), S)) (hc : c.ok S)
    (h : ∀ d ∈ xs, Ok (evTg rc t b d (wipeE e vs) S) fun q => q.2 = S ∧ Ok ((evEs rc ifs).2 b q.1 S) fun k => k = (p d, S) ∧ (p d = true → Ok ((evE rc x).v b q.1 S) fun w => w = (.d (g d), S))) :
    Ok ((evE rc (.comp x t it ifs vs)).v b e S) fun r => r = (.fr ((xs.filter p).map g), S) := by
  refine ok_comp (Ok.mono hi fun r hr => ?_)
  subst hr
  refine Ok.mono (ok_ccnt (Q := fun r => r = ((xs.filter p).map g, S)) (fun k ys S' => S' = S ∧ ys = ((xs.take k).filter p).map g) ?_ ?_ ?_ ?_) fun r hr => ?_
  · rintro k ys S' ⟨rfl, _⟩
    exact hc
  · rintro k d ys S' hd ⟨rfl, rfl⟩
    have ht : xs.take (k + 1) = xs.take k ++ [d] := by rw [List.take_add_one, hd]; rfl
    obtain ⟨q, e1, e2, h2⟩ := h d (List.mem_of_getElem? hd)
    obtain ⟨q1, q2⟩ := q
    dsimp only at e2
    subst e2
    refine Ok.bind (Ok.eq e1 ?_)
    refine Ok.bind (Ok.mono h2 fun k2 hk => ?_)
    obtain ⟨rfl, h3⟩ := hk
    cases hp : p d with
    | true =>
      refine Ok.bind (Ok.bind (Ok.mono (h3 hp) fun w hw => ?_))
      subst hw
      refine Ok.ok (Ok.ok ⟨rfl, ?_⟩)
      rw [ht, List.filter_append, List.map_append]
      simp [hp, settle]
    | false =>
      refine Ok.ok ⟨rfl, ?_⟩
      rw [ht, List.filter_append, List.map_append]
      simp [hp]
  · rintro ys S' ⟨rfl, rfl⟩
    rw [List.take_length]
  · exact ⟨rfl, rfl⟩
  · rw [hr]
def rngI (n : Nat) : List Int := (List.range n).map fun (i : Nat) => (i : Int)
theorem rngD_int (n : Nat) : rngD 0 n = (rngI n).map .int := by
  unfold rngD rngI
  rw [List.map_map, show ((n : Int) - 0).toNat = n by omega]
  apply List.map_congr_left
  intro a _
  simp
theorem rngI_mem {n : Nat} {i : Int} : i ∈ rngI n ↔ 0 ≤ i ∧ i < n := by
  unfold rngI
  simp
  constructor
  · rintro ⟨a, h, rfl⟩
    omega
  · rintro ⟨h1, h2⟩
    exact ⟨i.toNat, by omega, by omega⟩
theorem filt_int (p : D → Bool) (g : D → D) (ns : List Int) : ((ns.map D.int).filter p).map g = (ns.filter fun i => p (.int i)).map fun i => g (.int i) := by
  rw [List.filter_map, List.map_map]
  rfl
theorem inF_int (x : Int) (ys : List Int) : inF (.int x) (ys.map .int) = ys.any fun y => y == x := by
  unfold inF
  rw [List.any_map]
  rfl
theorem flat_ints (ns : List Int) : (ns.map D.int).all flat = true := by
  rw [List.all_map]
  exact List.all_eq_true.mpr fun _ _ => rfl
theorem in_ints (x : Int) (ys : List Int) (S : Sto) : inG (.int x) (.d (.tup (ys.map .int))) S = some (ys.any fun y => y == x) := by
  rw [inG_tup rfl (flat_ints ys), inF_int]
theorem enumD_rng (xs : List D) : enumD xs = (rngI xs.length).map fun i => .tup [.int i, xs.getD i.toNat .non] := by
  apply List.ext_getElem?
  intro k
  unfold enumD rngI
  rw [List.map_map, List.getElem?_map, List.getElem?_zipIdx, List.getElem?_map]
  by_cases hk : k < xs.length
  · rw [List.getElem?_eq_getElem hk, List.getElem?_range hk]
    simp [hk]
  · rw [List.getElem?_eq_none (by omega), List.getElem?_eq_none (by simp; omega)]
    rfl
/-- a call that leaves the store as it was, of a plain value -/
theorem ok_callP {rc : Rc} {b f : Nat} {e : Env} {S : Sto} {es ks : Es} {perm : List Nat} {as cs : List D} {v : D} (ha : (evEs rc es).1 S.length e S = .ok (as, S)) (hk : (evEs rc ks).1 S.length e S = .ok (cs, S)) (h : Ok (rc f (arr perm (as ++ cs)) S) fun r => r = (.d v, S)) (hp : v.pure = true) :
    Ok ((evE rc (.call f es ks perm)).v b e S) fun r => r = (.d v, S) := by
  refine ok_call (Ok.eq ha (Ok.eq hk (Ok.mono h fun r hr => ?_)))
  rw [hr, leave_pure hp, take_self]
theorem eq_of {α : Type} {r : Rs α} {a : α} (h : Ok r fun x => x = a) : r = .ok a := by
  obtain ⟨x, e, rfl⟩ := h
  exact e
end Pv
set_option linter.all false
set_option autoImplicit false
/-! Expressions that leave the store as it is, told part by part. -/
namespace Pv
open PySem (Str)
section
variable {rc : Rc} {e : Env} {S : Sto}
def PV (rc : Rc) (e : Env) (S : Sto) (x : E) (v : Vl) : Prop := ∀ b, (evE rc x).v b e S = .ok (v, S)
def PT (rc : Rc) (e : Env) (S : Sto) (x : E) (k : Bool) : Prop := ∀ b, (evE rc x).t b e S = .ok (k, S)
def PEs (rc : Rc) (e : Env) (S : Sto) (es : Es) (vs : List D) : Prop := ∀ b, (evEs rc es).1 b e S = .ok (vs, S)
def PTs (rc : Rc) (e : Env) (S : Sto) (es : Es) (k : Bool) : Prop := ∀ b, (evEs rc es).2 b e S = .ok (k, S)
def PI (rc : Rc) (e : Env) (S : Sto) (it : It) (c : Chk) (xs : List D) : Prop := ∀ b, evIt rc it b e S = .ok ((c, xs), S)
def PO (rc : Rc) (e : Env) (S : Sto) (o : Oe) (i : Option Int) : Prop := ∀ b, evO rc o b e S = .ok (i, S)
theorem pv_var {i : Nat} {v : D} (h : e[i]? = some (some v)) : PV rc e S (.var i) (.d v) := fun b => by rw [v_var, h]
theorem pv_cn (c : D) : PV rc e S (.cn c) (.d c) := fun _ => rfl
theorem pes_nil : PEs rc e S .nil [] := fun _ => rfl
theorem pes_cons {x : E} {es : Es} {v : D} {vs : List D} (h : PV rc e S x (.d v)) (hs : PEs rc e S es vs) : PEs rc e S (.cons x es) (v :: vs) := fun b => by
  rw [l_cons, h b, ok_bind]
  show ((evEs rc es).1 b e S >>= _) = _
  rw [hs b]
  rfl
theorem pv_tup {es : Es} {vs : List D} (h : PEs rc e S es vs) (hl : vs.length ≤ 16777216) : PV rc e S (.tup es) (.d (.tup vs)) := fun b => by
  rw [v_tup, h b, ok_bind]
  exact if_pos hl
theorem pv_lst {es : Es} {vs : List D} (h : PEs rc e S es vs) (hl : vs.length ≤ 16777216) : PV rc e S (.lst es) (.fr vs) := fun b => by
  rw [v_lst, h b, ok_bind]
  exact if_pos hl
theorem pv_neg {x : E} {i : Int} (h : PV rc e S x (.d (.int i))) : PV rc e S (.neg x) (.d (.int (-i))) := fun b => by rw [v_neg, h b]; rfl
theorem pv_not {x : E} {v : Vl} {k : Bool} (h : PV rc e S x v) (hk : truth v S = some k) : PV rc e S (.not x) (.d (.bl (!k))) := fun b => by
  rw [v_not, h b, ok_bind]
  show (Rs.ofO (truth v S) >>= _) = _
  rw [hk]
  rfl
theorem pv_bin {o : Bo} {x y : E} {v w u : Vl} (hx : PV rc e S x v) (hy : PV rc e S y w) (h : binV o v w S = some u) : PV rc e S (.bin o x y) u := fun b => by
  rw [v_bin, hx b, ok_bind]
  show ((evE rc y).v b e S >>= _) = _
  rw [hy b, ok_bind]
  show (Rs.ofO (binV o v w S) >>= _) = _
  rw [h]
  rfl
theorem pv_bini {o : Bo} {x y : E} {i j k : Int} (hx : PV rc e S x (.d (.int i))) (hy : PV rc e S y (.d (.int j))) (h : binI o i j = some k) : PV rc e S (.bin o x y) (.d (.int k)) := pv_bin hx hy (by rw [binV_int, h]; rfl)
theorem pv_cmp {o : Co} {x y : E} {v w : Vl} {k : Bool} (hx : PV rc e S x v) (hy : PV rc e S y w) (h : cmpV o v w S = some k) : PV rc e S (.cmp o x y) (.d (.bl k)) := fun b => by
  rw [v_cmp, hx b, ok_bind]
  show ((evE rc y).v b e S >>= _) = _
  rw [hy b, ok_bind]
  show (Rs.ofO (cmpV o v w S) >>= _) = _
  rw [h]
  rfl
theorem pv_idx {x i : E} {v : Vl} {k : Int} {xs : List D} {u : D} (hx : PV rc e S x v) (hi : PV rc e S i (.d (.int k))) (h1 : items v S = some xs) (h2 : atI xs k = some u) : PV rc e S (.idx x i) (.d u) := fun b => by
  rw [v_idx, hx b, ok_bind]
  show ((evE rc i).v b e S >>= _) = _
  rw [hi b, ok_bind]
  show (Rs.ofO ((items v S).bind fun xs => atI xs k) >>= _) = _
  rw [h1]
  show (Rs.ofO (atI xs k) >>= _) = _
  rw [h2]
  rfl
theorem pv_f1 {o : F1} {x : E} {v w : Vl} (hx : PV rc e S x v) (h : app1 o v S = some w) : PV rc e S (.f1 o x) w := fun b => by
  rw [v_f1, hx b, ok_bind]
  show (Rs.ofO (app1 o v S) >>= _) = _
  rw [h]
  rfl
theorem pv_f2 {o : F2} {x y : E} {v w u : D} (hx : PV rc e S x (.d v)) (hy : PV rc e S y (.d w)) (h : app2 o v w = some u) : PV rc e S (.f2 o x y) (.d u) := fun b => by
  rw [v_f2, hx b, ok_bind]
  show ((evE rc y).v b e S >>= _) = _
  rw [hy b, ok_bind]
  show (Rs.ofO (app2 o v w) >>= _) = _
  rw [h]
  rfl
theorem pv_isi {x : E} {t : Ty} {v : D} {k : Bool} (hx : PV rc e S x (.d v)) (h : isTy v t S = some k) : PV rc e S (.isi x t) (.d (.bl k)) := fun b => by
  rw [v_isi, hx b, ok_bind]
  show (Rs.ofO (isTy v t S) >>= _) = _
  rw [h]
  rfl
theorem po_none : PO rc e S .none none := fun _ => rfl
theorem po_some {x : E} {i : Int} (h : PV rc e S x (.d (.int i))) : PO rc e S (.some x) (some i) := fun b => by
  rw [o_some, h b]
  rfl
theorem pv_sl {x : E} {lo hi : Oe} {v w : Vl} {i j : Option Int} (hx : PV rc e S x v) (hl : PO rc e S lo i) (hh : PO rc e S hi j) (h : sliceV v i j S = some w) : PV rc e S (.sl x lo hi) w := fun b => by
  rw [v_sl, hx b, ok_bind]
  show (evO rc lo b e S >>= _) = _
  rw [hl b, ok_bind]
  show (evO rc hi b e S >>= _) = _
  rw [hh b, ok_bind]
  show (Rs.ofO (sliceV v i j S) >>= _) = _
  rw [h]
  rfl
theorem pv_list {hi : E} {k : Int} (h : PV rc e S hi (.d (.int k))) (hk : k ≤ 1000000) (hk0 : -1000000 ≤ k) : PV rc e S (.mkr .list .none hi) (.fr (rngD 0 k)) := fun b => by
  rw [v_mkr0 .list hi (h b) hk hk0 (.inl rfl)]
  rfl
theorem pv_tuple {hi : E} {k : Int} (h : PV rc e S hi (.d (.int k))) (hk : k ≤ 1000000) (hk0 : -1000000 ≤ k) : PV rc e S (.mkr .tuple .none hi) (.d (.tup (rngD 0 k))) := fun b => by
  rw [v_mkr0 .tuple hi (h b) hk hk0 (.inr rfl)]
  rfl
theorem pv_call {f : Nat} {es ks : Es} {perm : List Nat} {as cs ds : List D} {v : D} (ha : PEs rc e S es as) (hk : PEs rc e S ks cs) (hd : arr perm (as ++ cs) = ds) (h : Ok (rc f ds S) fun r => r = (.d v, S)) (hp : v.pure = true) : PV rc e S (.call f es ks perm) (.d v) := fun b => eq_of (ok_callP (ha _) (hk _) (by rw [hd]; exact h) hp)
theorem pv_call0 {f : Nat} {es : Es} {perm : List Nat} {as ds : List D} {v : D} (ha : PEs rc e S es as) (h : Ok (rc f ds S) fun r => r = (.d v, S)) (hp : v.pure = true) (hd : arr perm as = ds) : PV rc e S (.call f es .nil perm) (.d v) := pv_call ha pes_nil (by rw [List.append_nil]; exact hd) h hp
theorem pv_callk {f : Nat} {es : Es} {perm : List Nat} {as ds : List D} {v : D} (ha : PEs rc e S es as) (h : Ok (rc f ds S) fun r => r = (.d v, S)) (hp : v.pure = true) (hd : arr perm as = ds) : PV rc e S (.call f .nil es perm) (.d v) := pv_call pes_nil ha hd h hp
theorem pv_ite {c x y : E} {k : Bool} {v : Vl} (hc : PT rc e S c k) (h1 : k = true → PV rc e S x v) (h2 : k = false → PV rc e S y v) : PV rc e S (.ite c x y) v := fun b => by
  rw [v_ite, hc b, ok_bind]
  cases k with
  | true => exact h1 rfl b
  | false => exact h2 rfl b
theorem pv_andb {x y : E} {k l : Bool} (hx : PV rc e S x (.d (.bl k))) (hy : k = true → PV rc e S y (.d (.bl l))) : PV rc e S (.and x y) (.d (.bl (k && l))) := fun b => by
  rw [v_and, hx b, ok_bind]
  cases k with
  | true => exact hy rfl b
  | false => rfl
theorem pv_orb {x y : E} {k l : Bool} (hx : PV rc e S x (.d (.bl k))) (hy : k = false → PV rc e S y (.d (.bl l))) : PV rc e S (.or x y) (.d (.bl (k || l))) := fun b => by
  rw [v_or, hx b, ok_bind]
  cases k with
  | true => rfl
  | false => exact hy rfl b
theorem pt_of {x : E} {v : Vl} {k : Bool} (h : PV rc e S x v) (ht : (evE rc x).t = sT (evE rc x).v) (hk : truth v S = some k) : PT rc e S x k := fun b => by
  rw [ht]
  show ((evE rc x).v b e S >>= _) = _
  rw [h b, ok_bind]
  show (Rs.ofO (truth v S) >>= _) = _
  rw [hk]
  rfl
theorem pt_not {x : E} {k : Bool} (h : PT rc e S x k) : PT rc e S (.not x) (!k) := fun b => by rw [t_not, h b]; rfl
theorem pt_and {x y : E} {k l : Bool} (hx : PT rc e S x k) (hy : k = true → PT rc e S y l) : PT rc e S (.and x y) (k && l) := fun b => by
  rw [t_and, hx b, ok_bind]
  cases k with
  | true => exact hy rfl b
  | false => rfl
theorem pt_or {x y : E} {k l : Bool} (hx : PT rc e S x k) (hy : k = false → PT rc e S y l) : PT rc e S (.or x y) (k || l) := fun b => by
  rw [t_or, hx b, ok_bind]
  cases k with
  | true => rfl
  | false => exact hy rfl b
theorem pts_nil : PTs rc e S .nil true := fun _ => rfl
theorem pts_cons {x : E} {es : Es} {k l : Bool} (hx : PT rc e S x k) (hs : k = true → PTs rc e S es l) : PTs rc e S (.cons x es) (k && l) := fun b => by
  rw [e2_cons, hx b, ok_bind]
  cases k with
  | true => exact hs rfl b
  | false => rfl
theorem pts_one {x : E} {k : Bool} (hx : PT rc e S x k) : PTs rc e S (.cons x .nil) k := fun b => by
  rw [e2_cons, hx b, ok_bind]
  cases k <;> rfl
/-! iterables -/
theorem pi_rng0 {hi : E} {k : Int} (h : PV rc e S hi (.d (.int k))) (hk : k ≤ 1000000) (hk0 : -1000000 ≤ k) : PI rc e S (.rng .none hi) [] (rngD 0 k) := fun b => i_rng0 hi (h b) hk hk0
theorem pi_rng {lo hi : E} {j k : Int} (hl : PV rc e S lo (.d (.int j))) (h : PV rc e S hi (.d (.int k))) (hj : j ≤ 1000000) (hj0 : -1000000 ≤ j) (hk : k ≤ 1000000) (hk0 : -1000000 ≤ k) : PI rc e S (.rng (.some lo) hi) [] (rngD j k) := fun b => by
  rw [i_rng, po_some hl b, ok_bind]
  show (((evE rc hi).v b e S >>= _) >>= _) = _
  rw [h b, ok_bind]
  show ((if (-4611686018427387904 ≤ j ∧ j < 4611686018427387904) ∧ (-4611686018427387904 ≤ k ∧ k < 4611686018427387904) then Rs.ok ((j, k), S) else .bad) >>= _) = _
  rw [if_pos ⟨by omega, by omega⟩]
  show (if (k - j).toNat ≤ line then Rs.ok (([], rngD j k), S) else .bad) = _
  rw [if_pos (by unfold line; omega)]
theorem pi_e {x : E} {v : Vl} {xs : List D} {c : Chk} (h : PV rc e S x v) (h1 : items v S = some xs) (hc : chkOf v S = c) : PI rc e S (.e x) c xs := fun b => by
  rw [i_e, h b, ok_bind]
  show (Rs.ofO (items v S) >>= fun xs => Rs.ok ((chkOf v S, xs), S)) = _
  rw [h1, hc]
  rfl
theorem pi_enum {x : E} {v : Vl} {xs : List D} {c : Chk} (h : PV rc e S x v) (h1 : items v S = some xs) (hc : chkOf v S = c) : PI rc e S (.enum x) c (enumD xs) := fun b => by
  rw [i_enum, h b, ok_bind]
  show (Rs.ofO (items v S) >>= fun xs => Rs.ok ((chkOf v S, enumD xs), S)) = _
  rw [h1, hc]
  rfl
theorem pi_rev {x : E} {v : Vl} {xs : List D} {c : Chk} (h : PV rc e S x v) (h1 : items v S = some xs) (hc : chkOf v S = c) : PI rc e S (.rev x) c xs.reverse := fun b => by
  rw [i_rev, h b, ok_bind]
  show (Rs.ofO (items v S) >>= fun xs => Rs.ok ((chkOf v S, xs.reverse), S)) = _
  rw [h1, hc]
  rfl
theorem pi_zipT {x y : E} {xs ys : List D} (h : PV rc e S x (.d (.tup xs))) (h2 : PV rc e S y (.d (.tup ys))) : PI rc e S (.zip x y) [] (zipD xs ys) := fun b => by
  rw [i_zip, h b, ok_bind]
  show ((evE rc y).v b e S >>= _) = _
  rw [h2 b]
  rfl
/-- [x for i in it if ifs] -/
theorem pv_comp {x : E} {t : Tg} {it : It} {ifs : Es} {vs : List Nat} {c : Chk} {xs : List D} (p : D → Bool) (g : D → D) (hi : PI rc e S it c xs) (hc : c.ok S)
    (h : ∀ d ∈ xs, ∃ e1, (∀ b, evTg rc t b d (wipeE e vs) S = .ok (e1, S)) ∧ PTs rc e1 S ifs (p d) ∧ (p d = true → PV rc e1 S x (.d (g d)))) :
    PV rc e S (.comp x t it ifs vs) (.fr ((xs.filter p).map g)) := fun b => by
  refine eq_of (ok_filt p g (Ok.eq (hi b) rfl) hc fun d hd => ?_)
  obtain ⟨e1, h1, h2, h3⟩ := h d hd
  exact Ok.eq (h1 b) ⟨rfl, Ok.eq (h2 b) ⟨rfl, fun hp => Ok.eq (h3 hp b) rfl⟩⟩
theorem pv_compI {x : E} {i : Nat} {it : It} {ifs : Es} {vs : List Nat} {c : Chk} {ns : List Int} (p : Int → Bool) (g : Int → D) (hi : PI rc e S it c (ns.map .int)) (hc : c.ok S)
    (h : ∀ d ∈ ns, PTs rc ((wipeE e vs).set i (some (.int d))) S ifs (p d) ∧ (p d = true → PV rc ((wipeE e vs).set i (some (.int d))) S x (.d (g d)))) :
    PV rc e S (.comp x (.var i) it ifs vs) (.fr ((ns.filter p).map g)) := by
  have h2 : PV rc e S (.comp x (.var i) it ifs vs) (.fr (((ns.map D.int).filter fun d => match d with
    | .int k => p k
    | _ => false).map fun d => match d with
    | .int k => g k
    | _ => .non)) := pv_comp _ _ hi hc fun d hd => by
    obtain ⟨k, hk, rfl⟩ := List.mem_map.mp hd
    exact ⟨_, fun b => rfl, (h k hk).1, (h k hk).2⟩
  rw [filt_int] at h2
  exact h2
theorem pv_m1 {m : M1} {x y : E} {b : Nat} {l : Nat} {xs : List D} {v : D} (hx : PV rc e S x (.d (.loc l))) (hl : S[l]? = some (.lst xs)) (hy : PV rc e S y (.d v)) : (evE rc (.m1 m x y)).v b e S = meth1 b m (.loc l) v S := by
  rw [v_m1, hx b, ok_bind]
  show (Rs.ofO (match S[l]? with
    | some (.lst _) => some ()
    | _ => none) >>= _) = _
  rw [hl]
  show ((evE rc y).v b e S >>= _) = _
  rw [hy b]
  rfl
theorem pv_m1F {m : M1} {x y : E} {b : Nat} {l : Nat} {xs ys : List D} (hx : PV rc e S x (.d (.loc l))) (hl : S[l]? = some (.lst xs)) (hy : PV rc e S y (.fr ys)) : (evE rc (.m1 m x y)).v b e S = meth1 b m (.loc l) (.loc S.length) (S ++ [.lst ys]) := by
  rw [v_m1, hx b, ok_bind]
  show (Rs.ofO (match S[l]? with
    | some (.lst _) => some ()
    | _ => none) >>= _) = _
  rw [hl]
  show ((evE rc y).v b e S >>= _) = _
  rw [hy b]
  rfl
end
/-! statements -/
section
variable {rc : Rc} {b : Nat} {e : Env} {S : Sto} {Q : Fl × Env × Sto → Prop}
theorem st_asg {i : Nat} {x : E} {v : D} {r : Ss} (hx : PV rc e S x (.d v)) (h : Ok (evSs rc r b (e.set i (some v)) S) Q) : Ok (evSs rc (.cons (.asg (.var i) x) r) b e S) Q := ok_asg (Ok.eq (hx b) h)
theorem st_asgF {i : Nat} {x : E} {xs : List D} {r : Ss} (hx : PV rc e S x (.fr xs)) (h : Ok (evSs rc r b (e.set i (some (.loc S.length))) (S ++ [.lst xs])) Q) : Ok (evSs rc (.cons (.asg (.var i) x) r) b e S) Q := ok_asg (Ok.eq (hx b) h)
theorem st_asgG {t : Tg} {x : E} {v : D} {e1 : Env} {S1 : Sto} {r : Ss} (hx : PV rc e S x (.d v)) (ht : evTg rc t b v e S = .ok (e1, S1)) (h : Ok (evSs rc r b e1 S1) Q) : Ok (evSs rc (.cons (.asg t x) r) b e S) Q := ok_asgG (Ok.eq (hx b) (Ok.eq ht h))
theorem st_ite {c : E} {x y r : Ss} {k : Bool} (hc : PT rc e S c k) (h1 : k = true → Ok (evSs rc x b e S) (Then rc r b Q)) (h2 : k = false → Ok (evSs rc y b e S) (Then rc r b Q)) : Ok (evSs rc (.cons (.ite c x y) r) b e S) Q := ok_ite (Ok.eq (hc b) ⟨h1, h2⟩)
theorem st_yes {c : E} {x y r : Ss} (hc : PT rc e S c true) (h : Ok (evSs rc x b e S) (Then rc r b Q)) : Ok (evSs rc (.cons (.ite c x y) r) b e S) Q := st_ite hc (fun _ => h) (fun h => by cases h)
theorem st_no {c : E} {x y r : Ss} (hc : PT rc e S c false) (h : Ok (evSs rc y b e S) (Then rc r b Q)) : Ok (evSs rc (.cons (.ite c x y) r) b e S) Q := st_ite hc (fun h => by cases h) (fun _ => h)
/-- if c: .. (not) -/
theorem st_skip {c : E} {x r : Ss} (hc : PT rc e S c false) (h : Ok (evSs rc r b e S) Q) : Ok (evSs rc (.cons (.ite c x .nil) r) b e S) Q := st_no hc (ok_nil (Then.nx h))
/-- if c: .. or not, without an else -/
theorem st_if {c : E} {x r : Ss} {k : Bool} (hc : PT rc e S c k) (h1 : k = true → Ok (evSs rc x b e S) (Then rc r b Q)) (h2 : k = false → Ok (evSs rc r b e S) Q) : Ok (evSs rc (.cons (.ite c x .nil) r) b e S) Q := st_ite hc h1 (fun h => ok_nil (Then.nx (h2 h)))
theorem st_ret {x : E} {v : Vl} {r : Ss} (hx : PV rc e S x v) (h : Q (.rt v, e, S)) : Ok (evSs rc (.cons (.ret x) r) b e S) Q := ok_ret (Ok.eq (hx b) h)
theorem st_for {t : Tg} {it : It} {body r : Ss} {c : Chk} {xs : List D} (hi : PI rc e S it c xs) (h : Ok (forL c (fun d e S => evTg rc t b d e S >>= fun p => evSs rc body b p.1 p.2) xs e S) (Then rc r b Q)) : Ok (evSs rc (.cons (.for t it body) r) b e S) Q := ok_for (Ok.eq (hi b) h)
theorem st_app {x y : E} {r : Ss} {l : Nat} {xs : List D} {v : D} (hx : PV rc e S x (.d (.loc l))) (hl : S[l]? = some (.lst xs)) (hn : xs.length < 16777216) (hy : PV rc e S y (.d v)) (hw : wr b l v) (h : Ok (evSs rc r b e (S.set l (.lst (xs ++ [v])))) Q) : Ok (evSs rc (.cons (.expr (.m1 .append x y)) r) b e S) Q := ok_expr (Ok.eq ((pv_m1 hx hl hy).trans (meth_app hl hn hw)) h)
end
/-- a def that leaves the store as it was -/
theorem fn_pure {T : Nat → Option Df} {n f : Nat} {d : Df} {ds : List D} {S : Sto} {v : D} (hT : T f = some d) (hl : ds.length = d.np) (hp : v.pure = true) (h : Ok (evSs (callN T n) d.body S.length (env0 d.nv ds) S) fun r => r.1 = .rt (.d v) ∧ r.2.2.take S.length = S) : Ok (callN T (n + 1) f ds S) fun r => r = (.d v, S) := ok_fn hT hl (Ok.mono h fun r ⟨h1, h2⟩ => by
  obtain ⟨fl, e1, S1⟩ := r
  cases h1
  refine ⟨_, rfl, ?_⟩
  rw [leave_pure hp]
  exact congrArg _ h2)
/-! expressions that may move the store -/
section
variable {rc : Rc} {b : Nat} {e : Env} {S : Sto}
theorem ev_pv {x : E} {v : Vl} {Q : Vl × Sto → Prop} (h : PV rc e S x v) (hq : Q (v, S)) : Ok ((evE rc x).v b e S) Q := Ok.eq (h b) hq
theorem ev_bin {o : Bo} {x y : E} {Q : Vl × Sto → Prop} (h : Ok ((evE rc x).v b e S) fun r => Ok ((evE rc y).v b e r.2) fun q => ∃ v, binV o r.1 q.1 q.2 = some v ∧ Q (v, q.2)) : Ok ((evE rc (.bin o x y)).v b e S) Q := by
  rw [v_bin]
  refine Ok.bind (Ok.mono h fun r hr => Ok.bind (Ok.mono hr fun q hq => ?_))
  obtain ⟨v, h1, h2⟩ := hq
  rw [h1]
  exact Ok.ok h2
theorem ev_cmp {o : Co} {x y : E} {Q : Vl × Sto → Prop} (h : Ok ((evE rc x).v b e S) fun r => Ok ((evE rc y).v b e r.2) fun q => ∃ k, cmpV o r.1 q.1 q.2 = some k ∧ Q (.d (.bl k), q.2)) : Ok ((evE rc (.cmp o x y)).v b e S) Q := by
  rw [v_cmp]
  refine Ok.bind (Ok.mono h fun r hr => Ok.bind (Ok.mono hr fun q hq => ?_))
  obtain ⟨v, h1, h2⟩ := hq
  rw [h1]
  exact Ok.ok h2
theorem ev_f1 {o : F1} {x : E} {Q : Vl × Sto → Prop} (h : Ok ((evE rc x).v b e S) fun r => ∃ v, app1 o r.1 r.2 = some v ∧ Q (v, r.2)) : Ok ((evE rc (.f1 o x)).v b e S) Q := by
  rw [v_f1]
  refine Ok.bind (Ok.mono h fun r hr => ?_)
  obtain ⟨v, h1, h2⟩ := hr
  rw [h1]
  exact Ok.ok h2
theorem ev_tup {es : Es} {Q : Vl × Sto → Prop} (h : Ok ((evEs rc es).1 b e S) fun w => w.1.length ≤ 16777216 ∧ Q (.d (.tup w.1), w.2)) : Ok ((evE rc (.tup es)).v b e S) Q := by
  rw [v_tup]
  refine Ok.bind (Ok.mono h fun r hr => ?_)
  rw [if_pos (show r.1.length ≤ line from hr.1)]
  exact Ok.ok hr.2
theorem ev_lst {es : Es} {Q : Vl × Sto → Prop} (h : Ok ((evEs rc es).1 b e S) fun w => w.1.length ≤ 16777216 ∧ Q (.fr w.1, w.2)) : Ok ((evE rc (.lst es)).v b e S) Q := by
  rw [v_lst]
  refine Ok.bind (Ok.mono h fun r hr => ?_)
  rw [if_pos (show r.1.length ≤ line from hr.1)]
  exact Ok.ok hr.2
theorem ev_ite {c x y : E} {Q : Vl × Sto → Prop} (h : Ok ((evE rc c).t b e S) fun k => (k.1 = true → Ok ((evE rc x).v b e k.2) Q) ∧ (k.1 = false → Ok ((evE rc y).v b e k.2) Q)) : Ok ((evE rc (.ite c x y)).v b e S) Q := by
  rw [v_ite]
  refine Ok.bind (Ok.mono h fun r hr => ?_)
  obtain ⟨k, S1⟩ := r
  cases k with
  | true => exact hr.1 rfl
  | false => exact hr.2 rfl
theorem es_nil {Q : List D × Sto → Prop} (h : Q ([], S)) : Ok ((evEs rc .nil).1 b e S) Q := Ok.ok h
theorem es_cons {x : E} {es : Es} {Q : List D × Sto → Prop} (h : Ok ((evE rc x).v b e S) fun r => Ok ((evEs rc es).1 b e (settle r.1 r.2).2) fun q => Q ((settle r.1 r.2).1 :: q.1, q.2)) : Ok ((evEs rc (.cons x es)).1 b e S) Q := by
  rw [l_cons]
  exact Ok.bind (Ok.mono h fun r hr => Ok.bind (Ok.mono hr fun q hq => Ok.ok hq))
theorem es_pv {x : E} {es : Es} {v : D} {Q : List D × Sto → Prop} (hx : PV rc e S x (.d v)) (h : Ok ((evEs rc es).1 b e S) fun q => Q (v :: q.1, q.2)) : Ok ((evEs rc (.cons x es)).1 b e S) Q := es_cons (ev_pv hx h)
theorem et_of {x : E} {Q : Bool × Sto → Prop} (ht : (evE rc x).t = sT (evE rc x).v) (h : Ok ((evE rc x).v b e S) fun r => ∃ k, truth r.1 r.2 = some k ∧ Q (k, r.2)) : Ok ((evE rc x).t b e S) Q := by
  rw [ht]
  refine Ok.bind (Ok.mono h fun r hr => ?_)
  obtain ⟨k, h1, h2⟩ := hr
  rw [h1]
  exact Ok.ok h2
theorem et_pt {x : E} {k : Bool} {Q : Bool × Sto → Prop} (h : PT rc e S x k) (hq : Q (k, S)) : Ok ((evE rc x).t b e S) Q := Ok.eq (h b) hq
theorem et_not {x : E} {Q : Bool × Sto → Prop} (h : Ok ((evE rc x).t b e S) fun k => Q (!k.1, k.2)) : Ok ((evE rc (.not x)).t b e S) Q := by
  rw [t_not]
  exact Ok.bind (Ok.mono h fun r hr => Ok.ok hr)
theorem et_or {x y : E} {Q : Bool × Sto → Prop} (h : Ok ((evE rc x).t b e S) fun k => (k.1 = true → Q (true, k.2)) ∧ (k.1 = false → Ok ((evE rc y).t b e k.2) Q)) : Ok ((evE rc (.or x y)).t b e S) Q := by
  rw [t_or]
  refine Ok.bind (Ok.mono h fun r hr => ?_)
  obtain ⟨k, S1⟩ := r
  cases k with
  | true => exact Ok.ok (hr.1 rfl)
  | false => exact hr.2 rfl
theorem et_and {x y : E} {Q : Bool × Sto → Prop} (h : Ok ((evE rc x).t b e S) fun k => (k.1 = false → Q (false, k.2)) ∧ (k.1 = true → Ok ((evE rc y).t b e k.2) Q)) : Ok ((evE rc (.and x y)).t b e S) Q := by
  rw [t_and]
  refine Ok.bind (Ok.mono h fun r hr => ?_)
  obtain ⟨k, S1⟩ := r
  cases k with
  | false => exact Ok.ok (hr.1 rfl)
  | true => exact hr.2 rfl
end
theorem pi_rngI {rc : Rc} {e : Env} {S : Sto} {hi : E} {k : Int} (h : PV rc e S hi (.d (.int k))) (k0 : 0 ≤ k) (hk : k ≤ 1000000) : PI rc e S (.rng .none hi) [] ((rngI k.toNat).map .int) := by
  rw [← rngD_int, show ((k.toNat : Nat) : Int) = k by omega]
  exact pi_rng0 h hk (by omega)
theorem pv_lenM {rc : Rc} {e : Env} {S : Sto} {x : E} {α : Type} {f : α → D} {l : List α} (h : PV rc e S x (.d (.tup (l.map f)))) : PV rc e S (.f1 .len x) (.d (.int l.length)) := pv_f1 h (by rw [app_len]; simp)
theorem pv_lenF {rc : Rc} {e : Env} {S : Sto} {x : E} {α : Type} {f : α → D} {l : List α} (h : PV rc e S x (.fr (l.map f))) : PV rc e S (.f1 .len x) (.d (.int l.length)) := pv_f1 h (by rw [app_len]; simp)
theorem items_loc {S : Sto} {p : Nat} {xs : List D} (h : S[p]? = some (.lst xs)) : items (.d (.loc p)) S = some xs := by
  show (match S[p]? with
    | some (.lst xs) => some xs
    | _ => none) = _
  rw [h]
theorem chk_loc {S : Sto} {p : Nat} {xs : List D} (h : S[p]? = some (.lst xs)) : chkOf (.d (.loc p)) S = [(p, .lst xs)] := by
  rw [chkOf_loc, h]
theorem pv_lenL {rc : Rc} {e : Env} {S : Sto} {x : E} {p : Nat} {xs : List D} (h : PV rc e S x (.d (.loc p))) (hp : S[p]? = some (.lst xs)) : PV rc e S (.f1 .len x) (.d (.int xs.length)) := pv_f1 h (by rw [app_len, items_loc hp]; rfl)
theorem pv_idxL {rc : Rc} {e : Env} {S : Sto} {x i : E} {p : Nat} {k : Int} {xs : List D} {u : D} (hx : PV rc e S x (.d (.loc p))) (hp : S[p]? = some (.lst xs)) (hi : PV rc e S i (.d (.int k))) (h2 : atI xs k = some u) : PV rc e S (.idx x i) (.d u) := pv_idx hx hi (items_loc hp) h2
theorem pi_loc {rc : Rc} {e : Env} {S : Sto} {x : E} {p : Nat} {xs : List D} (h : PV rc e S x (.d (.loc p))) (hp : S[p]? = some (.lst xs)) : PI rc e S (.e x) [(p, .lst xs)] xs := pi_e h (items_loc hp) (chk_loc hp)
/-- [x for i in it if ifs], it told as images -/
theorem pv_compM {rc : Rc} {e : Env} {S : Sto} {x : E} {t : Tg} {it : It} {ifs : Es} {vs : List Nat} {c : Chk} {α : Type} {f : α → D} {ns : List α} (p : α → Bool) (g : α → D) (hi : PI rc e S it c (ns.map f)) (hc : c.ok S)
    (h : ∀ d ∈ ns, ∃ e1, (∀ b, evTg rc t b (f d) (wipeE e vs) S = .ok (e1, S)) ∧ PTs rc e1 S ifs (p d) ∧ (p d = true → PV rc e1 S x (.d (g d)))) :
    PV rc e S (.comp x t it ifs vs) (.fr ((ns.filter p).map g)) := fun b => by
  refine eq_of (ok_comp (Ok.eq (hi b) ?_))
  refine Ok.mono (ok_ccnt (Q := fun r => r = ((ns.filter p).map g, S)) (fun k ys S' => S' = S ∧ ys = ((ns.take k).filter p).map g) ?_ ?_ ?_ ⟨rfl, rfl⟩) fun r hr => by rw [hr]
  · rintro k ys S' ⟨rfl, _⟩
    exact hc
  · rintro k d ys S' hd ⟨rfl, rfl⟩
    rw [List.getElem?_map] at hd
    obtain ⟨a, ha, rfl⟩ := Option.map_eq_some_iff.mp hd
    have ht : ns.take (k + 1) = ns.take k ++ [a] := by rw [List.take_add_one, ha]; rfl
    obtain ⟨e1, h1, h2, h3⟩ := h a (List.mem_of_getElem? ha)
    refine Ok.bind (Ok.eq (h1 b) (Ok.bind (Ok.eq (h2 b) ?_)))
    cases hp : p a with
    | true =>
      refine Ok.bind (Ok.bind (Ok.eq (h3 hp b) ?_))
      refine Ok.ok (Ok.ok ⟨rfl, ?_⟩)
      rw [ht, List.filter_append, List.map_append]
      simp [hp, settle]
    | false =>
      refine Ok.ok ⟨rfl, ?_⟩
      rw [ht, List.filter_append, List.map_append]
      simp [hp]
  · rintro ys S' ⟨rfl, rfl⟩
    rw [List.length_map, List.take_length]
theorem pv_compE {rc : Rc} {e : Env} {S : Sto} {x : E} {i j : Nat} {y : E} {ifs : Es} {vs : List Nat} {c : Chk} {xs : List D} (p : Int → Bool) (g : Int → D) (hi : PI rc e S (.enum y) c (enumD xs)) (hc : c.ok S)
    (h : ∀ o : Int, 0 ≤ o → o < xs.length → PTs rc (((wipeE e vs).set i (some (.int o))).set j (some (xs.getD o.toNat .non))) S ifs (p o) ∧ (p o = true → PV rc (((wipeE e vs).set i (some (.int o))).set j (some (xs.getD o.toNat .non))) S x (.d (g o)))) :
    PV rc e S (.comp x (.tup (.cons (.var i) (.cons (.var j) .nil))) (.enum y) ifs vs) (.fr (((rngI xs.length).filter p).map g)) := by
  rw [enumD_rng] at hi
  refine pv_compM p g hi hc fun o ho => ?_
  obtain ⟨o0, o1⟩ := rngI_mem.mp ho
  exact ⟨_, fun b => rfl, (h o o0 o1).1, (h o o0 o1).2⟩
theorem leave_fr {xs : List D} {S : Sto} : leave S.length (.fr xs) S = (.fr xs, S) := by
  show (if ubL S.length xs = true then (Vl.fr xs, S.take S.length) else (Vl.fr xs, S)) = _
  rw [take_self]
  split <;> rfl
theorem pv_callF {rc : Rc} {e : Env} {S : Sto} {f : Nat} {es ks : Es} {perm : List Nat} {as cs ds : List D} {xs : List D} (ha : PEs rc e S es as) (hk : PEs rc e S ks cs) (h : Ok (rc f ds S) fun r => r = (.fr xs, S)) (hd : arr perm (as ++ cs) = ds) : PV rc e S (.call f es ks perm) (.fr xs) := fun b => by
  refine eq_of (ok_call (Ok.eq (ha _) (Ok.eq (hk _) ?_)))
  rw [hd]
  refine Ok.mono h fun r hr => ?_
  rw [hr, leave_fr]
/-- a list of plain data, the def's own, told -/
theorem leave_own {n l : Nat} {xs : List D} {S : Sto} (h : S[l]? = some (.lst xs)) (hl : n ≤ l) (hp : ∀ x ∈ xs, x.pure = true) : leave n (.d (.loc l)) S = (.fr xs, S.take n) := by
  show (if l < n then (Vl.d (.loc l), S.take n) else match S[l]? with
    | some (.lst xs) => if ubL n xs = true then (.fr xs, S.take n) else (.d (.loc l), S)
    | _ => (.d (.loc l), S)) = _
  rw [if_neg (by omega), h]
  exact if_pos (pureL_ub (pureL_of hp))
theorem leave_frP {n : Nat} {xs : List D} {S : Sto} (hp : ∀ x ∈ xs, x.pure = true) : leave n (.fr xs) S = (.fr xs, S.take n) := if_pos (pureL_ub (pureL_of hp))
theorem atI_map {α : Type} {f : α → D} {l : List α} {i : Int} (d : α) (i0 : 0 ≤ i) (i1 : i < l.length) : atI (l.map f) i = some (f (l.getD i.toNat d)) := by
  obtain ⟨j, rfl⟩ := Int.eq_ofNat_of_zero_le i0
  have hj : j < l.length := by omega
  refine atI_nat ?_
  rw [List.getElem?_map, List.getElem?_eq_getElem hj]
  simp [hj]
theorem in_cmp (x : Int) (ys : List Int) (S : Sto) : cmpV .inn (.d (.int x)) (.d (.tup (ys.map .int))) S = some (ys.any fun y => y == x) := in_ints x ys S
theorem nin_cmp (x : Int) (ys : List Int) (S : Sto) : cmpV .nin (.d (.int x)) (.d (.tup (ys.map .int))) S = some (!(ys.any fun y => y == x)) := by
  show (inG (.int x) (.d (.tup (ys.map .int))) S).map not = _
  rw [in_ints]
  rfl
theorem in_loc {x : Int} {ys : List Int} {S : Sto} {p : Nat} (h : S[p]? = some (.lst (ys.map .int))) : cmpV .inn (.d (.int x)) (.d (.loc p)) S = some (ys.any fun y => y == x) := by
  show orE ((items (.d (.loc p)) S).bind fun xs => if flat (.int x) && xs.all flat then some (inF (.int x) xs) else none) _ = _
  rw [items_loc h]
  show orE (if (ys.map D.int).all flat = true then some (inF (.int x) (ys.map .int)) else none) _ = _
  rw [if_pos (flat_ints ys), inF_int]
  rfl
theorem intsOf_ints : ∀ ns : List Int, intsOf (ns.map .int) = some ns
  | [] => rfl
  | i :: ns => by
    show (intsOf (ns.map .int)).map (fun r => i :: r) = _
    rw [intsOf_ints ns]
    rfl
theorem app_minL {ns : List Int} {S : Sto} {p : Nat} {m : Int} (h : S[p]? = some (.lst (ns.map .int))) (hm : minI ns = some m) : app1 .min (.d (.loc p)) S = some (.d (.int m)) := by
  show ((items (.d (.loc p)) S).bind fun xs => (intsOf xs).bind fun ns => (minI ns).map fun m => Vl.d (.int m)) = _
  rw [items_loc h]
  show ((intsOf (ns.map .int)).bind fun ns => (minI ns).map fun m => Vl.d (.int m)) = _
  rw [intsOf_ints]
  show (minI ns).map (fun m => Vl.d (.int m)) = _
  rw [hm]
  rfl
theorem app_maxF {ns : List Int} {S : Sto} {m : Int} (hm : maxI ns = some m) : app1 .max (.fr (ns.map .int)) S = some (.d (.int m)) := by
  show ((intsOf (ns.map .int)).bind fun ns => (maxI ns).map fun m => Vl.d (.int m)) = _
  rw [intsOf_ints]
  show (maxI ns).map (fun m => Vl.d (.int m)) = _
  rw [hm]
  rfl
theorem app_sortF (ns : List Int) (S : Sto) : app1 .sorted (.fr (ns.map .int)) S = some (.fr ((sortI ns).map .int)) := by
  show (intsOf (ns.map .int)).map (fun ns => Vl.fr ((sortI ns).map .int)) = _
  rw [intsOf_ints]
  rfl
theorem app_sortL {ns : List Int} {S : Sto} {p : Nat} (h : S[p]? = some (.lst (ns.map .int))) : app1 .sorted (.d (.loc p)) S = some (.fr ((sortI ns).map .int)) := by
  show ((items (.d (.loc p)) S).bind fun xs => (intsOf xs).map fun ns => Vl.fr ((sortI ns).map .int)) = _
  rw [items_loc h]
  exact app_sortF ns S
theorem take_push {S S' T : Sto} (h : S'.take S.length = S) : (S' ++ T).take S.length = S := by
  have h2 : S.length ≤ S'.length := by
    have := congrArg List.length h
    rw [List.length_take] at this
    omega
  rw [List.take_append_of_le_length h2, h]
theorem take_setG {S S' : Sto} {p : Nat} {o : O} (h : S'.take S.length = S) (hp : S.length ≤ p) : (S'.set p o).take S.length = S := by
  rw [List.take_set, h, List.set_eq_of_length_le hp]
theorem take_len {S S' : Sto} (h : S'.take S.length = S) : S.length ≤ S'.length := by
  have := congrArg List.length h
  rw [List.length_take] at this
  omega
theorem setI_at {b l : Nat} {xs : List D} {i : Int} {x : D} {S : Sto} (h : S[l]? = some (.lst xs)) (i0 : 0 ≤ i) (i1 : i < xs.length) (hw : wr b l x) : setI b (.loc l) (.int i) x S = .ok (S.set l (.lst (xs.set i.toNat x))) := by
  rw [setI_int, h]
  have : ixN xs.length i = some i.toNat := by
    unfold ixN
    rw [if_pos i0, if_pos i1]
  dsimp only
  rw [this]
  exact if_pos hw
theorem tg_sub {rc : Rc} {b : Nat} {e : Env} {S S1 : Sto} {o i : E} {l : Nat} {k : Int} {x : D} (ho : PV rc e S o (.d (.loc l))) (hi : PV rc e S i (.d (.int k))) (h : setI b (.loc l) (.int k) x S = .ok S1) : evTg rc (.sub o i) b x e S = .ok (e, S1) := by
  rw [g_sub, ho b, ok_bind]
  show ((evE rc i).v b e S >>= _) = _
  rw [hi b, ok_bind]
  show (setI b (.loc l) (.int k) x S >>= _) = _
  rw [h]
  rfl
theorem maxI_top : ∀ ns : List Int, ns ≠ [] → ∃ m, maxI ns = some m ∧ m ∈ ns ∧ ∀ x ∈ ns, x ≤ m
  | [], h => absurd rfl h
  | x :: xs, _ => by
    cases xs with
    | nil => exact ⟨x, rfl, by simp, by simp⟩
    | cons y ys =>
      obtain ⟨m, h1, h2, h3⟩ := maxI_top (y :: ys) (by simp)
      have e : maxI (x :: y :: ys) = some (if m < x then x else m) := by
        show (match maxI (y :: ys) with
          | none => some x
          | some m => some (if m < x then x else m)) = _
        rw [h1]
      refine ⟨_, e, ?_, ?_⟩
      · split
        · simp
        · exact List.mem_cons_of_mem _ h2
      · intro z hz
        rcases List.mem_cons.mp hz with rfl | hz
        · split <;> omega
        · have := h3 z hz
          split <;> omega
theorem ev_m1 {rc : Rc} {b : Nat} {e : Env} {S : Sto} {m : M1} {x y : E} {l : Nat} {xs : List D} {Q : Vl × Sto → Prop} (hx : PV rc e S x (.d (.loc l))) (hl : S[l]? = some (.lst xs)) (h : Ok ((evE rc y).v b e S) fun r => Ok (meth1 b m (.loc l) (settle r.1 r.2).1 (settle r.1 r.2).2) Q) : Ok ((evE rc (.m1 m x y)).v b e S) Q := by
  rw [v_m1, hx b, ok_bind]
  show Ok (Rs.ofO (match S[l]? with
    | some (.lst _) => some ()
    | _ => none) >>= _) _
  rw [hl]
  exact Ok.bind (Ok.ok (Ok.bind h))
theorem tg_two {rc : Rc} {b : Nat} {e : Env} {S S1 S2 : Sto} {t1 t2 : Tg} {u v : D} (h1 : evTg rc t1 b u e S = .ok (e, S1)) (h2 : evTg rc t2 b v e S1 = .ok (e, S2)) : evTg rc (.tup (.cons t1 (.cons t2 .nil))) b (.tup [u, v]) e S = .ok (e, S2) := by
  rw [g_tup, g_cons, h1, ok_bind]
  show (evTgs rc (.cons t2 .nil) b [v] e S1) = _
  rw [g_cons, h2]
  rfl
theorem binV_catL {S : Sto} {p q : Nat} {xs ys : List D} (hp : S[p]? = some (.lst xs)) (hq : S[q]? = some (.lst ys)) (hl : xs.length + ys.length ≤ 16777216) : binV .add (.d (.loc p)) (.d (.loc q)) S = some (.fr (xs ++ ys)) := by
  show ((match S[p]? with
    | some (.lst xs) => some xs
    | _ => none).bind fun xs => (match S[q]? with
    | some (.lst xs) => some xs
    | _ => none).bind fun ys => if xs.length + ys.length ≤ line then some (Vl.fr (xs ++ ys)) else none) = _
  rw [hp, hq]
  exact if_pos hl
/-- for x in .. where the list told moves the store -/
theorem ei_e {rc : Rc} {b : Nat} {e : Env} {S : Sto} {x : E} {Q : (Chk × List D) × Sto → Prop} (h : Ok ((evE rc x).v b e S) fun r => ∃ xs, items r.1 r.2 = some xs ∧ Q ((chkOf r.1 r.2, xs), r.2)) : Ok (evIt rc (.e x) b e S) Q := by
  rw [i_e]
  refine Ok.bind (Ok.mono h fun r hr => ?_)
  obtain ⟨xs, h1, h2⟩ := hr
  rw [h1]
  exact Ok.ok h2
/-! dicts of whole numbers, each held with True -/
def dk (ks : List Int) : List (D × D) := ks.map fun g => (.int g, .bl true)
def addK (ks : List Int) (g : Int) : List Int := if (ks.any fun y => y == g) then ks else ks ++ [g]
theorem any_dk (ks : List Int) (g : Int) : ((dk ks).any fun p => eqF p.1 (.int g)) = ks.any fun y => y == g := by
  unfold dk
  rw [List.any_map]
  rfl
theorem get_dk (ks : List Int) (g : Int) : (getK (dk ks) (.int g)).isSome = ks.any fun y => y == g := by
  rw [← any_dk]
  unfold getK
  rw [Option.isSome_map, List.isSome_find?]
theorem put_dk (ks : List Int) (g : Int) : putK (dk ks) (.int g) (.bl true) = dk (addK ks g) := by
  unfold putK addK
  rw [any_dk]
  by_cases h : (ks.any fun y => y == g) = true
  · rw [if_pos h, if_pos h]
    have : ∀ p ∈ dk ks, (if eqF p.1 (.int g) = true then (p.1, D.bl true) else p) = p := fun p hp => by
      obtain ⟨y, _, rfl⟩ := List.mem_map.mp hp
      split <;> rfl
    rw [List.map_congr_left this]
    exact List.map_id' _
  · rw [if_neg h, if_neg h]
    unfold dk
    rw [List.map_append]
    rfl
theorem pv_din {rc : Rc} {e : Env} {S : Sto} {i o : E} {g : Int} {l : Nat} {t : Bool} {ks : List Int} (hi : PV rc e S i (.d (.int g))) (ho : PV rc e S o (.d (.loc l))) (hl : S[l]? = some (.dct t (dk ks))) : PV rc e S (.din false i o) (.d (.bl (ks.any fun y => y == g))) := fun b => by
  show (((evE rc i).v b e S >>= fun r => Rs.ok (settle r.1 r.2)) >>= _) = _
  rw [hi b]
  show (((evE rc o).v b e S >>= fun r => Rs.ok (settle r.1 r.2)) >>= _) = _
  rw [ho b]
  show (Rs.ofO (if isK (.int g) = true then (match S[l]? with
    | some (.dct _ kvs) => some kvs
    | _ => none).map fun kvs => (getK kvs (.int g)).isSome else none) >>= _) = _
  rw [hl]
  show (Rs.ok (Vl.d (.bl (getK (dk ks) (.int g)).isSome), S) : Rs (Vl × Sto)) = _
  rw [get_dk]
theorem pv_dlen {rc : Rc} {e : Env} {S : Sto} {o : E} {l : Nat} {t : Bool} {ks : List Int} (ho : PV rc e S o (.d (.loc l))) (hl : S[l]? = some (.dct t (dk ks))) : PV rc e S (.dlen o) (.d (.int ks.length)) := fun b => by
  show (((evE rc o).v b e S >>= fun r => Rs.ok (settle r.1 r.2)) >>= _) = _
  rw [ho b]
  show (Rs.ofO (match S[l]? with
    | some (.dct _ kvs) => some kvs
    | _ => none) >>= _) = _
  rw [hl]
  show (Rs.ok (Vl.d (.int (dk ks).length), S) : Rs (Vl × Sto)) = _
  unfold dk
  rw [List.length_map]
theorem st_dnew {rc : Rc} {b i : Nat} {e : Env} {S : Sto} {Q : Fl × Env × Sto → Prop} {r : Ss} (h : Ok (evSs rc r b (e.set i (some (.loc S.length))) (S ++ [.dct false (dk [])])) Q) : Ok (evSs rc (.cons (.asg (.var i) (.dnew false)) r) b e S) Q := ok_asg (Ok.eq rfl h)
open Classical in
theorem st_dput {rc : Rc} {b : Nat} {e : Env} {S : Sto} {Q : Fl × Env × Sto → Prop} {r : Ss} {o k x : E} {l : Nat} {t : Bool} {ks : List Int} {g : Int} (hx : PV rc e S x (.d (.bl true))) (ho : PV rc e S o (.d (.loc l))) (hk : PV rc e S k (.d (.int g))) (hl : S[l]? = some (.dct t (dk ks))) (hn : ks.length < 16777216) (h : Ok (evSs rc r b e (S.set l (.dct t (dk (addK ks g))))) Q) : Ok (evSs rc (.cons (.dput o k x) r) b e S) Q := by
  refine ok_seq (Q := Q) ?_
  show Ok (((evE rc x).v b e S >>= fun r => Rs.ok (settle r.1 r.2)) >>= _) _
  rw [hx b]
  show Ok (((evE rc o).v b e S >>= fun r => Rs.ok (settle r.1 r.2)) >>= _) _
  rw [ho b]
  show Ok (((evE rc k).v b e S >>= fun r => Rs.ok (settle r.1 r.2)) >>= _) _
  rw [hk b]
  show Ok ((match S[l]? with
    | some (.dct t kvs) => if isK (.int g) = true ∧ kvs.length < line ∧ wr b l (.bl true) then Rs.ok (S.set l (.dct t (putK kvs (.int g) (.bl true)))) else .bad
    | _ => .bad) >>= _) _
  rw [hl]
  show Ok ((if isK (.int g) = true ∧ (dk ks).length < line ∧ wr b l (.bl true) then Rs.ok (S.set l (.dct t (putK (dk ks) (.int g) (.bl true)))) else .bad) >>= _) _
  rw [if_pos ⟨rfl, by unfold dk; rw [List.length_map]; exact hn, .inl rfl⟩, put_dk]
  exact Ok.ok h
theorem meth_pop {b p : Nat} {k : Nat} {x : D} {xs : List D} {S : Sto} (h : S[p]? = some (.lst xs)) (hk : xs[k]? = some x) : meth1 b .pop (.loc p) (.int k) S = .ok (.d x, S.set p (.lst (xs.eraseIdx k))) := by
  have hl := (List.getElem?_eq_some_iff.mp hk).1
  have hi : ixN xs.length (k : Nat) = some k := by
    unfold ixN
    rw [if_pos (by omega), if_pos (by omega)]
    rfl
  unfold meth1
  dsimp only
  rw [h]
  dsimp only
  rw [hi]
  dsimp only
  rw [hk]
theorem pi_zipM {rc : Rc} {e : Env} {S : Sto} {x y : E} {xs ys : List D} {p : Nat} (h : PV rc e S x (.d (.tup xs))) (h2 : PV rc e S y (.d (.loc p))) (hp : S[p]? = some (.lst ys)) : PI rc e S (.zip x y) [(p, .lst ys)] (zipD xs ys) := fun b => by
  rw [i_zip, h b, ok_bind]
  show ((evE rc y).v b e S >>= _) = _
  rw [h2 b, ok_bind]
  show (Rs.ofO (items (.d (.tup xs)) S) >>= fun xs => Rs.ofO (items (.d (.loc p)) S) >>= fun ys => if (!(tupO (.d (.loc p))).isSome || true) = true then Rs.ok ((chkOf (.d (.tup xs)) S ++ chkOf (.d (.loc p)) S, zipD xs ys), S) else .bad) = _
  rw [items_loc hp, chk_loc hp]
  rfl
theorem pv_rev {rc : Rc} {e : Env} {S : Sto} {x : E} {p : Nat} {xs : List D} (h : PV rc e S x (.d (.loc p))) (hp : S[p]? = some (.lst xs)) : PV rc e S (.rev x) (.fr xs.reverse) := fun b => by
  rw [v_rev, h b, ok_bind]
  show (Rs.ofO ((items (.d (.loc p)) S).map fun xs => Vl.fr xs.reverse) >>= _) = _
  rw [items_loc hp]
  rfl
theorem meth_rev {p : Nat} {xs : List D} {S : Sto} (h : S[p]? = some (.lst xs)) : meth0 .reverse (.loc p) S = .ok (.d .non, S.set p (.lst xs.reverse)) := by
  unfold meth0
  dsimp only
  rw [h]
theorem zip_map {α β : Type} (f : α → D) (g : β → D) : ∀ (xs : List α) (ys : List β), zipD (xs.map f) (ys.map g) = (xs.zip ys).map fun p => .tup [f p.1, g p.2]
  | [], _ => rfl
  | _ :: _, [] => rfl
  | x :: xs, y :: ys => by
    show _ :: zipD (xs.map f) (ys.map g) = _
    rw [zip_map f g xs ys]
    rfl
theorem map_erase {α : Type} (f : α → D) : ∀ (l : List α) (k : Nat), (l.map f).eraseIdx k = (l.eraseIdx k).map f
  | [], _ => rfl
  | _ :: _, 0 => rfl
  | x :: l, k + 1 => by
    show _ :: (l.map f).eraseIdx k = _
    rw [map_erase f l k]
    rfl
/-- l[i] op= x, the item a whole number -/
theorem st_augs {rc : Rc} {b : Nat} {e : Env} {S : Sto} {Q : Fl × Env × Sto → Prop} {r : Ss} {o i x : E} {op : Bo} {l : Nat} {xs : List D} {k v d w : Int} (ho : PV rc e S o (.d (.loc l))) (hi : PV rc e S i (.d (.int k))) (hl : S[l]? = some (.lst xs)) (k0 : 0 ≤ k) (hv : xs[k.toNat]? = some (.int v)) (hx : PV rc e S x (.d (.int d))) (hw : binI op v d = some w) (h : Ok (evSs rc r b e (S.set l (.lst (xs.set k.toNat (.int w))))) Q) : Ok (evSs rc (.cons (.augs o i op x) r) b e S) Q := by
  have hlt := (List.getElem?_eq_some_iff.mp hv).1
  refine ok_seq (Q := Q) ?_
  show Ok (((evE rc o).v b e S >>= fun r => Rs.ok (settle r.1 r.2)) >>= _) _
  rw [ho b]
  show Ok (((evE rc i).v b e S >>= fun r => Rs.ok (settle r.1 r.2)) >>= _) _
  rw [hi b]
  show Ok (Rs.ofO (match S[l]? with
    | some (.lst xs) => if 0 ≤ k then xs[k.toNat]? else none
    | _ => none) >>= _) _
  rw [hl]
  show Ok (Rs.ofO (if 0 ≤ k then xs[k.toNat]? else none) >>= _) _
  rw [if_pos k0, hv]
  show Ok (((evE rc x).v b e S >>= fun r => Rs.ok (settle r.1 r.2)) >>= _) _
  rw [hx b]
  show Ok (Rs.ofO ((binI op v d).map .int) >>= fun n => setI b (.loc l) (.int k) n S >>= _) _
  rw [hw]
  show Ok (setI b (.loc l) (.int k) (.int w) S >>= _) _
  rw [setI_at hl k0 (by omega) (.inl rfl)]
  exact Ok.ok h
end Pv
set_option linter.all false
set_option autoImplicit false
/-! More rules for expressions that may move the store. -/
namespace Pv
section
variable {rc : Rc} {b : Nat} {e : Env} {S : Sto}
theorem ev_sl {x : E} {lo hi : Oe} {Q : Vl × Sto → Prop} (h : Ok ((evE rc x).v b e S) fun r => Ok (evO rc lo b e r.2) fun p => Ok (evO rc hi b e p.2) fun q => ∃ v, sliceV r.1 p.1 q.1 q.2 = some v ∧ Q (v, q.2)) : Ok ((evE rc (.sl x lo hi)).v b e S) Q := by
  rw [v_sl]
  refine Ok.bind (Ok.mono h fun r hr => Ok.bind (Ok.mono hr fun p hp => Ok.bind (Ok.mono hp fun q hq => ?_)))
  obtain ⟨v, h1, h2⟩ := hq
  rw [h1]
  exact Ok.ok h2
theorem eo_none {Q : Option Int × Sto → Prop} (hq : Q (none, S)) : Ok (evO rc .none b e S) Q := Ok.ok hq
theorem eo_some {x : E} {Q : Option Int × Sto → Prop} (h : Ok ((evE rc x).v b e S) fun r => ∃ i S1, r = (.d (.int i), S1) ∧ Q (some i, S1)) : Ok (evO rc (.some x) b e S) Q := by
  rw [o_some]
  refine Ok.bind (Ok.mono h fun r hr => ?_)
  obtain ⟨i, S1, rfl, h2⟩ := hr
  exact Ok.ok h2
theorem ev_f2 {o : F2} {x y : E} {Q : Vl × Sto → Prop} (h : Ok ((evE rc x).v b e S) fun r => Ok ((evE rc y).v b e (settle r.1 r.2).2) fun q => ∃ v, app2 o (settle r.1 r.2).1 (settle q.1 q.2).1 = some v ∧ Q (.d v, (settle q.1 q.2).2)) : Ok ((evE rc (.f2 o x y)).v b e S) Q := by
  rw [v_f2]
  refine Ok.bind (Ok.mono h fun r hr => Ok.bind (Ok.mono hr fun q hq => ?_))
  obtain ⟨v, h1, h2⟩ := hq
  rw [h1]
  exact Ok.ok h2
theorem ev_idx {x y : E} {Q : Vl × Sto → Prop} (h : Ok ((evE rc x).v b e S) fun r => Ok ((evE rc y).v b e r.2) fun q => ∃ v, idxV r.1 (settle q.1 q.2).1 (settle q.1 q.2).2 = some v ∧ Q (.d v, (settle q.1 q.2).2)) : Ok ((evE rc (.idx x y)).v b e S) Q := by
  rw [v_idx]
  refine Ok.bind (Ok.mono h fun r hr => Ok.bind (Ok.mono hr fun q hq => ?_))
  obtain ⟨v, h1, h2⟩ := hq
  rw [h1]
  exact Ok.ok h2
theorem slice_fr {xs : List D} {k : Int} (h : 0 ≤ k) : sliceV (.fr xs) none (some k) S = some (.fr (xs.take k.toNat)) := by
  show some (Vl.fr (cut xs none (some k))) = _
  rw [cut_take h]
theorem slice_loc {xs : List D} {p : Nat} {i j : Option Int} (hp : S[p]? = some (.lst xs)) : sliceV (.d (.loc p)) i j S = some (.fr (cut xs i j)) := by
  show (items (.d (.loc p)) S).map (fun xs => Vl.fr (cut xs i j)) = _
  rw [items_loc hp]
  rfl
theorem binV_catLF {p : Nat} {xs ys : List D} (hp : S[p]? = some (.lst xs)) (hl : xs.length + ys.length ≤ 16777216) : binV .add (.d (.loc p)) (.fr ys) S = some (.fr (xs ++ ys)) := by
  show ((match S[p]? with
    | some (.lst xs) => some xs
    | _ => none).bind fun xs => (some ys).bind fun ys => if xs.length + ys.length ≤ line then some (Vl.fr (xs ++ ys)) else none) = _
  rw [hp]
  exact if_pos hl
theorem binV_catT (xs ys : List D) (hl : xs.length + ys.length ≤ 16777216) : binV .add (.d (.tup xs)) (.d (.tup ys)) S = some (.d (.tup (xs ++ ys))) := if_pos hl
/-- a statement that is a method called on a list -/
theorem st_app2 {Q : Fl × Env × Sto → Prop} {x y : E} {r : Ss} {l : Nat} {xs : List D} (hx : PV rc e S x (.d (.loc l))) (hl : S[l]? = some (.lst xs)) (hn : xs.length < 16777216) (h : Ok ((evE rc y).v b e S) fun q => ∃ v S1, q = (.d v, S1) ∧ S1[l]? = some (.lst xs) ∧ wr b l v ∧ Ok (evSs rc r b e (S1.set l (.lst (xs ++ [v])))) Q) : Ok (evSs rc (.cons (.expr (.m1 .append x y)) r) b e S) Q := by
  refine ok_expr (ev_m1 hx hl (Ok.mono h fun q hq => ?_))
  obtain ⟨v, S1, rfl, h1, h2, h3⟩ := hq
  exact Ok.eq (meth_app h1 hn h2) h3
end
theorem map_of {α : Type} {f : α → D} {ys : List D} {ns : List α} (h : ys.Perm (ns.map f)) : ∃ ms : List α, ys = ms.map f ∧ ms.Perm ns := by
  generalize hm : ns.map f = zs at h
  induction h generalizing ns with
  | nil => exact ⟨[], rfl, by rw [List.map_eq_nil_iff.mp hm]⟩
  | cons x _ ih =>
    obtain ⟨a, l, rfl, ha, hl⟩ := List.map_eq_cons_iff.mp hm
    obtain ⟨ms, rfl, hp⟩ := ih hl
    exact ⟨a :: ms, by rw [List.map_cons, ha], hp.cons a⟩
  | swap x y l =>
    obtain ⟨a, m, rfl, ha, hl⟩ := List.map_eq_cons_iff.mp hm
    obtain ⟨c, m, rfl, hc, hl⟩ := List.map_eq_cons_iff.mp hl
    exact ⟨c :: a :: m, by rw [List.map_cons, List.map_cons, ha, hc, hl], .swap ..⟩
  | trans _ _ ih1 ih2 =>
    obtain ⟨ms, e, hp⟩ := ih2 hm
    obtain ⟨ms2, e2, hp2⟩ := ih1 e.symm
    exact ⟨ms2, e2, hp2.trans hp⟩
end Pv
namespace Pv
theorem e2_c {rc : Rc} {b : Nat} {e : Env} {S : Sto} {x : E} {es : Es} {Q : Bool × Sto → Prop} (h : Ok ((evE rc x).t b e S) fun k => (k.1 = true → Ok ((evEs rc es).2 b e k.2) Q) ∧ (k.1 = false → Q (false, k.2))) : Ok ((evEs rc (.cons x es)).2 b e S) Q := by
  rw [e2_cons]
  refine Ok.bind (Ok.mono h fun r hr => ?_)
  obtain ⟨k, S1⟩ := r
  cases k with
  | true => exact hr.1 rfl
  | false => exact Ok.ok (hr.2 rfl)
theorem Gr.trans {l : Nat} {S S1 S2 : Sto} (x : Gr l S S1) (y : Gr l S1 S2) : Gr l S S2 := ⟨Nat.le_trans x.len y.len, fun j h1 h2 => (y.rest j (Nat.lt_of_lt_of_le h1 x.len) h2).trans (x.rest j h1 h2), y.bx⟩
theorem Gr.at {l k : Nat} {S S' : Sto} {o : O} (x : Gr l S S') (h : S[k]? = some o) (hk : k ≠ l) : S'[k]? = some o := by
  rw [x.rest k (List.getElem?_eq_some_iff.mp h).1 hk]
  exact h
end Pv
set_option linter.all false
set_option autoImplicit false
/-! == of rows and of lists of lists; parts of rows. -/
namespace Pv
open PySem (PyData)
theorem eqv_ints : ∀ a c : List Int, PyData.eqvAll (a.map .int) (c.map .int) = decide (a = c)
  | [], [] => rfl
  | [], _ :: _ => rfl
  | _ :: _, [] => rfl
  | x :: a, y :: c => by
    show ((x == y) && PyData.eqvAll (a.map .int) (c.map .int)) = _
    rw [eqv_ints a c]
    by_cases h : x = y
    · subst h
      simp
    · simp [h]
theorem eqv_lists : ∀ F G : List (List Int), PyData.eqvAll (F.map fun f => .list (f.map .int)) (G.map fun f => .list (f.map .int)) = decide (F = G)
  | [], [] => rfl
  | [], _ :: _ => rfl
  | _ :: _, [] => rfl
  | x :: a, y :: c => by
    show (PyData.eqvAll (x.map .int) (y.map .int) && PyData.eqvAll (a.map fun f => .list (f.map .int)) (c.map fun f => .list (f.map .int))) = _
    rw [eqv_lists a c, eqv_ints]
    by_cases h : x = y
    · subst h
      simp
    · simp [h]
theorem shaped_tup (ns : List Int) : PySem.SeqAt.shaped (.tuple (ns.map .int)) = true := by
  have h1 := lay_ints ns
  have h2 := depth_ints ns
  have h3 : PyData.depth (.tuple (ns.map .int)) ≤ 64 := by
    show PyData.depthAll (ns.map .int) + 1 ≤ 64
    omega
  show (PyData.canLayAll0 (ns.map .int) && decide (PyData.depth (.tuple (ns.map .int)) ≤ 64)) = true
  rw [h1, decide_eq_true h3]
  rfl
theorem lay_lists : ∀ F : List (List Int), PyData.canLayAll0 (F.map fun f => .list (f.map .int)) = true
  | [] => rfl
  | f :: F => by
    show (PyData.canLayAll0 (f.map .int) && PyData.canLayAll0 (F.map fun f => .list (f.map .int))) = true
    rw [lay_lists F, lay_ints f]
    rfl
theorem depth_lists : ∀ F : List (List Int), PyData.depthAll (F.map fun f => .list (f.map .int)) ≤ 2
  | [] => by decide
  | f :: F => by
    have h1 := depth_lists F
    have h2 := depth_ints f
    show max (PyData.depthAll (f.map .int) + 1) (PyData.depthAll (F.map fun f => .list (f.map .int))) ≤ 2
    omega
theorem shaped_lists (F : List (List Int)) : PySem.SeqAt.shaped (.list (F.map fun f => .list (f.map .int))) = true := by
  have h1 := lay_lists F
  have h2 := depth_lists F
  have h3 : PyData.depth (.list (F.map fun f => .list (f.map .int))) ≤ 64 := by
    show PyData.depthAll (F.map fun f => .list (f.map .int)) + 1 ≤ 64
    omega
  show (PyData.canLayAll0 (F.map fun f => .list (f.map .int)) && decide (PyData.depth (.list (F.map fun f => .list (f.map .int))) ≤ 64)) = true
  rw [h1, decide_eq_true h3]
  rfl
/-- == of two tuples of whole numbers -/
theorem eq_tups (a c : List Int) (S : Sto) : cmpV .eq (.d (.tup (a.map .int))) (.d (.tup (c.map .int))) S = some (decide (a = c)) := by
  show deepEq (.d (.tup (a.map .int))) (.d (.tup (c.map .int))) S = _
  have h : ∀ ns : List Int, pyD pyF S (.tup (ns.map .int)) = some (.tuple (ns.map .int)) := fun ns => by
    show (mapO (pyD 11 S) (ns.map .int)).map PyData.tuple = _
    rw [mapO_ints]
    rfl
  show ((pyD pyF S (.tup (a.map .int))).bind fun p => (pyD pyF S (.tup (c.map .int))).bind fun q => if PySem.SeqAt.shaped p = true ∧ PySem.SeqAt.shaped q = true then some (PyData.eqv p q) else none) = _
  rw [h, h]
  show (if PySem.SeqAt.shaped (.tuple (a.map .int)) = true ∧ PySem.SeqAt.shaped (.tuple (c.map .int)) = true then some (PyData.eqvAll (a.map .int) (c.map .int)) else none) = _
  rw [if_pos ⟨shaped_tup a, shaped_tup c⟩, eqv_ints]
theorem mapO_locs (n : Nat) (S : Sto) : ∀ (locs : List Nat) (F : List (List Int)), locs.length = F.length → (∀ (k l : Nat), locs[k]? = some l → ∃ f : List Int, F[k]? = some f ∧ S[l]? = some (.lst (f.map .int))) → mapO (pyD (n + 2) S) (locs.map .loc) = some (F.map fun f => .list (f.map .int))
  | [], [], _, _ => rfl
  | [], _ :: _, h, _ => by cases h
  | _ :: _, [], h, _ => by cases h
  | l :: locs, f :: F, h, hk => by
    obtain ⟨f', h1, h2⟩ := hk 0 l rfl
    have : f = f' := by simpa using h1
    subst this
    have ih := mapO_locs n S locs F (by simpa using h) fun k q hq => hk (k + 1) q hq
    show ((match S[l]? with
      | some (.lst xs) => (mapO (pyD (n + 1) S) xs).map PyData.list
      | _ => none).bind fun y => (mapO (pyD (n + 2) S) (locs.map .loc)).map (y :: ·)) = _
    rw [h2, ih]
    dsimp only
    rw [mapO_ints]
    rfl
/-- == of two lists of lists of whole numbers -/
theorem eq_lists {S : Sto} {p q : Nat} {l1 l2 : List Nat} {F G : List (List Int)} (hp : S[p]? = some (.lst (l1.map .loc))) (hq : S[q]? = some (.lst (l2.map .loc))) (e1 : l1.length = F.length) (e2 : l2.length = G.length) (h1 : ∀ (k l : Nat), l1[k]? = some l → ∃ f : List Int, F[k]? = some f ∧ S[l]? = some (.lst (f.map .int))) (h2 : ∀ (k l : Nat), l2[k]? = some l → ∃ f : List Int, G[k]? = some f ∧ S[l]? = some (.lst (f.map .int))) : cmpV .eq (.d (.loc p)) (.d (.loc q)) S = some (decide (F = G)) := by
  have a1 : pyD pyF S (.loc p) = some (.list (F.map fun f => .list (f.map .int))) := by
    show (match S[p]? with
      | some (.lst xs) => (mapO (pyD 11 S) xs).map PyData.list
      | _ => none) = _
    rw [hp]
    dsimp only
    rw [mapO_locs 9 S l1 F e1 h1]
    rfl
  have a2 : pyD pyF S (.loc q) = some (.list (G.map fun f => .list (f.map .int))) := by
    show (match S[q]? with
      | some (.lst xs) => (mapO (pyD 11 S) xs).map PyData.list
      | _ => none) = _
    rw [hq]
    dsimp only
    rw [mapO_locs 9 S l2 G e2 h2]
    rfl
  show ((pyD pyF S (.loc p)).bind fun p => (pyD pyF S (.loc q)).bind fun q => if PySem.SeqAt.shaped p = true ∧ PySem.SeqAt.shaped q = true then some (PyData.eqv p q) else none) = _
  rw [a1, a2]
  show (if PySem.SeqAt.shaped (.list (F.map fun f => .list (f.map .int))) = true ∧ PySem.SeqAt.shaped (.list (G.map fun f => .list (f.map .int))) = true then some (PyData.eqvAll (F.map fun f => .list (f.map .int)) (G.map fun f => .list (f.map .int))) else none) = _
  rw [if_pos ⟨shaped_lists F, shaped_lists G⟩, eqv_lists]
end Pv
namespace Pv
theorem cut_ints (ns : List Int) (i j : Option Int) : ∃ ms : List Int, cut (ns.map .int) i j = ms.map .int ∧ (∀ x ∈ ms, x ∈ ns) ∧ ms.length ≤ ns.length := by
  refine ⟨(ns.drop (sIx ns.length 0 i)).take (sIx ns.length ns.length j - sIx ns.length 0 i), ?_, fun x hx => List.mem_of_mem_drop (List.mem_of_mem_take hx), ?_⟩
  · unfold cut
    rw [List.length_map, List.map_take, List.map_drop]
  · rw [List.length_take, List.length_drop]
    omega
/-- a part of a row -/
theorem pv_slr {rc : Rc} {e : Env} {S : Sto} {x : E} {lo hi : Oe} {ns : List Int} {i j : Option Int} (hx : PV rc e S x (.d (.tup (ns.map .int)))) (hl : PO rc e S lo i) (hh : PO rc e S hi j) : ∃ ms : List Int, PV rc e S (.sl x lo hi) (.d (.tup (ms.map .int))) ∧ (∀ x ∈ ms, x ∈ ns) ∧ ms.length ≤ ns.length := by
  obtain ⟨ms, h1, h2, h3⟩ := cut_ints ns i j
  refine ⟨ms, pv_sl hx hl hh ?_, h2, h3⟩
  rw [slice_tup, h1]
theorem pv_catr {rc : Rc} {e : Env} {S : Sto} {x y : E} {a c : List Int} (hx : PV rc e S x (.d (.tup (a.map .int)))) (hy : PV rc e S y (.d (.tup (c.map .int)))) (h1 : a.length < 100000) (h2 : c.length < 100000) : PV rc e S (.bin .add x y) (.d (.tup ((a ++ c).map .int))) := by
  refine pv_bin hx hy ?_
  rw [binV_catT _ _ (by simp; omega), List.map_append]
/-- a row without the one at a place, or with something else there -/
theorem pv_pos {rc : Rc} {e : Env} {S : Sto} {x : E} {k : Int} (h : PV rc e S x (.d (.int k))) (d : Int) : PO rc e S (.some (.bin .add x (.cn (.int d)))) (some (k + d)) := po_some (pv_bini h (pv_cn _) rfl)
end Pv
set_option linter.all false
set_option autoImplicit false
/-! Rules for a op b op c, index, insert. -/
namespace Pv
section
variable {rc : Rc} {e : Env} {S : Sto}
theorem pv_chn {o p : Co} {x y z : E} {a b c : D} {k l : Bool} (hx : PV rc e S x (.d a)) (hy : PV rc e S y (.d b)) (h1 : cmpV o (.d a) (.d b) S = some k) (hz : k = true → PV rc e S z (.d c) ∧ cmpV p (.d b) (.d c) S = some l) : PV rc e S (.chn o p x y z) (.d (.bl (k && l))) := fun t => by
  show (((evE rc x).v t e S >>= fun r => Rs.ok (settle r.1 r.2)) >>= _) = _
  rw [hx t]
  show (((evE rc y).v t e S >>= fun r => Rs.ok (settle r.1 r.2)) >>= _) = _
  rw [hy t]
  show (Rs.ofO (cmpV o (.d a) (.d b) S) >>= _) = _
  rw [h1]
  cases k with
  | false => rfl
  | true =>
    obtain ⟨h2, h3⟩ := hz rfl
    show (((evE rc z).v t e S >>= fun r => Rs.ok (settle r.1 r.2)) >>= _) = _
    rw [h2 t]
    show (Rs.ofO (cmpV p (.d b) (.d c) S) >>= _) = _
    rw [h3]
    rfl
theorem ev_andb {b : Nat} {x y : E} {Q : Vl × Sto → Prop} (hx : PV rc e S x (.d (.bl true))) (h : Ok ((evE rc y).v b e S) Q) : Ok ((evE rc (.and x y)).v b e S) Q := by
  rw [v_and, hx b, ok_bind]
  exact h
theorem find_eqv : ∀ (ns : List Int) (i : Int), (ns.map PySem.PyData.int).findIdx? (fun z => PySem.PyData.eqv z (.int i)) = ns.findIdx? fun y => y == i
  | [], _ => rfl
  | n :: ns, i => by
    rw [List.map_cons, List.findIdx?_cons, List.findIdx?_cons, find_eqv ns i]
    rfl
/-- l.index(i) of whole numbers -/
theorem meth_index {b l : Nat} {ns : List Int} {i : Int} {j : Nat} (hl : S[l]? = some (.lst (ns.map .int))) (hj : ns.findIdx? (fun y => y == i) = some j) : meth1 b .index (.loc l) (.int i) S = .ok (.d (.int (j : Nat)), S) := by
  have h1 : pyD pyF S (.loc l) = some (.list (ns.map .int)) := by
    show (match S[l]? with
      | some (.lst xs) => (mapO (pyD 11 S) xs).map PySem.PyData.list
      | _ => none) = _
    rw [hl]
    show (mapO (pyD 11 S) (ns.map .int)).map PySem.PyData.list = _
    rw [mapO_ints]
    rfl
  have h2 : pyD pyF S (.int i) = some (.int i) := rfl
  have hs : PySem.SeqAt.shaped (.int i) = true := by
    have h3 : PySem.PyData.depth (.int i) ≤ 64 := by unfold PySem.PyData.depth; omega
    show (PySem.PyData.canLay0 (.int i) && decide (PySem.PyData.depth (.int i) ≤ 64)) = true
    rw [decide_eq_true h3]
    rfl
  unfold meth1
  dsimp only
  rw [h1, h2]
  dsimp only
  rw [if_pos ⟨shaped_ints ns, hs⟩, find_eqv, hj]
theorem pv_index {x y : E} {l : Nat} {ns : List Int} {i : Int} {j : Nat} (hx : PV rc e S x (.d (.loc l))) (hl : S[l]? = some (.lst (ns.map .int))) (hy : PV rc e S y (.d (.int i))) (hj : ns.findIdx? (fun y => y == i) = some j) : PV rc e S (.m1 .index x y) (.d (.int (j : Nat))) := fun b => (pv_m1 hx hl hy).trans (meth_index hl hj)
theorem st_ins {b l : Nat} {Q : Fl × Env × Sto → Prop} {x y z : E} {r : Ss} {xs : List D} (hx : PV rc e S x (.d (.loc l))) (hl : S[l]? = some (.lst xs)) (hn : xs.length < 16777216) (h : Ok ((evE rc y).v b e S) fun q => ∃ (i : Int) (S1 : Sto), q = (.d (.int i), S1) ∧ 0 ≤ i ∧ i < 1000000 ∧ S1[l]? = some (.lst xs) ∧ Ok ((evE rc z).v b e S1) fun p => ∃ v, p = (.d v, S1) ∧ wr b l v ∧ Ok (evSs rc r b e (S1.set l (.lst (xs.take i.toNat ++ [v] ++ xs.drop i.toNat)))) Q) : Ok (evSs rc (.cons (.expr (.m2 .insert x y z)) r) b e S) Q := by
  refine ok_expr ?_
  show Ok (((evE rc x).v b e S >>= fun r => Rs.ok (settle r.1 r.2)) >>= _) _
  rw [hx b]
  show Ok (Rs.ofO (match S[l]? with
    | some (.lst _) => some ()
    | _ => none) >>= _) _
  rw [hl]
  show Ok (((evE rc y).v b e S >>= fun r => Rs.ok (settle r.1 r.2)) >>= _) _
  refine Ok.bind (Ok.bind (Ok.mono h fun q hq => ?_))
  obtain ⟨i, S1, rfl, i0, i1, h1, h2⟩ := hq
  refine Ok.ok ?_
  show Ok (((evE rc z).v b e S1 >>= fun r => Rs.ok (settle r.1 r.2)) >>= _) _
  refine Ok.bind (Ok.bind (Ok.mono h2 fun p hp => ?_))
  obtain ⟨v, rfl, hw, h3⟩ := hp
  refine Ok.ok ?_
  show Ok (meth2 b .insert (.loc l) (.int i) v S1) _
  unfold meth2
  dsimp only
  rw [h1]
  dsimp only
  rw [if_pos ⟨⟨i0, by omega⟩, hn, hw⟩]
  exact Ok.ok h3
end
end Pv
namespace Pv
/-- while c: .. ; I: what holds ahead of each turn, m: what grows less -/
theorem ok_whileL {t : Env → Sto → Rs (Bool × Sto)} {f : Env → Sto → Rs (Fl × Env × Sto)} {Q : Fl × Env × Sto → Prop} (I : Nat → Env → Sto → Prop)
    (h : ∀ m e S, I m e S → Ok (t e S) fun r => (r.1 = false → Q (.nx, e, r.2)) ∧ (r.1 = true → Ok (f e r.2) fun q => match q.1 with
      | .nx => ∃ m', m' < m ∧ I m' q.2.1 q.2.2
      | .ct => ∃ m', m' < m ∧ I m' q.2.1 q.2.2
      | .br => Q (.nx, q.2)
      | .rt v => Q (.rt v, q.2))) : ∀ (N m : Nat) (e : Env) (S : Sto), m < N → I m e S → Ok (whileL t f N e S) Q
  | 0, m, e, S, hm, _ => by omega
  | N + 1, m, e, S, hm, hI => by
    unfold whileL
    refine Ok.bind (Ok.mono (h m e S hI) fun r ⟨h1, h2⟩ => ?_)
    obtain ⟨k, S1⟩ := r
    cases k with
    | false => exact Ok.ok (h1 rfl)
    | true =>
      refine Ok.bind (Ok.mono (h2 rfl) fun q hq => ?_)
      obtain ⟨fl, e2, S2⟩ := q
      cases fl with
      | nx =>
        obtain ⟨m', h3, h4⟩ := hq
        exact ok_whileL I h N m' e2 S2 (by omega) h4
      | ct =>
        obtain ⟨m', h3, h4⟩ := hq
        exact ok_whileL I h N m' e2 S2 (by omega) h4
      | br => exact Ok.ok hq
      | rt v => exact Ok.ok hq
theorem st_while {rc : Rc} {b : Nat} {e : Env} {S : Sto} {Q : Fl × Env × Sto → Prop} {c : E} {body r : Ss} (I : Nat → Env → Sto → Prop) {m : Nat} (hm : m < 1000000000) (h0 : I m e S)
    (h : ∀ m e S, I m e S → Ok ((evE rc c).t b e S) fun q => (q.1 = false → Ok (evSs rc r b e q.2) Q) ∧ (q.1 = true → Ok (evSs rc body b e q.2) fun q => match q.1 with
      | .nx => ∃ m', m' < m ∧ I m' q.2.1 q.2.2
      | .ct => ∃ m', m' < m ∧ I m' q.2.1 q.2.2
      | .br => Ok (evSs rc r b q.2.1 q.2.2) Q
      | .rt v => Q (.rt v, q.2))) : Ok (evSs rc (.cons (.while c body) r) b e S) Q := by
  refine ok_seq (Q := Q) ?_
  show Ok (whileL (fun e S => (evE rc c).t b e S) (fun e S => evSs rc body b e S) big e S) _
  refine Ok.mono (ok_whileL (Q := Then rc r b Q) I (fun m e S hI => ?_) big m e S hm h0) fun q hq => ?_
  · refine Ok.mono (h m e S hI) fun q ⟨h1, h2⟩ => ⟨fun hk => Then.nx (h1 hk), fun hk => ?_⟩
    refine Ok.mono (h2 hk) fun w hw => ?_
    obtain ⟨fl, e2, S2⟩ := w
    cases fl with
    | nx => exact hw
    | ct => exact hw
    | br => exact Then.nx hw
    | rt v => exact Then.rt hw
  · exact hq
/-- x op= y, both whole numbers -/
theorem st_aug {rc : Rc} {b i : Nat} {e : Env} {S : Sto} {Q : Fl × Env × Sto → Prop} {r : Ss} {o : Bo} {x : E} {v d w : Int} (hi : e[i]? = some (some (.int v))) (hx : PV rc e S x (.d (.int d))) (hw : binI o v d = some w) (h : Ok (evSs rc r b (e.set i (some (.int w))) S) Q) : Ok (evSs rc (.cons (.aug i o x) r) b e S) Q := by
  refine ok_seq (Q := Q) ?_
  show Ok (envGet e i >>= _) _
  unfold envGet
  rw [hi]
  show Ok (((evE rc x).v b e S >>= fun r => Rs.ok (settle r.1 r.2)) >>= _) _
  rw [hx b]
  show Ok (Rs.ofO ((binI o v d).map D.int) >>= _) _
  rw [hw]
  exact Ok.ok h
end Pv
set_option linter.all false
set_option autoImplicit false
/-! Ranges whose end is drawn. -/
namespace Pv
section
variable {rc : Rc} {b : Nat} {e : Env} {S : Sto}
theorem ev_mkr {hi : E} {Q : Vl × Sto → Prop} (h : Ok ((evE rc hi).v b e S) fun r => ∃ (k : Int) (S1 : Sto), r = (.d (.int k), S1) ∧ 0 ≤ k ∧ k ≤ 1000000 ∧ Q (.fr ((rngI k.toNat).map .int), S1)) : Ok ((evE rc (.mkr .list .none hi)).v b e S) Q := by
  obtain ⟨r, e1, k, S1, rfl, k0, k1, hq⟩ := h
  show Ok (((Rs.ok (none, S) >>= fun p => sD (evE rc hi).v b e p.2 >>= _) >>= _) : Rs (Vl × Sto)) Q
  show Ok (((((evE rc hi).v b e S >>= fun r => Rs.ok (settle r.1 r.2)) >>= _) >>= _) : Rs (Vl × Sto)) Q
  rw [e1]
  show Ok ((if (-4611686018427387904 ≤ (0 : Int) ∧ (0 : Int) < 4611686018427387904) ∧ (-4611686018427387904 ≤ k ∧ k < 4611686018427387904) then Rs.ok (((0 : Int), k), S1) else .bad) >>= _) Q
  rw [if_pos ⟨by omega, by omega⟩]
  show Ok (if (k - 0).toNat ≤ line then Rs.ok (Vl.fr (rngD 0 k), S1) else .bad) Q
  rw [if_pos (by unfold line; omega)]
  rw [show rngD 0 k = (rngI k.toNat).map .int by rw [← rngD_int, show ((k.toNat : Nat) : Int) = k by omega]]
  exact Ok.ok hq
theorem ei_rng0 {hi : E} {Q : (Chk × List D) × Sto → Prop} (h : Ok ((evE rc hi).v b e S) fun r => ∃ (k : Int) (S1 : Sto), r = (.d (.int k), S1) ∧ 0 ≤ k ∧ k ≤ 1000000 ∧ Q (([], (rngI k.toNat).map .int), S1)) : Ok (evIt rc (.rng .none hi) b e S) Q := by
  obtain ⟨r, e1, k, S1, rfl, k0, k1, hq⟩ := h
  rw [i_rng]
  show Ok (((Rs.ok (none, S) >>= fun p => (evE rc hi).v b e p.2 >>= _) >>= _) : Rs ((Chk × List D) × Sto)) Q
  show Ok ((((evE rc hi).v b e S >>= _) >>= _) : Rs ((Chk × List D) × Sto)) Q
  rw [e1]
  show Ok ((if (-4611686018427387904 ≤ (0 : Int) ∧ (0 : Int) < 4611686018427387904) ∧ (-4611686018427387904 ≤ k ∧ k < 4611686018427387904) then Rs.ok (((0 : Int), k), S1) else .bad) >>= _) Q
  rw [if_pos ⟨by omega, by omega⟩]
  show Ok (if (k - 0).toNat ≤ line then Rs.ok (([], rngD 0 k), S1) else .bad) Q
  rw [if_pos (by unfold line; omega)]
  rw [show rngD 0 k = (rngI k.toNat).map .int by rw [← rngD_int, show ((k.toNat : Nat) : Int) = k by omega]]
  exact Ok.ok hq
theorem find_mem {ns : List Int} {x : Int} (h : x ∈ ns) : ∃ j, ns.findIdx? (fun y => y == x) = some j ∧ j < ns.length := by
  cases hf : ns.findIdx? (fun y => y == x) with
  | none =>
    have := List.findIdx?_eq_none_iff.mp hf x h
    simp at this
  | some j =>
    obtain ⟨hl, _⟩ := List.findIdx?_eq_some_iff_getElem.mp hf
    exact ⟨j, rfl, hl⟩
end
/-- a tuple with own lists in it, told -/
theorem leave_tup {n : Nat} {xs : List D} {S : Sto} {a : Nat} (h : .loc a ∈ xs) (hn : n ≤ a) : leave n (.d (.tup xs)) S = (.d (.tup xs), S) := by
  have : ubL n xs = false := by
    rw [Bool.eq_false_iff]
    intro e
    have := (ubL_mem.mp e) _ h
    have h2 : decide (a < n) = true := this
    have := of_decide_eq_true h2
    omega
  show (if ubL n xs = true then (Vl.d (.tup xs), S.take n) else (Vl.d (.tup xs), S)) = _
  rw [if_neg (by rw [this]; simp)]
end Pv
set_option linter.all false
set_option autoImplicit false
/-! Walks told by slots: what each local holds, the frame's own objects among them. -/
namespace Pv
/-- what a local holds: anything, just this, an object of the frame's own at p -/
inductive Sl where
  | no | d (x : D) | o (p : Nat) (ob : O)
/-- what is kept of the callers' store -/
structure Fm (b : Nat) (G : Sto → Prop) : Prop where
  len : ∀ S, G S → b ≤ S.length
  push : ∀ S T, G S → G (S ++ T)
  set : ∀ S p o, G S → b ≤ p → G (S.set p o)
  take : ∀ S n, G S → b ≤ n → G (S.take n)
structure Rel (G : Sto → Prop) (b : Nat) (ve : List Sl) (e : Env) (S : Sto) : Prop where
  len : e.length = ve.length
  g : G S
  val : ∀ (i : Nat) (x : D), ve[i]? = some (.d x) → e[i]? = some (some x)
  own : ∀ (i p : Nat) (ob : O), ve[i]? = some (.o p ob) → e[i]? = some (some (.loc p)) ∧ S[p]? = some ob ∧ b ≤ p
  sep : ∀ (i j p q : Nat) (a c : O), i ≠ j → ve[i]? = some (.o p a) → ve[j]? = some (.o q c) → p ≠ q
/-- an expression moves nothing of the frame's own -/
structure Kx (G : Sto → Prop) (b : Nat) (S S' : Sto) : Prop where
  g : G S'
  at_ : ∀ p, b ≤ p → p < S.length → S'[p]? = S[p]?
theorem Kx.refl {G : Sto → Prop} {b : Nat} {S : Sto} (h : G S) : Kx G b S S := ⟨h, fun _ _ _ => rfl⟩
theorem Kx.trans {G : Sto → Prop} {b : Nat} {S S1 S2 : Sto} (h : Kx G b S S1) (k : Kx G b S1 S2) : Kx G b S S2 := ⟨k.g, fun p hp hl => by
  have e := h.at_ p hp hl
  rw [List.getElem?_eq_getElem hl] at e
  rw [k.at_ p hp (List.getElem?_eq_some_iff.mp e).1, e, List.getElem?_eq_getElem hl]⟩
section
variable {rc : Rc} {G : Sto → Prop} {b : Nat} {ve : List Sl} {e : Env} {S S' : Sto}
theorem Rel.kr (R : Rel G b ve e S) : Kx G b S S := Kx.refl R.g
theorem Rel.kx (R : Rel G b ve e S) (k : Kx G b S S') : Rel G b ve e S' := ⟨R.len, k.g, R.val, fun i p ob h => by
  obtain ⟨h1, h2, h3⟩ := R.own i p ob h
  exact ⟨h1, by rw [k.at_ p h3 (List.getElem?_eq_some_iff.mp h2).1]; exact h2, h3⟩, R.sep⟩
theorem Kx.push (F : Fm b G) (h : G S) (T : Sto) : Kx G b S (S ++ T) := ⟨F.push S T h, fun p _ hl => List.getElem?_append_left hl⟩
theorem Kx.take (F : Fm b G) (h : Kx G b S S') (hb : b ≤ S.length) : Kx G b S (S'.take S.length) := ⟨F.take _ _ h.g hb, fun p h1 h2 => by rw [List.getElem?_take, if_pos h2]; exact h.at_ p h1 h2⟩
theorem sl_set_ne {i j : Nat} {s t : Sl} (h : (ve.set i s)[j]? = some t) (hij : i ≠ j) : ve[j]? = some t := by rwa [List.getElem?_set_ne hij] at h
theorem sl_set_eq {i : Nat} {s t : Sl} (h : (ve.set i s)[i]? = some t) : s = t := by
  have hl := (List.getElem?_eq_some_iff.mp h).1
  rw [List.length_set] at hl
  rw [List.getElem?_set_self hl] at h
  exact Option.some.inj h
theorem Rel.setd (R : Rel G b ve e S) (i : Nat) (x : D) : Rel G b (ve.set i (.d x)) (e.set i (some x)) S := by
  refine ⟨by simp [R.len], R.g, fun j y h => ?_, fun j p ob h => ?_, fun j k p q a c hjk h1 h2 => ?_⟩
  · by_cases hij : i = j
    · subst hij
      have hl := (List.getElem?_eq_some_iff.mp h).1
      cases sl_set_eq h
      rw [List.getElem?_set_self (by rw [R.len]; simpa using hl)]
    · rw [List.getElem?_set_ne hij]
      exact R.val j y (sl_set_ne h hij)
  · by_cases hij : i = j
    · subst hij
      cases sl_set_eq h
    · obtain ⟨h1, h2, h3⟩ := R.own j p ob (sl_set_ne h hij)
      exact ⟨by rw [List.getElem?_set_ne hij]; exact h1, h2, h3⟩
  · by_cases hij : i = j
    · subst hij
      cases sl_set_eq h1
    · by_cases hik : i = k
      · subst hik
        cases sl_set_eq h2
      · exact R.sep j k p q a c hjk (sl_set_ne h1 hij) (sl_set_ne h2 hik)
theorem Rel.setno (R : Rel G b ve e S) (i : Nat) (x : Option D) : Rel G b (ve.set i .no) (e.set i x) S := by
  refine ⟨by simp [R.len], R.g, fun j y h => ?_, fun j p ob h => ?_, fun j k p q a c hjk h1 h2 => ?_⟩
  · by_cases hij : i = j
    · subst hij
      cases sl_set_eq h
    · rw [List.getElem?_set_ne hij]
      exact R.val j y (sl_set_ne h hij)
  · by_cases hij : i = j
    · subst hij
      cases sl_set_eq h
    · obtain ⟨h1, h2, h3⟩ := R.own j p ob (sl_set_ne h hij)
      exact ⟨by rw [List.getElem?_set_ne hij]; exact h1, h2, h3⟩
  · by_cases hij : i = j
    · subst hij
      cases sl_set_eq h1
    · by_cases hik : i = k
      · subst hik
        cases sl_set_eq h2
      · exact R.sep j k p q a c hjk (sl_set_ne h1 hij) (sl_set_ne h2 hik)
/-- a new object comes into a slot -/
theorem Rel.new (F : Fm b G) (R : Rel G b ve e S) (i : Nat) (ob : O) : Rel G b (ve.set i (.o S.length ob)) (e.set i (some (.loc S.length))) (S ++ [ob]) := by
  have hb := F.len _ R.g
  refine ⟨by simp [R.len], F.push _ _ R.g, fun j y h => ?_, fun j p o h => ?_, fun j k p q a c hjk h1 h2 => ?_⟩
  · by_cases hij : i = j
    · subst hij
      cases sl_set_eq h
    · rw [List.getElem?_set_ne hij]
      exact R.val j y (sl_set_ne h hij)
  · by_cases hij : i = j
    · subst hij
      have hl := (List.getElem?_eq_some_iff.mp h).1
      cases sl_set_eq h
      exact ⟨by rw [List.getElem?_set_self (by rw [R.len]; simpa using hl)], push_at, hb⟩
    · obtain ⟨h1, h2, h3⟩ := R.own j p o (sl_set_ne h hij)
      exact ⟨by rw [List.getElem?_set_ne hij]; exact h1, push_lt h2, h3⟩
  · by_cases hij : i = j
    · subst hij
      cases sl_set_eq h1
      have := (R.own k q c (sl_set_ne h2 hjk)).2.1
      have := at_lt this
      omega
    · by_cases hik : i = k
      · subst hik
        cases sl_set_eq h2
        have := (R.own j p a (sl_set_ne h1 hij)).2.1
        have := at_lt this
        omega
      · exact R.sep j k p q a c hjk (sl_set_ne h1 hij) (sl_set_ne h2 hik)
/-- an own object is written -/
theorem Rel.wr (F : Fm b G) (R : Rel G b ve e S) {i p : Nat} {ob : O} (h : ve[i]? = some (.o p ob)) (ob' : O) : Rel G b (ve.set i (.o p ob')) e (S.set p ob') := by
  obtain ⟨a1, a2, a3⟩ := R.own i p ob h
  refine ⟨by simp [R.len], F.set _ _ _ R.g a3, fun j y h' => ?_, fun j q o h' => ?_, fun j k q r a c hjk h1 h2 => ?_⟩
  · by_cases hij : i = j
    · subst hij
      cases sl_set_eq h'
    · exact R.val j y (sl_set_ne h' hij)
  · by_cases hij : i = j
    · subst hij
      cases sl_set_eq h'
      exact ⟨a1, set_at a2, a3⟩
    · have h2 := sl_set_ne h' hij
      obtain ⟨b1, b2, b3⟩ := R.own j q o h2
      exact ⟨b1, set_ne b2 (R.sep i j p q ob o hij h h2), b3⟩
  · by_cases hij : i = j
    · subst hij
      cases sl_set_eq h1
      exact R.sep i k p r ob c hjk h (sl_set_ne h2 hjk)
    · by_cases hik : i = k
      · subst hik
        cases sl_set_eq h2
        exact R.sep j i q p a ob hjk (sl_set_ne h1 hij) h
      · exact R.sep j k q r a c hjk (sl_set_ne h1 hij) (sl_set_ne h2 hik)
/-- less is known -/
inductive Less : List Sl → List Sl → Prop where
  | nil : Less [] []
  | same {x : Sl} {xs ys : List Sl} : Less xs ys → Less (x :: xs) (x :: ys)
  | no {x : Sl} {xs ys : List Sl} : Less xs ys → Less (x :: xs) (.no :: ys)
theorem Less.refl : ∀ ve : List Sl, Less ve ve
  | [] => .nil
  | _ :: xs => .same (Less.refl xs)
theorem Less.len {v w : List Sl} (h : Less v w) : v.length = w.length := by
  induction h with
  | nil => rfl
  | same _ ih => simp [ih]
  | no _ ih => simp [ih]
theorem Less.at {v w : List Sl} (h : Less v w) : ∀ {i : Nat} {s : Sl}, w[i]? = some s → s = .no ∨ v[i]? = some s := by
  induction h with
  | nil => intro i s h; simp at h
  | @same x xs ys _ ih =>
    intro i s h
    cases i with
    | zero => exact .inr h
    | succ i => exact ih (i := i) (by simpa using h)
  | @no x xs ys _ ih =>
    intro i s h
    cases i with
    | zero => simp at h; exact .inl h.symm
    | succ i => exact ih (i := i) (by simpa using h)
theorem Rel.wk {ve' : List Sl} (R : Rel G b ve e S) (w : Less ve ve') : Rel G b ve' e S := by
  refine ⟨R.len.trans w.len, R.g, fun i x h => ?_, fun i p ob h => ?_, fun i j p q a c hij h1 h2 => ?_⟩
  · rcases w.at h with h' | h'
    · cases h'
    · exact R.val i x h'
  · rcases w.at h with h' | h'
    · cases h'
    · exact R.own i p ob h'
  · rcases w.at h1 with h' | h'
    · cases h'
    · rcases w.at h2 with h'' | h''
      · cases h''
      · exact R.sep i j p q a c hij h' h''
/-! ### expressions -/
def VX (rc : Rc) (G : Sto → Prop) (b : Nat) (ve : List Sl) (x : E) (Q : Vl → Prop) : Prop := ∀ c e S, Rel G b ve e S → Ok ((evE rc x).v c e S) fun r => Kx G b S r.2 ∧ Q r.1
def VT (rc : Rc) (G : Sto → Prop) (b : Nat) (ve : List Sl) (x : E) (Q : Bool → Prop) : Prop := ∀ c e S, Rel G b ve e S → Ok ((evE rc x).t c e S) fun r => Kx G b S r.2 ∧ Q r.1
def VL (rc : Rc) (G : Sto → Prop) (b : Nat) (ve : List Sl) (x : Es) (Q : List D → Prop) : Prop := ∀ c e S, Rel G b ve e S → Ok ((evEs rc x).1 c e S) fun r => Kx G b S r.2 ∧ Q r.1
def VF (rc : Rc) (G : Sto → Prop) (b : Nat) (ve : List Sl) (x : Es) (Q : Bool → Prop) : Prop := ∀ c e S, Rel G b ve e S → Ok ((evEs rc x).2 c e S) fun r => Kx G b S r.2 ∧ Q r.1
def VO (rc : Rc) (G : Sto → Prop) (b : Nat) (ve : List Sl) (x : Oe) (Q : Option Int → Prop) : Prop := ∀ c e S, Rel G b ve e S → Ok (evO rc x c e S) fun r => Kx G b S r.2 ∧ Q r.1
def VI (rc : Rc) (G : Sto → Prop) (b : Nat) (ve : List Sl) (x : It) (Q : Chk → List D → Prop) : Prop := ∀ c e S, Rel G b ve e S → Ok (evIt rc x c e S) fun r => Kx G b S r.2 ∧ Q r.1.1 r.1.2
def VG (rc : Rc) (G : Sto → Prop) (b : Nat) (t : Tg) (x : D) (ve : List Sl) (Q : List Sl → Prop) : Prop := ∀ c e S, c ≤ b → Rel G b ve e S → Ok (evTg rc t c x e S) fun r => ∃ ve', Rel G b ve' r.1 r.2 ∧ Q ve'
/-- so at each store that the slots allow -/
def At (G : Sto → Prop) (b : Nat) (ve : List Sl) (P : Sto → Prop) : Prop := ∀ e S, Rel G b ve e S → P S
theorem at_own {i p : Nat} {ob : O} (h : ve[i]? = some (.o p ob)) : At G b ve fun S => S[p]? = some ob := fun _ _ R => (R.own i p ob h).2.1
theorem at_g {P : Sto → Prop} (h : ∀ S, G S → P S) : At G b ve P := fun _ S R => h S R.g
/-- what stands in a list or a tuple -/
abbrev Its (G : Sto → Prop) (b : Nat) (ve : List Sl) (v : Vl) (xs : List D) : Prop := At G b ve fun S => items v S = some xs
theorem its_tup {xs : List D} : Its G b ve (.d (.tup xs)) xs := fun _ _ _ => rfl
theorem its_fr {xs : List D} : Its G b ve (.fr xs) xs := fun _ _ _ => rfl
theorem its_scr {ns : List Int} : Its G b ve (.d (.scr ns)) (ns.map .int) := fun _ _ _ => rfl
theorem its_loc {p : Nat} {xs : List D} (h : At G b ve fun S => S[p]? = some (.lst xs)) : Its G b ve (.d (.loc p)) xs := fun e S R => items_loc (h e S R)
variable {x y z : E} {es : Es} {Q : Vl → Prop}
theorem VX.mono {P : Vl → Prop} (h : VX rc G b ve x P) (k : ∀ v, P v → Q v) : VX rc G b ve x Q := fun c e S R => Ok.mono (h c e S R) fun _ ⟨h1, h2⟩ => ⟨h1, k _ h2⟩
theorem vx_pv {v : Vl} (h : ∀ e S, Rel G b ve e S → PV rc e S x v) (q : Q v) : VX rc G b ve x Q := fun c e S R => Ok.eq (h e S R c) ⟨R.kr, q⟩
theorem vx_var {i : Nat} {v : D} (h : ve[i]? = some (.d v)) (q : Q (.d v)) : VX rc G b ve (.var i) Q := vx_pv (fun e S R => pv_var (R.val i v h)) q
theorem vx_own {i p : Nat} {ob : O} (h : ve[i]? = some (.o p ob)) (q : Q (.d (.loc p))) : VX rc G b ve (.var i) Q := vx_pv (fun e S R => pv_var (R.own i p ob h).1) q
theorem vx_cn {c : D} (q : Q (.d c)) : VX rc G b ve (.cn c) Q := vx_pv (fun e S R => pv_cn c) q
theorem vx_bin {o : Bo} (h : VX rc G b ve x fun v => VX rc G b ve y fun w => ∃ u, (At G b ve fun S => binV o v w S = some u) ∧ Q u) : VX rc G b ve (.bin o x y) Q := fun c e S R =>
  ev_bin (Ok.mono (h c e S R) fun r ⟨k1, h1⟩ => Ok.mono (h1 c e r.2 (R.kx k1)) fun q ⟨k2, u, h2, h3⟩ => ⟨u, h2 e q.2 (R.kx (k1.trans k2)), k1.trans k2, h3⟩)
theorem vx_cmp {o : Co} (h : VX rc G b ve x fun v => VX rc G b ve y fun w => ∃ k, (At G b ve fun S => cmpV o v w S = some k) ∧ Q (.d (.bl k))) : VX rc G b ve (.cmp o x y) Q := fun c e S R =>
  ev_cmp (Ok.mono (h c e S R) fun r ⟨k1, h1⟩ => Ok.mono (h1 c e r.2 (R.kx k1)) fun q ⟨k2, u, h2, h3⟩ => ⟨u, h2 e q.2 (R.kx (k1.trans k2)), k1.trans k2, h3⟩)
theorem vx_idx (h : VX rc G b ve x fun v => VX rc G b ve y fun w => ∃ k xs u, w = .d (.int k) ∧ Its G b ve v xs ∧ atI xs k = some u ∧ Q (.d u)) : VX rc G b ve (.idx x y) Q := fun c e S R =>
  ev_idx (Ok.mono (h c e S R) fun r ⟨k1, h1⟩ => Ok.mono (h1 c e r.2 (R.kx k1)) fun q ⟨k2, k, xs, u, e1, h2, h3, h4⟩ => by
    obtain ⟨w, S2⟩ := q
    cases e1
    refine ⟨u, ?_, k1.trans k2, h4⟩
    show (items r.1 S2).bind (fun xs => atI xs k) = some u
    rw [h2 e S2 (R.kx (k1.trans k2))]
    exact h3)
theorem vx_f1 {o : F1} (h : VX rc G b ve x fun v => ∃ u, (At G b ve fun S => app1 o v S = some u) ∧ Q u) : VX rc G b ve (.f1 o x) Q := fun c e S R =>
  ev_f1 (Ok.mono (h c e S R) fun r ⟨k1, u, h2, h3⟩ => ⟨u, h2 e r.2 (R.kx k1), k1, h3⟩)
theorem vx_f2 {o : F2} (h : VX rc G b ve x fun v => ∃ d, v = .d d ∧ VX rc G b ve y fun w => ∃ d' u, w = .d d' ∧ app2 o d d' = some u ∧ Q (.d u)) : VX rc G b ve (.f2 o x y) Q := fun c e S R =>
  ev_f2 (Ok.mono (h c e S R) fun r ⟨k1, d, e1, h1⟩ => by
    obtain ⟨v, S1⟩ := r
    cases e1
    exact Ok.mono (h1 c e S1 (R.kx k1)) fun q ⟨k2, d', u, e2, h2, h3⟩ => by
      obtain ⟨w, S2⟩ := q
      cases e2
      exact ⟨u, h2, k1.trans k2, h3⟩)
theorem vx_isi {t : Ty} (h : VX rc G b ve x fun v => ∃ d k, v = .d d ∧ (At G b ve fun S => isTy d t S = some k) ∧ Q (.d (.bl k))) : VX rc G b ve (.isi x t) Q := fun c e S R => by
  rw [v_isi]
  refine Ok.bind (Ok.mono (h c e S R) fun r ⟨k1, d, k, e1, h2, h3⟩ => ?_)
  obtain ⟨v, S1⟩ := r
  cases e1
  show Ok (Rs.ofO (isTy d t S1) >>= _) _
  rw [h2 e S1 (R.kx k1)]
  exact Ok.ok ⟨k1, h3⟩
theorem vx_neg (h : VX rc G b ve x fun v => ∃ i, v = .d (.int i) ∧ Q (.d (.int (-i)))) : VX rc G b ve (.neg x) Q := fun c e S R => by
  rw [v_neg]
  refine Ok.bind (Ok.mono (h c e S R) fun r ⟨k1, i, e1, h3⟩ => ?_)
  obtain ⟨v, S1⟩ := r
  cases e1
  exact Ok.ok ⟨k1, h3⟩
theorem vx_not (h : VX rc G b ve x fun v => ∃ k, (At G b ve fun S => truth v S = some k) ∧ Q (.d (.bl (!k)))) : VX rc G b ve (.not x) Q := fun c e S R => by
  rw [v_not]
  refine Ok.bind (Ok.mono (h c e S R) fun r ⟨k1, k, h2, h3⟩ => ?_)
  rw [h2 e r.2 (R.kx k1)]
  exact Ok.ok ⟨k1, h3⟩
theorem vx_tup (h : VL rc G b ve es fun w => w.length ≤ 16777216 ∧ Q (.d (.tup w))) : VX rc G b ve (.tup es) Q := fun c e S R => ev_tup (Ok.mono (h c e S R) fun r ⟨k1, h2, h3⟩ => ⟨h2, k1, h3⟩)
theorem vx_lst (h : VL rc G b ve es fun w => w.length ≤ 16777216 ∧ Q (.fr w)) : VX rc G b ve (.lst es) Q := fun c e S R => ev_lst (Ok.mono (h c e S R) fun r ⟨k1, h2, h3⟩ => ⟨h2, k1, h3⟩)
theorem vl_nil {Q : List D → Prop} (h : Q []) : VL rc G b ve .nil Q := fun c e S R => es_nil ⟨R.kr, h⟩
theorem vl_cons {Q : List D → Prop} (h : VX rc G b ve x fun v => ∃ d, v = .d d ∧ VL rc G b ve es fun ds => Q (d :: ds)) : VL rc G b ve (.cons x es) Q := fun c e S R => es_cons (Ok.mono (h c e S R) fun r ⟨k1, d, e1, h2⟩ => by
  obtain ⟨v, S1⟩ := r
  cases e1
  exact Ok.mono (h2 c e S1 (R.kx k1)) fun q ⟨k2, h3⟩ => ⟨k1.trans k2, h3⟩)
theorem vx_ite {c : E} (h : VT rc G b ve c fun k => (k = true → VX rc G b ve x Q) ∧ (k = false → VX rc G b ve y Q)) : VX rc G b ve (.ite c x y) Q := fun cc e S R => ev_ite (Ok.mono (h cc e S R) fun r ⟨k1, h1, h2⟩ =>
  ⟨fun hk => Ok.mono (h1 hk cc e r.2 (R.kx k1)) fun q ⟨k2, h3⟩ => ⟨k1.trans k2, h3⟩, fun hk => Ok.mono (h2 hk cc e r.2 (R.kx k1)) fun q ⟨k2, h3⟩ => ⟨k1.trans k2, h3⟩⟩)
theorem vx_andb (h : VX rc G b ve x fun v => ∃ k, v = .d (.bl k) ∧ (k = true → VX rc G b ve y Q) ∧ (k = false → Q (.d (.bl false)))) : VX rc G b ve (.and x y) Q := fun c e S R => by
  rw [v_and]
  refine Ok.bind (Ok.mono (h c e S R) fun r ⟨k1, k, e1, h1, h2⟩ => ?_)
  obtain ⟨v, S1⟩ := r
  cases e1
  cases k with
  | true => exact Ok.bind (Ok.ok (Ok.mono (h1 rfl c e S1 (R.kx k1)) fun q ⟨k2, h3⟩ => ⟨k1.trans k2, h3⟩))
  | false => exact Ok.bind (Ok.ok (Ok.ok ⟨k1, h2 rfl⟩))
theorem vx_orb (h : VX rc G b ve x fun v => ∃ k, v = .d (.bl k) ∧ (k = false → VX rc G b ve y Q) ∧ (k = true → Q (.d (.bl true)))) : VX rc G b ve (.or x y) Q := fun c e S R => by
  rw [v_or]
  refine Ok.bind (Ok.mono (h c e S R) fun r ⟨k1, k, e1, h1, h2⟩ => ?_)
  obtain ⟨v, S1⟩ := r
  cases e1
  cases k with
  | false => exact Ok.bind (Ok.ok (Ok.mono (h1 rfl c e S1 (R.kx k1)) fun q ⟨k2, h3⟩ => ⟨k1.trans k2, h3⟩))
  | true => exact Ok.bind (Ok.ok (Ok.ok ⟨k1, h2 rfl⟩))
/-! tests -/
theorem VT.mono {P Q : Bool → Prop} (h : VT rc G b ve x P) (k : ∀ v, P v → Q v) : VT rc G b ve x Q := fun c e S R => Ok.mono (h c e S R) fun _ ⟨h1, h2⟩ => ⟨h1, k _ h2⟩
theorem vt_of {Q : Bool → Prop} (ht : (evE rc x).t = sT (evE rc x).v) (h : VX rc G b ve x fun v => ∃ k, (At G b ve fun S => truth v S = some k) ∧ Q k) : VT rc G b ve x Q := fun c e S R => et_of ht (Ok.mono (h c e S R) fun r ⟨k1, k, h2, h3⟩ => ⟨k, h2 e r.2 (R.kx k1), k1, h3⟩)
/-- a test that tells a truth -/
theorem vt_b {Q : Bool → Prop} (ht : (evE rc x).t = sT (evE rc x).v) (h : VX rc G b ve x fun v => ∃ k, v = .d (.bl k) ∧ Q k) : VT rc G b ve x Q := vt_of ht (h.mono fun v ⟨k, e, h⟩ => ⟨k, fun _ _ _ => by rw [e]; rfl, h⟩)
theorem vt_cmp {o : Co} {Q : Bool → Prop} (h : VX rc G b ve x fun v => VX rc G b ve y fun w => ∃ k, (At G b ve fun S => cmpV o v w S = some k) ∧ Q k) : VT rc G b ve (.cmp o x y) Q := vt_b rfl (vx_cmp (h.mono fun v h => h.mono fun w ⟨k, h1, h2⟩ => ⟨k, h1, k, rfl, h2⟩))
theorem vt_not {Q : Bool → Prop} (h : VT rc G b ve x fun k => Q (!k)) : VT rc G b ve (.not x) Q := fun c e S R => et_not (h c e S R)
theorem vt_and {Q : Bool → Prop} (h : VT rc G b ve x fun k => (k = true → VT rc G b ve y Q) ∧ (k = false → Q false)) : VT rc G b ve (.and x y) Q := fun c e S R => et_and (Ok.mono (h c e S R) fun r ⟨k1, h1, h2⟩ =>
  ⟨fun hk => ⟨k1, h2 hk⟩, fun hk => Ok.mono (h1 hk c e r.2 (R.kx k1)) fun q ⟨k2, h3⟩ => ⟨k1.trans k2, h3⟩⟩)
theorem vt_or {Q : Bool → Prop} (h : VT rc G b ve x fun k => (k = false → VT rc G b ve y Q) ∧ (k = true → Q true)) : VT rc G b ve (.or x y) Q := fun c e S R => et_or (Ok.mono (h c e S R) fun r ⟨k1, h1, h2⟩ =>
  ⟨fun hk => ⟨k1, h2 hk⟩, fun hk => Ok.mono (h1 hk c e r.2 (R.kx k1)) fun q ⟨k2, h3⟩ => ⟨k1.trans k2, h3⟩⟩)
theorem vf_nil {Q : Bool → Prop} (h : Q true) : VF rc G b ve .nil Q := fun c e S R => Ok.ok ⟨R.kr, h⟩
theorem vf_cons {Q : Bool → Prop} (h : VT rc G b ve x fun k => (k = true → VF rc G b ve es Q) ∧ (k = false → Q false)) : VF rc G b ve (.cons x es) Q := fun c e S R => e2_c (Ok.mono (h c e S R) fun r ⟨k1, h1, h2⟩ =>
  ⟨fun hk => Ok.mono (h1 hk c e r.2 (R.kx k1)) fun q ⟨k2, h3⟩ => ⟨k1.trans k2, h3⟩, fun hk => ⟨k1, h2 hk⟩⟩)
theorem vf_one {Q : Bool → Prop} (h : VT rc G b ve x Q) : VF rc G b ve (.cons x .nil) Q := vf_cons (h.mono fun k hk => ⟨fun e => vf_nil (by rw [← e]; exact hk), fun e => by rw [← e]; exact hk⟩)
/-! ends of slices and ranges -/
theorem vo_none {Q : Option Int → Prop} (h : Q none) : VO rc G b ve .none Q := fun c e S R => eo_none ⟨R.kr, h⟩
theorem vo_some {Q : Option Int → Prop} (h : VX rc G b ve x fun v => ∃ i, v = .d (.int i) ∧ Q (some i)) : VO rc G b ve (.some x) Q := fun c e S R => eo_some (Ok.mono (h c e S R) fun r ⟨k1, i, e1, h2⟩ => by
  obtain ⟨v, S1⟩ := r
  cases e1
  exact ⟨i, S1, rfl, k1, h2⟩)
theorem vx_sl {lo hi : Oe} (h : VX rc G b ve x fun v => VO rc G b ve lo fun i => VO rc G b ve hi fun j => ∃ u, (At G b ve fun S => sliceV v i j S = some u) ∧ Q u) : VX rc G b ve (.sl x lo hi) Q := fun c e S R =>
  ev_sl (Ok.mono (h c e S R) fun r ⟨k1, h1⟩ => Ok.mono (h1 c e r.2 (R.kx k1)) fun p ⟨k2, h2⟩ => Ok.mono (h2 c e p.2 (R.kx (k1.trans k2))) fun q ⟨k3, u, h3, h4⟩ => ⟨u, h3 e q.2 (R.kx ((k1.trans k2).trans k3)), (k1.trans k2).trans k3, h4⟩)
/-! iterables -/
theorem vi_e {Q : Chk → List D → Prop} (h : VX rc G b ve x fun v => ∃ c xs, (At G b ve fun S => items v S = some xs ∧ chkOf v S = c) ∧ Q c xs) : VI rc G b ve (.e x) Q := fun cc e S R => by
  rw [i_e]
  refine Ok.bind (Ok.mono (h cc e S R) fun r ⟨k1, c, xs, h2, h3⟩ => ?_)
  obtain ⟨a1, a2⟩ := h2 e r.2 (R.kx k1)
  rw [a1, a2]
  exact Ok.ok ⟨k1, h3⟩
theorem vi_enum {Q : Chk → List D → Prop} (h : VX rc G b ve x fun v => ∃ c xs, (At G b ve fun S => items v S = some xs ∧ chkOf v S = c) ∧ Q c (enumD xs)) : VI rc G b ve (.enum x) Q := fun cc e S R => by
  rw [i_enum]
  refine Ok.bind (Ok.mono (h cc e S R) fun r ⟨k1, c, xs, h2, h3⟩ => ?_)
  obtain ⟨a1, a2⟩ := h2 e r.2 (R.kx k1)
  rw [a1, a2]
  exact Ok.ok ⟨k1, h3⟩
theorem vi_rev {Q : Chk → List D → Prop} (h : VX rc G b ve x fun v => ∃ c xs, (At G b ve fun S => items v S = some xs ∧ chkOf v S = c) ∧ Q c xs.reverse) : VI rc G b ve (.rev x) Q := fun cc e S R => by
  rw [i_rev]
  refine Ok.bind (Ok.mono (h cc e S R) fun r ⟨k1, c, xs, h2, h3⟩ => ?_)
  obtain ⟨a1, a2⟩ := h2 e r.2 (R.kx k1)
  rw [a1, a2]
  exact Ok.ok ⟨k1, h3⟩
theorem vi_rng {lo : Oe} {Q : Chk → List D → Prop} (h : VO rc G b ve lo fun i => VX rc G b ve x fun v => ∃ j, v = .d (.int j) ∧ (-1000000 ≤ i.getD 0 ∧ i.getD 0 ≤ 1000000) ∧ (-1000000 ≤ j ∧ j ≤ 1000000) ∧ Q [] (rngD (i.getD 0) j)) : VI rc G b ve (.rng lo x) Q := fun c e S R => by
  rw [i_rng]
  refine Ok.bind (Ok.bind (Ok.mono (h c e S R) fun r ⟨k1, h1⟩ => Ok.bind (Ok.mono (h1 c e r.2 (R.kx k1)) fun q ⟨k2, j, e1, hi, hj, h2⟩ => ?_)))
  obtain ⟨v, S2⟩ := q
  cases e1
  refine Ok.bind (Ok.ok ?_)
  show Ok (if (-4611686018427387904 ≤ r.1.getD 0 ∧ r.1.getD 0 < 4611686018427387904) ∧ (-4611686018427387904 ≤ j ∧ j < 4611686018427387904) then Rs.ok ((r.1.getD 0, j), S2) else .bad) _
  rw [if_pos ⟨by omega, by omega⟩]
  refine Ok.ok ?_
  show Ok (if (j - r.1.getD 0).toNat ≤ line then Rs.ok (([], rngD (r.1.getD 0) j), S2) else .bad) _
  rw [if_pos (by unfold line; omega)]
  exact Ok.ok ⟨k1.trans k2, h2⟩
theorem vi_rng0 {Q : Chk → List D → Prop} (h : VX rc G b ve x fun v => ∃ j, v = .d (.int j) ∧ (-1000000 ≤ j ∧ j ≤ 1000000) ∧ Q [] (rngD 0 j)) : VI rc G b ve (.rng .none x) Q := vi_rng (vo_none (h.mono fun v ⟨j, e1, h1, h2⟩ => ⟨j, e1, by decide, h1, h2⟩))
theorem it_tup {xs : List D} : At G b ve fun S => items (.d (.tup xs)) S = some xs ∧ chkOf (.d (.tup xs)) S = [] := fun _ _ _ => ⟨rfl, rfl⟩
theorem it_fr {xs : List D} : At G b ve fun S => items (.fr xs) S = some xs ∧ chkOf (.fr xs) S = [] := fun _ _ _ => ⟨rfl, rfl⟩
theorem it_loc {p : Nat} {xs : List D} (h : At G b ve fun S => S[p]? = some (.lst xs)) : At G b ve fun S => items (.d (.loc p)) S = some xs ∧ chkOf (.d (.loc p)) S = [(p, .lst xs)] := fun e S R => ⟨items_loc (h e S R), chk_loc (h e S R)⟩
theorem vx_mkr {t : F1} {lo : Oe} (ht : t = .list ∨ t = .tuple) (h : VO rc G b ve lo fun i => VX rc G b ve x fun v => ∃ j, v = .d (.int j) ∧ (-1000000 ≤ i.getD 0 ∧ i.getD 0 ≤ 1000000) ∧ (-1000000 ≤ j ∧ j ≤ 1000000) ∧ Q (if t = .list then .fr (rngD (i.getD 0) j) else .d (.tup (rngD (i.getD 0) j)))) : VX rc G b ve (.mkr t lo x) Q := fun c e S R => by
  show Ok ((evO rc lo c e S >>= fun p => sD (evE rc x).v c e p.2 >>= _) >>= _) _
  refine Ok.bind (Ok.bind (Ok.mono (h c e S R) fun r ⟨k1, h1⟩ => Ok.bind (Ok.bind (Ok.mono (h1 c e r.2 (R.kx k1)) fun q ⟨k2, j, e1, hi, hj, h2⟩ => ?_))))
  obtain ⟨v, S2⟩ := q
  cases e1
  refine Ok.ok (Ok.bind (Ok.ok ?_))
  show Ok (if (-4611686018427387904 ≤ r.1.getD 0 ∧ r.1.getD 0 < 4611686018427387904) ∧ (-4611686018427387904 ≤ j ∧ j < 4611686018427387904) then Rs.ok ((r.1.getD 0, j), S2) else .bad) _
  rw [if_pos ⟨by omega, by omega⟩]
  refine Ok.ok ?_
  dsimp only
  rw [if_pos (by unfold line; omega)]
  rcases ht with rfl | rfl <;> exact Ok.ok ⟨k1.trans k2, h2⟩
/-! calls -/
/-- a call: what the callee is shown to do at each store that the slots allow -/
theorem vx_call {f : Nat} {ks : Es} {perm : List Nat} (h : VL rc G b ve es fun as => VL rc G b ve ks fun cs => ∀ e S S1, Rel G b ve e S → Rel G b ve e S1 → Kx G b S S1 → Ok (rc f (arr perm (as ++ cs)) S1) fun w => Kx G b S (leave S.length w.1 w.2).2 ∧ Q (leave S.length w.1 w.2).1) : VX rc G b ve (.call f es ks perm) Q := fun c e S R =>
  ok_call (Ok.mono (h S.length e S R) fun r ⟨k1, h1⟩ => Ok.mono (h1 S.length e r.2 (R.kx k1)) fun q ⟨k2, h2⟩ => h2 e S q.2 R (R.kx (k1.trans k2)) (k1.trans k2))
/-- .. that leaves the store and tells plain data -/
theorem vx_callP (F : Fm b G) {f : Nat} {ks : Es} {perm : List Nat} (h : VL rc G b ve es fun as => VL rc G b ve ks fun cs => ∃ v, v.pure = true ∧ (∀ e S, Rel G b ve e S → Ok (rc f (arr perm (as ++ cs)) S) fun r => r = (.d v, S)) ∧ Q (.d v)) : VX rc G b ve (.call f es ks perm) Q := vx_call fun c e S R =>
  Ok.mono (h c e S R) fun r ⟨k1, h1⟩ => ⟨k1, fun c' e' S' R' => Ok.mono (h1 c' e' S' R') fun q ⟨k2, v, hp, h2, h3⟩ => ⟨k2, fun e2 S2 S3 R2 R3 k => Ok.mono (h2 e2 S3 R3) fun w hw => by
    rw [hw, leave_pure hp]
    exact ⟨k.take F (F.len _ R2.g), h3⟩⟩⟩
/-- .. that leaves the store and tells a fresh list of plain data -/
theorem vx_callF (F : Fm b G) {f : Nat} {ks : Es} {perm : List Nat} (h : VL rc G b ve es fun as => VL rc G b ve ks fun cs => ∃ xs, (∀ x ∈ xs, x.pure = true) ∧ (∀ e S, Rel G b ve e S → Ok (rc f (arr perm (as ++ cs)) S) fun r => r = (.fr xs, S)) ∧ Q (.fr xs)) : VX rc G b ve (.call f es ks perm) Q := vx_call fun c e S R =>
  Ok.mono (h c e S R) fun r ⟨k1, h1⟩ => ⟨k1, fun c' e' S' R' => Ok.mono (h1 c' e' S' R') fun q ⟨k2, xs, hp, h2, h3⟩ => ⟨k2, fun e2 S2 S3 R2 R3 k => Ok.mono (h2 e2 S3 R3) fun w hw => by
    rw [hw, leave_frP hp]
    exact ⟨k.take F (F.len _ R2.g), h3⟩⟩⟩
/-- comprehensions: J of the turns done and of what stands in the list -/
def wipeV (ve : List Sl) : List Nat → List Sl
  | [] => ve
  | v :: vs => (wipeV ve vs).set v .no
theorem Rel.wipe (R : Rel G b ve e S) : ∀ vs : List Nat, Rel G b (wipeV ve vs) (wipeE e vs) S
  | [] => R
  | v :: vs => (Rel.wipe R vs).setno v none
theorem vx_comp {t : Tg} {it : It} {ifs : Es} {vs : List Nat} {c : Chk} {xs : List D} (J : Nat → List D → Prop) (hi : VI rc G b ve it fun c' xs' => c' = c ∧ xs' = xs) (hc : At G b ve c.ok)
    (h : ∀ k d ys, xs[k]? = some d → J k ys → ∀ c2 e S, Rel G b (wipeV ve vs) e S → Ok (evTg rc t c2 d e S) fun q => ∃ ve', (Rel G b ve' q.1 q.2 ∧ Kx G b S q.2) ∧ VF rc G b ve' ifs fun k2 => (k2 = true → VX rc G b ve' x fun v => ∃ y, v = .d y ∧ J (k + 1) (ys ++ [y])) ∧ (k2 = false → J (k + 1) ys)) (h0 : J 0 []) (hq : ∀ ys, J xs.length ys → Q (.fr ys)) : VX rc G b ve (.comp x t it ifs vs) Q := fun cc e S R => by
  refine ok_comp (Ok.mono (hi cc e S R) fun r ⟨k1, e1, e2⟩ => ?_)
  obtain ⟨⟨c', xs'⟩, S1⟩ := r
  dsimp only at e1 e2
  subst e1
  subst e2
  refine ok_ccnt (fun k ys S' => Kx G b S S' ∧ J k ys) (fun k ys S' ⟨hk, _⟩ => hc e S' (R.kx hk)) ?_ (fun ys S' ⟨hk, hj⟩ => ⟨hk, hq ys hj⟩) ⟨k1, h0⟩
  rintro k d ys S' hd ⟨hk, hj⟩
  have R' := (R.kx hk).wipe vs
  refine Ok.bind (Ok.mono (h k d ys hd hj cc _ S' R') fun q ⟨ve', ⟨R2, k2⟩, hf⟩ => ?_)
  refine Ok.bind (Ok.mono (hf cc q.1 q.2 R2) fun w ⟨k3, h1, h2⟩ => ?_)
  obtain ⟨kk, S3⟩ := w
  cases kk with
  | false => exact Ok.ok ⟨(hk.trans k2).trans k3, by simpa using h2 rfl⟩
  | true =>
    refine Ok.bind (Ok.bind (Ok.mono (h1 rfl cc q.1 S3 (R2.kx k3)) fun v ⟨k4, y, ey, hy⟩ => ?_))
    obtain ⟨v, S4⟩ := v
    cases ey
    exact Ok.ok (Ok.ok ⟨((hk.trans k2).trans k3).trans k4, hy⟩)
end
end Pv
set_option linter.all false
set_option autoImplicit false
/-! Walks told by slots: statements, loops, defs. -/
namespace Pv
def Post (G : Sto → Prop) (b c : Nat) (Q : Fl → List Sl → Prop) : Fl × Env × Sto → Prop := fun r => match r.1 with
  | .rt v => G r.2.2 ∧ ∃ v', leave c v r.2.2 = (v', r.2.2.take c) ∧ Q (.rt v') []
  | fl => ∃ ve, Rel G b ve r.2.1 r.2.2 ∧ Q fl ve
def VS (rc : Rc) (G : Sto → Prop) (b : Nat) (ss : Ss) (ve : List Sl) (Q : Fl → List Sl → Prop) : Prop := ∀ c e S, c ≤ b → Rel G b ve e S → Ok (evSs rc ss c e S) (Post G b c Q)
/-- what follows an inner block -/
def ThenV (rc : Rc) (G : Sto → Prop) (b : Nat) (r : Ss) (Q : Fl → List Sl → Prop) : Fl → List Sl → Prop := fun fl ve => match fl with
  | .nx => VS rc G b r ve Q
  | fl => Q fl ve
/-- what an assigned value makes of the slots -/
def PutV (rc : Rc) (G : Sto → Prop) (b : Nat) (i : Nat) (r : Ss) (ve : List Sl) (Q : Fl → List Sl → Prop) : Vl → Prop
  | .d x => VS rc G b r (ve.set i (.d x)) Q
  | .fr xs => ∀ p, VS rc G b r (ve.set i (.o p (.lst xs))) Q
section
variable {rc : Rc} {G : Sto → Prop} {b : Nat} {ve : List Sl} {e : Env} {S S' : Sto} {x y : E} {r : Ss} {Q : Fl → List Sl → Prop}
theorem Post.mono {c : Nat} {P : Fl → List Sl → Prop} (k : ∀ fl ve, P fl ve → Q fl ve) {w : Fl × Env × Sto} (h : Post G b c P w) : Post G b c Q w := by
  obtain ⟨fl, e, S⟩ := w
  cases fl with
  | rt v => exact ⟨h.1, h.2.imp fun v' h => ⟨h.1, k _ _ h.2⟩⟩
  | nx => exact h.imp fun ve h => ⟨h.1, k _ _ h.2⟩
  | br => exact h.imp fun ve h => ⟨h.1, k _ _ h.2⟩
  | ct => exact h.imp fun ve h => ⟨h.1, k _ _ h.2⟩
theorem VS.mono {ss : Ss} {P : Fl → List Sl → Prop} (h : VS rc G b ss ve P) (k : ∀ fl ve, P fl ve → Q fl ve) : VS rc G b ss ve Q := fun c e S hc R => Ok.mono (h c e S hc R) fun _ h => Post.mono k h
theorem VS.wk {ss : Ss} {ve' : List Sl} (h : VS rc G b ss ve' Q) (w : Less ve ve') : VS rc G b ss ve Q := fun c e S hc R => h c e S hc (R.wk w)
theorem post_then {c : Nat} (hc : c ≤ b) {w : Fl × Env × Sto} (h : Post G b c (ThenV rc G b r Q) w) : Then rc r c (Post G b c Q) w := by
  obtain ⟨fl, e, S⟩ := w
  cases fl with
  | rt v => exact h
  | nx => obtain ⟨ve, h1, h2⟩ := h; exact h2 c e S hc h1
  | br => exact h
  | ct => exact h
theorem vs_nil (h : Q .nx ve) : VS rc G b .nil ve Q := fun c e S hc R => ok_nil ⟨ve, R, h⟩
theorem vs_brk (h : Q .br ve) : VS rc G b (.cons .brk r) ve Q := fun c e S hc R => ok_brk ⟨ve, R, h⟩
theorem vs_cont (h : Q .ct ve) : VS rc G b (.cons .cont r) ve Q := fun c e S hc R => ok_cont ⟨ve, R, h⟩
theorem vs_pass (h : VS rc G b r ve Q) : VS rc G b (.cons .pass r) ve Q := fun c e S hc R => ok_pass (h c e S hc R)
theorem vs_then (h : VS rc G b r ve Q) : VS rc G b .nil ve (ThenV rc G b r Q) := vs_nil h
theorem vs_asg (F : Fm b G) {i : Nat} (h : VX rc G b ve x (PutV rc G b i r ve Q)) : VS rc G b (.cons (.asg (.var i) x) r) ve Q := fun c e S hc R => ok_asg (Ok.mono (h c e S R) fun w ⟨k, h⟩ => by
  obtain ⟨v, S1⟩ := w
  have R1 := R.kx k
  cases v with
  | d y => exact h c _ _ hc (R1.setd i y)
  | fr xs => exact h S1.length c _ _ hc (R1.new F i _))
theorem vs_dnew (F : Fm b G) {i : Nat} (h : ∀ p, VS rc G b r (ve.set i (.o p (.dct false []))) Q) : VS rc G b (.cons (.asg (.var i) (.dnew false)) r) ve Q := fun c e S hc R => ok_asg (Ok.eq rfl (h S.length c _ _ hc (R.new F i _)))
theorem vs_if {c : E} {s t : Ss} (h : VT rc G b ve c fun k => (k = true → VS rc G b s ve (ThenV rc G b r Q)) ∧ (k = false → VS rc G b t ve (ThenV rc G b r Q))) : VS rc G b (.cons (.ite c s t) r) ve Q := fun c e S hc R => ok_ite (Ok.mono (h c e S R) fun w ⟨k, h1, h2⟩ =>
  ⟨fun hk => Ok.mono (h1 hk c e w.2 hc (R.kx k)) fun _ h => post_then hc h, fun hk => Ok.mono (h2 hk c e w.2 hc (R.kx k)) fun _ h => post_then hc h⟩)
theorem vs_if1 {c : E} {s : Ss} (h : VT rc G b ve c fun k => (k = true → VS rc G b s ve (ThenV rc G b r Q)) ∧ (k = false → VS rc G b r ve Q)) : VS rc G b (.cons (.ite c s .nil) r) ve Q := vs_if (h.mono fun k h => ⟨h.1, fun hk => vs_then (h.2 hk)⟩)
theorem vs_expr (h : VX rc G b ve x fun _ => VS rc G b r ve Q) : VS rc G b (.cons (.expr x) r) ve Q := fun c e S hc R => ok_expr (Ok.mono (h c e S R) fun w ⟨k, h⟩ => h c e w.2 hc (R.kx k))
/-- told: plain data, or a list of plain data -/
def RetV (G : Sto → Prop) (b : Nat) (ve : List Sl) (Q : Fl → List Sl → Prop) : Vl → Prop
  | .d (.loc p) => ∃ (i : Nat) (xs : List D), ve[i]? = some (Sl.o p (.lst xs)) ∧ (∀ x ∈ xs, x.pure = true) ∧ Q (.rt (.fr xs)) []
  | .d x => x.pure = true ∧ Q (.rt (.d x)) []
  | .fr xs => (∀ x ∈ xs, x.pure = true) ∧ Q (.rt (.fr xs)) []
theorem vs_ret (h : VX rc G b ve x (RetV G b ve Q)) : VS rc G b (.cons (.ret x) r) ve Q := fun c e S hc R => ok_ret (Ok.mono (h c e S R) fun w ⟨k, h⟩ => by
  obtain ⟨v, S1⟩ := w
  have R1 := R.kx k
  refine ⟨k.g, ?_⟩
  cases v with
  | fr xs => exact ⟨_, leave_frP h.1, h.2⟩
  | d y =>
    cases y with
    | loc p =>
      obtain ⟨i, xs, h1, h2, h3⟩ := h
      obtain ⟨_, a2, a3⟩ := R1.own i p _ h1
      exact ⟨_, leave_own a2 (Nat.le_trans hc a3) h2, h3⟩
    | non => exact ⟨_, leave_pure h.1, h.2⟩
    | bl _ => exact ⟨_, leave_pure h.1, h.2⟩
    | int _ => exact ⟨_, leave_pure h.1, h.2⟩
    | str _ => exact ⟨_, leave_pure h.1, h.2⟩
    | tup _ => exact ⟨_, leave_pure h.1, h.2⟩
    | scr _ => exact ⟨_, leave_pure h.1, h.2⟩)
theorem ret_p {v : D} (h1 : v.pure = true) (h2 : Q (.rt (.d v)) []) : RetV G b ve Q (.d v) := by
  cases v with
  | loc l => cases h1
  | _ => exact ⟨h1, h2⟩
theorem vs_retn (h : Q (.rt (.d .non)) []) : VS rc G b (.cons .retn r) ve Q := fun c e S hc R => ok_retn ⟨R.g, _, leave_pure rfl, h⟩
/-- x.append(y), x the frame's own -/
theorem vs_app (F : Fm b G) {i p : Nat} {xs : List D} (hi : ve[i]? = some (.o p (.lst xs))) (hx : VX rc G b ve x fun v => v = .d (.loc p)) (h : VX rc G b ve y fun v => ∃ w, v = .d w ∧ xs.length < 16777216 ∧ VS rc G b r (ve.set i (.o p (.lst (xs ++ [w])))) Q) : VS rc G b (.cons (.expr (.m1 .append x y)) r) ve Q := fun c e S hc R => by
  refine ok_expr ?_
  rw [v_m1]
  refine Ok.bind (Ok.mono (hx c e S R) fun q ⟨k0, e0⟩ => ?_)
  obtain ⟨v0, S0⟩ := q
  dsimp only at e0
  subst e0
  have R0 := R.kx k0
  obtain ⟨a1, a2, a3⟩ := R0.own i p _ hi
  show Ok (Rs.ofO (match S0[p]? with
    | some (.lst _) => some ()
    | _ => none) >>= _) _
  rw [a2]
  refine Ok.bind (Ok.ok (Ok.bind (Ok.mono (h c e S0 R0) fun q ⟨k, w, e1, hl, h2⟩ => ?_)))
  obtain ⟨v, S1⟩ := q
  cases e1
  have R1 := R0.kx k
  obtain ⟨a1, a2, a3⟩ := R1.own i p _ hi
  exact Ok.eq (meth_app a2 hl (.inr (Nat.le_trans hc a3))) (h2 c e _ hc (R1.wr F hi _))
/-- x[k] = v, x the frame's own -/
theorem vg_sub (F : Fm b G) {i p : Nat} {xs : List D} {d : D} {Q : List Sl → Prop} (hi : ve[i]? = some (.o p (.lst xs))) (hx : VX rc G b ve x fun v => v = .d (.loc p)) (h : VX rc G b ve y fun v => ∃ k, v = .d (.int k) ∧ 0 ≤ k ∧ k < xs.length ∧ Q (ve.set i (.o p (.lst (xs.set k.toNat d))))) : VG rc G b (.sub x y) d ve Q := fun c e S hc R => by
  rw [g_sub]
  refine Ok.bind (Ok.mono (hx c e S R) fun q ⟨k0, e0⟩ => ?_)
  obtain ⟨v0, S0⟩ := q
  dsimp only at e0
  subst e0
  have R0 := R.kx k0
  refine Ok.bind (Ok.mono (h c e S0 R0) fun q ⟨k1, k, e1, h1, h2, h3⟩ => ?_)
  obtain ⟨v, S1⟩ := q
  cases e1
  have R1 := R0.kx k1
  obtain ⟨a1, a2, a3⟩ := R1.own i p _ hi
  refine Ok.bind (Ok.eq (setI_at a2 h1 h2 (.inr (Nat.le_trans hc a3))) ?_)
  exact Ok.ok ⟨_, R1.wr F hi _, h3⟩
theorem vg_var {i : Nat} {d : D} {Q : List Sl → Prop} (h : Q (ve.set i (.d d))) : VG rc G b (.var i) d ve Q := fun c e S hc R => Ok.ok ⟨_, R.setd i d, h⟩
def VGs (rc : Rc) (G : Sto → Prop) (b : Nat) (t : Tgs) (xs : List D) (ve : List Sl) (Q : List Sl → Prop) : Prop := ∀ c e S, c ≤ b → Rel G b ve e S → Ok (evTgs rc t c xs e S) fun r => ∃ ve', Rel G b ve' r.1 r.2 ∧ Q ve'
theorem vgs_nil {Q : List Sl → Prop} (h : Q ve) : VGs rc G b .nil [] ve Q := fun c e S hc R => Ok.ok ⟨_, R, h⟩
theorem vgs_cons {t : Tg} {ts : Tgs} {d : D} {ds : List D} {Q : List Sl → Prop} (h : VG rc G b t d ve fun ve1 => VGs rc G b ts ds ve1 Q) : VGs rc G b (.cons t ts) (d :: ds) ve Q := fun c e S hc R => by
  rw [g_cons]
  exact Ok.bind (Ok.mono (h c e S hc R) fun q ⟨ve1, R1, h1⟩ => h1 c q.1 q.2 hc R1)
theorem vg_tup {ts : Tgs} {ds : List D} {Q : List Sl → Prop} (h : VGs rc G b ts ds ve Q) : VG rc G b (.tup ts) (.tup ds) ve Q := h
theorem vs_asgG (F : Fm b G) {t : Tg} (h : VX rc G b ve x fun v => ∃ d, v = .d d ∧ VG rc G b t d ve fun ve1 => VS rc G b r ve1 Q) : VS rc G b (.cons (.asg t x) r) ve Q := fun c e S hc R => ok_asgG (Ok.mono (h c e S R) fun w ⟨k, d, e1, h⟩ => by
  obtain ⟨v, S1⟩ := w
  cases e1
  exact Ok.mono (h c e S1 hc (R.kx k)) fun q ⟨ve1, R1, h1⟩ => h1 c q.1 q.2 hc R1)
/-- i op= x, whole numbers -/
theorem vs_aug {i : Nat} {o : Bo} {v : Int} (hi : ve[i]? = some (.d (.int v))) (h : VX rc G b ve x fun u => ∃ d w, u = .d (.int d) ∧ binI o v d = some w ∧ VS rc G b r (ve.set i (.d (.int w))) Q) : VS rc G b (.cons (.aug i o x) r) ve Q := fun c e S hc R => by
  refine ok_seq ?_
  show Ok (envGet e i >>= _) _
  unfold envGet
  rw [R.val i _ hi]
  refine Ok.bind (Ok.ok (Ok.bind (Ok.bind (Ok.mono (h c e S R) fun q ⟨k, d, w, e1, e2, h2⟩ => ?_))))
  obtain ⟨u, S1⟩ := q
  cases e1
  refine Ok.ok ?_
  show Ok (Rs.ofO ((binI o v d).map D.int) >>= _) _
  rw [e2]
  exact Ok.bind (Ok.ok (Ok.ok (h2 c _ _ hc ((R.kx k).setd i _))))
/-- x[k] op= v -/
theorem vs_augs (F : Fm b G) {i p : Nat} {o : Bo} {xs : List D} {z : E} (hi : ve[i]? = some (.o p (.lst xs))) (hx : VX rc G b ve x fun v => v = .d (.loc p)) (h : VX rc G b ve y fun v => ∃ k, v = .d (.int k) ∧ VX rc G b ve z fun u => ∃ d a w, u = .d (.int d) ∧ 0 ≤ k ∧ xs[k.toNat]? = some (.int a) ∧ binI o a d = some w ∧ VS rc G b r (ve.set i (.o p (.lst (xs.set k.toNat (.int w))))) Q) : VS rc G b (.cons (.augs x y o z) r) ve Q := fun c e S hc R => by
  refine ok_seq ?_
  show Ok (sD (evE rc x).v c e S >>= _) _
  refine Ok.bind (Ok.bind (Ok.mono (hx c e S R) fun q ⟨k0, e0⟩ => ?_))
  obtain ⟨v0, S0⟩ := q
  dsimp only at e0
  subst e0
  refine Ok.ok ?_
  have R0 := R.kx k0
  refine Ok.bind (Ok.bind (Ok.mono (h c e S0 R0) fun q ⟨k1, k, e1, h1⟩ => ?_))
  obtain ⟨v1, S1⟩ := q
  cases e1
  refine Ok.ok ?_
  have R1 := R0.kx k1
  -- the item is read before z is told; z's telling is shown first
  obtain ⟨q, eq, k2, d, a, w, e2, h2, h3, h4, h5⟩ := h1 c e S1 R1
  obtain ⟨v2, S2⟩ := q
  cases e2
  obtain ⟨a1, a2, a3⟩ := R1.own i p _ hi
  have hl := (List.getElem?_eq_some_iff.mp h3).1
  show Ok (Rs.ofO (match S1[p]? with
    | some (.lst xs) => if 0 ≤ k then xs[k.toNat]? else none
    | _ => none) >>= _) _
  rw [a2]
  show Ok (Rs.ofO (if 0 ≤ k then xs[k.toNat]? else none) >>= _) _
  rw [if_pos h2, h3]
  refine Ok.bind (Ok.ok (Ok.bind (Ok.bind (Ok.eq eq (Ok.ok ?_)))))
  have R2 := R1.kx k2
  obtain ⟨b1, b2, b3⟩ := R2.own i p _ hi
  show Ok (Rs.ofO ((binI o a d).map .int) >>= fun n => setI c (.loc p) (.int k) n S2 >>= _) _
  rw [h4]
  refine Ok.bind (Ok.ok (Ok.bind (Ok.eq (setI_at b2 h2 (by omega) (.inr (Nat.le_trans hc b3))) ?_)))
  exact Ok.ok (h5 c _ _ hc (R2.wr F hi _))
/-- a, b = x, y without a tuple -/
theorem vs_swap {ts : List Nat} {es : Es} {r : Ss} (h : VL rc G b ve es fun ds => ds.length = ts.length ∧ VS rc G b r (ts.zip ds |>.foldl (fun v p => v.set p.1 (.d p.2)) ve) Q) : VS rc G b (.cons (.swap ts es) r) ve Q := fun c e S hc R => ok_swap (Ok.mono (h c e S R) fun w ⟨k, h1, h2⟩ => ⟨h1, by
  have R1 := R.kx k
  refine h2 c _ _ hc ?_
  have go : ∀ (ts : List Nat) (ds : List D) (ve : List Sl) (e : Env), Rel G b ve e w.2 → Rel G b (ts.zip ds |>.foldl (fun v p => v.set p.1 (.d p.2)) ve) (setAll ts ds e) w.2 := by
    intro ts
    induction ts with
    | nil => intro ds ve e R; exact R
    | cons t ts ih =>
      intro ds ve e R
      cases ds with
      | nil => exact R
      | cons d ds => exact ih ds _ _ (R.setd t d)
  exact go ts w.1 ve e R1⟩)
/-- a new object that lies there already -/
theorem Rel.put (R : Rel G b ve e S) (i : Nat) {p : Nat} {ob : O} (hp : S[p]? = some ob) (hb : b ≤ p) (hn : ∀ (j q : Nat) (o : O), ve[j]? = some (.o q o) → q ≠ p) : Rel G b (ve.set i (.o p ob)) (e.set i (some (.loc p))) S := by
  refine ⟨by simp [R.len], R.g, fun j y h => ?_, fun j q o h => ?_, fun j k q r a c hjk h1 h2 => ?_⟩
  · by_cases hij : i = j
    · subst hij
      cases sl_set_eq h
    · rw [List.getElem?_set_ne hij]
      exact R.val j y (sl_set_ne h hij)
  · by_cases hij : i = j
    · subst hij
      have hl := (List.getElem?_eq_some_iff.mp h).1
      cases sl_set_eq h
      exact ⟨by rw [List.getElem?_set_self (by rw [R.len]; simpa using hl)], hp, hb⟩
    · obtain ⟨h1, h2, h3⟩ := R.own j q o (sl_set_ne h hij)
      exact ⟨by rw [List.getElem?_set_ne hij]; exact h1, h2, h3⟩
  · by_cases hij : i = j
    · subst hij
      cases sl_set_eq h1
      exact fun e => hn k r c (sl_set_ne h2 hjk) e.symm
    · by_cases hik : i = k
      · subst hik
        cases sl_set_eq h2
        exact hn j q a (sl_set_ne h1 hij)
      · exact R.sep j k q r a c hjk (sl_set_ne h1 hij) (sl_set_ne h2 hik)
def putS : Vl → Nat → Sl
  | .d x, _ => .d x
  | .fr xs, p => .o p (.lst xs)
/-- a value settled: it lies at p -/
theorem settle_kx (F : Fm b G) {v : Vl} (R : Rel G b ve e S) : Kx G b S (settle v S).2 := by
  cases v with
  | d x => exact R.kr
  | fr xs => exact Kx.push F R.g _
theorem Rel.putV (F : Fm b G) (R : Rel G b ve e S) {v : Vl} {S2 : Sto} {ve2 : List Sl} {e2 : Env} (k : Kx G b (settle v S).2 S2) (R2 : Rel G b ve2 e2 S2) (i : Nat) (hn : ∀ (j q : Nat) (o : O), ve2[j]? = some (.o q o) → q ≠ S.length) : Rel G b (ve2.set i (putS v S.length)) (e2.set i (some (settle v S).1)) S2 := by
  cases v with
  | d x => exact R2.setd i x
  | fr xs =>
    refine R2.put i ?_ (F.len _ R.g) hn
    have h1 : (S ++ [O.lst xs])[S.length]? = some (.lst xs) := push_at
    have h2 := k.at_ S.length (F.len _ R.g) (by show S.length < (S ++ [O.lst xs]).length; simp)
    exact h2.trans h1
/-- a, b = x, y; each plain data or a fresh list -/
theorem vs_swap2 (F : Fm b G) {i j : Nat} (h : VX rc G b ve x fun v => VX rc G b ve y fun w => ∀ p q, VS rc G b r ((ve.set i (putS v p)).set j (putS w q)) Q) : VS rc G b (.cons (.swap [i, j] (.cons x (.cons y .nil))) r) ve Q := fun c e S hc R => by
  refine ok_swap (es_cons (Ok.mono (h c e S R) fun v1 ⟨k1, h1⟩ => ?_))
  obtain ⟨v, S1⟩ := v1
  dsimp only at k1 h1 ⊢
  have R1 := R.kx k1
  have ks := settle_kx F (v := v) R1
  refine es_cons (Ok.mono (h1 c e _ (R1.kx ks)) fun v2 ⟨k2, h2⟩ => ?_)
  obtain ⟨w, S2⟩ := v2
  dsimp only at k2 h2 ⊢
  have R2 := (R1.kx ks).kx k2
  have kt := settle_kx F (v := w) R2
  refine es_nil ⟨rfl, h2 S1.length S2.length c _ _ hc ?_⟩
  have R3 := R2.kx kt
  have n1 : ∀ (j q : Nat) (o : O), ve[j]? = some (.o q o) → q ≠ S1.length := fun j q o hj => by
    have := at_lt (R1.own j q o hj).2.1
    omega
  have R4 := R1.putV F (v := v) (k2.trans kt) R3 i n1
  refine R2.putV F (v := w) (Kx.refl R3.g) R4 j fun k q o hk => ?_
  by_cases hik : i = k
  · subst hik
    have := sl_set_eq hk
    cases v with
    | d x => cases this
    | fr xs =>
      cases this
      have h3 := k2.at_ S1.length (F.len _ R1.g) (by show S1.length < (S1 ++ [O.lst xs]).length; simp)
      have h4 : (S1 ++ [O.lst xs])[S1.length]? = some (.lst xs) := push_at
      have := at_lt (h3.trans h4)
      omega
  · have := at_lt (R2.own k q o (sl_set_ne hk hik)).2.1
    omega
/-- d[k] = v, d the frame's own -/
theorem vs_dput (F : Fm b G) {i p : Nat} {t : Bool} {kvs : List (D × D)} {o k : E} (hi : ve[i]? = some (.o p (.dct t kvs))) (ho : ∀ e S, Rel G b ve e S → PV rc e S o (.d (.loc p))) (h : VX rc G b ve x fun v => ∃ u, v = .d u ∧ VX rc G b ve k fun w => ∃ g, w = .d g ∧ isK g = true ∧ kvs.length < 16777216 ∧ VS rc G b r (ve.set i (.o p (.dct t (putK kvs g u)))) Q) : VS rc G b (.cons (.dput o k x) r) ve Q := fun c e S hc R => by
  refine ok_seq ?_
  show Ok (sD (evE rc x).v c e S >>= _) _
  refine Ok.bind (Ok.bind (Ok.mono (h c e S R) fun q ⟨k1, u, e1, h1⟩ => ?_))
  obtain ⟨v1, S1⟩ := q
  cases e1
  refine Ok.ok ?_
  have R1 := R.kx k1
  show Ok (sD (evE rc o).v c e S1 >>= _) _
  refine Ok.bind (Ok.bind (Ok.eq (ho e S1 R1 c) (Ok.ok ?_)))
  show Ok (sD (evE rc k).v c e S1 >>= _) _
  refine Ok.bind (Ok.bind (Ok.mono (h1 c e S1 R1) fun q ⟨k2, g, e2, h2, h3, h4⟩ => ?_))
  obtain ⟨v2, S2⟩ := q
  cases e2
  refine Ok.ok ?_
  have R2 := R1.kx k2
  obtain ⟨a1, a2, a3⟩ := R2.own i p _ hi
  show Ok (setK c (.loc p) g u S2 >>= _) _
  have : setK c (.loc p) g u S2 = .ok (S2.set p (.dct t (putK kvs g u))) := by
    unfold setK
    dsimp only
    rw [a2]
    exact if_pos ⟨h2, h3, .inr (Nat.le_trans hc a3)⟩
  rw [this]
  exact Ok.bind (Ok.ok (Ok.ok (h4 c _ _ hc (R2.wr F hi _))))
theorem vx_dget {x y : E} {Q : Vl → Prop} {p : Nat} (h : VX rc G b ve x fun v => v = .d (.loc p)) (h2 : VX rc G b ve y fun w => ∃ t kvs g u, w = .d g ∧ isK g = true ∧ (At G b ve fun S => S[p]? = some (.dct t kvs)) ∧ getK kvs g = some u ∧ Q (.d u)) : VX rc G b ve (.dget x y) Q := fun c e S R => by
  show Ok (sD (evE rc x).v c e S >>= _) _
  refine Ok.bind (Ok.bind (Ok.mono (h c e S R) fun q ⟨k0, e0⟩ => ?_))
  obtain ⟨v0, S0⟩ := q
  dsimp only at e0
  subst e0
  refine Ok.ok ?_
  have R0 := R.kx k0
  refine Ok.bind (Ok.bind (Ok.mono (h2 c e S0 R0) fun q ⟨k1, t, kvs, g, u, e1, hk, hat, hg, hq⟩ => ?_))
  obtain ⟨v1, S1⟩ := q
  cases e1
  refine Ok.ok ?_
  have := hat e S1 (R0.kx k1)
  show Ok (Rs.ofO (if isK g = true then (match S1[p]? with
    | some (.dct _ kvs) => some kvs
    | _ => none).bind fun kvs => getK kvs g else none) >>= _) _
  rw [if_pos hk, this]
  show Ok (Rs.ofO (getK kvs g) >>= _) _
  rw [hg]
  exact Ok.ok ⟨k0.trans k1, hq⟩
theorem vx_din {neg : Bool} {x y : E} {Q : Vl → Prop} (h : VX rc G b ve y fun w => ∃ g, w = .d g ∧ VX rc G b ve x fun v => ∃ p t kvs, v = .d (.loc p) ∧ isK g = true ∧ (At G b ve fun S => S[p]? = some (.dct t kvs)) ∧ Q (.d (.bl (if neg then !(getK kvs g).isSome else (getK kvs g).isSome)))) : VX rc G b ve (.din neg y x) Q := fun c e S R => by
  show Ok (sD (evE rc y).v c e S >>= _) _
  refine Ok.bind (Ok.bind (Ok.mono (h c e S R) fun q ⟨k0, g, e0, h0⟩ => ?_))
  obtain ⟨v0, S0⟩ := q
  cases e0
  refine Ok.ok ?_
  have R0 := R.kx k0
  refine Ok.bind (Ok.bind (Ok.mono (h0 c e S0 R0) fun q ⟨k1, p, t, kvs, e1, hk, hat, hq⟩ => ?_))
  obtain ⟨v1, S1⟩ := q
  cases e1
  refine Ok.ok ?_
  have := hat e S1 (R0.kx k1)
  show Ok (Rs.ofO (if isK g = true then (match S1[p]? with
    | some (.dct _ kvs) => some kvs
    | _ => none).map fun kvs => (getK kvs g).isSome else none) >>= _) _
  rw [if_pos hk, this]
  exact Ok.bind (Ok.ok (Ok.ok ⟨k0.trans k1, hq⟩))
theorem vx_dgt {x y z : E} {Q : Vl → Prop} {p : Nat} {t : Bool} {kvs : List (D × D)} (hi : At G b ve fun S => S[p]? = some (.dct t kvs)) (h : VX rc G b ve x fun v => v = .d (.loc p)) (h2 : VX rc G b ve y fun w => ∃ g, w = .d g ∧ VX rc G b ve z fun v => ∃ u, v = .d u ∧ isK g = true ∧ Q (.d ((getK kvs g).getD u))) : VX rc G b ve (.dgt x y z) Q := fun c e S R => by
  show Ok (sD (evE rc x).v c e S >>= _) _
  refine Ok.bind (Ok.bind (Ok.mono (h c e S R) fun q ⟨k0, e0⟩ => ?_))
  obtain ⟨v0, S0⟩ := q
  dsimp only at e0
  subst e0
  refine Ok.ok ?_
  have R0 := R.kx k0
  have a0 := hi e S0 R0
  show Ok (Rs.ofO (match S0[p]? with
    | some (.dct _ kvs) => some kvs
    | _ => none) >>= _) _
  rw [a0]
  refine Ok.bind (Ok.ok ?_)
  refine Ok.bind (Ok.bind (Ok.mono (h2 c e S0 R0) fun q ⟨k1, g, e1, h3⟩ => ?_))
  obtain ⟨v1, S1⟩ := q
  cases e1
  refine Ok.ok ?_
  have R1 := R0.kx k1
  refine Ok.bind (Ok.bind (Ok.mono (h3 c e S1 R1) fun q ⟨k2, u, e2, hk, hq⟩ => ?_))
  obtain ⟨v2, S2⟩ := q
  cases e2
  refine Ok.ok ?_
  have a2 := hi e S2 (R1.kx k2)
  show Ok (Rs.ofO (if isK g = true then (match S2[p]? with
    | some (.dct _ kvs) => some kvs
    | _ => none).map fun kvs => (getK kvs g).getD u else none) >>= _) _
  rw [if_pos hk, a2]
  exact Ok.bind (Ok.ok (Ok.ok ⟨(k0.trans k1).trans k2, hq⟩))
theorem vx_dlen {x : E} {Q : Vl → Prop} (h : VX rc G b ve x fun v => ∃ p t kvs, v = .d (.loc p) ∧ (At G b ve fun S => S[p]? = some (.dct t kvs)) ∧ Q (.d (.int kvs.length))) : VX rc G b ve (.dlen x) Q := fun c e S R => by
  show Ok (sD (evE rc x).v c e S >>= _) _
  refine Ok.bind (Ok.bind (Ok.mono (h c e S R) fun q ⟨k1, p, t, kvs, e1, hat, hq⟩ => ?_))
  obtain ⟨v1, S1⟩ := q
  cases e1
  refine Ok.ok ?_
  have := hat e S1 (R.kx k1)
  show Ok (Rs.ofO (match S1[p]? with
    | some (.dct _ kvs) => some kvs
    | _ => none) >>= _) _
  rw [this]
  exact Ok.bind (Ok.ok (Ok.ok ⟨k1, hq⟩))
/-! ### loops -/
/-- behind a turn -/
def TurnV (rc : Rc) (G : Sto → Prop) (b : Nat) (r : Ss) (Q : Fl → List Sl → Prop) (I : List Sl → Prop) : Fl → List Sl → Prop := fun fl ve => match fl with
  | .nx => ∃ ve', I ve' ∧ Less ve ve'
  | .ct => ∃ ve', I ve' ∧ Less ve ve'
  | .br => VS rc G b r ve Q
  | .rt v => Q (.rt v) []
theorem vs_for {t : Tg} {it : It} {body : Ss} {c : Chk} {xs : List D} (I : Nat → List Sl → Prop) (hi : VI rc G b ve it fun c' xs' => c' = c ∧ xs' = xs) (h0 : I 0 ve) (hc : ∀ k ve', I k ve' → At G b ve' c.ok)
    (h : ∀ k d ve', xs[k]? = some d → I k ve' → VG rc G b t d ve' fun ve1 => VS rc G b body ve1 (TurnV rc G b r Q (I (k + 1)))) (hq : ∀ ve', I xs.length ve' → VS rc G b r ve' Q) : VS rc G b (.cons (.for t it body) r) ve Q := fun c2 e S hc2 R => by
  refine ok_for (Ok.mono (hi c2 e S R) fun w ⟨k1, e1, e2⟩ => ?_)
  obtain ⟨⟨c', xs'⟩, S1⟩ := w
  dsimp only at e1 e2
  subst e1
  subst e2
  refine ok_cnt (fun k e S => ∃ ve', Rel G b ve' e S ∧ I k ve') (fun k e S ⟨ve', R', hI⟩ => hc k ve' hI e S R') ?_ ?_ ⟨ve, R.kx k1, h0⟩
  · rintro k d e' S' hd ⟨ve', R', hI⟩
    refine Ok.bind (Ok.mono (h k d ve' hd hI c2 e' S' hc2 R') fun q ⟨ve1, R1, h1⟩ => ?_)
    refine Ok.mono (h1 c2 q.1 q.2 hc2 R1) fun w hw => ?_
    obtain ⟨fl, e2, S2⟩ := w
    cases fl with
    | nx => obtain ⟨v2, R2, v3, h3, wk⟩ := hw; exact ⟨v3, R2.wk wk, h3⟩
    | ct => obtain ⟨v2, R2, v3, h3, wk⟩ := hw; exact ⟨v3, R2.wk wk, h3⟩
    | br => obtain ⟨v2, R2, h3⟩ := hw; exact Then.nx (h3 c2 _ _ hc2 R2)
    | rt v => exact Then.rt hw
  · rintro e' S' ⟨ve', R', hI⟩
    exact Then.nx (hq ve' hI c2 e' S' hc2 R')
theorem vs_forW {t : Tg} {it : It} {body : Ss} {c : Chk} {xs : List D} (I : Nat → List Sl → Prop) (hi : VI rc G b ve it fun c' xs' => c' = c ∧ xs' = xs) (h0 : ∃ ve', I 0 ve' ∧ Less ve ve') (hc : ∀ k ve', I k ve' → At G b ve' c.ok)
    (h : ∀ k d ve', xs[k]? = some d → I k ve' → VG rc G b t d ve' fun ve1 => VS rc G b body ve1 (TurnV rc G b r Q (I (k + 1)))) (hq : ∀ ve', I xs.length ve' → VS rc G b r ve' Q) : VS rc G b (.cons (.for t it body) r) ve Q := fun c2 e S hc2 R => by
  refine ok_for (Ok.mono (hi c2 e S R) fun w ⟨k1, e1, e2⟩ => ?_)
  obtain ⟨⟨c', xs'⟩, S1⟩ := w
  dsimp only at e1 e2
  subst e1
  subst e2
  obtain ⟨ve0, hI0, wk0⟩ := h0
  refine ok_cnt (fun k e S => ∃ ve', Rel G b ve' e S ∧ I k ve') (fun k e S ⟨ve', R', hI⟩ => hc k ve' hI e S R') ?_ ?_ ⟨ve0, (R.kx k1).wk wk0, hI0⟩
  · rintro k d e' S' hd ⟨ve', R', hI⟩
    refine Ok.bind (Ok.mono (h k d ve' hd hI c2 e' S' hc2 R') fun q ⟨ve1, R1, h1⟩ => ?_)
    refine Ok.mono (h1 c2 q.1 q.2 hc2 R1) fun w hw => ?_
    obtain ⟨fl, e2, S2⟩ := w
    cases fl with
    | nx => obtain ⟨v2, R2, v3, h3, wk⟩ := hw; exact ⟨v3, R2.wk wk, h3⟩
    | ct => obtain ⟨v2, R2, v3, h3, wk⟩ := hw; exact ⟨v3, R2.wk wk, h3⟩
    | br => obtain ⟨v2, R2, h3⟩ := hw; exact Then.nx (h3 c2 _ _ hc2 R2)
    | rt v => exact Then.rt hw
  · rintro e' S' ⟨ve', R', hI⟩
    exact Then.nx (hq ve' hI c2 e' S' hc2 R')
/-- .. what is walked is drawn -/
theorem vs_forX {t : Tg} {it : It} {body : Ss} (hi : VI rc G b ve it fun c xs => ∃ I : Nat → List Sl → Prop, (∃ ve', I 0 ve' ∧ Less ve ve') ∧ (∀ k ve', I k ve' → At G b ve' c.ok) ∧ (∀ k d ve', xs[k]? = some d → I k ve' → VG rc G b t d ve' fun ve1 => VS rc G b body ve1 (TurnV rc G b r Q (I (k + 1)))) ∧ ∀ ve', I xs.length ve' → VS rc G b r ve' Q) : VS rc G b (.cons (.for t it body) r) ve Q := fun c2 e S hc2 R => by
  refine ok_for (Ok.mono (hi c2 e S R) fun w ⟨k1, I, h0, hc, h, hq⟩ => ?_)
  obtain ⟨⟨c', xs'⟩, S1⟩ := w
  dsimp only at hc h hq k1 ⊢
  obtain ⟨ve0, hI0, wk0⟩ := h0
  refine ok_cnt (fun k e S => ∃ ve', Rel G b ve' e S ∧ I k ve') (fun k e S ⟨ve', R', hI⟩ => hc k ve' hI e S R') ?_ ?_ ⟨ve0, (R.kx k1).wk wk0, hI0⟩
  · rintro k d e' S' hd ⟨ve', R', hI⟩
    refine Ok.bind (Ok.mono (h k d ve' hd hI c2 e' S' hc2 R') fun q ⟨ve1, R1, h1⟩ => ?_)
    refine Ok.mono (h1 c2 q.1 q.2 hc2 R1) fun w hw => ?_
    obtain ⟨fl, e2, S2⟩ := w
    cases fl with
    | nx => obtain ⟨v2, R2, v3, h3, wk⟩ := hw; exact ⟨v3, R2.wk wk, h3⟩
    | ct => obtain ⟨v2, R2, v3, h3, wk⟩ := hw; exact ⟨v3, R2.wk wk, h3⟩
    | br => obtain ⟨v2, R2, h3⟩ := hw; exact Then.nx (h3 c2 _ _ hc2 R2)
    | rt v => exact Then.rt hw
  · rintro e' S' ⟨ve', R', hI⟩
    exact Then.nx (hq ve' hI c2 e' S' hc2 R')
theorem at_nil : At G b ve (Chk.ok []) := fun _ S _ => chk_nil S
theorem at_one {p : Nat} {ob : O} (h : At G b ve fun S => S[p]? = some ob) : At G b ve (Chk.ok [(p, ob)]) := fun e S R => chk_one (h e S R)
theorem vs_while {c : E} {body : Ss} (I : Nat → List Sl → Prop) {m : Nat} (hm : m < 1000000000) (h0 : I m ve)
    (h : ∀ m ve', I m ve' → VT rc G b ve' c fun k => (k = false → VS rc G b r ve' Q) ∧ (k = true → VS rc G b body ve' (TurnV rc G b r Q fun ve2 => ∃ m', m' < m ∧ I m' ve2))) : VS rc G b (.cons (.while c body) r) ve Q := fun c2 e S hc2 R => by
  refine st_while (fun m e S => ∃ ve', Rel G b ve' e S ∧ I m ve') (m := m) hm ⟨ve, R, h0⟩ (fun m e S ⟨ve', R', hI⟩ => ?_)
  refine Ok.mono (h m ve' hI c2 e S R') fun q ⟨k1, h1, h2⟩ => ⟨fun hk => h1 hk c2 e q.2 hc2 (R'.kx k1), fun hk => ?_⟩
  refine Ok.mono (h2 hk c2 e q.2 hc2 (R'.kx k1)) fun w hw => ?_
  obtain ⟨fl, e2, S2⟩ := w
  cases fl with
  | nx => obtain ⟨v2, R2, v3, ⟨m', hm', h3⟩, wk⟩ := hw; exact ⟨m', hm', v3, R2.wk wk, h3⟩
  | ct => obtain ⟨v2, R2, v3, ⟨m', hm', h3⟩, wk⟩ := hw; exact ⟨m', hm', v3, R2.wk wk, h3⟩
  | br => obtain ⟨v2, R2, h3⟩ := hw; exact h3 c2 _ _ hc2 R2
  | rt v => exact hw
end
/-! ### defs -/
def ve0 (nv : Nat) (ds : List D) : List Sl := ds.map .d ++ List.replicate (nv - ds.length) .no
theorem rel0 {G : Sto → Prop} {b : Nat} {S : Sto} (nv : Nat) (ds : List D) (g : G S) : Rel G b (ve0 nv ds) (env0 nv ds) S := by
  have no : ∀ (i p : Nat) (ob : O), (ve0 nv ds)[i]? ≠ some (.o p ob) := fun i p ob h => by
    unfold ve0 at h
    rw [List.getElem?_append] at h
    split at h
    · rw [List.getElem?_map] at h
      obtain ⟨y, _, e⟩ := Option.map_eq_some_iff.mp h
      cases e
    · rw [List.getElem?_replicate] at h
      split at h <;> cases h
  refine ⟨by simp [env0, ve0], g, fun i x h => ?_, fun i p ob h => absurd h (no i p ob), fun i j p q a c _ h => absurd h (no i p a)⟩
  unfold ve0 at h
  unfold env0
  by_cases hi : i < ds.length
  · rw [List.getElem?_append_left (by simpa using hi), List.getElem?_map] at h ⊢
    obtain ⟨y, hy, e⟩ := Option.map_eq_some_iff.mp h
    cases e
    rw [hy]
    rfl
  · rw [List.getElem?_append_right (by simpa using Nat.le_of_not_lt hi), List.getElem?_replicate] at h
    split at h <;> cases h
theorem fn_vs {T : Nat → Option Df} {n f : Nat} {d : Df} {ds : List D} {S : Sto} {G : Sto → Prop} {P : Vl → Sto → Prop} (hT : T f = some d) (hl : ds.length = d.np) (g : G S) (h : VS (callN T n) G S.length d.body (ve0 d.nv ds) fun fl _ => ∃ v, flV fl = some v ∧ ∀ S', G S' → P v (S'.take S.length)) : Ok (callN T (n + 1) f ds S) fun r => P r.1 r.2 := by
  refine ok_fn hT hl (Ok.mono (h _ _ _ (Nat.le_refl _) (rel0 d.nv ds g)) fun r hr => ?_)
  obtain ⟨fl, e, S'⟩ := r
  cases fl with
  | rt v =>
    obtain ⟨g', v', h1, w, h2, h3⟩ := hr
    cases h2
    exact ⟨v, rfl, by rw [h1]; exact h3 S' g'⟩
  | nx =>
    obtain ⟨ve, R, w, h2, h3⟩ := hr
    cases h2
    exact ⟨.d .non, rfl, by rw [leave_non]; exact h3 S' R.g⟩
  | br => obtain ⟨ve, R, w, h2, h3⟩ := hr; cases h2
  | ct => obtain ⟨ve, R, w, h2, h3⟩ := hr; cases h2
/-- the store is left as it was -/
def Same (S0 : Sto) (S : Sto) : Prop := S.take S0.length = S0
theorem same_fm (S0 : Sto) : Fm S0.length (Same S0) := ⟨fun S h => take_len h, fun S T h => take_push h, fun S p o h hp => take_setG h hp, fun S n h hn => by
  show (S.take n).take S0.length = S0
  rw [List.take_take, Nat.min_eq_left hn]
  exact h⟩
theorem Same.refl (S0 : Sto) : Same S0 S0 := take_self S0
theorem Same.at {S0 S : Sto} (h : Same S0 S) {q : Nat} {o : O} (hq : S0[q]? = some o) : S[q]? = some o := by
  have hl := at_lt hq
  have h2 : (S.take S0.length)[q]? = some o := by rw [show S.take S0.length = S0 from h]; exact hq
  rwa [List.getElem?_take, if_pos hl] at h2
theorem gr_fm {l : Nat} {S0 : Sto} (hl : l < S0.length) : Fm S0.length (Gr l S0) := ⟨fun S h => h.len, fun S T h => h.push T, fun S p o h hp => h.set o hp (by omega), fun S n h hn => ⟨by rw [List.length_take]; have := h.len; omega, fun j h1 h2 => by rw [List.getElem?_take, if_pos (by omega)]; exact h.rest j h1 h2, by
  obtain ⟨a, b, e⟩ := h.bx
  exact ⟨a, b, by rw [List.getElem?_take, if_pos (by omega)]; exact e⟩⟩⟩
/-- a def that leaves the store and tells plain data -/
theorem fn_p {T : Nat → Option Df} {n f : Nat} {d : Df} {ds : List D} {S : Sto} {v : Vl} (hT : T f = some d) (hl : ds.length = d.np) (h : VS (callN T n) (Same S) S.length d.body (ve0 d.nv ds) fun fl _ => flV fl = some v) : Ok (callN T (n + 1) f ds S) fun r => r = (v, S) :=
  Ok.mono (fn_vs (P := fun w S' => w = v ∧ S' = S) hT hl (Same.refl S) (h.mono fun fl _ e => ⟨v, e, fun S' g => ⟨rfl, g⟩⟩)) fun r ⟨h1, h2⟩ => by
    obtain ⟨a, c⟩ := r
    dsimp only at h1 h2
    rw [h1, h2]
/-- .. and tells what is so -/
theorem fn_q {T : Nat → Option Df} {n f : Nat} {d : Df} {ds : List D} {S : Sto} {P : Vl → Prop} (hT : T f = some d) (hl : ds.length = d.np) (h : VS (callN T n) (Same S) S.length d.body (ve0 d.nv ds) fun fl _ => ∃ v, flV fl = some v ∧ P v) : Ok (callN T (n + 1) f ds S) fun r => P r.1 ∧ r.2 = S :=
  fn_vs (P := fun w S' => P w ∧ S' = S) hT hl (Same.refl S) (h.mono fun fl _ ⟨v, e, h⟩ => ⟨v, e, fun S' g => ⟨h, g⟩⟩)
/-- .. a call of such -/
theorem vx_callQ {rc : Rc} {G : Sto → Prop} {b : Nat} {ve : List Sl} {Q : Vl → Prop} {es ks : Es} (F : Fm b G) {f : Nat} {perm : List Nat} (h : VL rc G b ve es fun as => VL rc G b ve ks fun cs => ∃ P : Vl → Prop, (∀ e S, Rel G b ve e S → Ok (rc f (arr perm (as ++ cs)) S) fun r => P r.1 ∧ r.2 = S) ∧ ∀ w, P w → ∃ v, w = .d v ∧ v.pure = true ∧ Q (.d v)) : VX rc G b ve (.call f es ks perm) Q := vx_call fun c e S R =>
  Ok.mono (h c e S R) fun r ⟨k1, h1⟩ => ⟨k1, fun c' e' S' R' => Ok.mono (h1 c' e' S' R') fun q ⟨k2, P, h2, h3⟩ => ⟨k2, fun e2 S2 S3 R2 R3 k => Ok.mono (h2 e2 S3 R3) fun w ⟨hw, e3⟩ => by
    obtain ⟨v, e1, hp, hq⟩ := h3 w.1 hw
    rw [e1, leave_pure hp, e3]
    exact ⟨k.take F (F.len _ R2.g), hq⟩⟩⟩
/-- a def that draws -/
theorem fn_b {T : Nat → Option Df} {n f l : Nat} {d : Df} {ds : List D} {S : Sto} {P : Vl → Prop} (hb : Bx S l) (hT : T f = some d) (hl : ds.length = d.np) (h : VS (callN T n) (Gr l S) S.length d.body (ve0 d.nv ds) fun fl _ => ∃ v, flV fl = some v ∧ P v) : Ok (callN T (n + 1) f ds S) fun r => P r.1 ∧ Fr l S r.2 :=
  fn_vs (P := fun w S' => P w ∧ Fr l S S') hT hl (Gr.refl hb) (h.mono fun fl _ ⟨v, e, h⟩ => ⟨v, e, fun S' g => ⟨h, g.leave hb.lt⟩⟩)
theorem same_push {S0 S : Sto} (h : Same S0 S) : S = S0 ++ S.drop S0.length := by
  conv => lhs; rw [← List.take_append_drop S0.length S, show S.take S0.length = S0 from h]
def frz : Sl → Sl
  | .o p _ => .d (.loc p)
  | s => s
theorem Rel.frz {G : Sto → Prop} {b : Nat} {ve : List Sl} {e : Env} {S : Sto} (R : Rel G b ve e S) : Rel (Same S) S.length (ve.map frz) e S := by
  have no : ∀ (i p : Nat) (ob : O), (ve.map Pv.frz)[i]? ≠ some (.o p ob) := fun i p ob h => by
    rw [List.getElem?_map] at h
    obtain ⟨s, _, e⟩ := Option.map_eq_some_iff.mp h
    cases s <;> cases e
  refine ⟨by rw [List.length_map]; exact R.len, Same.refl S, fun i x h => ?_, fun i p ob h => absurd h (no i p ob), fun i j p q a c _ h => absurd h (no i p a)⟩
  rw [List.getElem?_map] at h
  obtain ⟨s, hs, e⟩ := Option.map_eq_some_iff.mp h
  cases s with
  | no => cases e
  | d y => cases e; exact R.val i _ hs
  | o p ob => cases e; exact (R.own i p ob hs).1
theorem Rel.any {G G' : Sto → Prop} {b b' : Nat} {ve : List Sl} {e : Env} {S : Sto} (R : Rel G' b' ve e S) (g : G S) : Rel G b (List.replicate e.length .no) e S := by
  have no : ∀ (i : Nat) (s : Sl), (List.replicate e.length Sl.no)[i]? = some s → s = .no := fun i s h => by
    rw [List.getElem?_replicate] at h
    split at h
    · exact (Option.some.inj h).symm
    · cases h
  exact ⟨by simp, g, fun i x h => absurd (no i _ h) (by simp), fun i p ob h => absurd (no i _ h) (by simp), fun i j p q a c _ h => absurd (no i _ h) (by simp)⟩
theorem Rel.out {G G' : Sto → Prop} {b b' : Nat} {ve : List Sl} {e : Env} {S : Sto} (R : Rel G' b' ve e S) (g : G S) (hb : b ≤ b') : Rel G b ve e S := ⟨R.len, g, R.val, fun i p ob h => by
  obtain ⟨h1, h2, h3⟩ := R.own i p ob h
  exact ⟨h1, h2, Nat.le_trans hb h3⟩, R.sep⟩
theorem Post.out {G G' : Sto → Prop} {b b' c : Nat} {Q : Fl → List Sl → Prop} (k : ∀ S, G' S → G S) (hb : b ≤ b') {w : Fl × Env × Sto} (h : Post G' b' c Q w) : Post G b c Q w := by
  obtain ⟨fl, e, S⟩ := w
  cases fl with
  | rt v => exact ⟨k _ h.1, h.2⟩
  | nx => obtain ⟨ve', R2, h2⟩ := h; exact ⟨ve', R2.out (k _ R2.g) hb, h2⟩
  | br => obtain ⟨ve', R2, h2⟩ := h; exact ⟨ve', R2.out (k _ R2.g) hb, h2⟩
  | ct => obtain ⟨ve', R2, h2⟩ := h; exact ⟨ve', R2.out (k _ R2.g) hb, h2⟩
theorem Rel.frzG {G : Sto → Prop} {b : Nat} {ve : List Sl} {e : Env} {S : Sto} (R : Rel G b ve e S) {G' : Sto → Prop} (b' : Nat) (g : G' S) : Rel G' b' (ve.map Pv.frz) e S := by
  have R2 := R.frz
  have no : ∀ (i p : Nat) (ob : O), (ve.map Pv.frz)[i]? ≠ some (.o p ob) := fun i p ob h => by
    rw [List.getElem?_map] at h
    obtain ⟨s, _, e⟩ := Option.map_eq_some_iff.mp h
    cases s <;> cases e
  exact ⟨R2.len, g, R2.val, fun i p ob h => absurd h (no i p ob), fun i j p q a c _ h => absurd h (no i p a)⟩
/-- from here on all that stands is kept as it is -/
theorem vs_freeze {rc : Rc} {G : Sto → Prop} {b : Nat} {ve : List Sl} {r : Ss} {Q : Fl → List Sl → Prop} (F : Fm b G) (h : ∀ e S1, Rel G b ve e S1 → VS rc (Same S1) S1.length r (ve.map frz) Q) : VS rc G b r ve Q := fun c e S hc R => Ok.mono (h e S R c e S (Nat.le_trans hc (F.len _ R.g)) R.frz) fun w hw => Post.out (fun S2 h => by rw [same_push h]; exact F.push _ _ R.g) (F.len _ R.g) hw
theorem same_trans {S0 S1 S2 : Sto} (a : Same S0 S1) (b : Same S1 S2) : Same S0 S2 := by
  rw [same_push b]
  exact take_push a
/-! calls that draw -/
section
variable {rc : Rc} {b l : Nat} {S0 : Sto} {ve : List Sl} {Q : Vl → Prop} {es ks : Es}
theorem fr_kx {S S1 S2 : Sto} (hl : l < S0.length) (R : Gr l S0 S) (k : Kx (Gr l S0) S0.length S S1) (fr : Fr l S1 S2) (hb : S0.length ≤ S.length) : Kx (Gr l S0) S0.length S (S2.take S.length) := Kx.take (gr_fm hl) ⟨k.g.fr fr, fun p hp hlt => (fr.rest p (by omega)).trans (k.at_ p hp hlt)⟩ hb
/-- a call that draws and tells plain data -/
theorem vx_callB (hl : l < S0.length) {f : Nat} {perm : List Nat} (h : VL rc (Gr l S0) S0.length ve es fun as => VL rc (Gr l S0) S0.length ve ks fun cs => ∃ P : Vl → Prop, (∀ e S, Rel (Gr l S0) S0.length ve e S → Ok (rc f (arr perm (as ++ cs)) S) fun r => P r.1 ∧ Fr l S r.2) ∧ ∀ w, P w → ∃ v, w = .d v ∧ v.pure = true ∧ Q (.d v)) : VX rc (Gr l S0) S0.length ve (.call f es ks perm) Q := vx_call fun c e S R =>
  Ok.mono (h c e S R) fun r ⟨k1, h1⟩ => ⟨k1, fun c' e' S' R' => Ok.mono (h1 c' e' S' R') fun q ⟨k2, P, h2, h3⟩ => ⟨k2, fun e2 S2 S3 R2 R3 k => Ok.mono (h2 e2 S3 R3) fun w ⟨hw, fr⟩ => by
    obtain ⟨v, e1, hp, hq⟩ := h3 w.1 hw
    rw [e1, leave_pure hp]
    exact ⟨fr_kx hl R2.g k fr R2.g.len, hq⟩⟩⟩
/-- .. and tells a fresh list of plain data -/
theorem vx_callBF (hl : l < S0.length) {f : Nat} {perm : List Nat} (h : VL rc (Gr l S0) S0.length ve es fun as => VL rc (Gr l S0) S0.length ve ks fun cs => ∃ P : Vl → Prop, (∀ e S, Rel (Gr l S0) S0.length ve e S → Ok (rc f (arr perm (as ++ cs)) S) fun r => P r.1 ∧ Fr l S r.2) ∧ ∀ w, P w → ∃ xs, w = .fr xs ∧ (∀ x ∈ xs, x.pure = true) ∧ Q (.fr xs)) : VX rc (Gr l S0) S0.length ve (.call f es ks perm) Q := vx_call fun c e S R =>
  Ok.mono (h c e S R) fun r ⟨k1, h1⟩ => ⟨k1, fun c' e' S' R' => Ok.mono (h1 c' e' S' R') fun q ⟨k2, P, h2, h3⟩ => ⟨k2, fun e2 S2 S3 R2 R3 k => Ok.mono (h2 e2 S3 R3) fun w ⟨hw, fr⟩ => by
    obtain ⟨v, e1, hp, hq⟩ := h3 w.1 hw
    rw [e1, leave_frP hp]
    exact ⟨fr_kx hl R2.g k fr R2.g.len, hq⟩⟩⟩
/-- f(box, [..]): a fresh list for the last argument -/
theorem vx_callBL (hl : l < S0.length) {f i : Nat} {ye : E} (hi : ve[i]? = some (.d (.loc l))) (h : VX rc (Gr l S0) S0.length ve ye fun v => ∃ xs, v = .fr xs ∧ ∃ P : Vl → Prop, (∀ S, Gr l S0 S → Ok (rc f [.loc l, .loc S.length] (S ++ [.lst xs])) fun r => P r.1 ∧ Fr l (S ++ [.lst xs]) r.2) ∧ ∀ w, P w → ∃ v, w = .d v ∧ v.pure = true ∧ Q (.d v)) : VX rc (Gr l S0) S0.length ve (.call f (.cons (.var i) (.cons ye .nil)) .nil [0, 1]) Q := fun c e S R => by
  refine ok_call (es_pv (pv_var (R.val i _ hi)) (es_cons (Ok.mono (h S.length e S R) fun r ⟨k1, xs, e1, P, h2, h3⟩ => ?_)))
  obtain ⟨v, S1⟩ := r
  cases e1
  refine es_nil (Ok.ok ?_)
  dsimp only [settle]
  refine Ok.mono (h2 S1 k1.g) fun w ⟨hw, fr⟩ => ?_
  obtain ⟨v, e1, hp, hq⟩ := h3 w.1 hw
  rw [e1, leave_pure hp]
  exact ⟨fr_kx hl R.g (k1.trans (Kx.push (gr_fm hl) k1.g [.lst xs])) fr R.g.len, hq⟩
end
end Pv
set_option linter.all false
set_option autoImplicit false
/-! Walks told by slots: the ends of expressions, and the tactics. -/
namespace Pv
section
variable {rc : Rc} {G : Sto → Prop} {b : Nat} {ve : List Sl} {Q : Vl → Prop} {K : Bool → Prop} {i j : Int}
theorem put_d {i : Nat} {r : Ss} {x : D} {Q : Fl → List Sl → Prop} (h : VS rc G b r (ve.set i (.d x)) Q) : PutV rc G b i r ve Q (.d x) := h
theorem put_fr {i : Nat} {r : Ss} {xs : List D} {Q : Fl → List Sl → Prop} (h : ∀ p, VS rc G b r (ve.set i (.o p (.lst xs))) Q) : PutV rc G b i r ve Q (.fr xs) := h
theorem vx_rev {x : E} (h : VX rc G b ve x fun v => ∃ u, (At G b ve fun S => revV v S = some u) ∧ Q u) : VX rc G b ve (.rev x) Q := fun c e S R => by
  rw [v_rev]
  refine Ok.bind (Ok.mono (h c e S R) fun r ⟨k1, u, h2, h3⟩ => ?_)
  rw [show revV r.1 r.2 = some u from h2 e r.2 (R.kx k1)]
  exact Ok.ok ⟨k1, h3⟩
theorem rv_tup {xs : List D} (h : Q (.d (.tup xs.reverse))) : ∃ u, (At G b ve fun S => revV (.d (.tup xs)) S = some u) ∧ Q u := ⟨_, fun _ _ _ => rfl, h⟩
theorem le_ok {n : Nat} (h : n ≤ 16777216) : n ≤ 16777216 := h
theorem ex_d {d : D} {P : D → Prop} (h : P d) : ∃ d', Vl.d d = .d d' ∧ P d' := ⟨d, rfl, h⟩
theorem ex_int {P : Int → Prop} (h : P i) : ∃ j, Vl.d (.int i) = .d (.int j) ∧ P j := ⟨i, rfl, h⟩
theorem ex_bl {k : Bool} {P : Bool → Prop} (h : P k) : ∃ j, Vl.d (.bl k) = .d (.bl j) ∧ P j := ⟨k, rfl, h⟩
theorem bin_add (h : Q (.d (.int (i + j)))) : ∃ u, (At G b ve fun S => binV .add (.d (.int i)) (.d (.int j)) S = some u) ∧ Q u := ⟨_, fun _ _ _ => rfl, h⟩
theorem bin_sub (h : Q (.d (.int (i - j)))) : ∃ u, (At G b ve fun S => binV .sub (.d (.int i)) (.d (.int j)) S = some u) ∧ Q u := ⟨_, fun _ _ _ => rfl, h⟩
theorem bin_o {o : Bo} {k : Int} (e : binI o i j = some k) (h : Q (.d (.int k))) : ∃ u, (At G b ve fun S => binV o (.d (.int i)) (.d (.int j)) S = some u) ∧ Q u := ⟨.d (.int k), fun _ S _ => by show binV o (.d (.int i)) (.d (.int j)) S = _; rw [binV_int, e]; rfl, h⟩
theorem bin_mod (hj : 0 < j) (h : Q (.d (.int (i % j)))) : ∃ u, (At G b ve fun S => binV .mod (.d (.int i)) (.d (.int j)) S = some u) ∧ Q u := bin_o (binI_mod hj) h
theorem bin_fdiv (hj : 0 < j) (h2 : j < 1073741824) (h : Q (.d (.int (i / j)))) : ∃ u, (At G b ve fun S => binV .fdiv (.d (.int i)) (.d (.int j)) S = some u) ∧ Q u := bin_o (binI_fdiv ⟨hj, h2⟩) h
theorem bin_mul (hj : i.natAbs < 18446744073709551616 ∨ j.natAbs < 18446744073709551616) (h : Q (.d (.int (i * j)))) : ∃ u, (At G b ve fun S => binV .mul (.d (.int i)) (.d (.int j)) S = some u) ∧ Q u := bin_o (binI_mul hj) h
theorem bin_tup {xs ys : List D} (hl : xs.length + ys.length ≤ 16777216) (h : Q (.d (.tup (xs ++ ys)))) : ∃ u, (At G b ve fun S => binV .add (.d (.tup xs)) (.d (.tup ys)) S = some u) ∧ Q u := ⟨_, fun _ _ _ => if_pos hl, h⟩
theorem bin_row {xs ys : List Int} (hl : xs.length + ys.length ≤ 16777216) (h : Q (.d (.tup ((xs ++ ys).map .int)))) : ∃ u, (At G b ve fun S => binV .add (.d (.tup (xs.map .int))) (.d (.tup (ys.map .int))) S = some u) ∧ Q u := bin_tup (by simpa using hl) (by rw [← List.map_append]; exact h)
/-- what stands in a list -/
abbrev Lst (G : Sto → Prop) (b : Nat) (ve : List Sl) (v : Vl) (xs : List D) : Prop := At G b ve fun S => lstV v S = some xs
theorem lst_fr {xs : List D} : Lst G b ve (.fr xs) xs := fun _ _ _ => rfl
theorem lst_loc {p : Nat} {xs : List D} (h : At G b ve fun S => S[p]? = some (.lst xs)) : Lst G b ve (.d (.loc p)) xs := fun e S R => by
  show (match S[p]? with
    | some (.lst xs) => some xs
    | _ => none) = _
  rw [h e S R]
theorem bin_cat {v w : Vl} {xs ys : List D} (h1 : Lst G b ve v xs) (h2 : Lst G b ve w ys) (hl : xs.length + ys.length ≤ 16777216) (h : Q (.fr (xs ++ ys))) : ∃ u, (At G b ve fun S => binV .add v w S = some u) ∧ Q u := ⟨_, fun e S R => by
  show binV .add v w S = some (.fr (xs ++ ys))
  have a1 : lstV v S = some xs := h1 e S R
  have a2 : lstV w S = some ys := h2 e S R
  have n1 : numI v = none ∧ tupO v = none := by
    cases v with
    | fr _ => exact ⟨rfl, rfl⟩
    | d x => cases x <;> first | exact ⟨rfl, rfl⟩ | cases a1
  have n2 : numI w = none ∧ tupO w = none := by
    cases w with
    | fr _ => exact ⟨rfl, rfl⟩
    | d x => cases x <;> first | exact ⟨rfl, rfl⟩ | cases a2
  unfold binV
  rw [n1.1, n1.2, n2.1, n2.2, a1, a2]
  exact if_pos hl, h⟩
theorem bin_rep {xs : List D} (hl : xs.length ≤ 1000 ∧ (-1 ≤ j ∧ j ≤ 1000)) (h : Q (.fr (repl j xs))) : ∃ u, (At G b ve fun S => binV .mul (.fr xs) (.d (.int j)) S = some u) ∧ Q u := ⟨_, fun e S R => by show binV .mul (.fr xs) (.d (.int j)) S = _; rw [binV_repf]; exact if_pos hl, h⟩
theorem bin_rept {xs : List D} (hl : xs.length ≤ 1000 ∧ (1 ≤ j ∧ j ≤ 1000) ∧ xs.isEmpty = false) (h : Q (.d (.tup (repl j xs)))) : ∃ u, (At G b ve fun S => binV .mul (.d (.tup xs)) (.d (.int j)) S = some u) ∧ Q u := ⟨_, fun e S R => by show binV .mul (.d (.tup xs)) (.d (.int j)) S = _; rw [binV_rep]; exact if_pos hl, h⟩
theorem c_lt (h : K (decide (i < j))) : ∃ k, (At G b ve fun S => cmpV .lt (.d (.int i)) (.d (.int j)) S = some k) ∧ K k := ⟨_, fun _ _ _ => rfl, h⟩
theorem c_le (h : K (decide (i ≤ j))) : ∃ k, (At G b ve fun S => cmpV .le (.d (.int i)) (.d (.int j)) S = some k) ∧ K k := ⟨_, fun _ _ _ => rfl, h⟩
theorem c_gt (h : K (decide (j < i))) : ∃ k, (At G b ve fun S => cmpV .gt (.d (.int i)) (.d (.int j)) S = some k) ∧ K k := ⟨_, fun _ _ _ => rfl, h⟩
theorem c_ge (h : K (decide (j ≤ i))) : ∃ k, (At G b ve fun S => cmpV .ge (.d (.int i)) (.d (.int j)) S = some k) ∧ K k := ⟨_, fun _ _ _ => rfl, h⟩
theorem c_eq (h : K (i == j)) : ∃ k, (At G b ve fun S => cmpV .eq (.d (.int i)) (.d (.int j)) S = some k) ∧ K k := ⟨_, fun _ _ _ => rfl, h⟩
theorem c_ne (h : K (!(i == j))) : ∃ k, (At G b ve fun S => cmpV .ne (.d (.int i)) (.d (.int j)) S = some k) ∧ K k := ⟨_, fun _ _ _ => rfl, h⟩
def isNon : D → Bool
  | .non => true
  | _ => false
theorem c_is {x : D} (h : K (isNon x)) : ∃ k, (At G b ve fun S => cmpV .is (.d x) (.d .non) S = some k) ∧ K k := ⟨_, fun _ _ _ => by cases x <;> rfl, h⟩
theorem c_isn {x : D} (h : K (!(isNon x))) : ∃ k, (At G b ve fun S => cmpV .isn (.d x) (.d .non) S = some k) ∧ K k := ⟨_, fun _ _ _ => by cases x <;> rfl, h⟩
theorem inG_its {x : Int} {v : Vl} {ns : List Int} {S : Sto} (h : items v S = some (ns.map .int)) : inG (.int x) v S = some (ns.any fun y => y == x) := by
  show orE ((items v S).bind fun xs => if flat (.int x) && xs.all flat then some (inF (.int x) xs) else none) _ = _
  rw [h]
  show orE (if (ns.map D.int).all flat = true then some (inF (.int x) (ns.map .int)) else none) _ = _
  rw [if_pos (flat_ints ns), inF_int]
  rfl
theorem c_in {v : Vl} {ns : List Int} (hv : Its G b ve v (ns.map .int)) (h : K (ns.any fun y => y == i)) : ∃ k, (At G b ve fun S => cmpV .inn (.d (.int i)) v S = some k) ∧ K k := ⟨_, fun e S R => inG_its (hv e S R), h⟩
theorem c_nin {v : Vl} {ns : List Int} (hv : Its G b ve v (ns.map .int)) (h : K (!(ns.any fun y => y == i))) : ∃ k, (At G b ve fun S => cmpV .nin (.d (.int i)) v S = some k) ∧ K k := ⟨_, fun e S R => by
  show (inG (.int i) v S).map not = _
  rw [inG_its (hv e S R)]
  rfl, h⟩
theorem c_rows {a c : List Int} (h : K (decide (a = c))) : ∃ k, (At G b ve fun S => cmpV .eq (.d (.tup (a.map .int))) (.d (.tup (c.map .int))) S = some k) ∧ K k := ⟨_, fun _ S _ => eq_tups a c S, h⟩
/-- == of two lists of whole numbers -/
theorem eq_flat {v w : Vl} {a c : List Int} {S : Sto} (h1 : lstV v S = some (a.map .int)) (h2 : lstV w S = some (c.map .int)) : deepEq v w S = some (decide (a = c)) := by
  have t : ∀ {v : Vl} {a : List Int}, lstV v S = some (a.map .int) → pyV v S = some (.list (a.map .int)) := by
    intro v a h
    cases v with
    | fr xs =>
      have h : some xs = some (a.map D.int) := h
      cases h
      show (mapO (pyD 12 S) (a.map .int)).map PySem.PyData.list = _
      rw [mapO_ints]
      rfl
    | d x =>
      cases x with
      | loc l =>
        have h : (match S[l]? with
          | some (.lst xs) => some xs
          | _ => none) = some (a.map D.int) := h
        show (match S[l]? with
          | some (.lst xs) => (mapO (pyD 11 S) xs).map PySem.PyData.list
          | _ => none) = _
        split at h
        · rename_i xs hx
          cases h
          show (mapO (pyD 11 S) (a.map .int)).map PySem.PyData.list = _
          rw [mapO_ints]
          rfl
        · cases h
      | _ => cases h
  show ((pyV v S).bind fun p => (pyV w S).bind fun q => if PySem.SeqAt.shaped p = true ∧ PySem.SeqAt.shaped q = true then some (PySem.PyData.eqv p q) else none) = _
  rw [t h1, t h2]
  show (if PySem.SeqAt.shaped (.list (a.map .int)) = true ∧ PySem.SeqAt.shaped (.list (c.map .int)) = true then some (PySem.PyData.eqvAll (a.map .int) (c.map .int)) else none) = _
  rw [if_pos ⟨shaped_ints a, shaped_ints c⟩, eqv_ints]
theorem eqV_flat {v w : Vl} {a c : List Int} {S : Sto} (h1 : lstV v S = some (a.map .int)) (h2 : lstV w S = some (c.map .int)) : eqV v w S = some (decide (a = c)) := by
  have e := eq_flat h1 h2
  unfold eqV
  cases v with
  | fr xs => exact e
  | d x =>
    cases w with
    | fr ys => exact e
    | d y =>
      cases x with
      | loc l =>
        cases y with
        | loc k => exact e
        | _ => cases h2
      | _ => cases h1
theorem c_lists {v w : Vl} {a c : List Int} (h1 : Lst G b ve v (a.map .int)) (h2 : Lst G b ve w (c.map .int)) (h : K (decide (a = c))) : ∃ k, (At G b ve fun S => cmpV .eq v w S = some k) ∧ K k := ⟨_, fun e S R => eqV_flat (h1 e S R) (h2 e S R), h⟩
theorem c_nlists {v w : Vl} {a c : List Int} (h1 : Lst G b ve v (a.map .int)) (h2 : Lst G b ve w (c.map .int)) (h : K (!decide (a = c))) : ∃ k, (At G b ve fun S => cmpV .ne v w S = some k) ∧ K k := ⟨_, fun e S R => by
  show (eqV v w S).map not = _
  rw [eqV_flat (h1 e S R) (h2 e S R)]
  rfl, h⟩
theorem rv_lst {v : Vl} {xs : List D} (hv : Lst G b ve v xs) (h : Q (.fr xs.reverse)) : ∃ u, (At G b ve fun S => revV v S = some u) ∧ Q u := by
  refine ⟨.fr xs.reverse, fun e S R => ?_, h⟩
  have a : lstV v S = some xs := hv e S R
  show revV v S = some (.fr xs.reverse)
  cases v with
  | fr ys => cases a; rfl
  | d x =>
    cases x with
    | loc l =>
      have a : (match S[l]? with
        | some (.lst xs) => some xs
        | _ => none) = some xs := a
      show (match S[l]? with
        | some (.lst xs) => some xs
        | _ => none).map (fun xs : List D => Vl.fr xs.reverse) = _
      rw [a]
      rfl
    | _ => cases a
/-! items -/
theorem ix_of {P : D → Prop} {v : Vl} {xs : List D} {u : D} (hv : Its G b ve v xs) (hu : atI xs i = some u) (h : P u) : ∃ k xs u, Vl.d (.int i) = .d (.int k) ∧ Its G b ve v xs ∧ atI xs k = some u ∧ P u := ⟨i, xs, u, rfl, hv, hu, h⟩
theorem ix_map {P : D → Prop} {α : Type} {f : α → D} {v : Vl} {ns : List α} (d : α) (hv : Its G b ve v (ns.map f)) (h0 : 0 ≤ i) (h1 : i < ns.length) (h : P (f (ns.getD i.toNat d))) : ∃ k xs u, Vl.d (.int i) = .d (.int k) ∧ Its G b ve v xs ∧ atI xs k = some u ∧ P u := ix_of hv (atI_map d h0 h1) h
theorem ln_of {v : Vl} {xs : List D} (hv : Its G b ve v xs) (h : Q (.d (.int xs.length))) : ∃ u, (At G b ve fun S => app1 .len v S = some u) ∧ Q u := ⟨.d (.int xs.length), fun e S R => by show app1 .len v S = _; rw [app_len, show items v S = some xs from hv e S R]; rfl, h⟩
theorem ln_map {α : Type} {f : α → D} {ns : List α} {v : Vl} (hv : Its G b ve v (ns.map f)) (h : Q (.d (.int ns.length))) : ∃ u, (At G b ve fun S => app1 .len v S = some u) ∧ Q u := ln_of hv (by rw [List.length_map]; exact h)
theorem tp_of {v : Vl} {xs : List D} (hv : Its G b ve v xs) (h : Q (.d (.tup xs))) : ∃ u, (At G b ve fun S => app1 .tuple v S = some u) ∧ Q u := ⟨.d (.tup xs), fun e S R => by show app1 .tuple v S = _; rw [app_tuple, show items v S = some xs from hv e S R]; rfl, h⟩
theorem ls_of {v : Vl} {xs : List D} (hv : Its G b ve v xs) (h : Q (.fr xs)) : ∃ u, (At G b ve fun S => app1 .list v S = some u) ∧ Q u := ⟨.fr xs, fun e S R => by show app1 .list v S = _; rw [app_list, show items v S = some xs from hv e S R]; rfl, h⟩
theorem in_of (h : Q (.d (.int i))) : ∃ u, (At G b ve fun S => app1 .int (.d (.int i)) S = some u) ∧ Q u := ⟨_, fun _ _ _ => rfl, h⟩
theorem sl_tup {xs : List D} {i j : Option Int} (h : Q (.d (.tup (cut xs i j)))) : ∃ u, (At G b ve fun S => sliceV (.d (.tup xs)) i j S = some u) ∧ Q u := ⟨_, fun _ _ _ => rfl, h⟩
theorem sl_lst {v : Vl} {xs : List D} {i j : Option Int} (hv : Lst G b ve v xs) (h : Q (.fr (cut xs i j))) : ∃ u, (At G b ve fun S => sliceV v i j S = some u) ∧ Q u := by
  refine ⟨_, fun e S R => ?_, h⟩
  have a : lstV v S = some xs := hv e S R
  show sliceV v i j S = some (.fr (cut xs i j))
  cases v with
  | fr ys => cases a; rfl
  | d x =>
    cases x with
    | loc l =>
      have a : (match S[l]? with
        | some (.lst xs) => some xs
        | _ => none) = some xs := a
      show (match S[l]? with
        | some (.lst xs) => some xs
        | _ => none).map (fun xs => Vl.fr (cut xs i j)) = _
      rw [a]
      rfl
    | _ => cases a
theorem tr_its {v : Vl} {xs : List D} (hv : Lst G b ve v xs) (h : K (!xs.isEmpty)) : ∃ k, (At G b ve fun S => truth v S = some k) ∧ K k := by
  refine ⟨!xs.isEmpty, fun e S R => ?_, h⟩
  have a : lstV v S = some xs := hv e S R
  show truth v S = some (!xs.isEmpty)
  cases v with
  | fr ys => cases a; rfl
  | d x =>
    cases x with
    | loc l =>
      have a : (match S[l]? with
        | some (.lst xs) => some xs
        | _ => none) = some xs := a
      show (match S[l]? with
        | some (.lst xs) => some (!xs.isEmpty)
        | _ => none) = _
      split at a
      · cases a
        rfl
      · cases a
    | _ => cases a
theorem is_ty {d : D} {t : Ty} {k : Bool} (e : ∀ S, isTy d t S = some k) (h : K k) : ∃ d' k, Vl.d d = .d d' ∧ (At G b ve fun S => isTy d' t S = some k) ∧ K k := ⟨d, k, rfl, fun _ S _ => e S, h⟩
theorem rg_0 {Q : Chk → List D → Prop} (h1 : -1000000 ≤ j) (h2 : j ≤ 1000000) (h : Q [] (rngD 0 j)) : ∃ j', Vl.d (.int j) = .d (.int j') ∧ (-1000000 ≤ j' ∧ j' ≤ 1000000) ∧ Q [] (rngD 0 j') := ⟨j, rfl, ⟨h1, h2⟩, h⟩
theorem rng_nat (h : 0 ≤ j) : rngD 0 j = (rngI j.toNat).map .int := by rw [← rngD_int, show ((j.toNat : Nat) : Int) = j by omega]
/-! comprehensions -/
variable {x : E} {t : Tg} {it : It} {ifs : Es} {vs : List Nat} {c : Chk}
def VGk (rc : Rc) (G : Sto → Prop) (b : Nat) (t : Tg) (d : D) (ve : List Sl) (Q : List Sl → Prop) : Prop := ∀ c e S, Rel G b ve e S → Ok (evTg rc t c d e S) fun q => ∃ ve', (Rel G b ve' q.1 q.2 ∧ Kx G b S q.2) ∧ Q ve'
theorem vgk_var {i : Nat} {d : D} {Q : List Sl → Prop} (h : Q (ve.set i (.d d))) : VGk rc G b (.var i) d ve Q := fun c e S R => Ok.ok ⟨_, ⟨R.setd i d, R.kr⟩, h⟩
theorem vgk_two {i j : Nat} {d d2 : D} {Q : List Sl → Prop} (h : Q ((ve.set i (.d d)).set j (.d d2))) : VGk rc G b (.tup (.cons (.var i) (.cons (.var j) .nil))) (.tup [d, d2]) ve Q := fun c e S R => Ok.eq rfl ⟨_, ⟨(R.setd i d).setd j d2, R.kr⟩, h⟩
/-- [x for t in it if ifs], each told as a function of what it comes of -/
theorem vx_compM {α : Type} {f : α → D} {ns : List α} (p : α → Bool) (g : α → D) (hi : VI rc G b ve it fun c' xs' => c' = c ∧ xs' = ns.map f) (hc : At G b ve c.ok)
    (h : ∀ a ∈ ns, VGk rc G b t (f a) (wipeV ve vs) fun ve' => VF rc G b ve' ifs fun k => k = p a ∧ (k = true → VX rc G b ve' x fun v => v = .d (g a))) (hq : Q (.fr ((ns.filter p).map g))) : VX rc G b ve (.comp x t it ifs vs) Q := by
  refine vx_comp (fun k ys => ys = ((ns.take k).filter p).map g) hi hc ?_ rfl ?_
  · rintro k d ys hd rfl cc e S R
    rw [List.getElem?_map] at hd
    obtain ⟨a, ha, rfl⟩ := Option.map_eq_some_iff.mp hd
    have ht : ns.take (k + 1) = ns.take k ++ [a] := by rw [List.take_add_one, ha]; rfl
    refine Ok.mono (h a (List.mem_of_getElem? ha) cc e S R) fun q ⟨ve', hR, hf⟩ => ⟨ve', hR, fun c2 e2 S2 R2 => Ok.mono (hf c2 e2 S2 R2) fun w ⟨k1, hw, hx⟩ => ⟨k1, fun hk => ?_, fun hk => ?_⟩⟩
    · refine (hx hk).mono fun v hv => ⟨g a, hv, ?_⟩
      rw [ht, List.filter_append, List.map_append]
      rw [hw] at hk
      simp [hk]
    · rw [ht, List.filter_append, List.map_append]
      rw [hw] at hk
      simp [hk]
  · rintro ys rfl
    rw [List.length_map, List.take_length]
    exact hq
/-- .. each told as one of so many -/
theorem vx_compA {α : Type} {f : α → D} {xs : List D} (P : α → Prop) (hi : VI rc G b ve it fun c' xs' => c' = c ∧ xs' = xs) (hc : At G b ve c.ok)
    (h : ∀ d ∈ xs, VGk rc G b t d (wipeV ve vs) fun ve' => VF rc G b ve' ifs fun k => k = true → VX rc G b ve' x fun v => ∃ y, v = .d (f y) ∧ P y) (hq : ∀ ns : List α, ns.length ≤ xs.length → (ifs = .nil → ns.length = xs.length) → (∀ y ∈ ns, P y) → Q (.fr (ns.map f))) : VX rc G b ve (.comp x t it ifs vs) Q := by
  refine vx_comp (fun k ys => ∃ ns : List α, ys = ns.map f ∧ ns.length ≤ k ∧ (ifs = .nil → ns.length = k) ∧ ∀ y ∈ ns, P y) hi hc ?_ ⟨[], rfl, by simp, by simp, by simp⟩ ?_
  · rintro k d ys hd ⟨ns, rfl, hl, hl2, hp⟩ cc e S R
    refine Ok.mono (h d (List.mem_of_getElem? hd) cc e S R) fun q ⟨ve', hR, hf⟩ => ⟨ve', hR, fun c2 e2 S2 R2 => ?_⟩
    by_cases hn : ifs = .nil
    · subst hn
      refine ⟨_, rfl, R2.kr, fun _ => ?_, fun h => by cases h⟩
      obtain ⟨w, ew, _, hx⟩ := hf c2 e2 S2 R2
      cases ew
      refine (hx rfl).mono fun v ⟨y, hv, hy⟩ => ⟨f y, hv, ns ++ [y], by simp, by simpa using hl, fun _ => by simpa using hl2 rfl, ?_⟩
      intro z hz
      rcases List.mem_append.mp hz with hz | hz
      · exact hp z hz
      · rw [List.mem_singleton.mp hz]; exact hy
    · refine Ok.mono (hf c2 e2 S2 R2) fun w ⟨k1, hx⟩ => ⟨k1, fun hk => ?_, fun hk => ⟨ns, rfl, by omega, fun e => absurd e hn, hp⟩⟩
      refine (hx hk).mono fun v ⟨y, hv, hy⟩ => ⟨f y, hv, ns ++ [y], by simp, by simpa using hl, fun e => absurd e hn, ?_⟩
      intro z hz
      rcases List.mem_append.mp hz with hz | hz
      · exact hp z hz
      · rw [List.mem_singleton.mp hz]; exact hy
  · rintro ys ⟨ns, rfl, hl, hl2, hp⟩
    exact hq ns hl hl2 hp
end
/-! dicts by whole numbers -/
theorem eqF_two {p : D} {g x : Int} (h1 : eqF p (.int g) = true) (h2 : eqF p (.int x) = true) : g = x := by
  cases p with
  | int a =>
    have h1 : (a == g) = true := h1
    have h2 : (a == x) = true := h2
    simp at h1 h2
    omega
  | bl a =>
    have h1 : ((if a then (1 : Int) else 0) == g) = true := h1
    have h2 : ((if a then (1 : Int) else 0) == x) = true := h2
    simp at h1 h2
    omega
  | _ => cases h1
theorem eqF_int (g x : Int) : eqF (.int g) (.int x) = (g == x) := rfl
theorem getK_nil (k : D) : getK [] k = none := rfl
theorem getK_cons (p : D × D) (kvs : List (D × D)) (k : D) : getK (p :: kvs) k = if eqF p.1 k = true then some p.2 else getK kvs k := by
  unfold getK
  rw [List.find?_cons]
  cases h : eqF p.1 k <;> simp
theorem getK_map {g : Int} {v : D} (x : Int) : ∀ kvs : List (D × D), getK (kvs.map fun p => if eqF p.1 (.int g) = true then (p.1, v) else p) (.int x) = if x = g then (getK kvs (.int x)).map fun _ => v else getK kvs (.int x)
  | [] => by simp [getK_nil]
  | p :: kvs => by
    rw [List.map_cons, getK_cons, getK_cons, getK_map x kvs]
    by_cases hg : eqF p.1 (.int g) = true
    · rw [if_pos hg]
      by_cases hx : eqF p.1 (.int x) = true
      · have := eqF_two hg hx
        subst this
        rw [if_pos hx, if_pos hx, if_pos rfl]
        rfl
      · rw [if_neg hx, if_neg hx]
    · rw [if_neg hg]
      by_cases hx : eqF p.1 (.int x) = true
      · rw [if_pos hx, if_pos hx]
        have : ¬ x = g := by
          rintro rfl
          exact hg hx
        rw [if_neg this]
      · rw [if_neg hx, if_neg hx]
theorem getK_app (x : D) : ∀ (kvs : List (D × D)) (p : D × D), getK (kvs ++ [p]) x = (getK kvs x).or (if eqF p.1 x = true then some p.2 else none)
  | [], p => by rw [List.nil_append, getK_cons, getK_nil]; rfl
  | q :: kvs, p => by
    rw [List.cons_append, getK_cons, getK_cons, getK_app x kvs p]
    split <;> rfl
theorem getK_any (kvs : List (D × D)) (k : D) : (kvs.any fun p => eqF p.1 k) = (getK kvs k).isSome := by
  unfold getK
  rw [Option.isSome_map, List.isSome_find?]
theorem getK_put (kvs : List (D × D)) (g x : Int) (v : D) : getK (putK kvs (.int g) v) (.int x) = if x = g then some v else getK kvs (.int x) := by
  unfold putK
  rw [getK_any]
  cases h : getK kvs (.int g) with
  | some w =>
    rw [if_pos (show (some w).isSome = true from rfl), getK_map]
    by_cases e : x = g
    · subst e
      rw [if_pos rfl, if_pos rfl, h]
      rfl
    · rw [if_neg e, if_neg e]
  | none =>
    rw [if_neg (by simp), getK_app]
    by_cases e : x = g
    · subst e
      rw [h, if_pos rfl, if_pos (by rw [eqF_int]; simp)]
      rfl
    · rw [if_neg e, if_neg (by rw [eqF_int]; simpa using fun h => e h.symm)]
      cases getK kvs (.int x) <;> rfl
theorem putK_len (kvs : List (D × D)) (k v : D) : (putK kvs k v).length ≤ kvs.length + 1 := by
  unfold putK
  split
  · simp
  · simp
end Pv
set_option linter.all false
set_option autoImplicit false
set_option maxRecDepth 100000
set_option maxHeartbeats 0
/-! The law's defs as terms of the evaluator, the check, the head: printed by gen.py. -/
namespace K06
open PySem PySem.Spec PyProof.Rows Pv

def top (i : Nat) : Stmt := PySem.Challenge.pw_oneactmore_k06_exchanges_between_rows.main.body.getD i (.Pass ⟨0, 0, 0, 0⟩)

/-- are_strangers(web, one, two); slots: 0 web, 1 one, 2 two, 3 hand -/
def b_are_strangers_1 : Ss :=
  (.cons (.ite (.cmp .inn (.var 3) (.idx (.idx (.var 0) (.cn (.int 1))) (.var 2))) (.cons (.ret (.cn (.bl false)))
    .nil) .nil)
  .nil)
def b_are_strangers : Ss :=
  (.cons (.for (.var 3) (.e (.idx (.idx (.var 0) (.cn (.int 1))) (.var 1))) b_are_strangers_1)
  (.cons (.ret (.cn (.bl true)))
  .nil))
def f_are_strangers : Fn := ⟨"are_strangers", top 1, ["web", "one", "two", "hand"], 3, b_are_strangers, [(3, [], [0, 1, 2])]⟩
/-- free_place(web, now, start, letter); slots: 0 web, 1 now, 2 start, 3 letter, 4 place -/
def b_free_place_1 : Ss :=
  (.cons (.ite (.cmp .eq (.idx (.var 1) (.var 4)) (.var 3)) (.cons (.ret (.var 4))
    .nil) .nil)
  (.cons (.ite (.not (.call 0 (.cons (.var 0) (.cons (.idx (.var 1) (.var 4)) (.cons (.var 3) .nil))) .nil [0, 1, 2])) (.cons (.ret (.cn (.non)))
    .nil) .nil)
  .nil))
def b_free_place : Ss :=
  (.cons (.for (.var 4) (.rng (.some (.var 2)) (.f1 .len (.var 1))) b_free_place_1)
  (.cons (.ret (.cn (.non)))
  .nil))
def f_free_place : Fn := ⟨"free_place", top 3, ["web", "now", "start", "letter", "place"], 4, b_free_place, [(4, [], [0, 1, 2, 3])]⟩
/-- exchange_row(web, one, two); slots: 0 web, 1 one, 2 two, 3 now, 4 places, 5 start, 6 letter, 7 place -/
def b_exchange_row_1 : Ss :=
  (.cons (.aug 7 .sub (.cn (.int 1)))
  (.cons (.asg (.tup (.cons (.sub (.var 3) (.var 7)) (.cons (.sub (.var 3) (.bin .add (.var 7) (.cn (.int 1)))) .nil))) (.tup (.cons (.idx (.var 3) (.bin .add (.var 7) (.cn (.int 1)))) (.cons (.idx (.var 3) (.var 7)) .nil))))
  (.cons (.expr (.m1 .append (.var 4) (.var 7)))
  .nil)))
def b_exchange_row_2 : Ss :=
  (.cons (.asg (.var 7) (.call 1 (.cons (.var 0) (.cons (.var 3) (.cons (.var 5) (.cons (.var 6) .nil)))) .nil [0, 1, 2, 3]))
  (.cons (.ite (.cmp .is (.var 7) (.cn (.non))) (.cons (.ret (.cn (.non)))
    .nil) .nil)
  (.cons (.while (.cmp .gt (.var 7) (.var 5)) b_exchange_row_1)
  .nil)))
def b_exchange_row : Ss :=
  (.cons (.ite (.cmp .ne (.f1 .len (.var 1)) (.f1 .len (.var 2))) (.cons (.ret (.cn (.non)))
    .nil) .nil)
  (.cons (.asg (.var 3) (.f1 .list (.var 1)))
  (.cons (.asg (.var 4) (.lst .nil))
  (.cons (.for (.tup (.cons (.var 5) (.cons (.var 6) .nil))) (.enum (.var 2)) b_exchange_row_2)
  (.cons (.ret (.f1 .tuple (.var 4)))
  .nil)))))
def f_exchange_row : Fn := ⟨"exchange_row", top 4, ["web", "one", "two", "now", "places", "start", "letter", "place"], 3, b_exchange_row, [(0, ["one","two","web"], [2, 0, 1]), (0, ["two","one","web"], [2, 1, 0]), (3, [], [0, 1, 2])]⟩
/-- _law_box(script, k); slots: 0 script, 1 k, 2 cell, 3 great -/
def b__law_box : Ss :=
  (.cons (.asg (.var 2) (.bin .add (.bin .mul (.cn (.int 17033)) (.var 1)) (.cn (.int 9203))))
  (.cons (.ite (.cmp .lt (.var 1) (.f1 .len (.var 0))) (.cons (.asg (.var 2) (.f1 .abs (.f1 .int (.idx (.var 0) (.var 1)))))
    .nil) (.cons (.ite (.cmp .gt (.f1 .len (.var 0)) (.cn (.int 0))) (.cons (.asg (.var 2) (.bin .add (.var 2) (.bin .mul (.bin .mod (.f1 .int (.f1 .abs (.f1 .int (.idx (.var 0) (.bin .mod (.f1 .int (.var 1)) (.f1 .len (.var 0))))))) (.cn (.int 2147483563))) (.cn (.int 88001)))))
      .nil) .nil)
    .nil))
  (.cons (.asg (.var 3) (.ite (.cmp .ge (.var 2) (.bin .pow (.cn (.int 10)) (.cn (.int 18)))) (.var 2) (.cn (.int 0))))
  (.cons (.ret (.lst (.cons (.var 3) (.cons (.bin .add (.bin .mod (.f1 .int (.bin .add (.bin .mul (.bin .mod (.f1 .int (.var 2)) (.cn (.int 2147483563))) (.cn (.int 54250003))) (.bin .mul (.cn (.int 9203)) (.var 1)))) (.cn (.int 2147483563))) (.cn (.int 1))) .nil))))
  .nil))))
def f__law_box : Fn := ⟨"_law_box", top 6, ["script", "k", "cell", "great"], 2, b__law_box, [(2, [], [0, 1])]⟩
/-- _law_take(box, many); slots: 0 box, 1 many, 2 digit, 3 raw -/
def b__law_take : Ss :=
  (.cons (.ite (.cmp .gt (.idx (.var 0) (.cn (.int 0))) (.cn (.int 0))) (.cons (.asg (.var 2) (.bin .mod (.f1 .int (.idx (.var 0) (.cn (.int 0)))) (.var 1)))
    (.cons (.asg (.sub (.var 0) (.cn (.int 0))) (.bin .fdiv (.idx (.var 0) (.cn (.int 0))) (.var 1)))
    (.cons (.ret (.var 2))
    .nil))) .nil)
  (.cons (.asg (.var 3) (.bin .mod (.f1 .int (.bin .add (.bin .mul (.idx (.var 0) (.cn (.int 1))) (.cn (.int 39373))) (.cn (.int 101)))) (.cn (.int 2147483647))))
  (.cons (.asg (.sub (.var 0) (.cn (.int 1))) (.bin .add (.bin .mod (.f1 .int (.bin .add (.bin .mul (.var 3) (.cn (.int 40692))) (.cn (.int 17)))) (.cn (.int 2147483563))) (.cn (.int 1))))
  (.cons (.ret (.bin .mod (.f1 .int (.bin .fdiv (.bin .add (.bin .mul (.var 3) (.cn (.int 2147483629))) (.idx (.var 0) (.cn (.int 1)))) (.cn (.int 8233)))) (.var 1)))
  .nil))))
def f__law_take : Fn := ⟨"_law_take", top 7, ["box", "many", "digit", "raw"], 2, b__law_take, [(2, [], [0, 1])]⟩
/-- _law_pick(box, some); slots: 0 box, 1 some -/
def b__law_pick : Ss :=
  (.cons (.ret (.idx (.var 1) (.call 4 (.cons (.var 0) (.cons (.f1 .len (.var 1)) .nil)) .nil [0, 1])))
  .nil)
def f__law_pick : Fn := ⟨"_law_pick", top 8, ["box", "some"], 2, b__law_pick, [(2, [], [0, 1])]⟩
/-- _law_lot(box, hands); slots: 0 box, 1 hands, 2 bits, 3 found, 4 hand -/
def b__law_lot : Ss :=
  (.cons (.asg (.var 2) (.bin .add (.cn (.int 1)) (.call 4 (.cons (.var 0) (.cons (.cn (.int 15)) .nil)) .nil [0, 1])))
  (.cons (.asg (.var 3) (.comp (.var 4) (.var 4) (.rng .none (.var 1)) (.cons (.cmp .eq (.bin .mod (.f1 .int (.bin .fdiv (.var 2) (.idx (.tup (.cons (.cn (.int 1)) (.cons (.cn (.int 2)) (.cons (.cn (.int 4)) (.cons (.cn (.int 8)) .nil))))) (.var 4)))) (.cn (.int 2))) (.cn (.int 1))) .nil) [4]))
  (.cons (.ret (.ite (.cmp .gt (.f1 .len (.var 3)) (.cn (.int 0))) (.f1 .tuple (.var 3)) (.tup (.cons (.call 4 (.cons (.var 0) (.cons (.var 1) .nil)) .nil [0, 1]) .nil))))
  .nil)))
def f__law_lot : Fn := ⟨"_law_lot", top 9, ["box", "hands", "bits", "found", "hand"], 2, b__law_lot, [(2, [], [0, 1])]⟩
/-- _law_web(box); slots: 0 box, 1 hands, 2 many, 3 way, 4 lots, 5 letter, 6 lot -/
def b__law_web_1 : Ss :=
  (.cons (.asg (.var 6) (.call 6 (.cons (.var 0) (.cons (.var 1) .nil)) .nil [0, 1]))
  (.cons (.ite (.or (.cmp .eq (.var 3) (.cn (.int 1))) (.and (.cmp .eq (.var 3) (.cn (.int 2))) (.cmp .gt (.call 4 (.cons (.var 0) (.cons (.cn (.int 3)) .nil)) .nil [0, 1]) (.cn (.int 0))))) (.cons (.asg (.var 6) (.tup (.cons (.idx (.var 6) (.cn (.int 0))) .nil)))
    .nil) .nil)
  (.cons (.ite (.and (.cmp .eq (.var 3) (.cn (.int 3))) (.cmp .eq (.call 4 (.cons (.var 0) (.cons (.cn (.int 3)) .nil)) .nil [0, 1]) (.cn (.int 0)))) (.cons (.asg (.var 6) (.f1 .tuple (.mkr .list .none (.var 1))))
    .nil) .nil)
  (.cons (.expr (.m1 .append (.var 4) (.var 6)))
  .nil))))
def b__law_web : Ss :=
  (.cons (.swap [1, 2] (.cons (.bin .add (.cn (.int 1)) (.call 4 (.cons (.var 0) (.cons (.cn (.int 4)) .nil)) .nil [0, 1])) (.cons (.bin .add (.cn (.int 1)) (.call 4 (.cons (.var 0) (.cons (.cn (.int 8)) .nil)) .nil [0, 1])) .nil)))
  (.cons (.asg (.var 3) (.call 4 (.cons (.var 0) (.cons (.cn (.int 4)) .nil)) .nil [0, 1]))
  (.cons (.asg (.var 4) (.lst .nil))
  (.cons (.for (.var 5) (.rng .none (.var 2)) b__law_web_1)
  (.cons (.ret (.tup (.cons (.var 1) (.cons (.f1 .tuple (.var 4)) .nil))))
  .nil)))))
def f__law_web : Fn := ⟨"_law_web", top 10, ["box", "hands", "many", "way", "lots", "letter", "lot"], 1, b__law_web, [(1, [], [0])]⟩
/-- _law_near(web); slots: 0 web, 1 found, 2 one, 3 two, 4 hand -/
def b__law_near_1 : Ss :=
  (.cons (.expr (.m1 .append (.var 1) (.comp (.cmp .gt (.f1 .len (.comp (.var 4) (.var 4) (.e (.var 2)) (.cons (.cmp .inn (.var 4) (.var 3)) .nil) [4])) (.cn (.int 0))) (.var 3) (.e (.idx (.var 0) (.cn (.int 1)))) .nil [3])))
  .nil)
def b__law_near : Ss :=
  (.cons (.asg (.var 1) (.lst .nil))
  (.cons (.for (.var 2) (.e (.idx (.var 0) (.cn (.int 1)))) b__law_near_1)
  (.cons (.ret (.var 1))
  .nil)))
def f__law_near : Fn := ⟨"_law_near", top 11, ["web", "found", "one", "two", "hand"], 1, b__law_near, [(1, [], [0])]⟩
/-- _law_row(box, web, many); slots: 0 box, 1 web, 2 many, 3 letters, 4 way, 5 found, 6 turn -/
def b__law_row_1 : Ss :=
  (.cons (.ite (.and (.cmp .eq (.var 4) (.cn (.int 1))) (.and (.cmp .gt (.var 6) (.cn (.int 0))) (.cmp .eq (.call 4 (.cons (.var 0) (.cons (.cn (.int 2)) .nil)) .nil [0, 1]) (.cn (.int 0))))) (.cons (.expr (.m1 .append (.var 5) (.idx (.var 5) (.bin .sub (.var 6) (.cn (.int 1))))))
    .nil) (.cons (.expr (.m1 .append (.var 5) (.call 5 (.cons (.var 0) (.cons (.var 3) .nil)) .nil [0, 1])))
    .nil))
  .nil)
def b__law_row : Ss :=
  (.cons (.asg (.var 3) (.mkr .list .none (.f1 .len (.idx (.var 1) (.cn (.int 1))))))
  (.cons (.asg (.var 4) (.call 4 (.cons (.var 0) (.cons (.cn (.int 4)) .nil)) .nil [0, 1]))
  (.cons (.ite (.cmp .eq (.var 4) (.cn (.int 0))) (.cons (.asg (.var 3) (.lst (.cons (.call 5 (.cons (.var 0) (.cons (.var 3) .nil)) .nil [0, 1]) (.cons (.call 5 (.cons (.var 0) (.cons (.var 3) .nil)) .nil [0, 1]) (.cons (.call 5 (.cons (.var 0) (.cons (.var 3) .nil)) .nil [0, 1]) .nil)))))
    .nil) .nil)
  (.cons (.asg (.var 5) (.lst .nil))
  (.cons (.for (.var 6) (.rng .none (.var 2)) b__law_row_1)
  (.cons (.ret (.f1 .tuple (.var 5)))
  .nil))))))
def f__law_row : Fn := ⟨"_law_row", top 12, ["box", "web", "many", "letters", "way", "found", "turn"], 3, b__law_row, [(3, [], [0, 1, 2])]⟩
/-- _law_shaken(box, near, row, many); slots: 0 box, 1 near, 2 row, 3 many, 4 now, 5 turn, 6 spot, 7 far, 8 step -/
def b__law_shaken_1 : Ss :=
  (.cons (.ite (.or (.cmp .ge (.bin .add (.var 6) (.cn (.int 1))) (.f1 .len (.var 4))) (.idx (.idx (.var 1) (.idx (.var 4) (.var 6))) (.idx (.var 4) (.bin .add (.var 6) (.cn (.int 1)))))) (.cons .brk
    .nil) .nil)
  (.cons (.asg (.tup (.cons (.sub (.var 4) (.var 6)) (.cons (.sub (.var 4) (.bin .add (.var 6) (.cn (.int 1)))) .nil))) (.tup (.cons (.idx (.var 4) (.bin .add (.var 6) (.cn (.int 1)))) (.cons (.idx (.var 4) (.var 6)) .nil))))
  (.cons (.asg (.var 6) (.bin .add (.var 6) (.cn (.int 1))))
  .nil)))
def b__law_shaken_2 : Ss :=
  (.cons (.asg (.var 6) (.call 4 (.cons (.var 0) (.cons (.bin .sub (.f1 .len (.var 4)) (.cn (.int 1))) .nil)) .nil [0, 1]))
  (.cons (.asg (.var 7) (.call 5 (.cons (.var 0) (.cons (.lst (.cons (.cn (.int 1)) (.cons (.cn (.int 1)) (.cons (.cn (.int 60)) .nil)))) .nil)) .nil [0, 1]))
  (.cons (.for (.var 8) (.rng .none (.var 7)) b__law_shaken_1)
  .nil)))
def b__law_shaken : Ss :=
  (.cons (.asg (.var 4) (.f1 .list (.var 2)))
  (.cons (.for (.var 5) (.rng .none (.ite (.cmp .gt (.f1 .len (.var 4)) (.cn (.int 1))) (.var 3) (.cn (.int 0)))) b__law_shaken_2)
  (.cons (.ret (.f1 .tuple (.var 4)))
  .nil)))
def f__law_shaken : Fn := ⟨"_law_shaken", top 13, ["box", "near", "row", "many", "now", "turn", "spot", "far", "step"], 4, b__law_shaken, [(4, [], [0, 1, 2, 3])]⟩
/-- _law_is_one(near, one, two); slots: 0 near, 1 one, 2 two, 3 first, 4 second, 5 some -/
def b__law_is_one_1 : Ss :=
  (.cons (.ite (.idx (.idx (.var 0) (.var 3)) (.var 4)) (.cons (.ite (.cmp .ne (.comp (.var 5) (.var 5) (.e (.var 1)) (.cons (.cmp .inn (.var 5) (.tup (.cons (.var 3) (.cons (.var 4) .nil)))) .nil) [5]) (.comp (.var 5) (.var 5) (.e (.var 2)) (.cons (.cmp .inn (.var 5) (.tup (.cons (.var 3) (.cons (.var 4) .nil)))) .nil) [5])) (.cons (.ret (.cn (.bl false)))
      .nil) .nil)
    .nil) .nil)
  .nil)
def b__law_is_one_2 : Ss :=
  (.cons (.for (.var 4) (.rng (.some (.var 3)) (.f1 .len (.var 0))) b__law_is_one_1)
  .nil)
def b__law_is_one : Ss :=
  (.cons (.ite (.cmp .ne (.f1 .len (.var 1)) (.f1 .len (.var 2))) (.cons (.ret (.cn (.bl false)))
    .nil) .nil)
  (.cons (.for (.var 3) (.rng .none (.f1 .len (.var 0))) b__law_is_one_2)
  (.cons (.ret (.cn (.bl true)))
  .nil)))
def f__law_is_one : Fn := ⟨"_law_is_one", top 14, ["near", "one", "two", "first", "second", "some"], 3, b__law_is_one, [(3, [], [0, 1, 2])]⟩
/-- _law_end(near, row, sign); slots: 0 near, 1 row, 2 sign, 3 left, 4 found, 5 turn, 6 spot, 7 best, 8 ahead, 9 letter, 10 is_first, 11 one -/
def b__law_end_1 : Ss :=
  (.cons (.asg (.var 9) (.idx (.var 3) (.var 6)))
  (.cons (.ite (.cmp .nin (.var 9) (.var 8)) (.cons (.asg (.var 10) (.cmp .eq (.f1 .len (.comp (.var 11) (.var 11) (.e (.var 8)) (.cons (.idx (.idx (.var 0) (.var 11)) (.var 9)) .nil) [11])) (.cn (.int 0))))
    (.cons (.expr (.m1 .append (.var 8) (.var 9)))
    (.cons (.ite (.and (.var 10) (.cmp .lt (.bin .mul (.var 2) (.var 9)) (.bin .mul (.var 2) (.idx (.var 3) (.var 7))))) (.cons (.asg (.var 7) (.var 6))
      .nil) .nil)
    .nil))) .nil)
  .nil))
def b__law_end_2 : Ss :=
  (.cons (.swap [7, 8] (.cons (.cn (.int 0)) (.cons (.lst .nil) .nil)))
  (.cons (.for (.var 6) (.rng .none (.f1 .len (.var 3))) b__law_end_1)
  (.cons (.expr (.m1 .append (.var 4) (.idx (.var 3) (.var 7))))
  (.cons (.asg (.var 3) (.bin .add (.sl (.var 3) .none (.some (.var 7))) (.sl (.var 3) (.some (.bin .add (.var 7) (.cn (.int 1)))) .none)))
  .nil))))
def b__law_end : Ss :=
  (.cons (.swap [3, 4] (.cons (.f1 .list (.var 1)) (.cons (.lst .nil) .nil)))
  (.cons (.for (.var 5) (.rng .none (.f1 .len (.var 1))) b__law_end_2)
  (.cons (.ret (.f1 .tuple (.var 4)))
  .nil)))
def f__law_end : Fn := ⟨"_law_end", top 15, ["near", "row", "sign", "left", "found", "turn", "spot", "best", "ahead", "letter", "is_first", "one"], 3, b__law_end, [(3, [], [0, 1, 2])]⟩
/-- _law_turned(one, two); slots: 0 one, 1 two, 2 spots, 3 spot, 4 line, 5 seen, 6 letter, 7 many, 8 back -/
def b__law_turned_1 : Ss :=
  (.cons (.dput (.var 2) (.idx (.var 1) (.var 3)) (.bin .add (.dgt (.var 2) (.idx (.var 1) (.var 3)) (.lst .nil)) (.lst (.cons (.var 3) .nil))))
  .nil)
def b__law_turned_2 : Ss :=
  (.cons (.expr (.m1 .append (.var 4) (.idx (.dget (.var 2) (.var 6)) (.dgt (.var 5) (.var 6) (.cn (.int 0))))))
  (.cons (.dput (.var 5) (.var 6) (.bin .add (.dgt (.var 5) (.var 6) (.cn (.int 0))) (.cn (.int 1))))
  .nil))
def b__law_turned_3 : Ss :=
  (.cons (.asg (.var 7) (.bin .add (.var 7) (.f1 .len (.comp (.var 8) (.var 8) (.e (.sl (.var 4) .none (.some (.var 3)))) (.cons (.cmp .gt (.var 8) (.idx (.var 4) (.var 3))) .nil) [8]))))
  .nil)
def b__law_turned : Ss :=
  (.cons (.asg (.var 2) (.dnew false))
  (.cons (.for (.var 3) (.rng .none (.f1 .len (.var 1))) b__law_turned_1)
  (.cons (.asg (.tup (.cons (.var 4) (.cons (.var 5) .nil))) (.tup (.cons (.lst .nil) (.cons (.dnew false) .nil))))
  (.cons (.for (.var 6) (.e (.var 0)) b__law_turned_2)
  (.cons (.asg (.var 7) (.cn (.int 0)))
  (.cons (.for (.var 3) (.rng .none (.f1 .len (.var 4))) b__law_turned_3)
  (.cons (.ret (.var 7))
  .nil)))))))
def f__law_turned : Fn := ⟨"_law_turned", top 16, ["one", "two", "spots", "spot", "line", "seen", "letter", "many", "back"], 2, b__law_turned, [(2, [], [0, 1])]⟩
/-- _law_leads(near, one, two, told); slots: 0 near, 1 one, 2 two, 3 told, 4 now, 5 spot -/
def b__law_leads_1 : Ss :=
  (.cons (.ite (.or (.not (.isi (.var 5) .int)) (.or (.isi (.var 5) .bool) (.or (.cmp .lt (.var 5) (.cn (.int 0))) (.cmp .ge (.bin .add (.var 5) (.cn (.int 1))) (.f1 .len (.var 4)))))) (.cons (.ret (.cn (.bl false)))
    .nil) .nil)
  (.cons (.ite (.idx (.idx (.var 0) (.idx (.var 4) (.var 5))) (.idx (.var 4) (.bin .add (.var 5) (.cn (.int 1))))) (.cons (.ret (.cn (.bl false)))
    .nil) .nil)
  (.cons (.asg (.tup (.cons (.sub (.var 4) (.var 5)) (.cons (.sub (.var 4) (.bin .add (.var 5) (.cn (.int 1)))) .nil))) (.tup (.cons (.idx (.var 4) (.bin .add (.var 5) (.cn (.int 1)))) (.cons (.idx (.var 4) (.var 5)) .nil))))
  .nil)))
def b__law_leads : Ss :=
  (.cons (.asg (.var 4) (.f1 .list (.var 1)))
  (.cons (.for (.var 5) (.e (.var 3)) b__law_leads_1)
  (.cons (.ret (.cmp .eq (.f1 .tuple (.var 4)) (.var 2)))
  .nil)))
def f__law_leads : Fn := ⟨"_law_leads", top 17, ["near", "one", "two", "told", "now", "spot"], 4, b__law_leads, [(4, [], [0, 1, 2, 3])]⟩
/-- _law_told(web, near, one, two); slots: 0 web, 1 near, 2 one, 3 two, 4 told -/
def b__law_told : Ss :=
  (.cons (.asg (.var 4) (.call 2 (.cons (.var 0) (.cons (.var 2) (.cons (.var 3) .nil))) .nil [0, 1, 2]))
  (.cons (.ite (.not (.call 11 (.cons (.var 1) (.cons (.var 2) (.cons (.var 3) .nil))) .nil [0, 1, 2])) (.cons (.ret (.cmp .is (.var 4) (.cn (.non))))
    .nil) .nil)
  (.cons (.ite (.or (.not (.isi (.var 4) .tuple)) (.cmp .ne (.f1 .len (.var 4)) (.call 13 (.cons (.var 2) (.cons (.var 3) .nil)) .nil [0, 1]))) (.cons (.ret (.cn (.bl false)))
    .nil) .nil)
  (.cons (.ret (.call 14 (.cons (.var 1) (.cons (.var 2) (.cons (.var 3) (.cons (.var 4) .nil)))) .nil [0, 1, 2, 3]))
  .nil))))
def f__law_told : Fn := ⟨"_law_told", top 18, ["web", "near", "one", "two", "told"], 4, b__law_told, [(4, [], [0, 1, 2, 3])]⟩
/-- _law_bent(box, web, near, row); slots: 0 box, 1 web, 2 near, 3 row, 4 now, 5 spot, 6 way, 7 step, 8 here -/
def b__law_bent_1 : Ss :=
  (.cons (.asg (.var 8) (.bin .mod (.f1 .int (.bin .add (.var 5) (.var 7))) (.bin .sub (.f1 .len (.var 4)) (.cn (.int 1)))))
  (.cons (.ite (.and (.idx (.idx (.var 2) (.idx (.var 4) (.var 8))) (.idx (.var 4) (.bin .add (.var 8) (.cn (.int 1))))) (.cmp .ne (.idx (.var 4) (.var 8)) (.idx (.var 4) (.bin .add (.var 8) (.cn (.int 1)))))) (.cons (.asg (.tup (.cons (.sub (.var 4) (.var 8)) (.cons (.sub (.var 4) (.bin .add (.var 8) (.cn (.int 1)))) .nil))) (.tup (.cons (.idx (.var 4) (.bin .add (.var 8) (.cn (.int 1)))) (.cons (.idx (.var 4) (.var 8)) .nil))))
    (.cons .brk
    .nil)) .nil)
  .nil))
def b__law_bent : Ss :=
  (.cons (.asg (.var 4) (.f1 .list (.var 3)))
  (.cons (.asg (.var 5) (.call 4 (.cons (.var 0) (.cons (.f1 .len (.var 4)) .nil)) .nil [0, 1]))
  (.cons (.asg (.var 6) (.call 4 (.cons (.var 0) (.cons (.cn (.int 6)) .nil)) .nil [0, 1]))
  (.cons (.ite (.cmp .lt (.var 6) (.cn (.int 2))) (.cons (.for (.var 7) (.rng .none (.bin .sub (.f1 .len (.var 4)) (.cn (.int 1)))) b__law_bent_1)
    .nil) .nil)
  (.cons (.ite (.cmp .eq (.var 6) (.cn (.int 2))) (.cons (.asg (.sub (.var 4) (.var 5)) (.call 4 (.cons (.var 0) (.cons (.f1 .len (.idx (.var 1) (.cn (.int 1)))) .nil)) .nil [0, 1]))
    .nil) .nil)
  (.cons (.ite (.cmp .eq (.var 6) (.cn (.int 3))) (.cons (.asg (.var 4) (.bin .add (.sl (.var 4) .none (.some (.var 5))) (.sl (.var 4) (.some (.bin .add (.var 5) (.cn (.int 1)))) .none)))
    .nil) .nil)
  (.cons (.ite (.and (.cmp .eq (.var 6) (.cn (.int 4))) (.cmp .lt (.f1 .len (.var 4)) (.cn (.int 60)))) (.cons (.asg (.var 4) (.bin .add (.bin .add (.sl (.var 4) .none (.some (.var 5))) (.lst (.cons (.call 4 (.cons (.var 0) (.cons (.f1 .len (.idx (.var 1) (.cn (.int 1)))) .nil)) .nil [0, 1]) .nil))) (.sl (.var 4) (.some (.var 5)) .none)))
    .nil) .nil)
  (.cons (.ite (.cmp .eq (.var 6) (.cn (.int 5))) (.cons (.asg (.var 4) (.rev (.var 4)))
    .nil) .nil)
  (.cons (.ret (.call 10 (.cons (.var 0) (.cons (.var 2) (.cons (.f1 .tuple (.var 4)) (.cons (.call 5 (.cons (.var 0) (.cons (.lst (.cons (.cn (.int 0)) (.cons (.cn (.int 3)) (.cons (.cn (.int 10)) .nil)))) .nil)) .nil [0, 1]) .nil)))) .nil [0, 1, 2, 3]))
  .nil)))))))))
def f__law_bent : Fn := ⟨"_law_bent", top 19, ["box", "web", "near", "row", "now", "spot", "way", "step", "here"], 4, b__law_bent, [(4, [], [0, 1, 2, 3])]⟩
/-- _law_great(box, web, many); slots: 0 box, 1 web, 2 many, 3 near, 4 row, 5 least, 6 most -/
def b__law_great : Ss :=
  (.cons (.asg (.var 3) (.call 8 (.cons (.var 1) .nil) .nil [0]))
  (.cons (.asg (.var 4) (.call 9 (.cons (.var 0) (.cons (.var 1) (.cons (.var 2) .nil))) .nil [0, 1, 2]))
  (.cons (.swap [5, 6] (.cons (.call 12 (.cons (.var 3) (.cons (.var 4) (.cons (.cn (.int 1)) .nil))) .nil [0, 1, 2]) (.cons (.call 12 (.cons (.var 3) (.cons (.var 4) (.cons (.bin .sub (.cn (.int 0)) (.cn (.int 1))) .nil))) .nil [0, 1, 2]) .nil)))
  (.cons (.ret (.and (.call 15 (.cons (.var 1) (.cons (.var 3) (.cons (.var 5) (.cons (.var 6) .nil)))) .nil [0, 1, 2, 3]) (.call 15 (.cons (.var 1) (.cons (.var 3) (.cons (.var 6) (.cons (.var 4) .nil)))) .nil [0, 1, 2, 3])))
  .nil))))
def f__law_great : Fn := ⟨"_law_great", top 20, ["box", "web", "many", "near", "row", "least", "most"], 3, b__law_great, [(3, [], [0, 1, 2])]⟩
/-- _law_some(box, web, many); slots: 0 box, 1 web, 2 many, 3 near, 4 row, 5 other, 6 turn -/
def b__law_some_1 : Ss :=
  (.cons (.ite (.or (.not (.call 15 (.cons (.var 1) (.cons (.var 3) (.cons (.var 4) (.cons (.var 5) .nil)))) .nil [0, 1, 2, 3])) (.not (.call 15 (.cons (.var 1) (.cons (.var 3) (.cons (.var 5) (.cons (.var 4) .nil)))) .nil [0, 1, 2, 3]))) (.cons (.ret (.cn (.bl false)))
    .nil) .nil)
  .nil)
def b__law_some_2 : Ss :=
  (.cons (.asg (.var 5) (.call 16 (.cons (.var 0) (.cons (.var 1) (.cons (.var 3) (.cons (.var 4) .nil)))) .nil [0, 1, 2, 3]))
  (.cons (.ite (.or (.not (.call 15 (.cons (.var 1) (.cons (.var 3) (.cons (.var 4) (.cons (.var 5) .nil)))) .nil [0, 1, 2, 3])) (.not (.call 15 (.cons (.var 1) (.cons (.var 3) (.cons (.call 10 (.cons (.var 0) (.cons (.var 3) (.cons (.var 4) (.cons (.cn (.int 4)) .nil)))) .nil [0, 1, 2, 3]) (.cons (.var 5) .nil)))) .nil [0, 1, 2, 3]))) (.cons (.ret (.cn (.bl false)))
    .nil) .nil)
  .nil))
def b__law_some : Ss :=
  (.cons (.asg (.var 3) (.call 8 (.cons (.var 1) .nil) .nil [0]))
  (.cons (.asg (.var 4) (.call 9 (.cons (.var 0) (.cons (.var 1) (.cons (.var 2) .nil))) .nil [0, 1, 2]))
  (.cons (.for (.var 5) (.e (.lst (.cons (.var 4) (.cons (.call 10 (.cons (.var 0) (.cons (.var 3) (.cons (.var 4) (.cons (.cn (.int 6)) .nil)))) .nil [0, 1, 2, 3]) (.cons (.call 10 (.cons (.var 0) (.cons (.var 3) (.cons (.var 4) (.cons (.cn (.int 20)) .nil)))) .nil [0, 1, 2, 3]) (.cons (.tup .nil) (.cons (.call 9 (.cons (.var 0) (.cons (.var 1) (.cons (.var 2) .nil))) .nil [0, 1, 2]) .nil))))))) b__law_some_1)
  (.cons (.for (.var 6) (.rng .none (.cn (.int 3))) b__law_some_2)
  (.cons (.ret (.cn (.bl true)))
  .nil)))))
def f__law_some : Fn := ⟨"_law_some", top 21, ["box", "web", "many", "near", "row", "other", "turn"], 3, b__law_some, [(3, [], [0, 1, 2])]⟩
/-- _law_named(web); slots: 0 web, 1 near, 2 one, 3 two, 4 told, 5 back -/
def b__law_named : Ss :=
  (.cons (.asg (.var 1) (.call 8 (.cons (.var 0) .nil) .nil [0]))
  (.cons (.asg (.tup (.cons (.var 2) (.cons (.var 3) .nil))) (.tup (.cons (.tup (.cons (.cn (.int 0)) (.cons (.cn (.int 1)) (.cons (.cn (.int 2)) .nil)))) (.cons (.tup (.cons (.cn (.int 1)) (.cons (.cn (.int 2)) (.cons (.cn (.int 0)) .nil)))) .nil))))
  (.cons (.asg (.var 4) (.call 2 .nil (.cons (.var 3) (.cons (.var 2) (.cons (.var 0) .nil))) [2, 1, 0]))
  (.cons (.asg (.var 5) (.call 2 .nil (.cons (.var 3) (.cons (.var 2) (.cons (.var 0) .nil))) [2, 0, 1]))
  (.cons (.ite (.or (.not (.isi (.var 4) .tuple)) (.or (.not (.isi (.var 5) .tuple)) (.or (.cmp .ne (.f1 .len (.var 4)) (.cn (.int 2))) (.cmp .ne (.f1 .len (.var 5)) (.cn (.int 2)))))) (.cons (.ret (.cn (.bl false)))
    .nil) .nil)
  (.cons (.ret (.and (.call 14 (.cons (.var 1) (.cons (.var 2) (.cons (.var 3) (.cons (.var 4) .nil)))) .nil [0, 1, 2, 3]) (.call 14 (.cons (.var 1) (.cons (.var 3) (.cons (.var 2) (.cons (.var 5) .nil)))) .nil [0, 1, 2, 3])))
  .nil))))))
def f__law_named : Fn := ⟨"_law_named", top 22, ["web", "near", "one", "two", "told", "back"], 1, b__law_named, [(1, [], [0])]⟩
/-- law(script); slots: 0 script, 1 alone, 2 k, 3 box, 4 web, 5 some, 6 near, 7 one, 8 two, 9 spot -/
def b_law_1 : Ss :=
  (.cons (.ite (.or (.not (.call 18 (.cons (.var 3) (.cons (.var 5) (.cons (.bin .add (.cn (.int 2)) (.call 4 (.cons (.var 3) (.cons (.cn (.int 14)) .nil)) .nil [0, 1])) .nil))) .nil [0, 1, 2])) (.not (.call 17 (.cons (.var 3) (.cons (.var 5) (.cons (.call 4 (.cons (.var 3) (.cons (.cn (.int 20)) .nil)) .nil [0, 1]) .nil))) .nil [0, 1, 2]))) (.cons (.ret (.cn (.bl false)))
    .nil) .nil)
  .nil)
def b_law_2 : Ss :=
  (.cons (.asg (.var 3) (.call 3 (.cons (.var 0) (.cons (.var 2) .nil)) .nil [0, 1]))
  (.cons (.asg (.var 4) (.call 7 (.cons (.var 3) .nil) .nil [0]))
  (.cons (.for (.var 5) (.e (.lst (.cons (.var 4) (.cons (.var 1) .nil)))) b_law_1)
  (.cons (.ite (.and (.cmp .lt (.var 2) (.cn (.int 2))) (.not (.call 17 (.cons (.var 3) (.cons (.call 5 (.cons (.var 3) (.cons (.lst (.cons (.var 1) (.cons (.var 4) .nil))) .nil)) .nil [0, 1]) (.cons (.call 5 (.cons (.var 3) (.cons (.lst (.cons (.cn (.int 60)) (.cons (.cn (.int 59)) (.cons (.cn (.int 40)) .nil)))) .nil)) .nil [0, 1]) .nil))) .nil [0, 1, 2]))) (.cons (.ret (.cn (.bl false)))
    .nil) .nil)
  .nil))))
def b_law : Ss :=
  (.cons (.asg (.var 1) (.tup (.cons (.cn (.int 4)) (.cons (.tup (.cons (.tup (.cons (.cn (.int 0)) .nil)) (.cons (.tup (.cons (.cn (.int 1)) .nil)) (.cons (.tup (.cons (.cn (.int 2)) .nil)) (.cons (.tup (.cons (.cn (.int 3)) .nil)) (.cons (.tup (.cons (.cn (.int 0)) (.cons (.cn (.int 1)) .nil))) (.cons (.tup (.cons (.cn (.int 2)) (.cons (.cn (.int 3)) .nil))) (.cons (.tup (.cons (.cn (.int 0)) (.cons (.cn (.int 1)) (.cons (.cn (.int 2)) (.cons (.cn (.int 3)) .nil))))) (.cons (.tup (.cons (.cn (.int 0)) .nil)) .nil))))))))) .nil))))
  (.cons (.ite (.or (.not (.call 19 (.cons (.var 1) .nil) .nil [0])) (.or (.cmp .isn (.call 2 (.cons (.var 1) (.cons (.tup (.cons (.cn (.int 0)) (.cons (.cn (.int 7)) .nil))) (.cons (.tup (.cons (.cn (.int 7)) (.cons (.cn (.int 0)) .nil))) .nil))) .nil [0, 1, 2]) (.cn (.non))) (.cmp .isn (.call 2 (.cons (.var 1) (.cons (.tup (.cons (.cn (.int 0)) .nil)) (.cons (.tup .nil) .nil))) .nil [0, 1, 2]) (.cn (.non))))) (.cons (.ret (.cn (.bl false)))
    .nil) .nil)
  (.cons (.ite (.or (.cmp .isn (.call 2 (.cons (.tup (.cons (.cn (.int 3)) (.cons (.tup (.cons (.tup (.cons (.cn (.int 0)) (.cons (.cn (.int 2)) .nil))) (.cons (.tup (.cons (.cn (.int 1)) (.cons (.cn (.int 2)) .nil))) (.cons (.tup (.cons (.cn (.int 0)) (.cons (.cn (.int 1)) .nil))) .nil)))) .nil))) (.cons (.tup (.cons (.cn (.int 0)) (.cons (.cn (.int 1)) (.cons (.cn (.int 2)) .nil)))) (.cons (.tup (.cons (.cn (.int 1)) (.cons (.cn (.int 0)) (.cons (.cn (.int 2)) .nil)))) .nil))) .nil [0, 1, 2]) (.cn (.non))) (.cmp .isn (.call 2 (.cons (.var 1) (.cons (.tup (.cons (.cn (.int 4)) (.cons (.cn (.int 1)) .nil))) (.cons (.tup (.cons (.cn (.int 1)) (.cons (.cn (.int 4)) .nil))) .nil))) .nil [0, 1, 2]) (.cn (.non)))) (.cons (.ret (.cn (.bl false)))
    .nil) .nil)
  (.cons (.for (.var 2) (.rng .none (.f2 .max (.cn (.int 3)) (.f2 .min (.f1 .len (.var 0)) (.cn (.int 7))))) b_law_2)
  (.cons (.asg (.var 6) (.call 8 (.cons (.var 1) .nil) .nil [0]))
  (.cons (.asg (.var 7) (.bin .add (.bin .mul (.tup (.cons (.cn (.int 0)) .nil)) (.cn (.int 30))) (.bin .mul (.tup (.cons (.cn (.int 1)) .nil)) (.cn (.int 30)))))
  (.cons (.asg (.var 8) (.f1 .tuple (.comp (.bin .mod (.f1 .int (.var 9)) (.cn (.int 2))) (.var 9) (.rng .none (.cn (.int 60))) .nil [9])))
  (.cons (.ret (.and (.call 15 (.cons (.var 1) (.cons (.var 6) (.cons (.var 7) (.cons (.rev (.var 7)) .nil)))) .nil [0, 1, 2, 3]) (.call 15 (.cons (.var 1) (.cons (.var 6) (.cons (.var 8) (.cons (.var 7) .nil)))) .nil [0, 1, 2, 3])))
  .nil))))))))
def f_law : Fn := ⟨"law", top 23, ["script", "alone", "k", "box", "web", "some", "near", "one", "two", "spot"], 1, b_law, [(1, [], [0])]⟩
def L : List Fn := [f_are_strangers, f_free_place, f_exchange_row, f__law_box, f__law_take, f__law_pick, f__law_lot, f__law_web, f__law_near, f__law_row, f__law_shaken, f__law_is_one, f__law_end, f__law_turned, f__law_leads, f__law_told, f__law_bent, f__law_great, f__law_some, f__law_named, f_law]
def frees : List Str := ["abs", "bool", "enumerate", "int", "isinstance", "len", "list", "max", "min", "range", "tuple"]
abbrev T : Nat → Option Df := tOf L
theorem ck : ∀ f ∈ L, f.chk (gOf L frees) = true := by
  have h : (L.all fun f => f.chk (gOf L frees)) = true := by decide +kernel
  exact fun f hf => List.all_eq_true.mp h f hf
theorem sh_are_strangers_0 : ShapeOk f_are_strangers (3, [], [0, 1, 2]) := fun _ _ _ _ _ _ us ws h1 h2 => match us, ws, h1, h2 with
  | [_, _, _], [], _, _ => rfl
theorem sh_free_place_0 : ShapeOk f_free_place (4, [], [0, 1, 2, 3]) := fun _ _ _ _ _ _ us ws h1 h2 => match us, ws, h1, h2 with
  | [_, _, _, _], [], _, _ => rfl
theorem sh_exchange_row_0 : ShapeOk f_exchange_row (0, ["one", "two", "web"], [2, 0, 1]) := fun _ _ _ _ _ _ us ws h1 h2 => match us, ws, h1, h2 with
  | [], [_, _, _], _, _ => rfl
theorem sh_exchange_row_1 : ShapeOk f_exchange_row (0, ["two", "one", "web"], [2, 1, 0]) := fun _ _ _ _ _ _ us ws h1 h2 => match us, ws, h1, h2 with
  | [], [_, _, _], _, _ => rfl
theorem sh_exchange_row_2 : ShapeOk f_exchange_row (3, [], [0, 1, 2]) := fun _ _ _ _ _ _ us ws h1 h2 => match us, ws, h1, h2 with
  | [_, _, _], [], _, _ => rfl
theorem sh__law_box_0 : ShapeOk f__law_box (2, [], [0, 1]) := fun _ _ _ _ _ _ us ws h1 h2 => match us, ws, h1, h2 with
  | [_, _], [], _, _ => rfl
theorem sh__law_take_0 : ShapeOk f__law_take (2, [], [0, 1]) := fun _ _ _ _ _ _ us ws h1 h2 => match us, ws, h1, h2 with
  | [_, _], [], _, _ => rfl
theorem sh__law_pick_0 : ShapeOk f__law_pick (2, [], [0, 1]) := fun _ _ _ _ _ _ us ws h1 h2 => match us, ws, h1, h2 with
  | [_, _], [], _, _ => rfl
theorem sh__law_lot_0 : ShapeOk f__law_lot (2, [], [0, 1]) := fun _ _ _ _ _ _ us ws h1 h2 => match us, ws, h1, h2 with
  | [_, _], [], _, _ => rfl
theorem sh__law_web_0 : ShapeOk f__law_web (1, [], [0]) := fun _ _ _ _ _ _ us ws h1 h2 => match us, ws, h1, h2 with
  | [_], [], _, _ => rfl
theorem sh__law_near_0 : ShapeOk f__law_near (1, [], [0]) := fun _ _ _ _ _ _ us ws h1 h2 => match us, ws, h1, h2 with
  | [_], [], _, _ => rfl
theorem sh__law_row_0 : ShapeOk f__law_row (3, [], [0, 1, 2]) := fun _ _ _ _ _ _ us ws h1 h2 => match us, ws, h1, h2 with
  | [_, _, _], [], _, _ => rfl
theorem sh__law_shaken_0 : ShapeOk f__law_shaken (4, [], [0, 1, 2, 3]) := fun _ _ _ _ _ _ us ws h1 h2 => match us, ws, h1, h2 with
  | [_, _, _, _], [], _, _ => rfl
theorem sh__law_is_one_0 : ShapeOk f__law_is_one (3, [], [0, 1, 2]) := fun _ _ _ _ _ _ us ws h1 h2 => match us, ws, h1, h2 with
  | [_, _, _], [], _, _ => rfl
theorem sh__law_end_0 : ShapeOk f__law_end (3, [], [0, 1, 2]) := fun _ _ _ _ _ _ us ws h1 h2 => match us, ws, h1, h2 with
  | [_, _, _], [], _, _ => rfl
theorem sh__law_turned_0 : ShapeOk f__law_turned (2, [], [0, 1]) := fun _ _ _ _ _ _ us ws h1 h2 => match us, ws, h1, h2 with
  | [_, _], [], _, _ => rfl
theorem sh__law_leads_0 : ShapeOk f__law_leads (4, [], [0, 1, 2, 3]) := fun _ _ _ _ _ _ us ws h1 h2 => match us, ws, h1, h2 with
  | [_, _, _, _], [], _, _ => rfl
theorem sh__law_told_0 : ShapeOk f__law_told (4, [], [0, 1, 2, 3]) := fun _ _ _ _ _ _ us ws h1 h2 => match us, ws, h1, h2 with
  | [_, _, _, _], [], _, _ => rfl
theorem sh__law_bent_0 : ShapeOk f__law_bent (4, [], [0, 1, 2, 3]) := fun _ _ _ _ _ _ us ws h1 h2 => match us, ws, h1, h2 with
  | [_, _, _, _], [], _, _ => rfl
theorem sh__law_great_0 : ShapeOk f__law_great (3, [], [0, 1, 2]) := fun _ _ _ _ _ _ us ws h1 h2 => match us, ws, h1, h2 with
  | [_, _, _], [], _, _ => rfl
theorem sh__law_some_0 : ShapeOk f__law_some (3, [], [0, 1, 2]) := fun _ _ _ _ _ _ us ws h1 h2 => match us, ws, h1, h2 with
  | [_, _, _], [], _, _ => rfl
theorem sh__law_named_0 : ShapeOk f__law_named (1, [], [0]) := fun _ _ _ _ _ _ us ws h1 h2 => match us, ws, h1, h2 with
  | [_], [], _, _ => rfl
theorem sh_law_0 : ShapeOk f_law (1, [], [0]) := fun _ _ _ _ _ _ us ws h1 h2 => match us, ws, h1, h2 with
  | [_], [], _, _ => rfl
theorem sh : ∀ f ∈ L, ∀ s ∈ f.shapes, ShapeOk f s := by
  intro f hf
  unfold L at hf
  simp only [List.mem_cons, List.mem_nil_iff, or_false] at hf
  rcases hf with rfl | rfl | rfl | rfl | rfl | rfl | rfl | rfl | rfl | rfl | rfl | rfl | rfl | rfl | rfl | rfl | rfl | rfl | rfl | rfl | rfl
  · intro s hs
    rcases List.mem_cons.mp hs with rfl | hs
    · exact sh_are_strangers_0
    · cases hs
  · intro s hs
    rcases List.mem_cons.mp hs with rfl | hs
    · exact sh_free_place_0
    · cases hs
  · intro s hs
    rcases List.mem_cons.mp hs with rfl | hs
    · exact sh_exchange_row_0
    rcases List.mem_cons.mp hs with rfl | hs
    · exact sh_exchange_row_1
    rcases List.mem_cons.mp hs with rfl | hs
    · exact sh_exchange_row_2
    · cases hs
  · intro s hs
    rcases List.mem_cons.mp hs with rfl | hs
    · exact sh__law_box_0
    · cases hs
  · intro s hs
    rcases List.mem_cons.mp hs with rfl | hs
    · exact sh__law_take_0
    · cases hs
  · intro s hs
    rcases List.mem_cons.mp hs with rfl | hs
    · exact sh__law_pick_0
    · cases hs
  · intro s hs
    rcases List.mem_cons.mp hs with rfl | hs
    · exact sh__law_lot_0
    · cases hs
  · intro s hs
    rcases List.mem_cons.mp hs with rfl | hs
    · exact sh__law_web_0
    · cases hs
  · intro s hs
    rcases List.mem_cons.mp hs with rfl | hs
    · exact sh__law_near_0
    · cases hs
  · intro s hs
    rcases List.mem_cons.mp hs with rfl | hs
    · exact sh__law_row_0
    · cases hs
  · intro s hs
    rcases List.mem_cons.mp hs with rfl | hs
    · exact sh__law_shaken_0
    · cases hs
  · intro s hs
    rcases List.mem_cons.mp hs with rfl | hs
    · exact sh__law_is_one_0
    · cases hs
  · intro s hs
    rcases List.mem_cons.mp hs with rfl | hs
    · exact sh__law_end_0
    · cases hs
  · intro s hs
    rcases List.mem_cons.mp hs with rfl | hs
    · exact sh__law_turned_0
    · cases hs
  · intro s hs
    rcases List.mem_cons.mp hs with rfl | hs
    · exact sh__law_leads_0
    · cases hs
  · intro s hs
    rcases List.mem_cons.mp hs with rfl | hs
    · exact sh__law_told_0
    · cases hs
  · intro s hs
    rcases List.mem_cons.mp hs with rfl | hs
    · exact sh__law_bent_0
    · cases hs
  · intro s hs
    rcases List.mem_cons.mp hs with rfl | hs
    · exact sh__law_great_0
    · cases hs
  · intro s hs
    rcases List.mem_cons.mp hs with rfl | hs
    · exact sh__law_some_0
    · cases hs
  · intro s hs
    rcases List.mem_cons.mp hs with rfl | hs
    · exact sh__law_named_0
    · cases hs
  · intro s hs
    rcases List.mem_cons.mp hs with rfl | hs
    · exact sh_law_0
    · cases hs
abbrev R : PySem.W.OpenRow := PySem.W.OpenLaw.row PySem.Challenge.rw_oneactmore_k06_exchanges_between_rows
abbrev hk : PySem.W.Hook := He.hookD 4 (faOf L frees) (fnO L)
def ob (s : PySem.W.SharedT) : He.AlD := He.obsDG 4 (faOf L frees) (fnO L) (HandSHeadRun.getT s)
theorem ob_eq (s : PySem.W.SharedT) : ob s = hk.obs s.abs := He.obsDG_eq (HandSHeadRun.getT_eq s)
theorem run (w : World) : HandSHeadRun.RunEq R (PySem.W.view R.prog [23]) hk ob 4000 ["are_strangers", "free_place", "exchange_row", "_law_box", "_law_take", "_law_pick", "_law_lot", "_law_web", "_law_near", "_law_row", "_law_shaken", "_law_is_one", "_law_end", "_law_turned", "_law_leads", "_law_told", "_law_bent", "_law_great", "_law_some", "_law_named"] w := by
  intro os
  kernel_rfl
end K06
section
open PySem PySem.W PySem.Calls PyProof.Rows
theorem K06.holds (k : Nat) (hr : L2.Room (k + 1) PySem.callerA) (law : ∀ ns : List Int, ns.length ≤ 63 → ∃ S', Pv.callN (Pv.tOf K06.L) (k + 1) 20 [.scr ns] [] = .ok (.d (.bl true), S')) : PySem.Challenge.rw_oneactmore_k06_exchanges_between_rows.Holds := by
  w_on; o_law
  refine HandSHeadRun.head_any (r := OpenLaw.row PySem.Challenge.rw_oneactmore_k06_exchanges_between_rows) (q := view (OpenLaw.row PySem.Challenge.rw_oneactmore_k06_exchanges_between_rows).prog [23]) (H := K06.hk) (ob := K06.ob) (M := 4000) (loose := ["are_strangers", "free_place", "exchange_row", "_law_box", "_law_take", "_law_pick", "_law_lot", "_law_web", "_law_near", "_law_row", "_law_shaken", "_law_is_one", "_law_end", "_law_turned", "_law_leads", "_law_told", "_law_bent", "_law_great", "_law_some", "_law_named"]) (d := HandSHeadRun.topDef (OpenLaw.row PySem.Challenge.rw_oneactmore_k06_exchanges_between_rows).prog 23) (kwd := []) K06.ob_eq
    (by kernel_rfl) (fun s => by kernel_rfl) K06.run (by kernel_rfl) (by kernel_rfl) (by kernel_rfl) (by rfl) (by first | assumption | decide +kernel) (by decide +kernel) ⟨rfl, rfl, rfl, rfl, rfl, by decide +kernel⟩ ?hw ?hc
  case hw => w_witness2
  case hc =>
    exact Pv.walk_law (l := PySem.Challenge.rw_oneactmore_k06_exchanges_between_rows) (n := 63) (k := k) (lvl := 4) (li := 20) (L := K06.L) (frees := K06.frees) (f := K06.f_law) rfl (by decide) (by kernel_rfl) hr rfl (by kernel_rfl) rfl "script" rfl (by decide) K06.ck K06.sh law
end
set_option linter.all false
set_option autoImplicit false
set_option maxRecDepth 100000
namespace K06
open Pv
theorem ok_take {n l : Nat} {S : Sto} {m : Int} (hb : Bx S l) (hm : 0 < m) (hm2 : m < 1000) : Ok (callN T (n + 1) 4 [.loc l, .int m] S) fun r => ∃ q : Int, r.1 = .d (.int q) ∧ 0 ≤ q ∧ q < m ∧ Fr l S r.2 := by
  obtain ⟨a, b, hl⟩ := hb
  have hlt : l < S.length := (List.getElem?_eq_some_iff.mp hl).1
  refine ok_fn (d := ⟨"_law_take", 2, 4, b__law_take⟩) rfl rfl ?_
  dsimp only [b__law_take]
  refine ok_ite ?_
  conv => arg 1; simp [hl]
  refine Ok.ok ?_
  try dsimp only [settle, List.set]
  refine ⟨fun h => ?_, fun h => ?_⟩
  · have ha : 0 < a := by simpa using h
    refine ok_asg ?_
    conv => arg 1; simp [hl, binI_mod hm]
    refine Ok.ok ?_
    try dsimp only [settle, List.set]
    refine ok_asgG ?_
    conv => arg 1; simp [hl, binI_fdiv (i := a) (j := m) ⟨hm, by omega⟩]
    refine Ok.ok ?_
    try dsimp only [settle, List.set]
    conv => arg 1; simp [setI_int, hl]
    refine Ok.ok ?_
    try dsimp only [settle, List.set]
    refine ok_ret ?_
    conv => arg 1; simp
    refine Ok.ok ?_
    try dsimp only [settle, List.set]
    refine ⟨_, rfl, ?_⟩
    simp
    exact ⟨Int.emod_nonneg _ (by omega), Int.emod_lt_of_pos _ hm, Fr.set hlt⟩
  · refine ok_nil ?_
    refine Then.nx ?_
    refine ok_asg ?_
    conv => arg 1; simp [hl, binI_mod, binI_mul]
    refine Ok.ok ?_
    try dsimp only [settle, List.set]
    refine ok_asgG ?_
    conv => arg 1; simp [hl, binI_mod, binI_mul]
    refine Ok.ok ?_
    try dsimp only [settle, List.set]
    conv => arg 1; simp [setI_int, hl]
    refine Ok.ok ?_
    try dsimp only [settle, List.set]
    refine ok_ret ?_
    conv => arg 1; simp [hlt, binI_mod, hm, binI_mul, binI_fdiv]
    refine Ok.ok ?_
    try dsimp only [settle, List.set]
    refine ⟨_, rfl, ?_⟩
    simp
    exact ⟨Int.emod_nonneg _ (by omega), Int.emod_lt_of_pos _ hm, Fr.set hlt⟩
theorem ok_pick {n l : Nat} {S : Sto} {y : D} {xs : List D} (hb : Bx S l) (hy : itemsD y S = some xs) (hyl : y ≠ .loc l) (h0 : xs ≠ []) (hlen : xs.length < 1000) (hp : ∀ x ∈ xs, x.pure = true) :
    Ok (callN T (n + 2) 5 [.loc l, y] S) fun r => ∃ x, x ∈ xs ∧ r.1 = .d x ∧ Fr l S r.2 := by
  refine ok_fn (d := ⟨"_law_pick", 2, 2, b__law_pick⟩) rfl rfl ?_
  dsimp only [b__law_pick]
  refine ok_ret ?_
  conv => arg 1; simp
  refine Ok.bind ?_
  refine ok_call ?_
  conv => arg 1; simp [hy]
  refine Ok.ok ?_
  try dsimp only [settle, List.set]
  refine Ok.eq rfl ?_
  conv => arg 1; simp [arr]
  have hlen0 : 0 < xs.length := List.length_pos_iff.mpr h0
  refine Ok.mono (ok_take hb (m := xs.length) (by omega) (by omega)) fun r ⟨q, e1, q0, q1, fr⟩ => ?_
  obtain ⟨r, S1⟩ := r
  cases e1
  have hy1 : itemsD y S1 = some xs := by
    cases y with
    | loc j =>
      have : j ≠ l := fun e => hyl (by rw [e])
      simpa [fr.rest j this] using hy
    | _ => exact hy
  obtain ⟨x, hx, hxa, _⟩ := atI_of q0 q1
  have ht : S1.take S.length = S1 := take_le (by rw [fr.len]; exact Nat.le_refl _)
  conv => arg 1; simp [ht, hy1, hxa]
  refine Ok.ok ⟨_, rfl, x, hx, ?_⟩
  rw [leave_pure (hp x hx)]
  simp [ht, fr]
theorem ok_pickF {n l : Nat} {S : Sto} {xs : List D} (hb : Bx S l) (h0 : xs ≠ []) (hlen : xs.length < 1000) (hp : ∀ x ∈ xs, x.pure = true) :
    Ok (callN T (n + 2) 5 [.loc l, .loc S.length] (S ++ [.lst xs])) fun r => ∃ x, x ∈ xs ∧ r.1 = .d x ∧ Fr l S (r.2.take S.length) := by
  have hlt := hb.lt
  refine Ok.mono (ok_pick (xs := xs) ((Gr.refl hb).push [.lst xs]).bx (by simp) (by simp; omega) h0 hlen hp) fun r ⟨x, hx, e, fr⟩ => ⟨x, hx, e, ?_⟩
  exact (((Gr.refl hb).push _).fr fr).leave hlt
theorem take_at {n b l i : Nat} {e : Env} {S : Sto} {ye : E} {m : Int} (he : e[i]? = some (some (.loc l))) (hy : (evE (callN T (n + 1)) ye).v S.length e S = .ok (.d (.int m), S)) (hb : Bx S l) (hm : 0 < m) (hm2 : m < 1000) :
    Ok ((evE (callN T (n + 1)) (.call 4 (.cons (.var i) (.cons ye .nil)) .nil [0, 1])).v b e S) fun r => ∃ (q : Int) (S1 : Sto), r = (.d (.int q), S1) ∧ 0 ≤ q ∧ q < m ∧ Fr l S S1 := by
  refine ok_call ?_
  conv => arg 1; simp [he, hy]
  refine Ok.ok ?_
  try dsimp only [settle, List.set]
  refine Ok.eq rfl ?_
  conv => arg 1; simp [arr]
  refine (ok_take hb hm hm2).mono fun r ⟨q, e1, q0, q1, fr⟩ => ?_
  rw [e1]
  refine ⟨q, r.2, ?_, q0, q1, fr⟩
  simp [take_le (show r.2.length ≤ S.length by rw [fr.len]; exact Nat.le_refl _)]
theorem pickF_at {n b l i : Nat} {e : Env} {S S0 : Sto} {ye : E} {xs : List D} (he : e[i]? = some (some (.loc l))) (hy : (evE (callN T (n + 2)) ye).v S.length e S = .ok (.fr xs, S0)) (hS : S0 = S) (hb : Bx S l) (h0 : xs ≠ []) (hlen : xs.length < 1000) (hp : ∀ x ∈ xs, x.pure = true) :
    Ok ((evE (callN T (n + 2)) (.call 5 (.cons (.var i) (.cons ye .nil)) .nil [0, 1])).v b e S) fun r => ∃ (x : D) (S1 : Sto), r = (.d x, S1) ∧ x ∈ xs ∧ Fr l S S1 := by
  subst hS
  refine ok_call ?_
  conv => arg 1; simp [he, hy]
  refine Ok.ok ?_
  try dsimp only [settle, List.set]
  refine Ok.eq rfl ?_
  conv => arg 1; simp [arr]
  refine (ok_pickF hb h0 hlen hp).mono fun r ⟨x, hx, e1, fr⟩ => ?_
  rw [e1, leave_pure (hp x hx)]
  exact ⟨x, _, rfl, hx, fr⟩
theorem pick_at {n b l i : Nat} {e : Env} {S : Sto} {ye : E} {y : D} {xs : List D} (he : e[i]? = some (some (.loc l))) (hy : (evE (callN T (n + 2)) ye).v S.length e S = .ok (.d y, S)) (hb : Bx S l) (hi : itemsD y S = some xs) (hyl : y ≠ .loc l) (h0 : xs ≠ []) (hlen : xs.length < 1000) (hp : ∀ x ∈ xs, x.pure = true) :
    Ok ((evE (callN T (n + 2)) (.call 5 (.cons (.var i) (.cons ye .nil)) .nil [0, 1])).v b e S) fun r => ∃ (x : D) (S1 : Sto), r = (.d x, S1) ∧ x ∈ xs ∧ Fr l S S1 := by
  refine ok_call ?_
  conv => arg 1; simp [he, hy]
  refine Ok.ok ?_
  try dsimp only [settle, List.set]
  refine Ok.eq rfl ?_
  conv => arg 1; simp [arr]
  refine (ok_pick hb hi hyl h0 hlen hp).mono fun r ⟨x, hx, e1, fr⟩ => ?_
  rw [e1, leave_pure (hp x hx)]
  exact ⟨x, _, rfl, hx, by rw [take_le (by rw [fr.len]; exact Nat.le_refl _)]; exact fr⟩
theorem pickG_at {n b l i : Nat} {e : Env} {S : Sto} {ye : E} {P : List D → Prop} (he : e[i]? = some (some (.loc l))) (hy : Ok ((evE (callN T (n + 2)) ye).v S.length e S) fun r => ∃ xs S0, r = (.fr xs, S0) ∧ P xs ∧ Fr l S S0) (hP : ∀ xs, P xs → xs ≠ [] ∧ xs.length < 1000 ∧ ∀ x ∈ xs, x.pure = true) :
    Ok ((evE (callN T (n + 2)) (.call 5 (.cons (.var i) (.cons ye .nil)) .nil [0, 1])).v b e S) fun r => ∃ (x : D) (xs : List D) (S1 : Sto), r = (.d x, S1) ∧ P xs ∧ x ∈ xs ∧ Fr l S S1 := by
  refine ok_call ?_
  conv => arg 1; simp [he]
  refine Ok.bind (hy.mono fun r ⟨xs, S0, er, hp, fr0⟩ => ?_)
  subst er
  obtain ⟨h0, hlen, hpu⟩ := hP xs hp
  conv => arg 1; simp
  refine Ok.ok ?_
  try dsimp only [settle, List.set]
  refine Ok.eq rfl ?_
  conv => arg 1; simp [arr]
  refine (ok_pickF (n := n) fr0.bx h0 hlen hpu).mono fun r ⟨x, hx, e1, fr⟩ => ?_
  rw [e1, leave_pure (hpu x hx), ← fr0.len]
  exact ⟨x, xs, _, rfl, hp, hx, fr0.trans fr⟩
theorem leave_box {a b : Int} {S : Sto} : leave S.length (.fr [.int a, .int b]) S = (.fr [.int a, .int b], S) := by
  show (if ubL S.length [.int a, .int b] = true then (Vl.fr [.int a, .int b], S.take S.length) else (Vl.fr [.int a, .int b], S)) = _
  rw [if_pos (show ubL S.length [.int a, .int b] = true from rfl), take_self]
theorem ok_box {n : Nat} {S : Sto} {ns : List Int} {k : Int} (hns : ns.length ≤ 63) (k0 : 0 ≤ k) : Ok (callN T (n + 1) 3 [.scr ns, .int k] S) fun r => ∃ a b : Int, r = (.fr [.int a, .int b], S) := by
  refine ok_fn (d := ⟨"_law_box", 2, 4, b__law_box⟩) rfl rfl ?_
  dsimp only [b__law_box]
  rw [show env0 4 [.scr ns, .int k] = [some (.scr ns), some (.int k), none, none] from rfl]
  refine ok_asg ?_
  conv => arg 1; simp [binI_mul]
  refine Ok.ok ?_
  try dsimp only [settle, List.set]
  have fin : ∀ (cell : Int), Ok (evSs (callN T n) (tailOf (tailOf b__law_box)) S.length [some (.scr ns), some (.int k), some (.int cell), none] S)
      fun r => ∃ v, flV r.1 = some v ∧ ∃ a b : Int, leave S.length v r.2.2 = (.fr [.int a, .int b], S) := fun cell => by
    have hp : binI .pow 10 18 = some 1000000000000000000 := by decide
    dsimp only [b__law_box, tailOf]
    refine ok_asg ?_
    conv => arg 1; simp [hp]
    by_cases h : 1000000000000000000 ≤ cell
    · conv => arg 1; simp [h]
      refine Ok.ok ?_
      try dsimp only [settle, List.set]
      refine ok_ret ?_
      conv => arg 1; simp [binI_mod, binI_mul]
      refine Ok.ok ?_
      try dsimp only [settle, List.set]
      exact ⟨_, rfl, _, _, leave_box⟩
    · conv => arg 1; simp [h]
      refine Ok.ok ?_
      try dsimp only [settle, List.set]
      refine ok_ret ?_
      conv => arg 1; simp [binI_mod, binI_mul]
      refine Ok.ok ?_
      try dsimp only [settle, List.set]
      exact ⟨_, rfl, _, _, leave_box⟩
  refine ok_ite ?_
  conv => arg 1; simp [itemsD]
  refine Ok.ok ?_
  try dsimp only [settle, List.set]
  refine ⟨fun h => ?_, fun h => ?_⟩
  · have hk : k < ns.length := by simpa using h
    obtain ⟨x, hx, ea, _⟩ := atI_of (xs := ns.map .int) k0 (by simpa using hk)
    obtain ⟨z, _, rfl⟩ := List.mem_map.mp hx
    refine ok_asg ?_
    conv => arg 1; simp [itemsD, ea]
    refine Ok.ok ?_
    try dsimp only [settle, List.set]
    exact ok_nil (Then.nx (fin _))
  · refine ok_ite ?_
    conv => arg 1; simp [itemsD]
    refine Ok.ok ?_
    try dsimp only [settle, List.set]
    refine ⟨fun h2 => ?_, fun h2 => ?_⟩
    · have hp : (0 : Int) < ns.length := by simpa using h2
      obtain ⟨x, hx, ea, _⟩ := atI_of (xs := ns.map .int) (i := k % ns.length) (Int.emod_nonneg _ (by omega)) (by have := Int.emod_lt_of_pos k hp; simpa using this)
      obtain ⟨z, _, rfl⟩ := List.mem_map.mp hx
      refine ok_asg ?_
      conv => arg 1; simp [itemsD, ea, binI_mod hp, binI_mod, binI_mul]
      refine Ok.ok ?_
      try dsimp only [settle, List.set]
      exact ok_nil (Then.nx (ok_nil (Then.nx (fin _))))
    · exact ok_nil (Then.nx (ok_nil (Then.nx (fin _))))
theorem box_at {n b i : Nat} {e : Env} {S : Sto} {ns : List Int} {ye : E} {k : Int} (hns : ns.length ≤ 63) (k0 : 0 ≤ k) (he : e[i]? = some (some (.scr ns))) (hy : (evE (callN T (n + 1)) ye).v S.length e S = .ok (.d (.int k), S)) :
    Ok ((evE (callN T (n + 1)) (.call 3 (.cons (.var i) (.cons ye .nil)) .nil [0, 1])).v b e S) fun r => ∃ a b : Int, r = (.fr [.int a, .int b], S) := by
  refine ok_call ?_
  conv => arg 1; simp [he, hy]
  refine Ok.ok ?_
  try dsimp only [settle, List.set]
  refine Ok.eq rfl ?_
  conv => arg 1; simp [arr]
  refine (ok_box hns k0).mono fun r ⟨a, b, er⟩ => ?_
  rw [er]
  exact ⟨a, b, leave_box⟩

abbrev lotD (l : List Int) : D := .tup (l.map .int)
abbrev webD (h : Int) (L : List (List Int)) : D := .tup [.int h, .tup (L.map lotD)]
def lot (L : List (List Int)) (i : Int) : List Int := L.getD i.toNat []
def share (a b : List Int) : Bool := a.any fun x => b.any fun y => y == x
theorem lot_at {L : List (List Int)} {i : Int} (i0 : 0 ≤ i) (i1 : i < L.length) : atI (L.map lotD) i = some (lotD (lot L i)) := by
  obtain ⟨j, rfl⟩ := Int.eq_ofNat_of_zero_le i0
  have hj : j < L.length := by omega
  refine atI_nat ?_
  rw [List.getElem?_map, List.getElem?_eq_getElem hj]
  unfold lot
  simp [hj]
theorem pv_lots {rc : Rc} {e : Env} {S : Sto} {i : Nat} {h : Int} {L : List (List Int)} (he : e[i]? = some (some (webD h L))) : PV rc e S (.idx (.var i) (.cn (.int 1))) (.d (.tup (L.map lotD))) := pv_idx (pv_var he) (pv_cn _) rfl (atI_1 _ _ _)

def inn (x : Int) (l : List Int) : Bool := l.any fun y => y == x
theorem inn_mem {x : Int} {l : List Int} : inn x l = true ↔ x ∈ l := by
  unfold inn
  rw [List.any_eq_true]
  constructor
  · rintro ⟨y, hy, h⟩
    have h : y = x := by simpa using h
    subst h
    exact hy
  · intro h
    exact ⟨x, h, by simp⟩

def pw (o : Int) : Int := if o = 0 then 1 else if o = 1 then 2 else if o = 2 then 4 else 8
theorem pw_b (o : Int) : 0 < pw o ∧ pw o < 1073741824 := by
  unfold pw
  split
  · decide
  · split
    · decide
    · split <;> decide
theorem pw_at {o : Int} (o0 : 0 ≤ o) (o1 : o < 4) : atI [.int 1, .int 2, .int 4, .int 8] o = some (.int (pw o)) := by
  have : o = 0 ∨ o = 1 ∨ o = 2 ∨ o = 3 := by omega
  rcases this with rfl | rfl | rfl | rfl <;> rfl
/-- an ascending lot of hands, each once -/
def Can (h : Int) (ns : List Int) : Prop := (rngI h.toNat).filter (fun x => inn x ns) = ns
def LotOk (h : Int) (ns : List Int) : Prop := ns ≠ [] ∧ Can h ns
theorem can_filter (h : Int) (p : Int → Bool) : Can h ((rngI h.toNat).filter p) := by
  unfold Can
  apply List.filter_congr
  intro x hx
  rw [Bool.eq_iff_iff, inn_mem, List.mem_filter]
  exact ⟨fun h => h.2, fun h => ⟨hx, h⟩⟩
theorem Can.lt {h x : Int} {ns : List Int} (c : Can h ns) (hx : x ∈ ns) : 0 ≤ x ∧ x < h := by
  rw [← c] at hx
  have := rngI_mem.mp (List.mem_filter.mp hx).1
  omega
theorem rngI_succ (n : Nat) : rngI (n + 1) = rngI n ++ [(n : Int)] := by
  unfold rngI
  rw [List.range_succ, List.map_append]
  rfl
theorem can_one {h q : Int} (q0 : 0 ≤ q) (q1 : q < h) : Can h [q] := by
  have : ∀ n : Nat, (rngI n).filter (fun x => inn x [q]) = if q < n then [q] else [] := by
    intro n
    induction n with
    | zero => rw [if_neg (by omega)]; rfl
    | succ n ih =>
      rw [rngI_succ, List.filter_append, ih]
      by_cases h1 : q < n
      · rw [if_pos h1, if_pos (by omega)]
        have : inn (n : Int) [q] = false := by
          rw [Bool.eq_false_iff]
          intro h
          have := List.mem_singleton.mp (inn_mem.mp h)
          omega
        simp [this]
      · by_cases h2 : q = n
        · have : inn (n : Int) [q] = true := inn_mem.mpr (by simp [h2])
          subst h2
          rw [if_neg h1, if_pos (by omega)]
          simp [this]
        · have : inn (n : Int) [q] = false := by
            rw [Bool.eq_false_iff]
            intro h
            exact h2 (List.mem_singleton.mp (inn_mem.mp h)).symm
          rw [if_neg h1, if_neg (by omega)]
          simp [this]
  unfold Can
  rw [this, if_pos (by omega)]
theorem can_all (h : Int) : Can h (rngI h.toNat) := by
  unfold Can
  exact List.filter_eq_self.mpr fun x hx => inn_mem.mpr hx
def drawn (q h : Int) : List Int := (rngI h.toNat).filter fun o => ((1 + q) / pw o) % 2 == 1
theorem lot_rng {h : Int} (h0 : 0 ≤ h) : lotD (rngI h.toNat) = .tup (rngD 0 h) := by
  obtain ⟨m, rfl⟩ := Int.eq_ofNat_of_zero_le h0
  rw [rngD_int]
  rfl
theorem ok_lot {n l : Nat} {S : Sto} {h : Int} (hb : Bx S l) (h0 : 0 < h) (h4 : h ≤ 4) : Ok (callN T (n + 2) 6 [.loc l, .int h] S) fun r => ∃ ns : List Int, r.1 = .d (lotD ns) ∧ LotOk h ns ∧ Fr l S r.2 := by
  have hlt := hb.lt
  refine ok_fn (d := ⟨"_law_lot", 2, 5, b__law_lot⟩) rfl rfl ?_
  dsimp only [b__law_lot]
  rw [show env0 5 [.loc l, .int h] = [some (.loc l), some (.int h), none, none, none] from rfl]
  refine ok_asg ?_
  conv => arg 1; simp
  refine Ok.bind ?_
  refine Ok.mono (take_at (n := n) (m := 15) rfl rfl hb (by omega) (by omega)) fun r ⟨q, S1, er, q0, q1, fr⟩ => ?_
  subst er
  conv => arg 1; simp
  refine Ok.ok ?_
  try dsimp only [settle, List.set]
  have hlen : S1.length = S.length := fr.len
  refine st_asgF (xs := (drawn q h).map .int) ?_ ?_
  · refine pv_compI (c := []) (ns := rngI h.toNat) (fun o => ((1 + q) / pw o) % 2 == 1) .int ?_ (chk_nil _) ?_
    · rw [← rngD_int]
      rw [show ((h.toNat : Nat) : Int) = h by omega]
      exact pi_rng0 (pv_var rfl) (by omega) (by omega)
    · intro o ho
      obtain ⟨o0, o1⟩ := rngI_mem.mp ho
      have hat := pw_at (o := o) o0 (by omega)
      have hf : binI .fdiv (1 + q) (pw o) = some ((1 + q) / pw o) := if_pos (pw_b o)
      refine ⟨pts_one (pt_of (pv_cmp (pv_bini (pv_f1 (pv_bini (pv_var rfl) (pv_idx (pv_tup (pes_cons (pv_cn _) (pes_cons (pv_cn _) (pes_cons (pv_cn _) (pes_cons (pv_cn _) pes_nil)))) (by simp)) (pv_var rfl) rfl hat) hf) rfl) (pv_cn _) rfl) (pv_cn _) rfl) rfl rfl), fun _ => pv_var rfl⟩
  have g1 := ((Gr.refl hb).fr fr).push [.lst ((drawn q h).map .int)]
  have hat : (S1 ++ [.lst ((drawn q h).map .int)])[S1.length]? = some (.lst ((drawn q h).map .int)) := push_at
  generalize hS2 : S1 ++ [O.lst ((drawn q h).map .int)] = S2 at *
  have hit : items (.d (.loc S1.length)) S2 = some ((drawn q h).map .int) := by
    show (match S2[S1.length]? with
      | some (.lst xs) => some xs
      | _ => none) = _
    rw [hat]
  refine ok_ret ?_
  refine ev_ite (et_pt (k := decide ((0 : Int) < ((drawn q h).map D.int).length)) (pt_of (pv_cmp (pv_f1 (v := .d (.loc S1.length)) (w := .d (.int ((drawn q h).map D.int).length)) (pv_var rfl) (by rw [app_len, hit]; rfl)) (pv_cn _) rfl) rfl rfl) ⟨fun hd => ?_, fun hd => ?_⟩)
  · have hd : drawn q h ≠ [] := by
      intro e
      rw [e] at hd
      simp at hd
    refine ev_pv (v := .d (lotD (drawn q h))) (pv_f1 (v := .d (.loc S1.length)) (pv_var rfl) (by rw [app_tuple, hit]; rfl)) ?_
    refine ⟨_, rfl, drawn q h, ?_, ⟨hd, can_filter _ _⟩, ?_⟩
    · show (leave S.length (.d (lotD (drawn q h))) S2).1 = _
      rw [leave_pure (pure_ints _)]
    · show Fr l S (leave S.length (.d (lotD (drawn q h))) S2).2
      rw [leave_pure (pure_ints _)]
      exact g1.leave hlt
  · refine ev_tup (es_cons (Ok.mono (take_at (n := n) (m := h) rfl rfl g1.bx (by omega) (by omega)) fun r ⟨q2, S3, er, p0, p1, fr2⟩ => ?_))
    subst er
    refine es_nil ⟨by simp, _, rfl, [q2], ?_, ⟨by simp, can_one p0 p1⟩, ?_⟩
    · show (leave S.length (.d (lotD [q2])) S3).1 = _
      rw [leave_pure (pure_ints [q2])]
    · show Fr l S (leave S.length (.d (lotD [q2])) S3).2
      rw [leave_pure (pure_ints [q2])]
      exact (g1.fr fr2).leave hlt
theorem lotc_at {n b l i : Nat} {e : Env} {S : Sto} {X : E} {h : Int} (hi : e[i]? = some (some (.loc l))) (hj : PV (callN T (n + 2)) e S X (.d (.int h))) (hb : Bx S l) (h0 : 0 < h) (h4 : h ≤ 4) : Ok ((evE (callN T (n + 2)) (.call 6 (.cons (.var i) (.cons X .nil)) .nil [0, 1])).v b e S) fun r => ∃ ns S1, r = (.d (lotD ns), S1) ∧ LotOk h ns ∧ Fr l S S1 := by
  refine ok_call (es_pv (pv_var hi) (es_pv hj (es_nil (Ok.ok ?_))))
  refine Ok.mono (ok_lot (n := n) hb h0 h4) fun r ⟨ns, e1, h1, fr⟩ => ⟨ns, r.2, ?_, h1, fr⟩
  rw [e1, leave_pure (pure_ints _), take_le (by rw [fr.len]; exact Nat.le_refl _)]
theorem ok_web1 {n b l p : Nat} {S : Sto} {h m way k : Int} {o5 o6 : Option D} {L : List (List Int)} (hb : Bx S l) (h0 : 0 < h) (h4 : h ≤ 4) (hp : S[p]? = some (.lst (L.map lotD))) (hpl : p ≠ l) (hL : L.length < 1000) : Ok (evTg (callN T (n + 2)) (.var 5) b (.int k) [some (.loc l), some (.int h), some (.int m), some (.int way), some (.loc p), o5, o6] S >>= fun q => evSs (callN T (n + 2)) b__law_web_1 b q.1 q.2) fun r => ∃ o5 o6 ns S1, r = (.nx, [some (.loc l), some (.int h), some (.int m), some (.int way), some (.loc p), o5, o6], S1.set p (.lst ((L ++ [ns]).map lotD))) ∧ LotOk h ns ∧ Fr l S S1 := by
  refine Ok.bind (Ok.ok ?_)
  dsimp only [b__law_web_1]
  refine ok_asg (Ok.mono (lotc_at (n := n) rfl (pv_var rfl) hb h0 h4) fun r ⟨ns, S1, er, hn, fr1⟩ => ?_)
  subst er
  dsimp only [settle, List.set]
  have fin : ∀ (ns : List Int) (S2 : Sto), LotOk h ns → Fr l S S2 → Ok (evSs (callN T (n + 2)) (.cons (.expr (.m1 .append (.var 4) (.var 6))) .nil) b [some (.loc l), some (.int h), some (.int m), some (.int way), some (.loc p), some (.int k), some (lotD ns)] S2) fun r => ∃ o5 o6 ns S1, r = (.nx, [some (.loc l), some (.int h), some (.int m), some (.int way), some (.loc p), o5, o6], S1.set p (.lst ((L ++ [ns]).map lotD))) ∧ LotOk h ns ∧ Fr l S S1 := by
    intro ns S2 hn fr
    refine st_app (xs := L.map lotD) (pv_var rfl) (fr.at hp hpl) (by simp; omega) (pv_var rfl) (.inl (pure_ints ns)) ?_
    refine ok_nil ⟨some (.int k), some (lotD ns), ns, S2, ?_, hn, fr⟩
    rw [List.map_append]
    rfl
  have two : ∀ (ns : List Int) (S2 : Sto), LotOk h ns → Fr l S S2 → Ok (evSs (callN T (n + 2)) (tailOf (tailOf b__law_web_1)) b [some (.loc l), some (.int h), some (.int m), some (.int way), some (.loc p), some (.int k), some (lotD ns)] S2) fun r => ∃ o5 o6 ns S1, r = (.nx, [some (.loc l), some (.int h), some (.int m), some (.int way), some (.loc p), o5, o6], S1.set p (.lst ((L ++ [ns]).map lotD))) ∧ LotOk h ns ∧ Fr l S S1 := by
    intro ns S2 hn fr
    dsimp only [b__law_web_1, tailOf]
    refine ok_ite ?_
    refine et_and (et_pt (k := way == 3) (pt_of (pv_cmp (pv_var rfl) (pv_cn _) rfl) rfl rfl) ⟨fun hw => ⟨fun h => (by cases h), fun _ => ok_nil (Then.nx (fin ns S2 hn fr))⟩, fun _ => ?_⟩)
    refine et_of rfl (ev_cmp (Ok.mono (take_at (n := n + 1) (m := 3) rfl rfl fr.bx (by omega) (by omega)) fun r ⟨q, S3, er, q0, q1, fr3⟩ => ?_))
    subst er
    refine ev_pv (pv_cn _) ⟨_, rfl, _, rfl, fun _ => ?_, fun _ => ok_nil (Then.nx (fin ns S3 hn (fr.trans fr3)))⟩
    refine st_asg (v := lotD (rngI h.toNat)) ?_ (ok_nil (Then.nx (fin (rngI h.toNat) S3 ⟨?_, can_all h⟩ (fr.trans fr3))))
    · rw [lot_rng (by omega)]
      exact pv_f1 (pv_list (pv_var rfl) (by omega) (by omega)) rfl
    · intro e
      have := congrArg List.length e
      simp [rngI] at this
      omega
  refine ok_ite ?_
  have hd : ∀ (S3 : Sto), Fr l S S3 → Ok (evSs (callN T (n + 2)) (.cons (.asg (.var 6) (.tup (.cons (.idx (.var 6) (.cn (.int 0))) .nil))) .nil) b [some (.loc l), some (.int h), some (.int m), some (.int way), some (.loc p), some (.int k), some (lotD ns)] S3) (Then (callN T (n + 2)) (tailOf (tailOf b__law_web_1)) b fun r => ∃ o5 o6 ns S1, r = (.nx, [some (.loc l), some (.int h), some (.int m), some (.int way), some (.loc p), o5, o6], S1.set p (.lst ((L ++ [ns]).map lotD))) ∧ LotOk h ns ∧ Fr l S S1) := by
    intro S3 fr
    obtain ⟨x, xs, rfl⟩ := List.exists_cons_of_ne_nil hn.1
    refine st_asg (v := lotD [x]) (pv_tup (pes_cons (pv_idx (pv_var rfl) (pv_cn _) rfl (atI_0 _ _)) pes_nil) (by simp)) (ok_nil (Then.nx (two [x] S3 ⟨by simp, can_one (hn.2.lt (by simp)).1 (hn.2.lt (by simp)).2⟩ fr)))
  refine et_or (et_pt (k := way == 1) (pt_of (pv_cmp (pv_var rfl) (pv_cn _) rfl) rfl rfl) ⟨fun _ => ⟨fun _ => hd _ fr1, fun h => by cases h⟩, fun _ => ?_⟩)
  refine et_and (et_pt (k := way == 2) (pt_of (pv_cmp (pv_var rfl) (pv_cn _) rfl) rfl rfl) ⟨fun _ => ⟨fun h => (by cases h), fun _ => ok_nil (Then.nx (two ns _ hn fr1))⟩, fun _ => ?_⟩)
  refine et_of rfl (ev_cmp (Ok.mono (take_at (n := n + 1) (m := 3) rfl rfl fr1.bx (by omega) (by omega)) fun r ⟨q, S3, er, q0, q1, fr3⟩ => ?_))
  subst er
  exact ev_pv (pv_cn _) ⟨_, rfl, _, rfl, fun _ => hd S3 (fr1.trans fr3), fun _ => ok_nil (Then.nx (two ns S3 hn (fr1.trans fr3)))⟩
/-- a web: so many hands, its letters' lots -/
structure Web (h : Int) (L : List (List Int)) : Prop where
  h0 : 0 < h
  h4 : h ≤ 4
  l0 : 0 < L.length
  l8 : L.length ≤ 8
  ok : ∀ x ∈ L, LotOk h x
theorem pure_web (h : Int) (L : List (List Int)) : (webD h L).pure = true := pureL_of (by
  intro x hx
  simp at hx
  rcases hx with rfl | rfl
  · rfl
  · exact pureL_of (by
      intro y hy
      obtain ⟨z, _, rfl⟩ := List.mem_map.mp hy
      exact pure_ints z))
theorem take1_at {n b l i : Nat} {e : Env} {S : Sto} {ye : E} {m : Int} {Q : Vl × Sto → Prop} (he : e[i]? = some (some (.loc l))) (hy : (evE (callN T (n + 1)) ye).v S.length e S = .ok (.d (.int m), S)) (hb : Bx S l) (hm : 0 < m) (hm2 : m < 1000) (h : ∀ (q : Int) (S1 : Sto), 0 ≤ q → q < m → Fr l S S1 → Q (.d (.int (1 + q)), S1)) :
    Ok ((evE (callN T (n + 1)) (.bin .add (.cn (.int 1)) (.call 4 (.cons (.var i) (.cons ye .nil)) .nil [0, 1]))).v b e S) Q := by
  refine ev_bin (ev_pv (pv_cn _) (Ok.mono (take_at he hy hb hm hm2) fun r ⟨q, S1, er, q0, q1, fr⟩ => ?_))
  subst er
  exact ⟨_, rfl, h q S1 q0 q1 fr⟩
theorem ok_web {n l : Nat} {S : Sto} (hb : Bx S l) : Ok (callN T (n + 3) 7 [.loc l] S) fun r => ∃ h L, r.1 = .d (webD h L) ∧ Web h L ∧ Fr l S r.2 := by
  have hlt := hb.lt
  refine ok_fn (d := ⟨"_law_web", 1, 7, b__law_web⟩) rfl rfl ?_
  dsimp only [b__law_web]
  rw [show env0 7 [.loc l] = [some (.loc l), none, none, none, none, none, none] from rfl]
  refine ok_swap ?_
  refine es_cons (take1_at (n := n + 1) (m := 4) rfl rfl hb (by omega) (by omega) fun q1 S1 q10 q11 fr1 => ?_)
  refine es_cons (take1_at (n := n + 1) (m := 8) rfl rfl fr1.bx (by omega) (by omega) fun q2 S2 q20 q21 fr2 => ?_)
  refine es_nil ⟨rfl, ?_⟩
  dsimp only [setAll, settle, List.set]
  have frA := fr1.trans fr2
  refine ok_asg (Ok.mono (take_at (n := n + 1) (m := 4) rfl rfl frA.bx (by omega) (by omega)) fun r ⟨way, S3, er, w0, w1, fr3⟩ => ?_)
  subst er
  dsimp only [settle, List.set]
  have frB := frA.trans fr3
  refine st_asgF (xs := []) (pv_lst pes_nil (by simp)) ?_
  dsimp only [List.set]
  have hpl : S3.length ≠ l := fun e => by have := frB.len; omega
  have hSp : S.length = S3.length := frB.len.symm
  refine st_for (pi_rng0 (k := 1 + q2) (pv_var rfl) (by omega) (by omega)) ?_
  refine ok_rng (fun k e S' => ∃ o5 o6 L, e = [some (.loc l), some (.int (1 + q1)), some (.int (1 + q2)), some (.int way), some (.loc S3.length), o5, o6] ∧ S'[S3.length]? = some (.lst (L.map lotD)) ∧ (L.length : Int) = k ∧ (∀ x ∈ L, LotOk (1 + q1) x) ∧ Gr l S S') (by omega) ?_ ?_ ⟨_, _, [], rfl, push_at, rfl, by simp, ((Gr.refl hb).fr frB).push _⟩
  · rintro k e S' k0 k1 ⟨o5, o6, L, rfl, hp, hk, hL, g⟩
    refine Ok.mono (ok_web1 (n := n) g.bx (by omega) (by omega) hp hpl (by omega)) fun r ⟨o5, o6, ns, S4, er, hn, fr⟩ => ?_
    subst er
    have hlt4 : S3.length < S4.length := by rw [fr.len]; exact at_lt hp
    refine ⟨o5, o6, L ++ [ns], rfl, List.getElem?_set_self hlt4, by simp; omega, ?_, (g.fr fr).set _ (by omega) hpl⟩
    intro x hx
    rcases List.mem_append.mp hx with hx | hx
    · exact hL x hx
    · rw [List.mem_singleton.mp hx]; exact hn
  · rintro e S' ⟨o5, o6, L, rfl, hp, hk, hL, g⟩
    refine Then.nx ?_
    have hit : items (.d (.loc S3.length)) S' = some (L.map lotD) := by
      show (match S'[S3.length]? with
        | some (.lst xs) => some xs
        | _ => none) = _
      rw [hp]
    refine st_ret (pv_tup (pes_cons (pv_var rfl) (pes_cons (pv_f1 (v := .d (.loc S3.length)) (w := .d (.tup (L.map lotD))) (pv_var rfl) (by rw [app_tuple, hit]; rfl)) pes_nil)) (by simp)) ?_
    refine ⟨_, rfl, 1 + q1, L, ?_, ⟨by omega, by omega, by omega, by omega, hL⟩, ?_⟩
    · show (leave S.length (.d (webD (1 + q1) L)) S').1 = _
      rw [leave_pure (pure_web _ _)]
    · show Fr l S (leave S.length (.d (webD (1 + q1) L)) S').2
      rw [leave_pure (pure_web _ _)]
      exact g.leave hlt
theorem web_at {n b l i : Nat} {e : Env} {S : Sto} (hi : e[i]? = some (some (.loc l))) (hb : Bx S l) : Ok ((evE (callN T (n + 3)) (.call 7 (.cons (.var i) .nil) .nil [0])).v b e S) fun r => ∃ h L S1, r = (.d (webD h L), S1) ∧ Web h L ∧ Fr l S S1 := by
  refine ok_call (es_pv (pv_var hi) (es_nil (Ok.ok ?_)))
  refine Ok.mono (ok_web (n := n) hb) fun r ⟨h, L, e1, w, fr⟩ => ⟨h, L, r.2, ?_, w, fr⟩
  rw [e1, leave_pure (pure_web _ _), take_le (by rw [fr.len]; exact Nat.le_refl _)]

def ati (l : List Int) (i : Int) : Int := l.getD i.toNat 0
theorem atI_ints {ns : List Int} {i : Int} (i0 : 0 ≤ i) (i1 : i < ns.length) : atI (ns.map .int) i = some (.int (ati ns i)) := atI_map 0 i0 i1
theorem filter_yes {α : Type} (l : List α) : (l.filter fun _ => true) = l := List.filter_eq_self.mpr fun _ _ => rfl
theorem take_succ' {α : Type} {l : List α} {k : Nat} {x : α} (h : l[k]? = some x) : l.take (k + 1) = l.take k ++ [x] := by
  rw [List.take_add_one, h]
  rfl
theorem lot_getD {L : List (List Int)} {o : Int} (o0 : 0 ≤ o) (o1 : o < (L.map lotD).length) : (L.map lotD).getD o.toNat .non = lotD (lot L o) := by
  have hk : o.toNat < L.length := by simp at o1; omega
  unfold lot
  simp [List.getD, hk]
theorem pure_lots (L : List (List Int)) : (D.tup (L.map lotD)).pure = true := pureL_of (by
  intro y hy
  obtain ⟨z, _, rfl⟩ := List.mem_map.mp hy
  exact pure_ints z)
theorem pv_hands {rc : Rc} {e : Env} {S : Sto} {i : Nat} {h : Int} {L : List (List Int)} (he : e[i]? = some (some (webD h L))) : PV rc e S (.idx (.var i) (.cn (.int 0))) (.d (.int h)) := pv_idx (pv_var he) (pv_cn _) rfl (atI_0 _ _)
theorem share_iff {a b : List Int} : share a b = true ↔ ∃ x, x ∈ a ∧ x ∈ b := by
  unfold share
  rw [List.any_eq_true]
  constructor
  · rintro ⟨x, hx, h⟩
    exact ⟨x, hx, inn_mem.mp h⟩
  · rintro ⟨x, hx, h⟩
    exact ⟨x, hx, inn_mem.mpr h⟩
theorem lot_mem {L : List (List Int)} {i : Int} (i0 : 0 ≤ i) (i1 : i < L.length) : lot L i ∈ L := by
  obtain ⟨j, rfl⟩ := Int.eq_ofNat_of_zero_le i0
  have hj : j < L.length := by omega
  unfold lot
  simp [hj]

theorem nth_mem {α : Type} {l : List α} {k : Nat} {x : α} (h : l[k]? = some x) : x ∈ l := List.mem_of_getElem? h
theorem nth_of {α : Type} {l : List α} {k : Nat} (h : k < l.length) : l[k]? = some l[k] := List.getElem?_eq_getElem h
/-! ### lists of lists in the store -/
structure Nst {α : Type} (en : α → D) (b : Nat) (ex : List Nat) (S : Sto) (sp : Nat) (locs : List Nat) (F : List (List α)) : Prop where
  at_ : S[sp]? = some (O.lst (locs.map D.loc))
  it : ∀ (k l : Nat), locs[k]? = some l → ∃ f : List α, F[k]? = some f ∧ S[l]? = some (O.lst (f.map en))
  len : locs.length = F.length
  nd : locs.Nodup
  ns : sp ∉ locs
  ge : b ≤ sp ∧ ∀ l ∈ locs, b ≤ l
  exs : sp ∉ ex ∧ ∀ l ∈ locs, l ∉ ex
/-- what is kept: what lies below b, and some others -/
structure Kp (b : Nat) (ex : List Nat) (S S' : Sto) : Prop where
  len : S.length ≤ S'.length
  at_ : ∀ q, q < S.length → (q < b ∨ q ∈ ex) → S'[q]? = S[q]?
theorem Kp.refl {b : Nat} {ex : List Nat} {S : Sto} : Kp b ex S S := ⟨Nat.le_refl _, fun _ _ _ => rfl⟩
theorem Kp.trans {b : Nat} {ex : List Nat} {S S1 S2 : Sto} (h : Kp b ex S S1) (h2 : Kp b ex S1 S2) : Kp b ex S S2 := ⟨Nat.le_trans h.len h2.len, fun q h1 h3 => (h2.at_ q (Nat.lt_of_lt_of_le h1 h.len) h3).trans (h.at_ q h1 h3)⟩
theorem Kp.push {b : Nat} {ex : List Nat} {S : Sto} (T : Sto) : Kp b ex S (S ++ T) := ⟨by simp, fun q h _ => List.getElem?_append_left h⟩
theorem Kp.set {b : Nat} {ex : List Nat} {S : Sto} {q : Nat} {o : O} (h : b ≤ q) (h2 : q ∉ ex) : Kp b ex S (S.set q o) := ⟨by simp, fun r _ hr => by
  rw [List.getElem?_set_ne]
  rintro rfl
  rcases hr with hr | hr
  · omega
  · exact h2 hr⟩
theorem Kp.take {b : Nat} {ex : List Nat} {S S' S0 : Sto} (h : Kp b ex S S') (hb : b = S0.length) (h0 : S.take b = S0) : S'.take b = S0 := by
  have hl : b ≤ S.length := by
    have := congrArg List.length h0
    rw [List.length_take] at this
    omega
  rw [← h0]
  apply List.ext_getElem?
  intro q
  rw [List.getElem?_take, List.getElem?_take]
  split
  · exact h.at_ q (by omega) (.inl ‹_›)
  · rfl
theorem Nst.set_ex {b : Nat} {ex : List Nat} {S : Sto} {sp : Nat} {locs : List Nat} {α : Type} {en : α → D} {F : List (List α)} (h : Nst en b ex S sp locs F) {q : Nat} {o : O} (hq : q ∈ ex) : Nst en b ex (S.set q o) sp locs F := ⟨set_ne h.at_ (by rintro rfl; exact h.exs.1 hq), fun k l hl => by
  obtain ⟨f, h1, h2⟩ := h.it k l hl
  exact ⟨f, h1, set_ne h2 (by rintro rfl; exact h.exs.2 q (nth_mem hl) hq)⟩, h.len, h.nd, h.ns, h.ge, h.exs⟩
theorem Nst.push {b : Nat} {ex : List Nat} {S : Sto} {sp : Nat} {locs : List Nat} {α : Type} {en : α → D} {F : List (List α)} (h : Nst en b ex S sp locs F) (T : Sto) : Nst en b ex (S ++ T) sp locs F := ⟨push_lt h.at_, fun k l hl => by
  obtain ⟨f, h1, h2⟩ := h.it k l hl
  exact ⟨f, h1, push_lt h2⟩, h.len, h.nd, h.ns, h.ge, h.exs⟩
theorem Nst.fr {b : Nat} {ex : List Nat} {S S' : Sto} {sp l : Nat} {locs : List Nat} {α : Type} {en : α → D} {F : List (List α)} (h : Nst en b ex S sp locs F) (fr : Fr l S S') (hl : l ∈ ex) : Nst en b ex S' sp locs F := ⟨fr.at h.at_ (by rintro rfl; exact h.exs.1 hl), fun k q hq => by
  obtain ⟨f, h1, h2⟩ := h.it k q hq
  exact ⟨f, h1, fr.at h2 (by rintro rfl; exact h.exs.2 q (nth_mem hq) hl)⟩, h.len, h.nd, h.ns, h.ge, h.exs⟩
theorem Nst.new {b : Nat} {ex : List Nat} {S : Sto} {sp : Nat} {locs : List Nat} {α : Type} {en : α → D} {F : List (List α)} (h : Nst en b ex S sp locs F) (hx : ∀ q ∈ ex, q < S.length) (hb : b ≤ S.length) (f : List α) : Nst en b ex ((S ++ [O.lst (f.map en)]).set sp (.lst (locs.map .loc ++ [.loc S.length]))) sp (locs ++ [S.length]) (F ++ [f]) := by
  have hs := at_lt h.at_
  have hl : ∀ l ∈ locs, l < S.length := fun l hl => by
    obtain ⟨k, hk⟩ := List.getElem?_of_mem hl
    obtain ⟨f, _, h2⟩ := h.it k l hk
    exact at_lt h2
  refine ⟨?_, ?_, by simp [h.len], ?_, ?_, ⟨h.ge.1, ?_⟩, ⟨h.exs.1, ?_⟩⟩
  · rw [set_at (push_lt h.at_), List.map_append]
    rfl
  · intro k l hk
    rw [List.getElem?_append] at hk
    split at hk
    · obtain ⟨f, h1, h2⟩ := h.it k l hk
      refine ⟨f, ?_, set_ne (push_lt h2) (by rintro rfl; exact h.ns (nth_mem hk))⟩
      rw [List.getElem?_append_left (by rw [← h.len]; assumption)]
      exact h1
    · have hk2 : k = locs.length := by
        have := (List.getElem?_eq_some_iff.mp hk).1
        simp at this
        omega
      subst hk2
      simp at hk
      subst hk
      refine ⟨f, by rw [h.len]; simp, set_ne push_at (by omega)⟩
  · rw [List.nodup_append]
    refine ⟨h.nd, by simp, ?_⟩
    intro a ha c hc
    rw [List.mem_singleton.mp hc]
    have := hl a ha
    omega
  · intro hm
    rcases List.mem_append.mp hm with hm | hm
    · exact h.ns hm
    · rw [List.mem_singleton.mp hm] at hs
      omega
  · intro l hm
    rcases List.mem_append.mp hm with hm | hm
    · exact h.ge.2 l hm
    · rw [List.mem_singleton.mp hm]; exact hb
  · intro l hm he
    rcases List.mem_append.mp hm with hm | hm
    · exact h.exs.2 l hm he
    · rw [List.mem_singleton.mp hm] at he
      have := hx _ he
      omega
theorem Nst.add {b : Nat} {ex : List Nat} {S : Sto} {sp k l : Nat} {locs : List Nat} {α : Type} {en : α → D} {F : List (List α)} {f : List α} (h : Nst en b ex S sp locs F) (hl : locs[k]? = some l) (hf : F[k]? = some f) (x : α) : Nst en b ex (S.set l (.lst (f.map en ++ [en x]))) sp locs (F.modify k (· ++ [x])) := by
  have hns : l ≠ sp := by rintro rfl; exact h.ns (nth_mem hl)
  refine ⟨set_ne h.at_ hns, ?_, by simp [h.len], h.nd, h.ns, h.ge, h.exs⟩
  intro j q hq
  obtain ⟨f2, h1, h2⟩ := h.it j q hq
  rw [List.getElem?_modify]
  by_cases e : k = j
  · subst e
    rw [hl] at hq
    cases hq
    rw [hf] at h1
    cases h1
    refine ⟨f ++ [x], ?_, ?_⟩
    · rw [hf]
      simp
    · rw [set_at h2, List.map_append]
      rfl
  · refine ⟨f2, ?_, set_ne h2 ?_⟩
    · rw [h1]
      simp [e]
    · rintro rfl
      have nd := List.pairwise_iff_getElem.mp (List.nodup_iff_pairwise_ne.mp h.nd)
      obtain ⟨a1, a2⟩ := List.getElem?_eq_some_iff.mp hl
      obtain ⟨b1, b2⟩ := List.getElem?_eq_some_iff.mp hq
      rcases Nat.lt_or_gt_of_ne e with g | g
      · exact nd _ _ a1 b1 g (a2.trans b2.symm)
      · exact nd _ _ b1 a1 g (b2.trans a2.symm)
theorem Nst.keep {b : Nat} {ex : List Nat} {S S' : Sto} {sp : Nat} {locs : List Nat} {α : Type} {en : α → D} {F : List (List α)} (h : Nst en b ex S sp locs F) (k : ∀ q, q = sp ∨ q ∈ locs → S'[q]? = S[q]?) : Nst en b ex S' sp locs F := ⟨(k _ (.inl rfl)).trans h.at_, fun j l hl => by
  obtain ⟨f, h1, h2⟩ := h.it j l hl
  exact ⟨f, h1, (k _ (.inr (nth_mem hl))).trans h2⟩, h.len, h.nd, h.ns, h.ge, h.exs⟩
theorem Nst.lt {b : Nat} {ex : List Nat} {S : Sto} {sp : Nat} {locs : List Nat} {α : Type} {en : α → D} {F : List (List α)} (h : Nst en b ex S sp locs F) {q : Nat} (hq : q = sp ∨ q ∈ locs) : q < S.length := by
  rcases hq with rfl | hq
  · exact at_lt h.at_
  · obtain ⟨k, hk⟩ := List.getElem?_of_mem hq
    obtain ⟨f, _, h2⟩ := h.it k q hk
    exact at_lt h2
theorem Nst.take {b : Nat} {ex : List Nat} {S S' : Sto} {sp : Nat} {locs : List Nat} {α : Type} {en : α → D} {F : List (List α)} (h : Nst en b ex S sp locs F) (k : S'.take S.length = S) : Nst en b ex S' sp locs F := h.keep fun q hq => by
  have := h.lt hq
  conv => rhs; rw [← k]
  rw [List.getElem?_take, if_pos this]
theorem kp_take {S S' : Sto} {ex : List Nat} (h : Kp S.length ex S S') : S'.take S.length = S := h.take rfl (take_self S)
theorem ub_loc {n : Nat} : ∀ {locs : List Nat}, locs ≠ [] → (∀ l ∈ locs, n ≤ l) → ubL n (locs.map .loc) = false
  | [], h, _ => absurd rfl h
  | l :: ls, _, h => by
    show (decide (l < n) && _) = false
    rw [decide_eq_false (by have := h l (by simp); omega)]
    rfl
/-- a list of lists, the def's own, told -/
theorem leave_deep {n np : Nat} {S : Sto} {locs : List Nat} (h : S[np]? = some (.lst (locs.map .loc))) (hl : n ≤ np) (hg : ∀ l ∈ locs, n ≤ l) (h0 : locs ≠ []) : leave n (.d (.loc np)) S = (.d (.loc np), S) := by
  show (if np < n then (Vl.d (.loc np), S.take n) else match S[np]? with
    | some (.lst xs) => if ubL n xs = true then (.fr xs, S.take n) else (.d (.loc np), S)
    | _ => (.d (.loc np), S)) = _
  rw [if_neg (by omega), h]
  dsimp only
  rw [if_neg (by rw [ub_loc h0 hg]; simp)]

def has (g l : List Int) : List Int := g.filter fun x => inn x l
theorem has_pos (a b : List Int) : decide ((0 : Int) < ((has a b).length : Int)) = share a b := by
  unfold has
  induction a with
  | nil => rfl
  | cons x a ih =>
    unfold share at *
    rw [List.any_cons, ← ih, List.filter_cons]
    cases h : inn x b with
    | true =>
      have h2 : (b.any fun y => y == x) = true := h
      rw [h2]
      simp
    | false =>
      have h2 : (b.any fun y => y == x) = false := h
      rw [h2]
      simp
/-- len([hand for hand in hands if hand in lot]) -/
theorem pv_has {rc : Rc} {e : Env} {S : Sto} {x : E} {c : Nat} {y : E} {g l : List Int} (hx : PV rc e S x (.d (lotD g))) (hy : ∀ d, PV rc ((wipeE e [c]).set c (some (.int d))) S y (.d (lotD l))) (hc : ∀ d, PV rc ((wipeE e [c]).set c (some (.int d))) S (.var c) (.d (.int d))) :
    PV rc e S (.f1 .len (.comp (.var c) (.var c) (.e x) (.cons (.cmp .inn (.var c) y) .nil) [c])) (.d (.int (has g l).length)) := by
  refine pv_lenF (f := D.int) (l := has g l) ?_
  exact pv_compI (c := []) (ns := g) (fun d => inn d l) .int (pi_e hx rfl rfl) (chk_nil _) fun d _ => ⟨pts_one (pt_of (pv_cmp (hc d) (hy d) (in_cmp _ _ _)) rfl rfl), fun _ => hc d⟩
theorem share_comm (a b : List Int) : share a b = share b a := by
  rw [Bool.eq_iff_iff, share_iff, share_iff]
  exact ⟨fun ⟨x, h1, h2⟩ => ⟨x, h2, h1⟩, fun ⟨x, h1, h2⟩ => ⟨x, h2, h1⟩⟩

abbrev N (L : List (List Int)) : Int → Int → Bool := fun y x => share (lot L y) (lot L x)
theorem N_comm (L : List (List Int)) (x y : Int) : N L x y = N L y x := share_comm _ _
/-! ### near letters, as a list of lists of truths -/
def nrow (L : List (List Int)) (lo : List Int) : List Bool := L.map fun x => share lo x
abbrev Near (b : Nat) (S : Sto) (np : Nat) (locs : List Nat) (L : List (List Int)) : Prop := Nst D.bl b [] S np locs (L.map (nrow L))
theorem near_pv {rc : Rc} {e : Env} {S : Sto} {b np : Nat} {locs : List Nat} {L : List (List Int)} {X A B : E} {x y : Int} (st : Near b S np locs L) (hX : PV rc e S X (.d (.loc np))) (hA : PV rc e S A (.d (.int x))) (hB : PV rc e S B (.d (.int y))) (x0 : 0 ≤ x) (x1 : x < L.length) (y0 : 0 ≤ y) (y1 : y < L.length) : PV rc e S (.idx (.idx X A) B) (.d (.bl (N L x y))) := by
  obtain ⟨j, rfl⟩ := Int.eq_ofNat_of_zero_le x0
  have hj : j < L.length := by omega
  have hl : j < locs.length := by rw [st.len, List.length_map]; exact hj
  obtain ⟨f, h1, h2⟩ := st.it j _ (nth_of hl)
  rw [List.getElem?_map, nth_of hj] at h1
  cases h1
  refine pv_idxL (pv_idxL hX st.at_ hA (atI_nat (by rw [List.getElem?_map, nth_of hl]; rfl))) h2 hB ?_
  unfold nrow
  rw [List.map_map, atI_map (f := D.bl ∘ fun x => share L[j] x) (l := L) [] y0 y1]
  show some (D.bl (share L[j] (lot L y))) = some (D.bl (share (lot L (j : Nat)) (lot L y)))
  have : lot L (j : Nat) = L[j] := by
    unfold lot
    simp [List.getD, hj]
  rw [this]
theorem ok_near1 {n b np : Nat} {S : Sto} {h : Int} {L G : List (List Int)} {lo : List Int} {locs : List Nat} {o2 : Option D} (st : Nst D.bl b [] S np locs (G.map (nrow L))) (hG : G.length < 1000) (hb : b ≤ S.length) : Ok (evTg (callN T n) (.var 2) b (lotD lo) [some (webD h L), some (.loc np), o2, none, none] S >>= fun q => evSs (callN T n) b__law_near_1 b q.1 q.2) fun r => ∃ S1 locs1, r = (.nx, [some (webD h L), some (.loc np), some (lotD lo), none, none], S1) ∧ Nst D.bl b [] S1 np locs1 ((G ++ [lo]).map (nrow L)) ∧ Kp b [] S S1 := by
  refine Ok.bind (Ok.ok ?_)
  dsimp only [b__law_near_1, List.set]
  have hY : PV (callN T n) [some (webD h L), some (.loc np), some (lotD lo), none, none] S (.comp (.cmp .gt (.f1 .len (.comp (.var 4) (.var 4) (.e (.var 2)) (.cons (.cmp .inn (.var 4) (.var 3)) .nil) [4])) (.cn (.int 0))) (.var 3) (.e (.idx (.var 0) (.cn (.int 1)))) .nil [3]) (.fr ((nrow L lo).map .bl)) := by
    have := pv_compM (rc := callN T n) (e := [some (webD h L), some (.loc np), some (lotD lo), none, none]) (S := S) (x := .cmp .gt (.f1 .len (.comp (.var 4) (.var 4) (.e (.var 2)) (.cons (.cmp .inn (.var 4) (.var 3)) .nil) [4])) (.cn (.int 0))) (t := .var 3) (it := .e (.idx (.var 0) (.cn (.int 1)))) (ifs := .nil) (vs := [3]) (c := []) (f := lotD) (ns := L) (fun _ => true) (fun x => .bl (share lo x)) (pi_e (pv_lots rfl) rfl rfl) (chk_nil _) fun x hx => ⟨_, fun b => rfl, pts_nil, fun _ => ?_⟩
    · rw [filter_yes] at this
      unfold nrow
      rw [List.map_map]
      exact this
    · rw [← has_pos]
      exact pv_cmp (pv_has (g := lo) (l := x) (pv_var rfl) (fun _ => pv_var rfl) (fun _ => pv_var rfl)) (pv_cn _) rfl
  have e1 : (evE (callN T n) (.m1 .append (.var 1) (.comp (.cmp .gt (.f1 .len (.comp (.var 4) (.var 4) (.e (.var 2)) (.cons (.cmp .inn (.var 4) (.var 3)) .nil) [4])) (.cn (.int 0))) (.var 3) (.e (.idx (.var 0) (.cn (.int 1)))) .nil [3]))).v b [some (webD h L), some (.loc np), some (lotD lo), none, none] S = .ok (.d .non, List.set (S ++ [O.lst ((nrow L lo).map D.bl)]) np (O.lst (locs.map D.loc ++ [D.loc S.length]))) :=
    (pv_m1F (pv_var rfl) st.at_ hY).trans (meth_app (push_lt st.at_) (by rw [List.length_map, st.len, List.length_map]; omega) (.inr st.ge.1))
  refine ok_expr (Ok.eq e1 (ok_nil ⟨_, locs ++ [S.length], rfl, ?_, (Kp.push _).trans (Kp.set st.ge.1 (by simp))⟩))
  have := st.new (by simp) hb (nrow L lo)
  rw [List.map_append]
  exact this
theorem ok_near {n : Nat} {S : Sto} {h : Int} {L : List (List Int)} (hl : L.length < 1000) (h0 : 0 < L.length) : Ok (callN T (n + 1) 8 [webD h L] S) fun r => ∃ np locs, r.1 = .d (.loc np) ∧ Near S.length r.2 np locs L ∧ Kp S.length [] S r.2 := by
  refine ok_fn (d := ⟨"_law_near", 1, 5, b__law_near⟩) rfl rfl ?_
  dsimp only [b__law_near]
  rw [show env0 5 [webD h L] = [some (webD h L), none, none, none, none] from rfl]
  refine st_asgF (xs := []) (pv_lst pes_nil (by simp)) ?_
  dsimp only [List.set]
  have st1 : Nst D.bl S.length [] (S ++ [O.lst []]) S.length [] ([].map (nrow L)) := ⟨push_at, fun k l hk => (by simp at hk), rfl, by simp, by simp, ⟨by simp, by simp⟩, ⟨by simp, by simp⟩⟩
  have kp1 : Kp S.length [] S (S ++ [O.lst []]) := Kp.push _
  generalize S ++ [O.lst []] = S1 at *
  refine st_for (pi_e (pv_lots rfl) rfl rfl) ?_
  refine ok_cnt (fun k e S' => ∃ o2 locs, e = [some (webD h L), some (.loc S.length), o2, none, none] ∧ Nst D.bl S.length [] S' S.length locs ((L.take k).map (nrow L)) ∧ Kp S.length [] S S') (fun _ _ _ _ => chk_nil _) ?_ ?_ ⟨_, _, rfl, st1, kp1⟩
  · rintro k y e S' hy ⟨o2, locs, rfl, st, kp⟩
    rw [List.getElem?_map] at hy
    obtain ⟨lo, hlo, rfl⟩ := Option.map_eq_some_iff.mp hy
    refine Ok.mono (ok_near1 (n := n) (lo := lo) st (by rw [List.length_take]; omega) kp.len) fun r ⟨S2, locs2, er, h1, h2⟩ => ?_
    subst er
    refine ⟨_, locs2, rfl, ?_, kp.trans h2⟩
    rw [take_succ' hlo]
    exact h1
  · rintro e S' ⟨o2, locs, rfl, st, kp⟩
    rw [List.length_map, List.take_length] at st
    refine Then.nx (st_ret (pv_var rfl) ⟨_, rfl, S.length, locs, ?_⟩)
    have hne : locs ≠ [] := by
      intro e
      have := st.len
      rw [e, List.length_map] at this
      simp at this
      omega
    rw [leave_deep st.at_ st.ge.1 st.ge.2 hne]
    exact ⟨rfl, st, kp⟩
theorem near_at {n b i : Nat} {e : Env} {S : Sto} {h : Int} {L : List (List Int)} (he : e[i]? = some (some (webD h L))) (hl : L.length < 1000) (h0 : 0 < L.length) : Ok ((evE (callN T (n + 1)) (.call 8 (.cons (.var i) .nil) .nil [0])).v b e S) fun r => ∃ np locs S1, r = (.d (.loc np), S1) ∧ Near S.length S1 np locs L ∧ Kp S.length [] S S1 := by
  refine ok_call (es_pv (pv_var he) (es_nil (Ok.ok ?_)))
  refine Ok.mono (ok_near (n := n) hl h0) fun r ⟨np, locs, e1, st, kp⟩ => ⟨np, locs, r.2, ?_, st, kp⟩
  have hne : locs ≠ [] := by
    intro e
    have := st.len
    rw [e, List.length_map] at this
    simp at this
    omega
  rw [e1, leave_deep st.at_ st.ge.1 st.ge.2 hne]

/-! near letters, asked -/
theorem near_same {S S' : Sto} {b0 np : Nat} {nl : List Nat} {L : List (List Int)} (st : Near b0 S np nl L) (h : Same S S') : Near b0 S' np nl L := st.keep fun q hq => by
  have hl := st.lt hq
  have h2 : (S'.take S.length)[q]? = S[q]? := by rw [show S'.take S.length = S from h]
  rwa [List.getElem?_take, if_pos hl] at h2
theorem near_gr {S S' : Sto} {b0 np l : Nat} {nl : List Nat} {L : List (List Int)} (st : Near b0 S np nl L) (hn : ∀ q, q = np ∨ q ∈ nl → q ≠ l) (h : Gr l S S') : Near b0 S' np nl L := st.keep fun q hq => h.rest q (st.lt hq) (hn q hq)
theorem vx_near {rc : Rc} {G : Sto → Prop} {b b0 np : Nat} {ve : List Sl} {nl : List Nat} {L : List (List Int)} {X A B : E} {Q : Vl → Prop} (hst : ∀ S, G S → Near b0 S np nl L)
    (h : VX rc G b ve X fun v => v = .d (.loc np) ∧ VX rc G b ve A fun w => ∃ x, w = .d (.int x) ∧ (0 ≤ x ∧ x < L.length) ∧ VX rc G b ve B fun z => ∃ y, z = .d (.int y) ∧ (0 ≤ y ∧ y < L.length) ∧ Q (.d (.bl (N L x y)))) : VX rc G b ve (.idx (.idx X A) B) Q := by
  by_cases hG : ∃ S, G S
  · obtain ⟨S0, g0⟩ := hG
    have st0 := hst S0 g0
    refine vx_idx (vx_idx (h.mono fun v ⟨e1, h1⟩ => h1.mono fun w ⟨x, e2, ⟨x0, x1⟩, h2⟩ => ?_))
    obtain ⟨j, rfl⟩ := Int.eq_ofNat_of_zero_le x0
    have hj : j < L.length := by omega
    have hl : j < nl.length := by rw [st0.len, List.length_map]; exact hj
    refine ⟨j, nl.map .loc, .loc nl[j], e2, ?_, atI_nat (by rw [List.getElem?_map, nth_of hl]; rfl), h2.mono fun z ⟨y, e3, ⟨y0, y1⟩, h3⟩ => ?_⟩
    · rw [e1]
      exact its_loc (at_g fun S g => (hst S g).at_)
    · refine ⟨y, (nrow L L[j]).map .bl, .bl (N L (j : Nat) y), e3, its_loc (at_g fun S g => ?_), ?_, h3⟩
      · obtain ⟨f, h4, h5⟩ := (hst S g).it j _ (nth_of hl)
        rw [List.getElem?_map, nth_of hj] at h4
        cases h4
        exact h5
      · unfold nrow
        rw [List.map_map, atI_map (f := D.bl ∘ fun x => share L[j] x) (l := L) [] y0 y1]
        show some (D.bl (share L[j] (lot L y))) = some (D.bl (share (lot L (j : Nat)) (lot L y)))
        have : lot L (j : Nat) = L[j] := by
          unfold lot
          simp [List.getD, hj]
        rw [this]
  · intro c e S R
    exact absurd ⟨S, R.g⟩ hG

end K06
set_option linter.all false
set_option autoImplicit false
set_option maxRecDepth 100000
namespace K06
open Pv
theorem rngI_len (n : Nat) : (rngI n).length = n := by simp [rngI]
theorem atI_mem {l : List Int} {i : Int} (i0 : 0 ≤ i) (i1 : i < l.length) : ∃ x, atI (l.map .int) i = some (.int x) ∧ x ∈ l := by
  obtain ⟨j, rfl⟩ := Int.eq_ofNat_of_zero_le i0
  have hj : j < l.length := by omega
  exact ⟨l[j], atI_nat (by rw [List.getElem?_map, nth_of hj]; rfl), List.getElem_mem hj⟩
def Rng (L : List (List Int)) (l : List Int) : Prop := ∀ x ∈ l, 0 ≤ x ∧ x < L.length
theorem Rng.app {L : List (List Int)} {l : List Int} {x : Int} (h : Rng L l) (x0 : 0 ≤ x) (x1 : x < L.length) : Rng L (l ++ [x]) := fun y hy => by
  rcases List.mem_append.mp hy with hy | hy
  · exact h y hy
  · rw [List.mem_singleton.mp hy]; exact ⟨x0, x1⟩
theorem pure_map (l : List Int) : ∀ x ∈ l.map D.int, x.pure = true := fun x hx => by
  obtain ⟨y, _, rfl⟩ := List.mem_map.mp hx
  rfl
/-- a letter, picked from a list of letters -/
theorem letter_at {n b l i j lp : Nat} {e : Env} {S : Sto} {L : List (List Int)} {ls : List Int} {Q : Vl × Sto → Prop} (hi : e[i]? = some (some (.loc l))) (hj : e[j]? = some (some (.loc lp))) (hb : Bx S l) (hl : S[lp]? = some (.lst (ls.map .int))) (hne : lp ≠ l) (h0 : ls ≠ []) (hlen : ls.length < 1000) (hr : Rng L ls) (h : ∀ (x : Int) S1, 0 ≤ x → x < L.length → Fr l S S1 → Q (.d (.int x), S1)) :
    Ok ((evE (callN T (n + 2)) (.call 5 (.cons (.var i) (.cons (.var j) .nil)) .nil [0, 1])).v b e S) Q := by
  refine Ok.mono (pick_at (n := n) (y := .loc lp) (xs := ls.map .int) hi (pv_var hj _) hb ?_ (by intro e; cases e; exact hne rfl) (by simpa using h0) (by simpa using hlen) (pure_map ls)) fun r ⟨x, S1, er, hx, fr⟩ => ?_
  · show (match S[lp]? with
      | some (.lst xs) => some xs
      | _ => none) = _
    rw [hl]
  subst er
  obtain ⟨z, hz, rfl⟩ := List.mem_map.mp hx
  exact h z S1 (hr z hz).1 (hr z hz).2 fr
section
variable {n b l lp fp : Nat} {S : Sto} {h m way : Int} {L : List (List Int)} {ls fd : List Int} {o6 : Option D}
theorem ok_row1 {t : Int} (hb : Bx S l) (hl : S[lp]? = some (.lst (ls.map .int))) (hf : S[fp]? = some (.lst (fd.map .int))) (hlpl : lp ≠ l) (hfpl : fp ≠ l) (hlf : lp ≠ fp) (h0 : ls ≠ []) (hlen : ls.length < 1000) (hr : Rng L ls) (hrf : Rng L fd) (ht : (fd.length : Int) = t) (htm : t < 900) :
    Ok (evTg (callN T (n + 2)) (.var 6) b (.int t) [some (.loc l), some (webD h L), some (.int m), some (.loc lp), some (.int way), some (.loc fp), o6] S >>= fun q => evSs (callN T (n + 2)) b__law_row_1 b q.1 q.2) fun r => ∃ (o6 : Option D) (x : Int) (S1 : Sto), r = (.nx, [some (.loc l), some (webD h L), some (.int m), some (.loc lp), some (.int way), some (.loc fp), o6], S1.set fp (.lst ((fd ++ [x]).map .int))) ∧ 0 ≤ x ∧ x < L.length ∧ Fr l S S1 := by
  refine Ok.bind (Ok.ok ?_)
  dsimp only [b__law_row_1, List.set]
  have fin : ∀ (S2 : Sto), Fr l S S2 → Ok (evSs (callN T (n + 2)) (.cons (.expr (.m1 .append (.var 5) (.call 5 (.cons (.var 0) (.cons (.var 3) .nil)) .nil [0, 1]))) .nil) b [some (.loc l), some (webD h L), some (.int m), some (.loc lp), some (.int way), some (.loc fp), some (.int t)] S2) (Then (callN T (n + 2)) .nil b fun r => ∃ (o6 : Option D) (x : Int) (S1 : Sto), r = (.nx, [some (.loc l), some (webD h L), some (.int m), some (.loc lp), some (.int way), some (.loc fp), o6], S1.set fp (.lst ((fd ++ [x]).map .int))) ∧ 0 ≤ x ∧ x < L.length ∧ Fr l S S1) := by
    intro S2 fr2
    refine ok_expr (ev_m1 (pv_var rfl) (fr2.at hf hfpl) (letter_at (n := n) rfl rfl fr2.bx (fr2.at hl hlpl) hlpl h0 hlen hr fun x S3 x0 x1 fr3 => ?_))
    refine Ok.eq (meth_app (fr3.at (fr2.at hf hfpl) hfpl) (by simp; omega) (.inl rfl)) ?_
    refine ok_nil (Then.nx (ok_nil ⟨some (.int t), x, S3, ?_, x0, x1, fr2.trans fr3⟩))
    rw [List.map_append]
    rfl
  refine ok_ite ?_
  refine et_and (et_pt (k := way == 1) (pt_of (pv_cmp (pv_var rfl) (pv_cn _) rfl) rfl rfl) ⟨fun _ => ⟨fun h => (by cases h), fun _ => fin S (Fr.refl hb)⟩, fun _ => ?_⟩)
  refine et_and (et_pt (k := decide (0 < t)) (pt_of (pv_cmp (pv_var rfl) (pv_cn _) rfl) rfl rfl) ⟨fun _ => ⟨fun h => (by cases h), fun _ => fin S (Fr.refl hb)⟩, fun htp => ?_⟩)
  have htp : 0 < t := by simpa using htp
  refine et_of rfl (ev_cmp (Ok.mono (take_at (n := n + 1) (m := 2) rfl rfl hb (by omega) (by omega)) fun r ⟨q, S2, er, q0, q1, fr2⟩ => ?_))
  subst er
  refine ev_pv (pv_cn _) ⟨_, rfl, _, rfl, fun _ => ?_, fun _ => fin S2 fr2⟩
  obtain ⟨x, ha, hx⟩ := atI_mem (l := fd) (i := t - 1) (by omega) (by omega)
  refine st_app (v := .int x) (pv_var rfl) (fr2.at hf hfpl) (by simp; omega) (pv_idxL (pv_var rfl) (fr2.at hf hfpl) (pv_bini (pv_var rfl) (pv_cn _) rfl) ha) (.inl rfl) ?_
  refine ok_nil (Then.nx (ok_nil ⟨some (.int t), x, S2, ?_, (hrf x hx).1, (hrf x hx).2, fr2⟩))
  rw [List.map_append]
  rfl
end
theorem ok_row2 {n l lp : Nat} {S S3 : Sto} {h m way : Int} {L : List (List Int)} {ls : List Int} (hlt : l < S.length) (m0 : 0 ≤ m) (m1 : m < 900) (hl3 : S3[lp]? = some (.lst (ls.map .int))) (hlp : S.length ≤ lp) (g3 : Gr l S S3) (h0 : ls ≠ []) (hlen : ls.length < 1000) (hr : Rng L ls) :
    Ok (evSs (callN T (n + 2)) (tailOf (tailOf (tailOf b__law_row))) S.length [some (.loc l), some (webD h L), some (.int m), some (.loc lp), some (.int way), none, none] S3) fun r => ∃ v, flV r.1 = some v ∧ ∃ row, (leave S.length v r.2.2).1 = .d (lotD row) ∧ (row.length : Int) = m ∧ Rng L row ∧ Fr l S (leave S.length v r.2.2).2 := by
  dsimp only [b__law_row, tailOf]
  refine st_asgF (xs := []) (pv_lst pes_nil (by simp)) ?_
  dsimp only [List.set]
  have hf4 : (S3 ++ [O.lst []])[S3.length]? = some (.lst (([] : List Int).map .int)) := push_at
  have hl4 : (S3 ++ [O.lst []])[lp]? = some (.lst (ls.map .int)) := push_lt hl3
  have g4 : Gr l S (S3 ++ [O.lst []]) := g3.push _
  have hne : lp ≠ S3.length := by have := at_lt hl3; omega
  have hSf : S.length ≤ S3.length := g3.len
  generalize S3 ++ [O.lst []] = S4 at *
  generalize S3.length = fp at *
  refine st_for (pi_rng0 (k := m) (pv_var rfl) (by omega) (by omega)) ?_
  refine ok_rng (fun t e S' => ∃ o6 fd, e = [some (.loc l), some (webD h L), some (.int m), some (.loc lp), some (.int way), some (.loc fp), o6] ∧ S'[lp]? = some (.lst (ls.map .int)) ∧ S'[fp]? = some (.lst (fd.map .int)) ∧ (fd.length : Int) = t ∧ Rng L fd ∧ Gr l S S') (by omega) ?_ ?_ ⟨_, [], rfl, hl4, hf4, rfl, (by intro x hx; simp at hx), g4⟩
  · rintro t e S' t0 t1 ⟨o6, fd, rfl, hl5, hf5, hfd, hrf, g5⟩
    refine Ok.mono (ok_row1 (n := n) g5.bx hl5 hf5 (by omega) (by omega) hne h0 hlen hr hrf hfd (by omega)) fun r ⟨o6, x, S6, er, x0, x1, fr6⟩ => ?_
    subst er
    exact ⟨o6, fd ++ [x], rfl, set_ne (fr6.at hl5 (by omega)) (fun e => hne e.symm), set_at (fr6.at hf5 (by omega)), by simp; omega, hrf.app x0 x1, (g5.fr fr6).set _ hSf (by omega)⟩
  · rintro e S' ⟨o6, fd, rfl, hl5, hf5, hfd, hrf, g5⟩
    refine Then.nx (st_ret (v := .d (lotD fd)) (pv_f1 (pv_var rfl) (by rw [app_tuple, items_loc hf5]; rfl)) ⟨_, rfl, fd, ?_, hfd, hrf, ?_⟩)
    · show (leave S.length (.d (lotD fd)) S').1 = _
      rw [leave_pure (pure_ints _)]
    · show Fr l S (leave S.length (.d (lotD fd)) S').2
      rw [leave_pure (pure_ints _)]
      exact g5.leave hlt
theorem three_at {n b l i j lp : Nat} {e : Env} {S : Sto} {L : List (List Int)} {ls : List Int} (hi : e[i]? = some (some (.loc l))) (hj : e[j]? = some (some (.loc lp))) (hb : Bx S l) (hl : S[lp]? = some (.lst (ls.map .int))) (hne : lp ≠ l) (h0 : ls ≠ []) (hlen : ls.length < 1000) (hr : Rng L ls) :
    Ok ((evE (callN T (n + 2)) (.lst (.cons (.call 5 (.cons (.var i) (.cons (.var j) .nil)) .nil [0, 1]) (.cons (.call 5 (.cons (.var i) (.cons (.var j) .nil)) .nil [0, 1]) (.cons (.call 5 (.cons (.var i) (.cons (.var j) .nil)) .nil [0, 1]) .nil))))).v b e S) fun r => ∃ x1 x2 x3 S1, r = (.fr [.int x1, .int x2, .int x3], S1) ∧ Rng L [x1, x2, x3] ∧ Fr l S S1 := by
  refine ev_lst (es_cons (letter_at (n := n) (L := L) hi hj hb hl hne h0 hlen hr fun x1 S3 x10 x11 fr3 => ?_))
  have hl3 := fr3.at hl hne
  refine es_cons (letter_at (n := n) (L := L) hi hj fr3.bx hl3 hne h0 hlen hr fun x2 S4 x20 x21 fr4 => ?_)
  have hl4 := fr4.at hl3 hne
  refine es_cons (letter_at (n := n) (L := L) hi hj fr4.bx hl4 hne h0 hlen hr fun x3 S5 x30 x31 fr5 => ?_)
  refine es_nil ⟨by simp, x1, x2, x3, S5, rfl, ?_, (fr3.trans fr4).trans fr5⟩
  intro y hy
  simp at hy
  rcases hy with rfl | rfl | rfl
  · exact ⟨x10, x11⟩
  · exact ⟨x20, x21⟩
  · exact ⟨x30, x31⟩
theorem ok_row {n l : Nat} {S : Sto} {h m : Int} {L : List (List Int)} (hb : Bx S l) (w : Web h L) (m0 : 0 ≤ m) (m1 : m < 900) : Ok (callN T (n + 3) 9 [.loc l, webD h L, .int m] S) fun r => ∃ row, r.1 = .d (lotD row) ∧ (row.length : Int) = m ∧ Rng L row ∧ Fr l S r.2 := by
  have hlt := hb.lt
  have hL0 := w.l0
  have hL8 := w.l8
  refine ok_fn (d := ⟨"_law_row", 3, 7, b__law_row⟩) rfl rfl ?_
  dsimp only [b__law_row]
  rw [show env0 7 [.loc l, webD h L, .int m] = [some (.loc l), some (webD h L), some (.int m), none, none, none, none] from rfl]
  refine st_asgF (pv_list (pv_lenM (pv_lots rfl)) (by omega) (by omega)) ?_
  rw [rngD_int]
  dsimp only [List.set]
  have hl1 : (S ++ [O.lst ((rngI L.length).map D.int)])[S.length]? = some (.lst ((rngI L.length).map .int)) := push_at
  have g1 : Gr l S (S ++ [O.lst ((rngI L.length).map D.int)]) := (Gr.refl hb).push _
  generalize S ++ [O.lst ((rngI L.length).map D.int)] = S1 at *
  have hrl : Rng L (rngI L.length) := fun x hx => rngI_mem.mp hx
  have hrn : rngI L.length ≠ [] := by
    intro e
    have : (rngI L.length).length = 0 := by rw [e]; rfl
    rw [rngI_len] at this
    omega
  have hrlen : (rngI L.length).length < 1000 := by rw [rngI_len]; omega
  refine ok_asg (Ok.mono (take_at (n := n + 1) (m := 4) rfl rfl g1.bx (by omega) (by omega)) fun r ⟨way, S2, er, w0, w1, fr2⟩ => ?_)
  subst er
  dsimp only [settle, List.set]
  have g2 := g1.fr fr2
  have hl2 := fr2.at hl1 (by omega)
  refine st_if (k := way == 0) (pt_of (pv_cmp (pv_var rfl) (pv_cn _) rfl) rfl rfl) (fun _ => ?_) (fun _ => ok_row2 (n := n) hlt m0 m1 hl2 (Nat.le_refl _) g2 hrn hrlen hrl)
  refine ok_asg (Ok.mono (three_at (n := n) (L := L) rfl rfl g2.bx hl2 (by omega) hrn hrlen hrl) fun r ⟨x1, x2, x3, S5, er, hr5, fr5⟩ => ?_)
  subst er
  have g5 := g2.fr fr5
  dsimp only [settle, List.set]
  have hat : (S5 ++ [O.lst [D.int x1, D.int x2, D.int x3]])[S5.length]? = some (O.lst ([x1, x2, x3].map D.int)) := push_at
  have hf := ok_row2 (n := n) (h := h) (way := way) (L := L) (m := m) (S3 := S5 ++ [O.lst [D.int x1, D.int x2, D.int x3]]) (lp := S5.length) (ls := [x1, x2, x3]) hlt m0 m1 hat g5.len (g5.push _) (by simp) (by simp) hr5
  dsimp only [b__law_row, tailOf] at hf
  exact ok_nil (Then.nx hf)

/-! ### rows, shaken -/
abbrev Sh (L : List (List Int)) (a b : List Int) : Prop := b.Perm a
theorem set_two (A B : List Int) (x y : Int) : ((A ++ x :: y :: B).set A.length y).set (A.length + 1) x = A ++ y :: x :: B := by
  rw [List.set_append_right _ _ (Nat.le_refl _), Nat.sub_self, List.set_append_right _ _ (by omega), show A.length + 1 - A.length = 1 by omega]
  rfl
theorem sh_swap {L : List (List Int)} {a b : List Int} {s : Nat} (h : Sh L a b) (hs : s + 1 < b.length) (hn : N L b[s] b[s + 1] = false) : Sh L a ((b.set s b[s + 1]).set (s + 1) b[s]) := by
  have e : b = b.take s ++ b[s] :: b[s + 1] :: b.drop (s + 2) := by
    rw [← List.drop_eq_getElem_cons hs, ← List.drop_eq_getElem_cons (by omega), List.take_append_drop]
  have hl : (b.take s).length = s := by rw [List.length_take]; omega
  have e2 : (b.set s b[s + 1]).set (s + 1) b[s] = b.take s ++ b[s + 1] :: b[s] :: b.drop (s + 2) := by
    have := set_two (b.take s) (b.drop (s + 2)) b[s] b[s + 1]
    rw [hl, ← e] at this
    exact this
  rw [e2]
  refine List.Perm.trans ?_ h
  conv => rhs; rw [e]
  exact List.Perm.append_left _ (.swap _ _ _)
section
variable {n b b0 l np p : Nat} {S : Sto} {L : List (List Int)} {nl : List Nat} {row now : List Int} {many turn far : Int} {s : Nat} {o6 o7 o8 : Option D}
theorem ok_shk1 {t : Int} (st : Near b0 S np nl L) (hp : S[p]? = some (.lst (now.map .int))) (hr : Rng L now) (sh : Sh L row now) (hs : s < now.length) (hb : b ≤ p) :
    Ok (evTg (callN T n) (.var 8) b (.int t) [some (.loc l), some (.loc np), some (lotD row), some (.int many), some (.loc p), some (.int turn), some (.int s), some (.int far), o8] S >>= fun q => evSs (callN T n) b__law_shaken_1 b q.1 q.2) fun r => ∃ o8, (r = (.br, [some (.loc l), some (.loc np), some (lotD row), some (.int many), some (.loc p), some (.int turn), some (.int s), some (.int far), o8], S)) ∨ (s + 1 < now.length ∧ ∃ now', r = (.nx, [some (.loc l), some (.loc np), some (lotD row), some (.int many), some (.loc p), some (.int turn), some (.int (s + 1 : Nat)), some (.int far), o8], S.set p (.lst (now'.map .int))) ∧ Sh L row now') := by
  refine Ok.bind (Ok.ok ?_)
  dsimp only [b__law_shaken_1, List.set]
  have hlen : PV (callN T n) [some (.loc l), some (.loc np), some (lotD row), some (.int many), some (.loc p), some (.int turn), some (.int s), some (.int far), some (.int t)] S (.f1 .len (.var 4)) (.d (.int now.length)) := by
    have := pv_lenL (rc := callN T n) (e := [some (.loc l), some (.loc np), some (lotD row), some (.int many), some (.loc p), some (.int turn), some (.int s), some (.int far), some (.int t)]) (x := .var 4) (pv_var rfl) hp
    rw [List.length_map] at this
    exact this
  have c1 : PT (callN T n) [some (.loc l), some (.loc np), some (lotD row), some (.int many), some (.loc p), some (.int turn), some (.int s), some (.int far), some (.int t)] S (.cmp .ge (.bin .add (.var 6) (.cn (.int 1))) (.f1 .len (.var 4))) (decide ((now.length : Int) ≤ (s : Int) + 1)) := pt_of (pv_cmp (pv_bini (pv_var rfl) (pv_cn _) rfl) hlen rfl) rfl rfl
  by_cases hs1 : s + 1 < now.length
  · have a0 : atI (now.map .int) (s : Nat) = some (.int now[s]) := atI_nat (by rw [List.getElem?_map, nth_of hs]; rfl)
    have a1 : atI (now.map .int) ((s : Int) + 1) = some (.int now[s + 1]) := atI_nat (j := s + 1) (by rw [List.getElem?_map, nth_of hs1]; rfl)
    obtain ⟨x0, x1⟩ := hr now[s] (List.getElem_mem hs)
    obtain ⟨y0, y1⟩ := hr now[s + 1] (List.getElem_mem hs1)
    have pb : PV (callN T n) [some (.loc l), some (.loc np), some (lotD row), some (.int many), some (.loc p), some (.int turn), some (.int s), some (.int far), some (.int t)] S (.idx (.var 4) (.bin .add (.var 6) (.cn (.int 1)))) (.d (.int now[s + 1])) := pv_idxL (pv_var rfl) hp (pv_bini (pv_var rfl) (pv_cn _) rfl) a1
    have pa : PV (callN T n) [some (.loc l), some (.loc np), some (lotD row), some (.int many), some (.loc p), some (.int turn), some (.int s), some (.int far), some (.int t)] S (.idx (.var 4) (.var 6)) (.d (.int now[s])) := pv_idxL (pv_var rfl) hp (pv_var rfl) a0
    refine st_if (k := decide ((now.length : Int) ≤ (s : Int) + 1) || N L now[s] now[s + 1]) (pt_or c1 fun _ => pt_of (near_pv st (pv_var rfl) pa pb x0 x1 y0 y1) rfl rfl) (fun _ => ?_) (fun hk => ?_)
    · exact ok_brk (Then.br ⟨some (.int t), .inl rfl⟩)
    · rw [Bool.or_eq_false_iff] at hk
      have h1 : (S.set p (.lst ((now.map D.int).set s (.int now[s + 1]))))[p]? = some (.lst ((now.map D.int).set s (.int now[s + 1]))) := set_at hp
      refine st_asgG (v := .tup [.int now[s + 1], .int now[s]]) (pv_tup (pes_cons pb (pes_cons pa pes_nil)) (by simp)) (tg_two (tg_sub (pv_var rfl) (pv_var rfl) (setI_at hp (by omega) (by simp; omega) (.inr hb))) (tg_sub (pv_var rfl) (pv_bini (pv_var rfl) (pv_cn _) rfl) (setI_at h1 (by omega) (by simp; omega) (.inr hb)))) ?_
      refine st_asg (v := .int (s + 1 : Nat)) (pv_bini (pv_var rfl) (pv_cn _) rfl) (ok_nil ⟨some (.int t), .inr ⟨hs1, _, ?_, sh_swap sh hs1 hk.2⟩⟩)
      dsimp only [List.set]
      rw [show ((s : Nat) : Int).toNat = s by omega, show ((s : Int) + 1).toNat = s + 1 by omega, List.set_set, List.map_set, List.map_set]
  · refine st_if (k := true) ?_ (fun _ => ok_brk (Then.br ⟨some (.int t), .inl rfl⟩)) (fun h => by cases h)
    rw [decide_eq_true (by omega)] at c1
    exact pt_or (l := true) c1 (fun h => by cases h)
theorem Sh.len {a c : List Int} (h : Sh L a c) : c.length = a.length := List.Perm.length_eq h
theorem Sh.rng {a c : List Int} (h : Sh L a c) (hr : Rng L a) : Rng L c := fun x hx => hr x ((List.Perm.mem_iff h).mp hx)
theorem ok_shk2 {t : Int} {o5 : Option D} (hb : Bx S l) (st : Near b0 S np nl L) (hnl : ∀ q, q = np ∨ q ∈ nl → q ≠ l ∧ q ≠ p) (hpl : p ≠ l) (hp : S[p]? = some (.lst (now.map .int))) (hr : Rng L row) (sh : Sh L row now) (hl : 1 < now.length) (hl2 : now.length < 900) (hbp : b ≤ p) :
    Ok (evTg (callN T (n + 2)) (.var 5) b (.int t) [some (.loc l), some (.loc np), some (lotD row), some (.int many), some (.loc p), o5, o6, o7, o8] S >>= fun q => evSs (callN T (n + 2)) b__law_shaken_2 b q.1 q.2) fun r => ∃ o6 o7 o8 now', r.1 = .nx ∧ r.2.1 = [some (.loc l), some (.loc np), some (lotD row), some (.int many), some (.loc p), some (.int t), o6, o7, o8] ∧ r.2.2[p]? = some (.lst (now'.map .int)) ∧ Sh L row now' ∧ r.2.2.length = S.length ∧ Bx r.2.2 l ∧ ∀ q, q ≠ l → q ≠ p → r.2.2[q]? = S[q]? := by
  refine Ok.bind (Ok.ok ?_)
  dsimp only [b__law_shaken_2, List.set]
  refine ok_asg (Ok.mono (take_at (n := n + 1) (m := (now.length : Int) - 1) rfl ?_ hb (by omega) (by omega)) fun r ⟨s, S1, er, s0, s1, fr1⟩ => ?_)
  · have := pv_lenL (rc := callN T (n + 2)) (e := [some (.loc l), some (.loc np), some (lotD row), some (.int many), some (.loc p), some (.int t), o6, o7, o8]) (x := .var 4) (pv_var rfl) hp
    rw [List.length_map] at this
    exact pv_bini this (pv_cn _) rfl _
  subst er
  dsimp only [settle, List.set]
  have hp1 := fr1.at hp hpl
  refine ok_asg (Ok.mono (pickF_at (n := n) (l := l) (xs := [.int 1, .int 1, .int 60]) rfl (pv_lst (pes_cons (pv_cn _) (pes_cons (pv_cn _) (pes_cons (pv_cn _) pes_nil))) (by simp) _) rfl fr1.bx (by simp) (by simp) (by simp; decide)) fun r ⟨x, S2, er, hx, fr2⟩ => ?_)
  subst er
  have hfar : ∃ far : Int, x = .int far ∧ 0 ≤ far ∧ far ≤ 60 := by
    simp at hx
    rcases hx with rfl | rfl | rfl <;> exact ⟨_, rfl, by omega, by omega⟩
  obtain ⟨far, rfl, f0, f1⟩ := hfar
  dsimp only [settle, List.set]
  have hp2 := fr2.at hp1 hpl
  have fr := fr1.trans fr2
  obtain ⟨s, rfl⟩ := Int.eq_ofNat_of_zero_le s0
  refine st_for (pi_rng0 (k := far) (pv_var rfl) (by omega) (by omega)) ?_
  refine ok_rng (fun k e S' => ∃ s o8 now', s < now'.length ∧ e = [some (.loc l), some (.loc np), some (lotD row), some (.int many), some (.loc p), some (.int t), some (.int (s : Nat)), some (.int far), o8] ∧ S'[p]? = some (.lst (now'.map .int)) ∧ Sh L row now' ∧ S'.length = S.length ∧ Bx S' l ∧ ∀ q, q ≠ l → q ≠ p → S'[q]? = S[q]?) f0 ?_ ?_ ⟨s, _, now, by omega, rfl, hp2, sh, fr.len, fr.bx, fun q h1 _ => fr.rest q h1⟩
  · rintro k e S' k0 k1 ⟨s, o8, now', hs, rfl, hp', sh', hlen', hbx', hrest⟩
    have st' : Near b0 S' np nl L := st.keep fun q hq => hrest q (hnl q hq).1 (hnl q hq).2
    refine Ok.mono (ok_shk1 (n := n + 2) st' hp' (sh'.rng hr) sh' hs hbp) fun r ⟨o8, hc⟩ => ?_
    rcases hc with rfl | ⟨hs1, now2, rfl, sh2⟩
    · exact Then.nx (ok_nil ⟨_, _, _, now', rfl, rfl, hp', sh', hlen', hbx', hrest⟩)
    · refine ⟨s + 1, o8, now2, by rw [sh2.len, ← sh'.len]; exact hs1, rfl, set_at hp', sh2, by rw [List.length_set]; exact hlen', ?_, fun q h1 h2 => by rw [List.getElem?_set_ne (fun e => h2 e.symm)]; exact hrest q h1 h2⟩
      obtain ⟨u, v, hbx⟩ := hbx'
      exact ⟨u, v, set_ne hbx hpl⟩
  · rintro e S' ⟨s, o8, now', hs, rfl, hp', sh', hlen', hbx', hrest⟩
    exact Then.nx (ok_nil ⟨_, _, _, now', rfl, rfl, hp', sh', hlen', hbx', hrest⟩)
end
theorem ok_shaken {n b0 l np : Nat} {S : Sto} {L : List (List Int)} {nl : List Nat} {row : List Int} {many : Int} (hb : Bx S l) (st : Near b0 S np nl L) (hnl : ∀ q, q = np ∨ q ∈ nl → q ≠ l) (hr : Rng L row) (hl2 : row.length < 900) (m0 : 0 ≤ many) (m1 : many ≤ 900) :
    Ok (callN T (n + 3) 10 [.loc l, .loc np, lotD row, .int many] S) fun r => ∃ now, r.1 = .d (lotD now) ∧ Sh L row now ∧ Fr l S r.2 := by
  have hlt := hb.lt
  refine ok_fn (d := ⟨"_law_shaken", 4, 9, b__law_shaken⟩) rfl rfl ?_
  dsimp only [b__law_shaken]
  rw [show env0 9 [.loc l, .loc np, lotD row, .int many] = [some (.loc l), some (.loc np), some (lotD row), some (.int many), none, none, none, none, none] from rfl]
  refine st_asgF (xs := row.map .int) (pv_f1 (pv_var rfl) rfl) ?_
  dsimp only [List.set]
  have hp : (S ++ [O.lst (row.map D.int)])[S.length]? = some (.lst (row.map .int)) := push_at
  have g1 : Gr l S (S ++ [O.lst (row.map D.int)]) := (Gr.refl hb).push _
  have hnS : ∀ q, q = np ∨ q ∈ nl → q < S.length := fun q hq => st.lt hq
  generalize S ++ [O.lst (row.map D.int)] = S1 at *
  have hi : PI (callN T (n + 2)) [some (.loc l), some (.loc np), some (lotD row), some (.int many), some (.loc S.length), none, none, none, none] S1 (.rng .none (.ite (.cmp .gt (.f1 .len (.var 4)) (.cn (.int 1))) (.var 3) (.cn (.int 0)))) [] (rngD 0 (if 1 < row.length then many else 0)) := by
    refine pi_rng0 ?_ (by split <;> omega) (by split <;> omega)
    have := pv_lenL (rc := callN T (n + 2)) (e := [some (.loc l), some (.loc np), some (lotD row), some (.int many), some (.loc S.length), none, none, none, none]) (x := .var 4) (pv_var rfl) hp
    rw [List.length_map] at this
    refine pv_ite (k := decide ((1 : Int) < row.length)) (pt_of (pv_cmp this (pv_cn _) rfl) rfl rfl) (fun h => ?_) (fun h => ?_)
    · rw [if_pos (by have : (1 : Int) < row.length := by simpa using h
                     omega)]
      exact pv_var rfl
    · rw [if_neg (by have : ¬ (1 : Int) < row.length := by simpa using h
                     omega)]
      exact pv_cn _
  refine st_for hi ?_
  refine ok_rng (fun k e S' => ∃ o5 o6 o7 o8 now, e = [some (.loc l), some (.loc np), some (lotD row), some (.int many), some (.loc S.length), o5, o6, o7, o8] ∧ S'[S.length]? = some (.lst (now.map .int)) ∧ Sh L row now ∧ Gr l S S') (by split <;> omega) ?_ ?_ ⟨_, _, _, _, row, rfl, hp, List.Perm.refl _, g1⟩
  · rintro k e S' k0 k1 ⟨o5, o6, o7, o8, now, rfl, hp', sh, g⟩
    have hl1 : 1 < row.length := by
      by_cases h : 1 < row.length
      · exact h
      · rw [if_neg h] at k1
        omega
    have st' : Near b0 S' np nl L := st.keep fun q hq => g.rest q (hnS q hq) (hnl q hq)
    refine Ok.mono (ok_shk2 (n := n) (o5 := o5) g.bx st' (fun q hq => ⟨hnl q hq, by have := hnS q hq; omega⟩) (by omega) hp' hr sh (by rw [sh.len]; exact hl1) (by rw [sh.len]; exact hl2) (Nat.le_refl _)) fun r ⟨o6, o7, o8, now', e1, e2, e3, e4, e5, e6, e7⟩ => ?_
    obtain ⟨fl, e9, S9⟩ := r
    cases e1
    refine ⟨_, _, _, _, now', e2, e3, e4, by rw [e5]; exact g.len, fun j h1 h2 => (e7 j h2 (by omega)).trans (g.rest j h1 h2), e6⟩
  · rintro e S' ⟨o5, o6, o7, o8, now, rfl, hp', sh, g⟩
    refine Then.nx (st_ret (v := .d (lotD now)) (pv_f1 (pv_var rfl) (by rw [app_tuple, items_loc hp']; rfl)) ⟨_, rfl, now, ?_, sh, ?_⟩)
    · show (leave S.length (.d (lotD now)) S').1 = _
      rw [leave_pure (pure_ints _)]
    · show Fr l S (leave S.length (.d (lotD now)) S').2
      rw [leave_pure (pure_ints _)]
      exact g.leave hlt

end K06
set_option linter.all false
set_option autoImplicit false
set_option maxRecDepth 100000
namespace K06
/-! ### exchanges between rows: the plain law -/
def pull (M : Int → Int → Bool) (x : Int) : List Int → Option Nat
  | [] => none
  | y :: ys => if y = x then some 0 else if M y x = true then none else (pull M x ys).map (· + 1)
def down (s k : Nat) : List Int := (List.range k).reverse.map fun j => ((s + j : Nat) : Int)
def xch (M : Int → Int → Bool) : List Int → List Int → Nat → Option (List Int)
  | _, [], _ => some []
  | a, x :: t, s => (pull M x a).bind fun k => (xch M (a.eraseIdx k) t (s + 1)).map fun l => down s k ++ l
def two (f s : Int) (z : Int) : Bool := z == f || z == s
def Alike (M : Int → Int → Bool) (R : Int → Prop) (a c : List Int) : Prop := ∀ f s, R f → R s → M f s = true → a.filter (two f s) = c.filter (two f s)
theorem pull_at {M : Int → Int → Bool} {x : Int} {q : List Int} : ∀ {p : List Int}, (∀ y ∈ p, y ≠ x ∧ M y x = false) → pull M x (p ++ x :: q) = some p.length
  | [], _ => if_pos rfl
  | y :: p, h => by
    obtain ⟨h1, h2⟩ := h y (by simp)
    show (if y = x then some 0 else if M y x = true then none else (pull M x (p ++ x :: q)).map (· + 1)) = _
    rw [if_neg h1, if_neg (by rw [h2]; simp), pull_at fun z hz => h z (by simp [hz])]
    rfl
theorem pull_split {M : Int → Int → Bool} {x : Int} : ∀ {a : List Int} {k : Nat}, pull M x a = some k → ∃ p q, a = p ++ x :: q ∧ p.length = k ∧ ∀ y ∈ p, y ≠ x ∧ M y x = false
  | [], k, h => by cases h
  | y :: a, k, h => by
    have h : (if y = x then some 0 else if M y x = true then none else (pull M x a).map (· + 1)) = some k := h
    by_cases h1 : y = x
    · rw [if_pos h1] at h
      cases h
      exact ⟨[], a, by rw [h1]; rfl, rfl, by simp⟩
    · rw [if_neg h1] at h
      by_cases h2 : M y x = true
      · rw [if_pos h2] at h; cases h
      · rw [if_neg h2] at h
        obtain ⟨j, hj, rfl⟩ := Option.map_eq_some_iff.mp h
        obtain ⟨p, q, rfl, rfl, hp⟩ := pull_split hj
        refine ⟨y :: p, q, rfl, rfl, fun z hz => ?_⟩
        rcases List.mem_cons.mp hz with rfl | hz
        · exact ⟨h1, by simpa using h2⟩
        · exact hp z hz
theorem erase_mid (p q : List Int) (x : Int) : (p ++ x :: q).eraseIdx p.length = p ++ q := by
  rw [List.eraseIdx_append_of_length_le (Nat.le_refl _), Nat.sub_self]
  rfl
theorem fil_mid {M : Int → Int → Bool} (sym : ∀ x y, M x y = M y x) {p q t : List Int} {x f s : Int} (hp : ∀ y ∈ p, y ≠ x ∧ M y x = false) (hm : M f s = true) : (p ++ x :: q).filter (two f s) = (x :: t).filter (two f s) ↔ (p ++ q).filter (two f s) = t.filter (two f s) := by
  rw [List.filter_append, List.filter_append, List.filter_cons, List.filter_cons]
  by_cases hx : two f s x = true
  · have : p.filter (two f s) = [] := by
      rw [List.filter_eq_nil_iff]
      intro y hy hy2
      obtain ⟨h1, h2⟩ := hp y hy
      unfold two at hx hy2
      simp only [Bool.or_eq_true, beq_iff_eq] at hx hy2
      rcases hx with rfl | rfl <;> rcases hy2 with rfl | rfl
      · exact h1 rfl
      · rw [sym, h2] at hm; cases hm
      · rw [h2] at hm; cases hm
      · exact h1 rfl
    rw [this, if_pos hx, if_pos hx]
    simp
  · rw [if_neg hx, if_neg hx]
theorem alike_mid {M : Int → Int → Bool} {R : Int → Prop} (sym : ∀ x y, M x y = M y x) {p q t : List Int} {x : Int} (hp : ∀ y ∈ p, y ≠ x ∧ M y x = false) : Alike M R (p ++ x :: q) (x :: t) ↔ Alike M R (p ++ q) t :=
  ⟨fun h f s rf rs hm => (fil_mid sym hp hm).mp (h f s rf rs hm), fun h f s rf rs hm => (fil_mid sym hp hm).mpr (h f s rf rs hm)⟩
theorem split_first {x : Int} : ∀ {a : List Int}, x ∈ a → ∃ p q, a = p ++ x :: q ∧ ∀ y ∈ p, y ≠ x
  | y :: a, h => by
    by_cases e : y = x
    · exact ⟨[], a, by rw [e]; rfl, by simp⟩
    · rcases List.mem_cons.mp h with h | h
      · exact absurd h.symm e
      · obtain ⟨p, q, rfl, hp⟩ := split_first h
        exact ⟨y :: p, q, rfl, fun z hz => by
          rcases List.mem_cons.mp hz with rfl | hz
          · exact e
          · exact hp z hz⟩
theorem alike_pull {M : Int → Int → Bool} {R : Int → Prop} {a t : List Int} {x : Int} (refl : ∀ x, R x → M x x = true) (ha : ∀ y ∈ a, R y) (hx : R x) (h : Alike M R a (x :: t)) : ∃ p q, a = p ++ x :: q ∧ ∀ y ∈ p, y ≠ x ∧ M y x = false := by
  have h1 := h x x hx hx (refl x hx)
  have h2 : x ∈ a.filter (two x x) := by
    rw [h1]
    simp [two]
  obtain ⟨p, q, rfl, hp⟩ := split_first (List.mem_filter.mp h2).1
  refine ⟨p, q, rfl, fun y hy => ⟨hp y hy, ?_⟩⟩
  by_cases hm : M y x = true
  · exfalso
    have h3 := h y x (ha y (by simp [hy])) hx hm
    rw [List.filter_append, List.filter_cons (x := x) (xs := t), if_pos (by simp [two])] at h3
    cases hf : p.filter (two y x) with
    | nil =>
      have : y ∈ p.filter (two y x) := List.mem_filter.mpr ⟨hy, by simp [two]⟩
      rw [hf] at this
      cases this
    | cons z zs =>
      rw [hf] at h3
      injection h3 with h4 _
      have : z ∈ p := (List.mem_filter.mp (show z ∈ p.filter (two y x) by rw [hf]; simp)).1
      exact hp z this h4
  · simpa using hm
section
variable {M : Int → Int → Bool} {R : Int → Prop} (sym : ∀ x y, M x y = M y x) (refl : ∀ x, R x → M x x = true)
include sym refl in
theorem xch_of : ∀ (c a : List Int) (s : Nat), a.length = c.length → (∀ y ∈ a, R y) → (∀ y ∈ c, R y) → Alike M R a c → ∃ l, xch M a c s = some l
  | [], a, s, _, _, _, _ => ⟨[], by cases a <;> rfl⟩
  | x :: t, a, s, hl, ha, hc, h => by
    obtain ⟨p, q, rfl, hp⟩ := alike_pull refl ha (hc x (by simp)) h
    obtain ⟨l, hl2⟩ := xch_of t (p ++ q) (s + 1) (by simp at hl ⊢; omega) (fun y hy => ha y (by simp at hy ⊢; rcases hy with h | h <;> simp [h])) (fun y hy => hc y (by simp [hy])) ((alike_mid sym hp).mp h)
    refine ⟨down s p.length ++ l, ?_⟩
    show ((pull M x (p ++ x :: q)).bind fun k => (xch M ((p ++ x :: q).eraseIdx k) t (s + 1)).map fun l => down s k ++ l) = _
    rw [pull_at hp]
    show (xch M ((p ++ x :: q).eraseIdx p.length) t (s + 1)).map _ = _
    rw [erase_mid, hl2]
    rfl
include sym in
theorem of_xch : ∀ (c a : List Int) (s : Nat) (l : List Int), a.length = c.length → xch M a c s = some l → Alike M R a c
  | [], a, s, l, hl, h => by
    have : a = [] := List.eq_nil_of_length_eq_zero hl
    subst this
    intro _ _ _ _ _
    rfl
  | x :: t, a, s, l, hl, h => by
    obtain ⟨k, hk, h⟩ := Option.bind_eq_some_iff.mp (show (pull M x a).bind (fun k => (xch M (a.eraseIdx k) t (s + 1)).map fun l => down s k ++ l) = some l from h)
    obtain ⟨l2, h2, rfl⟩ := Option.map_eq_some_iff.mp h
    obtain ⟨p, q, rfl, rfl, hp⟩ := pull_split hk
    rw [erase_mid] at h2
    exact (alike_mid sym hp).mpr (of_xch t (p ++ q) (s + 1) l2 (by simp at hl ⊢; omega) h2)
end
/-! how many exchanges -/
def pos : List Int → Int → Nat → Nat
  | [], _, _ => 0
  | y :: ys, x, j => if y = x then (match j with
    | 0 => 0
    | j + 1 => pos ys x j + 1) else pos ys x j + 1
def line (c : List Int) : List Int → List Int → List Nat
  | _, [] => []
  | seen, y :: ys => pos c y (seen.count y) :: line c (seen ++ [y]) ys
def inv : List Nat → List Nat → Nat
  | _, [] => 0
  | pre, v :: vs => (pre.filter fun w => decide (v < w)).length + inv (pre ++ [v]) vs
theorem line_app (c : List Int) : ∀ (p q seen : List Int), line c seen (p ++ q) = line c seen p ++ line c (seen ++ p) q
  | [], q, seen => by simp [line]
  | y :: p, q, seen => by
    show pos c y (seen.count y) :: line c (seen ++ [y]) (p ++ q) = _
    rw [line_app c p q]
    simp [line]
theorem line_len (c : List Int) : ∀ (p seen : List Int), (line c seen p).length = p.length
  | [], _ => rfl
  | y :: p, seen => by simp [line, line_len c p]
theorem line_ne {x : Int} {t : List Int} : ∀ (p seen : List Int), (∀ y ∈ p, y ≠ x) → line (x :: t) seen p = (line t seen p).map (· + 1)
  | [], _, _ => rfl
  | y :: p, seen, h => by
    show pos (x :: t) y (seen.count y) :: line (x :: t) (seen ++ [y]) p = (pos t y (seen.count y) + 1) :: (line t (seen ++ [y]) p).map (· + 1)
    rw [line_ne p (seen ++ [y]) fun z hz => h z (by simp [hz])]
    have : pos (x :: t) y (seen.count y) = pos t y (seen.count y) + 1 := by
      show (if x = y then _ else _) = _
      rw [if_neg (fun e => h y (by simp) e.symm)]
    rw [this]
theorem line_behind {x : Int} {t : List Int} : ∀ (q seen seen' : List Int), (∀ y, seen'.count y = seen.count y + if y = x then 1 else 0) → line (x :: t) seen' q = (line t seen q).map (· + 1)
  | [], _, _, _ => rfl
  | y :: q, seen, seen', h => by
    show pos (x :: t) y (seen'.count y) :: line (x :: t) (seen' ++ [y]) q = (pos t y (seen.count y) + 1) :: (line t (seen ++ [y]) q).map (· + 1)
    rw [line_behind q (seen ++ [y]) (seen' ++ [y]) fun z => by rw [List.count_append, List.count_append, h z]; omega]
    have : pos (x :: t) y (seen'.count y) = pos t y (seen.count y) + 1 := by
      rw [h y]
      by_cases e : y = x
      · subst e
        rw [if_pos rfl]
        show (if y = y then _ else _) = _
        rw [if_pos rfl]
      · rw [if_neg e]
        show (if x = y then _ else _) = _
        rw [if_neg (fun e2 => e e2.symm)]
        rfl
    rw [this]
theorem line_mid {x : Int} {t p q : List Int} (hp : ∀ y ∈ p, y ≠ x) : line (x :: t) [] (p ++ x :: q) = (line t [] p).map (· + 1) ++ 0 :: (line t p q).map (· + 1) := by
  rw [line_app, line_ne p [] hp]
  congr 1
  show pos (x :: t) x (([] ++ p).count x) :: line (x :: t) (([] ++ p) ++ [x]) q = _
  have hc : p.count x = 0 := List.count_eq_zero.mpr fun h => hp x h rfl
  rw [List.nil_append, hc]
  congr 1
  · show (if x = x then _ else _) = _
    rw [if_pos rfl]
  · refine line_behind q p (p ++ [x]) fun y => ?_
    rw [List.count_append]
    by_cases e : y = x
    · subst e; simp
    · rw [if_neg e, show [x].count y = 0 from List.count_eq_zero.mpr (by simpa using e)]
theorem inv_app : ∀ (a c pre : List Nat), inv pre (a ++ c) = inv pre a + inv (pre ++ a) c
  | [], c, pre => by simp [inv]
  | v :: a, c, pre => by
    show (pre.filter fun w => decide (v < w)).length + inv (pre ++ [v]) (a ++ c) = _
    rw [inv_app a c]
    simp [inv, Nat.add_assoc]
theorem fil_succ (v : Nat) (pre : List Nat) : ((pre.map (· + 1)).filter fun w => decide (v + 1 < w)).length = (pre.filter fun w => decide (v < w)).length := by
  rw [List.filter_map, List.length_map]
  congr 1
  apply List.filter_congr
  intro x _
  simp
theorem inv_succ : ∀ (a pre : List Nat), inv (pre.map (· + 1)) (a.map (· + 1)) = inv pre a
  | [], _ => rfl
  | v :: a, pre => by
    show ((pre.map (· + 1)).filter fun w => decide (v + 1 < w)).length + inv (pre.map (· + 1) ++ [v + 1]) (a.map (· + 1)) = (pre.filter fun w => decide (v < w)).length + inv (pre ++ [v]) a
    rw [fil_succ, ← inv_succ a (pre ++ [v])]
    simp
theorem inv_zero : ∀ (c pre1 pre2 : List Nat), inv (pre1.map (· + 1) ++ 0 :: pre2.map (· + 1)) (c.map (· + 1)) = inv (pre1 ++ pre2) c
  | [], _, _ => rfl
  | v :: c, pre1, pre2 => by
    show ((pre1.map (· + 1) ++ 0 :: pre2.map (· + 1)).filter fun w => decide (v + 1 < w)).length + inv ((pre1.map (· + 1) ++ 0 :: pre2.map (· + 1)) ++ [v + 1]) (c.map (· + 1)) = ((pre1 ++ pre2).filter fun w => decide (v < w)).length + inv (pre1 ++ pre2 ++ [v]) c
    have e : (pre1.map (· + 1) ++ 0 :: pre2.map (· + 1)) ++ [v + 1] = pre1.map (· + 1) ++ 0 :: (pre2 ++ [v]).map (· + 1) := by simp
    rw [e, inv_zero c pre1 (pre2 ++ [v]), List.filter_append, List.filter_cons, if_neg (by simp), List.length_append, fil_succ, fil_succ, List.filter_append, List.length_append]
    simp
theorem inv_mid {x : Int} {t p q : List Int} (hp : ∀ y ∈ p, y ≠ x) : inv [] (line (x :: t) [] (p ++ x :: q)) = p.length + inv [] (line t [] (p ++ q)) := by
  rw [line_mid hp, line_app, List.nil_append]
  rw [inv_app, List.nil_append]
  have h1 := inv_succ (line t [] p) []
  rw [List.map_nil] at h1
  rw [h1]
  show inv [] (line t [] p) + ((((line t [] p).map (· + 1)).filter fun w => decide (0 < w)).length + inv ((line t [] p).map (· + 1) ++ [0]) ((line t p q).map (· + 1))) = _
  have h2 := inv_zero (line t p q) (line t [] p) []
  rw [List.map_nil, List.append_nil] at h2
  rw [h2, inv_app]
  have h3 : ((line t [] p).map (· + 1)).filter (fun w => decide (0 < w)) = (line t [] p).map (· + 1) := by
    rw [List.filter_eq_self]
    intro w hw
    obtain ⟨v, _, rfl⟩ := List.mem_map.mp hw
    simp
  rw [h3, List.length_map, line_len, List.nil_append]
  omega
theorem xch_len {M : Int → Int → Bool} : ∀ (c a : List Int) (s : Nat) (l : List Int), a.length = c.length → xch M a c s = some l → l.length = inv [] (line c [] a)
  | [], a, s, l, hl, h => by
    have : a = [] := List.eq_nil_of_length_eq_zero hl
    subst this
    cases h
    rfl
  | x :: t, a, s, l, hl, h => by
    obtain ⟨k, hk, h⟩ := Option.bind_eq_some_iff.mp (show (pull M x a).bind (fun k => (xch M (a.eraseIdx k) t (s + 1)).map fun l => down s k ++ l) = some l from h)
    obtain ⟨l2, h2, rfl⟩ := Option.map_eq_some_iff.mp h
    obtain ⟨p, q, rfl, rfl, hp⟩ := pull_split hk
    rw [erase_mid] at h2
    rw [List.length_append, xch_len t (p ++ q) (s + 1) l2 (by simp at hl ⊢; omega) h2, inv_mid fun y hy => (hp y hy).1]
    simp [down]
/-! where they lead -/
def ex1 (a : List Int) (s : Nat) : List Int := (a.set s (a.getD (s + 1) 0)).set (s + 1) (a.getD s 0)
/-- exchanges of strangers, in turn -/
def swaps (M : Int → Int → Bool) : List Int → List Int → Option (List Int)
  | a, [] => some a
  | a, i :: l => if (0 ≤ i ∧ i + 1 < a.length) ∧ M (a.getD i.toNat 0) (a.getD (i.toNat + 1) 0) = false then swaps M (ex1 a i.toNat) l else none
theorem ex1_mid (A B : List Int) (x y : Int) : ex1 (A ++ x :: y :: B) A.length = A ++ y :: x :: B := by
  unfold ex1
  have h1 : (A ++ x :: y :: B).getD A.length 0 = x := by simp [List.getD]
  have h2 : (A ++ x :: y :: B).getD (A.length + 1) 0 = y := by
    simp [List.getD, List.getElem?_append_right]
  rw [h1, h2, set_two]
theorem getD_mid (A B : List Int) (x y : Int) : (A ++ x :: y :: B).getD A.length 0 = x ∧ (A ++ x :: y :: B).getD (A.length + 1) 0 = y := by
  constructor
  · simp [List.getD]
  · simp [List.getD, List.getElem?_append_right]
theorem down_succ (s k : Nat) : down s (k + 1) = ((s + k : Nat) : Int) :: down s k := by
  unfold down
  rw [List.range_succ, List.reverse_append]
  rfl
theorem swaps_down {M : Int → Int → Bool} {x : Int} {l : List Int} (d : List Int) : ∀ (k : Nat) (p q : List Int), p.length = k → (∀ y ∈ p, M y x = false) → swaps M (d ++ p ++ x :: q) (down d.length k ++ l) = swaps M (d ++ x :: (p ++ q)) l
  | 0, p, q, hk, _ => by
    have : p = [] := List.eq_nil_of_length_eq_zero hk
    subst this
    simp [down]
  | k + 1, p, q, hk, hp => by
    obtain ⟨p', y, rfl⟩ : ∃ p' y, p = p' ++ [y] := ⟨p.dropLast, p.getLast (by intro e; rw [e] at hk; cases hk), (List.dropLast_concat_getLast _).symm⟩
    have hk' : p'.length = k := by simpa using hk
    have e : d ++ (p' ++ [y]) ++ x :: q = (d ++ p') ++ y :: x :: q := by simp
    rw [down_succ, e]
    have hl : (d ++ p').length = d.length + k := by simp [hk']
    obtain ⟨g1, g2⟩ := getD_mid (d ++ p') q y x
    rw [hl] at g1 g2
    show (if (0 ≤ ((d.length + k : Nat) : Int) ∧ ((d.length + k : Nat) : Int) + 1 < ((d ++ p') ++ y :: x :: q).length) ∧ M (((d ++ p') ++ y :: x :: q).getD ((d.length + k : Nat) : Int).toNat 0) (((d ++ p') ++ y :: x :: q).getD (((d.length + k : Nat) : Int).toNat + 1) 0) = false then swaps M (ex1 ((d ++ p') ++ y :: x :: q) ((d.length + k : Nat) : Int).toNat) (down d.length k ++ l) else none) = _
    rw [show ((d.length + k : Nat) : Int).toNat = d.length + k by omega, g1, g2, if_pos ⟨⟨by omega, by simp; omega⟩, hp y (by simp)⟩]
    have h1 := ex1_mid (d ++ p') q y x
    rw [hl] at h1
    rw [h1, swaps_down d k p' (y :: q) hk' fun z hz => hp z (by simp [hz])]
    simp
theorem xch_swaps {M : Int → Int → Bool} : ∀ (c a : List Int) (d l : List Int), a.length = c.length → xch M a c d.length = some l → swaps M (d ++ a) l = some (d ++ c)
  | [], a, d, l, hl, h => by
    have : a = [] := List.eq_nil_of_length_eq_zero hl
    subst this
    cases h
    rfl
  | x :: t, a, d, l, hl, h => by
    obtain ⟨k, hk, h⟩ := Option.bind_eq_some_iff.mp (show (pull M x a).bind (fun k => (xch M (a.eraseIdx k) t (d.length + 1)).map fun l => down d.length k ++ l) = some l from h)
    obtain ⟨l2, h2, rfl⟩ := Option.map_eq_some_iff.mp h
    obtain ⟨p, q, rfl, rfl, hp⟩ := pull_split hk
    rw [erase_mid] at h2
    rw [← List.append_assoc, swaps_down d p.length p q rfl fun y hy => (hp y hy).2]
    have h3 := xch_swaps (M := M) t (p ++ q) (d ++ [x]) l2 (by simp at hl ⊢; omega) (by rw [List.length_append]; exact h2)
    simpa using h3
end K06
set_option linter.all false
set_option autoImplicit false
set_option maxRecDepth 100000
namespace K06
open Pv
local macro_rules | `(tactic| exact om) => `(tactic| first | omega | (simp; done) | (simp; omega) | (simp at *; omega))
local macro_rules | `(tactic| exact own) => `(tactic| first | exact at_own (i := 0) rfl | exact at_own (i := 1) rfl | exact at_own (i := 2) rfl | exact at_own (i := 3) rfl | exact at_own (i := 4) rfl | exact at_own (i := 5) rfl | exact at_own (i := 6) rfl | exact at_own (i := 7) rfl | exact at_own (i := 8) rfl | exact at_own (i := 9) rfl | exact at_own (i := 10) rfl | exact at_own (i := 11) rfl | exact at_own (i := 12) rfl | exact at_own (i := 13) rfl | exact at_own (i := 14) rfl | assumption | apply_assumption)
local macro_rules | `(tactic| exact its) => `(tactic| first | exact its_tup | exact its_fr | exact its_scr | (refine its_loc ?_; exact own) | exact lst_fr | (refine lst_loc ?_; exact own) | exact it_tup | exact it_fr | (refine it_loc ?_; exact own))
local macro_rules | `(tactic| exact wk) => `(tactic| (repeat (first | exact Less.nil | refine Less.same ?_ | refine Less.no ?_)))
local macro_rules | `(tactic| exact ln) => `(tactic| first | refine ln_map its_tup ?_ | refine ln_map its_fr ?_ | refine ln_map (its_loc (at_own (i := 0) rfl)) ?_ | refine ln_map (its_loc (at_own (i := 1) rfl)) ?_ | refine ln_map (its_loc (at_own (i := 2) rfl)) ?_ | refine ln_map (its_loc (at_own (i := 3) rfl)) ?_ | refine ln_map (its_loc (at_own (i := 4) rfl)) ?_ | refine ln_map (its_loc (at_own (i := 5) rfl)) ?_ | refine ln_map (its_loc (at_own (i := 6) rfl)) ?_ | refine ln_map (its_loc (at_own (i := 7) rfl)) ?_ | refine ln_map (its_loc (at_own (i := 8) rfl)) ?_ | refine ln_map (its_loc (at_own (i := 9) rfl)) ?_ | refine ln_map (its_loc (at_own (i := 10) rfl)) ?_ | refine ln_map (its_loc (at_own (i := 11) rfl)) ?_ | refine ln_map (its_loc (at_own (i := 12) rfl)) ?_ | refine ln_map (its_loc (at_own (i := 13) rfl)) ?_ | refine ln_map (its_loc (at_own (i := 14) rfl)) ?_ | refine ln_map (its_loc (at_own (i := 15) rfl)) ?_ | refine ln_of its_tup ?_ | refine ln_of its_fr ?_ | refine ln_of (its_loc (at_own (i := 0) rfl)) ?_ | refine ln_of (its_loc (at_own (i := 1) rfl)) ?_ | refine ln_of (its_loc (at_own (i := 2) rfl)) ?_ | refine ln_of (its_loc (at_own (i := 3) rfl)) ?_ | refine ln_of (its_loc (at_own (i := 4) rfl)) ?_ | refine ln_of (its_loc (at_own (i := 5) rfl)) ?_ | refine ln_of (its_loc (at_own (i := 6) rfl)) ?_ | refine ln_of (its_loc (at_own (i := 7) rfl)) ?_ | refine ln_of (its_loc (at_own (i := 8) rfl)) ?_ | refine ln_of (its_loc (at_own (i := 9) rfl)) ?_ | refine ln_of (its_loc (at_own (i := 10) rfl)) ?_ | refine ln_of (its_loc (at_own (i := 11) rfl)) ?_ | refine ln_of (its_loc (at_own (i := 12) rfl)) ?_ | refine ln_of (its_loc (at_own (i := 13) rfl)) ?_ | refine ln_of (its_loc (at_own (i := 14) rfl)) ?_ | refine ln_of (its_loc (at_own (i := 15) rfl)) ?_)
local macro_rules | `(tactic| exact wx1) => `(tactic| first | refine vx_var rfl ?_ | refine vx_own rfl ?_ | refine vx_cn ?_ | refine vl_nil ?_ | refine vl_cons ?_ | refine ex_int ?_ | refine ex_bl ?_ | refine ex_d ?_ | refine vx_bin ?_ | refine vx_cmp ?_ | refine vx_f2 ?_ | refine vx_idx ?_ | refine vx_f1 ?_ | refine vx_isi ?_ | refine vx_neg ?_ | refine vx_tup ?_ | refine vx_lst ?_ | refine vx_sl ?_ | refine vx_rev ?_ | refine rv_tup ?_ | refine vo_none ?_ | refine vo_some ?_ | refine bin_add ?_ | refine bin_sub ?_ | refine vt_b rfl (vx_isi ?_) | refine is_ty (fun _ => rfl) ?_ | refine vt_cmp ?_ | refine vt_not ?_ | refine vt_and ?_ | refine vt_or ?_ | refine c_lt ?_ | refine c_le ?_ | refine c_gt ?_ | refine c_ge ?_ | refine c_eq ?_ | refine c_ne ?_ | refine c_is ?_ | refine c_isn ?_ | exact ln | refine in_of ?_ | refine vf_nil ?_ | refine vf_one ?_ | refine sl_tup ?_ | refine ix_of its_tup (atI_0 _ _) ?_ | refine ix_of its_tup (atI_1 _ _ _) ?_ | refine ix_of its_tup (atI_2 _ _ _ _) ?_ | refine vi_e ?_ | refine vi_enum ?_ | refine vi_rng0 ?_)
local macro_rules | `(tactic| exact wx) => `(tactic| repeat (first | exact wx1 | (refine put_d ?_; dsimp only [List.set])))
local macro_rules | `(tactic| exact wxt) => `(tactic| repeat (first | exact wx1 | (refine put_d ?_; dsimp only [List.set]) | (refine ⟨le_ok (by simp; done), ?_⟩)))
local macro_rules | `(tactic| exact asg) => `(tactic| (refine vs_asg (by assumption) ?_; exact wx))
local macro_rules | `(tactic| exact ret) => `(tactic| (refine vs_ret ?_; exact wx))
local macro_rules | `(tactic| exact iff1) => `(tactic| (refine vs_if1 ?_; exact wx))

/-! ### strangers, first places -/
theorem ok_str {n : Nat} {S : Sto} {h x y : Int} {L : List (List Int)} (x0 : 0 ≤ x) (x1 : x < L.length) (y0 : 0 ≤ y) (y1 : y < L.length) : Ok (callN T (n + 1) 0 [webD h L, .int x, .int y] S) fun r => r = (.d (.bl (!N L x y)), S) := by
  refine fn_p (d := ⟨"are_strangers", 3, 4, b_are_strangers⟩) rfl rfl ?_
  dsimp only [b_are_strangers]
  have F := same_fm S
  rw [show ve0 4 [webD h L, .int x, .int y] = [.d (webD h L), .d (.int x), .d (.int y), .no] from rfl]
  refine vs_for (c := []) (xs := (lot L x).map .int) (fun k ve => ve = [.d (webD h L), .d (.int x), .d (.int y), .no] ∧ ∀ z ∈ (lot L x).take k, z ∉ lot L y) ?_ ⟨rfl, by simp⟩ (fun _ _ _ => at_nil) ?_ ?_
  · exact wx
    refine ix_map [] its_tup x0 x1 ?_
    exact ⟨_, _, it_tup, rfl, rfl⟩
  · rintro k d ve hd ⟨rfl, hk⟩
    rw [List.getElem?_map] at hd
    obtain ⟨z, hz, rfl⟩ := Option.map_eq_some_iff.mp hd
    refine vg_var ?_
    dsimp only [List.set, b_are_strangers_1]
    refine vs_if1 ?_
    exact wx
    refine ix_map [] its_tup y0 y1 ?_
    refine c_in its_tup ⟨fun hz2 => vs_ret ?_, fun hz2 => vs_nil ⟨_, ⟨rfl, ?_⟩, ?_⟩⟩
    · exact wx
      refine ret_p rfl ?_
      have : N L x y = true := share_iff.mpr ⟨z, nth_mem hz, inn_mem.mp hz2⟩
      rw [this]
      rfl
    · rw [take_succ' hz]
      intro w hw
      rcases List.mem_append.mp hw with hw | hw
      · exact hk w hw
      · rw [List.mem_singleton.mp hw]
        intro h2
        have hz2 : inn z (lot L y) = false := hz2
        rw [inn_mem.mpr h2] at hz2
        cases hz2
    · exact wk
  · rintro ve ⟨rfl, hk⟩
    refine vs_ret ?_
    exact wx
    refine ret_p rfl ?_
    rw [List.length_map, List.take_length] at hk
    have : N L x y = false := by
      rw [Bool.eq_false_iff]
      intro h2
      obtain ⟨z, h3, h4⟩ := share_iff.mp h2
      exact hk z h3 h4
    rw [this]
    rfl
def plD (o : Option Nat) (s : Nat) : D := match o with
  | none => .non
  | some k => .int ((s + k : Nat) : Int)
theorem ok_free {n p s : Nat} {S : Sto} {h x : Int} {L : List (List Int)} {a : List Int} (hp : S[p]? = some (.lst (a.map .int))) (hr : Rng L a) (x0 : 0 ≤ x) (x1 : x < L.length) (hs : s ≤ a.length) (hl : a.length < 1000) :
    Ok (callN T (n + 2) 1 [webD h L, .loc p, .int (s : Nat), .int x] S) fun r => r = (.d (plD (pull (N L) x (a.drop s)) s), S) := by
  refine fn_p (d := ⟨"free_place", 4, 5, b_free_place⟩) rfl rfl ?_
  dsimp only [b_free_place]
  have F := same_fm S
  rw [show ve0 5 [webD h L, .loc p, .int (s : Nat), .int x] = [.d (webD h L), .d (.loc p), .d (.int (s : Nat)), .d (.int x), .no] from rfl]
  have hat : ∀ ve, At (Same S) S.length ve fun S' => S'[p]? = some (.lst (a.map .int)) := fun ve => at_g fun S' h => Same.at h hp
  refine vs_for (c := []) (xs := rngD s a.length) (fun k ve => ve = [.d (webD h L), .d (.loc p), .d (.int s), .d (.int x), .no] ∧ pull (N L) x (a.drop s) = (pull (N L) x (a.drop (s + k))).map (· + k)) ?_ ⟨rfl, by simp⟩ (fun _ _ _ => at_nil) ?_ ?_
  · refine vi_rng ?_
    exact wx
    refine ln_map (its_loc (hat _)) ?_
    exact wx
    exact ⟨⟨by exact om, by exact om⟩, ⟨by exact om, by exact om⟩, rfl, rfl⟩
  · rintro k d ve hd ⟨rfl, hk⟩
    obtain ⟨rfl, hlt⟩ := rngD_get hd
    have hj : s + k < a.length := by omega
    have hc : a.drop (s + k) = a[s + k] :: a.drop (s + k + 1) := List.drop_eq_getElem_cons hj
    have hat2 : atI (a.map .int) ((s : Int) + (k : Nat)) = some (.int a[s + k]) := atI_nat (j := s + k) (by rw [List.getElem?_map, nth_of hj]; rfl)
    obtain ⟨y0, y1⟩ := hr a[s + k] (List.getElem_mem hj)
    refine vg_var ?_
    dsimp only [List.set, b_free_place_1]
    refine vs_if1 ?_
    exact wx
    refine ix_of (its_loc (hat _)) hat2 ?_
    exact wx
    refine ⟨fun he => vs_ret ?_, fun he => vs_if1 ?_⟩
    · exact wx
      refine ret_p rfl ?_
      have he : a[s + k] = x := by simpa using he
      rw [hk, hc]
      unfold pull
      rw [if_pos he]
      show some (Vl.d (.int ((s : Int) + (k : Nat)))) = some (Vl.d (.int ((s + (0 + k) : Nat) : Int)))
      congr 3
      omega
    · have he : ¬ a[s + k] = x := by simpa using he
      exact wx
      refine vt_b rfl (vx_callP (same_fm S) ?_)
      exact wx
      refine ix_of (its_loc (hat _)) hat2 ?_
      exact wx
      refine ⟨_, rfl, fun e S' R => ok_str (n := n) y0 y1 x0 x1, _, rfl, fun hN => vs_ret ?_, fun hN => vs_nil ⟨_, ⟨rfl, ?_⟩, by exact wk⟩⟩
      · exact wx
        refine ret_p rfl ?_
        have hN : N L a[s + k] x = true := by simpa using hN
        rw [hk, hc]
        unfold pull
        rw [if_neg he, if_pos hN]
        rfl
      · have hN : ¬ N L a[s + k] x = true := by simpa using hN
        rw [hk, hc]
        conv => lhs; unfold pull
        rw [if_neg he, if_neg hN, Option.map_map]
        congr 1
        funext z
        simp
        omega
  · rintro ve ⟨rfl, hk⟩
    refine vs_ret ?_
    exact wx
    refine ret_p rfl ?_
    rw [rngD_len, show ((a.length : Int) - (s : Int)).toNat = a.length - s by omega, show s + (a.length - s) = a.length by omega, List.drop_length] at hk
    rw [hk]
    rfl
end K06
set_option linter.all false
set_option autoImplicit false
set_option maxRecDepth 100000
namespace K06
open Pv
local macro_rules | `(tactic| exact om) => `(tactic| first | omega | (simp; done) | (simp; omega) | (simp at *; omega))
local macro_rules | `(tactic| exact own) => `(tactic| first | exact at_own (i := 0) rfl | exact at_own (i := 1) rfl | exact at_own (i := 2) rfl | exact at_own (i := 3) rfl | exact at_own (i := 4) rfl | exact at_own (i := 5) rfl | exact at_own (i := 6) rfl | exact at_own (i := 7) rfl | exact at_own (i := 8) rfl | exact at_own (i := 9) rfl | exact at_own (i := 10) rfl | exact at_own (i := 11) rfl | exact at_own (i := 12) rfl | exact at_own (i := 13) rfl | exact at_own (i := 14) rfl | assumption | apply_assumption)
local macro_rules | `(tactic| exact its) => `(tactic| first | exact its_tup | exact its_fr | exact its_scr | (refine its_loc ?_; exact own) | exact lst_fr | (refine lst_loc ?_; exact own) | exact it_tup | exact it_fr | (refine it_loc ?_; exact own))
local macro_rules | `(tactic| exact wk) => `(tactic| (repeat (first | exact Less.nil | refine Less.same ?_ | refine Less.no ?_)))
local macro_rules | `(tactic| exact ln) => `(tactic| first | refine ln_map its_tup ?_ | refine ln_map its_fr ?_ | refine ln_map (its_loc (at_own (i := 0) rfl)) ?_ | refine ln_map (its_loc (at_own (i := 1) rfl)) ?_ | refine ln_map (its_loc (at_own (i := 2) rfl)) ?_ | refine ln_map (its_loc (at_own (i := 3) rfl)) ?_ | refine ln_map (its_loc (at_own (i := 4) rfl)) ?_ | refine ln_map (its_loc (at_own (i := 5) rfl)) ?_ | refine ln_map (its_loc (at_own (i := 6) rfl)) ?_ | refine ln_map (its_loc (at_own (i := 7) rfl)) ?_ | refine ln_map (its_loc (at_own (i := 8) rfl)) ?_ | refine ln_map (its_loc (at_own (i := 9) rfl)) ?_ | refine ln_map (its_loc (at_own (i := 10) rfl)) ?_ | refine ln_map (its_loc (at_own (i := 11) rfl)) ?_ | refine ln_map (its_loc (at_own (i := 12) rfl)) ?_ | refine ln_map (its_loc (at_own (i := 13) rfl)) ?_ | refine ln_map (its_loc (at_own (i := 14) rfl)) ?_ | refine ln_map (its_loc (at_own (i := 15) rfl)) ?_ | refine ln_of its_tup ?_ | refine ln_of its_fr ?_ | refine ln_of (its_loc (at_own (i := 0) rfl)) ?_ | refine ln_of (its_loc (at_own (i := 1) rfl)) ?_ | refine ln_of (its_loc (at_own (i := 2) rfl)) ?_ | refine ln_of (its_loc (at_own (i := 3) rfl)) ?_ | refine ln_of (its_loc (at_own (i := 4) rfl)) ?_ | refine ln_of (its_loc (at_own (i := 5) rfl)) ?_ | refine ln_of (its_loc (at_own (i := 6) rfl)) ?_ | refine ln_of (its_loc (at_own (i := 7) rfl)) ?_ | refine ln_of (its_loc (at_own (i := 8) rfl)) ?_ | refine ln_of (its_loc (at_own (i := 9) rfl)) ?_ | refine ln_of (its_loc (at_own (i := 10) rfl)) ?_ | refine ln_of (its_loc (at_own (i := 11) rfl)) ?_ | refine ln_of (its_loc (at_own (i := 12) rfl)) ?_ | refine ln_of (its_loc (at_own (i := 13) rfl)) ?_ | refine ln_of (its_loc (at_own (i := 14) rfl)) ?_ | refine ln_of (its_loc (at_own (i := 15) rfl)) ?_)
local macro_rules | `(tactic| exact wx1) => `(tactic| first | refine vx_var rfl ?_ | refine vx_own rfl ?_ | refine vx_cn ?_ | refine vl_nil ?_ | refine vl_cons ?_ | refine ex_int ?_ | refine ex_bl ?_ | refine ex_d ?_ | refine vx_bin ?_ | refine vx_cmp ?_ | refine vx_f2 ?_ | refine vx_idx ?_ | refine vx_f1 ?_ | refine vx_isi ?_ | refine vx_neg ?_ | refine vx_tup ?_ | refine vx_lst ?_ | refine vx_sl ?_ | refine vx_rev ?_ | refine rv_tup ?_ | refine vo_none ?_ | refine vo_some ?_ | refine bin_add ?_ | refine bin_sub ?_ | refine vt_b rfl (vx_isi ?_) | refine is_ty (fun _ => rfl) ?_ | refine vt_cmp ?_ | refine vt_not ?_ | refine vt_and ?_ | refine vt_or ?_ | refine c_lt ?_ | refine c_le ?_ | refine c_gt ?_ | refine c_ge ?_ | refine c_eq ?_ | refine c_ne ?_ | refine c_is ?_ | refine c_isn ?_ | exact ln | refine in_of ?_ | refine vf_nil ?_ | refine vf_one ?_ | refine sl_tup ?_ | refine ix_of its_tup (atI_0 _ _) ?_ | refine ix_of its_tup (atI_1 _ _ _) ?_ | refine ix_of its_tup (atI_2 _ _ _ _) ?_ | refine vi_e ?_ | refine vi_enum ?_ | refine vi_rng0 ?_)
local macro_rules | `(tactic| exact wx) => `(tactic| repeat (first | exact wx1 | (refine put_d ?_; dsimp only [List.set])))
local macro_rules | `(tactic| exact wxt) => `(tactic| repeat (first | exact wx1 | (refine put_d ?_; dsimp only [List.set]) | (refine ⟨le_ok (by simp; done), ?_⟩)))
local macro_rules | `(tactic| exact asg) => `(tactic| (refine vs_asg (by assumption) ?_; exact wx))
local macro_rules | `(tactic| exact ret) => `(tactic| (refine vs_ret ?_; exact wx))
local macro_rules | `(tactic| exact iff1) => `(tactic| (refine vs_if1 ?_; exact wx))

/-! ### exchanges, walked -/
theorem set_row (A B : List Int) (y x : Int) : (((A ++ y :: x :: B).map D.int).set A.length (.int x)).set (A.length + 1) (.int y) = (A ++ x :: y :: B).map D.int := by
  rw [← set_two A B y x, List.map_set, List.map_set]
theorem at_mid (A B : List Int) (y x : Int) : atI ((A ++ y :: x :: B).map D.int) (A.length : Nat) = some (.int y) ∧ atI ((A ++ y :: x :: B).map D.int) ((A.length : Int) + 1) = some (.int x) := by
  refine ⟨atI_nat ?_, atI_nat (j := A.length + 1) ?_⟩
  · simp
  · rw [List.getElem?_map, List.getElem?_append_right (by omega)]
    simp
section
variable {n k j : Nat} {S : Sto} {h x : Int} {L : List (List Int)} {one row P q pl d : List Int} {Q : Fl → List Sl → Prop}
theorem ok_xw {np lp : Nat} (hd : d.length = k) (hP : P.length = j) (hk : k + j < 1000) (hpl : pl.length < 1000000)
    (hq : Q .nx [.d (webD h L), .d (lotD one), .d (lotD row), .o np (.lst ((d ++ x :: (P ++ q)).map .int)), .o lp (.lst ((pl ++ down k j).map .int)), .d (.int (k : Nat)), .d (.int x), .d (.int (k : Nat))]) :
    VS (callN T n) (Same S) S.length (.cons (.while (.cmp .gt (.var 7) (.var 5)) b_exchange_row_1) .nil) [.d (webD h L), .d (lotD one), .d (lotD row), .o np (.lst ((d ++ P ++ x :: q).map .int)), .o lp (.lst (pl.map .int)), .d (.int (k : Nat)), .d (.int x), .d (.int ((k + j : Nat) : Int))] Q := by
  have F := same_fm S
  refine vs_while (fun m ve => ∃ w, ve = [.d (webD h L), .d (lotD one), .d (lotD row), .o np (.lst ((d ++ P.take m ++ x :: (P.drop m ++ q)).map .int)), .o lp (.lst ((pl ++ w).map .int)), .d (.int (k : Nat)), .d (.int x), .d (.int ((k + m : Nat) : Int))] ∧ w ++ down k m = down k j ∧ m ≤ j) (m := j) (by omega) ⟨[], ?_, rfl, Nat.le_refl _⟩ ?_
  · rw [← hP, List.take_length, List.drop_length, List.append_nil]
    rfl
  · rintro m ve ⟨w, rfl, hw, hm⟩
    exact wx
    refine ⟨fun h0 => vs_nil ?_, fun h0 => ?_⟩
    · have : m = 0 := by
        have : ¬ ((k : Int) < ((k + m : Nat) : Int)) := by simpa using h0
        omega
      subst this
      have e : w = down k j := by rw [← hw]; simp [down]
      rw [e]
      simpa using hq
    · obtain ⟨i, rfl⟩ : ∃ i, m = i + 1 := ⟨m - 1, by
        have : (k : Int) < ((k + m : Nat) : Int) := by simpa using h0
        omega⟩
      have hi : i < P.length := by omega
      have hwl : w.length ≤ j := by
        have := congrArg List.length hw
        simp [down] at this
        omega
      have e1 : d ++ P.take (i + 1) ++ x :: (P.drop (i + 1) ++ q) = (d ++ P.take i) ++ P[i] :: x :: (P.drop (i + 1) ++ q) := by
        rw [List.take_succ_eq_append_getElem hi]
        simp only [List.append_assoc, List.cons_append, List.nil_append]
      have hA : (d ++ P.take i).length = k + i := by simp; omega
      have e2 : (d ++ P.take i) ++ x :: P[i] :: (P.drop (i + 1) ++ q) = d ++ P.take i ++ x :: (P.drop i ++ q) := by
        rw [List.drop_eq_getElem_cons hi]
        simp only [List.append_assoc, List.cons_append, List.nil_append]
      obtain ⟨a0, a1⟩ := at_mid (d ++ P.take i) (P.drop (i + 1) ++ q) P[i] x
      have s1 := set_row (d ++ P.take i) (P.drop (i + 1) ++ q) P[i] x
      rw [e2] at s1
      rw [← e1] at a0 a1 s1
      rw [hA] at a0 a1 s1
      dsimp only [b_exchange_row_1]
      refine vs_aug (v := ((k + (i + 1) : Nat) : Int)) rfl ?_
      exact wx
      refine ⟨1, ((k + i : Nat) : Int), rfl, by show some (((k + (i + 1) : Nat) : Int) - 1) = _; congr 1; omega, ?_⟩
      dsimp only [List.set]
      refine vs_asgG F ?_
      exact wx
      refine ix_of (its_loc (at_own (i := 3) rfl)) a1 ?_
      exact wx
      refine ix_of (its_loc (at_own (i := 3) rfl)) a0 ?_
      exact wx
      refine ⟨by exact om, ?_⟩
      exact wx
      refine vg_tup (vgs_cons (vg_sub F (i := 3) rfl (vx_own rfl rfl) ?_))
      exact wx
      refine ⟨by omega, by exact om, vgs_cons (vg_sub F (i := 3) rfl (vx_own rfl rfl) ?_)⟩
      exact wx
      refine ⟨by omega, by exact om, vgs_nil ?_⟩
      dsimp only [List.set]
      rw [show (((k + i : Nat) : Int)).toNat = k + i by omega, show (((k + i : Nat) : Int) + 1).toNat = k + i + 1 by omega, s1]
      refine vs_app F (i := 4) rfl (vx_own rfl rfl) ?_
      exact wx
      refine ⟨by exact om, vs_nil ⟨_, ⟨i, by omega, w ++ [((k + i : Nat) : Int)], ?_, ?_, by omega⟩, Less.refl _⟩⟩
      · dsimp only [List.set]
        simp
      · rw [← hw, down_succ]
        simp
end
end K06
set_option linter.all false
set_option autoImplicit false
set_option maxRecDepth 100000
namespace K06
open Pv
local macro_rules | `(tactic| exact om) => `(tactic| first | omega | (simp; done) | (simp; omega) | (simp at *; omega))
local macro_rules | `(tactic| exact own) => `(tactic| first | exact at_own (i := 0) rfl | exact at_own (i := 1) rfl | exact at_own (i := 2) rfl | exact at_own (i := 3) rfl | exact at_own (i := 4) rfl | exact at_own (i := 5) rfl | exact at_own (i := 6) rfl | exact at_own (i := 7) rfl | exact at_own (i := 8) rfl | exact at_own (i := 9) rfl | exact at_own (i := 10) rfl | exact at_own (i := 11) rfl | exact at_own (i := 12) rfl | exact at_own (i := 13) rfl | exact at_own (i := 14) rfl | assumption | apply_assumption)
local macro_rules | `(tactic| exact its) => `(tactic| first | exact its_tup | exact its_fr | exact its_scr | (refine its_loc ?_; exact own) | exact lst_fr | (refine lst_loc ?_; exact own) | exact it_tup | exact it_fr | (refine it_loc ?_; exact own))
local macro_rules | `(tactic| exact wk) => `(tactic| (repeat (first | exact Less.nil | refine Less.same ?_ | refine Less.no ?_)))
local macro_rules | `(tactic| exact ln) => `(tactic| first | refine ln_map its_tup ?_ | refine ln_map its_fr ?_ | refine ln_map (its_loc (at_own (i := 0) rfl)) ?_ | refine ln_map (its_loc (at_own (i := 1) rfl)) ?_ | refine ln_map (its_loc (at_own (i := 2) rfl)) ?_ | refine ln_map (its_loc (at_own (i := 3) rfl)) ?_ | refine ln_map (its_loc (at_own (i := 4) rfl)) ?_ | refine ln_map (its_loc (at_own (i := 5) rfl)) ?_ | refine ln_map (its_loc (at_own (i := 6) rfl)) ?_ | refine ln_map (its_loc (at_own (i := 7) rfl)) ?_ | refine ln_map (its_loc (at_own (i := 8) rfl)) ?_ | refine ln_map (its_loc (at_own (i := 9) rfl)) ?_ | refine ln_map (its_loc (at_own (i := 10) rfl)) ?_ | refine ln_map (its_loc (at_own (i := 11) rfl)) ?_ | refine ln_map (its_loc (at_own (i := 12) rfl)) ?_ | refine ln_map (its_loc (at_own (i := 13) rfl)) ?_ | refine ln_map (its_loc (at_own (i := 14) rfl)) ?_ | refine ln_map (its_loc (at_own (i := 15) rfl)) ?_ | refine ln_of its_tup ?_ | refine ln_of its_fr ?_ | refine ln_of (its_loc (at_own (i := 0) rfl)) ?_ | refine ln_of (its_loc (at_own (i := 1) rfl)) ?_ | refine ln_of (its_loc (at_own (i := 2) rfl)) ?_ | refine ln_of (its_loc (at_own (i := 3) rfl)) ?_ | refine ln_of (its_loc (at_own (i := 4) rfl)) ?_ | refine ln_of (its_loc (at_own (i := 5) rfl)) ?_ | refine ln_of (its_loc (at_own (i := 6) rfl)) ?_ | refine ln_of (its_loc (at_own (i := 7) rfl)) ?_ | refine ln_of (its_loc (at_own (i := 8) rfl)) ?_ | refine ln_of (its_loc (at_own (i := 9) rfl)) ?_ | refine ln_of (its_loc (at_own (i := 10) rfl)) ?_ | refine ln_of (its_loc (at_own (i := 11) rfl)) ?_ | refine ln_of (its_loc (at_own (i := 12) rfl)) ?_ | refine ln_of (its_loc (at_own (i := 13) rfl)) ?_ | refine ln_of (its_loc (at_own (i := 14) rfl)) ?_ | refine ln_of (its_loc (at_own (i := 15) rfl)) ?_)
local macro_rules | `(tactic| exact wx1) => `(tactic| first | refine vx_var rfl ?_ | refine vx_own rfl ?_ | refine vx_cn ?_ | refine vl_nil ?_ | refine vl_cons ?_ | refine ex_int ?_ | refine ex_bl ?_ | refine ex_d ?_ | refine vx_bin ?_ | refine vx_cmp ?_ | refine vx_f2 ?_ | refine vx_idx ?_ | refine vx_f1 ?_ | refine vx_isi ?_ | refine vx_neg ?_ | refine vx_tup ?_ | refine vx_lst ?_ | refine vx_sl ?_ | refine vx_rev ?_ | refine rv_tup ?_ | refine vo_none ?_ | refine vo_some ?_ | refine bin_add ?_ | refine bin_sub ?_ | refine vt_b rfl (vx_isi ?_) | refine is_ty (fun _ => rfl) ?_ | refine vt_cmp ?_ | refine vt_not ?_ | refine vt_and ?_ | refine vt_or ?_ | refine c_lt ?_ | refine c_le ?_ | refine c_gt ?_ | refine c_ge ?_ | refine c_eq ?_ | refine c_ne ?_ | refine c_is ?_ | refine c_isn ?_ | exact ln | refine in_of ?_ | refine vf_nil ?_ | refine vf_one ?_ | refine sl_tup ?_ | refine ix_of its_tup (atI_0 _ _) ?_ | refine ix_of its_tup (atI_1 _ _ _) ?_ | refine ix_of its_tup (atI_2 _ _ _ _) ?_ | refine vi_e ?_ | refine vi_enum ?_ | refine vi_rng0 ?_)
local macro_rules | `(tactic| exact wx) => `(tactic| repeat (first | exact wx1 | (refine put_d ?_; dsimp only [List.set])))
local macro_rules | `(tactic| exact wxt) => `(tactic| repeat (first | exact wx1 | (refine put_d ?_; dsimp only [List.set]) | (refine ⟨le_ok (by simp; done), ?_⟩)))
local macro_rules | `(tactic| exact asg) => `(tactic| (refine vs_asg (by assumption) ?_; exact wx))
local macro_rules | `(tactic| exact ret) => `(tactic| (refine vs_ret ?_; exact wx))
local macro_rules | `(tactic| exact iff1) => `(tactic| (refine vs_if1 ?_; exact wx))

def loD (o : Option (List Int)) : D := match o with
  | none => .non
  | some l => lotD l
def xrow (L : List (List Int)) (one two : List Int) : Option (List Int) := if one.length = two.length then xch (N L) one two 0 else none
theorem loD_pure (o : Option (List Int)) : (loD o).pure = true := by
  cases o with
  | none => rfl
  | some l => exact pure_ints l
theorem ok_xrow {n : Nat} {S : Sto} {h : Int} {L : List (List Int)} {one row : List Int} (ho : Rng L one) (ht : Rng L row) (hl1 : one.length < 900) (hl2 : row.length < 900) : Ok (callN T (n + 3) 2 [webD h L, lotD one, lotD row] S) fun r => r = (.d (loD (xrow L one row)), S) := by
  refine fn_p (d := ⟨"exchange_row", 3, 8, b_exchange_row⟩) rfl rfl ?_
  dsimp only [b_exchange_row]
  have F := same_fm S
  rw [show ve0 8 [webD h L, lotD one, lotD row] = [.d (webD h L), .d (lotD one), .d (lotD row), .no, .no, .no, .no, .no] from rfl]
  exact iff1
  refine ⟨fun hne => ?_, fun hne => ?_⟩
  · exact ret
    refine ret_p rfl ?_
    have : ¬ one.length = row.length := by
      intro e
      rw [e] at hne
      simp at hne
    unfold xrow
    rw [if_neg this]
    rfl
  have hlen : one.length = row.length := by
    have : (one.length : Int) = row.length := by simpa using hne
    omega
  exact asg
  refine ls_of its_tup (put_fr fun np => ?_)
  dsimp only [List.set]
  exact asg
  refine ⟨by simp, put_fr fun lp => ?_⟩
  dsimp only [List.set]
  refine vs_for (c := []) (xs := enumD (row.map .int)) (fun k ve => ∃ a pl, ve = [.d (webD h L), .d (lotD one), .d (lotD row), .o np (.lst ((row.take k ++ a).map .int)), .o lp (.lst (pl.map .int)), .no, .no, .no] ∧ xch (N L) one row 0 = (xch (N L) a (row.drop k) k).map (pl ++ ·) ∧ a.length + k = row.length ∧ Rng L a ∧ pl.length ≤ 900 * k) ?_ ⟨one, [], rfl, ?_, by omega, ho, by simp⟩ (fun _ _ _ => at_nil) ?_ ?_
  · exact wx
    exact ⟨_, _, it_tup, rfl, rfl⟩
  · rw [List.drop_zero]
    cases xch (N L) one row 0 <;> simp
  · rintro k d ve hd ⟨a, pl, rfl, hx, hla, hra, hpl⟩
    obtain ⟨d2, rfl, hd2⟩ := enumD_get hd
    rw [List.getElem?_map] at hd2
    obtain ⟨x, hx2, rfl⟩ := Option.map_eq_some_iff.mp hd2
    obtain ⟨x0, x1⟩ := ht x (nth_mem hx2)
    have hk : k < row.length := (List.getElem?_eq_some_iff.mp hx2).1
    have hdr : row.drop k = x :: row.drop (k + 1) := by
      rw [List.drop_eq_getElem_cons hk]
      congr 1
      rw [nth_of hk] at hx2
      exact Option.some.inj hx2
    have htk : row.take (k + 1) = row.take k ++ [x] := take_succ' hx2
    have hlk : (row.take k).length = k := by rw [List.length_take]; omega
    have hdp : (row.take k ++ a).drop k = a := by
      rw [List.drop_append_of_le_length (by omega), List.drop_of_length_le (by omega), List.nil_append]
    have hrn : Rng L (row.take k ++ a) := fun y hy => by
      rcases List.mem_append.mp hy with hy | hy
      · exact ht y (List.mem_of_mem_take hy)
      · exact hra y hy
    refine vg_tup (vgs_cons (vg_var (vgs_cons (vg_var (vgs_nil ?_)))))
    dsimp only [List.set, b_exchange_row_2]
    refine vs_asg F (vx_callP F ?_)
    exact wx
    refine ⟨_, ?_, fun e S' R => ok_free (n := n) (p := np) (s := k) (a := row.take k ++ a) (R.own 3 np _ rfl).2.1 hrn x0 x1 (by simp; omega) (by simp; omega), put_d ?_⟩
    · unfold plD
      split <;> rfl
    dsimp only [List.set]
    rw [hdp]
    cases hpu : pull (N L) x a with
    | none =>
      exact iff1
      refine ⟨fun _ => vs_ret ?_, fun h => by cases h⟩
      exact wx
      refine ret_p rfl ?_
      unfold xrow
      rw [if_pos hlen, hx, hdr]
      show some (Vl.d .non) = some (.d (loD (((pull (N L) x a).bind _).map _)))
      rw [hpu]
      rfl
    | some j =>
      obtain ⟨P, q, rfl, rfl, hP⟩ := pull_split hpu
      exact iff1
      refine ⟨fun h => (nomatch h), fun _ => ?_⟩
      have hxe : xch (N L) (P ++ x :: q) (row.drop k) k = (xch (N L) (P ++ q) (row.drop (k + 1)) (k + 1)).map fun l => down k P.length ++ l := by
        rw [hdr]
        show ((pull (N L) x (P ++ x :: q)).bind fun k2 => (xch (N L) ((P ++ x :: q).eraseIdx k2) (row.drop (k + 1)) (k + 1)).map fun l => down k k2 ++ l) = _
        rw [hpu]
        show (xch (N L) ((P ++ x :: q).eraseIdx P.length) (row.drop (k + 1)) (k + 1)).map _ = _
        rw [erase_mid]
      have hl3 : P.length + q.length + 1 + k = row.length := by simp at hla; omega
      rw [show row.take k ++ (P ++ x :: q) = row.take k ++ P ++ x :: q by simp]
      refine ok_xw (n := n + 2) hlk rfl (by omega) (by omega) ⟨_, ⟨P ++ q, pl ++ down k P.length, rfl, ?_, by exact om, ?_, ?_⟩, ?_⟩
      · rw [hx, hxe, Option.map_map]
        congr 1
        funext l
        simp
      · intro y hy
        refine hra y ?_
        simp at hy ⊢
        rcases hy with h | h <;> simp [h]
      · simp [down]
        omega
      · rw [htk]
        simp only [List.append_assoc, List.cons_append, List.nil_append]
        exact wk
  · rintro ve ⟨a, pl, rfl, hx, hla, hra, hpl⟩
    exact ret
    refine tp_of (its_loc (at_own (i := 4) rfl)) (ret_p (pure_ints _) ?_)
    rw [enumD_len, List.length_map, List.drop_length] at hx
    unfold xrow
    rw [if_pos hlen, hx]
    have : xch (N L) a [] row.length = some [] := by cases a <;> rfl
    rw [this]
    simp [flV, loD]
end K06
set_option linter.all false
set_option autoImplicit false
set_option maxRecDepth 100000
namespace K06
open Pv
local macro_rules | `(tactic| exact om) => `(tactic| first | omega | (simp; done) | (simp; omega) | (simp at *; omega))
local macro_rules | `(tactic| exact own) => `(tactic| first | exact at_own (i := 0) rfl | exact at_own (i := 1) rfl | exact at_own (i := 2) rfl | exact at_own (i := 3) rfl | exact at_own (i := 4) rfl | exact at_own (i := 5) rfl | exact at_own (i := 6) rfl | exact at_own (i := 7) rfl | exact at_own (i := 8) rfl | exact at_own (i := 9) rfl | exact at_own (i := 10) rfl | exact at_own (i := 11) rfl | exact at_own (i := 12) rfl | exact at_own (i := 13) rfl | exact at_own (i := 14) rfl | assumption | apply_assumption)
local macro_rules | `(tactic| exact its) => `(tactic| first | exact its_tup | exact its_fr | exact its_scr | (refine its_loc ?_; exact own) | exact lst_fr | (refine lst_loc ?_; exact own) | exact it_tup | exact it_fr | (refine it_loc ?_; exact own))
local macro_rules | `(tactic| exact wk) => `(tactic| (repeat (first | exact Less.nil | refine Less.same ?_ | refine Less.no ?_)))
local macro_rules | `(tactic| exact ln) => `(tactic| first | refine ln_map its_tup ?_ | refine ln_map its_fr ?_ | refine ln_map (its_loc (at_own (i := 0) rfl)) ?_ | refine ln_map (its_loc (at_own (i := 1) rfl)) ?_ | refine ln_map (its_loc (at_own (i := 2) rfl)) ?_ | refine ln_map (its_loc (at_own (i := 3) rfl)) ?_ | refine ln_map (its_loc (at_own (i := 4) rfl)) ?_ | refine ln_map (its_loc (at_own (i := 5) rfl)) ?_ | refine ln_map (its_loc (at_own (i := 6) rfl)) ?_ | refine ln_map (its_loc (at_own (i := 7) rfl)) ?_ | refine ln_map (its_loc (at_own (i := 8) rfl)) ?_ | refine ln_map (its_loc (at_own (i := 9) rfl)) ?_ | refine ln_map (its_loc (at_own (i := 10) rfl)) ?_ | refine ln_map (its_loc (at_own (i := 11) rfl)) ?_ | refine ln_map (its_loc (at_own (i := 12) rfl)) ?_ | refine ln_map (its_loc (at_own (i := 13) rfl)) ?_ | refine ln_map (its_loc (at_own (i := 14) rfl)) ?_ | refine ln_map (its_loc (at_own (i := 15) rfl)) ?_ | refine ln_of its_tup ?_ | refine ln_of its_fr ?_ | refine ln_of (its_loc (at_own (i := 0) rfl)) ?_ | refine ln_of (its_loc (at_own (i := 1) rfl)) ?_ | refine ln_of (its_loc (at_own (i := 2) rfl)) ?_ | refine ln_of (its_loc (at_own (i := 3) rfl)) ?_ | refine ln_of (its_loc (at_own (i := 4) rfl)) ?_ | refine ln_of (its_loc (at_own (i := 5) rfl)) ?_ | refine ln_of (its_loc (at_own (i := 6) rfl)) ?_ | refine ln_of (its_loc (at_own (i := 7) rfl)) ?_ | refine ln_of (its_loc (at_own (i := 8) rfl)) ?_ | refine ln_of (its_loc (at_own (i := 9) rfl)) ?_ | refine ln_of (its_loc (at_own (i := 10) rfl)) ?_ | refine ln_of (its_loc (at_own (i := 11) rfl)) ?_ | refine ln_of (its_loc (at_own (i := 12) rfl)) ?_ | refine ln_of (its_loc (at_own (i := 13) rfl)) ?_ | refine ln_of (its_loc (at_own (i := 14) rfl)) ?_ | refine ln_of (its_loc (at_own (i := 15) rfl)) ?_)
local macro_rules | `(tactic| exact wx1) => `(tactic| first | refine vx_var rfl ?_ | refine vx_own rfl ?_ | refine vx_cn ?_ | refine vl_nil ?_ | refine vl_cons ?_ | refine ex_int ?_ | refine ex_bl ?_ | refine ex_d ?_ | refine vx_bin ?_ | refine vx_cmp ?_ | refine vx_f2 ?_ | refine vx_idx ?_ | refine vx_f1 ?_ | refine vx_isi ?_ | refine vx_neg ?_ | refine vx_tup ?_ | refine vx_lst ?_ | refine vx_sl ?_ | refine vx_rev ?_ | refine rv_tup ?_ | refine vo_none ?_ | refine vo_some ?_ | refine bin_add ?_ | refine bin_sub ?_ | refine vt_b rfl (vx_isi ?_) | refine is_ty (fun _ => rfl) ?_ | refine vt_cmp ?_ | refine vt_not ?_ | refine vt_and ?_ | refine vt_or ?_ | refine c_lt ?_ | refine c_le ?_ | refine c_gt ?_ | refine c_ge ?_ | refine c_eq ?_ | refine c_ne ?_ | refine c_is ?_ | refine c_isn ?_ | exact ln | refine in_of ?_ | refine vf_nil ?_ | refine vf_one ?_ | refine sl_tup ?_ | refine ix_of its_tup (atI_0 _ _) ?_ | refine ix_of its_tup (atI_1 _ _ _) ?_ | refine ix_of its_tup (atI_2 _ _ _ _) ?_ | refine vi_e ?_ | refine vi_enum ?_ | refine vi_rng0 ?_)
local macro_rules | `(tactic| exact wx) => `(tactic| repeat (first | exact wx1 | (refine put_d ?_; dsimp only [List.set])))
local macro_rules | `(tactic| exact wxt) => `(tactic| repeat (first | exact wx1 | (refine put_d ?_; dsimp only [List.set]) | (refine ⟨le_ok (by simp; done), ?_⟩)))
local macro_rules | `(tactic| exact asg) => `(tactic| (refine vs_asg (by assumption) ?_; exact wx))
local macro_rules | `(tactic| exact ret) => `(tactic| (refine vs_ret ?_; exact wx))
local macro_rules | `(tactic| exact iff1) => `(tactic| (refine vs_if1 ?_; exact wx))

abbrev Rn (L : List (List Int)) (x : Int) : Prop := 0 ≤ x ∧ x < L.length
open Classical in
noncomputable def oneB (L : List (List Int)) (a c : List Int) : Bool := decide (a.length = c.length ∧ Alike (N L) (Rn L) a c)
open Classical in
theorem oneB_no {L : List (List Int)} {a c : List Int} (h : ¬ (a.length = c.length ∧ Alike (N L) (Rn L) a c)) : oneB L a c = false := decide_eq_false h
open Classical in
theorem oneB_yes {L : List (List Int)} {a c : List Int} (h : a.length = c.length ∧ Alike (N L) (Rn L) a c) : oneB L a c = true := decide_eq_true h
open Classical in
theorem oneB_iff {L : List (List Int)} {a c : List Int} : oneB L a c = true ↔ a.length = c.length ∧ Alike (N L) (Rn L) a c := ⟨fun h => of_decide_eq_true h, oneB_yes⟩
theorem two_any (f s z : Int) : ([f, s].any fun y => y == z) = two f s z := by
  unfold two
  rw [Bool.eq_iff_iff]
  simp
  omega
section
variable {n : Nat} {S : Sto} {L : List (List Int)} {np b0 : Nat} {nl : List Nat} {one row : List Int}
/-- [some for some in one if some in (first, second)] -/
theorem vx_fil {rc : Rc} {G : Sto → Prop} {b i : Nat} {ve : List Sl} {l : List Int} {f s : Int} {Q : Vl → Prop} (hi : ve[i]? = some (.d (lotD l))) (h3 : (ve.set 5 .no)[3]? = some (.d (.int f))) (h4 : (ve.set 5 .no)[4]? = some (.d (.int s))) (hl : 5 < ve.length) (hq : Q (.fr ((l.filter (two f s)).map .int))) :
    VX rc G b ve (.comp (.var 5) (.var 5) (.e (.var i)) (.cons (.cmp .inn (.var 5) (.tup (.cons (.var 3) (.cons (.var 4) .nil)))) .nil) [5]) Q := by
  refine vx_compM (c := []) (f := D.int) (ns := l) (two f s) D.int (vi_e (vx_var hi ⟨_, _, it_tup, rfl, rfl⟩)) at_nil (fun z hz => vgk_var ?_) hq
  have e : (wipeV ve [5]).set 5 (.d (.int z)) = (ve.set 5 .no).set 5 (.d (.int z)) := rfl
  rw [e]
  have g3 : ((ve.set 5 .no).set 5 (.d (.int z)))[3]? = some (.d (.int f)) := by rw [List.getElem?_set_ne (by omega)]; exact h3
  have g4 : ((ve.set 5 .no).set 5 (.d (.int z)))[4]? = some (.d (.int s)) := by rw [List.getElem?_set_ne (by omega)]; exact h4
  have g5 : ((ve.set 5 .no).set 5 (.d (.int z)))[5]? = some (.d (.int z)) := by rw [List.getElem?_set_self (by simpa using hl)]
  refine vf_one (vt_cmp (vx_var g5 (vx_tup (vl_cons (vx_var g3 (ex_d (vl_cons (vx_var g4 (ex_d (vl_nil ⟨by simp, ?_⟩))))))))))
  refine c_in (ns := [f, s]) its_tup ⟨two_any f s z, fun _ => vx_var g5 rfl⟩
theorem ok_one (st : Near b0 S np nl L) (ho : Rng L one) (ht : Rng L row) (hl1 : one.length < 900) (hl2 : row.length < 900) (hL : L.length < 1000) : Ok (callN T (n + 1) 11 [.loc np, lotD one, lotD row] S) fun r => r = (.d (.bl (oneB L one row)), S) := by
  refine fn_p (d := ⟨"_law_is_one", 3, 6, b__law_is_one⟩) rfl rfl ?_
  dsimp only [b__law_is_one]
  have F := same_fm S
  rw [show ve0 6 [.loc np, lotD one, lotD row] = [.d (.loc np), .d (lotD one), .d (lotD row), .no, .no, .no] from rfl]
  have hst : ∀ S', Same S S' → Near b0 S' np nl L := fun S' h => near_same st h
  have hlen : ∀ ve, Its (Same S) S.length ve (.d (.loc np)) (nl.map .loc) := fun ve => its_loc (at_g fun S' g => (hst S' g).at_)
  have hnl : nl.length = L.length := by rw [st.len, List.length_map]
  exact iff1
  refine ⟨fun hne => ?_, fun hne => ?_⟩
  · exact ret
    refine ret_p rfl ?_
    have : ¬ one.length = row.length := by
      intro e
      rw [e] at hne
      simp at hne
    rw [oneB_no fun h => this h.1]
    rfl
  have hlen2 : one.length = row.length := by
    have : (one.length : Int) = row.length := by simpa using hne
    omega
  refine vs_for (c := []) (xs := rngD 0 L.length) (fun k ve => ve = [.d (.loc np), .d (lotD one), .d (lotD row), .no, .no, .no] ∧ ∀ f s : Int, 0 ≤ f → f < k → f ≤ s → s < L.length → N L f s = true → one.filter (two f s) = row.filter (two f s)) ?_ ⟨rfl, by intro f s h1 h2; omega⟩ (fun _ _ _ => at_nil) ?_ ?_
  · exact wx
    refine ln_map (hlen _) ?_
    rw [hnl]
    exact ⟨_, rfl, ⟨by exact om, by exact om⟩, rfl, rfl⟩
  · rintro k d ve hd ⟨rfl, hk⟩
    obtain ⟨rfl, hlt⟩ := rngD_get hd
    refine vg_var ?_
    dsimp only [List.set, b__law_is_one_2]
    refine vs_for (c := []) (xs := rngD (0 + k) L.length) (fun j ve => ve = [.d (.loc np), .d (lotD one), .d (lotD row), .d (.int (0 + k)), .no, .no] ∧ ∀ s : Int, (0 + k : Int) ≤ s → s < (0 + k : Int) + j → N L (0 + k) s = true → one.filter (two (0 + k) s) = row.filter (two (0 + k) s)) ?_ ⟨rfl, by intro s h1 h2; omega⟩ (fun _ _ _ => at_nil) ?_ ?_
    · refine vi_rng ?_
      exact wx
      refine ln_map (hlen _) ?_
      rw [hnl]
      exact ⟨_, rfl, ⟨by exact om, by exact om⟩, ⟨by omega, by omega⟩, rfl, rfl⟩
    · rintro j d ve hd ⟨rfl, hj⟩
      obtain ⟨rfl, hlt2⟩ := rngD_get hd
      refine vg_var ?_
      dsimp only [List.set, b__law_is_one_1]
      refine vs_if1 (vt_b rfl (vx_near hst ?_))
      exact wx
      refine ⟨rfl, ?_⟩
      exact wx
      refine ⟨⟨by omega, by omega⟩, ?_⟩
      exact wx
      refine ⟨⟨by omega, by omega⟩, ?_⟩
      exact wx
      refine ⟨fun hN => ?_, fun hN => ?_⟩
      · refine vs_if1 (vt_cmp (vx_fil (i := 1) (l := one) rfl rfl rfl (by simp) (vx_fil (i := 2) (l := row) rfl rfl rfl (by simp) ?_)))
        refine c_nlists lst_fr lst_fr ⟨fun hc => ?_, fun hc => ?_⟩
        · exact ret
          refine ret_p rfl ?_
          have hc : ¬ one.filter (two (0 + k) (0 + k + j)) = row.filter (two (0 + k) (0 + k + j)) := by simpa using hc
          rw [oneB_no fun h => hc (h.2 _ _ ⟨by omega, by omega⟩ ⟨by omega, by omega⟩ hN)]
          rfl
        · have hc : one.filter (two (0 + k) (0 + k + j)) = row.filter (two (0 + k) (0 + k + j)) := by simpa using hc
          refine vs_then (vs_nil ⟨_, ⟨rfl, fun s h1 h2 h3 => ?_⟩, by exact wk⟩)
          by_cases e : s = 0 + k + j
          · subst e; exact hc
          · exact hj s h1 (by omega) h3
      · refine vs_nil ⟨_, ⟨rfl, fun s h1 h2 h3 => ?_⟩, by exact wk⟩
        by_cases e : s = 0 + k + j
        · subst e; rw [hN] at h3; cases h3
        · exact hj s h1 (by omega) h3
    · rintro ve ⟨rfl, hj⟩
      rw [rngD_len] at hj
      refine vs_nil ⟨_, ⟨rfl, fun f s f0 f1 h1 h2 h3 => ?_⟩, by exact wk⟩
      by_cases e : f = 0 + k
      · subst e
        exact hj s h1 (by omega) h3
      · exact hk f s f0 (by omega) h1 h2 h3
  · rintro ve ⟨rfl, hk⟩
    rw [rngD_len] at hk
    exact ret
    refine ret_p rfl ?_
    have : oneB L one row = true := by
      refine oneB_yes ⟨hlen2, fun f s rf rs hm => ?_⟩
      rcases Int.le_total f s with h | h
      · exact hk f s rf.1 (by have := rf.2; omega) h rs.2 hm
      · have := hk s f rs.1 (by have := rs.2; omega) h rf.2 (by rw [N_comm]; exact hm)
        have e : two f s = two s f := by
          funext z
          unfold two
          rw [Bool.or_comm]
        rw [e]
        exact this
    rw [this]
    rfl
end
end K06
set_option linter.all false
set_option autoImplicit false
set_option maxRecDepth 100000
namespace K06
open Pv
local macro_rules | `(tactic| exact om) => `(tactic| first | omega | (simp; done) | (simp; omega) | (simp at *; omega))
local macro_rules | `(tactic| exact own) => `(tactic| first | exact at_own (i := 0) rfl | exact at_own (i := 1) rfl | exact at_own (i := 2) rfl | exact at_own (i := 3) rfl | exact at_own (i := 4) rfl | exact at_own (i := 5) rfl | exact at_own (i := 6) rfl | exact at_own (i := 7) rfl | exact at_own (i := 8) rfl | exact at_own (i := 9) rfl | exact at_own (i := 10) rfl | exact at_own (i := 11) rfl | exact at_own (i := 12) rfl | exact at_own (i := 13) rfl | exact at_own (i := 14) rfl | assumption | apply_assumption)
local macro_rules | `(tactic| exact its) => `(tactic| first | exact its_tup | exact its_fr | exact its_scr | (refine its_loc ?_; exact own) | exact lst_fr | (refine lst_loc ?_; exact own) | exact it_tup | exact it_fr | (refine it_loc ?_; exact own))
local macro_rules | `(tactic| exact wk) => `(tactic| (repeat (first | exact Less.nil | refine Less.same ?_ | refine Less.no ?_)))
local macro_rules | `(tactic| exact ln) => `(tactic| first | refine ln_map its_tup ?_ | refine ln_map its_fr ?_ | refine ln_map (its_loc (at_own (i := 0) rfl)) ?_ | refine ln_map (its_loc (at_own (i := 1) rfl)) ?_ | refine ln_map (its_loc (at_own (i := 2) rfl)) ?_ | refine ln_map (its_loc (at_own (i := 3) rfl)) ?_ | refine ln_map (its_loc (at_own (i := 4) rfl)) ?_ | refine ln_map (its_loc (at_own (i := 5) rfl)) ?_ | refine ln_map (its_loc (at_own (i := 6) rfl)) ?_ | refine ln_map (its_loc (at_own (i := 7) rfl)) ?_ | refine ln_map (its_loc (at_own (i := 8) rfl)) ?_ | refine ln_map (its_loc (at_own (i := 9) rfl)) ?_ | refine ln_map (its_loc (at_own (i := 10) rfl)) ?_ | refine ln_map (its_loc (at_own (i := 11) rfl)) ?_ | refine ln_map (its_loc (at_own (i := 12) rfl)) ?_ | refine ln_map (its_loc (at_own (i := 13) rfl)) ?_ | refine ln_map (its_loc (at_own (i := 14) rfl)) ?_ | refine ln_map (its_loc (at_own (i := 15) rfl)) ?_ | refine ln_of its_tup ?_ | refine ln_of its_fr ?_ | refine ln_of (its_loc (at_own (i := 0) rfl)) ?_ | refine ln_of (its_loc (at_own (i := 1) rfl)) ?_ | refine ln_of (its_loc (at_own (i := 2) rfl)) ?_ | refine ln_of (its_loc (at_own (i := 3) rfl)) ?_ | refine ln_of (its_loc (at_own (i := 4) rfl)) ?_ | refine ln_of (its_loc (at_own (i := 5) rfl)) ?_ | refine ln_of (its_loc (at_own (i := 6) rfl)) ?_ | refine ln_of (its_loc (at_own (i := 7) rfl)) ?_ | refine ln_of (its_loc (at_own (i := 8) rfl)) ?_ | refine ln_of (its_loc (at_own (i := 9) rfl)) ?_ | refine ln_of (its_loc (at_own (i := 10) rfl)) ?_ | refine ln_of (its_loc (at_own (i := 11) rfl)) ?_ | refine ln_of (its_loc (at_own (i := 12) rfl)) ?_ | refine ln_of (its_loc (at_own (i := 13) rfl)) ?_ | refine ln_of (its_loc (at_own (i := 14) rfl)) ?_ | refine ln_of (its_loc (at_own (i := 15) rfl)) ?_)
local macro_rules | `(tactic| exact wx1) => `(tactic| first | refine vx_var rfl ?_ | refine vx_own rfl ?_ | refine vx_cn ?_ | refine vl_nil ?_ | refine vl_cons ?_ | refine ex_int ?_ | refine ex_bl ?_ | refine ex_d ?_ | refine vx_bin ?_ | refine vx_cmp ?_ | refine vx_f2 ?_ | refine vx_idx ?_ | refine vx_f1 ?_ | refine vx_isi ?_ | refine vx_neg ?_ | refine vx_tup ?_ | refine vx_lst ?_ | refine vx_sl ?_ | refine vx_rev ?_ | refine rv_tup ?_ | refine vo_none ?_ | refine vo_some ?_ | refine bin_add ?_ | refine bin_sub ?_ | refine vt_b rfl (vx_isi ?_) | refine is_ty (fun _ => rfl) ?_ | refine vt_cmp ?_ | refine vt_not ?_ | refine vt_and ?_ | refine vt_or ?_ | refine c_lt ?_ | refine c_le ?_ | refine c_gt ?_ | refine c_ge ?_ | refine c_eq ?_ | refine c_ne ?_ | refine c_is ?_ | refine c_isn ?_ | exact ln | refine in_of ?_ | refine vf_nil ?_ | refine vf_one ?_ | refine sl_tup ?_ | refine ix_of its_tup (atI_0 _ _) ?_ | refine ix_of its_tup (atI_1 _ _ _) ?_ | refine ix_of its_tup (atI_2 _ _ _ _) ?_ | refine vi_e ?_ | refine vi_enum ?_ | refine vi_rng0 ?_)
local macro_rules | `(tactic| exact wx) => `(tactic| repeat (first | exact wx1 | (refine put_d ?_; dsimp only [List.set])))
local macro_rules | `(tactic| exact wxt) => `(tactic| repeat (first | exact wx1 | (refine put_d ?_; dsimp only [List.set]) | (refine ⟨le_ok (by simp; done), ?_⟩)))
local macro_rules | `(tactic| exact asg) => `(tactic| (refine vs_asg (by assumption) ?_; exact wx))
local macro_rules | `(tactic| exact ret) => `(tactic| (refine vs_ret ?_; exact wx))
local macro_rules | `(tactic| exact iff1) => `(tactic| (refine vs_if1 ?_; exact wx))

/-! ### places of letters, in a dict -/
def posF : Nat → List Int → Int → List Nat
  | _, [], _ => []
  | s, y :: ys, x => if y = x then s :: posF (s + 1) ys x else posF (s + 1) ys x
theorem posF_snoc : ∀ (c : List Int) (s : Nat) (y x : Int), posF s (c ++ [y]) x = posF s c x ++ (if y = x then [s + c.length] else [])
  | [], s, y, x => by
    show (if y = x then s :: posF (s + 1) [] x else posF (s + 1) [] x) = _
    split <;> simp [posF]
  | z :: c, s, y, x => by
    show (if z = x then s :: posF (s + 1) (c ++ [y]) x else posF (s + 1) (c ++ [y]) x) = (if z = x then s :: posF (s + 1) c x else posF (s + 1) c x) ++ _
    rw [posF_snoc c]
    have : s + 1 + c.length = s + (z :: c).length := by simp; omega
    rw [this]
    split <;> rfl
theorem posF_get : ∀ (c : List Int) (s : Nat) (x : Int) (j : Nat), j < c.count x → (posF s c x)[j]? = some (s + pos c x j)
  | [], s, x, j, h => by simp at h
  | y :: c, s, x, j, h => by
    show (if y = x then s :: posF (s + 1) c x else posF (s + 1) c x)[j]? = _
    by_cases e : y = x
    · subst e
      rw [if_pos rfl]
      rw [List.count_cons_self] at h
      cases j with
      | zero =>
        show some s = some (s + (if y = y then 0 else _))
        rw [if_pos rfl]
        rfl
      | succ j =>
        show (posF (s + 1) c y)[j]? = some (s + (if y = y then pos c y j + 1 else _))
        rw [if_pos rfl, posF_get c (s + 1) y j (by omega)]
        congr 1
        omega
    · rw [if_neg e]
      rw [List.count_cons_of_ne e] at h
      rw [posF_get c (s + 1) x j h]
      show _ = some (s + (if y = x then _ else pos c x j + 1))
      rw [if_neg e]
      congr 1
      omega
theorem posF_len : ∀ (c : List Int) (s : Nat) (x : Int), (posF s c x).length ≤ c.length
  | [], _, _ => by simp [posF]
  | y :: c, s, x => by
    have := posF_len c (s + 1) x
    show (if y = x then s :: posF (s + 1) c x else posF (s + 1) c x).length ≤ _
    split <;> simp <;> omega
abbrev natD (l : List Nat) : List D := l.map fun i => .int (i : Nat)
def Dsp (S : Sto) (dp : Nat) (c : List Int) : Prop := ∃ kvs, S[dp]? = some (.dct false kvs) ∧ kvs.length ≤ c.length ∧ ∀ x : Int, (getK kvs (.int x) = none ∧ posF 0 c x = []) ∨ ∃ q, getK kvs (.int x) = some (.loc q) ∧ q ≠ dp ∧ S[q]? = some (.lst (natD (posF 0 c x)))
theorem Dsp.lt {S : Sto} {dp : Nat} {c : List Int} (h : Dsp S dp c) : dp < S.length := by
  obtain ⟨kvs, h, _⟩ := h
  exact at_lt h
section
variable {n b dp k : Nat} {S : Sto} {one row : List Int} {x : Int} {e : Env}
theorem ok_turn1 (h1 : e[1]? = some (some (lotD row))) (h2 : e[2]? = some (some (.loc dp))) (h3 : 3 < e.length) (hd : Dsp S dp (row.take k)) (hx : row[k]? = some x) (hb : b ≤ dp) (hl : row.length < 900) :
    Ok (evTg (callN T n) (.var 3) b (.int (k : Nat)) e S >>= fun q => evSs (callN T n) b__law_turned_1 b q.1 q.2) fun r => ∃ S', r = (.nx, e.set 3 (some (.int (k : Nat))), S') ∧ Dsp S' dp (row.take (k + 1)) ∧ Kp b [] S S' := by
  refine Ok.bind (Ok.ok ?_)
  dsimp only [b__law_turned_1]
  have g1 : (e.set 3 (some (.int (k : Nat))))[1]? = some (some (lotD row)) := by rw [List.getElem?_set_ne (by omega)]; exact h1
  have g2 : (e.set 3 (some (.int (k : Nat))))[2]? = some (some (.loc dp)) := by rw [List.getElem?_set_ne (by omega)]; exact h2
  have g3 : (e.set 3 (some (.int (k : Nat))))[3]? = some (some (.int (k : Nat))) := List.getElem?_set_self h3
  generalize e.set 3 (some (.int (k : Nat))) = e1 at *
  have hk : k < row.length := (List.getElem?_eq_some_iff.mp hx).1
  have pidx : ∀ S, PV (callN T n) e1 S (.idx (.var 1) (.var 3)) (.d (.int x)) := fun S => pv_idx (pv_var g1) (pv_var g3) rfl (atI_nat (by rw [List.getElem?_map, hx]; rfl))
  obtain ⟨kvs, hdp, hkl, hall⟩ := hd
  rw [List.length_take] at hkl
  have hdlt := at_lt hdp
  have dg : (evE (callN T n) (.dgt (.var 2) (.idx (.var 1) (.var 3)) (.lst .nil))).v b e1 S = .ok (.d ((getK kvs (.int x)).getD (.loc S.length)), S ++ [.lst []]) := by
    show (((evE (callN T n) (.var 2)).v b e1 S >>= fun r => Rs.ok (settle r.1 r.2)) >>= _) = _
    rw [pv_var g2 b]
    show (Rs.ofO (match S[dp]? with
      | some (.dct _ kvs) => some kvs
      | _ => none) >>= _) = _
    rw [hdp]
    show (((evE (callN T n) (.idx (.var 1) (.var 3))).v b e1 S >>= fun r => Rs.ok (settle r.1 r.2)) >>= _) = _
    rw [pidx S b]
    show (Rs.ofO (if isK (.int x) = true then (match (S ++ [O.lst []])[dp]? with
      | some (.dct _ kvs) => some kvs
      | _ => none).map (fun kvs => (getK kvs (.int x)).getD (.loc S.length)) else none) >>= _) = _
    rw [push_lt hdp]
    rfl
  obtain ⟨q, hq1, hq2, hq3⟩ : ∃ q, (getK kvs (.int x)).getD (.loc S.length) = .loc q ∧ q ≠ dp ∧ (S ++ [O.lst []])[q]? = some (.lst (natD (posF 0 (row.take k) x))) := by
    rcases hall x with ⟨h4, h5⟩ | ⟨q, h4, h5, h6⟩
    · rw [h4, h5]
      exact ⟨S.length, rfl, by omega, push_at⟩
    · rw [h4]
      exact ⟨q, rfl, h5, push_lt h6⟩
  have hplen : (posF 0 (row.take k) x).length ≤ row.length := by
    have := posF_len (row.take k) 0 x
    rw [List.length_take] at this
    omega
  have ev : (evE (callN T n) (.bin .add (.dgt (.var 2) (.idx (.var 1) (.var 3)) (.lst .nil)) (.lst (.cons (.var 3) .nil)))).v b e1 S = .ok (.fr (natD (posF 0 (row.take k) x) ++ [.int (k : Nat)]), S ++ [.lst []]) := by
    rw [v_bin, dg, ok_bind]
    show ((evE (callN T n) (.lst (.cons (.var 3) .nil))).v b e1 (S ++ [.lst []]) >>= _) = _
    rw [pv_lst (pes_cons (pv_var g3) pes_nil) (by simp) b, ok_bind]
    show (Rs.ofO (binV .add (.d ((getK kvs (.int x)).getD (.loc S.length))) (.fr [.int (k : Nat)]) (S ++ [.lst []])) >>= _) = _
    rw [hq1, binV_catLF hq3 (by simp; omega)]
    rfl
  refine ok_seq ?_
  show Ok (((evE (callN T n) (.bin .add (.dgt (.var 2) (.idx (.var 1) (.var 3)) (.lst .nil)) (.lst (.cons (.var 3) .nil)))).v b e1 S >>= fun r => Rs.ok (settle r.1 r.2)) >>= _) _
  rw [ev]
  refine Ok.bind (Ok.ok ?_)
  dsimp only [settle]
  generalize hS3 : (S ++ [O.lst []]) ++ [O.lst (natD (posF 0 (row.take k) x) ++ [.int (k : Nat)])] = S3
  have hdp3 : S3[dp]? = some (.dct false kvs) := by rw [← hS3]; exact push_lt (push_lt hdp)
  have hnew : S3[(S ++ [O.lst []]).length]? = some (O.lst (natD (posF 0 (row.take k) x) ++ [.int (k : Nat)])) := by rw [← hS3]; exact push_at
  show Ok (((evE (callN T n) (.var 2)).v b e1 S3 >>= fun r => Rs.ok (settle r.1 r.2)) >>= _) _
  rw [pv_var g2 b]
  refine Ok.bind (Ok.ok ?_)
  show Ok (((evE (callN T n) (.idx (.var 1) (.var 3))).v b e1 S3 >>= fun r => Rs.ok (settle r.1 r.2)) >>= _) _
  rw [pidx S3 b]
  refine Ok.bind (Ok.ok ?_)
  have hset : setK b (.loc dp) (.int x) (.loc (S ++ [O.lst []]).length) S3 = .ok (S3.set dp (.dct false (putK kvs (.int x) (.loc (S ++ [O.lst []]).length)))) := by
    unfold setK
    dsimp only
    rw [hdp3]
    exact if_pos ⟨rfl, by show kvs.length < 16777216; omega, .inr hb⟩
  show Ok (setK b (.loc dp) (.int x) (.loc (S ++ [O.lst []]).length) S3 >>= _) _
  rw [hset]
  refine Ok.bind (Ok.ok (Ok.ok (ok_nil ⟨_, rfl, ⟨_, set_at hdp3, ?_, fun y => ?_⟩, ?_⟩)))
  · have := putK_len kvs (.int x) (.loc (S ++ [O.lst []]).length)
    rw [List.length_take]
    omega
  · rw [getK_put, take_succ' hx, posF_snoc, List.length_take, Nat.min_eq_left (by omega), Nat.zero_add]
    by_cases e : y = x
    · subst e
      rw [if_pos rfl, if_pos rfl]
      refine .inr ⟨_, rfl, by simp; omega, ?_⟩
      rw [set_ne hnew (by simp; omega)]
      simp
    · rw [if_neg e, if_neg fun h => e h.symm, List.append_nil]
      rcases hall y with ⟨h4, h5⟩ | ⟨q', h4, h5, h6⟩
      · exact .inl ⟨h4, h5⟩
      · refine .inr ⟨q', h4, h5, set_ne ?_ fun h => h5 h.symm⟩
        rw [← hS3]
        exact push_lt (push_lt h6)
  · rw [← hS3]
    exact ((Kp.push _).trans (Kp.push _)).trans (Kp.set hb (by simp))
end
end K06
set_option linter.all false
set_option autoImplicit false
set_option maxRecDepth 100000
namespace K06
open Pv
local macro_rules | `(tactic| exact om) => `(tactic| first | omega | (simp; done) | (simp; omega) | (simp at *; omega))
local macro_rules | `(tactic| exact own) => `(tactic| first | exact at_own (i := 0) rfl | exact at_own (i := 1) rfl | exact at_own (i := 2) rfl | exact at_own (i := 3) rfl | exact at_own (i := 4) rfl | exact at_own (i := 5) rfl | exact at_own (i := 6) rfl | exact at_own (i := 7) rfl | exact at_own (i := 8) rfl | exact at_own (i := 9) rfl | exact at_own (i := 10) rfl | exact at_own (i := 11) rfl | exact at_own (i := 12) rfl | exact at_own (i := 13) rfl | exact at_own (i := 14) rfl | assumption | apply_assumption)
local macro_rules | `(tactic| exact its) => `(tactic| first | exact its_tup | exact its_fr | exact its_scr | (refine its_loc ?_; exact own) | exact lst_fr | (refine lst_loc ?_; exact own) | exact it_tup | exact it_fr | (refine it_loc ?_; exact own))
local macro_rules | `(tactic| exact wk) => `(tactic| (repeat (first | exact Less.nil | refine Less.same ?_ | refine Less.no ?_)))
local macro_rules | `(tactic| exact ln) => `(tactic| first | refine ln_map its_tup ?_ | refine ln_map its_fr ?_ | refine ln_map (its_loc (at_own (i := 0) rfl)) ?_ | refine ln_map (its_loc (at_own (i := 1) rfl)) ?_ | refine ln_map (its_loc (at_own (i := 2) rfl)) ?_ | refine ln_map (its_loc (at_own (i := 3) rfl)) ?_ | refine ln_map (its_loc (at_own (i := 4) rfl)) ?_ | refine ln_map (its_loc (at_own (i := 5) rfl)) ?_ | refine ln_map (its_loc (at_own (i := 6) rfl)) ?_ | refine ln_map (its_loc (at_own (i := 7) rfl)) ?_ | refine ln_map (its_loc (at_own (i := 8) rfl)) ?_ | refine ln_map (its_loc (at_own (i := 9) rfl)) ?_ | refine ln_map (its_loc (at_own (i := 10) rfl)) ?_ | refine ln_map (its_loc (at_own (i := 11) rfl)) ?_ | refine ln_map (its_loc (at_own (i := 12) rfl)) ?_ | refine ln_map (its_loc (at_own (i := 13) rfl)) ?_ | refine ln_map (its_loc (at_own (i := 14) rfl)) ?_ | refine ln_map (its_loc (at_own (i := 15) rfl)) ?_ | refine ln_of its_tup ?_ | refine ln_of its_fr ?_ | refine ln_of (its_loc (at_own (i := 0) rfl)) ?_ | refine ln_of (its_loc (at_own (i := 1) rfl)) ?_ | refine ln_of (its_loc (at_own (i := 2) rfl)) ?_ | refine ln_of (its_loc (at_own (i := 3) rfl)) ?_ | refine ln_of (its_loc (at_own (i := 4) rfl)) ?_ | refine ln_of (its_loc (at_own (i := 5) rfl)) ?_ | refine ln_of (its_loc (at_own (i := 6) rfl)) ?_ | refine ln_of (its_loc (at_own (i := 7) rfl)) ?_ | refine ln_of (its_loc (at_own (i := 8) rfl)) ?_ | refine ln_of (its_loc (at_own (i := 9) rfl)) ?_ | refine ln_of (its_loc (at_own (i := 10) rfl)) ?_ | refine ln_of (its_loc (at_own (i := 11) rfl)) ?_ | refine ln_of (its_loc (at_own (i := 12) rfl)) ?_ | refine ln_of (its_loc (at_own (i := 13) rfl)) ?_ | refine ln_of (its_loc (at_own (i := 14) rfl)) ?_ | refine ln_of (its_loc (at_own (i := 15) rfl)) ?_)
local macro_rules | `(tactic| exact wx1) => `(tactic| first | refine vx_var rfl ?_ | refine vx_own rfl ?_ | refine vx_cn ?_ | refine vl_nil ?_ | refine vl_cons ?_ | refine ex_int ?_ | refine ex_bl ?_ | refine ex_d ?_ | refine vx_bin ?_ | refine vx_cmp ?_ | refine vx_f2 ?_ | refine vx_idx ?_ | refine vx_f1 ?_ | refine vx_isi ?_ | refine vx_neg ?_ | refine vx_tup ?_ | refine vx_lst ?_ | refine vx_sl ?_ | refine vx_rev ?_ | refine rv_tup ?_ | refine vo_none ?_ | refine vo_some ?_ | refine bin_add ?_ | refine bin_sub ?_ | refine vt_b rfl (vx_isi ?_) | refine is_ty (fun _ => rfl) ?_ | refine vt_cmp ?_ | refine vt_not ?_ | refine vt_and ?_ | refine vt_or ?_ | refine c_lt ?_ | refine c_le ?_ | refine c_gt ?_ | refine c_ge ?_ | refine c_eq ?_ | refine c_ne ?_ | refine c_is ?_ | refine c_isn ?_ | exact ln | refine in_of ?_ | refine vf_nil ?_ | refine vf_one ?_ | refine sl_tup ?_ | refine ix_of its_tup (atI_0 _ _) ?_ | refine ix_of its_tup (atI_1 _ _ _) ?_ | refine ix_of its_tup (atI_2 _ _ _ _) ?_ | refine vi_e ?_ | refine vi_enum ?_ | refine vi_rng0 ?_)
local macro_rules | `(tactic| exact wx) => `(tactic| repeat (first | exact wx1 | (refine put_d ?_; dsimp only [List.set])))
local macro_rules | `(tactic| exact wxt) => `(tactic| repeat (first | exact wx1 | (refine put_d ?_; dsimp only [List.set]) | (refine ⟨le_ok (by simp; done), ?_⟩)))
local macro_rules | `(tactic| exact asg) => `(tactic| (refine vs_asg (by assumption) ?_; exact wx))
local macro_rules | `(tactic| exact ret) => `(tactic| (refine vs_ret ?_; exact wx))
local macro_rules | `(tactic| exact iff1) => `(tactic| (refine vs_if1 ?_; exact wx))

section
variable {n : Nat} {S : Sto} {one row : List Int}
theorem line_snoc (c p : List Int) (y : Int) : line c [] (p ++ [y]) = line c [] p ++ [pos c y (p.count y)] := by
  rw [line_app, List.nil_append]
  rfl
theorem inv_snoc (p : List Nat) (v : Nat) : inv [] (p ++ [v]) = inv [] p + (p.filter fun w => decide (v < w)).length := by
  rw [inv_app, List.nil_append]
  simp [inv]
theorem take_snoc {α : Type} {l : List α} {k : Nat} {x : α} (h : l[k]? = some x) : l.take (k + 1) = l.take k ++ [x] := by
  rw [List.take_add_one, h]
  rfl
theorem ok_turned (h1 : one.length < 900) (h2 : row.length < 900) (hc : ∀ y, one.count y ≤ row.count y) : Ok (callN T (n + 1) 13 [lotD one, lotD row] S) fun r => r = (.d (.int (inv [] (line row [] one) : Nat)), S) := by
  refine ok_fn (d := ⟨"_law_turned", 2, 9, b__law_turned⟩) rfl rfl ?_
  dsimp only [b__law_turned]
  rw [show env0 9 [lotD one, lotD row] = [some (lotD one), some (lotD row), none, none, none, none, none, none, none] from rfl]
  refine ok_asg (Ok.eq rfl ?_)
  dsimp only [settle, List.set]
  have hd0 : Dsp (S ++ [O.dct false []]) S.length (row.take 0) := ⟨[], push_at, by simp, fun x => .inl ⟨rfl, rfl⟩⟩
  refine st_for (pi_rng0 (k := row.length) (pv_lenM (pv_var rfl)) (by omega) (by omega)) ?_
  refine ok_cnt (fun k e S' => ∃ o3, e = [some (lotD one), some (lotD row), some (.loc S.length), o3, none, none, none, none, none] ∧ Dsp S' S.length (row.take k) ∧ Kp S.length [] S S') (fun _ _ _ _ => chk_nil _) ?_ ?_ ⟨_, rfl, hd0, Kp.push _⟩
  · rintro k d e S' hk ⟨o3, rfl, hd, kp⟩
    obtain ⟨rfl, hlt⟩ := rngD_get hk
    have hk2 : k < row.length := by omega
    have e0 : (0 : Int) + (k : Nat) = (k : Nat) := by omega
    rw [e0]
    refine Ok.mono (ok_turn1 (n := n) (x := row[k]) rfl rfl (by simp) hd (nth_of hk2) (Nat.le_refl _) h2) fun r ⟨S2, er, hd2, kp2⟩ => ?_
    subst er
    exact ⟨_, rfl, hd2, kp.trans kp2⟩
  · rintro e S' ⟨o3, rfl, hd, kp⟩
    rw [rngD_len, show ((row.length : Int) - 0).toNat = row.length by omega, List.take_length] at hd
    refine Then.nx (ok_asgG (Ok.eq (a := (.d (.tup [.loc S'.length, .loc (S' ++ [O.lst []]).length]), (S' ++ [O.lst []]) ++ [O.dct false []])) rfl (Ok.eq rfl ?_)))
    dsimp only [List.set]
    obtain ⟨kvs0, hdp, hkl, hall⟩ := hd
    have F := same_fm S'
    have R0 : Rel (Same S') S'.length [.d (lotD one), .d (lotD row), .d (.loc S.length), .no, .no, .no, .no, .no, .no] [some (lotD one), some (lotD row), some (.loc S.length), o3, none, none, none, none, none] S' := by
      have := (rel0 (G := Same S') (b := S'.length) 9 [lotD one, lotD row, .loc S.length] (Same.refl S')).setno 3 o3
      exact this
    have R2 := (R0.new F 4 (.lst [])).new F 5 (.dct false [])
    have hv : ∀ lp sp : Nat, VS (callN T n) (Same S') S'.length (tailOf (tailOf (tailOf b__law_turned))) [.d (lotD one), .d (lotD row), .d (.loc S.length), .no, .o lp (.lst []), .o sp (.dct false []), .no, .no, .no] (fun fl _ => flV fl = some (.d (.int (inv [] (line row [] one) : Nat)))) := by
      intro lp sp
      dsimp only [tailOf, b__law_turned]
      refine vs_for (c := []) (xs := one.map .int) (fun k ve => ∃ kvs, ve = [.d (lotD one), .d (lotD row), .d (.loc S.length), .no, .o lp (.lst (natD (line row [] (one.take k)))), .o sp (.dct false kvs), .no, .no, .no] ∧ kvs.length ≤ k ∧ ∀ y : Int, (getK kvs (.int y)).getD (.int 0) = .int ((one.take k).count y : Nat)) ?_ ⟨[], rfl, by simp, fun y => by simp [getK_nil]⟩ (fun _ _ _ => at_nil) ?_ ?_
      · exact wx
        exact ⟨_, _, it_tup, rfl, rfl⟩
      · rintro k d ve hk ⟨kvs, rfl, hkv, hget⟩
        rw [List.getElem?_map] at hk
        obtain ⟨y, hy, rfl⟩ := Option.map_eq_some_iff.mp hk
        have hkl2 : k < one.length := (List.getElem?_eq_some_iff.mp hy).1
        have hcy : (one.take k).count y < row.count y := by
          have h3 := hc y
          have h4 : (one.take (k + 1)).count y ≤ one.count y := (List.take_sublist _ _).count_le y
          rw [take_snoc hy, List.count_append, List.count_singleton_self] at h4
          omega
        have hpg := posF_get row 0 y _ hcy
        rw [Nat.zero_add] at hpg
        refine vg_var ?_
        dsimp only [List.set, b__law_turned_2]
        rcases hall y with ⟨_, h5⟩ | ⟨q, h4, h5, h6⟩
        · rw [h5] at hpg
          simp at hpg
        refine vs_app F (i := 4) rfl (vx_own rfl rfl) (vx_idx (vx_dget (p := S.length) (vx_var rfl rfl) (vx_var rfl ⟨false, kvs0, .int y, .loc q, rfl, rfl, at_g fun S2 g => Same.at g hdp, h4, ?_⟩)))
        refine vx_dgt (p := sp) (kvs := kvs) (at_own (i := 5) rfl) (vx_own rfl rfl) (vx_var rfl ⟨_, rfl, vx_cn ⟨_, rfl, rfl, ?_⟩⟩)
        rw [hget y]
        refine ⟨_, natD (posF 0 row y), .int (pos row y ((one.take k).count y) : Nat), rfl, its_loc (at_g fun S2 g => Same.at g h6), atI_nat (by rw [List.getElem?_map, hpg]; rfl), _, rfl, by rw [List.length_map, line_len, List.length_take]; omega, ?_⟩
        dsimp only [List.set]
        refine vs_dput F (i := 5) rfl (fun e S2 R2 => pv_var (R2.own 5 sp _ rfl).1) ?_
        refine vx_bin (vx_dgt (p := sp) (kvs := kvs) (at_own (i := 5) rfl) (vx_own rfl rfl) (vx_var rfl ⟨_, rfl, vx_cn ⟨_, rfl, rfl, ?_⟩⟩))
        rw [hget y]
        exact wx
        refine ⟨rfl, by omega, vs_nil ⟨_, ⟨putK kvs (.int y) (.int (((one.take k).count y : Nat) + 1)), rfl, ?_, fun z => ?_⟩, ?_⟩⟩
        · have := putK_len kvs (.int y) (.int (((one.take k).count y : Nat) + 1))
          omega
        · rw [getK_put, take_snoc hy, List.count_append]
          by_cases e : z = y
          · subst e
            rw [if_pos rfl]
            simp
          · rw [if_neg e, hget z, show [y].count z = 0 from List.count_eq_zero.mpr (by simpa using e)]
            rfl
        · rw [take_snoc hy, line_snoc]
          dsimp only [List.set]
          rw [show natD (line row [] (one.take k) ++ [pos row y ((one.take k).count y)]) = natD (line row [] (one.take k)) ++ [.int (pos row y ((one.take k).count y) : Nat)] by simp]
          exact wk
      · rintro ve ⟨kvs, rfl, hkv, hget⟩
        rw [List.length_map, List.take_length]
        exact asg
        have hll : (line row [] one).length = one.length := line_len _ _ _
        generalize line row [] one = V at *
        refine vs_for (c := []) (xs := rngD 0 V.length) (fun k ve => ve = [.d (lotD one), .d (lotD row), .d (.loc S.length), .no, .o lp (.lst (natD V)), .o sp (.dct false kvs), .no, .d (.int (inv [] (V.take k) : Nat)), .no]) ?_ rfl (fun _ _ _ => at_nil) ?_ ?_
        · exact wx
          exact ⟨⟨by exact om, by exact om⟩, rfl, rfl⟩
        · rintro k d ve hk rfl
          obtain ⟨rfl, hlt⟩ := rngD_get hk
          have hk2 : k < V.length := by omega
          refine vg_var ?_
          dsimp only [List.set, b__law_turned_3]
          refine vs_asg F (vx_bin (vx_var rfl (vx_f1 ?_)))
          refine vx_compM (c := []) (f := fun i : Nat => .int (i : Nat)) (ns := V.take k) (fun w => decide (V[k] < w)) (fun i => .int (i : Nat)) ?_ at_nil ?_ ?_
          · exact wx
            refine sl_lst (lst_loc (at_own (i := 4) rfl)) ⟨_, _, it_fr, rfl, ?_⟩
            rw [cut_take (by omega), show ((0 : Int) + (k : Nat)).toNat = k by omega]
            simp
          · intro w hw
            refine vgk_var ?_
            exact wx
            refine ix_of (its_loc (at_own (i := 4) rfl)) (u := .int (V[k] : Nat)) ?_ ?_
            · rw [show (0 : Int) + (k : Nat) = (k : Nat) by omega]
              exact atI_nat (by rw [List.getElem?_map, nth_of hk2]; rfl)
            · exact wx
              refine ⟨?_, fun _ => ?_⟩
              · rw [Bool.eq_iff_iff]
                simp
              · exact wx
                rfl
          · exact wx
            refine vs_nil ⟨_, rfl, ?_⟩
            rw [take_snoc (nth_of hk2), inv_snoc]
            simp only [List.set, Int.natCast_add]
            exact wk
        · rintro ve rfl
          rw [rngD_len, show ((V.length : Int) - 0).toNat = V.length by omega, List.take_length]
          exact ret
          exact ret_p rfl rfl
    refine Ok.mono (hv _ _ S.length _ _ (kp.len) R2) fun r hr => ?_
    obtain ⟨fl, e2, S4⟩ := r
    have hS4 : Same S' S4 → S4.take S.length = S := fun g => by
      have h3 := kp_take kp
      have h5 : (S4.take S'.length).take S.length = S4.take S.length := by rw [List.take_take, Nat.min_eq_left kp.len]
      rw [← h5, show S4.take S'.length = S' from g, h3]
    cases fl with
    | rt v =>
      obtain ⟨g, v', h3, h4⟩ := hr
      cases h4
      exact ⟨_, rfl, by rw [h3, hS4 g]⟩
    | nx => obtain ⟨ve, _, h4⟩ := hr; cases h4
    | br => obtain ⟨ve, _, h4⟩ := hr; cases h4
    | ct => obtain ⟨ve, _, h4⟩ := hr; cases h4
end
end K06
set_option linter.all false
set_option autoImplicit false
set_option maxRecDepth 100000
namespace K06
open Pv
local macro_rules | `(tactic| exact om) => `(tactic| first | omega | (simp; done) | (simp; omega) | (simp at *; omega))
local macro_rules | `(tactic| exact own) => `(tactic| first | exact at_own (i := 0) rfl | exact at_own (i := 1) rfl | exact at_own (i := 2) rfl | exact at_own (i := 3) rfl | exact at_own (i := 4) rfl | exact at_own (i := 5) rfl | exact at_own (i := 6) rfl | exact at_own (i := 7) rfl | exact at_own (i := 8) rfl | exact at_own (i := 9) rfl | exact at_own (i := 10) rfl | exact at_own (i := 11) rfl | exact at_own (i := 12) rfl | exact at_own (i := 13) rfl | exact at_own (i := 14) rfl | assumption | apply_assumption)
local macro_rules | `(tactic| exact its) => `(tactic| first | exact its_tup | exact its_fr | exact its_scr | (refine its_loc ?_; exact own) | exact lst_fr | (refine lst_loc ?_; exact own) | exact it_tup | exact it_fr | (refine it_loc ?_; exact own))
local macro_rules | `(tactic| exact wk) => `(tactic| (repeat (first | exact Less.nil | refine Less.same ?_ | refine Less.no ?_)))
local macro_rules | `(tactic| exact ln) => `(tactic| first | refine ln_map its_tup ?_ | refine ln_map its_fr ?_ | refine ln_map (its_loc (at_own (i := 0) rfl)) ?_ | refine ln_map (its_loc (at_own (i := 1) rfl)) ?_ | refine ln_map (its_loc (at_own (i := 2) rfl)) ?_ | refine ln_map (its_loc (at_own (i := 3) rfl)) ?_ | refine ln_map (its_loc (at_own (i := 4) rfl)) ?_ | refine ln_map (its_loc (at_own (i := 5) rfl)) ?_ | refine ln_map (its_loc (at_own (i := 6) rfl)) ?_ | refine ln_map (its_loc (at_own (i := 7) rfl)) ?_ | refine ln_map (its_loc (at_own (i := 8) rfl)) ?_ | refine ln_map (its_loc (at_own (i := 9) rfl)) ?_ | refine ln_map (its_loc (at_own (i := 10) rfl)) ?_ | refine ln_map (its_loc (at_own (i := 11) rfl)) ?_ | refine ln_map (its_loc (at_own (i := 12) rfl)) ?_ | refine ln_map (its_loc (at_own (i := 13) rfl)) ?_ | refine ln_map (its_loc (at_own (i := 14) rfl)) ?_ | refine ln_map (its_loc (at_own (i := 15) rfl)) ?_ | refine ln_of its_tup ?_ | refine ln_of its_fr ?_ | refine ln_of (its_loc (at_own (i := 0) rfl)) ?_ | refine ln_of (its_loc (at_own (i := 1) rfl)) ?_ | refine ln_of (its_loc (at_own (i := 2) rfl)) ?_ | refine ln_of (its_loc (at_own (i := 3) rfl)) ?_ | refine ln_of (its_loc (at_own (i := 4) rfl)) ?_ | refine ln_of (its_loc (at_own (i := 5) rfl)) ?_ | refine ln_of (its_loc (at_own (i := 6) rfl)) ?_ | refine ln_of (its_loc (at_own (i := 7) rfl)) ?_ | refine ln_of (its_loc (at_own (i := 8) rfl)) ?_ | refine ln_of (its_loc (at_own (i := 9) rfl)) ?_ | refine ln_of (its_loc (at_own (i := 10) rfl)) ?_ | refine ln_of (its_loc (at_own (i := 11) rfl)) ?_ | refine ln_of (its_loc (at_own (i := 12) rfl)) ?_ | refine ln_of (its_loc (at_own (i := 13) rfl)) ?_ | refine ln_of (its_loc (at_own (i := 14) rfl)) ?_ | refine ln_of (its_loc (at_own (i := 15) rfl)) ?_)
local macro_rules | `(tactic| exact wx1) => `(tactic| first | refine vx_var rfl ?_ | refine vx_own rfl ?_ | refine vx_cn ?_ | refine vl_nil ?_ | refine vl_cons ?_ | refine ex_int ?_ | refine ex_bl ?_ | refine ex_d ?_ | refine vx_bin ?_ | refine vx_cmp ?_ | refine vx_f2 ?_ | refine vx_idx ?_ | refine vx_f1 ?_ | refine vx_isi ?_ | refine vx_neg ?_ | refine vx_tup ?_ | refine vx_lst ?_ | refine vx_sl ?_ | refine vx_rev ?_ | refine rv_tup ?_ | refine vo_none ?_ | refine vo_some ?_ | refine bin_add ?_ | refine bin_sub ?_ | refine vt_b rfl (vx_isi ?_) | refine is_ty (fun _ => rfl) ?_ | refine vt_cmp ?_ | refine vt_not ?_ | refine vt_and ?_ | refine vt_or ?_ | refine c_lt ?_ | refine c_le ?_ | refine c_gt ?_ | refine c_ge ?_ | refine c_eq ?_ | refine c_ne ?_ | refine c_is ?_ | refine c_isn ?_ | exact ln | refine in_of ?_ | refine vf_nil ?_ | refine vf_one ?_ | refine sl_tup ?_ | refine ix_of its_tup (atI_0 _ _) ?_ | refine ix_of its_tup (atI_1 _ _ _) ?_ | refine ix_of its_tup (atI_2 _ _ _ _) ?_ | refine vi_e ?_ | refine vi_enum ?_ | refine vi_rng0 ?_)
local macro_rules | `(tactic| exact wx) => `(tactic| repeat (first | exact wx1 | (refine put_d ?_; dsimp only [List.set])))
local macro_rules | `(tactic| exact wxt) => `(tactic| repeat (first | exact wx1 | (refine put_d ?_; dsimp only [List.set]) | (refine ⟨le_ok (by simp; done), ?_⟩)))
local macro_rules | `(tactic| exact asg) => `(tactic| (refine vs_asg (by assumption) ?_; exact wx))
local macro_rules | `(tactic| exact ret) => `(tactic| (refine vs_ret ?_; exact wx))
local macro_rules | `(tactic| exact iff1) => `(tactic| (refine vs_if1 ?_; exact wx))

section
variable {n : Nat} {S : Sto} {h : Int} {L : List (List Int)} {np b0 : Nat} {nl : List Nat} {one row told : List Int}
theorem getD_rng {a : List Int} {i : Nat} (h : Rng L a) (hi : i < a.length) : 0 ≤ a.getD i 0 ∧ a.getD i 0 < L.length := by
  have : a.getD i 0 = a[i] := by simp [List.getD, hi]
  rw [this]
  exact h _ (List.getElem_mem hi)
theorem ex1_rng {a : List Int} {i : Nat} (h : Rng L a) (hi : i + 1 < a.length) : Rng L (ex1 a i) := fun x hx => by
  unfold ex1 at hx
  rcases List.mem_or_eq_of_mem_set hx with hx | rfl
  · rcases List.mem_or_eq_of_mem_set hx with hx | rfl
    · exact h x hx
    · exact getD_rng h hi
  · exact getD_rng h (by omega)
theorem ex1_len (a : List Int) (i : Nat) : (ex1 a i).length = a.length := by simp [ex1]
theorem atI_getD {a : List Int} {i : Int} (h0 : 0 ≤ i) (h1 : i < a.length) : atI (a.map .int) i = some (.int (a.getD i.toNat 0)) := atI_map 0 h0 h1
theorem ok_leads (st : Near b0 S np nl L) (hr : Rng L one) (hl : one.length < 900) (hs : swaps (N L) one told = some row) : Ok (callN T (n + 1) 14 [.loc np, lotD one, lotD row, lotD told] S) fun r => r = (.d (.bl true), S) := by
  refine fn_p (d := ⟨"_law_leads", 4, 6, b__law_leads⟩) rfl rfl ?_
  dsimp only [b__law_leads]
  have F := same_fm S
  rw [show ve0 6 [.loc np, lotD one, lotD row, lotD told] = [.d (.loc np), .d (lotD one), .d (lotD row), .d (lotD told), .no, .no] from rfl]
  have hst : ∀ S', Same S S' → Near b0 S' np nl L := fun S' h => near_same st h
  refine vs_asg F ?_
  exact wx
  refine ls_of its_tup (put_fr fun p => ?_)
  dsimp only [List.set]
  refine vs_for (c := []) (xs := told.map .int) (fun k ve => ∃ now, ve = [.d (.loc np), .d (lotD one), .d (lotD row), .d (lotD told), .o p (.lst (now.map .int)), .no] ∧ swaps (N L) now (told.drop k) = some row ∧ Rng L now ∧ now.length < 900) ?_ ⟨one, rfl, hs, hr, hl⟩ (fun _ _ _ => at_nil) ?_ ?_
  · exact wx
    exact ⟨_, _, it_tup, rfl, rfl⟩
  · rintro k d ve hk ⟨now, rfl, hsw, hrn, hln⟩
    rw [List.getElem?_map] at hk
    obtain ⟨i, hi, rfl⟩ := Option.map_eq_some_iff.mp hk
    have hk2 : k < told.length := (List.getElem?_eq_some_iff.mp hi).1
    have hdr : told.drop k = i :: told.drop (k + 1) := by
      rw [List.drop_eq_getElem_cons hk2]
      congr 1
      rw [nth_of hk2] at hi
      exact Option.some.inj hi
    rw [hdr] at hsw
    have hsw : (if (0 ≤ i ∧ i + 1 < now.length) ∧ N L (now.getD i.toNat 0) (now.getD (i.toNat + 1) 0) = false then swaps (N L) (ex1 now i.toNat) (told.drop (k + 1)) else none) = some row := hsw
    by_cases hc : (0 ≤ i ∧ i + 1 < now.length) ∧ N L (now.getD i.toNat 0) (now.getD (i.toNat + 1) 0) = false
    · rw [if_pos hc] at hsw
      obtain ⟨⟨i0, i1⟩, hN⟩ := hc
      have a0 := atI_getD (a := now) i0 (by omega)
      have a1 : atI (now.map .int) (i + 1) = some (.int (now.getD (i.toNat + 1) 0)) := by
        have := atI_getD (a := now) (i := i + 1) (by omega) i1
        rw [show (i + 1).toNat = i.toNat + 1 by omega] at this
        exact this
      obtain ⟨y0, y1⟩ := getD_rng hrn (i := i.toNat) (by omega)
      obtain ⟨z0, z1⟩ := getD_rng hrn (i := i.toNat + 1) (by omega)
      refine vg_var ?_
      dsimp only [List.set, b__law_leads_1]
      exact iff1
      refine ⟨fun _ => ?_, fun h => absurd h (by decide)⟩
      exact wx
      refine ⟨fun _ => ?_, fun h => absurd h (by decide)⟩
      exact wx
      refine ⟨fun _ => ?_, fun h => absurd (of_decide_eq_true h) (by omega)⟩
      exact wx
      refine ⟨fun h => absurd (of_decide_eq_true h) (by omega), fun _ => ?_⟩
      refine vs_if1 (vt_b rfl (vx_near hst ?_))
      exact wx
      refine ⟨rfl, ?_⟩
      exact wx
      refine ix_of (its_loc (at_own (i := 4) rfl)) a0 ?_
      exact wx
      refine ⟨⟨y0, y1⟩, ?_⟩
      exact wx
      refine ix_of (its_loc (at_own (i := 4) rfl)) a1 ?_
      exact wx
      refine ⟨⟨z0, z1⟩, ?_⟩
      exact wx
      refine ⟨fun h => (by rw [hN] at h; cases h), fun _ => ?_⟩
      refine vs_asgG F ?_
      exact wx
      refine ix_of (its_loc (at_own (i := 4) rfl)) a1 ?_
      exact wx
      refine ix_of (its_loc (at_own (i := 4) rfl)) a0 ?_
      exact wx
      refine ⟨by simp, ?_⟩
      exact wx
      refine vg_tup (vgs_cons (vg_sub F (i := 4) rfl (vx_own rfl rfl) ?_))
      exact wx
      refine ⟨by omega, by exact om, vgs_cons (vg_sub F (i := 4) rfl (vx_own rfl rfl) ?_)⟩
      exact wx
      refine ⟨by omega, by exact om, vgs_nil (vs_nil ⟨_, ⟨ex1 now i.toNat, rfl, hsw, ex1_rng hrn (by omega), by rw [ex1_len]; exact hln⟩, ?_⟩)⟩
      dsimp only [List.set]
      rw [show (i + 1).toNat = i.toNat + 1 by omega]
      unfold ex1
      rw [List.map_set, List.map_set]
      exact wk
    · rw [if_neg hc] at hsw
      cases hsw
  · rintro ve ⟨now, rfl, hsw, hrn, hln⟩
    rw [List.length_map, List.drop_length] at hsw
    have : now = row := Option.some.inj hsw
    subst this
    exact ret
    refine tp_of (its_loc (at_own (i := 4) rfl)) ?_
    exact wx
    refine c_rows (ret_p rfl ?_)
    rw [decide_eq_true rfl]
    rfl
theorem N_refl (w : Web h L) (x : Int) (x0 : 0 ≤ x) (x1 : x < L.length) : N L x x = true := by
  obtain ⟨g, hg⟩ := List.exists_mem_of_ne_nil _ (w.ok _ (lot_mem x0 x1)).1
  exact share_iff.mpr ⟨g, hg, hg⟩
theorem alike_count {a c : List Int} (hrefl : ∀ x, Rn L x → N L x x = true) (ha : Rng L a) (hc : Rng L c) (h : Alike (N L) (Rn L) a c) (y : Int) : a.count y = c.count y := by
  have e : ∀ l : List Int, l.count y = (l.filter (two y y)).length := fun l => by
    rw [List.count_eq_length_filter]
    congr 1
    apply List.filter_congr
    intro x _
    unfold two
    rw [Bool.or_self]
  by_cases hy : Rn L y
  · rw [e, e, h y y hy hy (hrefl y hy)]
  · rw [List.count_eq_zero.mpr fun hm => hy (ha y hm), List.count_eq_zero.mpr fun hm => hy (hc y hm)]
theorem ok_told (w : Web h L) (st : Near b0 S np nl L) (ho : Rng L one) (ht : Rng L row) (hl1 : one.length < 900) (hl2 : row.length < 900) : Ok (callN T (n + 4) 15 [webD h L, .loc np, lotD one, lotD row] S) fun r => r = (.d (.bl true), S) := by
  have hL8 := w.l8
  have hrefl : ∀ x, Rn L x → N L x x = true := fun x hx => N_refl w x hx.1 hx.2
  refine fn_p (d := ⟨"_law_told", 4, 5, b__law_told⟩) rfl rfl ?_
  dsimp only [b__law_told]
  have F := same_fm S
  rw [show ve0 5 [webD h L, .loc np, lotD one, lotD row] = [.d (webD h L), .d (.loc np), .d (lotD one), .d (lotD row), .no] from rfl]
  refine vs_asg F (vx_callP F ?_)
  exact wx
  refine ⟨_, loD_pure _, fun e S' R' => ok_xrow (n := n) ho ht hl1 hl2, put_d ?_⟩
  dsimp only [List.set]
  refine vs_if1 (vt_not (vt_b rfl (vx_callP F ?_)))
  exact wx
  refine ⟨_, rfl, fun e S' R' => ok_one (n := n + 2) (near_same st R'.g) ho ht hl1 hl2 (by omega), _, rfl, ?_⟩
  cases hone : oneB L one row with
  | false =>
    refine ⟨fun _ => ?_, fun h => absurd h (by decide)⟩
    exact ret
    refine ret_p rfl ?_
    have hx : xrow L one row = none := by
      cases hx : xrow L one row with
      | none => rfl
      | some l =>
        unfold xrow at hx
        by_cases hlen : one.length = row.length
        · rw [if_pos hlen] at hx
          have := oneB_yes ⟨hlen, of_xch (R := Rn L) (N_comm L) row one 0 l hlen hx⟩
          rw [hone] at this
          cases this
        · rw [if_neg hlen] at hx
          cases hx
    rw [hx]
    rfl
  | true =>
    refine ⟨fun h => absurd h (by decide), fun _ => ?_⟩
    obtain ⟨hlen, hal⟩ := oneB_iff.mp hone
    obtain ⟨l, hl⟩ := xch_of (N_comm L) hrefl row one 0 hlen ho ht hal
    have hx : xrow L one row = some l := by
      unfold xrow
      rw [if_pos hlen, hl]
    rw [hx]
    dsimp only [loD]
    have hcnt := alike_count hrefl ho ht hal
    exact iff1
    refine ⟨fun _ => ?_, fun h => absurd h (by decide)⟩
    refine vt_cmp ?_
    exact wx
    refine vx_callP F ?_
    exact wx
    refine ⟨_, rfl, fun e S' R' => ok_turned (n := n + 2) hl1 hl2 fun y => Nat.le_of_eq (hcnt y), ?_⟩
    exact wx
    rw [xch_len row one 0 l hlen hl]
    refine ⟨fun h => absurd h (by simp), fun _ => ?_⟩
    refine vs_ret (vx_callP F ?_)
    exact wx
    have hsw := xch_swaps (M := N L) row one [] l hlen hl
    rw [List.nil_append, List.nil_append] at hsw
    exact ⟨_, rfl, fun e S' R' => ok_leads (n := n + 2) (near_same st R'.g) ho hl1 hsw, ret_p rfl rfl⟩
end
end K06
set_option linter.all false
set_option autoImplicit false
set_option maxRecDepth 100000
namespace K06
open Pv
local macro_rules | `(tactic| exact om) => `(tactic| first | omega | (simp; done) | (simp; omega) | (simp at *; omega))
local macro_rules | `(tactic| exact own) => `(tactic| first | exact at_own (i := 0) rfl | exact at_own (i := 1) rfl | exact at_own (i := 2) rfl | exact at_own (i := 3) rfl | exact at_own (i := 4) rfl | exact at_own (i := 5) rfl | exact at_own (i := 6) rfl | exact at_own (i := 7) rfl | exact at_own (i := 8) rfl | exact at_own (i := 9) rfl | exact at_own (i := 10) rfl | exact at_own (i := 11) rfl | exact at_own (i := 12) rfl | exact at_own (i := 13) rfl | exact at_own (i := 14) rfl | assumption | apply_assumption)
local macro_rules | `(tactic| exact its) => `(tactic| first | exact its_tup | exact its_fr | exact its_scr | (refine its_loc ?_; exact own) | exact lst_fr | (refine lst_loc ?_; exact own) | exact it_tup | exact it_fr | (refine it_loc ?_; exact own))
local macro_rules | `(tactic| exact wk) => `(tactic| (repeat (first | exact Less.nil | refine Less.same ?_ | refine Less.no ?_)))
local macro_rules | `(tactic| exact ln) => `(tactic| first | refine ln_map its_tup ?_ | refine ln_map its_fr ?_ | refine ln_map (its_loc (at_own (i := 0) rfl)) ?_ | refine ln_map (its_loc (at_own (i := 1) rfl)) ?_ | refine ln_map (its_loc (at_own (i := 2) rfl)) ?_ | refine ln_map (its_loc (at_own (i := 3) rfl)) ?_ | refine ln_map (its_loc (at_own (i := 4) rfl)) ?_ | refine ln_map (its_loc (at_own (i := 5) rfl)) ?_ | refine ln_map (its_loc (at_own (i := 6) rfl)) ?_ | refine ln_map (its_loc (at_own (i := 7) rfl)) ?_ | refine ln_map (its_loc (at_own (i := 8) rfl)) ?_ | refine ln_map (its_loc (at_own (i := 9) rfl)) ?_ | refine ln_map (its_loc (at_own (i := 10) rfl)) ?_ | refine ln_map (its_loc (at_own (i := 11) rfl)) ?_ | refine ln_map (its_loc (at_own (i := 12) rfl)) ?_ | refine ln_map (its_loc (at_own (i := 13) rfl)) ?_ | refine ln_map (its_loc (at_own (i := 14) rfl)) ?_ | refine ln_map (its_loc (at_own (i := 15) rfl)) ?_ | refine ln_of its_tup ?_ | refine ln_of its_fr ?_ | refine ln_of (its_loc (at_own (i := 0) rfl)) ?_ | refine ln_of (its_loc (at_own (i := 1) rfl)) ?_ | refine ln_of (its_loc (at_own (i := 2) rfl)) ?_ | refine ln_of (its_loc (at_own (i := 3) rfl)) ?_ | refine ln_of (its_loc (at_own (i := 4) rfl)) ?_ | refine ln_of (its_loc (at_own (i := 5) rfl)) ?_ | refine ln_of (its_loc (at_own (i := 6) rfl)) ?_ | refine ln_of (its_loc (at_own (i := 7) rfl)) ?_ | refine ln_of (its_loc (at_own (i := 8) rfl)) ?_ | refine ln_of (its_loc (at_own (i := 9) rfl)) ?_ | refine ln_of (its_loc (at_own (i := 10) rfl)) ?_ | refine ln_of (its_loc (at_own (i := 11) rfl)) ?_ | refine ln_of (its_loc (at_own (i := 12) rfl)) ?_ | refine ln_of (its_loc (at_own (i := 13) rfl)) ?_ | refine ln_of (its_loc (at_own (i := 14) rfl)) ?_ | refine ln_of (its_loc (at_own (i := 15) rfl)) ?_)
local macro_rules | `(tactic| exact wx1) => `(tactic| first | refine vx_var rfl ?_ | refine vx_own rfl ?_ | refine vx_cn ?_ | refine vl_nil ?_ | refine vl_cons ?_ | refine ex_int ?_ | refine ex_bl ?_ | refine ex_d ?_ | refine vx_bin ?_ | refine vx_cmp ?_ | refine vx_f2 ?_ | refine vx_idx ?_ | refine vx_f1 ?_ | refine vx_isi ?_ | refine vx_neg ?_ | refine vx_tup ?_ | refine vx_lst ?_ | refine vx_sl ?_ | refine vx_rev ?_ | refine rv_tup ?_ | refine vo_none ?_ | refine vo_some ?_ | refine bin_add ?_ | refine bin_sub ?_ | refine vt_b rfl (vx_isi ?_) | refine is_ty (fun _ => rfl) ?_ | refine vt_cmp ?_ | refine vt_not ?_ | refine vt_and ?_ | refine vt_or ?_ | refine c_lt ?_ | refine c_le ?_ | refine c_gt ?_ | refine c_ge ?_ | refine c_eq ?_ | refine c_ne ?_ | refine c_is ?_ | refine c_isn ?_ | exact ln | refine in_of ?_ | refine vf_nil ?_ | refine vf_one ?_ | refine sl_tup ?_ | refine ix_of its_tup (atI_0 _ _) ?_ | refine ix_of its_tup (atI_1 _ _ _) ?_ | refine ix_of its_tup (atI_2 _ _ _ _) ?_ | refine vi_e ?_ | refine vi_enum ?_ | refine vi_rng0 ?_)
local macro_rules | `(tactic| exact wx) => `(tactic| repeat (first | exact wx1 | (refine put_d ?_; dsimp only [List.set])))
local macro_rules | `(tactic| exact wxt) => `(tactic| repeat (first | exact wx1 | (refine put_d ?_; dsimp only [List.set]) | (refine ⟨le_ok (by simp; done), ?_⟩)))
local macro_rules | `(tactic| exact asg) => `(tactic| (refine vs_asg (by assumption) ?_; exact wx))
local macro_rules | `(tactic| exact ret) => `(tactic| (refine vs_ret ?_; exact wx))
local macro_rules | `(tactic| exact iff1) => `(tactic| (refine vs_if1 ?_; exact wx))

/-! near letters, made: what stands by then is kept -/
theorem vs_near {n i wv l : Nat} {S0 : Sto} {ve : List Sl} {r : Ss} {Q : Fl → List Sl → Prop} {h : Int} {L : List (List Int)} (hw : ve[wv]? = some (.d (webD h L))) (hl8 : L.length < 1000) (hl0 : 0 < L.length) (hl : l < S0.length)
    (k : ∀ S1 np nl, Near S0.length S1 np nl L → (∀ q, q = np ∨ q ∈ nl → q ≠ l) → Gr l S0 S1 → VS (callN T (n + 1)) (Gr l S1) S1.length r ((ve.map frz).set i (.d (.loc np))) Q) : VS (callN T (n + 1)) (Gr l S0) S0.length (.cons (.asg (.var i) (.call 8 (.cons (.var wv) .nil) .nil [0])) r) ve Q := fun c e S hc R => by
  refine ok_asg (Ok.mono (near_at (n := n) (R.val wv _ hw) hl8 hl0) fun w ⟨np, locs, S1, ew, st, kp⟩ => ?_)
  subst ew
  dsimp only [settle]
  have g1 : Gr l S0 S1 := R.g.trans ⟨kp.len, fun j hj _ => kp.at_ j hj (.inl hj), by
    obtain ⟨u, v, hb⟩ := R.g.bx
    exact ⟨u, v, by rw [kp.at_ l (at_lt hb) (.inl (at_lt hb))]; exact hb⟩⟩
  have st0 : Near S0.length S1 np locs L := ⟨st.at_, st.it, st.len, st.nd, st.ns, ⟨Nat.le_trans R.g.len st.ge.1, fun q hq => Nat.le_trans R.g.len (st.ge.2 q hq)⟩, st.exs⟩
  have R1 : Rel (Gr l S1) S1.length ((ve.map frz).set i (.d (.loc np))) (e.set i (some (.loc np))) S1 := by
    have R2 := (R.frzG (G' := Gr l S) S.length (Gr.refl R.g.bx)).setd i (.loc np)
    have no : ∀ (j p : Nat) (ob : O), ((ve.map frz).set i (.d (.loc np)))[j]? ≠ some (.o p ob) := fun j p ob h => by
      by_cases hij : i = j
      · subst hij
        have := sl_set_eq h
        cases this
      · have h2 := sl_set_ne h hij
        rw [List.getElem?_map] at h2
        obtain ⟨s, _, e⟩ := Option.map_eq_some_iff.mp h2
        cases s <;> cases e
    exact ⟨R2.len, Gr.refl g1.bx, R2.val, fun j p ob h => absurd h (no j p ob), fun a j p q x y _ h => absurd h (no a p x)⟩
  refine Ok.mono (k S1 np locs st0 (fun q hq => ?_) g1 c _ _ (Nat.le_trans hc g1.len) R1) fun w hw => Post.out (fun S' g => g1.trans g) g1.len hw
  have : S0.length ≤ q := by
    rcases hq with rfl | hq
    · exact st0.ge.1
    · exact st0.ge.2 q hq
  omega
theorem vs_nearP {n i wv : Nat} {S0 : Sto} {ve : List Sl} {r : Ss} {Q : Fl → List Sl → Prop} {h : Int} {L : List (List Int)} (hw : ve[wv]? = some (.d (webD h L))) (hl8 : L.length < 1000) (hl0 : 0 < L.length)
    (k : ∀ S1 np nl, Near S0.length S1 np nl L → Same S0 S1 → VS (callN T (n + 1)) (Same S1) S1.length r ((ve.map frz).set i (.d (.loc np))) Q) : VS (callN T (n + 1)) (Same S0) S0.length (.cons (.asg (.var i) (.call 8 (.cons (.var wv) .nil) .nil [0])) r) ve Q := fun c e S hc R => by
  refine ok_asg (Ok.mono (near_at (n := n) (R.val wv _ hw) hl8 hl0) fun w ⟨np, locs, S1, ew, st, kp⟩ => ?_)
  subst ew
  dsimp only [settle]
  have hbS : S0.length ≤ S.length := take_len R.g
  have g1 : Same S0 S1 := same_trans R.g (kp_take kp)
  have st0 : Near S0.length S1 np locs L := ⟨st.at_, st.it, st.len, st.nd, st.ns, ⟨Nat.le_trans hbS st.ge.1, fun q hq => Nat.le_trans hbS (st.ge.2 q hq)⟩, st.exs⟩
  have R1 : Rel (Same S1) S1.length ((ve.map frz).set i (.d (.loc np))) (e.set i (some (.loc np))) S1 := by
    have R2 := (R.frzG (G' := Same S) S.length (Same.refl S)).setd i (.loc np)
    have no : ∀ (j p : Nat) (ob : O), ((ve.map frz).set i (.d (.loc np)))[j]? ≠ some (.o p ob) := fun j p ob h => by
      by_cases hij : i = j
      · subst hij
        have := sl_set_eq h
        cases this
      · have h2 := sl_set_ne h hij
        rw [List.getElem?_map] at h2
        obtain ⟨s, _, e⟩ := Option.map_eq_some_iff.mp h2
        cases s <;> cases e
    exact ⟨R2.len, Same.refl S1, R2.val, fun j p ob h => absurd h (no j p ob), fun a j p q x y _ h => absurd h (no a p x)⟩
  exact Ok.mono (k S1 np locs st0 g1 c _ _ (Nat.le_trans hc (take_len g1)) R1) fun w hw => Post.out (fun S' g => same_trans g1 g) (take_len g1) hw

section
variable {n : Nat} {S : Sto} {h : Int} {L : List (List Int)} {np b0 l : Nat} {nl : List Nat} {one row told : List Int}
theorem rng_cut {a : List Int} (h : Rng L a) (i j : Nat) : Rng L (a.take i ++ a.drop j) := fun x hx => by
  rcases List.mem_append.mp hx with hx | hx
  · exact h x (List.mem_of_mem_take hx)
  · exact h x (List.mem_of_mem_drop hx)
theorem cut_row {a : List Int} {i : Int} (h0 : 0 ≤ i) : cut (a.map D.int) none (some i) ++ cut (a.map D.int) (some (i + 1)) none = (a.take i.toNat ++ a.drop (i.toNat + 1)).map .int := by
  rw [cut_take h0, cut_drop (by omega), show (i + 1).toNat = i.toNat + 1 by omega, List.map_append, List.map_take, List.map_drop]
theorem ok_end {sign : Int} (hsg : sign.natAbs ≤ 1) (st : Near b0 S np nl L) (hr : Rng L row) (hl : row.length < 900) (hL : L.length < 1000) : Ok (callN T (n + 1) 12 [.loc np, lotD row, .int sign] S) fun r => (∃ out, r.1 = .d (lotD out) ∧ Rng L out ∧ out.length = row.length) ∧ r.2 = S := by
  refine fn_q (P := fun w => ∃ out, w = .d (lotD out) ∧ Rng L out ∧ out.length = row.length) (d := ⟨"_law_end", 3, 12, b__law_end⟩) rfl rfl ?_
  have F := same_fm S
  have hst : ∀ S', Same S S' → Near b0 S' np nl L := fun S' h => near_same st h
  rw [show ve0 12 [.loc np, lotD row, .int sign] = [.d (.loc np), .d (lotD row), .d (.int sign), .no, .no, .no, .no, .no, .no, .no, .no, .no] from rfl]
  dsimp only [b__law_end]
  refine vs_swap2 F ?_
  exact wx
  refine ls_of its_tup ?_
  exact wx
  refine ⟨by simp, fun lp fp => ?_⟩
  dsimp only [putS, List.set]
  refine vs_for (c := []) (xs := rngD 0 row.length) (fun k ve => ∃ lp left found, ve = [.d (.loc np), .d (lotD row), .d (.int sign), .o lp (.lst (left.map .int)), .o fp (.lst (found.map .int)), .no, .no, .no, .no, .no, .no, .no] ∧ found.length = k ∧ left.length + k = row.length ∧ Rng L left ∧ Rng L found) ?_ ⟨lp, row, [], rfl, rfl, by simp, hr, by intro x hx; simp at hx⟩ (fun _ _ _ => at_nil) ?_ ?_
  · exact wx
    exact ⟨⟨by exact om, by exact om⟩, rfl, rfl⟩
  · rintro k d ve hk ⟨lp, left, found, rfl, hf, hlf, hrl, hrf⟩
    obtain ⟨rfl, hlt⟩ := rngD_get hk
    refine vg_var ?_
    dsimp only [List.set, b__law_end_2]
    refine vs_swap2 F ?_
    exact wx
    refine ⟨by simp, fun _ ap => ?_⟩
    dsimp only [putS, List.set]
    refine vs_forW (c := []) (xs := rngD 0 left.length) (fun j ve => ∃ best ahead, ve = [.d (.loc np), .d (lotD row), .d (.int sign), .o lp (.lst (left.map .int)), .o fp (.lst (found.map .int)), .no, .no, .d (.int best), .o ap (.lst (ahead.map .int)), .no, .no, .no] ∧ (0 ≤ best ∧ best < left.length) ∧ Rng L ahead ∧ ahead.length ≤ j) ?_ ⟨_, ⟨0, [], rfl, ⟨by omega, by omega⟩, by intro x hx; simp at hx, by simp⟩, by exact wk⟩ (fun _ _ _ => at_nil) ?_ ?_
    · exact wx
      exact ⟨⟨by exact om, by exact om⟩, rfl, rfl⟩
    · rintro j d ve hj ⟨best, ahead, rfl, ⟨b1, b2⟩, hra, hla⟩
      obtain ⟨rfl, hlt2⟩ := rngD_get hj
      have at1 := atI_getD (a := left) (i := 0 + (j : Nat)) (by omega) hlt2
      have at2 := atI_getD (a := left) b1 b2
      obtain ⟨x0, x1⟩ := getD_rng hrl (i := (0 + (j : Nat) : Int).toNat) (by omega)
      refine vg_var ?_
      dsimp only [List.set, b__law_end_1]
      refine vs_asg F ?_
      exact wx
      refine ix_of (its_loc (at_own (i := 3) rfl)) at1 (put_d ?_)
      generalize left.getD (0 + (j : Nat) : Int).toNat 0 = x at *
      dsimp only [List.set]
      exact iff1
      refine c_nin (its_loc (at_own (i := 8) rfl)) ⟨fun hn => ?_, fun hn => ?_⟩
      · refine vs_asg F (vx_cmp (vx_f1 (vx_compM (c := [(ap, .lst (ahead.map .int))]) (f := D.int) (ns := ahead) (fun o => N L o x) D.int ?_ (at_one (at_own (i := 8) rfl)) ?_ ?_)))
        · exact wx
          exact ⟨_, _, it_loc (at_own (i := 8) rfl), rfl, rfl⟩
        · intro o ho
          refine vgk_var (vf_one (vt_b rfl (vx_near hst ?_)))
          exact wx
          refine ⟨rfl, ?_⟩
          exact wx
          refine ⟨⟨(hra o ho).1, (hra o ho).2⟩, ?_⟩
          exact wx
          refine ⟨⟨x0, x1⟩, ?_⟩
          exact wx
          exact ⟨rfl, fun _ => vx_var rfl rfl⟩
        · exact wx
          refine vs_app F (i := 8) rfl (vx_own rfl rfl) ?_
          exact wx
          refine ⟨by exact om, ?_⟩
          dsimp only [List.set]
          have hra2 : Rng L (ahead ++ [x]) := hra.app x0 x1
          have hml : ∀ y : Int, sign.natAbs < 18446744073709551616 ∨ y.natAbs < 18446744073709551616 := fun y => .inl (by omega)
          refine vs_if1 (vt_and (vt_b rfl (vx_var rfl ⟨_, rfl, fun _ => ?_, fun _ => ⟨fun h => absurd h (by simp), fun _ => ?_⟩⟩)))
          · exact wx
            refine bin_mul (hml _) ?_
            exact wx
            refine ix_of (its_loc (at_own (i := 3) rfl)) at2 (bin_mul (hml _) ?_)
            exact wx
            refine ⟨fun _ => ?_, fun _ => ?_⟩
            · exact asg
              refine vs_then (vs_then (vs_nil ⟨_, ⟨0 + (j : Nat), ahead ++ [x], rfl, ⟨by omega, hlt2⟩, hra2, by simp; omega⟩, ?_⟩))
              simp only [List.map_append, List.map_cons, List.map_nil]
              exact wk
            · refine vs_then (vs_nil ⟨_, ⟨best, ahead ++ [x], rfl, ⟨b1, b2⟩, hra2, by simp; omega⟩, ?_⟩)
              simp only [List.map_append, List.map_cons, List.map_nil]
              exact wk
          · refine vs_then (vs_nil ⟨_, ⟨best, ahead ++ [x], rfl, ⟨b1, b2⟩, hra2, by simp; omega⟩, ?_⟩)
            simp only [List.map_append, List.map_cons, List.map_nil]
            exact wk
      · exact vs_nil ⟨_, ⟨best, ahead, rfl, ⟨b1, b2⟩, hra, by omega⟩, by exact wk⟩
    · rintro ve ⟨best, ahead, rfl, ⟨b1, b2⟩, hra, hla⟩
      have at2 := atI_getD (a := left) b1 b2
      obtain ⟨x0, x1⟩ := getD_rng hrl (i := best.toNat) (by omega)
      refine vs_app F (i := 4) rfl (vx_own rfl rfl) ?_
      exact wx
      refine ix_of (its_loc (at_own (i := 3) rfl)) at2 ⟨_, rfl, by exact om, ?_⟩
      dsimp only [List.set]
      exact asg
      refine sl_lst (lst_loc (at_own (i := 3) rfl)) ?_
      exact wx
      refine sl_lst (lst_loc (at_own (i := 3) rfl)) (bin_cat lst_fr lst_fr ?_ (put_fr fun lp2 => vs_nil ⟨_, ⟨lp2, left.take best.toNat ++ left.drop (best.toNat + 1), found ++ [left.getD best.toNat 0], rfl, by simp [hf], by simp; omega, rng_cut hrl _ _, hrf.app x0 x1⟩, ?_⟩))
      · rw [cut_take b1, cut_drop (by omega)]
        simp
        omega
      · dsimp only [List.set]
        rw [cut_row b1]
        simp only [List.map_append, List.map_cons, List.map_nil, List.map_take, List.map_drop]
        exact wk
  · rintro ve ⟨lp, left, found, rfl, hf, hlf, hrl, hrf⟩
    rw [rngD_len] at hf
    exact ret
    exact tp_of (its_loc (at_own (i := 4) rfl)) (ret_p (pure_ints _) ⟨_, rfl, found, rfl, hrf, by omega⟩)
end
end K06
set_option linter.all false
set_option autoImplicit false
set_option maxRecDepth 100000
namespace K06
open Pv
local macro_rules | `(tactic| exact om) => `(tactic| first | omega | (simp; done) | (simp; omega) | (simp at *; omega))
local macro_rules | `(tactic| exact own) => `(tactic| first | exact at_own (i := 0) rfl | exact at_own (i := 1) rfl | exact at_own (i := 2) rfl | exact at_own (i := 3) rfl | exact at_own (i := 4) rfl | exact at_own (i := 5) rfl | exact at_own (i := 6) rfl | exact at_own (i := 7) rfl | exact at_own (i := 8) rfl | exact at_own (i := 9) rfl | exact at_own (i := 10) rfl | exact at_own (i := 11) rfl | exact at_own (i := 12) rfl | exact at_own (i := 13) rfl | exact at_own (i := 14) rfl | assumption | apply_assumption)
local macro_rules | `(tactic| exact its) => `(tactic| first | exact its_tup | exact its_fr | exact its_scr | (refine its_loc ?_; exact own) | exact lst_fr | (refine lst_loc ?_; exact own) | exact it_tup | exact it_fr | (refine it_loc ?_; exact own))
local macro_rules | `(tactic| exact wk) => `(tactic| (repeat (first | exact Less.nil | refine Less.same ?_ | refine Less.no ?_)))
local macro_rules | `(tactic| exact ln) => `(tactic| first | refine ln_map its_tup ?_ | refine ln_map its_fr ?_ | refine ln_map (its_loc (at_own (i := 0) rfl)) ?_ | refine ln_map (its_loc (at_own (i := 1) rfl)) ?_ | refine ln_map (its_loc (at_own (i := 2) rfl)) ?_ | refine ln_map (its_loc (at_own (i := 3) rfl)) ?_ | refine ln_map (its_loc (at_own (i := 4) rfl)) ?_ | refine ln_map (its_loc (at_own (i := 5) rfl)) ?_ | refine ln_map (its_loc (at_own (i := 6) rfl)) ?_ | refine ln_map (its_loc (at_own (i := 7) rfl)) ?_ | refine ln_map (its_loc (at_own (i := 8) rfl)) ?_ | refine ln_map (its_loc (at_own (i := 9) rfl)) ?_ | refine ln_map (its_loc (at_own (i := 10) rfl)) ?_ | refine ln_map (its_loc (at_own (i := 11) rfl)) ?_ | refine ln_map (its_loc (at_own (i := 12) rfl)) ?_ | refine ln_map (its_loc (at_own (i := 13) rfl)) ?_ | refine ln_map (its_loc (at_own (i := 14) rfl)) ?_ | refine ln_map (its_loc (at_own (i := 15) rfl)) ?_ | refine ln_of its_tup ?_ | refine ln_of its_fr ?_ | refine ln_of (its_loc (at_own (i := 0) rfl)) ?_ | refine ln_of (its_loc (at_own (i := 1) rfl)) ?_ | refine ln_of (its_loc (at_own (i := 2) rfl)) ?_ | refine ln_of (its_loc (at_own (i := 3) rfl)) ?_ | refine ln_of (its_loc (at_own (i := 4) rfl)) ?_ | refine ln_of (its_loc (at_own (i := 5) rfl)) ?_ | refine ln_of (its_loc (at_own (i := 6) rfl)) ?_ | refine ln_of (its_loc (at_own (i := 7) rfl)) ?_ | refine ln_of (its_loc (at_own (i := 8) rfl)) ?_ | refine ln_of (its_loc (at_own (i := 9) rfl)) ?_ | refine ln_of (its_loc (at_own (i := 10) rfl)) ?_ | refine ln_of (its_loc (at_own (i := 11) rfl)) ?_ | refine ln_of (its_loc (at_own (i := 12) rfl)) ?_ | refine ln_of (its_loc (at_own (i := 13) rfl)) ?_ | refine ln_of (its_loc (at_own (i := 14) rfl)) ?_ | refine ln_of (its_loc (at_own (i := 15) rfl)) ?_)
local macro_rules | `(tactic| exact wx1) => `(tactic| first | refine vx_var rfl ?_ | refine vx_own rfl ?_ | refine vx_cn ?_ | refine vl_nil ?_ | refine vl_cons ?_ | refine ex_int ?_ | refine ex_bl ?_ | refine ex_d ?_ | refine vx_bin ?_ | refine vx_cmp ?_ | refine vx_f2 ?_ | refine vx_idx ?_ | refine vx_f1 ?_ | refine vx_isi ?_ | refine vx_neg ?_ | refine vx_tup ?_ | refine vx_lst ?_ | refine vx_sl ?_ | refine vx_rev ?_ | refine rv_tup ?_ | refine vo_none ?_ | refine vo_some ?_ | refine bin_add ?_ | refine bin_sub ?_ | refine vt_b rfl (vx_isi ?_) | refine is_ty (fun _ => rfl) ?_ | refine vt_cmp ?_ | refine vt_not ?_ | refine vt_and ?_ | refine vt_or ?_ | refine c_lt ?_ | refine c_le ?_ | refine c_gt ?_ | refine c_ge ?_ | refine c_eq ?_ | refine c_ne ?_ | refine c_is ?_ | refine c_isn ?_ | exact ln | refine in_of ?_ | refine vf_nil ?_ | refine vf_one ?_ | refine sl_tup ?_ | refine ix_of its_tup (atI_0 _ _) ?_ | refine ix_of its_tup (atI_1 _ _ _) ?_ | refine ix_of its_tup (atI_2 _ _ _ _) ?_ | refine vi_e ?_ | refine vi_enum ?_ | refine vi_rng0 ?_)
local macro_rules | `(tactic| exact wx) => `(tactic| repeat (first | exact wx1 | (refine put_d ?_; dsimp only [List.set])))
local macro_rules | `(tactic| exact wxt) => `(tactic| repeat (first | exact wx1 | (refine put_d ?_; dsimp only [List.set]) | (refine ⟨le_ok (by simp; done), ?_⟩)))
local macro_rules | `(tactic| exact asg) => `(tactic| (refine vs_asg (by assumption) ?_; exact wx))
local macro_rules | `(tactic| exact ret) => `(tactic| (refine vs_ret ?_; exact wx))
local macro_rules | `(tactic| exact iff1) => `(tactic| (refine vs_if1 ?_; exact wx))

/-! draws, by slots -/
theorem vx_take {n l i : Nat} {S0 : Sto} {ve : List Sl} {Q : Vl → Prop} {ye : E} (hl : l < S0.length) (hi : ve[i]? = some (.d (.loc l))) (h : VX (callN T (n + 1)) (Gr l S0) S0.length ve ye fun v => ∃ m, v = .d (.int m) ∧ 0 < m ∧ m < 1000 ∧ ∀ q : Int, 0 ≤ q → q < m → Q (.d (.int q))) : VX (callN T (n + 1)) (Gr l S0) S0.length ve (.call 4 (.cons (.var i) (.cons ye .nil)) .nil [0, 1]) Q := by
  refine vx_callB hl (vl_cons (vx_var hi (ex_d (vl_cons (h.mono fun v ⟨m, e, m0, m1, hq⟩ => ⟨.int m, e, vl_nil (vl_nil ⟨fun w => ∃ q : Int, w = .d (.int q) ∧ 0 ≤ q ∧ q < m, fun e S R => ?_, fun w ⟨q, ew, q0, q1⟩ => ⟨.int q, ew, rfl, hq q q0 q1⟩⟩)⟩)))))
  exact Ok.mono (ok_take (n := n) R.g.bx m0 m1) fun r ⟨q, e1, q0, q1, fr⟩ => ⟨⟨q, e1, q0, q1⟩, fr⟩
theorem vx_pick {n l i : Nat} {S0 : Sto} {ve : List Sl} {Q : Vl → Prop} {ye : E} (hl : l < S0.length) (hi : ve[i]? = some (.d (.loc l))) (h : VX (callN T (n + 2)) (Gr l S0) S0.length ve ye fun v => ∃ xs, v = .fr xs ∧ xs ≠ [] ∧ xs.length < 1000 ∧ (∀ x ∈ xs, x.pure = true) ∧ ∀ x ∈ xs, Q (.d x)) : VX (callN T (n + 2)) (Gr l S0) S0.length ve (.call 5 (.cons (.var i) (.cons ye .nil)) .nil [0, 1]) Q := by
  refine vx_callBL hl hi (h.mono fun v ⟨xs, e, h0, hlen, hp, hq⟩ => ⟨xs, e, fun w => ∃ x, x ∈ xs ∧ w = .d x, fun S g => ?_, fun w ⟨x, hx, ew⟩ => ⟨x, ew, hp x hx, hq x hx⟩⟩)
  have hll : l ≠ S.length := by have := g.len; omega
  exact Ok.mono (ok_pick (n := n) (xs := xs) ((g.push [.lst xs]).bx) (by simp) (by simp; omega) h0 hlen hp) fun r ⟨x, hx, e, fr⟩ => ⟨⟨x, hx, e⟩, fr⟩

section
variable {n : Nat} {S : Sto} {h : Int} {L : List (List Int)} {np b0 l p : Nat} {nl : List Nat} {one row told now : List Int} {spot way : Int} {s7 s8 : Sl}
def Bnt (L : List (List Int)) (w : Vl) : Prop := ∃ now, w = .d (lotD now) ∧ Rng L now ∧ now.length ≤ 60
def bve (l : Nat) (h : Int) (L : List (List Int)) (np : Nat) (row : List Int) (p : Nat) (now : List Int) (spot way : Int) (s7 s8 : Sl) : List Sl := [.d (.loc l), .d (webD h L), .d (.loc np), .d (lotD row), .o p (.lst (now.map .int)), .d (.int spot), .d (.int way), s7, s8]
def BQ (L : List (List Int)) : Fl → List Sl → Prop := fun fl _ => ∃ v, flV fl = some v ∧ Bnt L v
theorem rng_rev {a : List Int} (h : Rng L a) : Rng L a.reverse := fun x hx => h x (List.mem_reverse.mp hx)
theorem rng_take {a : List Int} (h : Rng L a) (i : Nat) : Rng L (a.take i) := fun x hx => h x (List.mem_of_mem_take hx)
theorem rng_drop {a : List Int} (h : Rng L a) (i : Nat) : Rng L (a.drop i) := fun x hx => h x (List.mem_of_mem_drop hx)
theorem rng_app {a c : List Int} (h : Rng L a) (k : Rng L c) : Rng L (a ++ c) := fun x hx => by
  rcases List.mem_append.mp hx with hx | hx
  · exact h x hx
  · exact k x hx
theorem bent9 (hlt : l < S.length) (hst : ∀ S', Gr l S S' → Near b0 S' np nl L) (hn : ∀ q, q = np ∨ q ∈ nl → q ≠ l) (hr : Rng L now) (hl : now.length ≤ 60) :
    VS (callN T (n + 3)) (Gr l S) S.length (tailOf (tailOf (tailOf (tailOf (tailOf (tailOf (tailOf (tailOf b__law_bent)))))))) (bve l h L np row p now spot way s7 s8) (BQ L) := by
  dsimp only [tailOf, b__law_bent, bve]
  refine vs_ret (vx_callB hlt ?_)
  exact wx
  refine tp_of (its_loc (at_own (i := 4) rfl)) ?_
  exact wx
  refine vx_pick (n := n + 1) hlt rfl ?_
  exact wx
  refine ⟨by simp, _, rfl, by simp, by simp, by simp; decide, fun x hx => ?_⟩
  have hx2 : ∃ m : Int, x = .int m ∧ 0 ≤ m ∧ m ≤ 900 := by
    simp at hx
    rcases hx with rfl | rfl | rfl <;> exact ⟨_, rfl, by omega, by omega⟩
  obtain ⟨m, rfl, m0, m1⟩ := hx2
  exact wx
  refine ⟨Bnt L, fun e S' R' => ?_, fun w hw => ?_⟩
  · exact Ok.mono (ok_shaken (n := n) R'.g.bx (hst S' R'.g) hn hr (by omega) m0 m1) fun r ⟨nw, e1, hs, fr⟩ => ⟨⟨nw, e1, Sh.rng hs hr, by rw [Sh.len hs]; exact hl⟩, fr⟩
  · obtain ⟨nw, rfl, h1, h2⟩ := hw
    exact ⟨_, rfl, pure_ints _, ret_p (pure_ints _) ⟨_, rfl, nw, rfl, h1, h2⟩⟩
theorem bent8 (hlt : l < S.length) (hst : ∀ S', Gr l S S' → Near b0 S' np nl L) (hn : ∀ q, q = np ∨ q ∈ nl → q ≠ l) (hr : Rng L now) (hl : now.length ≤ 60) :
    VS (callN T (n + 3)) (Gr l S) S.length (tailOf (tailOf (tailOf (tailOf (tailOf (tailOf (tailOf b__law_bent))))))) (bve l h L np row p now spot way s7 s8) (BQ L) := by
  have F := gr_fm (S0 := S) hlt
  have k := fun p now (hr : Rng L now) (hl : now.length ≤ 60) => bent9 (n := n) (h := h) (row := row) (p := p) (spot := spot) (way := way) (s7 := s7) (s8 := s8) hlt hst hn hr hl
  dsimp only [tailOf, b__law_bent, bve] at k ⊢
  exact iff1
  refine ⟨fun _ => ?_, fun _ => k p now hr hl⟩
  refine vs_asg F (vx_rev (vx_own rfl (rv_lst (lst_loc (at_own (i := 4) rfl)) (put_fr fun p2 => vs_then ?_))))
  dsimp only [List.set]
  rw [← List.map_reverse]
  exact k p2 now.reverse (rng_rev hr) (by simpa using hl)
theorem bent7 (hlt : l < S.length) (hst : ∀ S', Gr l S S' → Near b0 S' np nl L) (hn : ∀ q, q = np ∨ q ∈ nl → q ≠ l) (w : Web h L) (hr : Rng L now) (hl : now.length ≤ 60) (sp : 0 ≤ spot) :
    VS (callN T (n + 3)) (Gr l S) S.length (tailOf (tailOf (tailOf (tailOf (tailOf (tailOf b__law_bent)))))) (bve l h L np row p now spot way s7 s8) (BQ L) := by
  have F := gr_fm (S0 := S) hlt
  have hL0 := w.l0
  have hL8 := w.l8
  have k := fun p now (hr : Rng L now) (hl : now.length ≤ 60) => bent8 (n := n) (h := h) (row := row) (p := p) (spot := spot) (way := way) (s7 := s7) (s8 := s8) hlt hst hn hr hl
  dsimp only [tailOf, b__law_bent, bve] at k ⊢
  exact iff1
  refine ⟨fun _ => ?_, fun _ => ⟨fun h => absurd h (by simp), fun _ => k p now hr hl⟩⟩
  exact wx
  refine ⟨fun h60 => ?_, fun _ => k p now hr hl⟩
  have h60 : now.length < 60 := by
    have : (now.length : Int) < 60 := by simpa using h60
    omega
  refine vs_asg F ?_
  exact wx
  refine sl_lst (lst_loc (at_own (i := 4) rfl)) ?_
  exact wx
  refine vx_take (n := n + 2) hlt rfl ?_
  exact wx
  refine ⟨by omega, by omega, fun q q0 q1 => ?_⟩
  exact wx
  refine ⟨by simp, bin_cat lst_fr lst_fr ?_ ?_⟩
  · rw [cut_take sp]
    simp
    omega
  exact wx
  refine sl_lst (lst_loc (at_own (i := 4) rfl)) (bin_cat lst_fr lst_fr ?_ (put_fr fun p2 => vs_then ?_))
  · rw [cut_take sp, cut_drop sp]
    simp
    omega
  dsimp only [List.set]
  rw [cut_take sp, cut_drop sp, show (now.map D.int).take spot.toNat ++ [.int q] ++ (now.map D.int).drop spot.toNat = (now.take spot.toNat ++ [q] ++ now.drop spot.toNat).map .int by simp]
  refine k p2 _ (rng_app (rng_app (rng_take hr _) fun x hx => ?_) (rng_drop hr _)) (by simp; omega)
  rw [List.mem_singleton.mp hx]
  exact ⟨q0, q1⟩
theorem bent6 (hlt : l < S.length) (hst : ∀ S', Gr l S S' → Near b0 S' np nl L) (hn : ∀ q, q = np ∨ q ∈ nl → q ≠ l) (w : Web h L) (hr : Rng L now) (hl : now.length ≤ 60) (sp : 0 ≤ spot) :
    VS (callN T (n + 3)) (Gr l S) S.length (tailOf (tailOf (tailOf (tailOf (tailOf b__law_bent))))) (bve l h L np row p now spot way s7 s8) (BQ L) := by
  have F := gr_fm (S0 := S) hlt
  have k := fun p now (hr : Rng L now) (hl : now.length ≤ 60) => bent7 (n := n) (h := h) (row := row) (p := p) (spot := spot) (way := way) (s7 := s7) (s8 := s8) hlt hst hn w hr hl sp
  dsimp only [tailOf, b__law_bent, bve] at k ⊢
  exact iff1
  refine ⟨fun _ => ?_, fun _ => k p now hr hl⟩
  refine vs_asg F ?_
  exact wx
  refine sl_lst (lst_loc (at_own (i := 4) rfl)) ?_
  exact wx
  refine sl_lst (lst_loc (at_own (i := 4) rfl)) (bin_cat lst_fr lst_fr ?_ (put_fr fun p2 => vs_then ?_))
  · rw [cut_take sp, cut_drop (by omega)]
    simp
    omega
  dsimp only [List.set]
  rw [cut_row sp]
  exact k p2 _ (rng_cut hr _ _) (by simp; omega)
theorem rng_set {a : List Int} {x : Int} (h : Rng L a) (x0 : 0 ≤ x) (x1 : x < L.length) (i : Nat) : Rng L (a.set i x) := fun y hy => by
  rcases List.mem_or_eq_of_mem_set hy with hy | rfl
  · exact h y hy
  · exact ⟨x0, x1⟩
theorem bent5 (hlt : l < S.length) (hst : ∀ S', Gr l S S' → Near b0 S' np nl L) (hn : ∀ q, q = np ∨ q ∈ nl → q ≠ l) (w : Web h L) (hr : Rng L now) (hl : now.length ≤ 60) (sp : 0 ≤ spot) (sp1 : spot < now.length) :
    VS (callN T (n + 3)) (Gr l S) S.length (tailOf (tailOf (tailOf (tailOf b__law_bent)))) (bve l h L np row p now spot way s7 s8) (BQ L) := by
  have F := gr_fm (S0 := S) hlt
  have hL0 := w.l0
  have hL8 := w.l8
  have k := fun p now (hr : Rng L now) (hl : now.length ≤ 60) => bent6 (n := n) (h := h) (row := row) (p := p) (spot := spot) (way := way) (s7 := s7) (s8 := s8) hlt hst hn w hr hl sp
  dsimp only [tailOf, b__law_bent, bve] at k ⊢
  exact iff1
  refine ⟨fun _ => ?_, fun _ => k p now hr hl⟩
  refine vs_asgG F (vx_take (n := n + 2) hlt rfl ?_)
  exact wx
  refine ⟨by omega, by omega, fun q q0 q1 => ⟨_, rfl, vg_sub F (i := 4) rfl (vx_own rfl rfl) ?_⟩⟩
  exact wx
  refine ⟨sp, by exact om, vs_then ?_⟩
  dsimp only [List.set]
  rw [← List.map_set]
  exact k p _ (rng_set hr q0 q1 _) (by simpa using hl)
theorem bent4 (hlt : l < S.length) (hst : ∀ S', Gr l S S' → Near b0 S' np nl L) (hn : ∀ q, q = np ∨ q ∈ nl → q ≠ l) (w : Web h L) (hr : Rng L now) (hl : now.length ≤ 60) (hl2 : 2 ≤ now.length) (sp : 0 ≤ spot) (sp1 : spot < now.length) :
    VS (callN T (n + 3)) (Gr l S) S.length (tailOf (tailOf (tailOf b__law_bent))) (bve l h L np row p now spot way .no .no) (BQ L) := by
  have F := gr_fm (S0 := S) hlt
  have k := fun now s7 s8 (hr : Rng L now) (hl : now.length ≤ 60) (sp1 : spot < now.length) => bent5 (n := n) (h := h) (row := row) (p := p) (spot := spot) (way := way) (s7 := s7) (s8 := s8) hlt hst hn w hr hl sp sp1
  dsimp only [tailOf, b__law_bent, bve] at k ⊢
  exact iff1
  refine ⟨fun _ => ?_, fun _ => k now _ _ hr hl sp1⟩
  refine vs_for (c := []) (xs := rngD 0 ((now.length : Int) - 1)) (fun j ve => ve = [.d (.loc l), .d (webD h L), .d (.loc np), .d (lotD row), .o p (.lst (now.map .int)), .d (.int spot), .d (.int way), .no, .no]) ?_ rfl (fun _ _ _ => at_nil) ?_ ?_
  · exact wx
    exact ⟨⟨by exact om, by exact om⟩, rfl, rfl⟩
  · rintro j d ve hj rfl
    obtain ⟨rfl, hlt2⟩ := rngD_get hj
    refine vg_var ?_
    dsimp only [List.set, b__law_bent_1]
    refine vs_asg F ?_
    exact wx
    refine bin_mod (by omega) (put_d ?_)
    have hh0 := Int.emod_nonneg (spot + (0 + (j : Nat) : Int)) (show ((now.length : Int) - 1) ≠ 0 by omega)
    have hh1 := Int.emod_lt_of_pos (spot + (0 + (j : Nat) : Int)) (show 0 < (now.length : Int) - 1 by omega)
    generalize (spot + (0 + (j : Nat) : Int)) % ((now.length : Int) - 1) = here at *
    dsimp only [List.set]
    have a0 := atI_getD (a := now) hh0 (by omega)
    have a1 : atI (now.map .int) (here + 1) = some (.int (now.getD (here.toNat + 1) 0)) := by
      have := atI_getD (a := now) (i := here + 1) (by omega) (by omega)
      rw [show (here + 1).toNat = here.toNat + 1 by omega] at this
      exact this
    obtain ⟨y0, y1⟩ := getD_rng hr (i := here.toNat) (by omega)
    obtain ⟨z0, z1⟩ := getD_rng hr (i := here.toNat + 1) (by omega)
    refine vs_if1 (vt_and (vt_b rfl (vx_near hst ?_)))
    exact wx
    refine ⟨rfl, ?_⟩
    exact wx
    refine ix_of (its_loc (at_own (i := 4) rfl)) a0 ?_
    exact wx
    refine ⟨⟨y0, y1⟩, ?_⟩
    exact wx
    refine ix_of (its_loc (at_own (i := 4) rfl)) a1 ?_
    exact wx
    refine ⟨⟨z0, z1⟩, ?_⟩
    exact wx
    refine ⟨fun _ => ?_, fun _ => ⟨fun h => absurd h (by simp), fun _ => vs_nil ⟨_, rfl, by exact wk⟩⟩⟩
    exact wx
    refine ix_of (its_loc (at_own (i := 4) rfl)) a0 ?_
    exact wx
    refine ix_of (its_loc (at_own (i := 4) rfl)) a1 ?_
    exact wx
    refine ⟨fun _ => ?_, fun _ => vs_nil ⟨_, rfl, by exact wk⟩⟩
    refine vs_asgG F ?_
    exact wx
    refine ix_of (its_loc (at_own (i := 4) rfl)) a1 ?_
    exact wx
    refine ix_of (its_loc (at_own (i := 4) rfl)) a0 ?_
    exact wx
    refine ⟨by simp, ?_⟩
    exact wx
    refine vg_tup (vgs_cons (vg_sub F (i := 4) rfl (vx_own rfl rfl) ?_))
    exact wx
    refine ⟨by omega, by exact om, vgs_cons (vg_sub F (i := 4) rfl (vx_own rfl rfl) ?_)⟩
    exact wx
    refine ⟨by omega, by exact om, vgs_nil (vs_brk (vs_then ?_))⟩
    dsimp only [List.set]
    rw [← List.map_set, ← List.map_set]
    exact k _ _ _ (rng_set (rng_set hr z0 z1 _) y0 y1 _) (by simpa using hl) (by simpa using sp1)
  · rintro ve rfl
    exact vs_then (k now _ _ hr hl sp1)
theorem ok_bent (hb : Bx S l) (w : Web h L) (st : Near b0 S np nl L) (hn : ∀ q, q = np ∨ q ∈ nl → q ≠ l) (hr : Rng L row) (hl : row.length ≤ 60) (hl2 : 2 ≤ row.length) : Ok (callN T (n + 4) 16 [.loc l, webD h L, .loc np, lotD row] S) fun r => Bnt L r.1 ∧ Fr l S r.2 := by
  have hlt := hb.lt
  refine fn_b (d := ⟨"_law_bent", 4, 9, b__law_bent⟩) hb rfl rfl ?_
  dsimp only [b__law_bent]
  have F := gr_fm (S0 := S) hb.lt
  rw [show ve0 9 [.loc l, webD h L, .loc np, lotD row] = [.d (.loc l), .d (webD h L), .d (.loc np), .d (lotD row), .no, .no, .no, .no, .no] from rfl]
  refine vs_asg F ?_
  exact wx
  refine ls_of its_tup (put_fr fun p => ?_)
  dsimp only [List.set]
  refine vs_asg F (vx_take (n := n + 2) hlt rfl ?_)
  exact wx
  refine ⟨by omega, by omega, fun spot s0 s1 => put_d ?_⟩
  dsimp only [List.set]
  refine vs_asg F (vx_take (n := n + 2) hlt rfl ?_)
  exact wx
  refine ⟨by omega, by omega, fun way w0 w1 => put_d ?_⟩
  dsimp only [List.set]
  have k := bent4 (n := n) (h := h) (row := row) (p := p) (way := way) hlt (fun S' g => near_gr st hn g) hn w hr hl hl2 s0 s1
  dsimp only [tailOf, b__law_bent, bve] at k
  exact k
end
end K06
set_option linter.all false
set_option autoImplicit false
set_option maxRecDepth 100000
namespace K06
open Pv
local macro_rules | `(tactic| exact om) => `(tactic| first | omega | (simp; done) | (simp; omega) | (simp at *; omega))
local macro_rules | `(tactic| exact own) => `(tactic| first | exact at_own (i := 0) rfl | exact at_own (i := 1) rfl | exact at_own (i := 2) rfl | exact at_own (i := 3) rfl | exact at_own (i := 4) rfl | exact at_own (i := 5) rfl | exact at_own (i := 6) rfl | exact at_own (i := 7) rfl | exact at_own (i := 8) rfl | exact at_own (i := 9) rfl | exact at_own (i := 10) rfl | exact at_own (i := 11) rfl | exact at_own (i := 12) rfl | exact at_own (i := 13) rfl | exact at_own (i := 14) rfl | assumption | apply_assumption)
local macro_rules | `(tactic| exact its) => `(tactic| first | exact its_tup | exact its_fr | exact its_scr | (refine its_loc ?_; exact own) | exact lst_fr | (refine lst_loc ?_; exact own) | exact it_tup | exact it_fr | (refine it_loc ?_; exact own))
local macro_rules | `(tactic| exact wk) => `(tactic| (repeat (first | exact Less.nil | refine Less.same ?_ | refine Less.no ?_)))
local macro_rules | `(tactic| exact ln) => `(tactic| first | refine ln_map its_tup ?_ | refine ln_map its_fr ?_ | refine ln_map (its_loc (at_own (i := 0) rfl)) ?_ | refine ln_map (its_loc (at_own (i := 1) rfl)) ?_ | refine ln_map (its_loc (at_own (i := 2) rfl)) ?_ | refine ln_map (its_loc (at_own (i := 3) rfl)) ?_ | refine ln_map (its_loc (at_own (i := 4) rfl)) ?_ | refine ln_map (its_loc (at_own (i := 5) rfl)) ?_ | refine ln_map (its_loc (at_own (i := 6) rfl)) ?_ | refine ln_map (its_loc (at_own (i := 7) rfl)) ?_ | refine ln_map (its_loc (at_own (i := 8) rfl)) ?_ | refine ln_map (its_loc (at_own (i := 9) rfl)) ?_ | refine ln_map (its_loc (at_own (i := 10) rfl)) ?_ | refine ln_map (its_loc (at_own (i := 11) rfl)) ?_ | refine ln_map (its_loc (at_own (i := 12) rfl)) ?_ | refine ln_map (its_loc (at_own (i := 13) rfl)) ?_ | refine ln_map (its_loc (at_own (i := 14) rfl)) ?_ | refine ln_map (its_loc (at_own (i := 15) rfl)) ?_ | refine ln_of its_tup ?_ | refine ln_of its_fr ?_ | refine ln_of (its_loc (at_own (i := 0) rfl)) ?_ | refine ln_of (its_loc (at_own (i := 1) rfl)) ?_ | refine ln_of (its_loc (at_own (i := 2) rfl)) ?_ | refine ln_of (its_loc (at_own (i := 3) rfl)) ?_ | refine ln_of (its_loc (at_own (i := 4) rfl)) ?_ | refine ln_of (its_loc (at_own (i := 5) rfl)) ?_ | refine ln_of (its_loc (at_own (i := 6) rfl)) ?_ | refine ln_of (its_loc (at_own (i := 7) rfl)) ?_ | refine ln_of (its_loc (at_own (i := 8) rfl)) ?_ | refine ln_of (its_loc (at_own (i := 9) rfl)) ?_ | refine ln_of (its_loc (at_own (i := 10) rfl)) ?_ | refine ln_of (its_loc (at_own (i := 11) rfl)) ?_ | refine ln_of (its_loc (at_own (i := 12) rfl)) ?_ | refine ln_of (its_loc (at_own (i := 13) rfl)) ?_ | refine ln_of (its_loc (at_own (i := 14) rfl)) ?_ | refine ln_of (its_loc (at_own (i := 15) rfl)) ?_)
local macro_rules | `(tactic| exact wx1) => `(tactic| first | refine vx_var rfl ?_ | refine vx_own rfl ?_ | refine vx_cn ?_ | refine vl_nil ?_ | refine vl_cons ?_ | refine ex_int ?_ | refine ex_bl ?_ | refine ex_d ?_ | refine vx_bin ?_ | refine vx_cmp ?_ | refine vx_f2 ?_ | refine vx_idx ?_ | refine vx_f1 ?_ | refine vx_isi ?_ | refine vx_neg ?_ | refine vx_tup ?_ | refine vx_lst ?_ | refine vx_sl ?_ | refine vx_rev ?_ | refine rv_tup ?_ | refine vo_none ?_ | refine vo_some ?_ | refine bin_add ?_ | refine bin_sub ?_ | refine vt_b rfl (vx_isi ?_) | refine is_ty (fun _ => rfl) ?_ | refine vt_cmp ?_ | refine vt_not ?_ | refine vt_and ?_ | refine vt_or ?_ | refine c_lt ?_ | refine c_le ?_ | refine c_gt ?_ | refine c_ge ?_ | refine c_eq ?_ | refine c_ne ?_ | refine c_is ?_ | refine c_isn ?_ | exact ln | refine in_of ?_ | refine vf_nil ?_ | refine vf_one ?_ | refine sl_tup ?_ | refine ix_of its_tup (atI_0 _ _) ?_ | refine ix_of its_tup (atI_1 _ _ _) ?_ | refine ix_of its_tup (atI_2 _ _ _ _) ?_ | refine vi_e ?_ | refine vi_enum ?_ | refine vi_rng0 ?_)
local macro_rules | `(tactic| exact wx) => `(tactic| repeat (first | exact wx1 | (refine put_d ?_; dsimp only [List.set])))
local macro_rules | `(tactic| exact wxt) => `(tactic| repeat (first | exact wx1 | (refine put_d ?_; dsimp only [List.set]) | (refine ⟨le_ok (by simp; done), ?_⟩)))
local macro_rules | `(tactic| exact asg) => `(tactic| (refine vs_asg (by assumption) ?_; exact wx))
local macro_rules | `(tactic| exact ret) => `(tactic| (refine vs_ret ?_; exact wx))
local macro_rules | `(tactic| exact iff1) => `(tactic| (refine vs_if1 ?_; exact wx))

/-! a new box: what stands by then is kept, but the box -/
theorem gr_out {G : Sto → Prop} {b p : Nat} (F : Fm b G) {S1 S2 : Sto} (g1 : G S1) (hp : b ≤ p) (h : Gr p S1 S2) : G S2 := by
  obtain ⟨u, v, hb⟩ := h.bx
  have e : S2 = (S1.set p (.lst [.int u, .int v])) ++ S2.drop S1.length := by
    apply List.ext_getElem?
    intro j
    by_cases hj : j < S1.length
    · rw [List.getElem?_append_left (by simpa using hj)]
      by_cases hjp : j = p
      · subst hjp
        rw [hb, List.getElem?_set_self hj]
      · rw [List.getElem?_set_ne (fun e => hjp e.symm), h.rest j hj hjp]
    · rw [List.getElem?_append_right (by simpa using Nat.le_of_not_lt hj), List.getElem?_drop, List.length_set]
      congr 1
      omega
  rw [e]
  exact F.push _ _ (F.set _ _ _ g1 hp)
theorem vs_box {n i si b : Nat} {G : Sto → Prop} {ve : List Sl} {r : Ss} {Q : Fl → List Sl → Prop} {ns : List Int} {ye : E} (F : Fm b G) (hns : ns.length ≤ 63) (hs : ve[si]? = some (.d (.scr ns))) (hy : VX (callN T (n + 1)) G b ve ye fun v => ∃ k, v = .d (.int k) ∧ 0 ≤ k)
    (h : ∀ e p S1, Rel G b ve e S1 → Bx S1 p → b ≤ p → (∀ (i q : Nat) (ob : O), ve[i]? = some (.o q ob) → q ≠ p) → VS (callN T (n + 1)) (Gr p S1) S1.length r ((ve.map frz).set i (.d (.loc p))) Q) : VS (callN T (n + 1)) G b (.cons (.asg (.var i) (.call 3 (.cons (.var si) (.cons ye .nil)) .nil [0, 1])) r) ve Q := fun c e S hc R => by
  have hbS := F.len _ R.g
  refine ok_asg (ok_call (es_pv (pv_var (R.val si _ hs)) (es_cons (Ok.mono (hy S.length e S R) fun w ⟨k1, k, ek, k0⟩ => ?_))))
  obtain ⟨v, S1⟩ := w
  cases ek
  refine es_nil (Ok.ok (Ok.mono (ok_box hns k0) fun w ⟨a, d, ew⟩ => ?_))
  subst ew
  dsimp only
  have hlv : leave S.length (.fr [.int a, .int d]) S1 = (.fr [.int a, .int d], S1.take S.length) := leave_frP (fun x hx => by
    simp at hx
    rcases hx with rfl | rfl <;> rfl)
  dsimp only [settle] at k1 ⊢
  rw [hlv]
  dsimp only [settle]
  have k2 := k1.take F hbS
  have R2 := R.kx k2
  generalize S1.take S.length = S2 at *
  have R3 := R2.kx (Kx.push F R2.g [.lst [.int a, .int d]])
  have hn : ∀ (i q : Nat) (ob : O), ve[i]? = some (.o q ob) → q ≠ S2.length := fun i q ob hq => by
    have := at_lt (R2.own i q ob hq).2.1
    omega
  have hbx : Bx (S2 ++ [O.lst [.int a, .int d]]) S2.length := ⟨a, d, push_at⟩
  have hb2 := F.len _ R2.g
  have R4 : Rel (Gr S2.length (S2 ++ [O.lst [.int a, .int d]])) (S2 ++ [O.lst [.int a, .int d]]).length ((ve.map frz).set i (.d (.loc S2.length))) (e.set i (some (.loc S2.length))) (S2 ++ [O.lst [.int a, .int d]]) := by
    have R5 := (R3.frzG (G' := Gr S2.length (S2 ++ [O.lst [.int a, .int d]])) (S2 ++ [O.lst [.int a, .int d]]).length (Gr.refl hbx)).setd i (.loc S2.length)
    exact R5
  refine Ok.mono (h e S2.length _ R3 hbx hb2 hn c _ _ (by simp; omega) R4) fun w hw => Post.out (fun S' g => gr_out F R3.g hb2 g) (by simp; omega) hw

def webOk (h : Int) (L : List (List Int)) : Bool := decide (0 < h) && decide (h ≤ 4) && decide (0 < L.length) && decide (L.length ≤ 8) && L.all fun x => !x.isEmpty && ((rngI h.toNat).filter (fun y => inn y x) == x)
theorem web_of {h : Int} {L : List (List Int)} (e : webOk h L = true) : Web h L := by
  unfold webOk at e
  simp only [Bool.and_eq_true, decide_eq_true_eq, List.all_eq_true] at e
  obtain ⟨⟨⟨⟨a, b⟩, c⟩, d⟩, f⟩ := e
  refine ⟨a, b, c, d, fun x hx => ?_⟩
  obtain ⟨g1, g2⟩ := f x hx
  refine And.intro ?_ ?_
  · rintro rfl
    cases g1
  · show (rngI h.toNat).filter (fun y => inn y x) = x
    simpa using g2

section
variable {n : Nat} {S : Sto} {h : Int} {L : List (List Int)} {np b0 l p : Nat} {nl : List Nat} {one row told now : List Int}
abbrev Yes (w : Vl) : Prop := w = .d (.bl true)
/-- _law_told of two rows, asked as a test -/
theorem vt_told {G : Sto → Prop} {b i j : Nat} {ve : List Sl} {Q : Bool → Prop} {A B : E} (F : Fm b G) (w : Web h L) (hi : ve[i]? = some (.d (webD h L))) (hj : ve[j]? = some (.d (.loc np))) (hst : ∀ S', G S' → Near b0 S' np nl L)
    (hA : VX (callN T (n + 4)) G b ve A fun v => ∃ one, v = .d (lotD one) ∧ Rng L one ∧ one.length < 900 ∧ VX (callN T (n + 4)) G b ve B fun v => ∃ row, v = .d (lotD row) ∧ Rng L row ∧ row.length < 900 ∧ Q true) : VT (callN T (n + 4)) G b ve (.call 15 (.cons (.var i) (.cons (.var j) (.cons A (.cons B .nil)))) .nil [0, 1, 2, 3]) Q := by
  refine vt_b rfl (vx_callP F (vl_cons (vx_var hi (ex_d (vl_cons (vx_var hj (ex_d (vl_cons ?_))))))))
  refine hA.mono fun v ⟨one, e1, r1, l1, hB⟩ => ⟨_, e1, vl_cons ?_⟩
  refine hB.mono fun v ⟨row, e2, r2, l2, hq⟩ => ⟨_, e2, vl_nil (vl_nil ⟨.bl true, rfl, fun e S R => ?_, _, rfl, hq⟩)⟩
  exact ok_told (n := n) w (hst S R.g) r1 r2 l1 l2
theorem vx_row {l i : Nat} {S0 : Sto} {ve : List Sl} {Q : Vl → Prop} {wv : Nat} {ye : E} (hl : l < S0.length) (w : Web h L) (hi : ve[i]? = some (.d (.loc l))) (hw : ve[wv]? = some (.d (webD h L))) (hy : VX (callN T (n + 3)) (Gr l S0) S0.length ve ye fun v => ∃ m, v = .d (.int m) ∧ 0 ≤ m ∧ m < 900 ∧ ∀ row : List Int, (row.length : Int) = m → Rng L row → Q (.d (lotD row))) : VX (callN T (n + 3)) (Gr l S0) S0.length ve (.call 9 (.cons (.var i) (.cons (.var wv) (.cons ye .nil))) .nil [0, 1, 2]) Q := by
  refine vx_callB hl (vl_cons (vx_var hi (ex_d (vl_cons (vx_var hw (ex_d (vl_cons ?_)))))))
  refine hy.mono fun v ⟨m, e, m0, m1, hq⟩ => ⟨_, e, vl_nil (vl_nil ⟨fun w => ∃ row : List Int, w = .d (lotD row) ∧ (row.length : Int) = m ∧ Rng L row, fun e S R => ?_, fun w ⟨row, ew, h1, h2⟩ => ⟨_, ew, pure_ints _, hq row h1 h2⟩⟩)⟩
  exact Ok.mono (ok_row (n := n) R.g.bx w m0 m1) fun r ⟨row, e1, h1, h2, fr⟩ => ⟨⟨row, e1, h1, h2⟩, fr⟩
theorem vx_shk {l i j : Nat} {S0 : Sto} {ve : List Sl} {Q : Vl → Prop} {X : E} {m : Int} (hl : l < S0.length) (hi : ve[i]? = some (.d (.loc l))) (hj : ve[j]? = some (.d (.loc np))) (hst : ∀ S', Gr l S0 S' → Near b0 S' np nl L) (hn : ∀ q, q = np ∨ q ∈ nl → q ≠ l) (m0 : 0 ≤ m) (m1 : m ≤ 900)
    (hX : VX (callN T (n + 3)) (Gr l S0) S0.length ve X fun v => v = .d (lotD row)) (hr : Rng L row) (hrl : row.length < 900) (hq : ∀ now : List Int, now.length = row.length → Rng L now → Q (.d (lotD now))) : VX (callN T (n + 3)) (Gr l S0) S0.length ve (.call 10 (.cons (.var i) (.cons (.var j) (.cons X (.cons (.cn (.int m)) .nil)))) .nil [0, 1, 2, 3]) Q := by
  refine vx_callB hl (vl_cons (vx_var hi (ex_d (vl_cons (vx_var hj (ex_d (vl_cons ?_)))))))
  refine hX.mono fun v e => ⟨_, e, vl_cons (vx_cn (ex_d (vl_nil (vl_nil ?_))))⟩
  refine ⟨fun w => ∃ now : List Int, w = .d (lotD now) ∧ now.length = row.length ∧ Rng L now, fun e S R => ?_, fun w ⟨now, ew, h1, h2⟩ => ⟨_, ew, pure_ints _, hq now h1 h2⟩⟩
  exact Ok.mono (ok_shaken (n := n) R.g.bx (hst S R.g) hn hr hrl m0 m1) fun r ⟨nw, e1, hs, fr⟩ => ⟨⟨nw, e1, Sh.len hs, Sh.rng hs hr⟩, fr⟩
def EndQ (L : List (List Int)) (row : List Int) (w : Vl) : Prop := ∃ out, w = .d (lotD out) ∧ Rng L out ∧ out.length = row.length
theorem ok_great {m : Int} (hb : Bx S l) (w : Web h L) (m0 : 0 ≤ m) (m1 : m < 900) : Ok (callN T (n + 5) 17 [.loc l, webD h L, .int m] S) fun r => Yes r.1 ∧ Fr l S r.2 := by
  have hlt := hb.lt
  have hL0 := w.l0
  have hL8 := w.l8
  refine fn_b (d := ⟨"_law_great", 3, 7, b__law_great⟩) hb rfl rfl ?_
  dsimp only [b__law_great]
  have F := gr_fm (S0 := S) hb.lt
  rw [show ve0 7 [.loc l, webD h L, .int m] = [.d (.loc l), .d (webD h L), .d (.int m), .no, .no, .no, .no] from rfl]
  refine vs_near (n := n + 3) rfl (by omega) hL0 hlt fun S1 np nl st hn g1 => ?_
  dsimp only [List.map, frz, List.set]
  have hlt1 : l < S1.length := by have := g1.len; omega
  have F1 := gr_fm (S0 := S1) hlt1
  have hst : ∀ S', Gr l S1 S' → Near S.length S' np nl L := fun S' g => near_gr st hn g
  refine vs_asg F1 (vx_row (n := n + 1) hlt1 w rfl rfl (vx_var rfl ⟨m, rfl, m0, m1, fun row hrl hr => put_d ?_⟩))
  dsimp only [List.set]
  refine vs_swap2 F1 ?_
  refine vx_callQ F1 ?_
  exact wx
  refine ⟨EndQ L row, fun e S' R => ok_end (n := n + 3) (by decide) (hst S' R.g) hr (by omega) (by omega), fun w' ⟨lo, e1, r1, l1⟩ => ⟨_, e1, pure_ints _, ?_⟩⟩
  refine vx_callQ F1 ?_
  exact wx
  refine ⟨EndQ L row, fun e S' R => ok_end (n := n + 3) (by decide) (hst S' R.g) hr (by omega) (by omega), fun w' ⟨hi, e2, r2, l2⟩ => ⟨_, e2, pure_ints _, fun _ _ => ?_⟩⟩
  dsimp only [putS, List.set]
  refine vs_ret (vx_andb (vx_callP F1 ?_))
  exact wx
  refine ⟨.bl true, rfl, fun e S' R => ok_told (n := n) w (hst S' R.g) r1 r2 (by omega) (by omega), true, rfl, fun _ => vx_callP F1 ?_, fun h => absurd h (by simp)⟩
  exact wx
  exact ⟨.bl true, rfl, fun e S' R => ok_told (n := n) w (hst S' R.g) r2 hr (by omega) (by omega), ret_p rfl ⟨_, rfl, rfl⟩⟩
theorem ok_some {m : Int} (hb : Bx S l) (w : Web h L) (m0 : 2 ≤ m) (m1 : m ≤ 60) : Ok (callN T (n + 5) 18 [.loc l, webD h L, .int m] S) fun r => Yes r.1 ∧ Fr l S r.2 := by
  have hlt := hb.lt
  have hL0 := w.l0
  have hL8 := w.l8
  refine fn_b (d := ⟨"_law_some", 3, 7, b__law_some⟩) hb rfl rfl ?_
  dsimp only [b__law_some]
  have F := gr_fm (S0 := S) hb.lt
  rw [show ve0 7 [.loc l, webD h L, .int m] = [.d (.loc l), .d (webD h L), .d (.int m), .no, .no, .no, .no] from rfl]
  refine vs_near (n := n + 3) rfl (by omega) hL0 hlt fun S1 np nl st hn g1 => ?_
  dsimp only [List.map, frz, List.set]
  have hlt1 : l < S1.length := by have := g1.len; omega
  have F1 := gr_fm (S0 := S1) hlt1
  have hst : ∀ S', Gr l S1 S' → Near S.length S' np nl L := fun S' g => near_gr st hn g
  refine vs_asg F1 (vx_row (n := n + 1) hlt1 w rfl rfl (vx_var rfl ⟨m, rfl, by omega, by omega, fun row hrl hr => put_d ?_⟩))
  dsimp only [List.set]
  refine vs_forX (vi_e (vx_lst (vl_cons (vx_var rfl (ex_d (vl_cons ?_))))))
  refine vx_shk (n := n + 1) (m := 6) hlt1 rfl rfl hst hn (by omega) (by omega) (vx_var rfl rfl) hr (by omega) fun a al ar => ex_d (vl_cons ?_)
  refine vx_shk (n := n + 1) (m := 20) hlt1 rfl rfl hst hn (by omega) (by omega) (vx_var rfl rfl) hr (by omega) fun c cl cr => ex_d (vl_cons ?_)
  refine vx_tup (vl_nil ⟨by simp, ex_d (vl_cons ?_)⟩)
  refine vx_row (n := n + 1) hlt1 w rfl rfl (vx_var rfl ⟨m, rfl, by omega, by omega, fun d dl dr => ex_d (vl_nil ⟨by simp, ?_⟩)⟩)
  refine ⟨_, _, it_fr, fun k ve => ve = [.d (.loc l), .d (webD h L), .d (.int m), .d (.loc np), .d (lotD row), .no, .no], ⟨_, rfl, by exact wk⟩, fun _ _ _ => at_nil, ?_, ?_⟩
  · rintro k x ve hx rfl
    have hx2 : ∃ o : List Int, x = lotD o ∧ Rng L o ∧ o.length < 900 := by
      have := List.mem_of_getElem? hx
      simp at this
      rcases this with rfl | rfl | rfl | rfl | rfl
      · exact ⟨row, rfl, hr, by omega⟩
      · exact ⟨a, rfl, ar, by omega⟩
      · exact ⟨c, rfl, cr, by omega⟩
      · exact ⟨[], rfl, (by intro x hx; simp at hx), by simp⟩
      · exact ⟨d, rfl, dr, by omega⟩
    obtain ⟨o, rfl, ro, lo⟩ := hx2
    refine vg_var ?_
    dsimp only [List.set, b__law_some_1]
    refine vs_if1 (vt_or (vt_not (vt_told (n := n) F1 w rfl rfl hst (vx_var rfl ⟨_, rfl, hr, by omega, vx_var rfl ⟨_, rfl, ro, lo, fun _ => ?_, fun h => absurd h (by simp)⟩⟩))))
    refine vt_not (vt_told (n := n) F1 w rfl rfl hst (vx_var rfl ⟨_, rfl, ro, lo, vx_var rfl ⟨_, rfl, hr, by omega, fun h => absurd h (by simp), fun _ => vs_nil ⟨_, rfl, by exact wk⟩⟩⟩))
  · rintro ve rfl
    refine vs_for (c := []) (xs := rngD 0 3) (fun k ve => ve = [.d (.loc l), .d (webD h L), .d (.int m), .d (.loc np), .d (lotD row), .no, .no]) ?_ rfl (fun _ _ _ => at_nil) ?_ ?_
    · exact wx
      exact ⟨⟨by exact om, by exact om⟩, rfl, rfl⟩
    · rintro k x ve hx rfl
      obtain ⟨rfl, _⟩ := rngD_get hx
      refine vg_var ?_
      dsimp only [List.set, b__law_some_2]
      refine vs_asg F1 (vx_callB hlt1 ?_)
      exact wx
      refine ⟨Bnt L, fun e S' R => ok_bent (n := n) R.g.bx w (hst S' R.g) hn hr (by omega) (by omega), fun w' ⟨o, e1, ro, lo⟩ => ⟨_, e1, pure_ints _, put_d ?_⟩⟩
      dsimp only [List.set]
      refine vs_if1 (vt_or (vt_not (vt_told (n := n) F1 w rfl rfl hst (vx_var rfl ⟨_, rfl, hr, by omega, vx_var rfl ⟨_, rfl, ro, by omega, fun _ => ?_, fun h => absurd h (by simp)⟩⟩))))
      refine vt_not (vt_told (n := n) F1 w rfl rfl hst (vx_shk (n := n + 1) (m := 4) hlt1 rfl rfl hst hn (by omega) (by omega) (vx_var rfl rfl) hr (by omega) fun a al ar => ⟨_, rfl, ar, by omega, vx_var rfl ⟨_, rfl, ro, by omega, fun h => absurd h (by simp), fun _ => vs_nil ⟨_, rfl, by exact wk⟩⟩⟩))
    · rintro ve rfl
      exact ret
      exact ret_p rfl ⟨_, rfl, rfl⟩
end
end K06
set_option linter.all false
set_option autoImplicit false
set_option maxRecDepth 100000
set_option maxHeartbeats 4000000
namespace K06
open Pv
local macro_rules | `(tactic| exact om) => `(tactic| first | omega | (simp; done) | (simp; omega) | (simp at *; omega))
local macro_rules | `(tactic| exact own) => `(tactic| first | exact at_own (i := 0) rfl | exact at_own (i := 1) rfl | exact at_own (i := 2) rfl | exact at_own (i := 3) rfl | exact at_own (i := 4) rfl | exact at_own (i := 5) rfl | exact at_own (i := 6) rfl | exact at_own (i := 7) rfl | exact at_own (i := 8) rfl | exact at_own (i := 9) rfl | exact at_own (i := 10) rfl | exact at_own (i := 11) rfl | exact at_own (i := 12) rfl | exact at_own (i := 13) rfl | exact at_own (i := 14) rfl | assumption | apply_assumption)
local macro_rules | `(tactic| exact its) => `(tactic| first | exact its_tup | exact its_fr | exact its_scr | (refine its_loc ?_; exact own) | exact lst_fr | (refine lst_loc ?_; exact own) | exact it_tup | exact it_fr | (refine it_loc ?_; exact own))
local macro_rules | `(tactic| exact wk) => `(tactic| (repeat (first | exact Less.nil | refine Less.same ?_ | refine Less.no ?_)))
local macro_rules | `(tactic| exact ln) => `(tactic| first | refine ln_map its_tup ?_ | refine ln_map its_fr ?_ | refine ln_map (its_loc (at_own (i := 0) rfl)) ?_ | refine ln_map (its_loc (at_own (i := 1) rfl)) ?_ | refine ln_map (its_loc (at_own (i := 2) rfl)) ?_ | refine ln_map (its_loc (at_own (i := 3) rfl)) ?_ | refine ln_map (its_loc (at_own (i := 4) rfl)) ?_ | refine ln_map (its_loc (at_own (i := 5) rfl)) ?_ | refine ln_map (its_loc (at_own (i := 6) rfl)) ?_ | refine ln_map (its_loc (at_own (i := 7) rfl)) ?_ | refine ln_map (its_loc (at_own (i := 8) rfl)) ?_ | refine ln_map (its_loc (at_own (i := 9) rfl)) ?_ | refine ln_map (its_loc (at_own (i := 10) rfl)) ?_ | refine ln_map (its_loc (at_own (i := 11) rfl)) ?_ | refine ln_map (its_loc (at_own (i := 12) rfl)) ?_ | refine ln_map (its_loc (at_own (i := 13) rfl)) ?_ | refine ln_map (its_loc (at_own (i := 14) rfl)) ?_ | refine ln_map (its_loc (at_own (i := 15) rfl)) ?_ | refine ln_of its_tup ?_ | refine ln_of its_fr ?_ | refine ln_of (its_loc (at_own (i := 0) rfl)) ?_ | refine ln_of (its_loc (at_own (i := 1) rfl)) ?_ | refine ln_of (its_loc (at_own (i := 2) rfl)) ?_ | refine ln_of (its_loc (at_own (i := 3) rfl)) ?_ | refine ln_of (its_loc (at_own (i := 4) rfl)) ?_ | refine ln_of (its_loc (at_own (i := 5) rfl)) ?_ | refine ln_of (its_loc (at_own (i := 6) rfl)) ?_ | refine ln_of (its_loc (at_own (i := 7) rfl)) ?_ | refine ln_of (its_loc (at_own (i := 8) rfl)) ?_ | refine ln_of (its_loc (at_own (i := 9) rfl)) ?_ | refine ln_of (its_loc (at_own (i := 10) rfl)) ?_ | refine ln_of (its_loc (at_own (i := 11) rfl)) ?_ | refine ln_of (its_loc (at_own (i := 12) rfl)) ?_ | refine ln_of (its_loc (at_own (i := 13) rfl)) ?_ | refine ln_of (its_loc (at_own (i := 14) rfl)) ?_ | refine ln_of (its_loc (at_own (i := 15) rfl)) ?_)
local macro_rules | `(tactic| exact wx1) => `(tactic| first | refine vx_var rfl ?_ | refine vx_own rfl ?_ | refine vx_cn ?_ | refine vl_nil ?_ | refine vl_cons ?_ | refine ex_int ?_ | refine ex_bl ?_ | refine ex_d ?_ | refine vx_bin ?_ | refine vx_cmp ?_ | refine vx_f2 ?_ | refine vx_idx ?_ | refine vx_f1 ?_ | refine vx_isi ?_ | refine vx_neg ?_ | refine vx_tup ?_ | refine vx_lst ?_ | refine vx_sl ?_ | refine vx_rev ?_ | refine rv_tup ?_ | refine vo_none ?_ | refine vo_some ?_ | refine bin_add ?_ | refine bin_sub ?_ | refine vt_b rfl (vx_isi ?_) | refine is_ty (fun _ => rfl) ?_ | refine vt_cmp ?_ | refine vt_not ?_ | refine vt_and ?_ | refine vt_or ?_ | refine c_lt ?_ | refine c_le ?_ | refine c_gt ?_ | refine c_ge ?_ | refine c_eq ?_ | refine c_ne ?_ | refine c_is ?_ | refine c_isn ?_ | exact ln | refine in_of ?_ | refine vf_nil ?_ | refine vf_one ?_ | refine sl_tup ?_ | refine ix_of its_tup (atI_0 _ _) ?_ | refine ix_of its_tup (atI_1 _ _ _) ?_ | refine ix_of its_tup (atI_2 _ _ _ _) ?_ | refine vi_e ?_ | refine vi_enum ?_ | refine vi_rng0 ?_)
local macro_rules | `(tactic| exact wx) => `(tactic| repeat (first | exact wx1 | (refine put_d ?_; dsimp only [List.set])))
local macro_rules | `(tactic| exact wxt) => `(tactic| repeat (first | exact wx1 | (refine put_d ?_; dsimp only [List.set]) | (refine ⟨le_ok (by simp; done), ?_⟩)))
local macro_rules | `(tactic| exact asg) => `(tactic| (refine vs_asg (by assumption) ?_; exact wx))
local macro_rules | `(tactic| exact ret) => `(tactic| (refine vs_ret ?_; exact wx))
local macro_rules | `(tactic| exact iff1) => `(tactic| (refine vs_if1 ?_; exact wx))

def alone : List (List Int) := [[0], [1], [2], [3], [0, 1], [2, 3], [0, 1, 2, 3], [0]]
theorem alone_web : Web 4 alone := web_of (by decide)
section
variable {n : Nat} {S : Sto} {h : Int} {L : List (List Int)} {np b0 l p : Nat} {nl : List Nat} {one row told now : List Int}
theorem rng_of {L : List (List Int)} {l : List Int} (h : (l.all fun x => decide (0 ≤ x) && decide (x < L.length)) = true) : Rng L l := fun x hx => by
  have := List.all_eq_true.mp h x hx
  simpa using this
theorem x1 : xrow alone [0, 1, 2] [1, 2, 0] = some [0, 1] := by decide
theorem x2 : xrow alone [1, 2, 0] [0, 1, 2] = some [1, 0] := by decide
theorem ok_named : Ok (callN T (n + 4) 19 [webD 4 alone] S) fun r => r = (.d (.bl true), S) := by
  have r1 : Rng alone [0, 1, 2] := rng_of (by decide)
  have r2 : Rng alone [1, 2, 0] := rng_of (by decide)
  refine fn_p (d := ⟨"_law_named", 1, 6, b__law_named⟩) rfl rfl ?_
  dsimp only [b__law_named]
  have F := same_fm S
  rw [show ve0 6 [webD 4 alone] = [.d (webD 4 alone), .no, .no, .no, .no, .no] from rfl]
  refine vs_nearP (n := n + 2) (L := alone) rfl (by decide) (by decide) fun S1 np nl st g1 => ?_
  dsimp only [List.map, frz, List.set]
  have F1 := same_fm S1
  refine vs_asgG F1 ?_
  exact wx
  refine ⟨by simp, ?_⟩
  exact wx
  refine ⟨by simp, ?_⟩
  exact wx
  refine ⟨by simp, ?_⟩
  exact wx
  refine vg_tup (vgs_cons (vg_var (vgs_cons (vg_var (vgs_nil ?_)))))
  dsimp only [List.set]
  refine vs_asg F1 (vx_callP F1 ?_)
  exact wx
  refine ⟨_, loD_pure _, fun e S' R => ok_xrow (n := n) (one := [0, 1, 2]) (row := [1, 2, 0]) r1 r2 (by decide) (by decide), put_d ?_⟩
  rw [x1]
  dsimp only [List.set, loD]
  refine vs_asg F1 (vx_callP F1 ?_)
  exact wx
  refine ⟨_, loD_pure _, fun e S' R => ok_xrow (n := n) (one := [1, 2, 0]) (row := [0, 1, 2]) r2 r1 (by decide) (by decide), put_d ?_⟩
  rw [x2]
  dsimp only [List.set, loD]
  exact iff1
  refine ⟨fun _ => ?_, fun h => absurd h (by decide)⟩
  exact wx
  refine ⟨fun _ => ?_, fun h => absurd h (by decide)⟩
  exact wx
  refine ⟨fun _ => ?_, fun h => absurd h (by decide)⟩
  exact wx
  refine ⟨fun h => absurd h (by decide), fun _ => ?_⟩
  refine vs_ret (vx_andb (vx_callP F1 ?_))
  exact wx
  refine ⟨.bl true, rfl, fun e S' R => ok_leads (n := n + 2) (told := [0, 1]) (one := [0, 1, 2]) (row := [1, 2, 0]) (near_same st R.g) r1 (by decide) (by decide), true, rfl, fun _ => vx_callP F1 ?_, fun h => absurd h (by simp)⟩
  exact wx
  exact ⟨.bl true, rfl, fun e S' R => ok_leads (n := n + 2) (told := [1, 0]) (one := [1, 2, 0]) (row := [0, 1, 2]) (near_same st R.g) r2 (by decide) (by decide), ret_p rfl rfl⟩
/-- exchange_row of two rows, is not None -/
theorem vt_xn {G : Sto → Prop} {b : Nat} {ve : List Sl} {Q : Bool → Prop} {A : Es} (F : Fm b G) (ho : Rng L one) (ht : Rng L row) (hl1 : one.length < 900) (hl2 : row.length < 900)
    (hA : VL (callN T (n + 3)) G b ve A fun ds => ds = [webD h L, lotD one, lotD row] ∧ (Q (!(isNon (loD (xrow L one row)))))) : VT (callN T (n + 3)) G b ve (.cmp .isn (.call 2 A .nil [0, 1, 2]) (.cn .non)) Q := by
  refine vt_cmp (vx_callP F ?_)
  refine fun c e S R => Ok.mono (hA c e S R) fun w ⟨k1, e1, hq⟩ => ⟨k1, vl_nil ⟨_, loD_pure _, fun e S' R => ?_, vx_cn (c_isn hq)⟩⟩
  rw [e1]
  exact ok_xrow (n := n) ho ht hl1 hl2
def La : List (List Int) := [[0, 2], [1, 2], [0, 1]]
def r0 : List Int := (List.replicate 30 0) ++ (List.replicate 30 1)
def r1 : List Int := (List.range 60).map fun i => ((i % 2 : Nat) : Int)
theorem r0_eq : repl 30 [D.int 0] ++ repl 30 [D.int 1] = r0.map .int := rfl
theorem rng_r0 : Rng alone r0 := rng_of (by decide)
theorem rng_r1 : Rng alone r1 := rng_of (by decide)
theorem ok_law1 {p : Nat} {S1 : Sto} {k : Int} {ns : List Int} (hb : Bx S1 p) : VS (callN T (n + 5)) (Gr p S1) S1.length (tailOf b_law_2) [.d (.scr ns), .d (webD 4 alone), .d (.int k), .d (.loc p), .no, .no, .no, .no, .no, .no] (fun fl ve => fl = .nx ∧ Less ve [.d (.scr ns), .d (webD 4 alone), .no, .no, .no, .no, .no, .no, .no, .no]) := by
  have hlt := hb.lt
  have F := gr_fm (S0 := S1) hlt
  dsimp only [tailOf, b_law_2]
  refine vs_asg F (vx_callB hlt ?_)
  exact wx
  refine ⟨fun w => ∃ h L, w = .d (webD h L) ∧ Web h L, fun e S' R => Ok.mono (ok_web (n := n + 2) R.g.bx) fun r ⟨h, L, e1, w, fr⟩ => ⟨⟨h, L, e1, w⟩, fr⟩, fun w' ⟨h, L, e1, w⟩ => ⟨_, e1, pure_web h L, put_d ?_⟩⟩
  dsimp only [List.set]
  refine vs_forX (vi_e ?_)
  exact wxt
  refine ⟨_, _, it_fr, fun j ve => ve = [.d (.scr ns), .d (webD 4 alone), .d (.int k), .d (.loc p), .d (webD h L), .no, .no, .no, .no, .no], ⟨_, rfl, by exact wk⟩, fun _ _ _ => at_nil, ?_, ?_⟩
  · rintro j d ve hj rfl
    have hd : ∃ h L, d = webD h L ∧ Web h L := by
      have := List.mem_of_getElem? hj
      simp at this
      rcases this with rfl | rfl
      · exact ⟨h, L, rfl, w⟩
      · exact ⟨4, alone, rfl, alone_web⟩
    obtain ⟨h2, L2, rfl, w2⟩ := hd
    refine vg_var ?_
    dsimp only [List.set, b_law_1]
    refine vs_if1 (vt_or (vt_not (vt_b rfl (vx_callB hlt ?_))))
    exact wx
    refine vx_take (n := n + 4) hlt rfl ?_
    exact wx
    refine ⟨by omega, by omega, fun q q0 q1 => ?_⟩
    exact wx
    refine ⟨Yes, fun e S' R => ok_some (n := n) R.g.bx w2 (by omega) (by omega), fun w' e1 => ⟨_, e1, rfl, true, rfl, fun _ => ?_, fun h => absurd h (by simp)⟩⟩
    refine vt_not (vt_b rfl (vx_callB hlt ?_))
    exact wx
    refine vx_take (n := n + 4) hlt rfl ?_
    exact wx
    refine ⟨by omega, by omega, fun q q0 q1 => ?_⟩
    exact wx
    refine ⟨Yes, fun e S' R => ok_great (n := n) R.g.bx w2 (by omega) (by omega), fun w' e1 => ⟨_, e1, rfl, true, rfl, fun h => absurd h (by simp), fun _ => vs_nil ⟨_, rfl, by exact wk⟩⟩⟩
  · rintro ve rfl
    refine vs_if1 (vt_and (vt_cmp (vx_var rfl (vx_cn (c_lt ⟨fun _ => ?_, fun _ => ⟨fun h => absurd h (by simp), fun _ => vs_nil ⟨rfl, by exact wk⟩⟩⟩)))))
    refine vt_not (vt_b rfl (vx_callB hlt ?_))
    exact wx
    refine vx_pick (n := n + 3) hlt rfl ?_
    exact wxt
    refine ⟨_, rfl, by simp, by simp, ?_, fun x hx => ?_⟩
    · intro x hx
      simp at hx
      rcases hx with rfl | rfl
      · exact pure_web _ _
      · exact pure_web _ _
    have hx2 : ∃ h L, x = webD h L ∧ Web h L := by
      simp at hx
      rcases hx with rfl | rfl
      · exact ⟨4, alone, rfl, alone_web⟩
      · exact ⟨h, L, rfl, w⟩
    obtain ⟨h2, L2, rfl, w2⟩ := hx2
    exact wx
    refine vx_pick (n := n + 3) hlt rfl ?_
    exact wxt
    refine ⟨_, rfl, by simp, by simp, by simp; decide, fun x hx => ?_⟩
    have hx2 : ∃ m : Int, x = .int m ∧ 0 ≤ m ∧ m < 900 := by
      simp at hx
      rcases hx with rfl | rfl | rfl <;> exact ⟨_, rfl, by omega, by omega⟩
    obtain ⟨m, rfl, m0, m1⟩ := hx2
    exact wx
    refine ⟨Yes, fun e S' R => ok_great (n := n) R.g.bx w2 m0 m1, fun w' e1 => ⟨_, e1, rfl, true, rfl, fun h => absurd h (by simp), fun _ => vs_nil ⟨rfl, by exact wk⟩⟩⟩
theorem ok_law {ns : List Int} (hns : ns.length ≤ 63) : Ok (callN T (n + 6) 20 [.scr ns] []) fun r => r.1 = .d (.bl true) := by
  refine Ok.mono (P := fun r => Yes r.1 ∧ r.2 = []) ?_ fun r h => h.1
  refine fn_q (S := []) (P := Yes) (d := ⟨"law", 1, 10, b_law⟩) rfl rfl ?_
  have F := same_fm []
  dsimp only [b_law]
  rw [show ve0 10 [.scr ns] = [.d (.scr ns), .no, .no, .no, .no, .no, .no, .no, .no, .no] from rfl]
  refine vs_asg F ?_
  exact wxt
  show VS _ _ _ _ [.d (.scr ns), .d (webD 4 alone), .no, .no, .no, .no, .no, .no, .no, .no] _
  refine vs_if1 (vt_or (vt_not (vt_b rfl (vx_callP F ?_))))
  exact wx
  refine ⟨_, rfl, fun e S' R => ok_named (n := n + 1), _, rfl, fun _ => ?_, fun h => absurd h (by simp)⟩
  refine vt_or (vt_xn (n := n + 2) (h := 4) (L := alone) (one := [0, 7]) (row := [7, 0]) F (rng_of (by decide)) (rng_of (by decide)) (by decide) (by decide) ?_)
  exact wxt
  refine ⟨rfl, fun _ => ?_, fun h => absurd h (by decide)⟩
  refine vt_xn (n := n + 2) (h := 4) (L := alone) (one := [0]) (row := []) F (rng_of (by decide)) (rng_of (by decide)) (by decide) (by decide) ?_
  exact wxt
  refine ⟨rfl, fun h => absurd h (by decide), fun _ => ?_⟩
  refine vs_if1 (vt_or (vt_xn (n := n + 2) (h := 3) (L := La) (one := [0, 1, 2]) (row := [1, 0, 2]) F (rng_of (by decide)) (rng_of (by decide)) (by decide) (by decide) ?_))
  exact wxt
  refine ⟨rfl, fun _ => ?_, fun h => absurd h (by decide)⟩
  refine vt_xn (n := n + 2) (h := 4) (L := alone) (one := [4, 1]) (row := [1, 4]) F (rng_of (by decide)) (rng_of (by decide)) (by decide) (by decide) ?_
  exact wxt
  refine ⟨rfl, fun h => absurd h (by decide), fun _ => ?_⟩
  refine vs_forX (vi_rng0 ?_)
  exact wx
  refine ⟨_, _, rfl, rfl, ?_⟩
  exact wx
  refine ⟨_, _, rfl, rfl, ?_⟩
  exact wx
  refine ⟨?_, fun j ve => ve = [.d (.scr ns), .d (webD 4 alone), .no, .no, .no, .no, .no, .no, .no, .no], ⟨_, rfl, by exact wk⟩, fun _ _ _ => at_nil, ?_, ?_⟩
  · split <;> (try split) <;> omega
  · rintro j d ve hj rfl
    obtain ⟨rfl, hlt⟩ := rngD_get hj
    refine vg_var ?_
    dsimp only [List.set, b_law_2]
    refine vs_box (n := n + 4) F hns rfl (vx_var rfl ⟨_, rfl, by omega⟩) fun e p S1 R hb hbp hn => ?_
    dsimp only [List.map, frz, List.set]
    have := ok_law1 (n := n) (k := 0 + (j : Nat)) (ns := ns) hb
    dsimp only [tailOf, b_law_2] at this
    refine this.mono fun fl ve ⟨e1, wk⟩ => ?_
    subst e1
    exact ⟨_, rfl, wk⟩
  · rintro ve rfl
    refine vs_nearP (n := n + 4) (L := alone) rfl (by decide) (by decide) fun S1 np nl st g1 => ?_
    dsimp only [List.map, frz, List.set]
    have F1 := same_fm S1
    have hst : ∀ S', Same S1 S' → Near 0 S' np nl alone := fun S' g => near_same st g
    refine vs_asg F1 ?_
    exact wxt
    refine bin_rept (by decide) ?_
    exact wxt
    refine bin_rept (by decide) (bin_tup (by decide) ?_)
    rw [r0_eq]
    exact wx
    refine vs_asg F1 (vx_f1 (vx_compM (c := []) (f := D.int) (ns := rngI 60) (fun _ => true) (fun i => .int (i % 2)) ?_ at_nil ?_ ?_))
    · exact wx
      exact ⟨by omega, rfl, rng_nat (by omega)⟩
    · intro a ha
      refine vgk_var (vf_nil ⟨rfl, fun _ => ?_⟩)
      exact wx
      first | exact bin_mod (j := 2) (by omega) rfl | rfl
    · refine tp_of its_fr ?_
      have e : ((rngI 60).filter fun _ => true).map (fun i => D.int (i % 2)) = r1.map .int := rfl
      rw [e]
      exact wx
      refine vs_ret (vx_andb (vx_callP F1 ?_))
      exact wx
      rw [← List.map_reverse]
      exact wx
      refine ⟨.bl true, rfl, fun e S' R => ok_told (n := n + 1) alone_web (hst S' R.g) rng_r0 (rng_rev rng_r0) (by decide) (by decide), true, rfl, fun _ => vx_callP F1 ?_, fun h => absurd h (by simp)⟩
      exact wx
      exact ⟨.bl true, rfl, fun e S' R => ok_told (n := n + 1) alone_web (hst S' R.g) rng_r1 rng_r0 (by decide) (by decide), ret_p rfl ⟨_, rfl, rfl⟩⟩
end
end K06
theorem PySem.Challenge.cw_oneactmore_k06_exchanges_between_rows_holds : PySem.Challenge.rw_oneactmore_k06_exchanges_between_rows.Holds :=
  K06.holds 20 ⟨rfl, by decide, by decide⟩ fun ns h => by
  obtain ⟨⟨v, S'⟩, e, rfl⟩ := K06.ok_law (n := 15) h
  exact ⟨S', e⟩
