import PyProof.Rows.All
import Wide.All
import OpenK.AllK
import Wide.FinOn
import HandS.Base
import HandS.Call
import HandS.List
import HandS.Comp
import HandS.Iter
import HandS.Words
import HandS.Flow
import HandS.IsInst
import HandS.Defaults
import HandS.Conv
import HandS.Zip
import HandS.Rev
import HandS.ForMost
import HandS.TupAny
import HandS.TupMul
import HandS.Style
import PyProof.ListMulRoad
import PyProof.FactsAll.tuple_2
import KE.GoesZip
import KE.GoesMore
import HandS.Deep
import HandS.SortInts
import KE.GoesEnum
import HandS.Walk
import HandS.Dict
import HandS.More
import HandS.DictComp
import HandS.Head0
import HandS.Head1
import HandS.Head2
import HandS.HeadEnd
import HandS.HeadHook1
import HandS.HeadHook2
import PySem.Challenge.RW_oneactmore_k24_cuts_that_come_to_rest
set_option linter.all false
set_option autoImplicit false
/-! A small evaluator for the programs' subset: plain data D, a store of lists, no addresses. -/
namespace Pv
open PySem (Str)

inductive D where
  | non | bl (b : Bool) | int (i : Int) | str (x : Str) | tup (xs : List D) | loc (n : Nat) | scr (ns : List Int)
  deriving Inhabited

/-- what stands at a place of the store -/
inductive O where
  | lst (xs : List D) | dct (t : Bool) (kvs : List (D × D))
  deriving Inhabited

abbrev Sto := List O
abbrev Env := List (Option D)

inductive Rs (α : Type) where
  | ok (a : α) | exc (c : Nat) (v : D) (s : Sto) | bad

def Rs.bind {α β : Type} : Rs α → (α → Rs β) → Rs β
  | .ok a, f => f a
  | .exc c v s, _ => .exc c v s
  | .bad, _ => .bad
instance : Monad Rs where
  pure := Rs.ok
  bind := Rs.bind
@[simp] theorem ok_bind {α β : Type} (a : α) (f : α → Rs β) : (Rs.ok a >>= f) = f a := rfl
@[simp] theorem bad_bind {α β : Type} (f : α → Rs β) : ((Rs.bad : Rs α) >>= f) = Rs.bad := rfl
@[simp] theorem exc_bind {α β : Type} (c : Nat) (v : D) (s : Sto) (f : α → Rs β) : ((Rs.exc c v s : Rs α) >>= f) = Rs.exc c v s := rfl
@[simp] theorem pure_ok {α : Type} (a : α) : (pure a : Rs α) = Rs.ok a := rfl
theorem bind_ok {α β : Type} {r : Rs α} {f : α → Rs β} {b : β} (h : (r >>= f) = .ok b) : ∃ a, r = .ok a ∧ f a = .ok b := by
  cases r with
  | ok a => exact ⟨a, rfl, h⟩
  | exc c v s => cases h
  | bad => cases h

def Rs.ofO {α : Type} : Option α → Rs α
  | some a => .ok a
  | none => .bad
@[simp] theorem ofO_some {α : Type} (a : α) : Rs.ofO (some a) = .ok a := rfl
@[simp] theorem ofO_none {α : Type} : (Rs.ofO (none : Option α)) = .bad := rfl
theorem ofO_ok {α : Type} {o : Option α} {a : α} (h : Rs.ofO o = .ok a) : o = some a := by
  cases o with
  | none => cases h
  | some b => cases h; rfl

/-- a value, or a list that nobody else knows yet -/
inductive Vl where
  | d (x : D) | fr (xs : List D)
  deriving Inhabited

inductive Fl where
  | nx | br | ct | rt (v : Vl)

mutual
def D.pure : D → Bool
  | .loc _ => false
  | .tup xs => pureL xs
  | _ => true
def pureL : List D → Bool
  | [] => true
  | x :: xs => x.pure && pureL xs
end
mutual
def D.ub (n : Nat) : D → Bool
  | .loc l => decide (l < n)
  | .tup xs => ubL n xs
  | _ => true
def ubL (n : Nat) : List D → Bool
  | [] => true
  | x :: xs => x.ub n && ubL n xs
end

inductive Bo where | add | sub | mul | fdiv | mod | pow | shl | shr | band | bor
  deriving DecidableEq
inductive Co where | eq | ne | lt | le | gt | ge | is | isn | inn | nin
  deriving DecidableEq
/-- the types that isinstance asks for -/
inductive Ty where | int | bool | str | tuple | list
  deriving DecidableEq
/-- built-in functions of one argument -/
inductive F1 where | len | abs | int | tuple | list | max | min | sum | sorted | bool | any | all
  deriving DecidableEq
inductive F2 where | max | min
  deriving DecidableEq
inductive M0 where | pop | reverse
  deriving DecidableEq
inductive M1 where | append | pop | extend | index | get
  deriving DecidableEq
inductive M2 where | insert | setdefault | get
  deriving DecidableEq
mutual
inductive E where
  | var (i : Nat) | cn (c : D) | neg (a : E) | not (a : E) | bin (o : Bo) (a b : E) | cmp (o : Co) (a b : E)
  | and (a b : E) | or (a b : E) | ite (c a b : E) | tup (es : Es) | lst (es : Es)
  | idx (a b : E) | sl (a : E) (lo hi : Oe) | rev (a : E)
  | call (f : Nat) (es ks : Es) (perm : List Nat)
  | f1 (f : F1) (a : E) | f2 (f : F2) (a b : E) | isi (a : E) (t : Ty) | mkr (t : F1) (lo : Oe) (hi : E)
  | m0 (m : M0) (o : E) | m1 (m : M1) (o a : E) | m2 (m : M2) (o a b : E)
  | comp (elt : E) (tg : Tg) (it : It) (ifs : Es) (vs : List Nat) | dnew (t : Bool)
  | dget (o i : E) | din (neg : Bool) (i o : E) | dlen (o : E) | dgt (o k x : E)
  | chn (o p : Co) (a b c : E) | dcmp (k x : E) (tg : Tg) (it : It) (ifs : Es) (vs : List Nat)
inductive Es where
  | nil | cons (e : E) (es : Es)
inductive Oe where
  | none | some (e : E)
inductive It where
  | e (a : E) | rng (lo : Oe) (hi : E) | enum (a : E) | zip (a b : E) | rev (a : E)
inductive Tg where
  | var (i : Nat) | tup (ts : Tgs) | sub (o i : E)
inductive Tgs where
  | nil | cons (t : Tg) (ts : Tgs)
end
mutual
inductive St where
  | expr (e : E) | asg (t : Tg) (e : E) | aug (i : Nat) (o : Bo) (e : E) | augs (o i : E) (op : Bo) (e : E)
  | swap (ts : List Nat) (es : Es) | ite (c : E) (a b : Ss) | for (t : Tg) (it : It) (b : Ss) | while (c : E) (b : Ss)
  | ret (e : E) | retn | brk | cont | pass | dput (o k x : E)
inductive Ss where
  | nil | cons (s : St) (r : Ss)
end

/-! ### operations on data -/
def settle : Vl → Sto → D × Sto
  | .d x, S => (x, S)
  | .fr xs, S => (.loc S.length, S ++ [.lst xs])
@[simp] theorem settle_d (x : D) (S : Sto) : settle (.d x) S = (x, S) := rfl
@[simp] theorem settle_fr (xs : List D) (S : Sto) : settle (.fr xs) S = (.loc S.length, S ++ [.lst xs]) := rfl

/-- the items of a list or a tuple -/
def itemsD : D → Sto → Option (List D)
  | .tup xs, _ => some xs
  | .scr ns, _ => some (ns.map .int)
  | .loc l, S => match S[l]? with
    | some (.lst xs) => some xs
    | _ => none
  | _, _ => none
def items : Vl → Sto → Option (List D)
  | .fr xs, _ => some xs
  | .d x, S => itemsD x S
@[simp] theorem itemsD_tup (xs : List D) (S : Sto) : itemsD (.tup xs) S = some xs := rfl
@[simp] theorem items_fr (xs : List D) (S : Sto) : items (.fr xs) S = some xs := rfl
@[simp] theorem items_d (x : D) (S : Sto) : items (.d x) S = itemsD x S := rfl

def truthD : D → Sto → Option Bool
  | .non, _ => some false
  | .bl b, _ => some b
  | .int i, _ => some (i != 0)
  | .str _, _ => none
  | .tup xs, _ => some (!xs.isEmpty)
  | .scr ns, _ => some (!ns.isEmpty)
  | .loc l, S => match S[l]? with
    | some (.lst xs) => some (!xs.isEmpty)
    | _ => none
def truth : Vl → Sto → Option Bool
  | .d x, S => truthD x S
  | .fr xs, _ => some (!xs.isEmpty)
@[simp] theorem truth_bl (b : Bool) (S : Sto) : truth (.d (.bl b)) S = some b := rfl
@[simp] theorem truth_non (S : Sto) : truth (.d .non) S = some false := rfl

def line : Nat := 16777216
def binI : Bo → Int → Int → Option Int
  | .add, i, j => some (i + j)
  | .sub, i, j => some (i - j)
  | .mul, i, j => if i.natAbs < 18446744073709551616 ∨ j.natAbs < 18446744073709551616 then some (i * j) else none
  | .fdiv, i, j => if 0 < j ∧ j < 1073741824 then some (i / j) else none
  | .mod, i, j => if 0 < j then some (i % j) else none
  | .pow, i, j => if (0 ≤ j ∧ j ≤ 1000000) ∧ i.natAbs < 18446744073709551616 then some (i ^ j.toNat) else none
  | _, _, _ => none
def repl {α : Type} (n : Int) (xs : List α) : List α := (List.replicate n.toNat xs).flatten
/-- a list's items, not the script's -/
def lstV : Vl → Sto → Option (List D)
  | .fr xs, _ => some xs
  | .d (.loc l), S => match S[l]? with
    | some (.lst xs) => some xs
    | _ => none
  | _, _ => none
def numI : Vl → Option Int
  | .d (.int i) => some i
  | _ => none
def tupO : Vl → Option (List D)
  | .d (.tup xs) => some xs
  | _ => none
theorem numI_some {x : Vl} {i : Int} (h : numI x = some i) : x = .d (.int i) := by
  cases x with
  | fr xs => cases h
  | d x => cases x with
    | int j => cases h; rfl
    | _ => cases h
theorem tupO_some {x : Vl} {xs : List D} (h : tupO x = some xs) : x = .d (.tup xs) := by
  cases x with
  | fr xs => cases h
  | d x => cases x with
    | tup j => cases h; rfl
    | _ => cases h
/-- a + b, a * b .. of two values -/
def binV (o : Bo) (x y : Vl) (S : Sto) : Option Vl :=
  match numI x, numI y with
  | some i, some j => (binI o i j).map fun k => .d (.int k)
  | none, some n => match o with
    | .mul => match tupO x with
      | some xs => if xs.length ≤ 1000 ∧ (1 ≤ n ∧ n ≤ 1000) ∧ xs.isEmpty = false then some (.d (.tup (repl n xs))) else none
      | none => (lstV x S).bind fun xs => if xs.length ≤ 1000 ∧ (-1 ≤ n ∧ n ≤ 1000) then some (.fr (repl n xs)) else none
    | _ => none
  | none, none => match o with
    | .add => match tupO x, tupO y with
      | some xs, some ys => if xs.length + ys.length ≤ line then some (.d (.tup (xs ++ ys))) else none
      | none, none => (lstV x S).bind fun xs => (lstV y S).bind fun ys => if xs.length + ys.length ≤ line then some (.fr (xs ++ ys)) else none
      | _, _ => none
    | _ => none
  | some _, none => none

/-- == of data without lists -/
def scalEq : D → D → Option Bool
  | .non, .non => some true
  | .non, .int _ => some false
  | .int _, .non => some false
  | .non, .bl _ => some false
  | .bl _, .non => some false
  | .bl a, .bl b => some (a == b)
  | .int a, .int b => some (a == b)
  | .str a, .str b => some (decide (a = b))
  | .int _, .str _ => some false
  | .str _, .int _ => some false
  | .non, .str _ => some false
  | .str _, .non => some false
  | .bl _, .str _ => some false
  | .str _, .bl _ => some false
  | _, _ => none
def flat : D → Bool
  | .non => true
  | .bl _ => true
  | .int _ => true
  | .str _ => true
  | _ => false
/-- == of flat data, as 'in' asks it -/
def eqF : D → D → Bool
  | .non, .non => true
  | .bl a, .bl b => a == b
  | .bl a, .int b => (if a then 1 else 0) == b
  | .int a, .bl b => a == (if b then 1 else 0)
  | .int a, .int b => a == b
  | .str a, .str b => a == b
  | _, _ => false
def inF (x : D) (xs : List D) : Bool := xs.any fun y => eqF y x
def isD : D → D → Option Bool
  | .non, .non => some true
  | _, .non => some false
  | .bl a, .bl b => some (a == b)
  | .non, .bl _ => some false
  | .int _, .bl _ => some false
  | .str _, .bl _ => some false
  | .tup _, .bl _ => some false
  | _, _ => none
def ordI : Co → Int → Int → Option Bool
  | .lt, i, j => some (decide (i < j))
  | .le, i, j => some (decide (i ≤ j))
  | .gt, i, j => some (decide (j < i))
  | .ge, i, j => some (decide (j ≤ i))
  | _, _, _ => none
def inV (x : D) (y : Vl) (S : Sto) : Option Bool := (items y S).bind fun xs => if flat x && xs.all flat then some (inF x xs) else none
def dO : Vl → Option D
  | .d x => some x
  | _ => none
theorem dO_some {x : Vl} {d : D} (h : dO x = some d) : x = .d d := by
  cases x with
  | fr xs => cases h
  | d x => cases h; rfl
/-- whole numbers alone -/
def intsOf : List D → Option (List Int)
  | [] => some []
  | .int i :: xs => (intsOf xs).map fun r => i :: r
  | _ :: _ => none
def mapO {α β : Type} (f : α → Option β) : List α → Option (List β)
  | [] => some []
  | x :: xs => (f x).bind fun y => (mapO f xs).map (y :: ·)
/-- data of any depth, as it is told -/
def pyD : Nat → Sto → D → Option PySem.PyData
  | 0, _, _ => none
  | n + 1, S, d => match d with
    | .non => some .none
    | .bl b => some (.bool b)
    | .int i => some (.int i)
    | .str x => some (.str x)
    | .tup xs => (mapO (pyD n S) xs).map .tuple
    | .scr ns => some (.list (ns.map .int))
    | .loc l => match S[l]? with
      | some (.lst xs) => (mapO (pyD n S) xs).map .list
      | _ => none
def pyF : Nat := 12
def pyV (x : Vl) (S : Sto) : Option PySem.PyData :=
  match x with
  | .d d => pyD pyF S d
  | .fr xs => (mapO (pyD pyF S) xs).map .list
def deepEq (x y : Vl) (S : Sto) : Option Bool := (pyV x S).bind fun p => (pyV y S).bind fun q => if PySem.SeqAt.shaped p = true ∧ PySem.SeqAt.shaped q = true then some (PySem.PyData.eqv p q) else none
/-- the parts of data that hold parts -/
def partsP : PySem.PyData → Option (List PySem.PyData)
  | .list xs => some xs
  | .tuple xs => some xs
  | _ => none
def deepIn (x : D) (y : Vl) (S : Sto) : Option Bool := (pyD pyF S x).bind fun p => (pyV y S).bind fun q => (partsP q).bind fun qs => if PySem.SeqAt.shaped p = true ∧ PySem.SeqAt.shaped q = true then some (qs.any fun z => PySem.PyData.eqv z p) else none
def orE (a b : Option Bool) : Option Bool := match a with
  | some k => some k
  | none => b
@[simp] theorem orE_some (k : Bool) (b : Option Bool) : orE (some k) b = some k := rfl
@[simp] theorem orE_none (b : Option Bool) : orE none b = b := rfl
def eqV (x y : Vl) (S : Sto) : Option Bool := orE ((dO x).bind fun x => (dO y).bind fun y => scalEq x y) (deepEq x y S)
def inG (x : D) (y : Vl) (S : Sto) : Option Bool := orE (inV x y S) (deepIn x y S)
def lexB : List Int → List Int → Bool
  | [], [] => false
  | [], _ :: _ => true
  | _ :: _, [] => false
  | x :: xs, y :: ys => decide (x < y) || (x == y && lexB xs ys)
def tupI (x : Vl) : Option (List Int) := (tupO x).bind intsOf
def ltV (x y : Vl) : Option Bool := orE ((numI x).bind fun i => (numI y).bind fun j => some (decide (i < j))) ((tupI x).bind fun ns => (tupI y).bind fun ms => some (lexB ns ms))
def cmpV (o : Co) (x y : Vl) (S : Sto) : Option Bool :=
  match o with
  | .eq => eqV x y S
  | .ne => (eqV x y S).map not
  | .is => (dO x).bind fun x => (dO y).bind fun y => isD x y
  | .isn => (dO x).bind fun x => (dO y).bind fun y => (isD x y).map not
  | .inn => (dO x).bind fun x => inG x y S
  | .nin => (dO x).bind fun x => (inG x y S).map not
  | .lt => ltV x y
  | o => (numI x).bind fun i => (numI y).bind fun j => ordI o i j
@[simp] theorem binV_int (o : Bo) (i j : Int) (S : Sto) : binV o (.d (.int i)) (.d (.int j)) S = (binI o i j).map fun k => .d (.int k) := rfl
@[simp] theorem binV_tup (xs ys : List D) (S : Sto) : binV .add (.d (.tup xs)) (.d (.tup ys)) S = if xs.length + ys.length ≤ line then some (.d (.tup (xs ++ ys))) else none := rfl
@[simp] theorem binV_rep (xs : List D) (n : Int) (S : Sto) : binV .mul (.d (.tup xs)) (.d (.int n)) S = if xs.length ≤ 1000 ∧ (1 ≤ n ∧ n ≤ 1000) ∧ xs.isEmpty = false then some (.d (.tup (repl n xs))) else none := rfl
@[simp] theorem binV_catf (xs ys : List D) (S : Sto) : binV .add (.fr xs) (.fr ys) S = if xs.length + ys.length ≤ line then some (.fr (xs ++ ys)) else none := rfl
@[simp] theorem binV_repf (xs : List D) (n : Int) (S : Sto) : binV .mul (.fr xs) (.d (.int n)) S = if xs.length ≤ 1000 ∧ (-1 ≤ n ∧ n ≤ 1000) then some (.fr (repl n xs)) else none := rfl
@[simp] theorem binI_add (i j : Int) : binI .add i j = some (i + j) := rfl
@[simp] theorem binI_sub (i j : Int) : binI .sub i j = some (i - j) := rfl
theorem binI_mul {i j : Int} (h : i.natAbs < 18446744073709551616 ∨ j.natAbs < 18446744073709551616) : binI .mul i j = some (i * j) := if_pos h
theorem binI_fdiv {i j : Int} (h : 0 < j ∧ j < 1073741824) : binI .fdiv i j = some (i / j) := if_pos h
theorem binI_mod {i j : Int} (h : 0 < j) : binI .mod i j = some (i % j) := if_pos h
@[simp] theorem cmp_lt (i j : Int) (S : Sto) : cmpV .lt (.d (.int i)) (.d (.int j)) S = some (decide (i < j)) := rfl
@[simp] theorem cmp_le (i j : Int) (S : Sto) : cmpV .le (.d (.int i)) (.d (.int j)) S = some (decide (i ≤ j)) := rfl
@[simp] theorem cmp_gt (i j : Int) (S : Sto) : cmpV .gt (.d (.int i)) (.d (.int j)) S = some (decide (j < i)) := rfl
@[simp] theorem cmp_ge (i j : Int) (S : Sto) : cmpV .ge (.d (.int i)) (.d (.int j)) S = some (decide (j ≤ i)) := rfl
@[simp] theorem cmp_eq (x y : D) (S : Sto) : cmpV .eq (.d x) (.d y) S = orE (scalEq x y) (deepEq (.d x) (.d y) S) := rfl
@[simp] theorem cmp_ne (x y : D) (S : Sto) : cmpV .ne (.d x) (.d y) S = (orE (scalEq x y) (deepEq (.d x) (.d y) S)).map not := rfl
@[simp] theorem cmp_eqf (x : Vl) (ys : List D) (S : Sto) : cmpV .eq x (.fr ys) S = deepEq x (.fr ys) S := by cases x <;> rfl
@[simp] theorem cmp_nef (x : Vl) (ys : List D) (S : Sto) : cmpV .ne x (.fr ys) S = (deepEq x (.fr ys) S).map not := by cases x <;> rfl
@[simp] theorem cmp_is (x y : D) (S : Sto) : cmpV .is (.d x) (.d y) S = isD x y := rfl
@[simp] theorem cmp_isn (x y : D) (S : Sto) : cmpV .isn (.d x) (.d y) S = (isD x y).map not := rfl
@[simp] theorem cmp_in (x : D) (y : Vl) (S : Sto) : cmpV .inn (.d x) y S = inG x y S := rfl
@[simp] theorem cmp_nin (x : D) (y : Vl) (S : Sto) : cmpV .nin (.d x) y S = (inG x y S).map not := rfl
/-- isinstance(x, t) -/
def isTy (x : D) (t : Ty) (S : Sto) : Option Bool :=
  match x with
  | .non => some false
  | .bl _ => some (t == .bool || t == .int)
  | .int _ => some (t == .int)
  | .str _ => some (t == .str)
  | .tup _ => some (t == .tuple)
  | .scr _ => none
  | .loc l => match S[l]? with
    | some (.lst _) => some (t == .list)
    | _ => none

/-- an index, from either end -/
def ixN (n : Nat) (i : Int) : Option Nat := if 0 ≤ i then (if i < n then some i.toNat else none) else if -(n : Int) ≤ i then some (i + n).toNat else none
def atI (xs : List D) (i : Int) : Option D := (ixN xs.length i).bind fun j => xs[j]?
theorem atI_nat {xs : List D} {j : Nat} {x : D} (h : xs[j]? = some x) : atI xs (j : Int) = some x := by
  have hj : j < xs.length := (List.getElem?_eq_some_iff.mp h).1
  unfold atI ixN
  rw [if_pos (by omega), if_pos (by omega)]
  simpa using h
def idxV (x : Vl) (i : D) (S : Sto) : Option D :=
  match i with
  | .int i => (items x S).bind fun xs => atI xs i
  | _ => none

def sIx (n d : Nat) : Option Int → Nat
  | none => d
  | some v => if v < 0 then (v + (n : Int)).toNat else min v.toNat n
def cut (xs : List D) (lo hi : Option Int) : List D := (xs.drop (sIx xs.length 0 lo)).take (sIx xs.length xs.length hi - sIx xs.length 0 lo)
def sliceV (x : Vl) (lo hi : Option Int) (S : Sto) : Option Vl :=
  match x with
  | .d (.tup xs) => some (.d (.tup (cut xs lo hi)))
  | x => (items x S).map fun xs => .fr (cut xs lo hi)
def revV (x : Vl) (S : Sto) : Option Vl :=
  match tupO x with
  | some _ => none
  | none => (items x S).map fun xs => .fr xs.reverse

def insI (x : Int) : List Int → List Int
  | [] => [x]
  | y :: ys => if x ≤ y then x :: y :: ys else y :: insI x ys
def sortI : List Int → List Int
  | [] => []
  | x :: xs => insI x (sortI xs)
def maxI : List Int → Option Int
  | [] => none
  | x :: xs => match maxI xs with
    | none => some x
    | some m => some (if m < x then x else m)
def minI : List Int → Option Int
  | [] => none
  | x :: xs => match minI xs with
    | none => some x
    | some m => some (if x < m then x else m)
/-- the items of a list that is no tuple -/
def listV (x : Vl) (S : Sto) : Option (List D) :=
  match tupO x with
  | some _ => none
  | none => items x S
@[simp] theorem listV_fr (xs : List D) (S : Sto) : listV (.fr xs) S = some xs := rfl
def app1 (f : F1) (x : Vl) (S : Sto) : Option Vl :=
  match f with
  | .len => (items x S).map fun xs => .d (.int xs.length)
  | .abs => match x with
    | .d (.int i) => some (.d (.int (if i < 0 then -i else i)))
    | _ => none
  | .int => match x with
    | .d (.int i) => some (.d (.int i))
    | .d (.bl k) => some (.d (.int (if k then 1 else 0)))
    | _ => none
  | .tuple => (items x S).map fun xs => .d (.tup xs)
  | .list => (items x S).map fun xs => .fr xs
  | .max => (listV x S).bind fun xs => (intsOf xs).bind fun ns => (maxI ns).map fun m => .d (.int m)
  | .min => (listV x S).bind fun xs => (intsOf xs).bind fun ns => (minI ns).map fun m => .d (.int m)
  | .sum => (listV x S).bind fun xs => (intsOf xs).map fun ns => .d (.int ns.sum)
  | .sorted => (listV x S).bind fun xs => (intsOf xs).map fun ns => .fr ((sortI ns).map .int)
  | _ => none
def app2 (f : F2) (x y : D) : Option D :=
  match f, x, y with
  | .max, .int i, .int j => some (.int (if j > i then j else i))
  | .min, .int i, .int j => some (.int (if j < i then j else i))
  | _, _, _ => none

/-- a list's object is written: what is put in is plain data, or the list is the frame's own -/
def wr (b l : Nat) (x : D) : Prop := x.pure = true ∨ b ≤ l
/-- whose method it is -/
def recv (x : D) (S : Sto) : Option Unit :=
  match x with
  | .loc l => match S[l]? with
    | some (.lst _) => some ()
    | _ => none
  | _ => none
open Classical in
noncomputable def meth1 (b : Nat) (m : M1) (o : D) (x : D) (S : Sto) : Rs (Vl × Sto) :=
  match m, o with
  | .append, .loc l => match S[l]? with
    | some (.lst xs) => if xs.length < line ∧ wr b l x then .ok (.d .non, S.set l (.lst (xs ++ [x]))) else .bad
    | _ => .bad
  | .pop, .loc l => match S[l]?, x with
    | some (.lst xs), .int i => match ixN xs.length i with
      | some j => match xs[j]? with
        | some y => .ok (.d y, S.set l (.lst (xs.eraseIdx j)))
        | none => .bad
      | none => .bad
    | _, _ => .bad
  | .index, .loc l => match pyD pyF S (.loc l), pyD pyF S x with
    | some (.list ds), some d => if PySem.SeqAt.shaped (.list ds) = true ∧ PySem.SeqAt.shaped d = true then (match ds.findIdx? fun z => PySem.PyData.eqv z d with
      | some j => .ok (.d (.int (j : Nat)), S)
      | none => .bad) else .bad
    | _, _ => .bad
  | _, _ => .bad
open Classical in
noncomputable def meth2 (b : Nat) (m : M2) (o x y : D) (S : Sto) : Rs (Vl × Sto) :=
  match m, o, x with
  | .insert, .loc l, .int i => match S[l]? with
    | some (.lst xs) => if (0 ≤ i ∧ i < 4611686018427387904) ∧ xs.length < line ∧ wr b l y then .ok (.d .non, S.set l (.lst (xs.take i.toNat ++ [y] ++ xs.drop i.toNat))) else .bad
    | _ => .bad
  | _, _, _ => .bad
def meth0 (m : M0) (o : D) (S : Sto) : Rs (Vl × Sto) :=
  match m, o with
  | .pop, .loc l => match S[l]? with
    | some (.lst xs) => match xs[xs.length - 1]? with
      | some y => .ok (.d y, S.set l (.lst xs.dropLast))
      | none => .bad
    | _ => .bad
  | .reverse, .loc l => match S[l]? with
    | some (.lst xs) => .ok (.d .non, S.set l (.lst xs.reverse))
    | _ => .bad
  | _, _ => .bad
open Classical in
noncomputable def setI (b : Nat) (o i : D) (x : D) (S : Sto) : Rs Sto :=
  match o, i with
  | .loc l, .int i => match S[l]? with
    | some (.lst xs) => match ixN xs.length i with
      | some j => if wr b l x then .ok (S.set l (.lst (xs.set j x))) else .bad
      | none => .bad
    | _ => .bad
  | _, _ => .bad

/-- back from a call: the callee's own objects go where the result tells nothing of them -/
def leave (n : Nat) (v : Vl) (S : Sto) : Vl × Sto :=
  match v with
  | .fr xs => if ubL n xs then (.fr xs, S.take n) else (.fr xs, S)
  | .d (.loc l) => if l < n then (.d (.loc l), S.take n) else match S[l]? with
    | some (.lst xs) => if ubL n xs then (.fr xs, S.take n) else (.d (.loc l), S)
    | _ => (.d (.loc l), S)
  | .d x => if x.ub n then (.d x, S.take n) else (.d x, S)

abbrev Chk := List (Nat × O)
def Chk.ok (c : Chk) (S : Sto) : Prop := ∀ p ∈ c, S[p.1]? = some p.2
def chkOf (x : Vl) (S : Sto) : Chk :=
  match x with
  | .d (.loc l) => match S[l]? with
    | some o => [(l, o)]
    | none => []
  | _ => []
def enumD (xs : List D) : List D := xs.zipIdx.map fun p => .tup [.int (p.2 : Nat), p.1]
def zipD (xs ys : List D) : List D := List.zipWith (fun x y => .tup [x, y]) xs ys
def rngD (lo hi : Int) : List D := (List.range (hi - lo).toNat).map fun i => .int (lo + (i : Nat))

open Classical in
noncomputable def forL (c : Chk) (f : D → Env → Sto → Rs (Fl × Env × Sto)) : List D → Env → Sto → Rs (Fl × Env × Sto)
  | [], e, S => if c.ok S then .ok (.nx, e, S) else .bad
  | x :: xs, e, S => if c.ok S then f x e S >>= fun r => match r.1 with
      | .nx => forL c f xs r.2.1 r.2.2
      | .ct => forL c f xs r.2.1 r.2.2
      | .br => .ok (.nx, r.2)
      | .rt v => .ok (.rt v, r.2)
    else .bad
open Classical in
noncomputable def compL (c : Chk) (f : D → Sto → Rs (Option D × Sto)) : List D → Sto → Rs (List D × Sto)
  | [], S => if c.ok S then .ok ([], S) else .bad
  | x :: xs, S => if c.ok S then f x S >>= fun r => compL c f xs r.2 >>= fun q => .ok (r.1.toList ++ q.1, q.2) else .bad
/-- a while loop's turns: so many at most -/
def big : Nat := 1000000000
def whileL (t : Env → Sto → Rs (Bool × Sto)) (f : Env → Sto → Rs (Fl × Env × Sto)) : Nat → Env → Sto → Rs (Fl × Env × Sto)
  | 0, _, _ => .bad
  | n + 1, e, S => t e S >>= fun r => match r.1 with
    | false => .ok (.nx, e, r.2)
    | true => f e r.2 >>= fun r => match r.1 with
      | .nx => whileL t f n r.2.1 r.2.2
      | .ct => whileL t f n r.2.1 r.2.2
      | .br => .ok (.nx, r.2)
      | .rt v => .ok (.rt v, r.2)

abbrev Rc := Nat → List D → Sto → Rs (Vl × Sto)
def intO : D → Option Int
  | .int i => some i
  | _ => none

abbrev DV := Nat → Env → Sto → Rs (Vl × Sto)
abbrev DT := Nat → Env → Sto → Rs (Bool × Sto)
abbrev DD := Nat → Env → Sto → Rs (D × Sto)
abbrev DL := Nat → Env → Sto → Rs (List D × Sto)
abbrev DO := Nat → Env → Sto → Rs (Option Int × Sto)
abbrev DI := Nat → Env → Sto → Rs ((Chk × List D) × Sto)
abbrev DG := Nat → D → Env → Sto → Rs (Env × Sto)
abbrev DGs := Nat → List D → Env → Sto → Rs (Env × Sto)
/-- a value, settled -/
def sD (f : DV) : DD := fun b e S => f b e S >>= fun r => .ok (settle r.1 r.2)
/-- a value's truth -/
def sT (f : DV) : DT := fun b e S => f b e S >>= fun r => Rs.ofO (truth r.1 r.2) >>= fun k => .ok (k, r.2)
def sVar (i : Nat) : DV := fun _ e S => match e[i]? with
    | some (some x) => .ok (.d x, S)
    | _ => .bad
def sCn (c : D) : DV := fun _ _ S => .ok (.d c, S)
def sNeg (f : DV) : DV := fun b e S => f b e S >>= fun r => match r.1 with
    | .d (.int i) => .ok (.d (.int (-i)), r.2)
    | _ => .bad
def sNot (f : DV) : DV := fun b e S => f b e S >>= fun r => Rs.ofO (truth r.1 r.2) >>= fun k => .ok (.d (.bl (!k)), r.2)
def sBin (o : Bo) (f g : DV) : DV := fun b e S => f b e S >>= fun r => g b e r.2 >>= fun q => Rs.ofO (binV o r.1 q.1 q.2) >>= fun v => .ok (v, q.2)
def sCmp (o : Co) (f g : DV) : DV := fun b e S => f b e S >>= fun r => g b e r.2 >>= fun q => Rs.ofO (cmpV o r.1 q.1 q.2) >>= fun k => .ok (.d (.bl k), q.2)
def sAnd (f g : DV) : DV := fun b e S => sD f b e S >>= fun r => Rs.ofO (truthD r.1 r.2) >>= fun k => match k with
    | true => g b e r.2
    | false => .ok (.d r.1, r.2)
def sOr (f g : DV) : DV := fun b e S => sD f b e S >>= fun r => Rs.ofO (truthD r.1 r.2) >>= fun k => match k with
    | true => .ok (.d r.1, r.2)
    | false => g b e r.2
def sIte (c : DT) (f g : DV) : DV := fun b e S => c b e S >>= fun r => match r.1 with
    | true => f b e r.2
    | false => g b e r.2
def sTup (l : DL) : DV := fun b e S => l b e S >>= fun r => if r.1.length ≤ line then .ok (.d (.tup r.1), r.2) else .bad
def sLst (l : DL) : DV := fun b e S => l b e S >>= fun r => if r.1.length ≤ line then .ok (.fr r.1, r.2) else .bad
def sIdx (f g : DV) : DV := fun b e S => f b e S >>= fun r => sD g b e r.2 >>= fun q => Rs.ofO (idxV r.1 q.1 q.2) >>= fun v => .ok (.d v, q.2)
def sSl (f : DV) (lo hi : DO) : DV := fun b e S => f b e S >>= fun r => lo b e r.2 >>= fun p => hi b e p.2 >>= fun q => Rs.ofO (sliceV r.1 p.1 q.1 q.2) >>= fun v => .ok (v, q.2)
def sRev (f : DV) : DV := fun b e S => f b e S >>= fun r => Rs.ofO (revV r.1 r.2) >>= fun v => .ok (v, r.2)
/-- the arguments in the parameters' order -/
def arr {α : Type} (perm : List Nat) (xs : List α) : List α := perm.filterMap (xs[·]?)
def sCall (rc : Rc) (f : Nat) (l k : DL) (perm : List Nat) : DV := fun _ e S => l S.length e S >>= fun r => k S.length e r.2 >>= fun q => rc f (arr perm (r.1 ++ q.1)) q.2 >>= fun w => .ok (leave S.length w.1 w.2)
def sF1 (o : F1) (f : DV) : DV := fun b e S => f b e S >>= fun r => Rs.ofO (app1 o r.1 r.2) >>= fun v => .ok (v, r.2)
def sF2 (o : F2) (f g : DV) : DV := fun b e S => sD f b e S >>= fun r => sD g b e r.2 >>= fun q => Rs.ofO (app2 o r.1 q.1) >>= fun v => .ok (.d v, q.2)
def sIsi (f : DV) (t : Ty) : DV := fun b e S => sD f b e S >>= fun r => Rs.ofO (isTy r.1 t r.2) >>= fun k => .ok (.d (.bl k), r.2)
/-- range(lo, hi): the ends, in bounds -/
def sEnds (lo : DO) (hi : DV) : Nat → Env → Sto → Rs ((Int × Int) × Sto) := fun b e S => lo b e S >>= fun p => sD hi b e p.2 >>= fun q => Rs.ofO (intO q.1) >>= fun j =>
    if (-4611686018427387904 ≤ p.1.getD 0 ∧ p.1.getD 0 < 4611686018427387904) ∧ (-4611686018427387904 ≤ j ∧ j < 4611686018427387904) then .ok ((p.1.getD 0, j), q.2) else .bad
def sMkr (t : F1) (lo : DO) (hi : DV) : DV := fun b e S => sEnds lo hi b e S >>= fun r => if (r.1.2 - r.1.1).toNat ≤ line then
      (match t with
          | .tuple => .ok (.d (.tup (rngD r.1.1 r.1.2)), r.2)
          | .list => .ok (.fr (rngD r.1.1 r.1.2), r.2)
          | _ => .bad)
      else .bad
def sM0 (m : M0) (f : DV) : DV := fun b e S => sD f b e S >>= fun r => meth0 m r.1 r.2
noncomputable def sM1 (m : M1) (f g : DV) : DV := fun b e S => sD f b e S >>= fun r => Rs.ofO (recv r.1 r.2) >>= fun _ => sD g b e r.2 >>= fun q => meth1 b m r.1 q.1 q.2
noncomputable def sM2 (m : M2) (f g h : DV) : DV := fun b e S => sD f b e S >>= fun r => Rs.ofO (recv r.1 r.2) >>= fun _ => sD g b e r.2 >>= fun q => sD h b e q.2 >>= fun p => meth2 b m r.1 q.1 p.1 p.2
/-- a op b op c -/
def sChn (o p : Co) (f g h : DV) : DV := fun b e S => sD f b e S >>= fun r => sD g b e r.2 >>= fun q => Rs.ofO (cmpV o (.d r.1) (.d q.1) q.2) >>= fun k => match k with
  | true => sD h b e q.2 >>= fun w => Rs.ofO (cmpV p (.d q.1) (.d w.1) w.2) >>= fun l => .ok (.d (.bl l), w.2)
  | false => .ok (.d (.bl false), q.2)
/-- a block's own names are forgotten at each turn -/
def wipeE (e : Env) : List Nat → Env
  | [] => e
  | v :: vs => (wipeE e vs).set v none
noncomputable def sComp (x : DV) (tg : DG) (it : DI) (ifs : DT) (vs : List Nat) : DV := fun b e S => it b e S >>= fun r =>
      compL r.1.1 (fun d S => tg b d (wipeE e vs) S >>= fun p => ifs b p.1 p.2 >>= fun q => match q.1 with
        | true => sD x b p.1 q.2 >>= fun v => .ok (some v.1, v.2)
        | false => .ok (none, q.2)) r.1.2 r.2 >>= fun q => .ok (.fr q.1, q.2)
/-! dicts: their keys are whole numbers or texts -/
def isK : D → Bool
  | .int _ => true
  | .str _ => true
  | _ => false
def dctO (x : D) (S : Sto) : Option (List (D × D)) :=
  match x with
  | .loc l => match S[l]? with
    | some (.dct _ kvs) => some kvs
    | _ => none
  | _ => none
def getK (kvs : List (D × D)) (k : D) : Option D := (kvs.find? fun p => eqF p.1 k).map (·.2)
def putK (kvs : List (D × D)) (k v : D) : List (D × D) := if kvs.any (fun p => eqF p.1 k) then kvs.map (fun p => if eqF p.1 k then (p.1, v) else p) else kvs ++ [(k, v)]
open Classical in
noncomputable def setK (b : Nat) (o k x : D) (S : Sto) : Rs Sto :=
  match o with
  | .loc l => match S[l]? with
    | some (.dct t kvs) => if isK k = true ∧ kvs.length < line ∧ wr b l x then .ok (S.set l (.dct t (putK kvs k x))) else .bad
    | _ => .bad
  | _ => .bad
def sDnew (t : Bool) : DV := fun _ _ S => if t then .bad else .ok (.d (.loc S.length), S ++ [.dct false []])
def sDget (f g : DV) : DV := fun b e S => sD f b e S >>= fun r => sD g b e r.2 >>= fun q => Rs.ofO (if isK q.1 then (dctO r.1 q.2).bind fun kvs => getK kvs q.1 else none) >>= fun v => .ok (.d v, q.2)
def sDin (neg : Bool) (g f : DV) : DV := fun b e S => sD g b e S >>= fun r => sD f b e r.2 >>= fun q => Rs.ofO (if isK r.1 then (dctO q.1 q.2).map fun kvs => (getK kvs r.1).isSome else none) >>= fun k => .ok (.d (.bl (if neg then !k else k)), q.2)
def sDlen (f : DV) : DV := fun b e S => sD f b e S >>= fun r => Rs.ofO (dctO r.1 r.2) >>= fun kvs => .ok (.d (.int kvs.length), r.2)
def sDgt (f g h : DV) : DV := fun b e S => sD f b e S >>= fun r => Rs.ofO (dctO r.1 r.2) >>= fun _ => sD g b e r.2 >>= fun q => sD h b e q.2 >>= fun p => Rs.ofO (if isK q.1 then (dctO r.1 p.2).map fun kvs => (getK kvs q.1).getD p.1 else none) >>= fun v => .ok (.d v, p.2)
/-- the loop of a dict's comprehension -/
noncomputable def dcL (c : Chk) (f : D → Sto → Rs Sto) : List D → Sto → Rs Sto
  | [], S => open Classical in if c.ok S then .ok S else .bad
  | x :: xs, S => open Classical in if c.ok S then f x S >>= fun S => dcL c f xs S else .bad
/-- one turn of it -/
noncomputable def turnD (k x : DV) (t : DG) (u : DT) (e0 : Env) (b l : Nat) (d : D) (S : Sto) : Rs Sto := t b d e0 S >>= fun p => u b p.1 p.2 >>= fun q => match q.1 with
  | true => sD k b p.1 q.2 >>= fun w => sD x b p.1 w.2 >>= fun v => setK b (.loc l) w.1 v.1 v.2
  | false => .ok q.2
noncomputable def sDcmp (k x : DV) (t : DG) (it : DI) (u : DT) (vs : List Nat) : DV := fun b e S => it b e S >>= fun r => dcL r.1.1 (turnD k x t u (wipeE e vs) b r.2.length) r.1.2 (r.2 ++ [.dct false []]) >>= fun S' => .ok (.d (.loc r.2.length), S')
def sBad : DV := fun _ _ _ => .bad
def tAnd (f g : DT) : DT := fun b e S => f b e S >>= fun r => match r.1 with
    | true => g b e r.2
    | false => .ok (false, r.2)
def tOr (f g : DT) : DT := fun b e S => f b e S >>= fun r => match r.1 with
    | true => .ok (true, r.2)
    | false => g b e r.2
def tNot (f : DT) : DT := fun b e S => f b e S >>= fun r => .ok (!r.1, r.2)
def tYes : DT := fun _ _ S => .ok (true, S)
def lNil : DL := fun _ _ S => .ok ([], S)
def lCons (f : DV) (l : DL) : DL := fun b e S => sD f b e S >>= fun r => l b e r.2 >>= fun q => .ok (r.1 :: q.1, q.2)
def oNone : DO := fun _ _ S => .ok (none, S)
def oSome (f : DV) : DO := fun b e S => sD f b e S >>= fun r => Rs.ofO (intO r.1) >>= fun i => .ok (some i, r.2)
def iE (f : DV) : DI := fun b e S => f b e S >>= fun r => Rs.ofO (items r.1 r.2) >>= fun xs => .ok ((chkOf r.1 r.2, xs), r.2)
def iEnum (f : DV) : DI := fun b e S => f b e S >>= fun r => Rs.ofO (items r.1 r.2) >>= fun xs => .ok ((chkOf r.1 r.2, enumD xs), r.2)
def iRev (f : DV) : DI := fun b e S => f b e S >>= fun r => Rs.ofO (items r.1 r.2) >>= fun xs => .ok ((chkOf r.1 r.2, xs.reverse), r.2)
def iZip (f g : DV) : DI := fun b e S => f b e S >>= fun r => g b e r.2 >>= fun q => Rs.ofO (items r.1 q.2) >>= fun xs => Rs.ofO (items q.1 q.2) >>= fun ys => if (!(tupO q.1).isSome || (tupO r.1).isSome) = true then .ok ((chkOf r.1 q.2 ++ chkOf q.1 q.2, zipD xs ys), q.2) else .bad
def iRng (lo : DO) (hi : DV) : DI := fun b e S => sEnds lo hi b e S >>= fun r => if (r.1.2 - r.1.1).toNat ≤ line then .ok (([], rngD r.1.1 r.1.2), r.2) else .bad
def gVar (i : Nat) : DG := fun _ x e S => .ok (e.set i (some x), S)
def gTup (g : DGs) : DG := fun b x e S => match x with
    | .tup xs => g b xs e S
    | _ => .bad
noncomputable def gSub (o i : DV) : DG := fun b x e S => sD o b e S >>= fun r => sD i b e r.2 >>= fun q => setI b r.1 q.1 x q.2 >>= fun S => .ok (e, S)
def gNil : DGs := fun _ xs e S => match xs with
    | [] => .ok (e, S)
    | _ => .bad
def gCons (t : DG) (ts : DGs) : DGs := fun b xs e S => match xs with
    | [] => .bad
    | x :: xs => t b x e S >>= fun r => ts b xs r.1 r.2

structure Se where
  v : DV
  t : DT
mutual
noncomputable def evE (rc : Rc) : E → Se
  | .var i => ⟨sVar i, sT (sVar i)⟩
  | .cn c => ⟨sCn c, sT (sCn c)⟩
  | .neg a => ⟨sNeg (evE rc a).v, sT (sNeg (evE rc a).v)⟩
  | .not a => ⟨sNot (evE rc a).v, tNot (evE rc a).t⟩
  | .bin o x y => ⟨sBin o (evE rc x).v (evE rc y).v, sT (sBin o (evE rc x).v (evE rc y).v)⟩
  | .cmp o x y => ⟨sCmp o (evE rc x).v (evE rc y).v, sT (sCmp o (evE rc x).v (evE rc y).v)⟩
  | .and x y => ⟨sAnd (evE rc x).v (evE rc y).v, tAnd (evE rc x).t (evE rc y).t⟩
  | .or x y => ⟨sOr (evE rc x).v (evE rc y).v, tOr (evE rc x).t (evE rc y).t⟩
  | .ite c x y => ⟨sIte (evE rc c).t (evE rc x).v (evE rc y).v, fun _ _ _ => .bad⟩
  | .tup es => ⟨sTup (evEs rc es).1, sT (sTup (evEs rc es).1)⟩
  | .lst es => ⟨sLst (evEs rc es).1, sT (sLst (evEs rc es).1)⟩
  | .idx x i => ⟨sIdx (evE rc x).v (evE rc i).v, sT (sIdx (evE rc x).v (evE rc i).v)⟩
  | .sl x lo hi => ⟨sSl (evE rc x).v (evO rc lo) (evO rc hi), sT (sSl (evE rc x).v (evO rc lo) (evO rc hi))⟩
  | .rev x => ⟨sRev (evE rc x).v, sT (sRev (evE rc x).v)⟩
  | .call f es ks perm => ⟨sCall rc f (evEs rc es).1 (evEs rc ks).1 perm, sT (sCall rc f (evEs rc es).1 (evEs rc ks).1 perm)⟩
  | .f1 f x => ⟨sF1 f (evE rc x).v, sT (sF1 f (evE rc x).v)⟩
  | .f2 f x y => ⟨sF2 f (evE rc x).v (evE rc y).v, sT (sF2 f (evE rc x).v (evE rc y).v)⟩
  | .isi x t => ⟨sIsi (evE rc x).v t, sT (sIsi (evE rc x).v t)⟩
  | .mkr t lo hi => ⟨sMkr t (evO rc lo) (evE rc hi).v, sT (sMkr t (evO rc lo) (evE rc hi).v)⟩
  | .m0 m o => ⟨sM0 m (evE rc o).v, sT (sM0 m (evE rc o).v)⟩
  | .m1 m o x => ⟨sM1 m (evE rc o).v (evE rc x).v, sT (sM1 m (evE rc o).v (evE rc x).v)⟩
  | .m2 m o x y => ⟨sM2 m (evE rc o).v (evE rc x).v (evE rc y).v, sT (sM2 m (evE rc o).v (evE rc x).v (evE rc y).v)⟩
  | .chn o p x y z => ⟨sChn o p (evE rc x).v (evE rc y).v (evE rc z).v, sT (sChn o p (evE rc x).v (evE rc y).v (evE rc z).v)⟩
  | .dcmp k x tg it ifs vs => ⟨sDcmp (evE rc k).v (evE rc x).v (evTg rc tg) (evIt rc it) (evEs rc ifs).2 vs, sT (sDcmp (evE rc k).v (evE rc x).v (evTg rc tg) (evIt rc it) (evEs rc ifs).2 vs)⟩
  | .comp x tg it ifs vs => ⟨sComp (evE rc x).v (evTg rc tg) (evIt rc it) (evEs rc ifs).2 vs, sT (sComp (evE rc x).v (evTg rc tg) (evIt rc it) (evEs rc ifs).2 vs)⟩
  | .dnew t => ⟨sDnew t, sT (sDnew t)⟩
  | .dget o i => ⟨sDget (evE rc o).v (evE rc i).v, sT (sDget (evE rc o).v (evE rc i).v)⟩
  | .din neg i o => ⟨sDin neg (evE rc i).v (evE rc o).v, sT (sDin neg (evE rc i).v (evE rc o).v)⟩
  | .dlen o => ⟨sDlen (evE rc o).v, sT (sDlen (evE rc o).v)⟩
  | .dgt o k x => ⟨sDgt (evE rc o).v (evE rc k).v (evE rc x).v, sT (sDgt (evE rc o).v (evE rc k).v (evE rc x).v)⟩
noncomputable def evEs (rc : Rc) : Es → DL × DT
  | .nil => (lNil, tYes)
  | .cons x es => (lCons (evE rc x).v (evEs rc es).1, tAnd (evE rc x).t (evEs rc es).2)
noncomputable def evO (rc : Rc) : Oe → DO
  | .none => oNone
  | .some x => oSome (evE rc x).v
noncomputable def evIt (rc : Rc) : It → DI
  | .e x => iE (evE rc x).v
  | .enum x => iEnum (evE rc x).v
  | .rev x => iRev (evE rc x).v
  | .zip x y => iZip (evE rc x).v (evE rc y).v
  | .rng lo hi => iRng (evO rc lo) (evE rc hi).v
noncomputable def evTg (rc : Rc) : Tg → DG
  | .var i => gVar i
  | .tup ts => gTup (evTgs rc ts)
  | .sub o i => gSub (evE rc o).v (evE rc i).v
noncomputable def evTgs (rc : Rc) : Tgs → DGs
  | .nil => gNil
  | .cons t ts => gCons (evTg rc t) (evTgs rc ts)
end

abbrev DF := Nat → Env → Sto → Rs (Fl × Env × Sto)
def envGet (e : Env) (i : Nat) : Rs D := match e[i]? with
  | some (some x) => .ok x
  | _ => .bad
def setAll : List Nat → List D → Env → Env
  | i :: is, x :: xs, e => setAll is xs (e.set i (some x))
  | _, _, e => e
/-- an item of a list, its index not below nought -/
def idxL (o i : D) (S : Sto) : Option D :=
  match o, i with
  | .loc l, .int k => match S[l]? with
    | some (.lst xs) => if 0 ≤ k then xs[k.toNat]? else none
    | _ => none
  | _, _ => none
def augI (o : Bo) (y x : D) : Option D :=
  match y, x with
  | .int k, .int j => (binI o k j).map .int
  | _, _ => none
def cExpr (f : DV) : DF := fun b e S => f b e S >>= fun r => .ok (.nx, e, r.2)
def cAsg (t : DG) (f : DV) : DF := fun b e S => sD f b e S >>= fun r => t b r.1 e r.2 >>= fun q => .ok (.nx, q)
def cAug (i : Nat) (o : Bo) (f : DV) : DF := fun b e S => envGet e i >>= fun y => sD f b e S >>= fun r => Rs.ofO (augI o y r.1) >>= fun n => .ok (.nx, e.set i (some n), r.2)
noncomputable def cAugs (o i : DV) (op : Bo) (f : DV) : DF := fun b e S => sD o b e S >>= fun p => sD i b e p.2 >>= fun q => Rs.ofO (idxL p.1 q.1 q.2) >>= fun y => sD f b e q.2 >>= fun r =>
    Rs.ofO (augI op y r.1) >>= fun n => setI b p.1 q.1 n r.2 >>= fun S => .ok (.nx, e, S)
def cSwap (ts : List Nat) (l : DL) : DF := fun b e S => l b e S >>= fun r => if r.1.length = ts.length then .ok (.nx, setAll ts r.1 e, r.2) else .bad
def cIte (c : DT) (x y : DF) : DF := fun b e S => c b e S >>= fun r => match r.1 with
    | true => x b e r.2
    | false => y b e r.2
noncomputable def cFor (t : DG) (it : DI) (body : DF) : DF := fun b e S => it b e S >>= fun r => forL r.1.1 (fun d e S => t b d e S >>= fun p => body b p.1 p.2) r.1.2 e r.2
def cWhile (c : DT) (body : DF) : DF := fun b e S => whileL (c b) (body b) big e S
def cRet (f : DV) : DF := fun b e S => f b e S >>= fun r => .ok (.rt r.1, e, r.2)
def cFl (f : Fl) : DF := fun _ e S => .ok (f, e, S)
noncomputable def cDput (o k f : DV) : DF := fun b e S => sD f b e S >>= fun p => sD o b e p.2 >>= fun r => sD k b e r.2 >>= fun q => setK b r.1 q.1 p.1 q.2 >>= fun S => .ok (.nx, e, S)
def cSeq (x y : DF) : DF := fun b e S => x b e S >>= fun q => match q.1 with
    | .nx => y b q.2.1 q.2.2
    | f => .ok (f, q.2)
mutual
noncomputable def evS (rc : Rc) : St → DF
  | .expr x => cExpr (evE rc x).v
  | .asg t x => cAsg (evTg rc t) (evE rc x).v
  | .aug i o x => cAug i o (evE rc x).v
  | .augs o i op x => cAugs (evE rc o).v (evE rc i).v op (evE rc x).v
  | .swap ts es => cSwap ts (evEs rc es).1
  | .ite c x y => cIte (evE rc c).t (evSs rc x) (evSs rc y)
  | .for t it body => cFor (evTg rc t) (evIt rc it) (evSs rc body)
  | .while c body => cWhile (evE rc c).t (evSs rc body)
  | .ret x => cRet (evE rc x).v
  | .retn => cFl (.rt (.d .non))
  | .brk => cFl .br
  | .cont => cFl .ct
  | .pass => cFl .nx
  | .dput o k x => cDput (evE rc o).v (evE rc k).v (evE rc x).v
noncomputable def evSs (rc : Rc) : Ss → DF
  | .nil => cFl .nx
  | .cons s r => cSeq (evS rc s) (evSs rc r)
end
/-- a def: its name, parameters, names by slot, body -/
structure Df where
  name : Str
  np : Nat
  nv : Nat
  body : Ss
def env0 (nv : Nat) (ds : List D) : Env := ds.map some ++ List.replicate (nv - ds.length) none
def flV : Fl → Option Vl
  | .nx => some (.d .non)
  | .rt v => some v
  | _ => none
noncomputable def callN (T : Nat → Option Df) : Nat → Rc
  | 0 => fun _ _ _ => .bad
  | n + 1 => fun f ds S => match T f with
    | none => .bad
    | some d => if ds.length = d.np then evSs (callN T n) d.body S.length (env0 d.nv ds) S >>= fun r => Rs.ofO (flV r.1) >>= fun v => .ok (leave S.length v r.2.2)
      else .bad
end Pv
set_option linter.all false
set_option autoImplicit false
set_option maxRecDepth 100000
/-! The evaluator's values and the machine's: relations. -/
namespace Pv
open PySem PySem.Spec PyProof.Rows
open L2 (V Hp HO upd upd_same upd_ne VK XK TE TT TA TS TG TGs TI It Cx PE PT PW PA PS PSs PG PGs PI Inv RelV SqL SqT)

/-- tuples and locked objects are kept -/
structure Tk (H H' : Hp) : Prop where
  tup : ∀ a vs, H a = some (.tup vs) → H' a = some (.tup vs)
  frz : ∀ a o u, H a = some (.frz o u) → H' a = some (.frz o u)
theorem Tk.refl (H : Hp) : Tk H H := ⟨fun _ _ h => h, fun _ _ _ h => h⟩
theorem Tk.trans {H H1 H2 : Hp} (a : Tk H H1) (b : Tk H1 H2) : Tk H H2 := ⟨fun p vs h => b.tup p vs (a.tup p vs h), fun p o u h => b.frz p o u (a.frz p o u h)⟩
theorem Tk.upd {H : Hp} {p : Addr} {o : HO} (h1 : ∀ vs, H p ≠ some (.tup vs)) (h2 : ∀ o u, H p ≠ some (.frz o u)) : Tk H (upd H p o) := by
  refine ⟨fun a vs h => ?_, fun a o u h => ?_⟩
  · rw [upd_ne (show a ≠ p from fun e => h1 vs (by rw [← e]; exact h))]; exact h
  · rw [upd_ne (show a ≠ p from fun e => h2 o u (by rw [← e]; exact h))]; exact h
/-- the script: locked, or of the written part -/
def Scr (K : PySem.W.Frag) (H : Hp) (a : Addr) (vs : List V) : Prop := (∃ o, H a = some (.frz o (.lst vs))) ∨ SqL K (fun _ => none) a vs
theorem Scr.sq {K : PySem.W.Frag} {H : Hp} {a : Addr} {vs : List V} (h : Scr K H a vs) : SqL K H a vs := by
  rcases h with ⟨o, h⟩ | (h | ⟨o, h⟩) | h
  · exact .inl (.inr ⟨o, h⟩)
  · cases h
  · cases h
  · exact .inr h
theorem Scr.keep {K : PySem.W.Frag} {H H' : Hp} (t : Tk H H') {a : Addr} {vs : List V} (h : Scr K H a vs) : Scr K H' a vs := by
  rcases h with ⟨o, h⟩ | h
  · exact .inl ⟨o, t.frz _ _ _ h⟩
  · exact .inr h
mutual
def RD (K : PySem.W.Frag) (H : Hp) (m : List Addr) : D → V → Prop
  | .non, v => v = .non
  | .bl b, v => v = .bl b
  | .int i, v => v = .int i
  | .str x, v => v = .str x
  | .loc l, v => ∃ a, m[l]? = some a ∧ v = .ref a
  | .tup xs, v => ∃ a vs, v = .ref a ∧ H a = some (.tup vs) ∧ RDs K H m xs vs
  | .scr ns, v => ∃ a, v = .ref a ∧ Scr K H a (ns.map V.int)
def RDs (K : PySem.W.Frag) (H : Hp) (m : List Addr) : List D → List V → Prop
  | [], vs => vs = []
  | x :: xs, vs => ∃ v ws, vs = v :: ws ∧ RD K H m x v ∧ RDs K H m xs ws
end
def kD : L2.Key → D
  | .inl i => .int i
  | .inr s => .str s
def RO (K : PySem.W.Frag) (H : Hp) (m : List Addr) (a : Addr) : O → Prop
  | .lst xs => ∃ vs, H a = some (.lst vs) ∧ RDs K H m xs vs
  | .dct t kvs => t = false ∧ ∃ ks : List (L2.Key × V), H a = some (.dK ks) ∧ kvs.map (·.1) = ks.map (fun p => kD p.1) ∧ RDs K H m (kvs.map (·.2)) (ks.map (·.2))
/-- the store is held by the abstract heap -/
structure Rl (K : PySem.W.Frag) (m : List Addr) (H : Hp) (S : Sto) : Prop where
  len : m.length = S.length
  nd : m.Nodup
  at_ : ∀ (l : Nat) (a : Addr) (o : O), m[l]? = some a → S[l]? = some o → RO K H m a o
def RE (K : PySem.W.Frag) (H : Hp) (m : List Addr) (e : Env) (σ : L2.St) : Prop := e.length = σ.length ∧ ∀ (i : Nat) (x : D), e[i]? = some (some x) → ∃ v, σ[i]? = some (some v) ∧ RD K H m x v
/-- what came since: objects beside the store's are kept, the store's new places are new objects -/
structure Le (H : Hp) (m : List Addr) (H' : Hp) (m' : List Addr) : Prop where
  pre : m <+: m'
  tk : Tk H H'
  rest : ∀ p o, H p = some o → p ∉ m → H' p = some o
  fresh : ∀ p, p ∈ m' → p ∉ m → H p = none
theorem Le.refl (H : Hp) (m : List Addr) : Le H m H m := ⟨List.prefix_refl m, Tk.refl H, fun _ _ h _ => h, fun _ h n => (n h).elim⟩
theorem Le.out {H H' : Hp} {m m' : List Addr} (a : Le H m H' m') {p : Addr} {o : HO} (h : H p = some o) (n : p ∉ m) : p ∉ m' := fun z => by
  have := a.fresh p z n; rw [h] at this; cases this
theorem Le.back {H H' : Hp} {m m' : List Addr} (a : Le H m H' m') {p : Addr} (h : H' p = none) (n : p ∉ m) : H p = none := by
  cases e : H p with
  | none => rfl
  | some o => have := a.rest p o e n; rw [h] at this; cases this
theorem Le.trans {H H1 H2 : Hp} {m m1 m2 : List Addr} (a : Le H m H1 m1) (b : Le H1 m1 H2 m2) : Le H m H2 m2 :=
  ⟨a.pre.trans b.pre, a.tk.trans b.tk, fun p o h n => b.rest p o (a.rest p o h n) (a.out h n), fun p h n => by
    by_cases h1 : p ∈ m1
    · exact a.fresh p h1 n
    · exact a.back (b.fresh p h h1) n⟩
theorem pre_get {m m' : List Addr} (a : m <+: m') {l : Nat} {p : Addr} (h : m[l]? = some p) : m'[l]? = some p := by
  obtain ⟨t, rfl⟩ := a
  have hl : l < m.length := (List.getElem?_eq_some_iff.mp h).1
  rw [List.getElem?_append_left hl]; exact h
mutual
theorem RD.mono' {K : PySem.W.Frag} {H H' : Hp} {m m' : List Addr} (hp : m <+: m') (ht : Tk H H') : ∀ {x : D} {v : V}, RD K H m x v → RD K H' m' x v
  | .non, _, h => h
  | .bl _, _, h => h
  | .int _, _, h => h
  | .str _, _, h => h
  | .loc l, v, h => by
    obtain ⟨a, ha, hv⟩ := (h : ∃ a, m[l]? = some a ∧ v = .ref a)
    exact ⟨a, pre_get hp ha, hv⟩
  | .scr ns, v, h => by
    obtain ⟨a, hv, ha⟩ := (h : ∃ a, v = .ref a ∧ Scr K H a (ns.map V.int))
    exact ⟨a, hv, ha.keep ht⟩
  | .tup xs, v, h => by
    obtain ⟨a, vs, hv, ha, hr⟩ := (h : ∃ a vs, v = .ref a ∧ H a = some (.tup vs) ∧ RDs K H m xs vs)
    exact ⟨a, vs, hv, ht.tup a vs ha, RDs.mono' hp ht hr⟩
theorem RDs.mono' {K : PySem.W.Frag} {H H' : Hp} {m m' : List Addr} (hp : m <+: m') (ht : Tk H H') : ∀ {xs : List D} {vs : List V}, RDs K H m xs vs → RDs K H' m' xs vs
  | [], _, h => h
  | x :: xs, vs, h => by
    obtain ⟨v, ws, hv, h1, h2⟩ := (h : ∃ v ws, vs = v :: ws ∧ RD K H m x v ∧ RDs K H m xs ws)
    exact ⟨v, ws, hv, RD.mono' hp ht h1, RDs.mono' hp ht h2⟩
end
theorem RD.mono {K : PySem.W.Frag} {H H' : Hp} {m m' : List Addr} (z : Le H m H' m') {x : D} {v : V} (h : RD K H m x v) : RD K H' m' x v := h.mono' z.pre z.tk
theorem RDs.mono {K : PySem.W.Frag} {H H' : Hp} {m m' : List Addr} (z : Le H m H' m') {x : List D} {v : List V} (h : RDs K H m x v) : RDs K H' m' x v := h.mono' z.pre z.tk
theorem RD.pre {K : PySem.W.Frag} {H : Hp} {m m' : List Addr} (z : m <+: m') {x : D} {v : V} (h : RD K H m x v) : RD K H m' x v := h.mono' z (Tk.refl H)
theorem RDs.pre {K : PySem.W.Frag} {H : Hp} {m m' : List Addr} (z : m <+: m') {x : List D} {v : List V} (h : RDs K H m x v) : RDs K H m' x v := h.mono' z (Tk.refl H)
/-! the two relations lean on tuples and on the places of the store alone -/
mutual
theorem RD.via {K : PySem.W.Frag} {H H' : Hp} {m m' : List Addr} (ht : Tk H H') : ∀ {n : Nat} {x : D} {v : V}, (∀ l a, l < n → m[l]? = some a → m'[l]? = some a) → x.ub n = true → RD K H m x v → RD K H' m' x v
  | _, .non, _, _, _, h => h
  | _, .bl _, _, _, _, h => h
  | _, .int _, _, _, _, h => h
  | _, .str _, _, _, _, h => h
  | n, .loc l, v, hm, hu, h => by
    obtain ⟨a, ha, hv⟩ := (h : ∃ a, m[l]? = some a ∧ v = .ref a)
    exact ⟨a, hm l a (by simpa [D.ub] using hu) ha, hv⟩
  | n, .scr ns, v, hm, hu, h => by
    obtain ⟨a, hv, ha⟩ := (h : ∃ a, v = .ref a ∧ Scr K H a (ns.map V.int))
    exact ⟨a, hv, ha.keep ht⟩
  | n, .tup xs, v, hm, hu, h => by
    obtain ⟨a, vs, hv, ha, hr⟩ := (h : ∃ a vs, v = .ref a ∧ H a = some (.tup vs) ∧ RDs K H m xs vs)
    exact ⟨a, vs, hv, ht.tup a vs ha, RDs.via ht hm (by simpa [D.ub] using hu) hr⟩
theorem RDs.via {K : PySem.W.Frag} {H H' : Hp} {m m' : List Addr} (ht : Tk H H') : ∀ {n : Nat} {xs : List D} {vs : List V}, (∀ l a, l < n → m[l]? = some a → m'[l]? = some a) → ubL n xs = true → RDs K H m xs vs → RDs K H' m' xs vs
  | _, [], _, _, _, h => h
  | n, x :: xs, vs, hm, hu, h => by
    obtain ⟨v, ws, hv, h1, h2⟩ := (h : ∃ v ws, vs = v :: ws ∧ RD K H m x v ∧ RDs K H m xs ws)
    have hu' : x.ub n = true ∧ ubL n xs = true := by simpa [ubL] using hu
    exact ⟨v, ws, hv, RD.via ht hm hu'.1 h1, RDs.via ht hm hu'.2 h2⟩
end
theorem RDs.length {K : PySem.W.Frag} {H : Hp} {m : List Addr} : ∀ {xs : List D} {vs : List V}, RDs K H m xs vs → xs.length = vs.length
  | [], vs, h => by rw [show vs = [] from h]; rfl
  | x :: xs, vs, h => by
    obtain ⟨v, ws, rfl, _, h2⟩ := (h : ∃ v ws, vs = v :: ws ∧ RD K H m x v ∧ RDs K H m xs ws)
    simp [RDs.length h2]
theorem RDs.get {K : PySem.W.Frag} {H : Hp} {m : List Addr} : ∀ {xs : List D} {vs : List V} {i : Nat} {x : D}, RDs K H m xs vs → xs[i]? = some x → ∃ v, vs[i]? = some v ∧ RD K H m x v
  | [], _, _, _, _, e => by simp at e
  | y :: xs, vs, i, x, h, e => by
    obtain ⟨v, ws, rfl, h1, h2⟩ := (h : ∃ v ws, vs = v :: ws ∧ RD K H m y v ∧ RDs K H m xs ws)
    cases i with
    | zero => simp at e; subst e; exact ⟨v, rfl, h1⟩
    | succ i => obtain ⟨u, e1, e2⟩ := RDs.get (i := i) h2 (by simpa using e); exact ⟨u, by simpa using e1, e2⟩
theorem RDs.of_get {K : PySem.W.Frag} {H : Hp} {m : List Addr} : ∀ {xs : List D} {vs : List V}, xs.length = vs.length → (∀ (i : Nat) (x : D) (v : V), xs[i]? = some x → vs[i]? = some v → RD K H m x v) → RDs K H m xs vs
  | [], vs, hl, _ => by cases vs with | nil => rfl | cons _ _ => simp at hl
  | x :: xs, vs, hl, h => by
    cases vs with
    | nil => simp at hl
    | cons v ws => exact ⟨v, ws, rfl, h 0 x v rfl rfl, RDs.of_get (by simpa using hl) fun i y u e1 e2 => h (i + 1) y u (by simpa using e1) (by simpa using e2)⟩
theorem RDs.append {K : PySem.W.Frag} {H : Hp} {m : List Addr} : ∀ {xs ys : List D} {vs ws : List V}, RDs K H m xs vs → RDs K H m ys ws → RDs K H m (xs ++ ys) (vs ++ ws)
  | [], _, vs, _, h, k => by rw [show vs = [] from h]; exact k
  | x :: xs, ys, vs, us, h, k => by
    obtain ⟨v, ws, rfl, h1, h2⟩ := (h : ∃ v ws, vs = v :: ws ∧ RD K H m x v ∧ RDs K H m xs ws)
    exact ⟨v, ws ++ us, rfl, h1, RDs.append h2 k⟩
theorem RDs.set {K : PySem.W.Frag} {H : Hp} {m : List Addr} {x : D} {v : V} (r : RD K H m x v) : ∀ {xs : List D} {vs : List V} (i : Nat), RDs K H m xs vs → RDs K H m (xs.set i x) (vs.set i v)
  | [], vs, i, h => by rw [show vs = [] from h]; exact (show RDs K H m [] ([].set i v) from by simp [RDs])
  | y :: xs, vs, i, h => by
    obtain ⟨u, ws, rfl, h1, h2⟩ := (h : ∃ v ws, vs = v :: ws ∧ RD K H m y v ∧ RDs K H m xs ws)
    cases i with
    | zero => exact ⟨v, ws, rfl, r, h2⟩
    | succ i => exact ⟨u, ws.set i v, rfl, h1, RDs.set r i h2⟩
theorem RDs.drop {K : PySem.W.Frag} {H : Hp} {m : List Addr} {xs : List D} {vs : List V} (h : RDs K H m xs vs) (n : Nat) : RDs K H m (xs.drop n) (vs.drop n) :=
  RDs.of_get (by simp [h.length]) fun i x v e1 e2 => by
    rw [List.getElem?_drop] at e1 e2
    obtain ⟨u, e3, r⟩ := h.get e1
    rw [e3] at e2; cases e2; exact r
theorem RDs.take {K : PySem.W.Frag} {H : Hp} {m : List Addr} {xs : List D} {vs : List V} (h : RDs K H m xs vs) (n : Nat) : RDs K H m (xs.take n) (vs.take n) :=
  RDs.of_get (by simp [h.length]) fun i x v e1 e2 => by
    rw [List.getElem?_take] at e1 e2
    split at e1
    · rename_i hi
      rw [if_pos hi] at e2
      obtain ⟨u, e3, r⟩ := h.get e1
      rw [e3] at e2; cases e2; exact r
    · cases e1
theorem RDs.reverse {K : PySem.W.Frag} {H : Hp} {m : List Addr} {xs : List D} {vs : List V} (h : RDs K H m xs vs) : RDs K H m xs.reverse vs.reverse :=
  RDs.of_get (by simp [h.length]) fun i x v e1 e2 => by
    have hi : i < xs.length := by have := (List.getElem?_eq_some_iff.mp e1).1; simpa using this
    rw [List.getElem?_reverse hi] at e1
    rw [List.getElem?_reverse (by rw [← h.length]; exact hi), ← h.length] at e2
    obtain ⟨u, e3, r⟩ := h.get e1
    rw [e3] at e2; cases e2; exact r
theorem RDs.eraseIdx {K : PySem.W.Frag} {H : Hp} {m : List Addr} : ∀ {xs : List D} {vs : List V} (i : Nat), RDs K H m xs vs → RDs K H m (xs.eraseIdx i) (vs.eraseIdx i)
  | [], vs, i, h => by rw [show vs = [] from h]; exact (show RDs K H m [] ([].eraseIdx i) from by simp [RDs])
  | y :: xs, vs, i, h => by
    obtain ⟨u, ws, rfl, h1, h2⟩ := (h : ∃ v ws, vs = v :: ws ∧ RD K H m y v ∧ RDs K H m xs ws)
    cases i with
    | zero => exact h2
    | succ i => exact ⟨u, ws.eraseIdx i, rfl, h1, RDs.eraseIdx i h2⟩
theorem RDs.dropLast {K : PySem.W.Frag} {H : Hp} {m : List Addr} {xs : List D} {vs : List V} (h : RDs K H m xs vs) : RDs K H m xs.dropLast vs.dropLast := by
  rw [List.dropLast_eq_take, List.dropLast_eq_take, ← h.length]; exact h.take _

/-- a value that may be a list that nobody else knows: it came behind H0 -/
def RV (K : PySem.W.Frag) (H0 H : Hp) (m : List Addr) : Vl → V → Prop
  | .d x, v => RD K H m x v
  | .fr xs, v => ∃ p vs, v = .ref p ∧ H p = some (.lst vs) ∧ p ∉ m ∧ H0 p = none ∧ RDs K H m xs vs
theorem RV.mono {K : PySem.W.Frag} {H0 H H' : Hp} {m m' : List Addr} (z : Le H m H' m') {r : Vl} {v : V} (h : RV K H0 H m r v) : RV K H0 H' m' r v := by
  cases r with
  | d x => exact RD.mono z h
  | fr xs =>
    obtain ⟨p, vs, hv, hp, hn, h0, hr⟩ := (h : ∃ p vs, v = .ref p ∧ H p = some (.lst vs) ∧ p ∉ m ∧ H0 p = none ∧ RDs K H m xs vs)
    exact ⟨p, vs, hv, z.rest p _ hp hn, z.out hp hn, h0, RDs.mono z hr⟩
theorem RV.from {K : PySem.W.Frag} {H00 H0 H : Hp} {m0 m00 m : List Addr} (z : Le H00 m00 H0 m0) (z2 : Le H0 m0 H m) {r : Vl} {v : V} (h : RV K H0 H m r v) : RV K H00 H m r v := by
  cases r with
  | d x => exact h
  | fr xs =>
    obtain ⟨p, vs, hv, hp, hn, h0, hr⟩ := (h : ∃ p vs, v = .ref p ∧ H p = some (.lst vs) ∧ p ∉ m ∧ H0 p = none ∧ RDs K H m xs vs)
    refine ⟨p, vs, hv, hp, hn, z.back h0 fun e => hn ?_, hr⟩
    exact (z.pre.trans z2.pre).subset e
theorem RE.mono {K : PySem.W.Frag} {H H' : Hp} {m m' : List Addr} (z : Le H m H' m') {e : Env} {σ : L2.St} (h : RE K H m e σ) : RE K H' m' e σ :=
  ⟨h.1, fun i x e => let ⟨v, e1, r⟩ := h.2 i x e; ⟨v, e1, RD.mono z r⟩⟩
theorem RE.set {K : PySem.W.Frag} {H : Hp} {m : List Addr} {e : Env} {σ : L2.St} (h : RE K H m e σ) {x : D} {v : V} (r : RD K H m x v) (i : Nat) : RE K H m (e.set i (some x)) (σ.set i (some v)) := by
  refine ⟨by simp [h.1], fun j y hj => ?_⟩
  by_cases hij : i = j
  · subst hij
    by_cases hl : i < e.length
    · rw [List.getElem?_set_self hl] at hj
      cases hj
      exact ⟨v, by rw [List.getElem?_set_self (by rw [← h.1]; exact hl)], r⟩
    · rw [List.getElem?_eq_none (by simp; omega)] at hj; cases hj
  · rw [List.getElem?_set_ne hij] at hj
    obtain ⟨u, e1, r1⟩ := h.2 j y hj
    exact ⟨u, by rw [List.getElem?_set_ne hij]; exact e1, r1⟩

section
variable {K : PySem.W.Frag} {m : List Addr} {H : Hp} {S : Sto}
/-- a new tuple (or another object that is not the store's) is laid -/
theorem Rl.laid (R : Rl K m H S) {p : Addr} {o : HO} (hp : H p = none) : Le H m (upd H p o) m ∧ Rl K m (upd H p o) S := by
  have ne : ∀ {b : Addr} {u : HO}, H b = some u → b ≠ p := fun h z => by rw [z, hp] at h; cases h
  have z : Le H m (upd H p o) m := ⟨List.prefix_refl m, Tk.upd (fun vs h => by rw [hp] at h; cases h) (fun _ _ h => by rw [hp] at h; cases h), fun q u h n => by rw [upd_ne (ne h)]; exact h, fun _ h n => (n h).elim⟩
  refine ⟨z, R.len, R.nd, fun l a u h1 h2 => ?_⟩
  have := R.at_ l a u h1 h2
  cases u with
  | lst xs => obtain ⟨vs, h, r⟩ := this; exact ⟨vs, by rw [upd_ne (ne h)]; exact h, RDs.mono z r⟩
  | dct _ _ => obtain ⟨ht, ks, h, hk, r⟩ := this; exact ⟨ht, ks, by rw [upd_ne (ne h)]; exact h, hk, RDs.mono z r⟩
theorem Rl.lst (R : Rl K m H S) {l : Nat} {a : Addr} {xs : List D} (h1 : m[l]? = some a) (h2 : S[l]? = some (.lst xs)) : ∃ vs, H a = some (.lst vs) ∧ RDs K H m xs vs := R.at_ l a _ h1 h2
/-- a new object is none of the store's -/
theorem Rl.new (R : Rl K m H S) {p : Addr} (hp : H p = none) : p ∉ m := fun hm => by
  obtain ⟨l, hl⟩ := List.getElem?_of_mem hm
  have hl' : l < S.length := by rw [← R.len]; exact (List.getElem?_eq_some_iff.mp hl).1
  have := R.at_ l p S[l] hl (List.getElem?_eq_getElem hl')
  cases e : S[l] with
  | lst ys => rw [e] at this; obtain ⟨us, h, _⟩ := this; rw [hp] at h; cases h
  | dct _ _ => rw [e] at this; obtain ⟨_, ks, h, _⟩ := this; rw [hp] at h; cases h
/-- a fresh list comes into the store -/
theorem Rl.push (R : Rl K m H S) {p : Addr} {vs : List V} {xs : List D} (hp : H p = some (.lst vs)) (hn : p ∉ m) (r : RDs K H m xs vs) : Rl K (m ++ [p]) H (S ++ [.lst xs]) := by
  have z : m <+: m ++ [p] := List.prefix_append _ _
  refine ⟨by simp [R.len], ?_, fun l a o h1 h2 => ?_⟩
  · rw [List.nodup_append]
    exact ⟨R.nd, by simp, fun a ha b hb => by simp at hb; subst hb; intro e; subst e; exact hn ha⟩
  · by_cases hl : l < m.length
    · rw [List.getElem?_append_left hl] at h1
      rw [List.getElem?_append_left (by rw [← R.len]; exact hl)] at h2
      have := R.at_ l a o h1 h2
      cases o with
      | lst ys => obtain ⟨ws, h, q⟩ := this; exact ⟨ws, h, q.pre z⟩
      | dct _ _ => obtain ⟨ht, ks, h, hk, q⟩ := this; exact ⟨ht, ks, h, hk, q.pre z⟩
    · have hl' : l < (m ++ [p]).length := (List.getElem?_eq_some_iff.mp h1).1
      have e : l = m.length := by simp at hl'; omega
      subst e
      simp at h1
      rw [R.len] at h2
      simp at h2
      subst h1; subst h2
      exact ⟨vs, hp, r.pre z⟩
theorem Le.push {H0 H : Hp} {m0 m : List Addr} (z : Le H0 m0 H m) {p : Addr} (h0 : H0 p = none) : Le H0 m0 H (m ++ [p]) :=
  ⟨z.pre.trans (List.prefix_append _ _), z.tk, z.rest, fun q h n => by
    rcases List.mem_append.mp h with h | h
    · exact z.fresh q h n
    · have e : q = p := by simpa using h
      subst e; exact h0⟩
/-- a value settled: a fresh list comes into the store -/
theorem settled {H0 : Hp} {m0 : List Addr} (z : Le H0 m0 H m) (R : Rl K m H S) {r : Vl} {v : V} (h : RV K H0 H m r v) : ∃ m', Le H0 m0 H m' ∧ m <+: m' ∧ Rl K m' H (settle r S).2 ∧ RD K H m' (settle r S).1 v := by
  cases r with
  | d x => exact ⟨m, z, List.prefix_refl m, R, h⟩
  | fr xs =>
    obtain ⟨p, vs, rfl, hp, hn, h0, hr⟩ := (h : ∃ p vs, v = .ref p ∧ H p = some (.lst vs) ∧ p ∉ m ∧ H0 p = none ∧ RDs K H m xs vs)
    exact ⟨m ++ [p], z.push h0, List.prefix_append _ _, R.push hp hn hr, ⟨p, by rw [← R.len]; simp, rfl⟩⟩
/-- a list's object is written -/
theorem Rl.write (R : Rl K m H S) {l : Nat} {a : Addr} {xs ys : List D} {vs ws : List V} (h1 : m[l]? = some a) (h2 : S[l]? = some (.lst xs)) (h3 : H a = some (.lst vs)) (r : RDs K H m ys ws) :
    Le H m (upd H a (.lst ws)) m ∧ Rl K m (upd H a (.lst ws)) (S.set l (.lst ys)) := by
  have ht : Tk H (upd H a (.lst ws)) := Tk.upd (fun us h => by rw [h3] at h; cases h) (fun _ _ h => by rw [h3] at h; cases h)
  have ham : a ∈ m := List.mem_of_getElem? h1
  refine ⟨⟨List.prefix_refl m, ht, fun p o h n => by rw [upd_ne (fun e => n (by subst e; exact ham))]; exact h, fun _ h n => (n h).elim⟩, by simp [R.len], R.nd, fun k b o hk ho => ?_⟩
  by_cases e : k = l
  · subst e
    rw [h1] at hk; cases hk
    have hl : k < S.length := (List.getElem?_eq_some_iff.mp h2).1
    rw [List.getElem?_set_self hl] at ho
    cases ho
    exact ⟨ws, upd_same, r.mono' (List.prefix_refl m) ht⟩
  · rw [List.getElem?_set_ne (Ne.symm e)] at ho
    have nb : b ≠ a := fun q => by
      subst q
      obtain ⟨hk1, hk2⟩ := List.getElem?_eq_some_iff.mp hk
      obtain ⟨hl1, hl2⟩ := List.getElem?_eq_some_iff.mp h1
      exact e ((List.getElem_inj R.nd).mp (hk2.trans hl2.symm))
    have := R.at_ k b o hk ho
    cases o with
    | lst zs => obtain ⟨us, h, q⟩ := this; exact ⟨us, by rw [upd_ne nb]; exact h, q.mono' (List.prefix_refl m) ht⟩
    | dct _ _ => obtain ⟨hf, ks, h, hk, q⟩ := this; exact ⟨hf, ks, by rw [upd_ne nb]; exact h, hk, q.mono' (List.prefix_refl m) ht⟩
/-- a dict's object is written -/
theorem Rl.writeD (R : Rl K m H S) {l : Nat} {a : Addr} {t : Bool} {kvs kvs' : List (D × D)} {ks ks' : List (L2.Key × V)} (h1 : m[l]? = some a) (h2 : S[l]? = some (.dct t kvs)) (h3 : H a = some (.dK ks)) (hk : kvs'.map (·.1) = ks'.map (fun p => kD p.1)) (r : RDs K H m (kvs'.map (·.2)) (ks'.map (·.2))) :
    Le H m (upd H a (.dK ks')) m ∧ Rl K m (upd H a (.dK ks')) (S.set l (.dct t kvs')) := by
  have ht : Tk H (upd H a (.dK ks')) := Tk.upd (fun us h => by rw [h3] at h; cases h) (fun _ _ h => by rw [h3] at h; cases h)
  have ham : a ∈ m := List.mem_of_getElem? h1
  refine ⟨⟨List.prefix_refl m, ht, fun p o h n => by rw [upd_ne (fun e => n (by subst e; exact ham))]; exact h, fun _ h n => (n h).elim⟩, by simp [R.len], R.nd, fun k b o hk' ho => ?_⟩
  by_cases e : k = l
  · subst e
    rw [h1] at hk'; cases hk'
    have hl : k < S.length := (List.getElem?_eq_some_iff.mp h2).1
    rw [List.getElem?_set_self hl] at ho
    cases ho
    obtain ⟨hf, _⟩ := R.at_ k a _ h1 h2
    exact ⟨hf, ks', upd_same, hk, r.mono' (List.prefix_refl m) ht⟩
  · rw [List.getElem?_set_ne (Ne.symm e)] at ho
    have nb : b ≠ a := fun q => by
      subst q
      obtain ⟨hk1, hk2⟩ := List.getElem?_eq_some_iff.mp hk'
      obtain ⟨hl1, hl2⟩ := List.getElem?_eq_some_iff.mp h1
      exact e ((List.getElem_inj R.nd).mp (hk2.trans hl2.symm))
    have := R.at_ k b o hk' ho
    cases o with
    | lst zs => obtain ⟨us, h, q⟩ := this; exact ⟨us, by rw [upd_ne nb]; exact h, q.mono' (List.prefix_refl m) ht⟩
    | dct _ _ => obtain ⟨hf, ks, h, hk, q⟩ := this; exact ⟨hf, ks, by rw [upd_ne nb]; exact h, hk, q.mono' (List.prefix_refl m) ht⟩
/-- a new dict comes into the store -/
theorem Rl.pushD (R : Rl K m H S) {p : Addr} (hp : H p = some (.dK [])) (hn : p ∉ m) : Rl K (m ++ [p]) H (S ++ [.dct false []]) := by
  have z : m <+: m ++ [p] := List.prefix_append _ _
  refine ⟨by simp [R.len], ?_, fun l a o h1 h2 => ?_⟩
  · rw [List.nodup_append]
    exact ⟨R.nd, by simp, fun a ha b hb => by simp at hb; subst hb; intro e; subst e; exact hn ha⟩
  · by_cases hl : l < m.length
    · rw [List.getElem?_append_left hl] at h1
      rw [List.getElem?_append_left (by rw [← R.len]; exact hl)] at h2
      have := R.at_ l a o h1 h2
      cases o with
      | lst ys => obtain ⟨ws, h, q⟩ := this; exact ⟨ws, h, q.pre z⟩
      | dct _ _ => obtain ⟨ht, ks, h, hk, q⟩ := this; exact ⟨ht, ks, h, hk, q.pre z⟩
    · have hl' : l < (m ++ [p]).length := (List.getElem?_eq_some_iff.mp h1).1
      have e : l = m.length := by simp at hl'; omega
      subst e
      simp at h1
      rw [R.len] at h2
      simp at h2
      subst h1; subst h2
      exact ⟨rfl, [], hp, rfl, rfl⟩
end

/-! ### what a frame may not do: put its own objects into older ones -/
def O.ub (n : Nat) : O → Bool
  | .lst xs => ubL n xs
  | .dct _ kvs => kvs.all fun p => p.1.ub n && p.2.ub n
def WF (n : Nat) (S : Sto) : Prop := ∀ l o, l < n → S[l]? = some o → o.ub n = true
structure Kp (b : Nat) (S S' : Sto) : Prop where
  len : S.length ≤ S'.length
  wf : ∀ n, n ≤ b → WF n S → WF n S'
theorem Kp.refl (b : Nat) (S : Sto) : Kp b S S := ⟨Nat.le_refl _, fun _ _ h => h⟩
theorem Kp.trans {b : Nat} {S S1 S2 : Sto} (x : Kp b S S1) (y : Kp b S1 S2) : Kp b S S2 := ⟨Nat.le_trans x.len y.len, fun n h w => y.wf n h (x.wf n h w)⟩
theorem Kp.mono {b c : Nat} {S S' : Sto} (x : Kp b S S') (h : c ≤ b) : Kp c S S' := ⟨x.len, fun n h1 w => x.wf n (Nat.le_trans h1 h) w⟩
mutual
theorem pure_ub {n : Nat} : ∀ {x : D}, x.pure = true → x.ub n = true
  | .non, _ => rfl
  | .bl _, _ => rfl
  | .int _, _ => rfl
  | .str _, _ => rfl
  | .loc _, h => by simp [D.pure] at h
  | .scr _, _ => rfl
  | .tup xs, h => pureL_ub (xs := xs) h
theorem pureL_ub {n : Nat} : ∀ {xs : List D}, pureL xs = true → ubL n xs = true
  | [], _ => rfl
  | x :: xs, h => by
    have h' : x.pure = true ∧ pureL xs = true := by simpa [pureL] using h
    simp [ubL, pure_ub h'.1, pureL_ub h'.2]
end
theorem Kp.push (b : Nat) (S : Sto) (o : O) (h : b ≤ S.length) : Kp b S (S ++ [o]) := ⟨by simp, fun n hn w l u hl hu => by
  rw [List.getElem?_append_left (by omega)] at hu
  exact w l u hl hu⟩
theorem Kp.settle {b : Nat} {S : Sto} (r : Vl) (h : b ≤ S.length) : Kp b S (settle r S).2 := by
  cases r with
  | d x => exact Kp.refl b S
  | fr xs => exact Kp.push b S _ h
theorem Kp.set {b l : Nat} {S : Sto} {o : O} (h : (∀ n, n ≤ b → WF n S → l < n → o.ub n = true)) : Kp b S (S.set l o) := ⟨by simp, fun n hn w k u hk hu => by
  by_cases e : k = l
  · subst e
    by_cases hl : k < S.length
    · rw [List.getElem?_set_self hl] at hu; cases hu
      exact h n hn w hk
    · rw [List.getElem?_eq_none (by simp; omega)] at hu; cases hu
  · rw [List.getElem?_set_ne (Ne.symm e)] at hu
    exact w k u hk hu⟩
theorem ubL_append {n : Nat} : ∀ {xs ys : List D}, ubL n (xs ++ ys) = (ubL n xs && ubL n ys)
  | [], ys => by simp [ubL]
  | x :: xs, ys => by simp [ubL, ubL_append (xs := xs), Bool.and_assoc]
theorem ubL_mem {n : Nat} : ∀ {xs : List D}, ubL n xs = true ↔ ∀ x ∈ xs, x.ub n = true
  | [] => by simp [ubL]
  | x :: xs => by simp [ubL, ubL_mem (xs := xs)]
theorem pureL_mem : ∀ {xs : List D}, pureL xs = true ↔ ∀ x ∈ xs, x.pure = true
  | [] => by simp [pureL]
  | x :: xs => by simp [pureL, pureL_mem (xs := xs)]
end Pv
set_option linter.all false
set_option autoImplicit false
set_option maxRecDepth 100000
/-! What the evaluator tells, the machine does: expressions. -/
namespace Pv
open PySem PySem.Spec PyProof.Rows
open L2 (V Hp HO upd upd_same upd_ne VK XK TE TT TA TS TG TGs TI It Cx PE PT PW PA PS PSs PG PGs PI Inv RelV SqL SqT OpR)

/-- the frame's base lies within the store -/
def KV {α : Type} (f : Nat → Env → Sto → Rs (α × Sto)) : Prop := ∀ (b : Nat) (e : Env) (S : Sto) (r : α) (S' : Sto), b ≤ S.length → f b e S = .ok (r, S') → Kp b S S'

def tE (K : PySem.W.Frag) (f : DV) : TE := fun σ H Q => ∃ (b : Nat) (m : List Addr) (e : Env) (S : Sto) (r : Vl) (S' : Sto), b ≤ S.length ∧ Rl K m H S ∧ RE K H m e σ ∧ f b e S = .ok (r, S') ∧
  ∀ v H' m', Le H m H' m' → Rl K m' H' S' → RV K H H' m' r v → Q v H'
def tD (K : PySem.W.Frag) (f : DD) : TE := fun σ H Q => ∃ (b : Nat) (m : List Addr) (e : Env) (S : Sto) (r : D) (S' : Sto), b ≤ S.length ∧ Rl K m H S ∧ RE K H m e σ ∧ f b e S = .ok (r, S') ∧
  ∀ v H' m', Le H m H' m' → Rl K m' H' S' → RD K H' m' r v → Q v H'
def tT (K : PySem.W.Frag) (f : DT) : TT := fun σ H Q => ∃ (b : Nat) (m : List Addr) (e : Env) (S : Sto) (k : Bool) (S' : Sto), b ≤ S.length ∧ Rl K m H S ∧ RE K H m e σ ∧ f b e S = .ok (k, S') ∧
  ∀ H' m', Le H m H' m' → Rl K m' H' S' → Q k H'
def tL (K : PySem.W.Frag) (f : DL) : TA := fun σ H Q => ∃ (b : Nat) (m : List Addr) (e : Env) (S : Sto) (r : List D) (S' : Sto), b ≤ S.length ∧ Rl K m H S ∧ RE K H m e σ ∧ f b e S = .ok (r, S') ∧
  ∀ vs H' m', Le H m H' m' → Rl K m' H' S' → RDs K H' m' r vs → Q vs H'

section
variable {X : Cx} {a b c ex : Expr} {f g : DV} {pos : Pos}

theorem PE.impI {t t' : TE} (h : PE X ex t) (k : ∀ pins s σ H Q, Inv X pins σ H s → t' σ H Q → t σ H Q) : PE X ex t' := ⟨fun pins s σ H Q I q => h.run pins s σ H Q I (k pins s σ H Q I q)⟩
theorem PE.imp {t t' : TE} (h : PE X ex t) (k : ∀ σ H Q, t' σ H Q → t σ H Q) : PE X ex t' := PE.impI h fun _ _ σ H Q _ => k σ H Q
theorem PT.imp {t t' : TT} (h : PT X ex t) (k : ∀ σ H Q, t' σ H Q → t σ H Q) : PT X ex t' := ⟨fun pins s σ H Q I q => h.run pins s σ H Q I (k σ H Q q)⟩
theorem PW.imp {t t' : TT} (h : PW X ex t) (k : ∀ σ H Q, t' σ H Q → t σ H Q) : PW X ex t' := ⟨fun w pins s σ H Q I q => h.run w pins s σ H Q I (k σ H Q q)⟩
theorem PA.imp {es : List Expr} {t t' : TA} (h : PA X es t) (k : ∀ σ H Q, t' σ H Q → t σ H Q) : PA X es t' := ⟨fun p pins s σ H Q I q => h.run p pins s σ H Q I (k σ H Q q)⟩

theorem KV.sD {f : DV} (h : KV f) : KV (sD f) := fun b e S r S' hb he => by
  obtain ⟨q, h1, h2⟩ := bind_ok he
  have k := h b e S q.1 q.2 hb h1
  have e2 : (settle q.1 q.2) = (r, S') := by injection h2
  rw [show S' = (settle q.1 q.2).2 from by rw [e2]]
  exact k.trans (Kp.settle _ (Nat.le_trans hb k.len))
theorem so_D (h : PE X ex (tE X.K f)) : PE X ex (tD X.K (sD f)) := PE.imp h fun σ H Q ⟨b, m, e, S, r, S', hb, R, RE, he, q⟩ => by
  obtain ⟨p, h1, h2⟩ := bind_ok he
  refine ⟨b, m, e, S, p.1, p.2, hb, R, RE, h1, fun v H' m' z R' rv => ?_⟩
  obtain ⟨m2, z2, _, R2, r2⟩ := settled z R' rv
  have e2 : (settle p.1 p.2) = (r, S') := by injection h2
  rw [e2] at R2 r2
  exact q v H' m2 z2 R2 r2
/-- a value used as data -/
theorem so_d {f : DV} {g : DD} (h : PE X ex (tD X.K g)) : PE X ex (tE X.K fun b e S => g b e S >>= fun r => .ok (.d r.1, r.2)) := PE.imp h fun σ H Q ⟨b, m, e, S, r, S', hb, R, RE, he, q⟩ => by
  obtain ⟨p, h1, h2⟩ := bind_ok he
  cases h2
  exact ⟨b, m, e, S, p.1, p.2, hb, R, RE, h1, fun v H' m' z R' rv => q v H' m' z R' rv⟩

theorem so_var {i : Nat} {x : Str} (hN : X.N[i]? = some x) (hv : L2.Vis X.env.scope x) (hd : (x == ("__debug__" : Str)) = false) (hcd : (x == ("__classdict__" : Str)) = false) : PE X (.Name x pos) (tE X.K (sVar i)) :=
  PE.imp (L2.pe_var hN hv hd hcd) fun σ H Q ⟨b, m, e, S, r, S', hb, R, RE, he, q⟩ => by
    unfold sVar at he
    split at he
    · rename_i x hx
      cases he
      obtain ⟨v, hv, rv⟩ := RE.2 i x hx
      exact ⟨v, hv, q v H m (Le.refl H m) R rv⟩
    · cases he
theorem so_const {v : V} {c : D} (h : PE X ex (L2.tC v)) (r : ∀ H m, RD X.K H m c v) : PE X ex (tE X.K (sCn c)) := PE.imp h fun σ H Q ⟨b, m, e, S, r', S', hb, R, RE, he, q⟩ => by
  cases he
  exact q v H m (Le.refl H m) R (r H m)

/-- two values in turn -/
theorem two_of {K : PySem.W.Frag} {f g : DV} {b : Nat} {e : Env} {S S1 S2 : Sto} {r1 r2 : Vl} {H : Hp} {m : List Addr} {σ : L2.St} {P : V → V → Hp → Prop} (kf : KV f) (hb : b ≤ S.length) (R : Rl K m H S) (RE : RE K H m e σ) (h1 : f b e S = .ok (r1, S1)) (h2 : g b e S1 = .ok (r2, S2))
    (q : ∀ x y H' m', Le H m H' m' → Rl K m' H' S2 → RV K H H' m' r1 x → RV K H H' m' r2 y → P x y H') : tE K f σ H fun x H1 => tE K g σ H1 fun y H2 => P x y H2 :=
  ⟨b, m, e, S, r1, S1, hb, R, RE, h1, fun x H1 m1 z1 R1 rx => ⟨b, m1, e, S1, r2, S2, Nat.le_trans hb (kf b e S r1 S1 hb h1).len, R1, RE.mono z1, h2, fun y H2 m2 z2 R2 ry => q x y H2 m2 (z1.trans z2) R2 (rx.mono z2) (RV.from z1 z2 ry)⟩⟩

/-- what an operator asks -/
def rB (K : PySem.W.Frag) (o : Bo) : L2.R2 := fun x y H Q => ∃ (H0 : Hp) (m : List Addr) (S : Sto) (vx vy v : Vl), Rl K m H S ∧ RV K H0 H m vx x ∧ RV K H0 H m vy y ∧ binV o vx vy S = some v ∧
  ∀ z H' m', Le H m H' m' → Rl K m' H' S → RV K H H' m' v z → Q z H'
def opOf : Bo → Operator
  | .add => .Add | .sub => .Sub | .mul => .Mult | .fdiv => .FloorDiv | .mod => .Mod | .pow => .Pow | .shl => .LShift | .shr => .RShift | .band => .BitAnd | .bor => .BitOr
theorem items_sq {K : PySem.W.Frag} {m : List Addr} {H H0 : Hp} {S : Sto} {x : Vl} {v : V} {xs : List D} (R : Rl K m H S) (r : RV K H0 H m x v) (h : items x S = some xs) :
    ∃ p vs, v = .ref p ∧ RDs K H m xs vs ∧ ((H p = some (.tup vs) ∧ x = .d (.tup xs)) ∨ (SqL K H p vs ∧ (tupO x = none))) := by
  cases x with
  | fr ys =>
    cases h
    obtain ⟨p, vs, rfl, hp, _, _, r⟩ := (r : ∃ p vs, v = .ref p ∧ H p = some (.lst vs) ∧ p ∉ m ∧ H0 p = none ∧ RDs K H m xs vs)
    exact ⟨p, vs, rfl, r, .inr ⟨SqL.of hp, rfl⟩⟩
  | d x =>
    cases x with
    | tup ys =>
      cases h
      obtain ⟨p, vs, rfl, hp, r⟩ := (r : ∃ a vs, v = .ref a ∧ H a = some (.tup vs) ∧ RDs K H m xs vs)
      exact ⟨p, vs, rfl, r, .inl ⟨hp, rfl⟩⟩
    | scr ns =>
      cases h
      obtain ⟨p, rfl, hp⟩ := (r : ∃ a, v = .ref a ∧ Scr K H a (ns.map V.int))
      refine ⟨p, _, rfl, ?_, .inr ⟨hp.sq, rfl⟩⟩
      exact RDs.of_get (by simp) fun i x v e1 e2 => by
        rw [List.getElem?_map] at e1 e2
        cases q : ns[i]? with
        | none => rw [q] at e1; cases e1
        | some n => rw [q] at e1 e2; cases e1; cases e2; rfl
    | loc l =>
      obtain ⟨p, hp, rfl⟩ := (r : ∃ a, m[l]? = some a ∧ v = .ref a)
      have h' : (match S[l]? with | some (.lst xs) => some xs | _ => none) = some xs := h
      split at h'
      · rename_i ys hy
        cases h'
        obtain ⟨vs, h1, h2⟩ := R.lst hp hy
        exact ⟨p, vs, rfl, h2, .inr ⟨SqL.of h1, rfl⟩⟩
      · cases h'
    | _ => cases h
theorem RV.laid {K : PySem.W.Frag} {m : List Addr} {H : Hp} {S : Sto} {Q : VK} {xs : List D} {vs : List V} (R : Rl K m H S) (r : RDs K H m xs vs) (q : ∀ z H' m', Le H m H' m' → Rl K m' H' S → RV K H H' m' (.d (.tup xs)) z → Q z H') :
    ∀ p, H p = none → Q (.ref p) (upd H p (.tup vs)) := fun p hp => by
  obtain ⟨z, R'⟩ := R.laid (o := .tup vs) hp
  exact q _ _ m z R' ⟨p, vs, rfl, upd_same, r.mono z⟩
theorem RV.laidL {K : PySem.W.Frag} {m : List Addr} {H : Hp} {S : Sto} {Q : VK} {xs : List D} {vs : List V} (R : Rl K m H S) (r : RDs K H m xs vs) (q : ∀ z H' m', Le H m H' m' → Rl K m' H' S → RV K H H' m' (.fr xs) z → Q z H') :
    ∀ p, H p = none → Q (.ref p) (upd H p (.lst vs)) := fun p hp => by
  obtain ⟨z, R'⟩ := R.laid (o := .lst vs) hp
  exact q _ _ m z R' ⟨p, vs, rfl, upd_same, R.new hp, hp, r.mono z⟩
end
end Pv
set_option linter.all false
set_option autoImplicit false
set_option maxRecDepth 100000
set_option maxHeartbeats 4000000
/-! a tuple, once over: the very tuple -/
namespace Pv
open PySem PySem.Spec PyProof.Rows L2
theorem tup_onceW (l : Addr) (items : Array Value) (n : Nat) (dd : Option Addr) (sl : Array (Option Value)) (u : Tok) :
    Meets (Builtin.«tuple.__mul__» ⟨[.ref l, .int 1 u], []⟩) (fun _ R s => s.heap.get? l = some { cls := .type "tuple", dict := dd, data := .seq items n, slots := sl } ∧
      R (.ok (.ret (.ref l))) s) :=
  .of_wp fun prog w A R s h => by
    obtain ⟨hp, g, d, tk, os⟩ := s
    obtain ⟨hl, h⟩ := h
    have f1 := AutoSeq1.idx_int
    have c0 : (decide ((1 : Int) < -(2 ^ 63)) || decide ((1 : Int) ≥ 2 ^ 63)) = false := by decide
    have c1 : (items.isEmpty || (1 : Int) == 1) = true := by simp
    wp_walk using wpAny_loadPart' hl
    repeat (first
      | (refine wpAny_ite_false (decide_eq_false (by rw [c0]; exact Bool.false_ne_true)) ?_; wp_walk using wpAny_loadPart' hl)
      | (refine wpAny_ite_true (decide_eq_true c1) ?_; wp_walk using wpAny_loadPart' hl))
    exact ⟨_, rfl, h⟩
def rOnce (K : PySem.W.Frag) : R2 := fun x y H Q => ∃ l xs, x = .ref l ∧ y = .int 1 ∧ SqT K H l xs ∧ Q (.ref l) H
theorem op_once {X : Cx} : OpR X (binaryOp .Mult) (rOnce X.K) := by
  intro pins s σ H x y v u Q I rx ry h
  obtain ⟨l, xs, rfl, rfl, hT, q⟩ := h
  cases rx
  obtain ⟨t, rfl⟩ := ry
  obtain ⟨its, r, ⟨⟨cls, dd, data, sl⟩, ho, hc, n, hd⟩, hs⟩ := I.tuple hT
  simp only at hc hd
  subst hc hd
  exact wpAny_binaryOp_repeat_ref (T := "tuple") (U := "int") (by decide) ⟨_, ho, rfl⟩ (fun s' => typeIs_int s' 1 t) noFill_tuple_mul F.fills_int_mul F.slot_int_rmul repeat_tuple F.slot_int_index.lookup
    (call_meets F.slot_int_rmul (typeIs_int s 1 t) F.entry_int_rmul (F.args_int_rmul_2 _ _) (int_rmul_tuple 1 t l its.toArray n dd sl)
      ⟨ho, rfl, ⟨_, ho, rfl⟩, call_meets F.slot_tuple_mul ⟨_, ho, rfl⟩ F.entry_tuple_mul (F.args_tuple_mul_2 _ _) (tup_onceW l its.toArray n dd sl t) ⟨ho, ⟨.ref l, H, I, rfl, q⟩⟩⟩)
end Pv
set_option linter.all false
set_option autoImplicit false
set_option maxRecDepth 100000
set_option maxHeartbeats 4000000
/-! zip of a tuple and a list -/
namespace Pv
open PySem PySem.Spec PyProof.Rows L2
/-- the tuple at a, the list at b: pairs -/
def ItM (K : PySem.W.Frag) (a b : Addr) : L2.It where
  go := fun i H => ∃ (us vs : List V) (u v : V), SqT K H a us ∧ SqL K H b vs ∧ us[i]? = some u ∧ vs[i]? = some v
  yld := fun i H r H' => ∃ p u v, r = .ref p ∧ H p = none ∧ H' = upd H p (.tup [u, v]) ∧ (∀ us, SqT K H a us → us[i]? = some u) ∧ ∀ vs, SqL K H b vs → vs[i]? = some v
  stop := fun i H => ∃ us vs : List V, SqT K H a us ∧ SqL K H b vs ∧ i ≤ us.length ∧ i ≤ vs.length ∧ (i = us.length ∨ i = vs.length)
theorem sepM {z t o x y a b : Addr} (D : ZipApart z t o x y a b) : ZipSep2 z t o x y [x, a] [y, b] where
  TIz := D.TIz
  TOz := D.TOz
  TITO := D.TITO
  TIi1 := D.TIi1
  mem1 := by simp
  zf1 := by simp; exact ⟨fun e => D.i1z e.symm, fun e => D.l1z e.symm⟩
  Tf1 := by simp; exact ⟨D.TOi1, fun e => D.l1TO e.symm⟩
  TIi2 := D.TIi2
  mem2 := by simp
  zf2 := by simp; exact ⟨fun e => D.i2z e.symm, fun e => D.l2z e.symm⟩
  Tf2 := by simp; exact ⟨D.TOi2, fun e => D.l2TO e.symm⟩
  sep1_2 := by simp; exact ⟨D.i12, fun e => D.l2i1 e.symm⟩
  sep2_1 := by simp; exact ⟨fun e => D.i12 e.symm, fun e => D.l1i2 e.symm⟩
theorem five {α : Type} [DecidableEq α] {p : α → Prop} {a b c d e : α} (h1 : p a) (h2 : p b) (h3 : p c) (h4 : p d) (h5 : p e) : ∀ x ∈ [a, b, c, d, e], p x := by
  intro x hx
  simp only [List.mem_cons, List.mem_nil_iff, or_false] at hx
  rcases hx with rfl | rfl | rfl | rfl | rfl
  · exact h1
  · exact h2
  · exact h3
  · exact h4
  · exact h5
theorem turnM {P : Program} {w : World} {K : PySem.W.Frag} {elts : List Expr} {kk : Nat} {tpos : Pos} {a b z t o x y : Addr} (D : ZipApart z t o x y a b) :
    Turn P w K (.Tuple elts kk tpos) (ItM K a b) [z, t, o, x, y] z (fun i h => IsZip h z t o .none ∧ IsTupOf2 h t (.ref x) (.ref y) ∧ (∃ p q, IsTupOf2 h o p q) ∧ h.IsTupleIter x a i ∧ h.IsListIter y b i) where
  mem := by simp
  obj := fun i h ⟨e1, e2, ⟨p, q, e3⟩, ⟨o4, e4, _, d4⟩, ⟨o5, e5, _, d5⟩⟩ =>
    five ⟨_, e1, fun _ k => nomatch k⟩ ⟨_, e2, fun _ k => nomatch k⟩ ⟨_, e3, fun _ k => nomatch k⟩ ⟨o4, e4, fun _ k => by rw [d4] at k; cases k⟩ ⟨o5, e5, fun _ k => by rw [d5] at k; cases k⟩
  keep := fun i h h' ⟨e1, e2, ⟨p, q, e3⟩, e4, e5⟩ k =>
    ⟨k z (by simp) _ e1, k t (by simp) _ e2, ⟨p, q, k o (by simp) _ e3⟩, e4.at fun ob g => k x (by simp) ob g, e5.at fun ob g => k y (by simp) ob g⟩
  item := by
    intro X hP hw hK hc i pins s σ H E I hf ⟨e1, e2, ⟨p, q, e3⟩, e4, e5⟩ ⟨us, vs, u, v, hu, hv, gu, gv⟩
    subst hP hw hK
    obtain ⟨its, r1, t1, _⟩ := I.tuple hu
    obtain ⟨jts, r2, t2, _⟩ := I.list hv
    obtain ⟨u', hu', ru⟩ := r1.get gu
    obtain ⟨v', hv', rv⟩ := r2.get gv
    have li : i < its.toArray.size := by simpa using (List.getElem?_eq_some_iff.mp hu').1
    have lj : i < jts.toArray.size := by simpa using (List.getElem?_eq_some_iff.mp hv').1
    have hz := Heap.lt_size e1
    have hh : X.A.in1.handled = none := I.ok.hd hc
    refine wpAny_pyNext_zipD2_item (sepM D) (Draws.tuple hh x a D.l1i1 its.toArray) (Draws.list hh y b D.l2i2 jts.toArray) e1 e2 e3 ⟨e4, t1⟩ ⟨e5, t2.isList⟩ li lj fun m1 m2 h' tk p1 p2 z' o' s1 s2 nT _ kk => ?_
    have q1 : m1 = u' := by
      have p1 : its.toArray[i]? = some m1 := p1
      rw [List.getElem?_toArray, hu'] at p1
      exact (Option.some.inj p1).symm
    have q2 : m2 = v' := by
      have p2 : jts.toArray[i]? = some m2 := p2
      rw [List.getElem?_toArray, hv'] at p2
      exact (Option.some.inj p2).symm
    subst q1 q2
    refine ⟨_, rfl, wpAny_letOwnedTupleGo_zip (s := { s with heap := h', toks := tk }) z' fun h2 z2 sb => ?_⟩
    have nT2 : IsTupOf2 h2 s.heap.objs.size m1 m2 := (sb.2 _ (Nat.ne_of_gt hz)).trans nT
    have lt : ∀ {c : Addr} {ob : Obj}, s.heap.get? c = some ob → c ≠ s.heap.objs.size := fun g => Nat.ne_of_lt (Heap.lt_size g)
    have new : ObjOk X.prog X.w (upd H s.heap.objs.size (.tup [u, v])) h2 s.heap.objs.size (.tup [u, v]) := ⟨(by show 2 ≤ sizeLine; decide), [m1, m2], .cons ru (.cons rv .nil), _, nT2, rfl, _, rfl⟩
    have keep : ∀ c ob, c ∉ [z, t, o, x, y] → s.heap.get? c = some ob → h2.get? c = some ob := fun c ob hc g => by
      simp only [List.mem_cons, List.mem_nil_iff, or_false, not_or] at hc
      exact (sb.2 c hc.1).trans (kk c ob hc.1 hc.2.2.1 hc.2.2.2.1 hc.2.2.2.2 g)
    have I1 : Inv X pins σ (upd H s.heap.objs.size (.tup [u, v])) { s with heap := h2, toks := tk } := I.turnedNew (t' := tk) (ch := [z, t, o, x, y]) keep hf (Nat.le_refl _) new
    refine ⟨.ref s.heap.objs.size, _, I1, rfl, ⟨_, u, v, rfl, I.hok.fresh (Nat.le_refl _), rfl, fun l hl => by rw [I.tuple_inj hl hu]; exact gu, fun l hl => by rw [I.list_inj hl hv]; exact gv⟩, ⟨z2, ?_, ⟨m1, m2, ?_⟩, ?_, ?_⟩, ?_⟩
    · exact (sb.2 _ D.TIz).trans (kk _ _ D.TIz D.TITO D.TIi1 D.TIi2 e2)
    · exact (sb.2 _ D.TOz).trans o'
    · exact s1.1.at fun ob g => (sb.2 _ D.i1z).trans g
    · exact s2.1.at fun ob g => (sb.2 _ D.i2z).trans g
    · intro c hcm
      have hl : c ≠ s.heap.objs.size := by
        exact five (p := fun c => c ≠ s.heap.objs.size) (lt e1) (lt e2) (lt e3) (by obtain ⟨_, g, _⟩ := e4; exact lt g) (by obtain ⟨_, g, _⟩ := e5; exact lt g) c hcm
      rw [upd_ne hl]
      exact (hf c hcm).1
  done := by
    intro X hP hw hK hc i pins s σ H E I hf ⟨e1, e2, ⟨p, q, e3⟩, e4, e5⟩ ⟨us, vs, hu, hv, l1, l2, hend⟩
    subst hP hw hK
    obtain ⟨its, r1, t1, _⟩ := I.tuple hu
    obtain ⟨jts, r2, t2, _⟩ := I.list hv
    have k1 := r1.length
    have k2 := r2.length
    have hh : X.A.in1.handled = none := I.ok.hd hc
    refine wpAny_pyNext_zipD2_end (sepM D) (Draws.tuple hh x a D.l1i1 its.toArray) (Draws.list hh y b D.l2i2 jts.toArray) e1 e2 e3 ⟨e4, t1⟩ ⟨e5, t2.isList⟩ (by simp; omega) (by simp; omega) (by simp; omega) fun h' tk kk => ⟨rfl, ?_⟩
    refine I.turnedL (t' := tk) (ch := [z, t, o, x, y]) (fun c ob hc g => ?_) hf
    simp only [List.mem_cons, List.mem_nil_iff, or_false, not_or] at hc
    exact kk c ob hc.1 hc.2.2.1 hc.2.2.2.1 hc.2.2.2.2 g
  self := fun A i s Q E e k => wpAny_pyIter_zip e.1 k
theorem begin_zipM {X : Cx} {pins : List (Addr × Obj)} {σ : L2.St} {H1 : Hp} {s1 : Shared} {R : L2.It → Hp → Prop} {elts : List Expr} {kk : Nat} {tpos : Pos} (I1 : Inv X pins σ H1 s1) {a b : Addr} {us ws : List V} (hu : SqT X.K H1 a us) (hv : SqL X.K H1 b ws) (q : R (ItM X.K a b) H1) :
    wpAny (model X.prog X.w) X.A (call (.type "zip") [.ref a, .ref b]) (fun v s2 => wpAny (model X.prog X.w) X.A (pyIter v) (L2.PIE X pins σ (.Tuple elts kk tpos) R) X.xe s2) X.xe s1 := by
  obtain ⟨its, r1, t1, _⟩ := I1.tuple hu
  obtain ⟨jts, r2, t2, _⟩ := I1.list hv
  have new : ∀ c, s1.heap.objs.size ≤ c → FpOk X pins H1 c := fun c hc => I1.fpOk hc (I1.hok.fresh hc)
  obtain ⟨oa, ga, _⟩ := id t1
  refine zip_begins2 (begins_tuple a its.toArray) (begins_list b jts.toArray) t1 t2.isList fun h' z1 z2 z3 z4 z5 _ kk2 => wpAny_pyIter_zip z1 ?_
  refine ⟨s1.heap.objs.size + 4, [s1.heap.objs.size + 4, s1.heap.objs.size + 2, s1.heap.objs.size + 3, s1.heap.objs.size, s1.heap.objs.size + 1], _, _, H1, rfl, I1.kept (t' := s1.toks) kk2, turnM (PySem.W.ktu_apart s1.heap.objs.size a b (Heap.lt_size ga) t2.lt), ⟨z1, z2, ⟨_, _, z3⟩, ⟨_, z4, rfl, rfl⟩, ⟨_, z5, rfl, rfl⟩⟩, five ?_ ?_ ?_ ?_ ?_, q⟩
  · exact new _ (Nat.le_add_right _ _)
  · exact new _ (Nat.le_add_right _ _)
  · exact new _ (Nat.le_add_right _ _)
  · exact new _ (Nat.le_refl _)
  · exact new _ (Nat.le_add_right _ _)
theorem begin_zipL {X : Cx} {pins : List (Addr × Obj)} {σ : L2.St} {H1 : Hp} {s1 : Shared} {R : L2.It → Hp → Prop} {elts : List Expr} {kk : Nat} {tpos : Pos} (I1 : Inv X pins σ H1 s1) {a b : Addr} {us ws : List V} (hu : SqL X.K H1 a us) (hv : SqL X.K H1 b ws) (q : R (L2.Itz X.K a b) H1) :
    wpAny (model X.prog X.w) X.A (call (.type "zip") [.ref a, .ref b]) (fun v s2 => wpAny (model X.prog X.w) X.A (pyIter v) (L2.PIE X pins σ (.Tuple elts kk tpos) R) X.xe s2) X.xe s1 := by
  obtain ⟨its, r1, t1, _⟩ := I1.list hu
  obtain ⟨jts, r2, t2, _⟩ := I1.list hv
  have new : ∀ c, s1.heap.objs.size ≤ c → FpOk X pins H1 c := fun c hc => I1.fpOk hc (I1.hok.fresh hc)
  refine zip_begins2 (begins_list a its.toArray) (begins_list b jts.toArray) t1.isList t2.isList fun h' z1 z2 z3 z4 z5 _ kk2 => wpAny_pyIter_zip z1 ?_
  refine ⟨s1.heap.objs.size + 4, [s1.heap.objs.size + 4, s1.heap.objs.size + 2, s1.heap.objs.size + 3, s1.heap.objs.size, s1.heap.objs.size + 1], _, _, H1, rfl, I1.kept (t' := s1.toks) kk2, turn_zip (PySem.W.ktu_apart s1.heap.objs.size a b t1.lt t2.lt), ⟨z1, z2, ⟨_, _, z3⟩, ⟨_, z4, rfl, rfl⟩, ⟨_, z5, rfl, rfl⟩⟩, five ?_ ?_ ?_ ?_ ?_, q⟩
  · exact new _ (Nat.le_add_right _ _)
  · exact new _ (Nat.le_add_right _ _)
  · exact new _ (Nat.le_add_right _ _)
  · exact new _ (Nat.le_refl _)
  · exact new _ (Nat.le_add_right _ _)
theorem begin_zipT {X : Cx} {pins : List (Addr × Obj)} {σ : L2.St} {H1 : Hp} {s1 : Shared} {R : L2.It → Hp → Prop} {elts : List Expr} {kk : Nat} {tpos : Pos} (I1 : Inv X pins σ H1 s1) {a b : Addr} {us ws : List V} (hu : SqT X.K H1 a us) (hv : SqT X.K H1 b ws) (q : R (RZ.ItzT X.K a b) H1) :
    wpAny (model X.prog X.w) X.A (call (.type "zip") [.ref a, .ref b]) (fun v s2 => wpAny (model X.prog X.w) X.A (pyIter v) (L2.PIE X pins σ (.Tuple elts kk tpos) R) X.xe s2) X.xe s1 := by
  obtain ⟨its, r1, t1, _⟩ := I1.tuple hu
  obtain ⟨jts, r2, t2, _⟩ := I1.tuple hv
  have new : ∀ c, s1.heap.objs.size ≤ c → FpOk X pins H1 c := fun c hc => I1.fpOk hc (I1.hok.fresh hc)
  obtain ⟨oa, ga, _⟩ := id t1
  obtain ⟨ob, gb, _⟩ := id t2
  refine zip_begins2 (begins_tuple a its.toArray) (begins_tuple b jts.toArray) t1 t2 fun h' z1 z2 z3 z4 z5 _ kk2 => wpAny_pyIter_zip z1 ?_
  refine ⟨s1.heap.objs.size + 4, [s1.heap.objs.size + 4, s1.heap.objs.size + 2, s1.heap.objs.size + 3, s1.heap.objs.size, s1.heap.objs.size + 1], _, _, H1, rfl, I1.kept (t' := s1.toks) kk2, RZ.turn_zipT (PySem.W.ktu_apart s1.heap.objs.size a b (Heap.lt_size ga) (Heap.lt_size gb)), ⟨z1, z2, ⟨_, _, z3⟩, ⟨_, z4, rfl, rfl⟩, ⟨_, z5, rfl, rfl⟩⟩, five ?_ ?_ ?_ ?_ ?_, q⟩
  · exact new _ (Nat.le_add_right _ _)
  · exact new _ (Nat.le_add_right _ _)
  · exact new _ (Nat.le_add_right _ _)
  · exact new _ (Nat.le_refl _)
  · exact new _ (Nat.le_add_right _ _)
/-- zip of two lists, of two tuples, of a tuple and a list -/
def iZipX (K : PySem.W.Frag) (ta : TA) : TI := fun σ H R => ta σ H fun vs H1 => ∃ a b us ws, vs = [.ref a, .ref b] ∧ ((SqL K H1 a us ∧ SqL K H1 b ws ∧ R (L2.Itz K a b) H1) ∨ (SqT K H1 a us ∧ SqT K H1 b ws ∧ R (RZ.ItzT K a b) H1) ∨ (SqT K H1 a us ∧ SqL K H1 b ws ∧ R (ItM K a b) H1))
theorem pi_zipX {X : Cx} {e e2 : Expr} {ta : TA} {p pos tpos : Pos} {elts : List Expr} {kk : Nat} (hg : Gl X "zip") (hm : X.mg "zip" = none) (ha : PA X [e, e2] ta)
    (hs : starEach [e, e2] X.env = (false, eval e X.env) :: starEach [e2] X.env) (hpl : (backTo pos (starEach [e2] X.env)).any (·.1) = false) :
    PI X (.Tuple elts kk tpos) (.Call (.Name "zip" p) [e, e2] [] pos) (iZipX X.K ta) :=
  ⟨fun pins s σ H R I h => Call_ (ld_blt I hg hm PyProof.Rows.boot_zip (PyProof.Rows.callWith_type1 (thn (ha.run pos pins s σ H _ I h) fun vals s1 ⟨vs, H1, I1, r1, a, b, us, ws, ex, q⟩ => by
    subst ex
    cases r1 with
    | cons ra rr => cases rr with
      | cons rb rr =>
        cases rr
        cases ra
        cases rb
        rcases q with ⟨hu, hv, q⟩ | ⟨hu, hv, q⟩ | ⟨hu, hv, q⟩
        · exact begin_zipL I1 hu hv q
        · exact begin_zipT I1 hu hv q
        · exact begin_zipM I1 hu hv q) hs hpl))⟩
end Pv
set_option linter.all false
set_option autoImplicit false
set_option maxRecDepth 100000
/-! What the evaluator tells, the machine does: operators. -/
namespace Pv
open PySem PySem.Spec PyProof.Rows
open L2 (V Hp HO upd upd_same upd_ne VK XK TE TT TA TS TG TGs TI It Cx PE PT PW PA PS PSs PG PGs PI Inv RelV SqL SqT OpR)
section
variable {X : Cx} {a b c ex : Expr} {f g : DV} {pos : Pos}

theorem lstV_at {K : PySem.W.Frag} {m : List Addr} {H H0 : Hp} {S : Sto} {x : Vl} {v : V} {xs : List D} (R : Rl K m H S) (r : RV K H0 H m x v) (h : lstV x S = some xs) :
    ∃ p vs, v = .ref p ∧ H p = some (.lst vs) ∧ RDs K H m xs vs := by
  cases x with
  | fr ys =>
    cases h
    obtain ⟨p, vs, rfl, hp, _, _, r⟩ := (r : ∃ p vs, v = .ref p ∧ H p = some (.lst vs) ∧ p ∉ m ∧ H0 p = none ∧ RDs K H m xs vs)
    exact ⟨p, vs, rfl, hp, r⟩
  | d x =>
    cases x with
    | loc l =>
      obtain ⟨p, hp, rfl⟩ := (r : ∃ a, m[l]? = some a ∧ v = .ref a)
      have h' : (match S[l]? with | some (.lst xs) => some xs | _ => none) = some xs := h
      split at h'
      · rename_i ys hy
        cases h'
        obtain ⟨vs, h1, h2⟩ := R.lst hp hy
        exact ⟨p, vs, rfl, h1, h2⟩
      · cases h'
    | _ => cases h
theorem RDs.rep {K : PySem.W.Frag} {m : List Addr} {H : Hp} {xs : List D} {vs : List V} (r : RDs K H m xs vs) : ∀ n : Nat, RDs K H m (List.replicate n xs).flatten (List.replicate n vs).flatten
  | 0 => rfl
  | n + 1 => by rw [List.replicate_succ, List.replicate_succ, List.flatten_cons, List.flatten_cons]; exact r.append (RDs.rep r n)
theorem tup_at {K : PySem.W.Frag} {m : List Addr} {H H0 : Hp} {x : Vl} {v : V} {xs : List D} (r : RV K H0 H m x v) (h : tupO x = some xs) : ∃ p vs, v = .ref p ∧ H p = some (.tup vs) ∧ RDs K H m xs vs := by
  rw [tupO_some h] at r; exact r
theorem line_eq : line = sizeLine := rfl

/-- ints under an operator -/
theorem opB_int {o : Bo} {i j k : Int} (h : binI o i j = some k) {pins : List (Addr × Obj)} {s : Shared} {σ : L2.St} {H : Hp} {v u : Value} {Q : VK} (I : Inv X pins σ H s) (rx : RelV (.int i) v) (ry : RelV (.int j) u) (q : Q (.int k) H) :
    wpAny (model X.prog X.w) X.A (binaryOp (opOf o) v u) (L2.EP X pins σ Q) X.xe s := by
  cases o with
  | add => cases h; exact L2.op_add pins s σ H _ _ v u Q I rx ry ⟨i, j, rfl, rfl, q⟩
  | sub => cases h; exact L2.op_sub pins s σ H _ _ v u Q I rx ry ⟨i, j, rfl, rfl, q⟩
  | mul =>
    by_cases e : i.natAbs < 18446744073709551616 ∨ j.natAbs < 18446744073709551616
    · rw [binI_mul e] at h; cases h
      exact L2.op_mul pins s σ H _ _ v u Q I rx ry ⟨i, j, rfl, rfl, e.imp (fun z => by constructor <;> omega) (fun z => by constructor <;> omega), q⟩
    · rw [show binI .mul i j = none from if_neg e] at h; cases h
  | fdiv =>
    by_cases e : 0 < j ∧ j < 1073741824
    · rw [binI_fdiv e] at h; cases h
      exact L2.op_fdiv pins s σ H _ _ v u Q I rx ry ⟨i, j, rfl, rfl, e, q⟩
    · rw [show binI .fdiv i j = none from if_neg e] at h; cases h
  | mod =>
    by_cases e : 0 < j
    · rw [binI_mod e] at h; cases h
      exact L2.op_mod pins s σ H _ _ v u Q I rx ry ⟨i, j, rfl, rfl, e, q⟩
    · rw [show binI .mod i j = none from if_neg e] at h; cases h
  | pow =>
    by_cases e : (0 ≤ j ∧ j ≤ 1000000) ∧ i.natAbs < 18446744073709551616
    · rw [show binI .pow i j = some (i ^ j.toNat) from if_pos e] at h; cases h
      exact L2.op_pow pins s σ H _ _ v u Q I rx ry ⟨i, j, rfl, rfl, ⟨e.1.1, e.1.2, e.2⟩, q⟩
    · rw [show binI .pow i j = none from if_neg e] at h; cases h
  | _ => cases h
theorem opB_ok (o : Bo) : OpR X (binaryOp (opOf o)) (rB X.K o) := by
  intro pins s σ H x y v u Q I rx ry ⟨H0, m, S, vx, vy, w, R, hx, hy, hb, q⟩
  unfold binV at hb
  split at hb
  · rename_i i j hi hj
    rw [numI_some hi] at hx
    rw [numI_some hj] at hy
    cases (show x = .int i from hx)
    cases (show y = .int j from hy)
    cases e : binI o i j with
    | none => rw [e] at hb; cases hb
    | some k =>
      rw [e] at hb; cases hb
      exact opB_int e I rx ry (q _ H m (Le.refl H m) R rfl)
  · rename_i n hi hj
    rw [numI_some hj] at hy
    cases (show y = .int n from hy)
    cases o with
    | mul =>
      simp only at hb
      split at hb
      · rename_i xs ht
        obtain ⟨p, vs, rfl, hp, r⟩ := tup_at hx ht
        split at hb
        · rename_i hc
          cases hb
          have hne : vs ≠ [] := fun z => by
            have := r.length
            rw [z] at this
            have h0 : xs = [] := List.eq_nil_of_length_eq_zero this
            rw [h0] at hc; simp at hc
          by_cases h1 : n = 1
          · subst h1
            refine op_once pins s σ H _ _ v u Q I rx ry ⟨p, vs, rfl, rfl, SqT.of hp, q _ H m (Le.refl H m) R ⟨p, vs, rfl, hp, ?_⟩⟩
            rw [show repl 1 xs = xs by simp [repl]]
            exact r
          · exact L2.op_repT pins s σ H _ _ v u Q I rx ry ⟨p, n, vs, rfl, rfl, SqT.of hp, hne, (by have := hc.2.1.1; omega), hc.2.1.2, by rw [← r.length]; exact hc.1, RV.laid R (r.rep _) q⟩
        · cases hb
      · cases e : lstV vx S with
        | none => rw [e] at hb; cases hb
        | some xs =>
          rw [e] at hb
          obtain ⟨p, vs, rfl, hp, r⟩ := lstV_at R hx e
          simp only [Option.bind_some] at hb
          split at hb
          · rename_i hc
            cases hb
            refine L2.op_rep pins s σ H _ _ v u Q I rx ry ⟨p, n, vs, rfl, rfl, hp, by omega, by omega, ?_, RV.laidL R (r.rep _) q⟩
            rw [← r.length]
            have h1 : n.toNat ≤ 1000 := by omega
            exact Nat.le_trans (Nat.mul_le_mul hc.1 h1) (by decide)
          · cases hb
    | _ => cases hb
  · cases o with
    | add =>
      simp only at hb
      split at hb
      · rename_i xs ys h1 h2
        obtain ⟨p, vs, rfl, hp, r⟩ := tup_at hx h1
        obtain ⟨p2, ws, rfl, hp2, r2⟩ := tup_at hy h2
        split at hb
        · rename_i hc
          cases hb
          refine L2.op_catA pins s σ H _ _ v u Q I rx ry ⟨p, p2, vs, ws, rfl, rfl, SqT.of hp, SqT.of hp2, by rw [← r.length, ← r2.length]; exact hc, fun e => ?_, fun _ e => ?_, fun _ _ => RV.laid R (r.append r2) q⟩
          · have e0 : xs = [] := List.eq_nil_of_length_eq_zero (by rw [r.length, e]; rfl)
            subst e0
            exact q _ H m (Le.refl H m) R ⟨p2, ws, rfl, hp2, r2⟩
          · have e0 : ys = [] := List.eq_nil_of_length_eq_zero (by rw [r2.length, e]; rfl)
            subst e0
            refine q _ H m (Le.refl H m) R ⟨p, vs, rfl, hp, ?_⟩
            rw [List.append_nil]; exact r
        · cases hb
      · cases e : lstV vx S with
        | none => rw [e] at hb; cases hb
        | some xs =>
          cases e2 : lstV vy S with
          | none => rw [e, e2] at hb; cases hb
          | some ys =>
            rw [e, e2] at hb
            obtain ⟨p, vs, rfl, hp, r⟩ := lstV_at R hx e
            obtain ⟨p2, ws, rfl, hp2, r2⟩ := lstV_at R hy e2
            simp only [Option.bind_some] at hb
            split at hb
            · rename_i hc
              cases hb
              exact L2.op_cat pins s σ H _ _ v u Q I rx ry ⟨p, p2, vs, ws, rfl, rfl, hp, hp2, by rw [← r.length, ← r2.length]; exact hc, RV.laidL R (r.append r2) q⟩
            · cases hb
      · cases hb
    | _ => cases hb
  · cases hb
theorem so_bin (o : Bo) (kf : KV f) (ha : PE X a (tE X.K f)) (hb : PE X b (tE X.K g)) : PE X (.BinOp a (opOf o) b pos) (tE X.K (sBin o f g)) :=
  PE.imp (L2.pe_op (opB_ok o) ha hb) fun σ H Q ⟨b, m, e, S, r, S', hb, R, RE, he, q⟩ => by
    obtain ⟨p1, h1, he⟩ := bind_ok he
    obtain ⟨p2, h2, he⟩ := bind_ok he
    obtain ⟨w, h3, he⟩ := bind_ok he
    cases he
    exact two_of kf hb R RE h1 h2 fun x y H' m' z R' rx ry => ⟨H, m', p2.2, p1.1, p2.1, _, R', rx, ry, ofO_ok h3, fun t H2 m2 z2 R2 rt => q t H2 m2 (z.trans z2) R2 (RV.from z z2 rt)⟩

/-! comparisons -/
def coOf : Co → CmpOp
  | .eq => .Eq | .ne => .NotEq | .lt => .Lt | .le => .LtE | .gt => .Gt | .ge => .GtE | .is => .Is | .isn => .IsNot | .inn => .In | .nin => .NotIn
def rC (K : PySem.W.Frag) (o : Co) : L2.R2 := fun x y H Q => ∃ (H0 : Hp) (m : List Addr) (S : Sto) (vx vy : Vl) (k : Bool), Rl K m H S ∧ RV K H0 H m vx x ∧ RV K H0 H m vy y ∧ cmpV o vx vy S = some k ∧ Q (.bl k) H
theorem flat_rel {K : PySem.W.Frag} {H : Hp} {m : List Addr} {x : D} {v : V} (h : flat x = true) (r : RD K H m x v) : L2.flatV v = true := by
  cases x with
  | non => cases (show v = .non from r); rfl
  | bl k => cases (show v = .bl k from r); rfl
  | int k => cases (show v = .int k from r); rfl
  | str k => cases (show v = .str k from r); rfl
  | _ => cases h
theorem eqF_rel {K : PySem.W.Frag} {H : Hp} {m : List Addr} {x y : D} {v u : V} (hx : flat x = true) (hy : flat y = true) (rx : RD K H m x v) (ry : RD K H m y u) : L2.eqV v u = eqF x y := by
  cases x with
  | non => cases (show v = .non from rx); cases y with
    | non => cases (show u = .non from ry); rfl
    | bl k => cases (show u = .bl k from ry); rfl
    | int k => cases (show u = .int k from ry); rfl
    | str k => cases (show u = .str k from ry); rfl
    | _ => cases hy
  | bl j => cases (show v = .bl j from rx); cases y with
    | non => cases (show u = .non from ry); rfl
    | bl k => cases (show u = .bl k from ry); rfl
    | int k => cases (show u = .int k from ry); rfl
    | str k => cases (show u = .str k from ry); rfl
    | _ => cases hy
  | int j => cases (show v = .int j from rx); cases y with
    | non => cases (show u = .non from ry); rfl
    | bl k => cases (show u = .bl k from ry); rfl
    | int k => cases (show u = .int k from ry); rfl
    | str k => cases (show u = .str k from ry); rfl
    | _ => cases hy
  | str j => cases (show v = .str j from rx); cases y with
    | non => cases (show u = .non from ry); rfl
    | bl k => cases (show u = .bl k from ry); rfl
    | int k => cases (show u = .int k from ry); rfl
    | str k => cases (show u = .str k from ry); rfl
    | _ => cases hy
  | _ => cases hx
theorem inF_rel {K : PySem.W.Frag} {H : Hp} {m : List Addr} {x : D} {v : V} (hx : flat x = true) (rx : RD K H m x v) : ∀ {xs : List D} {vs : List V}, xs.all flat = true → RDs K H m xs vs → vs.all L2.flatV = true ∧ L2.inV v vs = inF x xs
  | [], vs, _, r => by rw [show vs = [] from r]; exact ⟨rfl, rfl⟩
  | y :: xs, vs, h, r => by
    obtain ⟨u, ws, rfl, r1, r2⟩ := (r : ∃ v ws, vs = v :: ws ∧ RD K H m y v ∧ RDs K H m xs ws)
    have h' : flat y = true ∧ xs.all flat = true := by simpa using h
    obtain ⟨e1, e2⟩ := inF_rel hx rx h'.2 r2
    refine ⟨by simp [flat_rel h'.1 r1, e1], ?_⟩
    have e2' : (ws.any fun y => L2.eqV y v) = (xs.any fun y => eqF y x) := e2
    show ((u :: ws).any fun y => L2.eqV y v) = ((y :: xs).any fun y => eqF y x)
    simp only [List.any_cons]
    rw [e2', eqF_rel h'.1 hx r1 rx]
theorem scal_rel {K : PySem.W.Frag} {H : Hp} {m : List Addr} {x y : D} {v u : V} {k : Bool} (h : scalEq x y = some k) (rx : RD K H m x v) (ry : RD K H m y u) : L2.scal v u = true ∧ decide (v = u) = k := by
  cases x with
  | non => cases (show v = .non from rx); cases y with
    | non => cases (show u = .non from ry); cases h; exact ⟨rfl, by simp⟩
    | bl k => cases (show u = .bl k from ry); cases h; exact ⟨rfl, by simp⟩
    | int k => cases (show u = .int k from ry); cases h; exact ⟨rfl, by simp⟩
    | str k => cases (show u = .str k from ry); cases h; exact ⟨rfl, by simp⟩
    | _ => cases h
  | bl j => cases (show v = .bl j from rx); cases y with
    | non => cases (show u = .non from ry); cases h; exact ⟨rfl, by simp⟩
    | bl k => cases (show u = .bl k from ry); cases h; exact ⟨rfl, L2.dec_bl⟩
    | str k => cases (show u = .str k from ry); cases h; exact ⟨rfl, by simp⟩
    | _ => cases h
  | int j => cases (show v = .int j from rx); cases y with
    | non => cases (show u = .non from ry); cases h; exact ⟨rfl, by simp⟩
    | int k => cases (show u = .int k from ry); cases h; exact ⟨rfl, L2.dec_int⟩
    | str k => cases (show u = .str k from ry); cases h; exact ⟨rfl, by simp⟩
    | _ => cases h
  | str j => cases (show v = .str j from rx); cases y with
    | non => cases (show u = .non from ry); cases h; exact ⟨rfl, by simp⟩
    | bl k => cases (show u = .bl k from ry); cases h; exact ⟨rfl, by simp⟩
    | int k => cases (show u = .int k from ry); cases h; exact ⟨rfl, by simp⟩
    | str k => cases (show u = .str k from ry); cases h; exact ⟨rfl, by simp⟩
    | _ => cases h
  | _ => cases h
theorem ref_of {K : PySem.W.Frag} {H : Hp} {m : List Addr} {x : D} {v : V} (r : RD K H m x v) : v = .non ∧ x = .non ∨ (∃ b, v = .bl b ∧ x = .bl b) ∨ (∃ i, v = .int i ∧ x = .int i) ∨ (∃ z, v = .str z ∧ x = .str z) ∨ (∃ a, v = .ref a ∧ ((∃ xs, x = .tup xs) ∨ (∃ l, x = .loc l) ∨ ∃ ns, x = .scr ns)) := by
  cases x with
  | non => exact .inl ⟨r, rfl⟩
  | bl k => exact .inr (.inl ⟨k, r, rfl⟩)
  | int k => exact .inr (.inr (.inl ⟨k, r, rfl⟩))
  | str k => exact .inr (.inr (.inr (.inl ⟨k, r, rfl⟩)))
  | tup xs => obtain ⟨a, _, h, _⟩ := (r : ∃ a vs, v = .ref a ∧ H a = some (.tup vs) ∧ RDs K H m xs vs); exact .inr (.inr (.inr (.inr ⟨a, h, .inl ⟨xs, rfl⟩⟩)))
  | loc l => obtain ⟨a, _, h⟩ := (r : ∃ a, m[l]? = some a ∧ v = .ref a); exact .inr (.inr (.inr (.inr ⟨a, h, .inr (.inl ⟨l, rfl⟩)⟩)))
  | scr ns => obtain ⟨a, h, _⟩ := (r : ∃ a, v = .ref a ∧ Scr K H a (ns.map V.int)); exact .inr (.inr (.inr (.inr ⟨a, h, .inr (.inr ⟨ns, rfl⟩)⟩)))
theorem isD_ok {H : Hp} {m : List Addr} {x y : D} {vx vy : V} {k : Bool} (h : isD x y = some k) (hx : RD X.K H m x vx) (hy : RD X.K H m y vy) {pins : List (Addr × Obj)} {s : Shared} {σ : L2.St} {v u : Value} {Q : VK} (I : Inv X pins σ H s) (rx : RelV vx v) (ry : RelV vy u) :
    (Q (.bl k) H → wpAny (model X.prog X.w) X.A (compareOp .Is v u) (L2.EP X pins σ Q) X.xe s) ∧ (Q (.bl (!k)) H → wpAny (model X.prog X.w) X.A (compareOp .IsNot v u) (L2.EP X pins σ Q) X.xe s) := by
  have no : ∀ {v u : Value}, plainIs v u = true → v ≠ u → k = false → (Q (.bl k) H → wpAny (model X.prog X.w) X.A (compareOp .Is v u) (L2.EP X pins σ Q) X.xe s) ∧ (Q (.bl (!k)) H → wpAny (model X.prog X.w) X.A (compareOp .IsNot v u) (L2.EP X pins σ Q) X.xe s) := fun hp hn hk => by
    subst hk
    exact ⟨fun q => wpAny_is_other hp hn ⟨.bl false, H, I, rfl, q⟩, fun q => wpAny_isNot_other hp hn ⟨.bl true, H, I, rfl, q⟩⟩
  cases y with
  | non =>
    cases (show vy = .non from hy)
    have e : k = decide (vx = .non) := by
      rcases ref_of hx with ⟨rfl, rfl⟩ | ⟨b, rfl, rfl⟩ | ⟨i, rfl, rfl⟩ | ⟨z, rfl, rfl⟩ | ⟨a, rfl, ⟨xs, rfl⟩ | ⟨l, rfl⟩ | ⟨ns, rfl⟩⟩ <;> (cases h; simp)
    subst e
    exact ⟨fun q => L2.op_isN pins s σ H _ _ v u Q I rx ry ⟨rfl, q⟩, fun q => L2.op_notN pins s σ H _ _ v u Q I rx ry ⟨rfl, q⟩⟩
  | bl j =>
    cases (show vy = .bl j from hy)
    cases (show u = Value.bool j from ry)
    cases x with
    | non => cases (show vx = .non from hx); cases (show v = Value.none from rx); cases h; exact no rfl (fun z => by cases z) rfl
    | bl i =>
      cases (show vx = .bl i from hx); cases (show v = Value.bool i from rx)
      have e : k = (i == j) := by cases h; rfl
      subst e
      exact ⟨fun q => wpAny_is_plain rfl ⟨.bl (i == j), H, I, by show Value.bool _ = _; rw [show (Value.bool i == Value.bool j) = (i == j) from by cases i <;> cases j <;> rfl], q⟩,
        fun q => wpAny_isNot_plain rfl ⟨.bl (!(i == j)), H, I, by show Value.bool _ = _; rw [show (Value.bool i == Value.bool j) = (i == j) from by cases i <;> cases j <;> rfl], q⟩⟩
    | int i => cases (show vx = .int i from hx); obtain ⟨t, rfl⟩ := (rx : ∃ t, v = Value.int i t); cases h; exact no rfl (fun z => by cases z) rfl
    | str i => cases (show vx = .str i from hx); obtain ⟨t, rfl⟩ := (rx : ∃ t, v = Value.str i t); cases h; exact no rfl (fun z => by cases z) rfl
    | tup xs =>
      obtain ⟨p, _, rfl, _⟩ := (hx : ∃ a vs, vx = .ref a ∧ H a = some (.tup vs) ∧ RDs X.K H m xs vs)
      cases (show v = Value.ref p from rx); cases h; exact no rfl (fun z => by cases z) rfl
    | _ => cases h
  | _ => cases x <;> cases h
mutual
theorem pyD_dp {K : PySem.W.Frag} {m : List Addr} {H : Hp} {S : Sto} (R : Rl K m H S) : ∀ (n : Nat) (d : D) (v : V) (p : PyData), RD K H m d v → pyD n S d = some p → L2.Dp K H v p
  | 0, _, _, _, _, h => by cases h
  | n + 1, d, v, p, r, h => by
    unfold pyD at h
    cases d with
    | non => cases h; cases (show v = .non from r); exact .non
    | bl b => cases h; cases (show v = .bl b from r); exact .bl b
    | int i => cases h; cases (show v = .int i from r); exact .int i
    | str x => cases h; cases (show v = .str x from r); exact .str x
    | tup xs =>
      obtain ⟨a, vs, rfl, ha, rs⟩ := (r : ∃ a vs, v = .ref a ∧ H a = some (.tup vs) ∧ RDs K H m xs vs)
      obtain ⟨ps, hp, rfl⟩ := Option.map_eq_some_iff.mp h
      exact .tup (SqT.of ha) (pyL_dp R n xs vs ps rs hp)
    | scr ns =>
      obtain ⟨a, rfl, hs⟩ := (r : ∃ a, v = .ref a ∧ Scr K H a (ns.map V.int))
      cases h
      refine .lst hs.sq ?_
      clear hs
      induction ns with
      | nil => exact .nil
      | cons i is ih => exact .cons (.int i) ih
    | loc l =>
      obtain ⟨a, hm, rfl⟩ := (r : ∃ a, m[l]? = some a ∧ v = .ref a)
      dsimp only at h
      split at h
      · rename_i xs hl
        obtain ⟨vs, ha, rs⟩ := R.lst hm hl
        obtain ⟨ps, hp, rfl⟩ := Option.map_eq_some_iff.mp h
        exact .lst (SqL.of ha) (pyL_dp R n xs vs ps rs hp)
      · cases h
theorem pyL_dp {K : PySem.W.Frag} {m : List Addr} {H : Hp} {S : Sto} (R : Rl K m H S) : ∀ (n : Nat) (xs : List D) (vs : List V) (ps : List PyData), RDs K H m xs vs → mapO (pyD n S) xs = some ps → L2.DpAll K H vs ps
  | n, [], vs, ps, r, h => by cases (show vs = [] from r); cases h; exact .nil
  | n, x :: xs, vs, ps, r, h => by
    obtain ⟨v, ws, rfl, r1, r2⟩ := (r : ∃ v ws, vs = v :: ws ∧ RD K H m x v ∧ RDs K H m xs ws)
    unfold mapO at h
    obtain ⟨p, h1, h⟩ := Option.bind_eq_some_iff.mp h
    obtain ⟨qs, h2, rfl⟩ := Option.map_eq_some_iff.mp h
    exact .cons (pyD_dp R n x v p r1 h1) (pyL_dp R n xs ws qs r2 h2)
end
theorem pyV_dp {K : PySem.W.Frag} {m : List Addr} {H H0 : Hp} {S : Sto} {x : Vl} {v : V} {p : PyData} (R : Rl K m H S) (r : RV K H0 H m x v) (h : pyV x S = some p) : L2.Dp K H v p := by
  cases x with
  | d d => exact pyD_dp R _ d v p r h
  | fr xs =>
    obtain ⟨a, vs, rfl, ha, _, _, rs⟩ := (r : ∃ p vs, v = .ref p ∧ H p = some (.lst vs) ∧ p ∉ m ∧ H0 p = none ∧ RDs K H m xs vs)
    obtain ⟨ps, hp, rfl⟩ := Option.map_eq_some_iff.mp h
    exact .lst (SqL.of ha) (pyL_dp R _ xs vs ps rs hp)
theorem deepEq_dp {K : PySem.W.Frag} {m : List Addr} {H H0 : Hp} {S : Sto} {x y : Vl} {v u : V} {k : Bool} (R : Rl K m H S) (rx : RV K H0 H m x v) (ry : RV K H0 H m y u) (h : deepEq x y S = some k) :
    ∃ d e, L2.Dp K H v d ∧ L2.Dp K H u e ∧ SeqAt.shaped d = true ∧ SeqAt.shaped e = true ∧ PyData.eqv d e = k := by
  unfold deepEq at h
  obtain ⟨p, h1, h⟩ := Option.bind_eq_some_iff.mp h
  obtain ⟨q, h2, h⟩ := Option.bind_eq_some_iff.mp h
  split at h
  · rename_i hs
    cases h
    exact ⟨p, q, pyV_dp R rx h1, pyV_dp R ry h2, hs.1, hs.2, rfl⟩
  · cases h
theorem deepIn_dp {K : PySem.W.Frag} {m : List Addr} {H H0 : Hp} {S : Sto} {x : D} {y : Vl} {v u : V} {k : Bool} (R : Rl K m H S) (rx : RD K H m x v) (ry : RV K H0 H m y u) (h : deepIn x y S = some k) :
    ∃ d e ds, L2.Dp K H v d ∧ L2.Dp K H u e ∧ (e = .list ds ∨ e = .tuple ds) ∧ SeqAt.shaped d = true ∧ SeqAt.shaped e = true ∧ (ds.any fun z => PyData.eqv z d) = k := by
  unfold deepIn at h
  obtain ⟨p, h1, h⟩ := Option.bind_eq_some_iff.mp h
  obtain ⟨q, h2, h⟩ := Option.bind_eq_some_iff.mp h
  obtain ⟨qs, h3, h⟩ := Option.bind_eq_some_iff.mp h
  split at h
  · rename_i hs
    cases h
    refine ⟨p, q, qs, pyD_dp R _ x v p rx h1, pyV_dp R ry h2, ?_, hs.1, hs.2, rfl⟩
    cases q <;> cases h3 <;> first | exact .inl rfl | exact .inr rfl
  · cases h
theorem op_inX (hu : X.A.units + 65 < cLine) {pins : List (Addr × Obj)} {s : Shared} {σ : L2.St} {H : Hp} {x y : V} {v u : Value} {Q : VK} (I : Inv X pins σ H s) (rx : RelV x v) (ry : RelV y u) {d e : PyData} {ds : List PyData} (hd : L2.Dp X.K H x d) (he : L2.Dp X.K H y e)
    (hs : e = .list ds ∨ e = .tuple ds) (sd : SeqAt.shaped d = true) (se : SeqAt.shaped e = true) :
    (Q (.bl (ds.any fun z => PyData.eqv z d)) H → wpAny (model X.prog X.w) X.A (compareOp .In v u) (L2.EP X pins σ Q) X.xe s) ∧ (Q (.bl (!ds.any fun z => PyData.eqv z d)) H → wpAny (model X.prog X.w) X.A (compareOp .NotIn v u) (L2.EP X pins σ Q) X.xe s) := by
  obtain ⟨as, r1⟩ := L2.Dp.reads I d x v hd rx
  obtain ⟨bs, r2⟩ := L2.Dp.reads I e y u he ry
  rcases hs with rfl | rfl
  · exact ⟨fun q => SeqAt.in_list_reads r2 r1 (SeqAt.canLay_of_shaped se) (SeqAt.canLay_of_shaped sd) (room_in_shaped sd hu) ⟨.bl _, H, I, rfl, q⟩, fun q => SeqAt.notIn_list_reads r2 r1 (SeqAt.canLay_of_shaped se) (SeqAt.canLay_of_shaped sd) (room_in_shaped sd hu) ⟨.bl _, H, I, rfl, q⟩⟩
  · exact ⟨fun q => SeqAt.in_tuple_reads r2 r1 (SeqAt.canLay_of_shaped se) (SeqAt.canLay_of_shaped sd) (room_in_shaped sd hu) ⟨.bl _, H, I, rfl, q⟩, fun q => SeqAt.notIn_tuple_reads r2 r1 (SeqAt.canLay_of_shaped se) (SeqAt.canLay_of_shaped sd) (room_in_shaped sd hu) ⟨.bl _, H, I, rfl, q⟩⟩
theorem lexB_eq : ∀ ns ms : List Int, HT.lexLt ns ms = lexB ns ms
  | [], [] => rfl
  | [], _ :: _ => rfl
  | _ :: _, [] => rfl
  | x :: xs, y :: ys => by
    unfold HT.lexLt lexB
    rw [lexB_eq xs ys]
    rcases Int.lt_trichotomy x y with h | h | h
    · have h2 : x ≠ y := by omega
      simp [h, h2]
    · subst h; simp
    · have h1 : ¬ x < y := by omega
      have h2 : x ≠ y := by omega
      simp [h1, h2]
theorem intsOf_eq : ∀ {xs : List D} {ns : List Int}, intsOf xs = some ns → xs = ns.map .int
  | [], ns, h => by cases h; rfl
  | x :: xs, ns, h => by
    cases x with
    | int i =>
      obtain ⟨ms, h1, rfl⟩ := Option.map_eq_some_iff.mp (show (intsOf xs).map (fun r => i :: r) = some ns from h)
      rw [intsOf_eq h1]
      rfl
    | _ => cases h
theorem RDs.ints {K : PySem.W.Frag} {H : Hp} {m : List Addr} : ∀ {ns : List Int} {vs : List V}, RDs K H m (ns.map .int) vs → vs = ns.map V.int
  | [], _, h => h
  | n :: ns, vs, h => by
    obtain ⟨v, ws, rfl, r1, r2⟩ := (h : ∃ v ws, vs = v :: ws ∧ RD K H m (.int n) v ∧ RDs K H m (ns.map .int) ws)
    cases (show v = .int n from r1)
    rw [RDs.ints r2]
    rfl
theorem tupI_rel {K : PySem.W.Frag} {m : List Addr} {H H0 : Hp} {x : Vl} {v : V} {ns : List Int} (r : RV K H0 H m x v) (h : tupI x = some ns) : ∃ a, v = .ref a ∧ L2.SqT K H a (ns.map V.int) := by
  unfold tupI at h
  obtain ⟨xs, h1, h⟩ := Option.bind_eq_some_iff.mp h
  rw [tupO_some h1] at r
  obtain ⟨a, vs, rfl, ha, rs⟩ := (r : ∃ a vs, v = .ref a ∧ H a = some (.tup vs) ∧ RDs K H m xs vs)
  rw [intsOf_eq h] at rs
  rw [rs.ints] at ha
  exact ⟨a, rfl, SqT.of ha⟩
theorem opC_ok (hu : X.A.units + 65 < cLine) (o : Co) : OpR X (compareOp (coOf o)) (rC X.K o) := by
  intro pins s σ H x y v u Q I rx ry ⟨H0, m, S, vx, vy, k, R, hx, hy, hb, q⟩
  have intsE : ∀ {i j : Int}, numI vx = some i → numI vy = some j → x = .int i ∧ y = .int j := fun hi hj => by
    rw [numI_some hi] at hx
    rw [numI_some hj] at hy
    exact ⟨hx, hy⟩
  have dsE : ∀ {i j : D}, dO vx = some i → dO vy = some j → RD X.K H m i x ∧ RD X.K H m j y := fun hi hj => by
    rw [dO_some hi] at hx
    rw [dO_some hj] at hy
    exact ⟨hx, hy⟩
  have insE : ∀ {d : D} {k : Bool}, dO vx = some d → inV d vy S = some k → ∃ p xs, y = .ref p ∧ (SqL X.K H p xs ∨ SqT X.K H p xs) ∧ L2.flatV x = true ∧ xs.all L2.flatV = true ∧ L2.inV x xs = k := fun {d k} h1 h2 => by
    rw [dO_some h1] at hx
    unfold inV at h2
    cases e : items vy S with
    | none => rw [e] at h2; cases h2
    | some xs =>
      rw [e] at h2
      simp only [Option.bind_some] at h2
      split at h2
      · rename_i hc
        cases h2
        have hc' : flat d = true ∧ xs.all flat = true := by simpa using hc
        obtain ⟨p, vs, rfl, r, w⟩ := items_sq R hy e
        obtain ⟨e1, e2⟩ := inF_rel hc'.1 hx hc'.2 r
        refine ⟨p, vs, rfl, ?_, flat_rel hc'.1 hx, e1, e2⟩
        rcases w with ⟨w, _⟩ | ⟨w, _⟩
        · exact .inr (SqT.of w)
        · exact .inl w
      · cases h2
  cases o with
  | eq =>
    have hb : eqV vx vy S = some k := hb
    unfold eqV at hb
    cases e0 : (dO vx).bind fun x => (dO vy).bind fun y => scalEq x y with
    | some k' =>
      rw [e0] at hb
      cases hb
      obtain ⟨d1, e1, e0⟩ := Option.bind_eq_some_iff.mp e0
      obtain ⟨d2, e2, e0⟩ := Option.bind_eq_some_iff.mp e0
      obtain ⟨h1, h2⟩ := dsE e1 e2
      obtain ⟨h3, rfl⟩ := scal_rel e0 h1 h2
      exact L2.op_eq pins s σ H _ _ v u Q I rx ry ⟨h3, q⟩
    | none =>
      rw [e0] at hb
      obtain ⟨d, e, g1, g2, g3, g4, rfl⟩ := deepEq_dp R hx hy hb
      exact L2.op_eqD (by omega) pins s σ H _ _ v u Q I rx ry ⟨d, e, g1, g2, g3, g4, q⟩
  | ne =>
    have hb : (eqV vx vy S).map not = some k := hb
    obtain ⟨k0, hc, rfl⟩ := Option.map_eq_some_iff.mp hb
    clear hb
    unfold eqV at hc
    cases e0 : (dO vx).bind fun x => (dO vy).bind fun y => scalEq x y with
    | some k' =>
      rw [e0] at hc
      cases hc
      obtain ⟨d1, e1, e0⟩ := Option.bind_eq_some_iff.mp e0
      obtain ⟨d2, e2, e0⟩ := Option.bind_eq_some_iff.mp e0
      obtain ⟨h1, h2⟩ := dsE e1 e2
      obtain ⟨h3, rfl⟩ := scal_rel e0 h1 h2
      exact L2.op_ne pins s σ H _ _ v u Q I rx ry ⟨h3, q⟩
    | none =>
      rw [e0] at hc
      obtain ⟨d, e, g1, g2, g3, g4, rfl⟩ := deepEq_dp R hx hy hc
      exact L2.op_neD (by omega) pins s σ H _ _ v u Q I rx ry ⟨d, e, g1, g2, g3, g4, q⟩
  | is =>
    cases e1 : dO vx with
    | none => simp [cmpV, e1] at hb
    | some d1 => cases e2 : dO vy with
      | none => simp [cmpV, e1, e2] at hb
      | some d2 =>
        have hb' : isD d1 d2 = some k := by simpa [cmpV, e1, e2] using hb
        obtain ⟨h1, h2⟩ := dsE e1 e2
        exact (isD_ok hb' h1 h2 I rx ry).1 q
  | isn =>
    cases e1 : dO vx with
    | none => simp [cmpV, e1] at hb
    | some d1 => cases e2 : dO vy with
      | none => simp [cmpV, e1, e2] at hb
      | some d2 => cases e3 : isD d1 d2 with
        | none => simp [cmpV, e1, e2, e3] at hb
        | some k' =>
          have hb' : (!k') = k := by simpa [cmpV, e1, e2, e3] using hb
          obtain ⟨h1, h2⟩ := dsE e1 e2
          subst hb'
          exact (isD_ok e3 h1 h2 I rx ry).2 q
  | inn =>
    have hb : ((dO vx).bind fun x => inG x vy S) = some k := hb
    obtain ⟨d1, e1, hb⟩ := Option.bind_eq_some_iff.mp hb
    unfold inG at hb
    cases e0 : inV d1 vy S with
    | some k' =>
      rw [e0] at hb
      cases hb
      obtain ⟨p, xs, rfl, h1, h2, h3, rfl⟩ := insE e1 e0
      exact L2.op_in_seq pins s σ H _ _ v u Q I rx ry ⟨p, xs, rfl, h1, h2, h3, q⟩
    | none =>
      rw [e0] at hb
      rw [dO_some e1] at hx
      obtain ⟨d, e, ds, g1, g2, g3, g4, g5, rfl⟩ := deepIn_dp R hx hy hb
      exact (op_inX hu I rx ry g1 g2 g3 g4 g5).1 q
  | nin =>
    have hb : ((dO vx).bind fun x => (inG x vy S).map not) = some k := hb
    obtain ⟨d1, e1, hb2⟩ := Option.bind_eq_some_iff.mp hb
    obtain ⟨k0, hc, rfl⟩ := Option.map_eq_some_iff.mp hb2
    clear hb hb2
    unfold inG at hc
    cases e0 : inV d1 vy S with
    | some k' =>
      rw [e0] at hc
      cases hc
      obtain ⟨p, xs, rfl, h1, h2, h3, rfl⟩ := insE e1 e0
      exact L2.op_notIn_seq pins s σ H _ _ v u Q I rx ry ⟨p, xs, rfl, h1, h2, h3, q⟩
    | none =>
      rw [e0] at hc
      rw [dO_some e1] at hx
      obtain ⟨d, e, ds, g1, g2, g3, g4, g5, rfl⟩ := deepIn_dp R hx hy hc
      exact (op_inX hu I rx ry g1 g2 g3 g4 g5).2 q
  | lt =>
    have hb : ltV vx vy = some k := hb
    unfold ltV at hb
    cases e0 : (numI vx).bind fun i => (numI vy).bind fun j => some (decide (i < j)) with
    | some k' =>
      rw [e0] at hb
      cases hb
      obtain ⟨i, e1, e0⟩ := Option.bind_eq_some_iff.mp e0
      obtain ⟨j, e2, e0⟩ := Option.bind_eq_some_iff.mp e0
      cases e0
      obtain ⟨rfl, rfl⟩ := intsE e1 e2
      exact L2.op_lt pins s σ H _ _ v u Q I rx ry ⟨i, j, rfl, rfl, q⟩
    | none =>
      rw [e0] at hb
      obtain ⟨ns, e1, hb⟩ := Option.bind_eq_some_iff.mp (show ((tupI vx).bind fun ns => (tupI vy).bind fun ms => some (lexB ns ms)) = some k from hb)
      obtain ⟨ms, e2, hb⟩ := Option.bind_eq_some_iff.mp hb
      cases hb
      obtain ⟨a, rfl, h1⟩ := tupI_rel hx e1
      obtain ⟨b, rfl, h2⟩ := tupI_rel hy e2
      refine L2.op_ltT (by omega) pins s σ H _ _ v u Q I rx ry ⟨a, b, ns, ms, rfl, rfl, h1, h2, ?_⟩
      rw [lexB_eq]
      exact q
  | le =>
    cases e1 : numI vx with
    | none => simp [cmpV, e1] at hb
    | some i => cases e2 : numI vy with
      | none => simp [cmpV, e1, e2] at hb
      | some j =>
        obtain ⟨rfl, rfl⟩ := intsE e1 e2
        have : k = decide (i ≤ j) := by simpa [cmpV, e1, e2, ordI] using hb.symm
        subst this
        exact L2.op_le pins s σ H _ _ v u Q I rx ry ⟨i, j, rfl, rfl, q⟩
  | gt =>
    cases e1 : numI vx with
    | none => simp [cmpV, e1] at hb
    | some i => cases e2 : numI vy with
      | none => simp [cmpV, e1, e2] at hb
      | some j =>
        obtain ⟨rfl, rfl⟩ := intsE e1 e2
        have : k = decide (j < i) := by simpa [cmpV, e1, e2, ordI] using hb.symm
        subst this
        exact L2.op_gt pins s σ H _ _ v u Q I rx ry ⟨i, j, rfl, rfl, q⟩
  | ge =>
    cases e1 : numI vx with
    | none => simp [cmpV, e1] at hb
    | some i => cases e2 : numI vy with
      | none => simp [cmpV, e1, e2] at hb
      | some j =>
        obtain ⟨rfl, rfl⟩ := intsE e1 e2
        have : k = decide (j ≤ i) := by simpa [cmpV, e1, e2, ordI] using hb.symm
        subst this
        exact L2.op_ge pins s σ H _ _ v u Q I rx ry ⟨i, j, rfl, rfl, q⟩
theorem so_cmp (hu : X.A.units + 65 < cLine) (o : Co) (kf : KV f) (ha : PE X a (tE X.K f)) (hb : PE X b (tE X.K g)) (hm : behindInMarks (coOf o) b = false) : PE X (.Compare a [coOf o] [b] pos) (tE X.K (sCmp o f g)) :=
  PE.imp (L2.pe_cmpR (opC_ok hu o) ha hb hm) fun σ H Q ⟨b, m, e, S, r, S', hb, R, RE, he, q⟩ => by
    obtain ⟨p1, h1, he⟩ := bind_ok he
    obtain ⟨p2, h2, he⟩ := bind_ok he
    obtain ⟨w, h3, he⟩ := bind_ok he
    cases he
    exact two_of kf hb R RE h1 h2 fun x y H' m' z R' rx ry => ⟨H, m', p2.2, p1.1, p2.1, w, R', rx, ry, ofO_ok h3, q _ H' m' z R' rfl⟩
theorem so_cmpT (hu : X.A.units + 65 < cLine) (o : Co) (kf : KV f) (ha : PE X a (tE X.K f)) (hb : PE X b (tE X.K g)) (hm : behindInMarks (coOf o) b = false) : PT X (.Compare a [coOf o] [b] pos) (tT X.K (sT (sCmp o f g))) :=
  PT.imp (L2.pt_cmpR (opC_ok hu o) ha hb hm) fun σ H Q ⟨b, m, e, S, r, S', hb, R, RE, he, q⟩ => by
    obtain ⟨p0, h0, he⟩ := bind_ok he
    obtain ⟨k, hk, he⟩ := bind_ok he
    obtain ⟨p1, h1, h0⟩ := bind_ok h0
    obtain ⟨p2, h2, h0⟩ := bind_ok h0
    obtain ⟨w, h3, h0⟩ := bind_ok h0
    have e0 : (Vl.d (.bl w), p2.2) = p0 := by injection h0
    subst e0
    have e : w = k := by have := ofO_ok hk; simpa using this
    subst e
    have e1 : (w, p2.2) = (r, S') := by injection he
    injection e1 with e1 e2
    subst e1
    subst e2
    exact two_of kf hb R RE h1 h2 fun x y H' m' z R' rx ry => ⟨H, m', p2.2, p1.1, p2.1, w, R', rx, ry, ofO_ok h3, w, rfl, q H' m' z R'⟩
end
end Pv
set_option linter.all false
set_option autoImplicit false
set_option maxRecDepth 100000
/-! What the evaluator tells, the machine does: expressions, tests, arguments. -/
namespace Pv
open PySem PySem.Spec PyProof.Rows
open L2 (V Hp HO upd upd_same upd_ne VK XK TE TT TA TS TG TGs TI It Cx PE PT PW PA PS PSs PG PGs PI Inv RelV SqL SqT OpR)

/-! ### the frame's base -/
theorem KV.two {α β γ : Type} {f : Nat → Env → Sto → Rs (α × Sto)} {g : α → Nat → Env → Sto → Rs (β × Sto)} {h : α → β → Sto → Rs γ} (kf : KV f) (kg : ∀ a, KV (g a)) :
    KV fun b e S => f b e S >>= fun r => g r.1 b e r.2 >>= fun q => h r.1 q.1 q.2 >>= fun v => .ok (v, q.2) := fun b e S r S' hb he => by
  obtain ⟨p1, h1, he⟩ := bind_ok he
  obtain ⟨p2, h2, he⟩ := bind_ok he
  obtain ⟨w, h3, he⟩ := bind_ok he
  cases he
  have k1 := kf b e S p1.1 p1.2 hb h1
  exact k1.trans (kg _ b e p1.2 p2.1 p2.2 (Nat.le_trans hb k1.len) h2)
theorem KV.one {α γ : Type} {f : Nat → Env → Sto → Rs (α × Sto)} {h : α → Sto → Rs γ} (kf : KV f) : KV fun b e S => f b e S >>= fun r => h r.1 r.2 >>= fun v => .ok (v, r.2) := fun b e S r S' hb he => by
  obtain ⟨p1, h1, he⟩ := bind_ok he
  obtain ⟨w, h3, he⟩ := bind_ok he
  cases he
  exact kf b e S p1.1 p1.2 hb h1
theorem KV.var (i : Nat) : KV (sVar i) := fun b e S r S' hb he => by
  unfold sVar at he
  split at he
  · cases he; exact Kp.refl b _
  · cases he
theorem KV.cn (c : D) : KV (sCn c) := fun b e S r S' hb he => by cases he; exact Kp.refl b _
theorem KV.bad : KV sBad := fun _ _ _ _ _ _ he => by cases he
section
variable {f g : DV} {c t u : DT} {l : DL}
theorem KV.neg (kf : KV f) : KV (sNeg f) := fun b e S r S' hb he => by
  obtain ⟨p1, h1, he⟩ := bind_ok he
  split at he
  · cases he; exact kf b e S p1.1 p1.2 hb h1
  · cases he
theorem KV.not (kf : KV f) : KV (sNot f) := fun b e S r S' hb he => by
  obtain ⟨p1, h1, he⟩ := bind_ok he
  obtain ⟨k, h2, he⟩ := bind_ok he
  cases he; exact kf b e S p1.1 p1.2 hb h1
theorem KV.bin {o : Bo} (kf : KV f) (kg : KV g) : KV (sBin o f g) := fun b e S r S' hb he => by
  obtain ⟨p1, h1, he⟩ := bind_ok he
  obtain ⟨p2, h2, he⟩ := bind_ok he
  obtain ⟨w, h3, he⟩ := bind_ok he
  cases he
  have k1 := kf b e S p1.1 p1.2 hb h1
  exact k1.trans (kg b e p1.2 p2.1 p2.2 (Nat.le_trans hb k1.len) h2)
theorem KV.cmp {o : Co} (kf : KV f) (kg : KV g) : KV (sCmp o f g) := fun b e S r S' hb he => by
  obtain ⟨p1, h1, he⟩ := bind_ok he
  obtain ⟨p2, h2, he⟩ := bind_ok he
  obtain ⟨w, h3, he⟩ := bind_ok he
  cases he
  have k1 := kf b e S p1.1 p1.2 hb h1
  exact k1.trans (kg b e p1.2 p2.1 p2.2 (Nat.le_trans hb k1.len) h2)
theorem KV.and (kf : KV f) (kg : KV g) : KV (sAnd f g) := fun b e S r S' hb he => by
  obtain ⟨p1, h1, he⟩ := bind_ok he
  obtain ⟨k, h2, he⟩ := bind_ok he
  have k1 := kf.sD b e S p1.1 p1.2 hb h1
  cases k with
  | true => exact k1.trans (kg b e p1.2 r S' (Nat.le_trans hb k1.len) he)
  | false => cases he; exact k1
theorem KV.or (kf : KV f) (kg : KV g) : KV (sOr f g) := fun b e S r S' hb he => by
  obtain ⟨p1, h1, he⟩ := bind_ok he
  obtain ⟨k, h2, he⟩ := bind_ok he
  have k1 := kf.sD b e S p1.1 p1.2 hb h1
  cases k with
  | false => exact k1.trans (kg b e p1.2 r S' (Nat.le_trans hb k1.len) he)
  | true => cases he; exact k1
theorem KV.ite (kc : KV c) (kf : KV f) (kg : KV g) : KV (sIte c f g) := fun b e S r S' hb he => by
  obtain ⟨p1, h1, he⟩ := bind_ok he
  have k1 := kc b e S p1.1 p1.2 hb h1
  split at he
  · exact k1.trans (kf b e p1.2 r S' (Nat.le_trans hb k1.len) he)
  · exact k1.trans (kg b e p1.2 r S' (Nat.le_trans hb k1.len) he)
theorem KV.tup (kl : KV l) : KV (sTup l) := fun b e S r S' hb he => by
  obtain ⟨p1, h1, he⟩ := bind_ok he
  split at he
  · cases he; exact kl b e S p1.1 p1.2 hb h1
  · cases he
theorem KV.lst (kl : KV l) : KV (sLst l) := fun b e S r S' hb he => by
  obtain ⟨p1, h1, he⟩ := bind_ok he
  split at he
  · cases he; exact kl b e S p1.1 p1.2 hb h1
  · cases he
theorem KV.idx (kf : KV f) (kg : KV g) : KV (sIdx f g) := fun b e S r S' hb he => by
  obtain ⟨p1, h1, he⟩ := bind_ok he
  obtain ⟨p2, h2, he⟩ := bind_ok he
  obtain ⟨w, h3, he⟩ := bind_ok he
  cases he
  have k1 := kf b e S p1.1 p1.2 hb h1
  exact k1.trans (kg.sD b e p1.2 p2.1 p2.2 (Nat.le_trans hb k1.len) h2)
theorem KV.oNone : KV oNone := fun b e S r S' hb he => by cases he; exact Kp.refl b _
theorem KV.oSome (kf : KV f) : KV (oSome f) := fun b e S r S' hb he => by
  obtain ⟨p1, h1, he⟩ := bind_ok he
  obtain ⟨k, h2, he⟩ := bind_ok he
  cases he; exact kf.sD b e S p1.1 p1.2 hb h1
theorem KV.sl {lo hi : DO} (kf : KV f) (kl : KV lo) (kh : KV hi) : KV (sSl f lo hi) := fun b e S r S' hb he => by
  obtain ⟨p1, h1, he⟩ := bind_ok he
  obtain ⟨p2, h2, he⟩ := bind_ok he
  obtain ⟨p3, h3, he⟩ := bind_ok he
  obtain ⟨w, h4, he⟩ := bind_ok he
  cases he
  have k1 := kf b e S p1.1 p1.2 hb h1
  have k2 := k1.trans (kl b e p1.2 p2.1 p2.2 (Nat.le_trans hb k1.len) h2)
  exact k2.trans (kh b e p2.2 p3.1 p3.2 (Nat.le_trans hb k2.len) h3)
theorem KV.rev (kf : KV f) : KV (sRev f) := fun b e S r S' hb he => by
  obtain ⟨p1, h1, he⟩ := bind_ok he
  obtain ⟨k, h2, he⟩ := bind_ok he
  cases he; exact kf b e S p1.1 p1.2 hb h1
theorem KV.f1 {o : F1} (kf : KV f) : KV (sF1 o f) := fun b e S r S' hb he => by
  obtain ⟨p1, h1, he⟩ := bind_ok he
  obtain ⟨k, h2, he⟩ := bind_ok he
  cases he; exact kf b e S p1.1 p1.2 hb h1
theorem KV.f2 {o : F2} (kf : KV f) (kg : KV g) : KV (sF2 o f g) := fun b e S r S' hb he => by
  obtain ⟨p1, h1, he⟩ := bind_ok he
  obtain ⟨p2, h2, he⟩ := bind_ok he
  obtain ⟨w, h3, he⟩ := bind_ok he
  cases he
  have k1 := kf.sD b e S p1.1 p1.2 hb h1
  exact k1.trans (kg.sD b e p1.2 p2.1 p2.2 (Nat.le_trans hb k1.len) h2)
theorem KV.isi {t : Ty} (kf : KV f) : KV (sIsi f t) := fun b e S r S' hb he => by
  obtain ⟨p1, h1, he⟩ := bind_ok he
  obtain ⟨k, h2, he⟩ := bind_ok he
  cases he; exact kf.sD b e S p1.1 p1.2 hb h1
theorem KV.ends {lo : DO} (kl : KV lo) (kg : KV g) : KV (sEnds lo g) := fun b e S r S' hb he => by
  obtain ⟨p1, h1, he⟩ := bind_ok he
  obtain ⟨p2, h2, he⟩ := bind_ok he
  obtain ⟨w, h3, he⟩ := bind_ok he
  have k1 := kl b e S p1.1 p1.2 hb h1
  split at he
  · cases he; exact k1.trans (kg.sD b e p1.2 p2.1 p2.2 (Nat.le_trans hb k1.len) h2)
  · cases he
theorem KV.mkr {t : F1} {lo : DO} (kl : KV lo) (kg : KV g) : KV (sMkr t lo g) := fun b e S r S' hb he => by
  obtain ⟨p1, h1, he⟩ := bind_ok he
  have k1 := KV.ends kl kg b e S p1.1 p1.2 hb h1
  split at he
  · split at he
    · cases he; exact k1
    · cases he; exact k1
    · cases he
  · cases he
theorem KV.sT (kf : KV f) : KV (sT f) := fun b e S r S' hb he => by
  obtain ⟨p1, h1, he⟩ := bind_ok he
  obtain ⟨k, h2, he⟩ := bind_ok he
  cases he; exact kf b e S p1.1 p1.2 hb h1
theorem KV.tAnd (kt : KV t) (ku : KV u) : KV (tAnd t u) := fun b e S r S' hb he => by
  obtain ⟨p1, h1, he⟩ := bind_ok he
  have k1 := kt b e S p1.1 p1.2 hb h1
  split at he
  · exact k1.trans (ku b e p1.2 r S' (Nat.le_trans hb k1.len) he)
  · cases he; exact k1
theorem KV.tOr (kt : KV t) (ku : KV u) : KV (tOr t u) := fun b e S r S' hb he => by
  obtain ⟨p1, h1, he⟩ := bind_ok he
  have k1 := kt b e S p1.1 p1.2 hb h1
  split at he
  · cases he; exact k1
  · exact k1.trans (ku b e p1.2 r S' (Nat.le_trans hb k1.len) he)
theorem KV.tNot (kt : KV t) : KV (tNot t) := fun b e S r S' hb he => by
  obtain ⟨p1, h1, he⟩ := bind_ok he
  cases he; exact kt b e S p1.1 p1.2 hb h1
theorem KV.tYes : KV tYes := fun b e S r S' hb he => by cases he; exact Kp.refl b _
theorem KV.lNil : KV lNil := fun b e S r S' hb he => by cases he; exact Kp.refl b _
theorem KV.lCons (kf : KV f) (kl : KV l) : KV (lCons f l) := fun b e S r S' hb he => by
  obtain ⟨p1, h1, he⟩ := bind_ok he
  obtain ⟨p2, h2, he⟩ := bind_ok he
  cases he
  have k1 := kf.sD b e S p1.1 p1.2 hb h1
  exact k1.trans (kl b e p1.2 p2.1 p2.2 (Nat.le_trans hb k1.len) h2)
end

section
variable {X : Cx} {a b c ex : Expr} {f g : DV} {pos : Pos}
/-! ### truth -/
theorem tru_list {K : PySem.W.Frag} {m : List Addr} {H H0 : Hp} {S : Sto} {x : Vl} {v : V} {xs : List D} (R : Rl K m H S) (r : RV K H0 H m x v) (h : items x S = some xs) : L2.TruV K v H (!xs.isEmpty) := by
  obtain ⟨p, vs, rfl, r, w⟩ := items_sq R r h
  have e : xs.isEmpty = vs.isEmpty := by
    have := r.length
    cases xs with
    | nil => cases vs with
      | nil => rfl
      | cons _ _ => simp at this
    | cons _ _ => cases vs with
      | nil => simp at this
      | cons _ _ => rfl
  rw [e]
  rcases w with ⟨w, _⟩ | ⟨w, _⟩
  · exact .inr (.inl ⟨vs, SqT.of w, rfl⟩)
  · exact .inl ⟨vs, w, rfl⟩
theorem truD_rel {K : PySem.W.Frag} {m : List Addr} {H H0 : Hp} {S : Sto} {x : D} {v : V} {k : Bool} (R : Rl K m H S) (r : RD K H m x v) (h : truthD x S = some k) : L2.TruV K v H k := by
  cases x with
  | non => cases (show v = .non from r); cases h; rfl
  | bl j => cases (show v = .bl j from r); cases h; rfl
  | int j => cases (show v = .int j from r); cases h; rfl
  | str j => cases h
  | tup xs => cases h; exact tru_list (H0 := H) (x := .d (.tup xs)) R r rfl
  | scr ns =>
    cases h
    have := tru_list (H0 := H) (x := .d (.scr ns)) R r rfl
    rw [show (ns.map D.int).isEmpty = ns.isEmpty from by cases ns <;> rfl] at this
    exact this
  | loc l =>
    have h' : (match S[l]? with | some (.lst xs) => some (!xs.isEmpty) | _ => none) = some k := h
    split at h'
    · rename_i xs hx
      cases h'
      exact tru_list (H0 := H) (x := .d (.loc l)) R r (by show (match S[l]? with | some (.lst xs) => some xs | _ => none) = some xs; rw [hx])
    · cases h'
theorem tru_rel {K : PySem.W.Frag} {m : List Addr} {H H0 : Hp} {S : Sto} {x : Vl} {v : V} {k : Bool} (R : Rl K m H S) (r : RV K H0 H m x v) (h : truth x S = some k) : L2.TruV K v H k := by
  cases x with
  | d x => exact truD_rel (H0 := H0) R r h
  | fr xs => cases h; exact tru_list R r rfl
/-- what isTrue does not look into -/
def plainT : Expr → Bool
  | .UnaryOp .Not _ _ => false
  | .BoolOp .. => false
  | .IfExp .. => false
  | .Compare .. => false
  | _ => true
theorem plainT_is {e : Expr} (h : plainT e = true) (env : PySem.Env) (whole : Sem Value) : isTrue e env whole = (do let v ← whole; standAt e.pos; holding [v] (truthy v)) := by
  cases e with
  | UnaryOp op x p => cases op with
    | Not => cases h
    | _ => rfl
  | BoolOp _ _ _ => cases h
  | IfExp _ _ _ _ => cases h
  | Compare _ _ _ _ => cases h
  | _ => rfl
theorem so_sT (h : plainT ex = true) (he : PE X ex (tE X.K f)) : PT X ex (tT X.K (sT f)) := PT.imp (L2.pt_truth he (plainT_is h X.env)) fun σ H Q ⟨b, m, e, S, r, S', hb, R, RE, he, q⟩ => by
  obtain ⟨p1, h1, he⟩ := bind_ok he
  obtain ⟨k, h2, he⟩ := bind_ok he
  cases he
  exact ⟨b, m, e, S, p1.1, p1.2, hb, R, RE, h1, fun v H' m' z R' rv => ⟨_, tru_rel R' rv (ofO_ok h2), q H' m' z R'⟩⟩
theorem so_not (he : PE X a (tE X.K f)) : PE X (.UnaryOp .Not a pos) (tE X.K (sNot f)) := PE.imp (L2.pe_notT he) fun σ H Q ⟨b, m, e, S, r, S', hb, R, RE, he, q⟩ => by
  obtain ⟨p1, h1, he⟩ := bind_ok he
  obtain ⟨k, h2, he⟩ := bind_ok he
  cases he
  exact ⟨b, m, e, S, p1.1, p1.2, hb, R, RE, h1, fun v H' m' z R' rv => ⟨_, tru_rel R' rv (ofO_ok h2), q _ H' m' z R' rfl⟩⟩
theorem so_tNot {t : DT} (he : PT X a (tT X.K t)) : PT X (.UnaryOp .Not a pos) (tT X.K (tNot t)) := PT.imp (L2.pt_not he) fun σ H Q ⟨b, m, e, S, r, S', hb, R, RE, he, q⟩ => by
  obtain ⟨p1, h1, he⟩ := bind_ok he
  cases he
  exact ⟨b, m, e, S, p1.1, p1.2, hb, R, RE, h1, fun H' m' z R' => q H' m' z R'⟩
theorem so_neg (he : PE X a (tE X.K f)) : PE X (.UnaryOp .USub a pos) (tE X.K (sNeg f)) := PE.imp (L2.pe_un L2.un_neg he) fun σ H Q ⟨b, m, e, S, r, S', hb, R, RE, he, q⟩ => by
  obtain ⟨p1, h1, he⟩ := bind_ok he
  refine ⟨b, m, e, S, p1.1, p1.2, hb, R, RE, h1, fun v H' m' z R' rv => ?_⟩
  split at he
  · rename_i i hi
    rw [hi] at rv
    cases (show v = .int i from rv)
    cases he
    exact ⟨i, rfl, q _ H' m' z R' rfl⟩
  · cases he
theorem so_and {rest : List Expr} (kf : KV f) (ha : PE X a (tE X.K f)) (hb : PE X (.BoolOp .And (b :: rest) pos) (tE X.K g)) : PE X (.BoolOp .And (a :: b :: rest) pos) (tE X.K (sAnd f g)) :=
  PE.imp (L2.pe_andT (so_D ha) hb) fun σ H Q ⟨b, m, e, S, r, S', hb, R, RE, he, q⟩ => by
    obtain ⟨p1, h1, he⟩ := bind_ok he
    obtain ⟨k, h2, he⟩ := bind_ok he
    have k1 := kf.sD b e S p1.1 p1.2 hb h1
    refine ⟨b, m, e, S, p1.1, p1.2, hb, R, RE, h1, fun v H' m' z R' rv => ⟨k, truD_rel (H0 := H') R' rv (ofO_ok h2), ?_⟩⟩
    cases k with
    | true => exact L2.iteT ⟨b, m', e, p1.2, r, S', Nat.le_trans hb k1.len, R', RE.mono z, he, fun w H2 m2 z2 R2 rw_ => q w H2 m2 (z.trans z2) R2 (RV.from z z2 rw_)⟩
    | false => cases he; exact L2.iteF (q v H' m' z R' rv)
theorem so_or {rest : List Expr} (kf : KV f) (ha : PE X a (tE X.K f)) (hb : PE X (.BoolOp .Or (b :: rest) pos) (tE X.K g)) : PE X (.BoolOp .Or (a :: b :: rest) pos) (tE X.K (sOr f g)) :=
  PE.imp (L2.pe_orT (so_D ha) hb) fun σ H Q ⟨b, m, e, S, r, S', hb, R, RE, he, q⟩ => by
    obtain ⟨p1, h1, he⟩ := bind_ok he
    obtain ⟨k, h2, he⟩ := bind_ok he
    have k1 := kf.sD b e S p1.1 p1.2 hb h1
    refine ⟨b, m, e, S, p1.1, p1.2, hb, R, RE, h1, fun v H' m' z R' rv => ⟨k, truD_rel (H0 := H') R' rv (ofO_ok h2), ?_⟩⟩
    cases k with
    | false => exact L2.iteF ⟨b, m', e, p1.2, r, S', Nat.le_trans hb k1.len, R', RE.mono z, he, fun w H2 m2 z2 R2 rw_ => q w H2 m2 (z.trans z2) R2 (RV.from z z2 rw_)⟩
    | true => cases he; exact L2.iteT (q v H' m' z R' rv)
theorem so_tAnd {t u : DT} {rest : List Expr} (kt : KV t) (ha : PT X a (tT X.K t)) (hb : PW X (.BoolOp .And (b :: rest) pos) (tT X.K u)) : PW X (.BoolOp .And (a :: b :: rest) pos) (tT X.K (tAnd t u)) :=
  PW.imp (L2.pw_and ha hb) fun σ H Q ⟨b, m, e, S, r, S', hb, R, RE, he, q⟩ => by
    obtain ⟨p1, h1, he⟩ := bind_ok he
    have k1 := kt b e S p1.1 p1.2 hb h1
    refine ⟨b, m, e, S, p1.1, p1.2, hb, R, RE, h1, fun H' m' z R' => ?_⟩
    cases e1 : p1.1 with
    | true =>
      rw [e1] at he
      exact L2.iteT ⟨b, m', e, p1.2, r, S', Nat.le_trans hb k1.len, R', RE.mono z, he, fun H2 m2 z2 R2 => q H2 m2 (z.trans z2) R2⟩
    | false => rw [e1] at he; cases he; exact L2.iteF (q H' m' z R')
theorem so_tOr {t u : DT} {rest : List Expr} (kt : KV t) (ha : PT X a (tT X.K t)) (hb : PW X (.BoolOp .Or (b :: rest) pos) (tT X.K u)) : PW X (.BoolOp .Or (a :: b :: rest) pos) (tT X.K (tOr t u)) :=
  PW.imp (L2.pw_or ha hb) fun σ H Q ⟨b, m, e, S, r, S', hb, R, RE, he, q⟩ => by
    obtain ⟨p1, h1, he⟩ := bind_ok he
    have k1 := kt b e S p1.1 p1.2 hb h1
    refine ⟨b, m, e, S, p1.1, p1.2, hb, R, RE, h1, fun H' m' z R' => ?_⟩
    cases e1 : p1.1 with
    | false =>
      rw [e1] at he
      exact L2.iteF ⟨b, m', e, p1.2, r, S', Nat.le_trans hb k1.len, R', RE.mono z, he, fun H2 m2 z2 R2 => q H2 m2 (z.trans z2) R2⟩
    | true => rw [e1] at he; cases he; exact L2.iteT (q H' m' z R')
theorem so_ite {t : DT} (kt : KV t) (hc : PT X c (tT X.K t)) (ha : PE X a (tE X.K f)) (hb : PE X b (tE X.K g)) : PE X (.IfExp c a b pos) (tE X.K (sIte t f g)) :=
  PE.imp (L2.pe_ifExp hc ha hb) fun σ H Q ⟨b, m, e, S, r, S', hb, R, RE, he, q⟩ => by
    obtain ⟨p1, h1, he⟩ := bind_ok he
    have k1 := kt b e S p1.1 p1.2 hb h1
    refine ⟨b, m, e, S, p1.1, p1.2, hb, R, RE, h1, fun H' m' z R' => ?_⟩
    cases e1 : p1.1 with
    | true =>
      rw [e1] at he
      exact L2.iteT ⟨b, m', e, p1.2, r, S', Nat.le_trans hb k1.len, R', RE.mono z, he, fun w H2 m2 z2 R2 rw_ => q w H2 m2 (z.trans z2) R2 (RV.from z z2 rw_)⟩
    | false =>
      rw [e1] at he
      exact L2.iteF ⟨b, m', e, p1.2, r, S', Nat.le_trans hb k1.len, R', RE.mono z, he, fun w H2 m2 z2 R2 rw_ => q w H2 m2 (z.trans z2) R2 (RV.from z z2 rw_)⟩

/-! ### argument lists -/
def noStar : Expr → Bool
  | .Starred .. => false
  | _ => true
theorem star1 {e : Expr} (h : noStar e = true) (es : List Expr) (env : PySem.Env) : starEach (e :: es) env = (false, eval e env) :: starEach es env := by
  cases e <;> first | rfl | cases h
theorem so_lNil : PA X [] (tL X.K lNil) := PA.imp L2.pa_nil fun σ H Q ⟨b, m, e, S, r, S', hb, R, RE, he, q⟩ => by
  cases he
  exact q [] H m (Le.refl H m) R rfl
theorem so_lCons {es : List Expr} {l : DL} (h : noStar a = true) (kf : KV f) (ha : PE X a (tE X.K f)) (hl : PA X es (tL X.K l)) : PA X (a :: es) (tL X.K (lCons f l)) :=
  PA.imp (L2.pa_cons (so_D ha) hl (star1 h es X.env)) fun σ H Q ⟨b, m, e, S, r, S', hb, R, RE, he, q⟩ => by
    obtain ⟨p1, h1, he⟩ := bind_ok he
    obtain ⟨p2, h2, he⟩ := bind_ok he
    cases he
    have k1 := kf.sD b e S p1.1 p1.2 hb h1
    exact ⟨b, m, e, S, p1.1, p1.2, hb, R, RE, h1, fun v H' m' z R' rv => ⟨b, m', e, p1.2, p2.1, p2.2, Nat.le_trans hb k1.len, R', RE.mono z, h2, fun vs H2 m2 z2 R2 rvs => q _ H2 m2 (z.trans z2) R2 ⟨v, vs, rfl, rv.mono z2, rvs⟩⟩⟩
theorem so_tup {es : List Expr} {l : DL} {x1 : Nat} (hl : PA X es (tL X.K l)) : PE X (.Tuple es x1 pos) (tE X.K (sTup l)) := PE.imp (L2.pe_tup hl) fun σ H Q ⟨b, m, e, S, r, S', hb, R, RE, he, q⟩ => by
  obtain ⟨p1, h1, he⟩ := bind_ok he
  split at he
  · rename_i hn
    cases he
    exact ⟨b, m, e, S, p1.1, p1.2, hb, R, RE, h1, fun vs H' m' z R' rv => ⟨by rw [← rv.length]; exact hn, RV.laid R' rv fun w H2 m2 z2 R2 r2 => q w H2 m2 (z.trans z2) R2 (RV.from z z2 r2)⟩⟩
  · cases he
theorem so_lst {es : List Expr} {l : DL} (hl : PA X es (tL X.K l)) : PE X (.List es pos) (tE X.K (sLst l)) := PE.imp (L2.pe_lst hl) fun σ H Q ⟨b, m, e, S, r, S', hb, R, RE, he, q⟩ => by
  obtain ⟨p1, h1, he⟩ := bind_ok he
  split at he
  · rename_i hn
    cases he
    exact ⟨b, m, e, S, p1.1, p1.2, hb, R, RE, h1, fun vs H' m' z R' rv => ⟨by rw [← rv.length]; exact hn, RV.laidL R' rv fun w H2 m2 z2 R2 r2 => q w H2 m2 (z.trans z2) R2 (RV.from z z2 r2)⟩⟩
  · cases he

/-! ### subscripts -/
theorem ixN_eq (n : Nat) (i : Int) : L2.ixN n i = ixN n i := rfl
theorem RDs.atI {K : PySem.W.Frag} {H : Hp} {m : List Addr} {xs : List D} {vs : List V} {i : Int} {x : D} (r : RDs K H m xs vs) (h : atI xs i = some x) : ∃ v, L2.atI vs i = some v ∧ RD K H m x v := by
  unfold Pv.atI at h
  cases e : ixN xs.length i with
  | none => rw [e] at h; cases h
  | some j =>
    rw [e] at h
    obtain ⟨v, h1, h2⟩ := r.get (show xs[j]? = some x from h)
    refine ⟨v, ?_, h2⟩
    unfold L2.atI
    rw [← r.length, ixN_eq, e]
    exact h1
def noSlice : Expr → Bool
  | .Slice .. => false
  | _ => true
theorem plainIx {e : Expr} (h : noSlice e = true) : L2.PlainIx e := by
  intro o i
  cases e <;> first | rfl | cases h
theorem so_idx (h : noSlice b = true) (kf : KV f) (ha : PE X a (tE X.K f)) (hb : PE X b (tE X.K g)) : PE X (.Subscript a b pos) (tE X.K (sIdx f g)) :=
  PE.imp (L2.pe_ix L2.ix_seq ha (so_D hb) (plainIx h)) fun σ H Q ⟨b, m, e, S, r, S', hb, R, RE, he, q⟩ => by
    obtain ⟨p1, h1, he⟩ := bind_ok he
    obtain ⟨p2, h2, he⟩ := bind_ok he
    obtain ⟨w, h3, he⟩ := bind_ok he
    have e1 : (Vl.d w, p2.2) = (r, S') := by injection he
    injection e1 with e1 e2
    subst e1
    subst e2
    have k1 := kf b e S p1.1 p1.2 hb h1
    refine ⟨b, m, e, S, p1.1, p1.2, hb, R, RE, h1, fun x H1 m1 z1 R1 rx => ⟨b, m1, e, p1.2, p2.1, p2.2, Nat.le_trans hb k1.len, R1, RE.mono z1, h2, fun y H2 m2 z2 R2 ry => ?_⟩⟩
    have h3' := ofO_ok h3
    unfold idxV at h3'
    split at h3'
    · rename_i i hi
      rw [hi] at ry
      cases (show y = .int i from ry)
      cases e3 : items p1.1 p2.2 with
      | none => rw [e3] at h3'; cases h3'
      | some xs =>
        rw [e3] at h3'
        obtain ⟨p, vs, rfl, r3, w3⟩ := items_sq R2 (rx.mono z2) e3
        obtain ⟨v, h4, h5⟩ := r3.atI (show atI xs i = some w from h3')
        rcases w3 with ⟨w3, _⟩ | ⟨w3, _⟩
        · exact .inr (.inl ⟨p, vs, i, v, rfl, rfl, SqT.of w3, h4, q v H2 m2 (z1.trans z2) R2 h5⟩)
        · exact .inl ⟨p, vs, i, v, rfl, rfl, w3, h4, q v H2 m2 (z1.trans z2) R2 h5⟩
    · cases h3'

/-! ### slices -/
def tO (K : PySem.W.Frag) (f : DO) : L2.TO := fun σ H Q => ∃ (b : Nat) (m : List Addr) (e : Env) (S : Sto) (r : Option Int) (S' : Sto), b ≤ S.length ∧ Rl K m H S ∧ RE K H m e σ ∧ f b e S = .ok (r, S') ∧
  ∀ H' m', Le H m H' m' → Rl K m' H' S' → Q r H'
theorem PO.imp {e : Option Expr} {t t' : L2.TO} (h : L2.PO X e t) (k : ∀ σ H Q, t' σ H Q → t σ H Q) : L2.PO X e t' := ⟨fun pins s σ H Q I q => h.run pins s σ H Q I (k σ H Q q)⟩
theorem so_oNone : L2.PO X none (tO X.K oNone) := PO.imp L2.po_none fun σ H Q ⟨b, m, e, S, r, S', hb, R, RE, he, q⟩ => by
  cases he
  exact q H m (Le.refl H m) R
theorem so_oSome (ha : PE X a (tE X.K f)) : L2.PO X (some a) (tO X.K (oSome f)) := PO.imp (L2.po_some (so_D ha)) fun σ H Q ⟨b, m, e, S, r, S', hb, R, RE, he, q⟩ => by
  obtain ⟨p1, h1, he⟩ := bind_ok he
  obtain ⟨i, h2, he⟩ := bind_ok he
  cases he
  refine ⟨b, m, e, S, p1.1, p1.2, hb, R, RE, h1, fun v H' m' z R' rv => ?_⟩
  have h2' := ofO_ok h2
  unfold intO at h2'
  split at h2'
  · rename_i j hj
    rw [hj] at rv
    cases h2'
    exact ⟨i, rv, q H' m' z R'⟩
  · cases h2'
theorem sIx_eq (n d : Nat) (o : Option Int) : HT.sIx n d o = sIx n d o := by cases o <;> rfl
theorem RDs.cut {K : PySem.W.Frag} {H : Hp} {m : List Addr} {xs : List D} {vs : List V} (r : RDs K H m xs vs) (lo hi : Option Int) : RDs K H m (cut xs lo hi) (L2.cutV vs lo hi) := by
  unfold Pv.cut L2.cutV
  rw [← r.length, sIx_eq, sIx_eq]
  exact (r.drop _).take _
theorem so_sl {lo hi : Option Expr} {l u : DO} {p2 : Pos} (kf : KV f) (kl : KV l) (ku : KV u) (ha : PE X a (tE X.K f)) (hl : L2.PO X lo (tO X.K l)) (hu : L2.PO X hi (tO X.K u)) : PE X (.Subscript a (.Slice lo hi none p2) pos) (tE X.K (sSl f l u)) :=
  PE.imp (L2.pe_slice (L2.SlR.or L2.sl_tupA L2.sl_list) ha hl hu) fun σ H Q ⟨b, m, e, S, r, S', hb, R, RE, he, q⟩ => by
    obtain ⟨p1, h1, he⟩ := bind_ok he
    obtain ⟨p2, h2, he⟩ := bind_ok he
    obtain ⟨p3, h3, he⟩ := bind_ok he
    obtain ⟨w, h4, he⟩ := bind_ok he
    have e1 : (w, p3.2) = (r, S') := by injection he
    injection e1 with e1 e2
    subst e1
    subst e2
    have k1 := kf b e S p1.1 p1.2 hb h1
    have k2 := kl b e p1.2 p2.1 p2.2 (Nat.le_trans hb k1.len) h2
    refine ⟨b, m, e, S, p1.1, p1.2, hb, R, RE, h1, fun x H1 m1 z1 R1 rx => ⟨b, m1, e, p1.2, p2.1, p2.2, Nat.le_trans hb k1.len, R1, RE.mono z1, h2, fun H2 m2 z2 R2 => ⟨b, m2, e, p2.2, p3.1, p3.2, Nat.le_trans hb (Nat.le_trans k1.len k2.len), R2, RE.mono (z1.trans z2), h3, fun H3 m3 z3 R3 => ?_⟩⟩⟩
    have h4' := ofO_ok h4
    have z : Le H m H3 m3 := z1.trans (z2.trans z3)
    have rx3 := rx.mono (z2.trans z3)
    have lists : ∀ {xs : List D}, items p1.1 p3.2 = some xs → tupO p1.1 = none → w = .fr (cut xs p2.1 p3.1) → L2.rSlL X.K x p2.1 p3.1 H3 Q := fun {xs} e1 e2 e3 => by
      obtain ⟨p, vs, rfl, r3, w3⟩ := items_sq R3 rx3 e1
      rcases w3 with ⟨_, w3⟩ | ⟨w3, _⟩
      · rw [w3] at e2; cases e2
      · subst e3
        exact ⟨p, vs, rfl, w3, RV.laidL R3 (r3.cut _ _) fun t H4 m4 z4 R4 r4 => q t H4 m4 (z.trans z4) R4 (RV.from z z4 r4)⟩
    unfold sliceV at h4'
    split at h4'
    · rename_i xs hx
      cases h4'
      rw [hx] at rx3
      obtain ⟨p, vs, rfl, hp, r3⟩ := (rx3 : ∃ a vs, x = .ref a ∧ H3 a = some (.tup vs) ∧ RDs X.K H3 m3 xs vs)
      refine .inl ⟨p, vs, rfl, SqT.of hp, fun hw => ?_, fun _ => RV.laid R3 (r3.cut _ _) fun t H4 m4 z4 R4 r4 => q t H4 m4 (z.trans z4) R4 (RV.from z z4 r4)⟩
      refine q _ H3 m3 z R3 ⟨p, vs, rfl, hp, ?_⟩
      have ew : cut xs p2.1 p3.1 = xs := by
        unfold cut
        rw [← sIx_eq, ← sIx_eq, r3.length, hw.1, hw.2]
        simp [← r3.length]
      rw [ew]; exact r3
    · rename_i hx
      cases e3 : items p1.1 p3.2 with
      | none => rw [e3] at h4'; cases h4'
      | some xs =>
        rw [e3] at h4'
        refine .inr (lists e3 ?_ ?_)
        · cases e5 : tupO p1.1 with
          | none => rfl
          | some ys => exact (hx ys (tupO_some e5)).elim
        · simpa using h4'.symm
end
end Pv
set_option linter.all false
set_option autoImplicit false
set_option maxRecDepth 100000
/-! What the evaluator tells, the machine does: built-in functions, methods. -/
namespace Pv
open PySem PySem.Spec PyProof.Rows
open L2 (V Hp HO upd upd_same upd_ne VK XK TE TT TA TS TG TGs TI It Cx PE PT PW PA PS PSs PG PGs PI Inv RelV SqL SqT OpR CallR Gl)

theorem maxI_spec : ∀ {ns : List Int} {m : Int}, maxI ns = some m → m ∈ ns ∧ ∀ y ∈ ns, y ≤ m
  | [], _, h => by cases h
  | x :: xs, m, h => by
    unfold maxI at h
    cases e : maxI xs with
    | none =>
      rw [e] at h
      cases h
      cases xs with
      | nil => exact ⟨by simp, fun y hy => by simp at hy; omega⟩
      | cons y ys => unfold maxI at e; split at e <;> cases e
    | some k =>
      rw [e] at h
      obtain ⟨h1, h2⟩ := maxI_spec e
      cases h
      split
      · exact ⟨by simp, fun y hy => by rcases List.mem_cons.mp hy with rfl | hy; exact Int.le_refl _; exact Int.le_trans (h2 y hy) (by omega)⟩
      · exact ⟨List.mem_cons_of_mem _ h1, fun y hy => by rcases List.mem_cons.mp hy with rfl | hy; omega; exact h2 y hy⟩
theorem minI_spec : ∀ {ns : List Int} {m : Int}, minI ns = some m → m ∈ ns ∧ ∀ y ∈ ns, m ≤ y
  | [], _, h => by cases h
  | x :: xs, m, h => by
    unfold minI at h
    cases e : minI xs with
    | none =>
      rw [e] at h
      cases h
      cases xs with
      | nil => exact ⟨by simp, fun y hy => by simp at hy; omega⟩
      | cons y ys => unfold minI at e; split at e <;> cases e
    | some k =>
      rw [e] at h
      obtain ⟨h1, h2⟩ := minI_spec e
      cases h
      split
      · exact ⟨by simp, fun y hy => by rcases List.mem_cons.mp hy with rfl | hy; exact Int.le_refl _; exact Int.le_trans (by omega) (h2 y hy)⟩
      · exact ⟨List.mem_cons_of_mem _ h1, fun y hy => by rcases List.mem_cons.mp hy with rfl | hy; omega; exact h2 y hy⟩
theorem insI_perm (x : Int) : ∀ ys : List Int, (insI x ys).Perm (x :: ys)
  | [] => List.Perm.refl _
  | y :: ys => by
    unfold insI
    split
    · exact List.Perm.refl _
    · exact (List.Perm.cons y (insI_perm x ys)).trans (List.Perm.swap x y ys)
theorem sortI_perm : ∀ xs : List Int, (sortI xs).Perm xs
  | [] => List.Perm.refl _
  | x :: xs => (insI_perm x _).trans (List.Perm.cons x (sortI_perm xs))
theorem insI_sorted (x : Int) : ∀ {ys : List Int}, ys.Pairwise (· ≤ ·) → (insI x ys).Pairwise (· ≤ ·)
  | [], _ => by simp [insI]
  | y :: ys, h => by
    unfold insI
    split
    · rename_i hxy
      refine List.pairwise_cons.mpr ⟨fun z hz => ?_, h⟩
      rcases List.mem_cons.mp hz with rfl | hz
      · exact hxy
      · exact Int.le_trans hxy ((List.pairwise_cons.mp h).1 z hz)
    · refine List.pairwise_cons.mpr ⟨fun z hz => ?_, insI_sorted x (List.pairwise_cons.mp h).2⟩
      have := (insI_perm x ys).mem_iff.mp hz
      rcases List.mem_cons.mp this with rfl | hz
      · omega
      · exact (List.pairwise_cons.mp h).1 z hz
theorem sortI_sorted : ∀ xs : List Int, (sortI xs).Pairwise (· ≤ ·)
  | [] => List.Pairwise.nil
  | x :: xs => insI_sorted x (sortI_sorted xs)
theorem sorted_same {a b : List Int} (hp : a.Perm b) (ha : a.Pairwise (· ≤ ·)) (hb : b.Pairwise (· ≤ ·)) : a = b :=
  List.Perm.eq_of_pairwise (fun x y _ _ h1 h2 => by omega) ha hb hp
theorem intsOf_map : ∀ {xs : List D} {ns : List Int}, intsOf xs = some ns → xs = ns.map .int
  | [], ns, h => by cases h; rfl
  | x :: xs, ns, h => by
    cases x with
    | int i =>
      unfold intsOf at h
      cases e : intsOf xs with
      | none => rw [e] at h; cases h
      | some r => rw [e] at h; cases h; rw [intsOf_map e]; rfl
    | _ => cases h
theorem intsOf_of : ∀ (ns : List Int), intsOf (ns.map .int) = some ns
  | [] => rfl
  | n :: ns => by simp [intsOf, intsOf_of ns]
theorem RDs.of_ints {K : PySem.W.Frag} {H : Hp} {m : List Addr} : ∀ (ns : List Int), RDs K H m (ns.map .int) (ns.map V.int)
  | [] => rfl
  | n :: ns => ⟨.int n, _, rfl, rfl, RDs.of_ints ns⟩
section
variable {X : Cx} {a b c ex : Expr} {f g : DV} {pos : Pos}
theorem listV_at {K : PySem.W.Frag} {m : List Addr} {H H0 : Hp} {S : Sto} {x : Vl} {v : V} {xs : List D} (R : Rl K m H S) (r : RV K H0 H m x v) (h : listV x S = some xs) : ∃ p vs, v = .ref p ∧ SqL K H p vs ∧ RDs K H m xs vs := by
  unfold listV at h
  split at h
  · cases h
  · rename_i ht
    obtain ⟨p, vs, rfl, r3, w3⟩ := items_sq R r h
    rcases w3 with ⟨_, w3⟩ | ⟨w3, _⟩
    · rw [w3] at ht; cases ht
    · exact ⟨p, vs, rfl, w3, r3⟩

/-! ### built-in functions of one argument -/
def rF1 (K : PySem.W.Frag) (o : F1) : List V → Hp → VK → Prop := fun xs H Q => ∃ (H0 : Hp) (m : List Addr) (S : Sto) (x : V) (vx v : Vl), xs = [x] ∧ Rl K m H S ∧ RV K H0 H m vx x ∧ app1 o vx S = some v ∧
  ∀ z H' m', Le H m H' m' → Rl K m' H' S → RV K H H' m' v z → Q z H'
def f1Name : F1 → Str
  | .len => "len" | .abs => "abs" | .int => "int" | .tuple => "tuple" | .list => "list" | .max => "max" | .min => "min" | .sum => "sum" | .sorted => "sorted" | .bool => "bool" | .any => "any" | .all => "all"
def f1Val : F1 → Value
  | .len => .builtin "len" | .abs => .builtin "abs" | .int => .type "int" | .tuple => .type "tuple" | .list => .type "list" | .max => .builtin "max" | .min => .builtin "min" | .sum => .builtin "sum" | .sorted => .builtin "sorted" | .bool => .type "bool" | .any => .builtin "any" | .all => .builtin "all"
theorem callF1 (hc : X.calm = true) (o : F1) : CallR X (f1Val o) (rF1 X.K o) := by
  intro pins s σ H xs us Q I r ⟨H0, m, S, x, vx, v, ex, R, rx, ha, q⟩
  subst ex
  cases o with
  | len =>
    cases e : items vx S with
    | none => simp [app1, e] at ha
    | some xs =>
      have hv : v = .d (.int xs.length) := by simpa [app1, e] using ha.symm
      obtain ⟨p, vs, rfl, r3, w3⟩ := items_sq R rx e
      refine L2.call_len_seq pins s σ H _ us Q I r ⟨p, vs, rfl, ?_, q _ H m (Le.refl H m) R (by rw [hv, r3.length]; rfl)⟩
      rcases w3 with ⟨w3, _⟩ | ⟨w3, _⟩
      · exact .inr (SqT.of w3)
      · exact .inl w3
  | abs =>
    cases vx with
    | fr ys => cases ha
    | d d => cases d with
      | int i =>
        cases ha
        cases (show x = .int i from rx)
        exact L2.call_abs pins s σ H _ us Q I r ⟨i, rfl, q _ H m (Le.refl H m) R rfl⟩
      | _ => cases ha
  | int =>
    cases vx with
    | fr ys => cases ha
    | d d => cases d with
      | int i =>
        cases ha
        cases (show x = .int i from rx)
        exact L2.call_int1 pins s σ H _ us Q I r (.inl ⟨i, rfl, q _ H m (Le.refl H m) R rfl⟩)
      | bl i =>
        cases ha
        cases (show x = .bl i from rx)
        exact L2.call_int1 pins s σ H _ us Q I r (.inr ⟨i, rfl, q _ H m (Le.refl H m) R rfl⟩)
      | _ => cases ha
  | tuple =>
    cases e : items vx S with
    | none => simp [app1, e] at ha
    | some xs =>
      have hv : v = .d (.tup xs) := by simpa [app1, e] using ha.symm
      subst hv
      obtain ⟨p, vs, rfl, r3, w3⟩ := items_sq R rx e
      refine L2.call_tuple_of pins s σ H _ us Q I r ⟨p, vs, rfl, ?_⟩
      rcases w3 with ⟨w3, _⟩ | ⟨w3, _⟩
      · exact .inr ⟨SqT.of w3, q _ H m (Le.refl H m) R ⟨p, vs, rfl, w3, r3⟩⟩
      · exact .inl ⟨w3, RV.laid R r3 q⟩
  | list =>
    cases e : items vx S with
    | none => simp [app1, e] at ha
    | some xs =>
      have hv : v = .fr xs := by simpa [app1, e] using ha.symm
      subst hv
      obtain ⟨p, vs, rfl, r3, w3⟩ := items_sq R rx e
      refine L2.call_list_of pins s σ H _ us Q I r ⟨p, vs, rfl, ?_, RV.laidL R r3 q⟩
      rcases w3 with ⟨w3, _⟩ | ⟨w3, _⟩
      · exact .inr (SqT.of w3)
      · exact .inl w3
  | max =>
    cases e : listV vx S with
    | none => simp [app1, e] at ha
    | some xs => cases e2 : intsOf xs with
      | none => simp [app1, e, e2] at ha
      | some ns => cases e3 : maxI ns with
        | none => simp [app1, e, e2, e3] at ha
        | some k =>
          have hv : v = .d (.int k) := by simpa [app1, e, e2, e3] using ha.symm
          subst hv
          obtain ⟨p, vs, rfl, w3, r3⟩ := listV_at R rx e
          rw [intsOf_map e2] at r3
          rw [r3.ints] at w3
          obtain ⟨k1, k2⟩ := maxI_spec e3
          refine L2.cr_max hc pins s σ H _ us Q I r ⟨p, ns, rfl, w3, List.length_pos_of_mem k1, fun j h1 h2 => ?_⟩
          have ej : j = k := Int.le_antisymm (k2 j h1) (h2 k k1)
          subst ej
          exact q _ H m (Le.refl H m) R rfl
  | min =>
    cases e : listV vx S with
    | none => simp [app1, e] at ha
    | some xs => cases e2 : intsOf xs with
      | none => simp [app1, e, e2] at ha
      | some ns => cases e3 : minI ns with
        | none => simp [app1, e, e2, e3] at ha
        | some k =>
          have hv : v = .d (.int k) := by simpa [app1, e, e2, e3] using ha.symm
          subst hv
          obtain ⟨p, vs, rfl, w3, r3⟩ := listV_at R rx e
          rw [intsOf_map e2] at r3
          rw [r3.ints] at w3
          obtain ⟨k1, k2⟩ := minI_spec e3
          refine L2.cr_min hc pins s σ H _ us Q I r ⟨p, ns, rfl, w3, List.length_pos_of_mem k1, fun j h1 h2 => ?_⟩
          have ej : j = k := Int.le_antisymm (h2 k k1) (k2 j h1)
          subst ej
          exact q _ H m (Le.refl H m) R rfl
  | sum =>
    cases e : listV vx S with
    | none => simp [app1, e] at ha
    | some xs => cases e2 : intsOf xs with
      | none => simp [app1, e, e2] at ha
      | some ns =>
          have hv : v = .d (.int ns.sum) := by simpa [app1, e, e2] using ha.symm
          subst hv
          obtain ⟨p, vs, rfl, w3, r3⟩ := listV_at R rx e
          rw [intsOf_map e2] at r3
          rw [r3.ints] at w3
          exact L2.cr_sum hc pins s σ H _ us Q I r ⟨p, ns, rfl, w3, q _ H m (Le.refl H m) R rfl⟩
  | sorted =>
    cases e : listV vx S with
    | none => simp [app1, e] at ha
    | some xs => cases e2 : intsOf xs with
      | none => simp [app1, e, e2] at ha
      | some ns =>
          have hv : v = .fr ((sortI ns).map .int) := by simpa [app1, e, e2] using ha.symm
          subst hv
          obtain ⟨p, vs, rfl, w3, r3⟩ := listV_at R rx e
          rw [intsOf_map e2] at r3
          rw [r3.ints] at w3
          refine L2.cr_sortedI pins s σ H _ us Q I r ⟨p, ns, rfl, w3, fun ns' p' hp hs hn => ?_⟩
          have en : ns' = sortI ns := sorted_same (hp.trans (sortI_perm ns).symm) hs (sortI_sorted ns)
          subst en
          exact RV.laidL R (RDs.of_ints _) q p' hn
  | _ => cases ha
def bltin : F1 → Bool
  | .int => false | .tuple => false | .list => false | .bool => false
  | _ => true
theorem so_f1 (o : F1) (hc : X.calm = true) {p : Pos} (h : noStar a = true) (hg : Gl X (f1Name o)) (hm : X.mg (f1Name o) = none) (ha : PE X a (tE X.K f)) : PE X (.Call (.Name (f1Name o) p) [a] [] pos) (tE X.K (sF1 o f)) := by
  have hA : PA X [a] (L2.tCons (tE X.K f) L2.tNil) := L2.pa_cons ha L2.pa_nil (star1 h [] X.env)
  have k : ∀ σ H Q, tE X.K (sF1 o f) σ H Q → L2.tCB (rF1 X.K o) (L2.tCons (tE X.K f) L2.tNil) σ H Q := fun σ H Q ⟨b, m, e, S, r, S', hb, R, RE, he, q⟩ => by
    obtain ⟨p1, h1, he⟩ := bind_ok he
    obtain ⟨w, h2, he⟩ := bind_ok he
    have e1 : (w, p1.2) = (r, S') := by injection he
    injection e1 with e1 e2
    subst e1
    subst e2
    exact ⟨b, m, e, S, p1.1, p1.2, hb, R, RE, h1, fun v H' m' z R' rv => ⟨H, m', p1.2, v, p1.1, w, rfl, R', rv, ofO_ok h2, fun t H2 m2 z2 R2 rt => q t H2 m2 (z.trans z2) R2 (RV.from z z2 rt)⟩⟩
  refine PE.imp ?_ k
  have hs := star1 h [] X.env
  cases o with
  | len => exact L2.pe_callB (callF1 hc .len) hg hm boot_len hA (by decide) (by decide) hs rfl
  | abs => exact L2.pe_callB (callF1 hc .abs) hg hm boot_abs hA (by decide) (by decide) hs rfl
  | max => exact L2.pe_callB (callF1 hc .max) hg hm boot_max hA (by decide) (by decide) hs rfl
  | min => exact L2.pe_callB (callF1 hc .min) hg hm boot_min hA (by decide) (by decide) hs rfl
  | sum => exact L2.pe_callB (callF1 hc .sum) hg hm boot_sum hA (by decide) (by decide) hs rfl
  | sorted => exact L2.pe_callB (callF1 hc .sorted) hg hm boot_sorted hA (by decide) (by decide) hs rfl
  | any => exact L2.pe_callB (callF1 hc .any) hg hm boot_any hA (by decide) (by decide) hs rfl
  | all => exact L2.pe_callB (callF1 hc .all) hg hm boot_all hA (by decide) (by decide) hs rfl
  | int => exact L2.pe_callTy (callF1 hc .int) hg hm boot_int hA (by decide) (by decide) hs rfl
  | tuple => exact L2.pe_callTy (callF1 hc .tuple) hg hm boot_tuple hA (by decide) (by decide) hs rfl
  | list => exact L2.pe_callTy (callF1 hc .list) hg hm boot_list hA (by decide) (by decide) hs rfl
  | bool => exact L2.pe_callTy (callF1 hc .bool) hg hm boot_bool hA (by decide) (by decide) hs rfl

/-! ### max, min of two -/
def f2Name : F2 → Str
  | .max => "max" | .min => "min"
def f2Id : F2 → String
  | .max => "max" | .min => "min"
def rF2 (K : PySem.W.Frag) (o : F2) : List V → Hp → VK → Prop := fun xs H Q => ∃ (i j : Int) (k : D), xs = [.int i, .int j] ∧ app2 o (.int i) (.int j) = some k ∧ ∀ z, RD K H [] k z → Q z H
theorem so_f2 (o : F2) (hc : X.calm = true) {p : Pos} (h : noStar a = true) (h' : noStar b = true) (hg : Gl X (f2Name o)) (hm : X.mg (f2Name o) = none) (kf : KV f) (ha : PE X a (tE X.K f)) (hb : PE X b (tE X.K g)) :
    PE X (.Call (.Name (f2Name o) p) [a, b] [] pos) (tE X.K (sF2 o f g)) := by
  have hA : PA X [a, b] (L2.tCons (tD X.K (sD f)) (L2.tCons (tD X.K (sD g)) L2.tNil)) := L2.pa_cons (so_D ha) (L2.pa_cons (so_D hb) L2.pa_nil (star1 h' [] X.env)) (star1 h [b] X.env)
  have hs := star1 h [b] X.env
  have hpl : (backTo pos (starEach [b] X.env)).any (·.1) = false := by rw [star1 h' [] X.env]; rfl
  have two : ∀ {σ : L2.St} {H : Hp} {Q : VK} {r : List V → Hp → VK → Prop}, tE X.K (sF2 o f g) σ H Q → (∀ (i j : Int) (k : D) (H' : Hp), app2 o (.int i) (.int j) = some k → (∀ z, (∃ n, k = .int n ∧ z = .int n) → Q z H') → r [.int i, .int j] H' Q) → L2.tCB r (L2.tCons (tD X.K (sD f)) (L2.tCons (tD X.K (sD g)) L2.tNil)) σ H Q := fun {σ H Q r} ⟨b, m, e, S, w, S', hb, R, RE, he, q⟩ hr => by
    obtain ⟨p1, h1, he⟩ := bind_ok he
    obtain ⟨p2, h2, he⟩ := bind_ok he
    obtain ⟨k, h3, he⟩ := bind_ok he
    have e1 : (Vl.d k, p2.2) = (w, S') := by injection he
    injection e1 with e1 e2
    subst e1
    subst e2
    have k1 := kf.sD b e S p1.1 p1.2 hb h1
    refine ⟨b, m, e, S, p1.1, p1.2, hb, R, RE, h1, fun x H1 m1 z1 R1 rx => ⟨b, m1, e, p1.2, p2.1, p2.2, Nat.le_trans hb k1.len, R1, RE.mono z1, h2, fun y H2 m2 z2 R2 ry => ?_⟩⟩
    have h3' := ofO_ok h3
    have hk : ∃ i j : Int, p1.1 = .int i ∧ p2.1 = .int j := by
      unfold app2 at h3'
      split at h3'
      · exact ⟨_, _, ‹_›, ‹_›⟩
      · exact ⟨_, _, ‹_›, ‹_›⟩
      · cases h3'
    obtain ⟨i, j, e1, e2⟩ := hk
    rw [e1] at rx h3'
    rw [e2] at ry h3'
    cases (show x = .int i from rx)
    cases (show y = .int j from ry)
    exact hr i j k H2 h3' fun z ⟨n, e4, e5⟩ => q z H2 m2 (z1.trans z2) R2 (by subst e4; subst e5; rfl)
  cases o with
  | max =>
    refine PE.imp (L2.pe_callB (L2.call_max2 hc) hg hm boot_max hA (by decide) (by decide) hs hpl) fun σ H Q w => two w fun i j k H' e q => ⟨i, j, rfl, q _ ?_⟩
    cases e
    exact ⟨_, rfl, rfl⟩
  | min =>
    refine PE.imp (L2.pe_callB (L2.call_min2 hc) hg hm boot_min hA (by decide) (by decide) hs hpl) fun σ H Q w => two w fun i j k H' e q => ⟨i, j, rfl, q _ ?_⟩
    cases e
    exact ⟨_, rfl, rfl⟩

/-! ### isinstance -/
def tyName : Ty → Str
  | .int => "int" | .bool => "bool" | .str => "str" | .tuple => "tuple" | .list => "list"
def tyId : Ty → String
  | .int => "int" | .bool => "bool" | .str => "str" | .tuple => "tuple" | .list => "list"
theorem boot_ty (t : Ty) : bootBuiltins (tyName t) = some (.type (tyId t)) := by
  cases t with
  | int => exact boot_int
  | bool => exact boot_bool
  | str => exact boot_str
  | tuple => exact boot_tuple
  | list => exact boot_list
theorem isTy_ok {K : PySem.W.Frag} {m : List Addr} {H : Hp} {S : Sto} {x : D} {v : V} {t : Ty} {k : Bool} (R : Rl K m H S) (r : RD K H m x v) (h : isTy x t S = some k) : ∃ u, L2.TyX K H v u ∧ PySem.W.kitOne K u (.type (tyId t)) = some k := by
  cases x with
  | non => cases (show v = .non from r); refine ⟨_, .base .non, ?_⟩; cases h; cases t <;> exact L2.kit_ty (by decide +kernel)
  | bl j => cases (show v = .bl j from r); refine ⟨_, .base (.bl j), ?_⟩; cases h; cases t <;> exact L2.kit_ty (by decide +kernel)
  | int j => cases (show v = .int j from r); refine ⟨_, .base (.int j), ?_⟩; cases h; cases t <;> exact L2.kit_ty (by decide +kernel)
  | str j => cases (show v = .str j from r); refine ⟨_, .base (.str j), ?_⟩; cases h; cases t <;> exact L2.kit_ty (by decide +kernel)
  | tup xs =>
    obtain ⟨p, vs, rfl, hp, _⟩ := (r : ∃ a vs, v = .ref a ∧ H a = some (.tup vs) ∧ RDs K H m xs vs)
    refine ⟨_, .base (.tup hp), ?_⟩
    cases h; cases t <;> exact L2.kit_ty (by decide +kernel)
  | scr ns => cases h
  | loc l =>
    obtain ⟨p, hp, rfl⟩ := (r : ∃ a, m[l]? = some a ∧ v = .ref a)
    have h' : (match S[l]? with | some (.lst _) => some (t == .list) | _ => none) = some k := h
    split at h'
    · rename_i ys hy
      cases h'
      obtain ⟨vs, h1, h2⟩ := R.lst hp hy
      refine ⟨_, .base (.lst h1), ?_⟩
      cases t <;> exact L2.kit_ty (by decide +kernel)
    · cases h'
theorem so_isi (t : Ty) {p p2 : Pos} (h : noStar a = true) (hg : Gl X "isinstance") (hm : X.mg "isinstance" = none) (hg2 : Gl X (tyName t)) (hm2 : X.mg (tyName t) = none) (kf : KV f) (ha : PE X a (tE X.K f)) :
    PE X (.Call (.Name "isinstance" p) [a, .Name (tyName t) p2] [] pos) (tE X.K (sIsi f t)) := by
  have hT : PE X (.Name (tyName t) p2) (L2.tC (.ty (tyId t))) := L2.pe_bltn hg2 hm2 (boot_ty t) rfl (by cases t <;> decide) (by cases t <;> decide)
  have hA : PA X [a, .Name (tyName t) p2] (L2.tCons (tD X.K (sD f)) (L2.tCons (L2.tC (.ty (tyId t))) L2.tNil)) := L2.pa_cons (so_D ha) (L2.pa_cons hT L2.pa_nil rfl) (star1 h _ X.env)
  refine PE.imp (L2.pe_callB L2.call_isi hg hm boot_isinstance hA (by decide) (by decide) (star1 h _ X.env) rfl) fun σ H Q ⟨b, m, e, S, w, S', hb, R, RE, he, q⟩ => ?_
  obtain ⟨p1, h1, he⟩ := bind_ok he
  obtain ⟨k, h3, he⟩ := bind_ok he
  cases he
  refine ⟨b, m, e, S, p1.1, p1.2, hb, R, RE, h1, fun x H1 m1 z1 R1 rx => ?_⟩
  obtain ⟨u, h4, h5⟩ := isTy_ok R1 rx (ofO_ok h3)
  exact ⟨x, _, u, _, k, rfl, .ty _, h4, h5, q _ H1 m1 z1 R1 rfl⟩

/-! ### list(range(..)), tuple(range(..)) -/
theorem so_ends1 {p : Pos} (h : noStar b = true) (hg : Gl X "range") (hm : X.mg "range" = none) (hb : PE X b (tE X.K g)) :
    ∃ t, L2.PRg X (.Call (.Name "range" p) [b] [] pos) t ∧ ∀ σ H (Q : Int → Int → Hp → Prop), (∃ (b : Nat) (m : List Addr) (e : Env) (S : Sto) (r : Int × Int) (S' : Sto), b ≤ S.length ∧ Rl X.K m H S ∧ RE X.K H m e σ ∧ sEnds oNone g b e S = .ok (r, S') ∧ ∀ H' m', Le H m H' m' → Rl X.K m' H' S' → Q r.1 r.2 H') → t σ H Q := by
  refine ⟨_, L2.prg_1 hg hm (so_D hb) (star1 h [] X.env), fun σ H Q ⟨b, m, e, S, r, S', hb, R, RE, he, q⟩ => ?_⟩
  obtain ⟨p0, h0, he⟩ := bind_ok he
  cases h0
  obtain ⟨p1, h1, he⟩ := bind_ok he
  obtain ⟨j, h2, he⟩ := bind_ok he
  refine ⟨b, m, e, S, p1.1, p1.2, hb, R, RE, h1, fun v H' m' z R' rv => ?_⟩
  have h2' := ofO_ok h2
  unfold intO at h2'
  split at h2'
  · rename_i i hi
    rw [hi] at rv
    cases h2'
    split at he
    · cases he; exact ⟨_, rv, q H' m' z R'⟩
    · cases he
  · cases h2'
theorem so_ends2 {p : Pos} (h : noStar a = true) (h' : noStar b = true) (hg : Gl X "range") (hm : X.mg "range" = none) (kf : KV f) (ha : PE X a (tE X.K f)) (hb : PE X b (tE X.K g)) :
    ∃ t, L2.PRg X (.Call (.Name "range" p) [a, b] [] pos) t ∧ ∀ σ H (Q : Int → Int → Hp → Prop), (∃ (b : Nat) (m : List Addr) (e : Env) (S : Sto) (r : Int × Int) (S' : Sto), b ≤ S.length ∧ Rl X.K m H S ∧ RE X.K H m e σ ∧ sEnds (oSome f) g b e S = .ok (r, S') ∧ ∀ H' m', Le H m H' m' → Rl X.K m' H' S' → Q r.1 r.2 H') → t σ H Q := by
  refine ⟨_, L2.prg_2 hg hm (so_D ha) (so_D hb) (star1 h [b] X.env) (star1 h' [] X.env) (by rw [star1 h' [] X.env]; rfl), fun σ H Q ⟨b, m, e, S, r, S', hb, R, RE, he, q⟩ => ?_⟩
  obtain ⟨p0, h0, he⟩ := bind_ok he
  obtain ⟨q0, h00, h0⟩ := bind_ok h0
  obtain ⟨i, h01, h0⟩ := bind_ok h0
  cases h0
  obtain ⟨p1, h1, he⟩ := bind_ok he
  obtain ⟨j, h2, he⟩ := bind_ok he
  have k1 := kf.sD b e S q0.1 q0.2 hb h00
  refine ⟨b, m, e, S, q0.1, q0.2, hb, R, RE, h00, fun x H1 m1 z1 R1 rx => ⟨b, m1, e, q0.2, p1.1, p1.2, Nat.le_trans hb k1.len, R1, RE.mono z1, h1, fun y H2 m2 z2 R2 ry => ?_⟩⟩
  have h2' := ofO_ok h2
  have h1' := ofO_ok h01
  unfold intO at h1' h2'
  split at h1'
  · rename_i i' hi
    rw [hi] at rx
    cases h1'
    split at h2'
    · rename_i j' hj
      rw [hj] at ry
      cases h2'
      split at he
      · cases he; exact ⟨_, _, rx, ry, q H2 m2 (z1.trans z2) R2⟩
      · cases he
    · cases h2'
  · cases h1'
theorem ends_bd {lo : DO} {b : Nat} {e : Env} {S S' : Sto} {r : Int × Int} (h : sEnds lo g b e S = .ok (r, S')) : (-4611686018427387904 ≤ r.1 ∧ r.1 < 4611686018427387904) ∧ (-4611686018427387904 ≤ r.2 ∧ r.2 < 4611686018427387904) := by
  obtain ⟨p0, h0, he⟩ := bind_ok h
  obtain ⟨p1, h1, he⟩ := bind_ok he
  obtain ⟨j, h2, he⟩ := bind_ok he
  split at he
  · cases he; assumption
  · cases he
theorem rgD_rel {K : PySem.W.Frag} {H : Hp} {m : List Addr} (i j : Int) : RDs K H m (rngD i j) (L2.rgV i j) := by
  unfold rngD L2.rgV
  refine RDs.of_get (by simp) fun n x v e1 e2 => ?_
  rw [List.getElem?_map] at e1 e2
  cases e : (List.range (j - i).toNat)[n]? with
  | none => rw [e] at e1; cases e1
  | some k => rw [e] at e1 e2; cases e1; cases e2; rfl
theorem so_mkr (t : F1) {lo : DO} {er : Expr} {p : Pos} {tr : L2.St → Hp → (Int → Int → Hp → Prop) → Prop} (hc : X.calm = true) (h : noStar er = true) (hg : Gl X (f1Name t)) (hm : X.mg (f1Name t) = none) (hr : L2.PRg X er tr)
    (k : ∀ σ H (Q : Int → Int → Hp → Prop), (∃ (b : Nat) (m : List Addr) (e : Env) (S : Sto) (r : Int × Int) (S' : Sto), b ≤ S.length ∧ Rl X.K m H S ∧ RE X.K H m e σ ∧ sEnds lo g b e S = .ok (r, S') ∧ ∀ H' m', Le H m H' m' → Rl X.K m' H' S' → Q r.1 r.2 H') → tr σ H Q) (ht : t = .list ∨ t = .tuple) :
    PE X (.Call (.Name (f1Name t) p) [er] [] pos) (tE X.K (sMkr t lo g)) := by
  rcases ht with rfl | rfl
  · refine PE.imp (L2.pe_listRg hc hg hm hr (star1 h [] X.env)) fun σ H Q ⟨b, m, e, S, r, S', hb, R, RE, he, q⟩ => ?_
    obtain ⟨p1, h1, he⟩ := bind_ok he
    split at he
    · rename_i hl
      cases he
      have hd := ends_bd h1
      refine k σ H _ ⟨b, m, e, S, p1.1, p1.2, hb, R, RE, h1, fun H' m' z R' => ⟨⟨by omega, by omega, by omega, by omega, hl⟩, RV.laidL R' (rgD_rel _ _) fun w H2 m2 z2 R2 r2 => q w H2 m2 (z.trans z2) R2 (RV.from z z2 r2)⟩⟩
    · cases he
  · refine PE.imp (L2.pe_tupRg hc hg hm hr (star1 h [] X.env)) fun σ H Q ⟨b, m, e, S, r, S', hb, R, RE, he, q⟩ => ?_
    obtain ⟨p1, h1, he⟩ := bind_ok he
    split at he
    · rename_i hl
      cases he
      have hd := ends_bd h1
      refine k σ H _ ⟨b, m, e, S, p1.1, p1.2, hb, R, RE, h1, fun H' m' z R' => ⟨⟨by omega, by omega, by omega, by omega, hl⟩, RV.laid R' (rgD_rel _ _) fun w H2 m2 z2 R2 r2 => q w H2 m2 (z.trans z2) R2 (RV.from z z2 r2)⟩⟩
    · cases he
theorem so_rev {k : Nat} {p1 p2 p3 : Pos} (ha : PE X a (tE X.K f)) : PE X (.Subscript a (.Slice none none (some (.UnaryOp .USub (.Constant (.int 1) k p1) p2)) p3) pos) (tE X.K (sRev f)) :=
  PE.imp (L2.pe_revL ha) fun σ H Q ⟨b, m, e, S, r, S', hb, R, RE, he, q⟩ => by
    obtain ⟨p1, h1, he⟩ := bind_ok he
    obtain ⟨w, h2, he⟩ := bind_ok he
    have e1 : (w, p1.2) = (r, S') := by injection he
    injection e1 with e1 e2
    subst e1
    subst e2
    refine ⟨b, m, e, S, p1.1, p1.2, hb, R, RE, h1, fun v H' m' z R' rv => ?_⟩
    have h2' := ofO_ok h2
    unfold revV at h2'
    split at h2'
    · cases h2'
    · rename_i ht
      cases e3 : items p1.1 p1.2 with
      | none => rw [e3] at h2'; cases h2'
      | some xs =>
        rw [e3] at h2'
        have hw : w = .fr xs.reverse := by simpa using h2'.symm
        subst hw
        obtain ⟨p, vs, rfl, r3, w3⟩ := items_sq R' rv e3
        rcases w3 with ⟨_, w3⟩ | ⟨w3, _⟩
        · rw [w3] at ht; cases ht
        · exact ⟨p, vs, rfl, w3, RV.laidL R' r3.reverse fun t H4 m4 z4 R4 r4 => q t H4 m4 (z.trans z4) R4 (RV.from z z4 r4)⟩
end
end Pv
set_option linter.all false
set_option autoImplicit false
set_option maxRecDepth 100000
/-! What the evaluator tells, the machine does: methods, targets, what is walked. -/
namespace Pv
open PySem PySem.Spec PyProof.Rows
open L2 (V Hp HO upd upd_same upd_ne VK XK TE TT TA TS TG TGs TI It Cx PE PT PW PA PS PSs PG PGs PI Inv RelV SqL SqT OpR CallR Gl)
theorem seq_ix {n : Nat} {i : Int} {j : Nat} (h : ixN n i = some j) : seqIndex? i n = some j ∧ j < n ∧ -(n : Int) ≤ i ∧ i < n := L2.ixN_seq h
theorem meth1_app {b : Nat} {o x : D} {S S' : Sto} {w : Vl} (h : meth1 b .append o x S = .ok (w, S')) : ∃ l xs, o = .loc l ∧ S[l]? = some (.lst xs) ∧ xs.length < line ∧ wr b l x ∧ w = .d .non ∧ S' = S.set l (.lst (xs ++ [x])) := by
  cases o with
  | loc l =>
    unfold meth1 at h
    simp only at h
    split at h
    · rename_i xs hx
      split at h
      · rename_i hc
        have e1 : (Vl.d .non, S.set l (.lst (xs ++ [x]))) = (w, S') := by injection h
        injection e1 with e1 e2
        exact ⟨l, xs, rfl, hx, hc.1, hc.2, e1.symm, e2.symm⟩
      · cases h
    · cases h
  | _ => cases h
theorem meth1_pop {b : Nat} {o x : D} {S S' : Sto} {w : Vl} (h : meth1 b .pop o x S = .ok (w, S')) : ∃ l xs i j y, o = .loc l ∧ x = .int i ∧ S[l]? = some (.lst xs) ∧ ixN xs.length i = some j ∧ xs[j]? = some y ∧ w = .d y ∧ S' = S.set l (.lst (xs.eraseIdx j)) := by
  cases o with
  | loc l => cases x with
    | int i =>
      unfold meth1 at h
      simp only at h
      split at h
      · rename_i xs _ hx hi
        cases hi
        split at h
        · rename_i j hj
          split at h
          · rename_i y hy
            have e1 : (Vl.d y, S.set l (.lst (xs.eraseIdx j))) = (w, S') := by injection h
            injection e1 with e1 e2
            exact ⟨l, xs, i, j, y, rfl, rfl, hx, hj, hy, e1.symm, e2.symm⟩
          · cases h
        · cases h
      · cases h
    | _ =>
      unfold meth1 at h
      simp only at h
      split at h <;> first | cases h | (rename_i hi; cases hi)
  | _ => cases h
theorem meth0_pop {o : D} {S S' : Sto} {w : Vl} (h : meth0 .pop o S = .ok (w, S')) : ∃ l xs y, o = .loc l ∧ S[l]? = some (.lst xs) ∧ xs[xs.length - 1]? = some y ∧ w = .d y ∧ S' = S.set l (.lst xs.dropLast) := by
  cases o with
  | loc l =>
    unfold meth0 at h
    simp only at h
    split at h
    · rename_i xs hx
      split at h
      · rename_i y hy
        have e1 : (Vl.d y, S.set l (.lst xs.dropLast)) = (w, S') := by injection h
        injection e1 with e1 e2
        exact ⟨l, xs, y, rfl, hx, hy, e1.symm, e2.symm⟩
      · cases h
    · cases h
  | _ => cases h
theorem meth0_rev {o : D} {S S' : Sto} {w : Vl} (h : meth0 .reverse o S = .ok (w, S')) : ∃ l xs, o = .loc l ∧ S[l]? = some (.lst xs) ∧ w = .d .non ∧ S' = S.set l (.lst xs.reverse) := by
  cases o with
  | loc l =>
    unfold meth0 at h
    simp only at h
    split at h
    · rename_i xs hx
      have e1 : (Vl.d .non, S.set l (.lst xs.reverse)) = (w, S') := by injection h
      injection e1 with e1 e2
      exact ⟨l, xs, rfl, hx, e1.symm, e2.symm⟩
    · cases h
  | _ => cases h
theorem KV.m0 {f : DV} {m : M0} (kf : KV f) : KV (sM0 m f) := fun b e S r S' hb he => by
  obtain ⟨p1, h1, he⟩ := bind_ok he
  have k1 := kf.sD b e S p1.1 p1.2 hb h1
  refine k1.trans ?_
  unfold meth0 at he
  split at he
  · split at he
    · rename_i xs hx
      split at he
      · cases he
        refine Kp.set fun n hn w hl => ?_
        have := w _ _ hl hx
        refine ubL_mem.mpr fun y hy => (ubL_mem.mp this) y (List.dropLast_subset _ hy)
      · cases he
    · cases he
  · split at he
    · rename_i xs hx
      cases he
      refine Kp.set fun n hn w hl => ?_
      have := w _ _ hl hx
      exact ubL_mem.mpr fun y hy => (ubL_mem.mp this) y (List.mem_reverse.mp hy)
    · cases he
  · cases he
theorem wr_ub {b l n : Nat} {x : D} (h : wr b l x) (hn : n ≤ b) (hl : l < n) : x.ub n = true := by
  rcases h with h | h
  · exact pure_ub h
  · omega
theorem KV.m1 {f g : DV} {m : M1} (kf : KV f) (kg : KV g) : KV (sM1 m f g) := fun b e S r S' hb he => by
  obtain ⟨p1, h1, he⟩ := bind_ok he
  obtain ⟨_, _, he⟩ := bind_ok he
  obtain ⟨p2, h2, he⟩ := bind_ok he
  have k1 := kf.sD b e S p1.1 p1.2 hb h1
  have k2 := k1.trans (kg.sD b e p1.2 p2.1 p2.2 (Nat.le_trans hb k1.len) h2)
  refine k2.trans ?_
  unfold meth1 at he
  split at he
  · split at he
    · rename_i xs hx
      split at he
      · rename_i hc
        cases he
        refine Kp.set fun n hn w hl => ?_
        have := w _ _ hl hx
        show ubL n (xs ++ [p2.1]) = true
        rw [ubL_append, show ubL n xs = true from this]
        simp [ubL, wr_ub hc.2 hn hl]
      · cases he
    · cases he
  · split at he
    · rename_i xs i hx hi
      split at he
      · split at he
        · cases he
          refine Kp.set fun n hn w hl => ?_
          have := w _ _ hl hx
          exact ubL_mem.mpr fun y hy => (ubL_mem.mp this) y (List.eraseIdx_subset hy)
        · cases he
      · cases he
    · cases he
  · split at he
    · split at he
      · split at he
        · cases he
          exact Kp.refl b _
        · cases he
      · cases he
    · cases he
  · cases he
theorem meth1_idx {b : Nat} {o x : D} {S S' : Sto} {w : Vl} (h : meth1 b .index o x S = .ok (w, S')) : ∃ l ds d j z, o = .loc l ∧ pyD pyF S (.loc l) = some (.list ds) ∧ pyD pyF S x = some d ∧ SeqAt.shaped (.list ds) = true ∧ SeqAt.shaped d = true ∧ ds[j]? = some z ∧ PyData.eqv z d = true ∧ (∀ (m : Nat) (z' : PyData), m < j → ds[m]? = some z' → PyData.eqv z' d = false) ∧ w = .d (.int (j : Nat)) ∧ S' = S := by
  cases o with
  | loc l =>
    unfold meth1 at h
    simp only at h
    split at h
    · rename_i ds d h1 h2
      split at h
      · rename_i hs
        split at h
        · rename_i j hj
          have e1 : (Vl.d (.int (j : Nat)), S) = (w, S') := by injection h
          injection e1 with e1 e2
          obtain ⟨hl, hz, hn⟩ := List.findIdx?_eq_some_iff_getElem.mp hj
          refine ⟨l, ds, d, j, ds[j], rfl, h1, h2, hs.1, hs.2, List.getElem?_eq_getElem hl, hz, fun m z' hm hz' => ?_, e1.symm, e2.symm⟩
          obtain ⟨hml, e⟩ := List.getElem?_eq_some_iff.mp hz'
          have := hn m hm
          rw [e] at this
          simpa using this
        · cases h
      · cases h
    · cases h
  | _ => cases h
theorem setI_kp {b : Nat} {o i x : D} {S S' : Sto} (h : setI b o i x S = .ok S') : Kp b S S' := by
  unfold setI at h
  split at h
  · split at h
    · rename_i xs hx
      split at h
      · split at h
        · rename_i hc
          cases h
          refine Kp.set fun n hn w hl => ?_
          have := w _ _ hl hx
          refine ubL_mem.mpr fun y hy => ?_
          rcases List.mem_or_eq_of_mem_set hy with hy | rfl
          · exact (ubL_mem.mp this) y hy
          · exact wr_ub hc hn hl
        · cases h
      · cases h
    · cases h
  · cases h
/-- targets -/
def KG {β : Type} (g : Nat → β → Env → Sto → Rs (Env × Sto)) : Prop := ∀ (b : Nat) (x : β) (e : Env) (S : Sto) (e' : Env) (S' : Sto), b ≤ S.length → g b x e S = .ok (e', S') → Kp b S S' ∧ e'.length = e.length
theorem KG.var (i : Nat) : KG (gVar i) := fun b x e S e' S' hb he => by cases he; exact ⟨Kp.refl b _, by simp⟩
theorem KG.sub {o i : DV} (ko : KV o) (ki : KV i) : KG (gSub o i) := fun b x e S e' S' hb he => by
  obtain ⟨p1, h1, he⟩ := bind_ok he
  obtain ⟨p2, h2, he⟩ := bind_ok he
  obtain ⟨S2, h3, he⟩ := bind_ok he
  cases he
  have k1 := ko.sD b e S p1.1 p1.2 hb h1
  exact ⟨(k1.trans (ki.sD b e p1.2 p2.1 p2.2 (Nat.le_trans hb k1.len) h2)).trans (setI_kp h3), rfl⟩
theorem KG.tup {g : DGs} (kg : KG g) : KG (gTup g) := fun b x e S e' S' hb he => by
  unfold gTup at he
  split at he
  · exact kg b _ e S e' S' hb he
  · cases he
theorem KG.nil : KG gNil := fun b x e S e' S' hb he => by
  unfold gNil at he
  split at he
  · cases he; exact ⟨Kp.refl b _, rfl⟩
  · cases he
theorem KG.cons {t : DG} {ts : DGs} (kt : KG t) (ks : KG ts) : KG (gCons t ts) := fun b x e S e' S' hb he => by
  unfold gCons at he
  split at he
  · cases he
  · obtain ⟨p1, h1, he⟩ := bind_ok he
    obtain ⟨k1, l1⟩ := kt b _ e S p1.1 p1.2 hb h1
    obtain ⟨k2, l2⟩ := ks b _ p1.1 p1.2 e' S' (Nat.le_trans hb k1.len) he
    exact ⟨k1.trans k2, l2.trans l1⟩

section
variable {X : Cx} {a b c ex : Expr} {f g : DV} {pos : Pos}
/-! ### methods of lists -/
def plainO : Expr → Bool
  | .Name .. => true
  | .Subscript .. => true
  | _ => false
theorem attr_plain {o : Expr} (h : plainO o = true) (name : Str) (env : PySem.Env) (w : Sem Value) : attributeBase o name env w = w := by
  cases o with
  | Name _ _ => rfl
  | Subscript _ _ _ => rfl
  | _ => cases h
theorem recv_at {K : PySem.W.Frag} {m : List Addr} {H : Hp} {S : Sto} {x : D} {v : V} {u : Unit} (R : Rl K m H S) (r : RD K H m x v) (h : recv x S = some u) : L2.tyV K "list" v H := by
  unfold recv at h
  split at h
  · rename_i l
    obtain ⟨p, hp, rfl⟩ := (r : ∃ a, m[l]? = some a ∧ v = .ref a)
    split at h
    · rename_i ys hy
      obtain ⟨vs, h1, h2⟩ := R.lst hp hy
      exact .inl ⟨rfl, vs, SqL.of h1⟩
    · cases h
  · cases h
theorem few1 {e : Expr} (h : noStar e = true) (cpos : Pos) (env : PySem.Env) : ((backTo cpos (starEach (e :: []) env)).all (fun x => !x.1) && (backToKw cpos (keywordEach [] env)).all (fun x => x.1.isSome)
      && decide ((e :: ([] : List Expr)).length + ([] : List Keyword).length + (if ([] : List Keyword).isEmpty then 0 else 1) < 30)) = true := by
  rw [star1 h [] env]; rfl
/-- pop(i), the list's length bounded by the machine -/
theorem mt_pop : L2.MtR X "list.pop" (fun x vs H Q => ∃ l xs i k y, x = .ref l ∧ vs = [.int i] ∧ H l = some (.lst xs) ∧ ixN xs.length i = some k ∧ xs[k]? = some y ∧ Q y (upd H l (.lst (xs.eraseIdx k)))) := by
  intro pins s σ H x vs v us Q I rx r ⟨l, xs, i, k, y, e1, e2, h1, h2, h3, q⟩
  obtain ⟨s1, s2, s3, s4⟩ := seq_ix h2
  have hz : xs.length ≤ sizeLine := (I.lstM h1).1
  have hz' : xs.length ≤ 16777216 := hz
  exact L2.mt_popAt pins s σ H x vs v us Q I rx r ⟨l, xs, i, k, y, e1, e2, h1, by omega, by omega, s1, h3, q⟩
def m1Name : M1 → Str
  | .append => "append" | .pop => "pop" | .extend => "extend" | .index => "index" | .get => "get"
theorem so_m1 (hu : X.A.units + 65 < cLine) (m : M1) {apos cpos : Pos} (hm : m = .append ∨ m = .pop ∨ m = .index) (ho : plainO a = true) (h : noStar b = true) (hl : (apos.endLine == cpos.line) = true) (kf : KV f) (ha : PE X a (tE X.K f)) (hb : PE X b (tE X.K g)) :
    PE X (.Call (.Attribute a (m1Name m) apos) [b] [] cpos) (tE X.K (sM1 m f g)) := by
  have hA : PA X [b] (L2.tCons (tD X.K (sD g)) L2.tNil) := L2.pa_cons (so_D hb) L2.pa_nil (star1 h [] X.env)
  have core : ∀ {σ : L2.St} {H : Hp} {Q : VK} {r : V → List V → Hp → VK → Prop}, tE X.K (sM1 m f g) σ H Q → (∀ (x y : V) (dx dy : D) (H' : Hp) (m' : List Addr) (S S' : Sto) (w : Vl) (b' : Nat), Rl X.K m' H' S → RD X.K H' m' dx x → RD X.K H' m' dy y → meth1 b' m dx dy S = .ok (w, S') →
      (∀ z H2 m2, Le H' m' H2 m2 → Rl X.K m2 H2 S' → RV X.K H' H2 m2 w z → Q z H2) → r x [y] H' Q) → L2.tBM X.K "list" r (tD X.K (sD f)) (L2.tCons (tD X.K (sD g)) L2.tNil) σ H Q := fun {σ H Q r} ⟨b, m0, e, S, w, S', hb, R, RE, he, q⟩ hr => by
    obtain ⟨p1, h1, he⟩ := bind_ok he
    obtain ⟨u, h0, he⟩ := bind_ok he
    obtain ⟨p2, h2, he⟩ := bind_ok he
    have k1 := kf.sD b e S p1.1 p1.2 hb h1
    refine ⟨b, m0, e, S, p1.1, p1.2, hb, R, RE, h1, fun x H1 m1 z1 R1 rx => ⟨recv_at R1 rx (ofO_ok h0), b, m1, e, p1.2, p2.1, p2.2, Nat.le_trans hb k1.len, R1, RE.mono z1, h2, fun y H2 m2 z2 R2 ry => ?_⟩⟩
    exact hr x y p1.1 p2.1 H2 m2 p2.2 S' w b R2 (rx.mono z2) ry he fun z H3 m3 z3 R3 r3 => q z H3 m3 (z1.trans (z2.trans z3)) R3 (RV.from (z1.trans z2) z3 r3)
  rcases hm with rfl | rfl | rfl
  · refine PE.imp (L2.pe_bm PySem.F.plainAttrs_list PySem.F.slot_list_append PySem.F.type_list_append L2.mt_append (so_D ha) hA (attr_plain ho _ _ _) (few1 h _ _) hl (star1 h [] X.env) rfl) fun σ H Q w => core w fun x y dx dy H' m' S S' w b' R rx ry he q => ?_
    obtain ⟨l, xs, rfl, hx, hc, _, rfl, rfl⟩ := meth1_app he
    obtain ⟨p, hp, rfl⟩ := (rx : ∃ a, m'[l]? = some a ∧ x = .ref a)
    obtain ⟨vs, h1, h2⟩ := R.lst hp hx
    obtain ⟨z, R'⟩ := R.write (ys := xs ++ [dy]) (ws := vs ++ [y]) hp hx h1 (h2.append ⟨y, [], rfl, ry, rfl⟩)
    exact ⟨p, vs, y, rfl, rfl, h1, by rw [← h2.length]; exact hc, q _ _ m' z R' rfl⟩
  · refine PE.imp (L2.pe_bm PySem.F.plainAttrs_list PySem.F.slot_list_pop PySem.F.type_list_pop mt_pop (so_D ha) hA (attr_plain ho _ _ _) (few1 h _ _) hl (star1 h [] X.env) rfl) fun σ H Q w => core w fun x y dx dy H' m' S S' w b' R rx ry he q => ?_
    obtain ⟨l, xs, i, j, y0, rfl, rfl, hx, hj, hy, rfl, rfl⟩ := meth1_pop he
    cases (show y = .int i from ry)
    obtain ⟨p, hp, rfl⟩ := (rx : ∃ a, m'[l]? = some a ∧ x = .ref a)
    obtain ⟨vs, h1, h2⟩ := R.lst hp hx
    obtain ⟨v, h3, h4⟩ := h2.get hy
    obtain ⟨z, R'⟩ := R.write hp hx h1 (h2.eraseIdx j)
    exact ⟨p, vs, i, j, v, rfl, rfl, h1, by rw [← h2.length]; exact hj, h3, q _ _ m' z R' (h4.mono z)⟩
  · refine PE.imp (L2.pe_bm PySem.F.plainAttrs_list PySem.F.slot_list_index PySem.F.type_list_index (L2.mt_indexD hu) (so_D ha) hA (attr_plain ho _ _ _) (few1 h _ _) hl (star1 h [] X.env) rfl) fun σ H Q w => core w fun x y dx dy H' m' S S' w b' R rx ry he q => ?_
    obtain ⟨l, ds, d, j, z, rfl, h1, h2, s1, s2, hz, hzd, hno, rfl, rfl⟩ := meth1_idx he
    have d1 := pyD_dp R _ _ _ _ rx h1
    have d2 := pyD_dp R _ _ _ _ ry h2
    obtain ⟨p, hp, rfl⟩ := (rx : ∃ a, m'[l]? = some a ∧ x = .ref a)
    exact ⟨p, y, d, ds, j, z, rfl, rfl, d1, d2, s1, s2, hz, hzd, hno, q _ _ m' (Le.refl _ _) R rfl⟩
def m0Name : M0 → Str
  | .pop => "pop" | .reverse => "reverse"
theorem so_m0 (m : M0) {apos cpos : Pos} (ho : plainO a = true) (hl : (apos.endLine == cpos.line) = true) (ha : PE X a (tE X.K f)) : PE X (.Call (.Attribute a (m0Name m) apos) [] [] cpos) (tE X.K (sM0 m f)) := by
  cases m with
  | pop =>
    refine PE.imp (L2.pe_bm0 PySem.F.plainAttrs_list PySem.F.slot_list_pop PySem.F.type_list_pop L2.mt_pop (so_D ha) (attr_plain ho _ _ _) hl) fun σ H Q ⟨b, m0, e, S, w, S', hb, R, RE, he, q⟩ => ?_
    obtain ⟨p1, h1, he⟩ := bind_ok he
    refine ⟨b, m0, e, S, p1.1, p1.2, hb, R, RE, h1, fun x H1 m1 z1 R1 rx => ?_⟩
    obtain ⟨l, xs, y, hl0, hx, hy, rfl, rfl⟩ := meth0_pop he
    rw [hl0] at rx
    obtain ⟨p, hp, rfl⟩ := (rx : ∃ a, m1[l]? = some a ∧ x = .ref a)
    obtain ⟨vs, h1, h2⟩ := R1.lst hp hx
    obtain ⟨v, h3, h4⟩ := h2.get hy
    obtain ⟨z, R'⟩ := R1.write hp hx h1 h2.dropLast
    exact ⟨.inl ⟨rfl, vs, SqL.of h1⟩, p, vs, v, rfl, rfl, h1, by rw [← h2.length]; exact h3, q _ _ m1 (z1.trans z) R' (h4.mono z)⟩
  | reverse =>
    refine PE.imp (L2.pe_bm0 PySem.F.plainAttrs_list PySem.F.slot_list_reverse PySem.F.type_list_reverse L2.mt_reverse (so_D ha) (attr_plain ho _ _ _) hl) fun σ H Q ⟨b, m0, e, S, w, S', hb, R, RE, he, q⟩ => ?_
    obtain ⟨p1, h1, he⟩ := bind_ok he
    refine ⟨b, m0, e, S, p1.1, p1.2, hb, R, RE, h1, fun x H1 m1 z1 R1 rx => ?_⟩
    obtain ⟨l, xs, hl0, hx, rfl, rfl⟩ := meth0_rev he
    rw [hl0] at rx
    obtain ⟨p, hp, rfl⟩ := (rx : ∃ a, m1[l]? = some a ∧ x = .ref a)
    obtain ⟨vs, h1, h2⟩ := R1.lst hp hx
    obtain ⟨z, R'⟩ := R1.write hp hx h1 h2.reverse
    exact ⟨.inl ⟨rfl, vs, SqL.of h1⟩, p, vs, rfl, rfl, h1, q _ _ m1 (z1.trans z) R' rfl⟩

/-! ### targets -/
/-- but for these slots all is as it was -/
def Ws (ts : List Nat) (σ σ' : L2.St) : Prop := ∀ vs : List Nat, (∀ i ∈ ts, i ∈ vs) → L2.wipe σ' vs = L2.wipe σ vs
theorem Ws.refl (ts : List Nat) (σ : L2.St) : Ws ts σ σ := fun _ _ => rfl
theorem wipe_at (σ : L2.St) (j : Nat) : ∀ vs : List Nat, (L2.wipe σ vs)[j]? = if j ∈ vs then (if j < σ.length then some none else none) else σ[j]?
  | [] => by simp [L2.wipe]
  | v :: vs => by
    unfold L2.wipe
    rw [List.getElem?_set, L2.wipe_length]
    by_cases e : v = j
    · subst e; simp
    · rw [if_neg e, wipe_at σ j vs]
      have : (j ∈ v :: vs) ↔ j ∈ vs := by simp [Ne.symm e]
      simp only [this]
theorem Ws.set (i : Nat) (σ : L2.St) (v : V) : Ws [i] σ (σ.set i (some v)) := fun vs h => by
  apply List.ext_getElem?
  intro j
  rw [wipe_at, wipe_at, List.length_set]
  by_cases hj : j ∈ vs
  · rw [if_pos hj, if_pos hj]
  · rw [if_neg hj, if_neg hj, List.getElem?_set_ne]
    intro e
    subst e
    exact hj (h _ (by simp))
def tG {β γ : Type} (K : PySem.W.Frag) (rel : Hp → List Addr → β → γ → Prop) (ts : List Nat) (g : Nat → β → Env → Sto → Rs (Env × Sto)) : γ → L2.St → Hp → (L2.St → Hp → Prop) → Prop := fun v σ H Q =>
  ∃ (b : Nat) (m : List Addr) (e : Env) (S : Sto) (x : β) (e' : Env) (S' : Sto), b ≤ S.length ∧ Rl K m H S ∧ RE K H m e σ ∧ rel H m x v ∧ g b x e S = .ok (e', S') ∧ ∀ σ' H' m', Le H m H' m' → Rl K m' H' S' → RE K H' m' e' σ' → Ws ts σ σ' → Q σ' H'
abbrev tg (K : PySem.W.Frag) (ts : List Nat) (g : DG) : TG := tG K (RD K) ts g
abbrev tgs (K : PySem.W.Frag) (ts : List Nat) (g : DGs) : TGs := tG K (RDs K) ts g
theorem PG.imp {t t' : TG} (h : PG X ex t) (k : ∀ v σ H Q, t' v σ H Q → t v σ H Q) : PG X ex t' := ⟨fun pins s σ H v u Q I r q => h.run pins s σ H v u Q I r (k v σ H Q q)⟩
theorem PGs.imp {es : List Expr} {t t' : TGs} (h : PGs X es t) (k : ∀ v σ H Q, t' v σ H Q → t v σ H Q) : PGs X es t' := ⟨fun pins s σ H v u Q I r q => h.run pins s σ H v u Q I r (k v σ H Q q)⟩
theorem so_gVar {i : Nat} {x : Str} (hN : X.N.Nodup) (hi : X.N[i]? = some x) (hx : L2.Loc X.env.scope x) (hf : X.fn x = true ∨ X.env.scope.names.lookup x = some .local) : PG X (.Name x pos) (tg X.K [i] (gVar i)) :=
  PG.imp (L2.pg_name hN hi hx hf) fun v σ H Q ⟨b, m, e, S, d, e', S', hb, R, RE, rx, he, q⟩ => by
    cases he
    exact q _ H m (Le.refl H m) R (RE.set rx i) (Ws.set i σ v)
theorem set_sub {K : PySem.W.Frag} {m : List Addr} {H : Hp} {S S' : Sto} {o i x : D} {vo vi v : V} {b : Nat} {Q : Hp → Prop} (R : Rl K m H S) (ro : RD K H m o vo) (ri : RD K H m i vi) (rx : RD K H m x v) (h : setI b o i x S = .ok S')
    (q : ∀ H', Le H m H' m → Rl K m H' S' → Q H') : L2.rSetL vo vi v H Q := by
  unfold setI at h
  split at h
  · rename_i l k
    cases (show vi = .int k from ri)
    split at h
    · rename_i xs hx
      split at h
      · rename_i j hj
        split at h
        · cases h
          obtain ⟨p, hp, rfl⟩ := (ro : ∃ a, m[l]? = some a ∧ vo = .ref a)
          obtain ⟨vs, h1, h2⟩ := R.lst hp hx
          obtain ⟨z, R'⟩ := R.write hp hx h1 (h2.set rx j)
          exact ⟨p, vs, k, j, rfl, rfl, h1, by rw [ixN_eq, ← h2.length]; exact hj, q _ z R'⟩
        · cases h
      · cases h
    · cases h
  · cases h
theorem asg_sub {o i : Expr} {tpos : Pos} (h : noSlice i = true) (env : PySem.Env) (v : Value) : assign (.Subscript o i tpos) env v = (do
    let ov ← holding [v] (eval o env)
    let iv ← holding [v, ov] (eval i env)
    standAt tpos
    holding [v, ov, iv] (setItem ov iv v)
    release [v, ov, iv] []) := by
  cases i <;> first | rfl | cases h
theorem so_gSub {o i : DV} (h : noSlice b = true) (ko : KV o) (ho : PE X a (tE X.K o)) (hi : PE X b (tE X.K i)) : PG X (.Subscript a b pos) (tg X.K [] (gSub o i)) :=
  PG.imp (L2.pg_sub (so_D ho) (so_D hi) L2.set_list (asg_sub h X.env)) fun v σ H Q ⟨b, m, e, S, d, e', S', hb, R, RE, rx, he, q⟩ => by
    obtain ⟨p1, h1, he⟩ := bind_ok he
    obtain ⟨p2, h2, he⟩ := bind_ok he
    obtain ⟨S2, h3, he⟩ := bind_ok he
    cases he
    have k1 := ko.sD b e S p1.1 p1.2 hb h1
    exact ⟨b, m, e, S, p1.1, p1.2, hb, R, RE, h1, fun vo H1 m1 z1 R1 ro => ⟨b, m1, e, p1.2, p2.1, p2.2, Nat.le_trans hb k1.len, R1, RE.mono z1, h2, fun vi H2 m2 z2 R2 ri =>
      set_sub R2 (ro.mono z2) ri (rx.mono (z1.trans z2)) h3 fun H3 z3 R3 => q σ H3 m2 (z1.trans (z2.trans z3)) R3 (RE.mono (z1.trans (z2.trans z3))) (Ws.refl _ _)⟩⟩
theorem so_gNil : PGs X [] (tgs X.K [] gNil) := PGs.imp L2.pgs_nil fun v σ H Q ⟨b, m, e, S, d, e', S', hb, R, RE, rx, he, q⟩ => by
  unfold gNil at he
  split at he
  · cases he
    exact ⟨rx, q σ H m (Le.refl H m) R RE (Ws.refl _ _)⟩
  · cases he
theorem starG {e : Expr} (h : noStar e = true) (es : List Expr) (env : PySem.Env) : assignEach (e :: es) env = (false, assign e env) :: assignEach es env := by
  cases e <;> first | rfl | cases h
theorem so_gCons {es : List Expr} {t : DG} {ts : DGs} {is js : List Nat} (h : noStar a = true) (kt : KG t) (ht : PG X a (tg X.K is t)) (hts : PGs X es (tgs X.K js ts)) : PGs X (a :: es) (tgs X.K (is ++ js) (gCons t ts)) :=
  PGs.imp (L2.pgs_cons ht hts (by rw [starG h]; rfl)) fun vs σ H Q ⟨b, m, e, S, d, e', S', hb, R, RE, rx, he, q⟩ => by
    unfold gCons at he
    split at he
    · cases he
    · rename_i x xs
      obtain ⟨p1, h1, he⟩ := bind_ok he
      obtain ⟨v, ws, rfl, r1, r2⟩ := (rx : ∃ v ws, vs = v :: ws ∧ RD X.K H m x v ∧ RDs X.K H m xs ws)
      have k1 := (kt b x e S p1.1 p1.2 hb h1).1
      exact ⟨v, ws, rfl, b, m, e, S, x, p1.1, p1.2, hb, R, RE, r1, h1, fun σ' H' m' z R' RE' w1 => ⟨b, m', p1.1, p1.2, xs, e', S', Nat.le_trans hb k1.len, R', RE', r2.mono z, he, fun σ2 H2 m2 z2 R2 RE2 w2 => q σ2 H2 m2 (z.trans z2) R2 RE2 fun vs hv => (w2 vs fun i hi => hv i (by simp [hi])).trans (w1 vs fun i hi => hv i (by simp [hi]))⟩⟩
theorem gTup_len {ts : DGs} {b : Nat} {xs : List D} {e e' : Env} {S S' : Sto} (n : Nat) (hn : ∀ b xs e S e' S', ts b xs e S = .ok (e', S') → xs.length = n) (h : ts b xs e S = .ok (e', S')) : xs.length = n := hn b xs e S e' S' h
/-- so many items are taken -/
def GL (n : Nat) (ts : DGs) : Prop := ∀ b xs e S r, ts b xs e S = .ok r → xs.length = n
theorem GL.nil : GL 0 gNil := fun b xs e S r h => by
  unfold gNil at h
  split at h
  · rfl
  · cases h
theorem GL.cons {n : Nat} {t : DG} {ts : DGs} (h : GL n ts) : GL (n + 1) (gCons t ts) := fun b xs e S r he => by
  unfold gCons at he
  split at he
  · cases he
  · obtain ⟨p1, h1, he⟩ := bind_ok he
    simp [h b _ _ _ _ he]
theorem each_len : ∀ (es : List Expr) (env : PySem.Env), (assignEach es env).length = es.length
  | [], _ => rfl
  | e :: es, env => by cases e <;> exact congrArg (· + 1) (each_len es env)
theorem each_star {env : PySem.Env} : ∀ {es : List Expr}, es.all noStar = true → (assignEach es env).findIdx? (·.1) = none
  | [], _ => rfl
  | e :: es, h => by
    have h' : noStar e = true ∧ es.all noStar = true := by simpa using h
    rw [starG h'.1, List.findIdx?_cons]
    simp [each_star h'.2]
theorem so_gTup {es : List Expr} {k : Nat} {ts : DGs} {is : List Nat} (hc : X.calm = true) (hn : GL es.length ts) (hst : es.all noStar = true) (hts : PGs X es (tgs X.K is ts)) : PG X (.Tuple es k pos) (tg X.K is (gTup ts)) :=
  PG.imp (L2.pg_tup hc hts (each_len es X.env) (each_star hst)) fun v σ H Q ⟨b, m, e, S, d, e', S', hb, R, RE, rx, he, q⟩ => by
    unfold gTup at he
    split at he
    · rename_i xs
      obtain ⟨p, vs, rfl, hp, r⟩ := (rx : ∃ a vs, v = .ref a ∧ H a = some (.tup vs) ∧ RDs X.K H m xs vs)
      exact ⟨p, vs, rfl, SqT.of hp, by rw [← r.length]; exact hn _ _ _ _ _ he, b, m, e, S, xs, e', S', hb, R, RE, r, he, q⟩
    · cases he
end
end Pv
set_option linter.all false
set_option autoImplicit false
set_option maxRecDepth 100000
/-! enumerate of a tuple, zip of a list and a tuple: what the layer lacks. -/
namespace Pv
open PySem PySem.Spec PyProof.Rows
open L2 (V Hp HO upd upd_same upd_ne VK XK TE TT TA TS TG TGs TI It Cx PE PT PW PA PS PSs PG PGs PI Inv RelV SqL SqT OpR CallR Gl)

set_option maxHeartbeats 1000000 in
theorem enum_new1 {v : Value} {o : Obj} {P : Heap → Prop} (B : Begins v o P) :
    Meets (Builtin.«enumerate.__new__» ⟨[.type "enumerate", v], []⟩) (fun _ R s => P s.heap ∧
      R (.ok (.ret (.ref (s.heap.push o).objs.size))) { s with heap := (s.heap.push o).push { cls := .type "enumerate", data := .fields #[.none, .bool false, .ref s.heap.objs.size, rawInt 0, .none, .none] } }) :=
  .of_wp fun prog w A R s h => by
    obtain ⟨hp, g, d, tk, os⟩ := s
    obtain ⟨h1, h⟩ := h
    have sub := sub_enumerate
    have iter : ∀ {A' : Around} {E : Value → Shared → Prop} {Q : Value → Shared → Prop}, Q (.ref hp.objs.size) ⟨hp.push o, g, d, tk, os⟩ → wpAny (model prog w) A' (pyIter v) Q E ⟨hp, g, d, tk, os⟩ :=
      fun q => B.iter prog w _ _ ⟨hp, g, d, tk, os⟩ _ h1 q
    wp_walk using iter
    refine wpAny_stack_any fun st => wpAny_pure ?_
    split
    · rename_i c _ _ _ _ _
      cases (c == Value.type "enumerate") <;> (wp_walk using iter; exact ⟨_, rfl, h⟩)
    · wp_walk using iter
      exact ⟨_, rfl, h⟩
theorem enum_call1 {prog : Program} {w : World} {A : Around} {E : Value → Shared → Prop} {s : Shared} {v : Value} {o : Obj} {P : Heap → Prop} {Q : Value → Shared → Prop} (B : Begins v o P) (h1 : P s.heap)
    (h : ∀ h', IsEnum h' (s.heap.objs.size + 1) s.heap.objs.size 0 .none → h'.get? s.heap.objs.size = some o → (∀ b u, s.heap.get? b = some u → h'.get? b = some u) → Q (.ref (s.heap.objs.size + 1)) { s with heap := h' }) :
    wpAny (model prog w) A (call (.type "enumerate") [v]) Q E s := by
  refine callType_new F.called_enumerate (by decide) (F.typeCall_enumerate_1 _) (F.newCall_enumerate_1 _) (fun obj => F.args_object_init_2 obj _) F.entry_enumerate_new (enum_new1 B) ⟨h1, ?_⟩
  have hz : (s.heap.push o).objs.size = s.heap.objs.size + 1 := Heap.size_push ..
  have he : IsEnum ((s.heap.push o).push { cls := .type "enumerate", data := .fields #[.none, .bool false, .ref s.heap.objs.size, rawInt 0, .none, .none] }) (s.heap.objs.size + 1) s.heap.objs.size 0 .none := by
    have q := Heap.get?_push_size (s.heap.push o) (o := { cls := .type "enumerate", data := .fields #[.none, .bool false, .ref s.heap.objs.size, rawInt 0, .none, .none] }) rfl
    rw [hz] at q
    exact q
  show _ ∧ _
  rw [hz]
  exact ⟨⟨_, he, rfl⟩, h _ he (Heap.get?_push_of_some _ (Heap.get?_push_size _ B.free)) fun b u q => Heap.get?_push_of_some _ (Heap.get?_push_of_some _ q)⟩

/-- the tuple at a, each item in a new pair with its number -/
def IteT (K : PySem.W.Frag) (a : Addr) : L2.It :=
  ⟨fun i H => ∃ (xs : List V) (x : V), SqT K H a xs ∧ xs[i]? = some x, fun i H v H' => ∃ T x, v = .ref T ∧ H T = none ∧ H' = upd H T (.tup [.int (i : Nat), x]) ∧ ∀ xs, SqT K H a xs → xs[i]? = some x, fun i H => ∃ xs : List V, SqT K H a xs ∧ xs.length = i⟩
theorem turn_enumT {P : Program} {w : World} {K : PySem.W.Frag} {elts : List Expr} {kk : Nat} {tpos : Pos} (a e it : Addr) :
    L2.Turn P w K (.Tuple elts kk tpos) (IteT K a) [e, it] e (fun i h => (∃ old, IsEnum h e it ((i : Nat) : Int) old) ∧ h.IsTupleIter it a i ∧ e ≠ it ∧ a ≠ e ∧ a ≠ it) where
  mem := by simp
  obj := fun i h ⟨⟨old, he⟩, ⟨o, ho, _, hd⟩, _⟩ b hb => by
    rcases (show b = e ∨ b = it by simpa using hb) with rfl | rfl
    · exact ⟨_, he, fun v q => nomatch q⟩
    · exact ⟨o, ho, fun v q => by rw [hd] at q; cases q⟩
  keep := fun i h h' ⟨⟨old, he⟩, hi, r⟩ k => ⟨⟨old, k e (by simp) _ he⟩, hi.at fun o q => k it (by simp) o q, r⟩
  item := by
    intro X hP hw hK hc i pins s σ H E I hf ⟨⟨old, he⟩, hit, hne, hae, hai⟩ ⟨xs, x, hq, hx⟩
    subst hP hw hK
    obtain ⟨its, rv, p, _⟩ := I.tuple hq
    obtain ⟨u, hu, ru⟩ := rv.get hx
    have p' : s.heap.IsTuple a its.toArray := p
    have hlt : i < its.toArray.size := by have := (List.getElem?_eq_some_iff.mp hu).1; simpa using this
    have D := Draws.tuple (prog := X.prog) (w := X.w) (A := X.A.in1) (I.ok.hd hc) it a hai its.toArray
    refine wpAny_pyNext_enum_itemD D he ⟨hit, p'⟩ hlt hne (by simp [hne, Ne.symm hae]) fun y h' tk hy ho hst hT hsz hk => ?_
    have ey : y = u := by
      have h1 : its[i]? = some y := by simpa using hy
      rw [hu] at h1
      exact (Option.some.inj h1).symm
    subst ey
    refine ⟨_, rfl, wpAny_letOwnedTupleGo_enum (s := { s with heap := h', toks := tk + 1 }) ho fun h'' he' sb => ?_⟩
    have hel : e < s.heap.objs.size := Heap.lt_size he
    have hil : it < s.heap.objs.size := by obtain ⟨_, q, _⟩ := hit; exact Heap.lt_size q
    have hT2 : h''.get? s.heap.objs.size = some { cls := .type "tuple", data := .seq #[.int i tk, y] } := (sb.2 _ (Nat.ne_of_gt hel)).trans hT
    have I1 : Inv X pins σ (upd H s.heap.objs.size (.tup [.int (i : Nat), x])) { s with heap := h'', toks := tk + 1 } :=
      I.turnedNew (ch := [e, it]) (fun b ob hb q => (sb.2 b (fun z => hb (by simp [z]))).trans (hk b ob (fun z => hb (by simp [z])) (fun z => hb (by simp [z])) q)) hf (Nat.le_refl _)
        ⟨by show 2 ≤ sizeLine; decide, [.int i tk, y], .cons ⟨_, rfl⟩ (.cons ru .nil), ⟨_, hT2, rfl, _, rfl⟩⟩
    refine ⟨.ref s.heap.objs.size, _, I1, rfl, ⟨_, x, rfl, I.hok.fresh (Nat.le_refl _), rfl, fun ys hy => by rw [I.tuple_inj hy hq]; exact hx⟩, ⟨⟨y, ?_⟩, hst.1.at fun o q => (sb.2 it (Ne.symm hne)).trans q, hne, hae, hai⟩, fun b hb => ?_⟩
    · have e1 : ((i + 1 : Nat) : Int) = (i : Int) + 1 := by omega
      rw [e1]; exact he'
    · have hb' : b < s.heap.objs.size := by
        rcases (show b = e ∨ b = it by simpa using hb) with rfl | rfl
        · exact hel
        · exact hil
      rw [upd_ne (Nat.ne_of_lt hb')]
      exact (hf b hb).1
  done := by
    intro X hP hw hK hc i pins s σ H E I hf ⟨⟨old, he⟩, hit, hne, hae, hai⟩ ⟨xs, hq, hx⟩
    subst hP hw hK
    obtain ⟨its, rv, p, _⟩ := I.tuple hq
    obtain ⟨f0, f1, f2, f3, f4, f5⟩ := hf it (by simp)
    have p' : s.heap.IsTuple a its.toArray := p
    have hl := rv.length
    have D := Draws.tuple (prog := X.prog) (w := X.w) (A := X.A.in1) (I.ok.hd hc) it a hai its.toArray
    have hi : i = its.toArray.size := by simp; omega
    rw [hi] at hit
    exact wpAny_pyNext_enum_endD D he ⟨hit, p'⟩ fun h' eb => ⟨rfl, I.turned (t' := s.toks) (fun b o hb q => eb b o hb q) f0 f1 f3 f4 f5⟩
  self := fun A i s Q E ⟨⟨_, he⟩, _⟩ h => wpAny_pyIter_enum he h
/-- enumerate of a list or a tuple -/
def iEnA (K : PySem.W.Frag) (ta : TA) : L2.TI := fun σ H R => ta σ H fun vs H1 => ∃ a xs, vs = [.ref a] ∧ ((SqL K H1 a xs ∧ R (L2.Ite K a) H1) ∨ (SqT K H1 a xs ∧ R (IteT K a) H1))
theorem pi_enumA {X : Cx} {e : Expr} {ta : TA} {p pos tpos : Pos} {elts : List Expr} {kk : Nat} (hg : Gl X "enumerate") (hm : X.mg "enumerate" = none) (ha : PA X [e] ta) (hs : starEach [e] X.env = [(false, eval e X.env)]) :
    PI X (.Tuple elts kk tpos) (.Call (.Name "enumerate" p) [e] [] pos) (iEnA X.K ta) := by
  refine ⟨fun pins s σ H R I h => ?_⟩
  refine Call_ (L2.ld_blt I hg hm boot_enumerate (PyProof.Rows.callWith_type1 (L2.thn (ha.run pos pins s σ H _ I h) fun us s1 ⟨vs, H1, I1, r1, a, xs, ex, q⟩ => ?_) hs rfl))
  subst ex
  cases r1 with
  | cons r rr =>
    cases rr
    cases r
    have fresh : ∀ b, b ∈ [s1.heap.objs.size + 1, s1.heap.objs.size] → L2.FpOk X pins H1 b := fun b hb => by
      have hle : s1.heap.objs.size ≤ b := by
        rcases (show b = s1.heap.objs.size + 1 ∨ b = s1.heap.objs.size by simpa using hb) with z | z <;> omega
      exact I1.fpOk hle (I1.hok.fresh hle)
    rcases q with ⟨hq, q⟩ | ⟨hq, q⟩
    · obtain ⟨its, rv, p', _⟩ := I1.list hq
      refine call_enumerate_list p'.isList fun h' he hit _ hk => wpAny_pyIter_enum he ?_
      exact ⟨s1.heap.objs.size + 1, _, _, _, H1, rfl, I1.kept (t' := s1.toks) hk, L2.turn_enum a (s1.heap.objs.size + 1) s1.heap.objs.size, ⟨⟨.none, he⟩, hit, Nat.succ_ne_self _⟩, fresh, q⟩
    · obtain ⟨its, rv, p', _⟩ := I1.tuple hq
      have pt : s1.heap.IsTuple a its.toArray := p'
      have hal : a < s1.heap.objs.size := by obtain ⟨o, ho, _⟩ := id pt; exact Heap.lt_size ho
      refine enum_call1 (begins_tuple a its.toArray) pt fun h' he hit hk => wpAny_pyIter_enum he ?_
      exact ⟨s1.heap.objs.size + 1, _, _, _, H1, rfl, I1.kept (t' := s1.toks) hk, turn_enumT a (s1.heap.objs.size + 1) s1.heap.objs.size, ⟨⟨.none, he⟩, ⟨_, hit, rfl, rfl⟩, Nat.succ_ne_self _, Nat.ne_of_lt (Nat.lt_succ_of_lt hal), Nat.ne_of_lt hal⟩, fresh, q⟩
end Pv
set_option linter.all false
set_option autoImplicit false
set_option maxRecDepth 100000
/-! What the evaluator tells, the machine does: what is walked, comprehensions. -/
namespace Pv
open PySem PySem.Spec PyProof.Rows
open L2 (V Hp HO upd upd_same upd_ne VK XK TE TT TA TS TG TGs TI Cx PE PT PW PA PS PSs PG PGs PI Inv RelV SqL SqT OpR CallR Gl)

/-- what is walked gives these items, as long as the lists that it reads stay as they are -/
def Wk (K : PySem.W.Frag) (H : Hp) (m : List Addr) (J : L2.It) (c : Chk) (xs : List D) : Prop := ∀ H2 m2 S2, Le H m H2 m2 → Rl K m2 H2 S2 → c.ok S2 →
  (∀ i, i < xs.length → J.go i H2) ∧ J.stop xs.length H2 ∧ ∀ (i : Nat) (x : D) (v : V) (H3 : Hp), xs[i]? = some x → J.yld i H2 v H3 → Le H2 m2 H3 m2 ∧ Rl K m2 H3 S2 ∧ RD K H3 m2 x v
def tI (K : PySem.W.Frag) (f : DI) : TI := fun σ H R => ∃ (b : Nat) (m : List Addr) (e : Env) (S : Sto) (c : Chk) (xs : List D) (S' : Sto), b ≤ S.length ∧ Rl K m H S ∧ RE K H m e σ ∧ f b e S = .ok ((c, xs), S') ∧
  ∀ J H' m', Le H m H' m' → Rl K m' H' S' → Wk K H' m' J c xs → xs.length ≤ line → R J H'
theorem PI.imp {X : Cx} {tg it : Expr} {t t' : TI} (h : PI X tg it t) (k : ∀ σ H R, t' σ H R → t σ H R) : PI X tg it t' := ⟨fun pins s σ H R I q => h.run pins s σ H R I (k σ H R q)⟩
section
variable {K : PySem.W.Frag} {m : List Addr} {H H0 : Hp} {S : Sto}
def SrcL (K : PySem.W.Frag) (H : Hp) (m : List Addr) (c : Chk) (xs : List D) (p : Addr) : Prop := ∀ H2 m2 S2, Le H m H2 m2 → Rl K m2 H2 S2 → c.ok S2 → ∃ vs, SqL K H2 p vs ∧ RDs K H2 m2 xs vs
def SrcT (K : PySem.W.Frag) (H : Hp) (m : List Addr) (xs : List D) (p : Addr) : Prop := ∀ H2 m2, Le H m H2 m2 → ∃ vs, SqT K H2 p vs ∧ RDs K H2 m2 xs vs
theorem src_of {x : Vl} {v : V} {xs : List D} {c : Chk} (R : Rl K m H S) (r : RV K H0 H m x v) (h : items x S = some xs) (hc : ∀ S2, c.ok S2 → (chkOf x S).ok S2) : ∃ p, v = .ref p ∧ (SrcL K H m c xs p ∨ (SrcT K H m xs p ∧ ∃ ys, tupO x = some ys)) := by
  cases x with
  | fr ys =>
    cases h
    obtain ⟨p, vs, rfl, hp, hn, _, r⟩ := (r : ∃ p vs, v = .ref p ∧ H p = some (.lst vs) ∧ p ∉ m ∧ H0 p = none ∧ RDs K H m xs vs)
    exact ⟨p, rfl, .inl fun H2 m2 S2 z R2 _ => ⟨vs, SqL.of (z.rest p _ hp hn), r.mono z⟩⟩
  | d x =>
    cases x with
    | tup ys =>
      cases h
      obtain ⟨p, vs, rfl, hp, r⟩ := (r : ∃ a vs, v = .ref a ∧ H a = some (.tup vs) ∧ RDs K H m xs vs)
      exact ⟨p, rfl, .inr ⟨fun H2 m2 z => ⟨vs, SqT.of (z.tk.tup p vs hp), r.mono z⟩, xs, rfl⟩⟩
    | scr ns =>
      cases h
      obtain ⟨p, rfl, hp⟩ := (r : ∃ a, v = .ref a ∧ Scr K H a (ns.map V.int))
      exact ⟨p, rfl, .inl fun H2 m2 S2 z R2 _ => ⟨_, (hp.keep z.tk).sq, RDs.of_ints ns⟩⟩
    | loc l =>
      obtain ⟨p, hp, rfl⟩ := (r : ∃ a, m[l]? = some a ∧ v = .ref a)
      have h' : (match S[l]? with | some (.lst xs) => some xs | _ => none) = some xs := h
      split at h'
      · rename_i ys hy
        cases h'
        refine ⟨p, rfl, .inl fun H2 m2 S2 z R2 k => ?_⟩
        have k2 : (chkOf (.d (.loc l)) S).ok S2 := hc S2 k
        have k3 : S2[l]? = some (.lst xs) := by
          have : chkOf (.d (.loc l)) S = [(l, .lst xs)] := by
            show (match S[l]? with | some o => [(l, o)] | none => []) = [(l, .lst xs)]
            rw [hy]
          rw [this] at k2
          exact k2 (l, .lst xs) (by simp)
        obtain ⟨vs, h1, h2⟩ := R2.lst (pre_get z.pre hp) k3
        exact ⟨vs, SqL.of h1, h2⟩
      · cases h'
    | _ => cases h
variable {X : Cx} {pins : List (Addr × Obj)} {σ : L2.St} {s : Shared}
/-! lists' and tuples' contents are one -/
theorem wk_list {c : Chk} {xs : List D} {p : Addr} (h : SrcL K H m c xs p) : Wk K H m (L2.Itl K p) c xs := fun H2 m2 S2 z R2 k => by
  obtain ⟨vs, h1, r⟩ := h H2 m2 S2 z R2 k
  refine ⟨fun i hi => ?_, ⟨vs, h1, Nat.le_of_eq r.length.symm⟩, fun i x v H3 hx ⟨e, y⟩ => ?_⟩
  · obtain ⟨v, hv, _⟩ := r.get (List.getElem?_eq_getElem hi)
    exact ⟨vs, v, h1, hv⟩
  · subst e
    obtain ⟨u, hu, ru⟩ := r.get hx
    have := y vs h1
    rw [hu] at this; cases this
    exact ⟨Le.refl _ _, R2, ru⟩
theorem wk_tup {c : Chk} {xs : List D} {p : Addr} (h : SrcT K H m xs p) : Wk K H m (L2.Itt K p) c xs := fun H2 m2 S2 z R2 k => by
  obtain ⟨vs, h1, r⟩ := h H2 m2 z
  refine ⟨fun i hi => ?_, ⟨vs, h1, Nat.le_of_eq r.length.symm⟩, fun i x v H3 hx ⟨e, y⟩ => ?_⟩
  · obtain ⟨v, hv, _⟩ := r.get (List.getElem?_eq_getElem hi)
    exact ⟨vs, v, h1, hv⟩
  · subst e
    obtain ⟨u, hu, ru⟩ := r.get hx
    have := y vs h1
    rw [hu] at this; cases this
    exact ⟨Le.refl _ _, R2, ru⟩
theorem rev_get {α : Type} {xs : List α} {i : Nat} (hi : i < xs.length) : xs.reverse[i]? = xs[xs.length - 1 - i]? := List.getElem?_reverse hi
theorem wk_rev {c : Chk} {xs : List D} {p : Addr} (h : SrcL K H m c xs p) : Wk K H m (L2.Itv K p xs.length) c xs.reverse := fun H2 m2 S2 z R2 k => by
  obtain ⟨vs, h1, r⟩ := h H2 m2 S2 z R2 k
  have w := L2.walk_rev (K := K) (a := p) (xs := vs)
  rw [← r.length] at w
  refine ⟨fun i hi => w.goes i H2 (by simpa using hi) h1, by rw [List.length_reverse]; exact w.stops H2 h1, fun i x v H3 hx y => ?_⟩
  have hi : i < xs.length := by have := (List.getElem?_eq_some_iff.mp hx).1; simpa using this
  obtain ⟨e, y2⟩ := w.yields i H2 v H3 hi h1 y
  subst e
  rw [rev_get hi] at hx
  obtain ⟨u, hu, ru⟩ := r.get hx
  rw [hu] at y2
  cases y2
  exact ⟨Le.refl _ _, R2, ru⟩
theorem wk_revT {c : Chk} {xs : List D} {p : Addr} (h : SrcT K H m xs p) : Wk K H m (RT.ItvT K p xs.length) c xs.reverse := fun H2 m2 S2 z R2 k => by
  obtain ⟨vs, h1, r⟩ := h H2 m2 z
  have hl := r.length
  refine ⟨fun i hi => ?_, by rw [List.length_reverse]; exact Nat.le_refl _, fun i x v H3 hx ⟨e, y⟩ => ?_⟩
  · have hi' : i < xs.length := by simpa using hi
    have hj : xs.length - 1 - i < xs.length := by omega
    obtain ⟨v, hv, _⟩ := r.get (List.getElem?_eq_getElem hj)
    exact ⟨hi', vs, v, h1, hv⟩
  · subst e
    have hi : i < xs.length := by have := (List.getElem?_eq_some_iff.mp hx).1; simpa using this
    rw [rev_get hi] at hx
    obtain ⟨u, hu, ru⟩ := r.get hx
    have := y vs h1
    rw [hu] at this
    cases this
    exact ⟨Le.refl _ _, R2, ru⟩
theorem enum_get {xs : List D} {i : Nat} {x : D} (h : (enumD xs)[i]? = some x) : ∃ y, xs[i]? = some y ∧ x = .tup [.int (i : Nat), y] := by
  unfold enumD at h
  rw [List.getElem?_map, List.getElem?_zipIdx] at h
  cases e : xs[i]? with
  | none => rw [e] at h; cases h
  | some y => rw [e] at h; simp at h; exact ⟨y, rfl, h.symm⟩
theorem enum_len (xs : List D) : (enumD xs).length = xs.length := by simp [enumD]
theorem pair_laid {T : Addr} {x y : V} {a b : D} {H2 H3 : Hp} {m2 : List Addr} {S2 : Sto} (R2 : Rl K m2 H2 S2) (hT : H2 T = none) (e : H3 = upd H2 T (.tup [x, y])) (r1 : RD K H2 m2 a x) (r2 : RD K H2 m2 b y) :
    Le H2 m2 H3 m2 ∧ Rl K m2 H3 S2 ∧ RD K H3 m2 (.tup [a, b]) (.ref T) := by
  subst e
  obtain ⟨z, R3⟩ := R2.laid (o := .tup [x, y]) hT
  exact ⟨z, R3, T, [x, y], rfl, upd_same, x, [y], rfl, r1.mono z, y, [], rfl, r2.mono z, rfl⟩
theorem wk_enum {c : Chk} {xs : List D} {p : Addr} (h : SrcL K H m c xs p) : Wk K H m (L2.Ite K p) c (enumD xs) := fun H2 m2 S2 z R2 k => by
  obtain ⟨vs, h1, r⟩ := h H2 m2 S2 z R2 k
  rw [enum_len]
  refine ⟨fun i hi => ?_, ⟨vs, h1, Nat.le_of_eq r.length.symm⟩, fun i x v H3 hx ⟨T, y, ev, hT, e3, hy⟩ => ?_⟩
  · obtain ⟨v, hv, _⟩ := r.get (List.getElem?_eq_getElem hi)
    exact ⟨vs, v, h1, hv⟩
  · obtain ⟨d, hd, rfl⟩ := enum_get hx
    obtain ⟨u, hu, ru⟩ := r.get hd
    have := hy vs h1
    rw [hu] at this; cases this
    subst ev
    exact pair_laid R2 hT e3 rfl ru
theorem wk_enumT {c : Chk} {xs : List D} {p : Addr} (h : SrcT K H m xs p) : Wk K H m (IteT K p) c (enumD xs) := fun H2 m2 S2 z R2 k => by
  obtain ⟨vs, h1, r⟩ := h H2 m2 z
  rw [enum_len]
  refine ⟨fun i hi => ?_, ⟨vs, h1, r.length.symm⟩, fun i x v H3 hx ⟨T, y, ev, hT, e3, hy⟩ => ?_⟩
  · obtain ⟨v, hv, _⟩ := r.get (List.getElem?_eq_getElem hi)
    exact ⟨vs, v, h1, hv⟩
  · obtain ⟨d, hd, rfl⟩ := enum_get hx
    obtain ⟨u, hu, ru⟩ := r.get hd
    have := hy vs h1
    rw [hu] at this; cases this
    subst ev
    exact pair_laid R2 hT e3 rfl ru
theorem zip_get {xs ys : List D} {i : Nat} {x : D} (h : (zipD xs ys)[i]? = some x) : ∃ a b, xs[i]? = some a ∧ ys[i]? = some b ∧ x = .tup [a, b] := by
  unfold zipD at h
  rw [List.getElem?_zipWith] at h
  cases e1 : xs[i]? with
  | none => rw [e1] at h; cases h
  | some a => cases e2 : ys[i]? with
    | none => rw [e1, e2] at h; cases h
    | some b => rw [e1, e2] at h; cases h; exact ⟨a, b, rfl, rfl, rfl⟩
theorem zip_len (xs ys : List D) : (zipD xs ys).length = min xs.length ys.length := by simp [zipD]
theorem wk_zip {c : Chk} {xs ys : List D} {p q : Addr} (h : SrcL K H m c xs p) (h' : SrcL K H m c ys q) : Wk K H m (L2.Itz K p q) c (zipD xs ys) := fun H2 m2 S2 z R2 k => by
  obtain ⟨vs, h1, r⟩ := h H2 m2 S2 z R2 k
  obtain ⟨ws, h1', r'⟩ := h' H2 m2 S2 z R2 k
  rw [zip_len]
  have e1 := r.length
  have e2 := r'.length
  refine ⟨fun i hi => ?_, ⟨vs, ws, h1, h1', by omega⟩, fun i x v H3 hx ⟨T, a, b, ev, hT, e3, ha, hb⟩ => ?_⟩
  · obtain ⟨v, hv, _⟩ := r.get (List.getElem?_eq_getElem (show i < xs.length by omega))
    obtain ⟨w, hw, _⟩ := r'.get (List.getElem?_eq_getElem (show i < ys.length by omega))
    exact ⟨vs, ws, v, w, h1, h1', hv, hw⟩
  · obtain ⟨d, d', hd, hd', rfl⟩ := zip_get hx
    obtain ⟨u, hu, ru⟩ := r.get hd
    obtain ⟨u', hu', ru'⟩ := r'.get hd'
    have q1 := ha vs h1
    have q2 := hb ws h1'
    rw [hu] at q1; cases q1
    rw [hu'] at q2; cases q2
    subst ev
    exact pair_laid R2 hT e3 ru ru'
theorem wk_zipT {c : Chk} {xs ys : List D} {p q : Addr} (h : SrcT K H m xs p) (h' : SrcT K H m ys q) : Wk K H m (RZ.ItzT K p q) c (zipD xs ys) := fun H2 m2 S2 z R2 k => by
  obtain ⟨vs, h1, r⟩ := h H2 m2 z
  obtain ⟨ws, h1', r'⟩ := h' H2 m2 z
  rw [zip_len]
  have e1 := r.length
  have e2 := r'.length
  refine ⟨fun i hi => ?_, ⟨vs, ws, h1, h1', by omega⟩, fun i x v H3 hx ⟨T, a, b, ev, hT, e3, ha, hb⟩ => ?_⟩
  · obtain ⟨v, hv, _⟩ := r.get (List.getElem?_eq_getElem (show i < xs.length by omega))
    obtain ⟨w, hw, _⟩ := r'.get (List.getElem?_eq_getElem (show i < ys.length by omega))
    exact ⟨vs, ws, v, w, h1, h1', hv, hw⟩
  · obtain ⟨d, d', hd, hd', rfl⟩ := zip_get hx
    obtain ⟨u, hu, ru⟩ := r.get hd
    obtain ⟨u', hu', ru'⟩ := r'.get hd'
    have q1 := ha vs h1
    have q2 := hb ws h1'
    rw [hu] at q1; cases q1
    rw [hu'] at q2; cases q2
    subst ev
    exact pair_laid R2 hT e3 ru ru'
theorem wk_zipM {c : Chk} {xs ys : List D} {p q : Addr} (h : SrcT K H m xs p) (h' : SrcL K H m c ys q) : Wk K H m (ItM K p q) c (zipD xs ys) := fun H2 m2 S2 z R2 k => by
  obtain ⟨vs, h1, r⟩ := h H2 m2 z
  obtain ⟨ws, h1', r'⟩ := h' H2 m2 S2 z R2 k
  rw [zip_len]
  have e1 := r.length
  have e2 := r'.length
  refine ⟨fun i hi => ?_, ⟨vs, ws, h1, h1', by omega, by omega, by omega⟩, fun i x v H3 hx ⟨T, a, b, ev, hT, e3, ha, hb⟩ => ?_⟩
  · obtain ⟨v, hv, _⟩ := r.get (List.getElem?_eq_getElem (show i < xs.length by omega))
    obtain ⟨w, hw, _⟩ := r'.get (List.getElem?_eq_getElem (show i < ys.length by omega))
    exact ⟨vs, ws, v, w, h1, h1', hv, hw⟩
  · obtain ⟨d, d', hd, hd', rfl⟩ := zip_get hx
    obtain ⟨u, hu, ru⟩ := r.get hd
    obtain ⟨u', hu', ru'⟩ := r'.get hd'
    have q1 := ha vs h1
    have q2 := hb ws h1'
    rw [hu] at q1; cases q1
    rw [hu'] at q2; cases q2
    subst ev
    exact pair_laid R2 hT e3 ru ru'
theorem wk_rng {c : Chk} (i j : Int) : Wk K H m (L2.Itr i (j - i).toNat) c (rngD i j) := fun H2 m2 S2 z R2 k => by
  have hl : (rngD i j).length = (j - i).toNat := by simp [rngD]
  rw [hl]
  refine ⟨fun n hn => hn, Nat.le_refl _, fun n x v H3 hx ⟨e, y⟩ => ?_⟩
  subst e
  subst y
  unfold rngD at hx
  rw [List.getElem?_map] at hx
  cases e : (List.range (j - i).toNat)[n]? with
  | none => rw [e] at hx; cases hx
  | some k =>
    rw [e] at hx
    have : k = n := by
      obtain ⟨h1, h2⟩ := List.getElem?_eq_some_iff.mp e
      simpa using h2.symm
    subst this
    cases hx
    exact ⟨Le.refl _ _, R2, rfl⟩
end
section
variable {X : Cx} {a b c ex tgt : Expr} {f g : DV} {pos : Pos}
/-- a value that is a list or a tuple, whichever: two rules joined -/
theorem PI.or {X : Cx} {tg l : Expr} {t : TE} (hl : PE X l t) : PI X tg l (fun σ H R => t σ H fun x H1 => ∃ p, x = .ref p ∧ ((∃ xs, SqL X.K H1 p xs) ∧ R (L2.Itl X.K p) H1 ∨ (∃ xs, SqT X.K H1 p xs) ∧ R (L2.Itt X.K p) H1)) := by
  refine ⟨fun pins s σ H R I h => ?_⟩
  refine L2.thn (hl.run pins s σ H _ I h) fun v s1 ⟨x, H1, I1, r1, p, ex, q⟩ => ?_
  subst ex
  have own : PE (X) l (fun _ _ Q => True) → True := fun _ => trivial
  cases r1
  rcases q with ⟨⟨xs, hq⟩, q⟩ | ⟨⟨xs, hq⟩, q⟩
  · obtain ⟨its, rv, p', _⟩ := I1.list hq
    refine wpAny_pyIter_list p'.isList ?_
    refine ⟨s1.heap.objs.size, [s1.heap.objs.size], _, _, H1, rfl, I1.kept (t' := s1.toks) fun b u e => Heap.get?_push_of_some _ e, L2.turn_list p s1.heap.objs.size, ⟨_, Heap.get?_push_size _ rfl, rfl, rfl⟩, fun b hb => ?_, q⟩
    have e' : b = s1.heap.objs.size := by simpa using hb
    subst e'
    exact I1.fpOk (Nat.le_refl _) (I1.hok.fresh (Nat.le_refl _))
  · obtain ⟨its, rv, p', _⟩ := I1.tuple hq
    refine wpAny_pyIter_tuple (show s1.heap.IsTuple p its.toArray from p') ?_
    refine ⟨s1.heap.objs.size, [s1.heap.objs.size], _, _, H1, rfl, I1.kept (t' := s1.toks) fun b u e => Heap.get?_push_of_some _ e, L2.turn_tuple p s1.heap.objs.size, ⟨_, Heap.get?_push_size _ rfl, rfl, rfl⟩, fun b hb => ?_, q⟩
    have e' : b = s1.heap.objs.size := by simpa using hb
    subst e'
    exact I1.fpOk (Nat.le_refl _) (I1.hok.fresh (Nat.le_refl _))
/-- what the machine knows where a walk begins -/
theorem PI.inv {X : Cx} {tg it : Expr} {t : TI} (h : PI X tg it t) : PI X tg it fun σ H R => t σ H fun J H1 => (∃ pins s, Inv X pins σ H1 s) → R J H1 :=
  ⟨fun pins s σ H R I q => L2.thn (h.run pins s σ H _ I q) fun v s1 h1 => L2.thn h1 fun w s2 ⟨it, fp, tn, J, H', e, I', T, t0, f, r⟩ => ⟨it, fp, tn, J, H', e, I', T, t0, f, r ⟨pins, s2, I'⟩⟩⟩
theorem chk_now (x : Vl) (S : Sto) : (chkOf x S).ok S := fun p hp => by
  unfold chkOf at hp
  split at hp
  · split at hp
    · rename_i o ho
      rw [List.mem_singleton.mp hp]
      exact ho
    · cases hp
  · cases hp
theorem src_len {p : Addr} {m : List Addr} {c : Chk} {xs : List D} {S : Sto} {H : Hp} {pins : List (Addr × Obj)} {σ : L2.St} {s : Shared} (I : Inv X pins σ H s) (R : Rl X.K m H S) (hc : c.ok S) (w : SrcL X.K H m c xs p ∨ SrcT X.K H m xs p) : xs.length ≤ line := by
  rcases w with w | w
  · obtain ⟨vs, h1, h2⟩ := w H m S (Le.refl _ _) R hc
    obtain ⟨_, _, _, hz⟩ := I.list h1
    rw [h2.length]; exact hz
  · obtain ⟨vs, h1, h2⟩ := w H m (Le.refl _ _)
    obtain ⟨_, _, _, hz⟩ := I.tuple h1
    rw [h2.length]; exact hz
theorem so_iE (ha : PE X a (tE X.K f)) : PI X tgt a (tI X.K (iE f)) := PI.imp (PI.inv (PI.or ha)) fun σ H R ⟨b, m, e, S, c, xs, S', hb, Rr, RE, he, q⟩ => by
  obtain ⟨p1, h1, he⟩ := bind_ok he
  obtain ⟨ys, h2, he⟩ := bind_ok he
  have e1 : ((chkOf p1.1 p1.2, ys), p1.2) = ((c, xs), S') := by injection he
  injection e1 with e1 e2
  injection e1 with e1 e3
  subst e1
  subst e2
  subst e3
  refine ⟨b, m, e, S, p1.1, p1.2, hb, Rr, RE, h1, fun v H' m' z R' rv => ?_⟩
  obtain ⟨p, rfl, w⟩ := src_of (c := chkOf p1.1 p1.2) R' rv (ofO_ok h2) fun _ k => k
  refine ⟨p, rfl, ?_⟩
  have hl := fun pins s (I : Inv X pins σ H' s) => src_len I R' (chk_now _ _) (w.imp_right And.left)
  rcases w with w | w
  · obtain ⟨vs, h3, _⟩ := w H' m' p1.2 (Le.refl _ _) R' (chk_now _ _)
    exact .inl ⟨⟨vs, h3⟩, fun ⟨pins, s, I⟩ => q _ H' m' z R' (wk_list w) (hl pins s I)⟩
  · replace w := w.1
    obtain ⟨vs, h3, _⟩ := w H' m' (Le.refl _ _)
    exact .inr ⟨⟨vs, h3⟩, fun ⟨pins, s, I⟩ => q _ H' m' z R' (wk_tup w) (hl pins s I)⟩
theorem so_iRev {p : Pos} (h : noStar a = true) (hg : Gl X "reversed") (hm : X.mg "reversed" = none) (ha : PE X a (tE X.K f)) : PI X tgt (.Call (.Name "reversed" p) [a] [] pos) (tI X.K (iRev f)) := PI.imp (PI.inv (RT.pi_revA hg hm ha (star1 h [] X.env))) fun σ H R ⟨b, m, e, S, c, xs, S', hb, Rr, RE, he, q⟩ => by
  obtain ⟨p1, h1, he⟩ := bind_ok he
  obtain ⟨ys, h2, he⟩ := bind_ok he
  have e1 : ((chkOf p1.1 p1.2, ys.reverse), p1.2) = ((c, xs), S') := by injection he
  injection e1 with e1 e2
  injection e1 with e1 e3
  subst e1
  subst e2
  subst e3
  refine ⟨b, m, e, S, p1.1, p1.2, hb, Rr, RE, h1, fun v H' m' z R' rv => ?_⟩
  obtain ⟨p, rfl, w⟩ := src_of (c := chkOf p1.1 p1.2) R' rv (ofO_ok h2) fun _ k => k
  have hl := fun pins s (I : Inv X pins σ H' s) => src_len I R' (chk_now _ _) (w.imp_right And.left)
  rcases w with w | w
  · obtain ⟨vs, h3, h4⟩ := w H' m' p1.2 (Le.refl _ _) R' (chk_now _ _)
    refine ⟨p, vs, rfl, .inl ⟨h3, fun ⟨pins, s, I⟩ => ?_⟩⟩
    rw [← h4.length]
    exact q _ H' m' z R' (wk_rev w) (by rw [List.length_reverse]; exact hl pins s I)
  · replace w := w.1
    obtain ⟨vs, h3, h4⟩ := w H' m' (Le.refl _ _)
    refine ⟨p, vs, rfl, .inr ⟨h3, fun ⟨pins, s, I⟩ => ?_⟩⟩
    rw [← h4.length]
    exact q _ H' m' z R' (wk_revT w) (by rw [List.length_reverse]; exact hl pins s I)
theorem so_iEnum {p tpos : Pos} {elts : List Expr} {kk : Nat} (h : noStar a = true) (hg : Gl X "enumerate") (hm : X.mg "enumerate" = none) (ha : PE X a (tE X.K f)) : PI X (.Tuple elts kk tpos) (.Call (.Name "enumerate" p) [a] [] pos) (tI X.K (iEnum f)) :=
  PI.imp (PI.inv (pi_enumA hg hm (L2.pa_cons ha L2.pa_nil (star1 h [] X.env)) (star1 h [] X.env))) fun σ H R ⟨b, m, e, S, c, xs, S', hb, Rr, RE, he, q⟩ => by
  obtain ⟨p1, h1, he⟩ := bind_ok he
  obtain ⟨ys, h2, he⟩ := bind_ok he
  have e1 : ((chkOf p1.1 p1.2, enumD ys), p1.2) = ((c, xs), S') := by injection he
  injection e1 with e1 e2
  injection e1 with e1 e3
  subst e1
  subst e2
  subst e3
  refine ⟨b, m, e, S, p1.1, p1.2, hb, Rr, RE, h1, fun v H' m' z R' rv => ?_⟩
  obtain ⟨p, rfl, w⟩ := src_of (c := chkOf p1.1 p1.2) R' rv (ofO_ok h2) fun _ k => k
  have hl := fun pins s (I : Inv X pins σ H' s) => src_len I R' (chk_now _ _) (w.imp_right And.left)
  rcases w with w | w
  · obtain ⟨vs, h3, h4⟩ := w H' m' p1.2 (Le.refl _ _) R' (chk_now _ _)
    exact ⟨p, vs, rfl, .inl ⟨h3, fun ⟨pins, s, I⟩ => q _ H' m' z R' (wk_enum w) (by rw [enum_len]; exact hl pins s I)⟩⟩
  · replace w := w.1
    obtain ⟨vs, h3, h4⟩ := w H' m' (Le.refl _ _)
    exact ⟨p, vs, rfl, .inr ⟨h3, fun ⟨pins, s, I⟩ => q _ H' m' z R' (wk_enumT w) (by rw [enum_len]; exact hl pins s I)⟩⟩
theorem tup_src {K : PySem.W.Frag} {H H0 : Hp} {m : List Addr} {S : Sto} {x : Vl} {v : V} {xs : List D} {c : Chk} (R : Rl K m H S) (r : RV K H0 H m x v) (h : items x S = some xs) (hc : ∀ S2, c.ok S2 → (chkOf x S).ok S2) :
    ∃ p, v = .ref p ∧ (((tupO x).isSome = true ∧ SrcT K H m xs p) ∨ ((tupO x).isSome = false ∧ SrcL K H m c xs p)) := by
  cases e : tupO x with
  | some ys =>
    rw [tupO_some e] at h r
    cases h
    obtain ⟨p, vs, rfl, hp, r⟩ := (r : ∃ a vs, v = .ref a ∧ H a = some (.tup vs) ∧ RDs K H m xs vs)
    exact ⟨p, rfl, .inl ⟨rfl, fun H2 m2 z => ⟨vs, SqT.of (z.tk.tup p vs hp), r.mono z⟩⟩⟩
  | none =>
    obtain ⟨p, rfl, w⟩ := src_of (c := c) R r h hc
    refine ⟨p, rfl, .inr ⟨rfl, ?_⟩⟩
    rcases w with w | w
    · exact w
    · rcases w.2 with ⟨ys, hy⟩
      rw [hy] at e; cases e
theorem so_iZip {p tpos : Pos} {elts : List Expr} {kk : Nat} (h : noStar a = true) (h' : noStar b = true) (hg : Gl X "zip") (hm : X.mg "zip" = none) (kf : KV f) (ha : PE X a (tE X.K f)) (hb : PE X b (tE X.K g)) :
    PI X (.Tuple elts kk tpos) (.Call (.Name "zip" p) [a, b] [] pos) (tI X.K (iZip f g)) :=
  PI.imp (PI.inv (pi_zipX hg hm (L2.pa_cons ha (L2.pa_cons hb L2.pa_nil (star1 h' [] X.env)) (star1 h [b] X.env)) (star1 h [b] X.env) (by rw [star1 h' [] X.env]; rfl))) fun σ H R ⟨b, m, e, S, c, xs, S', hb, Rr, RE, he, q⟩ => by
  obtain ⟨p1, h1, he⟩ := bind_ok he
  obtain ⟨p2, h2, he⟩ := bind_ok he
  obtain ⟨ys, h3, he⟩ := bind_ok he
  obtain ⟨zs, h4, he⟩ := bind_ok he
  split at he
  · rename_i hs
    have e1 : ((chkOf p1.1 p2.2 ++ chkOf p2.1 p2.2, zipD ys zs), p2.2) = ((c, xs), S') := by injection he
    injection e1 with e1 e2
    injection e1 with e1 e3
    subst e1
    subst e2
    subst e3
    refine two_of kf hb Rr RE h1 h2 fun x y H' m' z R' rx ry => ?_
    obtain ⟨p, rfl, w1⟩ := tup_src (c := chkOf p1.1 p2.2 ++ chkOf p2.1 p2.2) R' rx (ofO_ok h3) fun _ k u hu => k u (List.mem_append_left _ hu)
    obtain ⟨p', rfl, w2⟩ := tup_src (c := chkOf p1.1 p2.2 ++ chkOf p2.1 p2.2) R' ry (ofO_ok h4) fun _ k u hu => k u (List.mem_append_right _ hu)
    have now : (chkOf p1.1 p2.2 ++ chkOf p2.1 p2.2).ok p2.2 := fun u hu => (List.mem_append.mp hu).elim (chk_now _ _ u) (chk_now _ _ u)
    rcases w1 with ⟨t1, w1⟩ | ⟨t1, w1⟩ <;> rcases w2 with ⟨t2, w2⟩ | ⟨t2, w2⟩
    · obtain ⟨vs, q1, _⟩ := w1 H' m' (Le.refl _ _)
      obtain ⟨ws, q2, _⟩ := w2 H' m' (Le.refl _ _)
      exact ⟨p, p', vs, ws, rfl, .inr (.inl ⟨q1, q2, fun ⟨pins, s, I⟩ => q _ H' m' z R' (wk_zipT w1 w2) (by rw [zip_len]; exact Nat.le_trans (Nat.min_le_left _ _) (src_len I R' now (.inr w1)))⟩)⟩
    · obtain ⟨vs, q1, _⟩ := w1 H' m' (Le.refl _ _)
      obtain ⟨ws, q2, _⟩ := w2 H' m' p2.2 (Le.refl _ _) R' now
      exact ⟨p, p', vs, ws, rfl, .inr (.inr ⟨q1, q2, fun ⟨pins, s, I⟩ => q _ H' m' z R' (wk_zipM w1 w2) (by rw [zip_len]; exact Nat.le_trans (Nat.min_le_left _ _) (src_len I R' now (.inr w1)))⟩)⟩
    · rw [t1, t2] at hs; cases hs
    · obtain ⟨vs, q1, _⟩ := w1 H' m' p2.2 (Le.refl _ _) R' now
      obtain ⟨ws, q2, _⟩ := w2 H' m' p2.2 (Le.refl _ _) R' now
      exact ⟨p, p', vs, ws, rfl, .inl ⟨q1, q2, fun ⟨pins, s, I⟩ => q _ H' m' z R' (wk_zip w1 w2) (by rw [zip_len]; exact Nat.le_trans (Nat.min_le_left _ _) (src_len I R' now (.inl w1)))⟩⟩
  · cases he
theorem so_iRng1 {p : Pos} (h : noStar b = true) (hg : Gl X "range") (hm : X.mg "range" = none) (hb : PE X b (tE X.K g)) : PI X tgt (.Call (.Name "range" p) [b] [] pos) (tI X.K (iRng oNone g)) :=
  PI.imp (L2.pi_range1 hg hm (L2.pa_cons (so_D hb) L2.pa_nil (star1 h [] X.env)) (star1 h [] X.env)) fun σ H R ⟨b, m, e, S, c, xs, S', hb, Rr, RE, he, q⟩ => by
  obtain ⟨p1, h1, he⟩ := bind_ok he
  split at he
  · rename_i hl
    have hd := ends_bd h1
    have e1 : (([], rngD p1.1.1 p1.1.2), p1.2) = ((c, xs), S') := by injection he
    injection e1 with e1 e2
    injection e1 with e1 e3
    subst e1
    subst e2
    subst e3
    obtain ⟨p0, h0, h1⟩ := bind_ok h1
    cases h0
    obtain ⟨p2, h2, h1⟩ := bind_ok h1
    obtain ⟨j, h3, h1⟩ := bind_ok h1
    refine ⟨b, m, e, S, p2.1, p2.2, hb, Rr, RE, h2, fun v H' m' z R' rv => ?_⟩
    have h3' := ofO_ok h3
    unfold intO at h3'
    split at h3'
    · rename_i i hi
      rw [hi] at rv
      have ej : i = j := by injection h3'
      subst ej
      split at h1
      · have e6 : (((0 : Int), i), p2.2) = p1 := by injection h1
        subst e6
        refine ⟨i, by rw [show v = .int i from rv], by omega, by omega, ?_⟩
        have e5 : (i - 0).toNat = i.toNat := by simp
        have wk := wk_rng (K := X.K) (H := H') (m := m') (c := []) 0 i
        rw [e5] at wk
        exact q _ H' m' z R' wk (by simpa [rngD] using hl)
      · cases h1
    · cases h3'
  · cases he
theorem so_iRng2 {p : Pos} (h : noStar a = true) (h' : noStar b = true) (hg : Gl X "range") (hm : X.mg "range" = none) (kf : KV f) (ha : PE X a (tE X.K f)) (hb : PE X b (tE X.K g)) : PI X tgt (.Call (.Name "range" p) [a, b] [] pos) (tI X.K (iRng (oSome f) g)) :=
  PI.imp (L2.pi_range2 hg hm (L2.pa_cons (so_D ha) (L2.pa_cons (so_D hb) L2.pa_nil (star1 h' [] X.env)) (star1 h [b] X.env)) (by rw [star1 h, star1 h']; rfl) (star1 h' [] X.env)) fun σ H R ⟨b, m, e, S, c, xs, S', hb, Rr, RE, he, q⟩ => by
  obtain ⟨p1, h1, he⟩ := bind_ok he
  split at he
  · rename_i hl
    have hd := ends_bd h1
    have e1 : (([], rngD p1.1.1 p1.1.2), p1.2) = ((c, xs), S') := by injection he
    injection e1 with e1 e2
    injection e1 with e1 e3
    subst e1
    subst e2
    subst e3
    obtain ⟨p0, h0, h1⟩ := bind_ok h1
    obtain ⟨q0, h00, h0⟩ := bind_ok h0
    obtain ⟨i, h01, h0⟩ := bind_ok h0
    cases h0
    obtain ⟨p2, h2, h1⟩ := bind_ok h1
    obtain ⟨j, h3, h1⟩ := bind_ok h1
    have k1 := kf.sD b e S q0.1 q0.2 hb h00
    refine ⟨b, m, e, S, q0.1, q0.2, hb, Rr, RE, h00, fun x H1 m1 z1 R1 rx => ⟨b, m1, e, q0.2, p2.1, p2.2, Nat.le_trans hb k1.len, R1, RE.mono z1, h2, fun y H2 m2 z2 R2 ry => ?_⟩⟩
    have h3' := ofO_ok h3
    have h01' := ofO_ok h01
    unfold intO at h3' h01'
    split at h01'
    · rename_i i' hi
      rw [hi] at rx
      cases h01'
      split at h3'
      · rename_i j' hj
        rw [hj] at ry
        cases h3'
        split at h1
        · cases h1
          exact ⟨i, j, by rw [show x = .int i from rx, show y = .int j from ry], ⟨hd.1.1, hd.1.2, hd.2.1, hd.2.2⟩, q _ H2 m2 (z1.trans z2) R2 (wk_rng _ _) (by simpa [rngD] using hl)⟩
        · cases h1
      · cases h3'
    · cases h01'
  · cases he
end
end Pv
set_option linter.all false
set_option autoImplicit false
set_option maxRecDepth 100000
/-! What the evaluator tells, the machine does: comprehensions, statements. -/
namespace Pv
open PySem PySem.Spec PyProof.Rows
open L2 (V Hp HO upd upd_same upd_ne VK XK TE TT TA TS TG TGs TI Cx PE PT PW PA PS PSs PG PGs PI Inv RelV SqL SqT OpR CallR Gl)

theorem KV.iE {f : DV} (kf : KV f) : KV (iE f) := fun b e S r S' hb he => by
  obtain ⟨p1, h1, he⟩ := bind_ok he
  obtain ⟨k, h2, he⟩ := bind_ok he
  cases he; exact kf b e S p1.1 p1.2 hb h1
theorem KV.iEnum {f : DV} (kf : KV f) : KV (iEnum f) := fun b e S r S' hb he => by
  obtain ⟨p1, h1, he⟩ := bind_ok he
  obtain ⟨k, h2, he⟩ := bind_ok he
  cases he; exact kf b e S p1.1 p1.2 hb h1
theorem KV.iRev {f : DV} (kf : KV f) : KV (iRev f) := fun b e S r S' hb he => by
  obtain ⟨p1, h1, he⟩ := bind_ok he
  obtain ⟨k, h2, he⟩ := bind_ok he
  cases he; exact kf b e S p1.1 p1.2 hb h1
theorem KV.iZip {f g : DV} (kf : KV f) (kg : KV g) : KV (iZip f g) := fun b e S r S' hb he => by
  obtain ⟨p1, h1, he⟩ := bind_ok he
  obtain ⟨p2, h2, he⟩ := bind_ok he
  obtain ⟨_, _, he⟩ := bind_ok he
  obtain ⟨_, _, he⟩ := bind_ok he
  have k1 := kf b e S p1.1 p1.2 hb h1
  split at he
  · cases he; exact k1.trans (kg b e p1.2 p2.1 p2.2 (Nat.le_trans hb k1.len) h2)
  · cases he
theorem KV.iRng {lo : DO} {g : DV} (kl : KV lo) (kg : KV g) : KV (iRng lo g) := fun b e S r S' hb he => by
  obtain ⟨p1, h1, he⟩ := bind_ok he
  split at he
  · cases he; exact KV.ends kl kg b e S p1.1 p1.2 hb h1
  · cases he
theorem compL_kp {b : Nat} {c : Chk} {f : D → Sto → Rs (Option D × Sto)} (kf : ∀ x S r S', b ≤ S.length → f x S = .ok (r, S') → Kp b S S') : ∀ (xs : List D) (S : Sto) (r : List D) (S' : Sto), b ≤ S.length → compL c f xs S = .ok (r, S') → Kp b S S'
  | [], S, r, S', hb, h => by
    unfold compL at h
    split at h
    · cases h; exact Kp.refl b _
    · cases h
  | x :: xs, S, r, S', hb, h => by
    unfold compL at h
    split at h
    · obtain ⟨p1, h1, h⟩ := bind_ok h
      obtain ⟨p2, h2, h⟩ := bind_ok h
      cases h
      have k1 := kf x S p1.1 p1.2 hb h1
      exact k1.trans (compL_kp kf xs p1.2 p2.1 p2.2 (Nat.le_trans hb k1.len) h2)
    · cases h
/-- one turn of a comprehension -/
def turnC (x : DV) (t : DG) (u : DT) (e0 : Env) (b : Nat) (d : D) (S : Sto) : Rs (Option D × Sto) := t b d e0 S >>= fun p => u b p.1 p.2 >>= fun q => match q.1 with
  | true => sD x b p.1 q.2 >>= fun v => .ok (some v.1, v.2)
  | false => .ok (none, q.2)
theorem turnC_kp {x : DV} {t : DG} {u : DT} {e0 : Env} {b : Nat} (kx : KV x) (kt : KG t) (ku : KV u) (d : D) (S : Sto) (r : Option D) (S' : Sto) (hb : b ≤ S.length) (h : turnC x t u e0 b d S = .ok (r, S')) : Kp b S S' := by
  obtain ⟨p1, h1, h⟩ := bind_ok h
  obtain ⟨p2, h2, h⟩ := bind_ok h
  have k1 := (kt b d e0 S p1.1 p1.2 hb h1).1
  have k2 := k1.trans (ku b p1.1 p1.2 p2.1 p2.2 (Nat.le_trans hb k1.len) h2)
  split at h
  · obtain ⟨p3, h3, h⟩ := bind_ok h
    cases h
    exact k2.trans (kx.sD b p1.1 p2.2 p3.1 p3.2 (Nat.le_trans hb k2.len) h3)
  · cases h; exact k2
theorem sComp_eq (x : DV) (t : DG) (it : DI) (u : DT) (vs : List Nat) (b : Nat) (e : Env) (S : Sto) : sComp x t it u vs b e S = it b e S >>= fun r => compL r.1.1 (turnC x t u (wipeE e vs) b) r.1.2 r.2 >>= fun q => .ok (.fr q.1, q.2) := rfl
theorem KV.comp {x : DV} {t : DG} {it : DI} {u : DT} {vs : List Nat} (kx : KV x) (kt : KG t) (ki : KV it) (ku : KV u) : KV (sComp x t it u vs) := fun b e S r S' hb he => by
  rw [sComp_eq] at he
  obtain ⟨p1, h1, he⟩ := bind_ok he
  obtain ⟨p2, h2, he⟩ := bind_ok he
  cases he
  have k1 := ki b e S p1.1 p1.2 hb h1
  exact k1.trans (compL_kp (fun d S r S' hb h => turnC_kp kx kt ku d S r S' hb h) _ _ _ _ (Nat.le_trans hb k1.len) h2)
theorem RE.wipe {K : PySem.W.Frag} {H : Hp} {m : List Addr} {e : Env} {σ : L2.St} (h : RE K H m e σ) : ∀ vs : List Nat, RE K H m (wipeE e vs) (L2.wipe σ vs)
  | [] => h
  | v :: vs => by
    have h' := RE.wipe h vs
    refine ⟨by show ((wipeE e vs).set v none).length = ((L2.wipe σ vs).set v none).length; simp [h'.1], fun i x hi => ?_⟩
    have hi' : ((wipeE e vs).set v none)[i]? = some (some x) := hi
    by_cases ev : v = i
    · subst ev
      rw [List.getElem?_set] at hi'
      simp at hi'
    · rw [List.getElem?_set_ne ev] at hi'
      obtain ⟨w, h1, h2⟩ := h'.2 i x hi'
      exact ⟨w, by show ((L2.wipe σ vs).set v none)[i]? = _; rw [List.getElem?_set_ne ev]; exact h1, h2⟩
theorem wipe_wipe (σ : L2.St) (vs : List Nat) : L2.wipe (L2.wipe σ vs) vs = L2.wipe σ vs := by
  apply List.ext_getElem?
  intro j
  rw [wipe_at, wipe_at, L2.wipe_length]
  by_cases hj : j ∈ vs
  · rw [if_pos hj, if_pos hj]
  · rw [if_neg hj, if_neg hj]
theorem Rl.other {K : PySem.W.Frag} {m : List Addr} {H : Hp} {S : Sto} (R : Rl K m H S) {p : Addr} {vs ws : List V} (hp : H p = some (.lst vs)) (hn : p ∉ m) : Tk H (upd H p (.lst ws)) ∧ Rl K m (upd H p (.lst ws)) S := by
  have t : Tk H (upd H p (.lst ws)) := Tk.upd (fun us h => by rw [hp] at h; cases h) (fun _ _ h => by rw [hp] at h; cases h)
  refine ⟨t, R.len, R.nd, fun l a o h1 h2 => ?_⟩
  have na : a ≠ p := fun e => hn (by subst e; exact List.mem_of_getElem? h1)
  have := R.at_ l a o h1 h2
  cases o with
  | lst zs => obtain ⟨us, h, q⟩ := this; exact ⟨us, by rw [upd_ne na]; exact h, q.mono' (List.prefix_refl m) t⟩
  | dct _ _ => obtain ⟨hf, ks, h, hk, q⟩ := this; exact ⟨hf, ks, by rw [upd_ne na]; exact h, hk, q.mono' (List.prefix_refl m) t⟩
theorem Le.other {H1 H : Hp} {m1 m : List Addr} (z : Le H1 m1 H m) {p : Addr} {vs ws : List V} (hp : H p = some (.lst vs)) (h1 : H1 p = none) : Le H1 m1 (upd H p (.lst ws)) m :=
  ⟨z.pre, z.tk.trans (Tk.upd (fun us h => by rw [hp] at h; cases h) (fun _ _ h => by rw [hp] at h; cases h)), fun q o h n => by
    rw [upd_ne (fun e => by subst e; rw [h1] at h; cases h)]
    exact z.rest q o h n, z.fresh⟩
section
variable {X : Cx} {a b c ex tgt iter elt : Expr} {f g : DV} {pos : Pos}
theorem compL_cons {c : Chk} {f : D → Sto → Rs (Option D × Sto)} {x : D} {xs : List D} {S : Sto} {r : List D × Sto} (h : compL c f (x :: xs) S = .ok r) : c.ok S ∧ ∃ p q, f x S = .ok p ∧ compL c f xs p.2 = .ok q ∧ r = (p.1.toList ++ q.1, q.2) := by
  unfold compL at h
  split at h
  · rename_i hc
    obtain ⟨p, h1, h⟩ := bind_ok h
    obtain ⟨q, h2, h⟩ := bind_ok h
    refine ⟨hc, p, q, h1, h2, ?_⟩
    injection h with h
    exact h.symm
  · cases h
theorem compL_nil {c : Chk} {f : D → Sto → Rs (Option D × Sto)} {S : Sto} {r : List D × Sto} (h : compL c f [] S = .ok r) : c.ok S ∧ r = ([], S) := by
  unfold compL at h
  split at h
  · rename_i hc
    injection h with h
    exact ⟨hc, h.symm⟩
  · cases h
theorem so_comp {ifs : List Expr} {scope : Scope} {own : List (Str × Nat)} {x : DV} {t : DG} {it : DI} {u : DT} {ts : List Nat} (hc : X.calm = true) (hN : X.N.Nodup) (ok : L2.BlkOk X.N X.env.scope scope own) (hts : ∀ i ∈ ts, i ∈ own.map (·.2))
    (hi : PI X tgt iter (tI X.K it)) (hg : ∀ (s : Shared) (H : Hp) (C : Addr) (cl : List (Str × Addr)) (fp : List Addr), PG (X.blk s H scope (compEnvC scope cl C X.env) fp) tgt (tg X.K ts t))
    (ht : ∀ (s : Shared) (H : Hp) (C : Addr) (cl : List (Str × Addr)) (fp : List Addr), L2.PTs (X.blk s H scope (compEnvC scope cl C X.env) fp) ifs (tT X.K u))
    (he : ∀ (s : Shared) (H : Hp) (C : Addr) (cl : List (Str × Addr)) (fp : List Addr), PE (X.blk s H scope (compEnvC scope cl C X.env) fp) elt (tE X.K x))
    (hs : ∀ x, foldedSetIterable iter X.env x = pure x) (kx : KV x) (kt : KG t) (ki : KV it) (ku : KV u) : ∀ σ H Q, tE X.K (sComp x t it u (own.map (·.2))) σ H Q → L2.tLc (tI X.K it) (tg X.K ts t) (tT X.K u) (tD X.K (sD x)) (own.map (·.2)) σ H Q := fun σ H Q ⟨b, m, e, S, r, S', hb, R, REe, hev, q⟩ => by
  rw [sComp_eq] at hev
  obtain ⟨p1, h1, hev⟩ := bind_ok hev
  obtain ⟨p2, h2, hev⟩ := bind_ok hev
  have e1 : (Vl.fr p2.1, p2.2) = (r, S') := by injection hev
  injection e1 with e1 e2
  subst e1
  subst e2
  have k1 := ki b e S p1.1 p1.2 hb h1
  generalize hF : turnC x t u (wipeE e (own.map (·.2))) b = F at h2
  have kF : ∀ d S r S', b ≤ S.length → F d S = .ok (r, S') → Kp b S S' := fun d S r S' hb h => by rw [← hF] at h; exact turnC_kp kx kt ku d S r S' hb h
  refine ⟨b, m, e, S, p1.1.1, p1.1.2, p1.2, hb, R, REe, h1, fun J H1 m1 z1 R1 wk hl L hL => ?_⟩
  generalize hxs : p1.1.2 = xs at h2 wk hl
  generalize hck : p1.1.1 = ck at h2 wk
  have nL := R1.new hL
  refine ⟨fun i k Hc => k = xs.length - i ∧ i ≤ xs.length ∧ ∃ (mc : List Addr) (Sc : Sto) (acc : List D) (vs : List V) (rest : List D × Sto), Le H1 m1 Hc mc ∧ Rl X.K mc Hc Sc ∧ b ≤ Sc.length ∧ Hc L = some (.lst vs) ∧ L ∉ mc ∧ RDs X.K Hc mc acc vs ∧
    acc.length ≤ i ∧ compL ck F (xs.drop i) Sc = .ok rest ∧ acc ++ rest.1 = p2.1 ∧ rest.2 = p2.2, ⟨xs.length, ?_⟩, ?_⟩
  · obtain ⟨zL, RL⟩ := R1.laid (o := .lst []) hL
    exact ⟨rfl, Nat.zero_le _, m1, p1.2, [], [], p2, zL, RL, Nat.le_trans hb k1.len, upd_same, nL, rfl, Nat.le_refl _, h2, rfl, rfl⟩
  · rintro i k Hc ⟨rfl, hi, mc, Sc, acc, vs, rest, zc, Rc, hbc, hDc, nDc, ra, hal, hcl, e3, e4⟩
    by_cases hlt : i < xs.length
    · rw [List.drop_eq_getElem_cons hlt] at hcl
      obtain ⟨hck, p, q2, hf, hr, er⟩ := compL_cons hcl
      obtain ⟨g1, _, g3⟩ := wk Hc mc Sc zc Rc hck
      refine .inr ⟨g1 i hlt, _, fun H' h => h, fun x' H' hy => ?_⟩
      obtain ⟨zy, Ry, rx⟩ := g3 i xs[i] x' H' (List.getElem?_eq_getElem hlt) hy
      rw [← hF] at hf
      obtain ⟨pt, ht1, hf⟩ := bind_ok hf
      obtain ⟨pu, hu1, hf⟩ := bind_ok hf
      have kt1 := (kt b _ _ Sc pt.1 pt.2 hbc ht1).1
      have ku1 := kt1.trans (ku b pt.1 pt.2 pu.1 pu.2 (Nat.le_trans hbc kt1.len) hu1)
      have hDy := zy.rest L _ hDc nDc
      have nDy := nDc
      refine ⟨b, mc, _, Sc, xs[i], pt.1, pt.2, hbc, Ry, ((Pv.RE.mono (z1.trans (zc.trans zy)) REe).wipe _), rx, ht1, fun σ2 H2 m2 z2 R2 RE2 ws => ⟨(ws _ hts).trans (wipe_wipe σ _), b, m2, pt.1, pt.2, pu.1, pu.2, Nat.le_trans hbc kt1.len, R2, RE2, hu1, fun H3 m3 z3 R3 => ?_⟩⟩
      have hD3 := z3.rest L _ (z2.rest L _ hDy nDy) (z2.out hDy nDy)
      have nD3 := z3.out (z2.rest L _ hDy nDy) (z2.out hDy nDy)
      have zz : Le H1 m1 H3 m3 := zc.trans (zy.trans (z2.trans z3))
      cases ek : pu.1 with
      | true =>
        rw [ek] at hf
        obtain ⟨px, hx1, hf⟩ := bind_ok hf
        have ep : (some px.1, px.2) = p := by injection hf
        subst ep
        have kx1 := ku1.trans (kx.sD b pt.1 pu.2 px.1 px.2 (Nat.le_trans hbc ku1.len) hx1)
        refine L2.iteT ⟨b, m3, pt.1, pu.2, px.1, px.2, Nat.le_trans hbc ku1.len, R3, Pv.RE.mono z3 RE2, hx1, fun y H4 m4 z4 R4 ry => ?_⟩
        have hD4 := z4.rest L _ hD3 nD3
        have nD4 := z4.out hD3 nD3
        have ra4 := ra.mono (zy.trans (z2.trans (z3.trans z4)))
        obtain ⟨t5, R5⟩ := R4.other (ws := vs ++ [y]) hD4 nD4
        refine ⟨vs, hD4, ?_, xs.length - (i + 1), by omega, rfl, by omega, m4, px.2, acc ++ [px.1], vs ++ [y], q2, (zz.trans z4).other hD4 hL, R5, Nat.le_trans hbc kx1.len, upd_same, nD4, ?_, by simp; omega, hr, ?_, ?_⟩
        · rw [← ra.length]
          exact Nat.lt_of_le_of_lt hal (Nat.lt_of_lt_of_le hlt hl)
        · exact (ra4.append (show RDs X.K H4 m4 [px.1] [y] from ⟨y, [], rfl, ry, rfl⟩)).mono' (List.prefix_refl _) t5
        · rw [← e3, er]; simp
        · rw [← e4, er]
      | false =>
        rw [ek] at hf
        have ep : (none, pu.2) = p := by injection hf
        subst ep
        refine L2.iteF ⟨xs.length - (i + 1), by omega, rfl, by omega, m3, pu.2, acc, vs, q2, zz, R3, Nat.le_trans hbc ku1.len, hD3, nD3, ra.mono (zy.trans (z2.trans z3)), by omega, hr, ?_, ?_⟩
        · rw [← e3, er]; simp
        · rw [← e4, er]
    · have hie : i = xs.length := by omega
      subst hie
      rw [List.drop_length] at hcl
      obtain ⟨hck, er⟩ := compL_nil hcl
      subst er
      have e4' : Sc = p2.2 := e4
      have e3' : acc = p2.1 := by simpa using e3
      obtain ⟨_, g2, _⟩ := wk Hc mc Sc zc Rc hck
      refine .inl ⟨g2, q _ Hc mc (z1.trans zc) (by rw [← e4']; exact Rc) ⟨L, vs, rfl, hDc, nDc, z1.back hL fun hm => nL (z1.pre.subset hm), by rw [← e3']; exact ra⟩⟩
theorem PTs.imp {ifs : List Expr} {t t' : TT} (h : L2.PTs X ifs t) (k : ∀ σ H Q, t' σ H Q → t σ H Q) : L2.PTs X ifs t' := ⟨fun pins s σ H Q I q => h.run pins s σ H Q I (k σ H Q q)⟩
theorem so_tYes : L2.PTs X [] (tT X.K tYes) := PTs.imp L2.pts_nil fun σ H Q ⟨b, m, e, S, r, S', hb, R, RE, he, q⟩ => by
  cases he
  exact q H m (Le.refl H m) R
theorem so_tOne {t : DT} (h : PT X a (tT X.K t)) : L2.PTs X [a] (tT X.K (tAnd t tYes)) := PTs.imp (L2.pts_one h) fun σ H Q ⟨b, m, e, S, r, S', hb, R, RE, he, q⟩ => by
  obtain ⟨p1, h1, he⟩ := bind_ok he
  refine ⟨b, m, e, S, p1.1, p1.2, hb, R, RE, h1, fun H' m' z R' => ?_⟩
  cases e1 : p1.1 with
  | true => rw [e1] at he; cases he; exact q H' m' z R'
  | false => rw [e1] at he; cases he; exact q H' m' z R'
end
end Pv
set_option linter.all false
set_option autoImplicit false
set_option maxRecDepth 100000
/-! What the evaluator tells, the machine does: statements. -/
namespace Pv
open PySem PySem.Spec PyProof.Rows
open L2 (V Hp HO upd upd_same upd_ne VK XK TE TT TA TS TG TGs TI Cx PE PT PW PA PS PSs PG PGs PI Inv RelV SqL SqT OpR CallR Gl Ends)

/-- what is wanted behind a statement -/
def fin (K : PySem.W.Frag) (H : Hp) (m : List Addr) (Dn : Ends) (fl : Fl) (e' : Env) (S' : Sto) : Prop :=
  match fl with
  | .nx => ∀ σ' H' m', Le H m H' m' → Rl K m' H' S' → RE K H' m' e' σ' → Dn.nx σ' H'
  | .br => ∀ σ' H' m', Le H m H' m' → Rl K m' H' S' → RE K H' m' e' σ' → Dn.bk σ' H'
  | .ct => ∀ σ' H' m', Le H m H' m' → Rl K m' H' S' → RE K H' m' e' σ' → Dn.ct σ' H'
  | .rt v => ∀ z H' m', Le H m H' m' → Rl K m' H' S' → RV K H H' m' v z → Dn.rt z H'
theorem fin.from {K : PySem.W.Frag} {H H1 : Hp} {m m1 : List Addr} {Dn : Ends} {fl : Fl} {e' : Env} {S' : Sto} (z : Le H m H1 m1) (h : fin K H m Dn fl e' S') : fin K H1 m1 Dn fl e' S' := by
  cases fl with
  | nx => exact fun σ' H' m' z' R' E' => h σ' H' m' (z.trans z') R' E'
  | br => exact fun σ' H' m' z' R' E' => h σ' H' m' (z.trans z') R' E'
  | ct => exact fun σ' H' m' z' R' E' => h σ' H' m' (z.trans z') R' E'
  | rt v => exact fun w H' m' z' R' r => h w H' m' (z.trans z') R' (RV.from z z' r)
def tF (K : PySem.W.Frag) (f : DF) : TS := fun Dn σ H => ∃ (b : Nat) (m : List Addr) (e : Env) (S : Sto) (fl : Fl) (e' : Env) (S' : Sto), b ≤ S.length ∧ Rl K m H S ∧ RE K H m e σ ∧ f b e S = .ok (fl, e', S') ∧ fin K H m Dn fl e' S'
def KF (f : DF) : Prop := ∀ (b : Nat) (e : Env) (S : Sto) (fl : Fl) (e' : Env) (S' : Sto), b ≤ S.length → f b e S = .ok (fl, e', S') → Kp b S S'
theorem KF.fl (f : Fl) : KF (cFl f) := fun b e S fl e' S' hb h => by cases h; exact Kp.refl b _
theorem KF.expr {f : DV} (kf : KV f) : KF (cExpr f) := fun b e S fl e' S' hb h => by
  obtain ⟨p1, h1, h⟩ := bind_ok h
  cases h; exact kf b e S p1.1 p1.2 hb h1
theorem KF.ret {f : DV} (kf : KV f) : KF (cRet f) := fun b e S fl e' S' hb h => by
  obtain ⟨p1, h1, h⟩ := bind_ok h
  cases h; exact kf b e S p1.1 p1.2 hb h1
theorem KF.asg {f : DV} {t : DG} (kf : KV f) (kt : KG t) : KF (cAsg t f) := fun b e S fl e' S' hb h => by
  obtain ⟨p1, h1, h⟩ := bind_ok h
  obtain ⟨p2, h2, h⟩ := bind_ok h
  cases h
  have k1 := kf.sD b e S p1.1 p1.2 hb h1
  exact k1.trans (kt b _ e p1.2 _ _ (Nat.le_trans hb k1.len) h2).1
theorem KF.aug {f : DV} {i : Nat} {o : Bo} (kf : KV f) : KF (cAug i o f) := fun b e S fl e' S' hb h => by
  obtain ⟨y, h0, h⟩ := bind_ok h
  obtain ⟨p1, h1, h⟩ := bind_ok h
  obtain ⟨n, h2, h⟩ := bind_ok h
  cases h
  exact kf.sD b e S p1.1 p1.2 hb h1
theorem KF.augs {o i f : DV} {op : Bo} (ko : KV o) (ki : KV i) (kf : KV f) : KF (cAugs o i op f) := fun b e S fl e' S' hb h => by
  obtain ⟨p1, h1, h⟩ := bind_ok h
  obtain ⟨p2, h2, h⟩ := bind_ok h
  obtain ⟨y, _, h⟩ := bind_ok h
  obtain ⟨p3, h3, h⟩ := bind_ok h
  obtain ⟨n, _, h⟩ := bind_ok h
  obtain ⟨S3, h4, h⟩ := bind_ok h
  cases h
  have k1 := ko.sD b e S p1.1 p1.2 hb h1
  have k2 := k1.trans (ki.sD b e p1.2 p2.1 p2.2 (Nat.le_trans hb k1.len) h2)
  exact (k2.trans (kf.sD b e p2.2 p3.1 p3.2 (Nat.le_trans hb k2.len) h3)).trans (setI_kp h4)
theorem KF.swap {ts : List Nat} {l : DL} (kl : KV l) : KF (cSwap ts l) := fun b e S fl e' S' hb h => by
  obtain ⟨p1, h1, h⟩ := bind_ok h
  split at h
  · cases h; exact kl b e S p1.1 p1.2 hb h1
  · cases h
theorem KF.ite {c : DT} {f g : DF} (kc : KV c) (kf : KF f) (kg : KF g) : KF (cIte c f g) := fun b e S fl e' S' hb h => by
  obtain ⟨p1, h1, h⟩ := bind_ok h
  have k1 := kc b e S p1.1 p1.2 hb h1
  split at h
  · exact k1.trans (kf b e p1.2 fl e' S' (Nat.le_trans hb k1.len) h)
  · exact k1.trans (kg b e p1.2 fl e' S' (Nat.le_trans hb k1.len) h)
theorem KF.seq {f g : DF} (kf : KF f) (kg : KF g) : KF (cSeq f g) := fun b e S fl e' S' hb h => by
  obtain ⟨⟨f1, e1, S1⟩, h1, h⟩ := bind_ok h
  have k1 := kf b e S f1 e1 S1 hb h1
  cases f1 with
  | nx => exact k1.trans (kg b _ S1 fl e' S' (Nat.le_trans hb k1.len) h)
  | br => cases h; exact k1
  | ct => cases h; exact k1
  | rt v => cases h; exact k1
theorem forL_kp {b : Nat} {c : Chk} {f : D → Env → Sto → Rs (Fl × Env × Sto)} (kf : ∀ x e S fl e' S', b ≤ S.length → f x e S = .ok (fl, e', S') → Kp b S S') :
    ∀ (xs : List D) (e : Env) (S : Sto) (fl : Fl) (e' : Env) (S' : Sto), b ≤ S.length → forL c f xs e S = .ok (fl, e', S') → Kp b S S'
  | [], e, S, fl, e', S', hb, h => by
    unfold forL at h
    split at h
    · cases h; exact Kp.refl b _
    · cases h
  | x :: xs, e, S, fl, e', S', hb, h => by
    unfold forL at h
    split at h
    · obtain ⟨⟨f1, e1, S1⟩, h1, h⟩ := bind_ok h
      have k1 := kf x e S f1 e1 S1 hb h1
      cases f1 with
      | nx => exact k1.trans (forL_kp kf xs _ S1 fl e' S' (Nat.le_trans hb k1.len) h)
      | ct => exact k1.trans (forL_kp kf xs _ S1 fl e' S' (Nat.le_trans hb k1.len) h)
      | br => cases h; exact k1
      | rt v => cases h; exact k1
    · cases h
theorem KF.for {t : DG} {it : DI} {body : DF} (kt : KG t) (ki : KV it) (kb : KF body) : KF (cFor t it body) := fun b e S fl e' S' hb h => by
  obtain ⟨p1, h1, h⟩ := bind_ok h
  have k1 := ki b e S p1.1 p1.2 hb h1
  refine k1.trans (forL_kp (fun x e S fl e' S' hb h => ?_) _ _ _ fl e' S' (Nat.le_trans hb k1.len) h)
  obtain ⟨p2, h2, h⟩ := bind_ok h
  have k2 := (kt b x e S p2.1 p2.2 hb h2).1
  exact k2.trans (kb b _ p2.2 fl e' S' (Nat.le_trans hb k2.len) h)
theorem whileL_kp {b : Nat} {t : Env → Sto → Rs (Bool × Sto)} {f : Env → Sto → Rs (Fl × Env × Sto)} (kt : ∀ e S k S', b ≤ S.length → t e S = .ok (k, S') → Kp b S S') (kf : ∀ e S fl e' S', b ≤ S.length → f e S = .ok (fl, e', S') → Kp b S S') :
    ∀ (n : Nat) (e : Env) (S : Sto) (fl : Fl) (e' : Env) (S' : Sto), b ≤ S.length → whileL t f n e S = .ok (fl, e', S') → Kp b S S'
  | 0, e, S, fl, e', S', hb, h => by cases h
  | n + 1, e, S, fl, e', S', hb, h => by
    unfold whileL at h
    obtain ⟨p1, h1, h⟩ := bind_ok h
    have k1 := kt e S p1.1 p1.2 hb h1
    split at h
    · cases h; exact k1
    · obtain ⟨⟨f1, e1, S1⟩, h2, h⟩ := bind_ok h
      have k2 := k1.trans (kf e p1.2 f1 e1 S1 (Nat.le_trans hb k1.len) h2)
      cases f1 with
      | nx => exact k2.trans (whileL_kp kt kf n _ S1 fl e' S' (Nat.le_trans hb k2.len) h)
      | ct => exact k2.trans (whileL_kp kt kf n _ S1 fl e' S' (Nat.le_trans hb k2.len) h)
      | br => cases h; exact k2
      | rt v => cases h; exact k2
theorem KF.while {c : DT} {body : DF} (kc : KV c) (kb : KF body) : KF (cWhile c body) := fun b e S fl e' S' hb h =>
  whileL_kp (fun e S k S' hb h => kc b e S k S' hb h) (fun e S fl e' S' hb h => kb b e S fl e' S' hb h) _ _ _ fl e' S' hb h

section
variable {X : Cx} {a b c ex tgt iter : Expr} {f g : DV} {pos : Pos} {st : Stmt} {sts : List Stmt}
theorem PS.imp {t t' : TS} (h : PS X st t) (k : ∀ D σ H, t' D σ H → t D σ H) : PS X st t' := ⟨fun pins s σ H D I q => h.run pins s σ H D I (k D σ H q)⟩
theorem PSs.imp {t t' : TS} (h : PSs X sts t) (k : ∀ D σ H, t' D σ H → t D σ H) : PSs X sts t' := ⟨fun pins s σ H D I q => h.run pins s σ H D I (k D σ H q)⟩
theorem so_pass : PS X (.Pass pos) (tF X.K (cFl .nx)) := PS.imp L2.ps_pass fun D σ H ⟨b, m, e, S, fl, e', S', hb, R, E, he, q⟩ => by cases he; exact q σ H m (Le.refl _ _) R E
theorem so_brk : PS X (.Break pos) (tF X.K (cFl .br)) := PS.imp L2.ps_break fun D σ H ⟨b, m, e, S, fl, e', S', hb, R, E, he, q⟩ => by cases he; exact q σ H m (Le.refl _ _) R E
theorem so_cont : PS X (.Continue pos) (tF X.K (cFl .ct)) := PS.imp L2.ps_continue fun D σ H ⟨b, m, e, S, fl, e', S', hb, R, E, he, q⟩ => by cases he; exact q σ H m (Le.refl _ _) R E
theorem so_retn : PS X (.Return none pos) (tF X.K (cFl (.rt (.d .non)))) := PS.imp L2.ps_retN fun D σ H ⟨b, m, e, S, fl, e', S', hb, R, E, he, q⟩ => by cases he; exact q _ H m (Le.refl _ _) R rfl
theorem so_ret (ha : PE X a (tE X.K f)) : PS X (.Return (some a) pos) (tF X.K (cRet f)) := PS.imp (L2.ps_ret ha) fun D σ H ⟨b, m, e, S, fl, e', S', hb, R, E, he, q⟩ => by
  obtain ⟨p1, h1, he⟩ := bind_ok he
  cases he
  exact ⟨b, m, e, S, p1.1, p1.2, hb, R, E, h1, fun v H' m' z R' r => q v H' m' z R' r⟩
def noComp : Expr → Bool
  | .ListComp .. => false | .SetComp .. => false | .DictComp .. => false
  | _ => true
theorem noSwap {e : Expr} (h : noComp e = true) (t : Option Expr) (n : Nat) (env : PySem.Env) : swapsWith e t n env = pure false := by
  cases e <;> first | rfl | cases h
theorem noSwapS {e : Expr} (h : noComp e = true) (t : Expr) (n : Nat) (env : PySem.Env) : swapsWithSole [t] e n env = pure false := noSwap h (some t) n env
theorem so_expr (hn : noComp a = true) (ha : PE X a (tE X.K f)) : PS X (.Expr a pos) (tF X.K (cExpr f)) := PS.imp (L2.ps_expr ha (noSwap hn _ _ _)) fun D σ H ⟨b, m, e, S, fl, e', S', hb, R, E, he, q⟩ => by
  obtain ⟨p1, h1, he⟩ := bind_ok he
  cases he
  exact ⟨b, m, e, S, p1.1, p1.2, hb, R, E, h1, fun v H' m' z R' r => q σ H' m' z R' (RE.mono z E)⟩
theorem so_asg {t : DG} {ts : List Nat} (hst : noStar tgt = true) (kf : KV f) (ha : PE X a (tE X.K f)) (ht : PG X tgt (tg X.K ts t)) (hn : ∀ n, swapsWithSole [tgt] a n X.env = pure false) (hw : swappedStores [tgt] a X.env = pure none) : PS X (.Assign [tgt] a pos) (tF X.K (cAsg t f)) :=
  PS.imp (L2.ps_asg (so_D ha) ht (hn _) hw (by rw [starG hst]; rfl)) fun D σ H ⟨b, m, e, S, fl, e', S', hb, R, E, he, q⟩ => by
    obtain ⟨p1, h1, he⟩ := bind_ok he
    obtain ⟨⟨e2, S2⟩, h2, he⟩ := bind_ok he
    cases he
    have k1 := kf.sD b e S p1.1 p1.2 hb h1
    exact ⟨b, m, e, S, p1.1, p1.2, hb, R, E, h1, fun v H' m' z R' r => ⟨b, m', e, p1.2, p1.1, _, _, Nat.le_trans hb k1.len, R', RE.mono z E, r, h2, fun σ2 H2 m2 z2 R2 E2 _ => q σ2 H2 m2 (z.trans z2) R2 E2⟩⟩
theorem so_if {t : DT} {x y : DF} {as bs : List Stmt} (kt : KV t) (hc : PT X c (tT X.K t)) (ha : PSs X as (tF X.K x)) (hb : PSs X bs (tF X.K y)) : PS X (.If c as bs pos) (tF X.K (cIte t x y)) :=
  PS.imp (L2.ps_if hc ha hb) fun D σ H ⟨b, m, e, S, fl, e', S', hb, R, E, he, q⟩ => by
    obtain ⟨p1, h1, he⟩ := bind_ok he
    have k1 := kt b e S p1.1 p1.2 hb h1
    refine ⟨b, m, e, S, p1.1, p1.2, hb, R, E, h1, fun H' m' z R' => ?_⟩
    cases e1 : p1.1 with
    | true => rw [e1] at he; exact L2.iteT ⟨b, m', e, p1.2, fl, e', S', Nat.le_trans hb k1.len, R', RE.mono z E, he, q.from z⟩
    | false => rw [e1] at he; exact L2.iteF ⟨b, m', e, p1.2, fl, e', S', Nat.le_trans hb k1.len, R', RE.mono z E, he, q.from z⟩
theorem so_nil : PSs X [] (tF X.K (cFl .nx)) := PSs.imp L2.pss_nil fun D σ H ⟨b, m, e, S, fl, e', S', hb, R, E, he, q⟩ => by cases he; exact q σ H m (Le.refl _ _) R E
theorem so_seq {x y : DF} (kx : KF x) (h1 : PS X st (tF X.K x)) (h2 : PSs X sts (tF X.K y)) : PSs X (st :: sts) (tF X.K (cSeq x y)) :=
  PSs.imp (L2.pss_cons h1 h2) fun D σ H ⟨b, m, e, S, fl, e', S', hb, R, E, he, q⟩ => by
    obtain ⟨⟨f1, e1, S1⟩, h1, he⟩ := bind_ok he
    have k1 := kx b e S f1 e1 S1 hb h1
    refine ⟨b, m, e, S, f1, e1, S1, hb, R, E, h1, ?_⟩
    cases f1 with
    | nx => exact fun σ' H' m' z R' E' => ⟨b, m', e1, S1, fl, e', S', Nat.le_trans hb k1.len, R', E', he, q.from z⟩
    | br => cases he; exact q
    | ct => cases he; exact q
    | rt v => cases he; exact q
theorem forL_cons {c : Chk} {f : D → Env → Sto → Rs (Fl × Env × Sto)} {x : D} {xs : List D} {e : Env} {S : Sto} {r : Fl × Env × Sto} (h : forL c f (x :: xs) e S = .ok r) : c.ok S ∧ ∃ p, f x e S = .ok p ∧
    (((p.1 = .nx ∨ p.1 = .ct) ∧ forL c f xs p.2.1 p.2.2 = .ok r) ∨ (p.1 = .br ∧ r = (.nx, p.2)) ∨ ∃ v, p.1 = .rt v ∧ r = p) := by
  unfold forL at h
  split at h
  · rename_i hc
    obtain ⟨p, h1, h⟩ := bind_ok h
    obtain ⟨p1, p2⟩ := p
    refine ⟨hc, (p1, p2), h1, ?_⟩
    cases p1 with
    | nx => exact .inl ⟨.inl rfl, h⟩
    | ct => exact .inl ⟨.inr rfl, h⟩
    | br => injection h with h; exact .inr (.inl ⟨rfl, h.symm⟩)
    | rt v => injection h with h; exact .inr (.inr ⟨v, rfl, h.symm⟩)
  · cases h
theorem forL_nil {c : Chk} {f : D → Env → Sto → Rs (Fl × Env × Sto)} {e : Env} {S : Sto} {r : Fl × Env × Sto} (h : forL c f [] e S = .ok r) : c.ok S ∧ r = (.nx, e, S) := by
  unfold forL at h
  split at h
  · rename_i hc
    injection h with h
    exact ⟨hc, h.symm⟩
  · cases h
theorem so_for {t : DG} {it : DI} {body : DF} {ts : List Nat} {bs : List Stmt} (hp : PassesOwn (model X.prog X.w) X.A X.env X.xe) (hc : X.calm = true) (kt : KG t) (ki : KV it) (kb : KF body) (hi : PI X tgt iter (tI X.K it)) (hg : PG X tgt (tg X.K ts t)) (hb : PSs X bs (tF X.K body))
    (hs : ∀ x, foldedSetIterable iter X.env x = pure x) : PS X (.For tgt iter bs [] pos) (tF X.K (cFor t it body)) :=
  PS.imp (L2.ps_for hp hc hi hg hb hs) fun Dn σ H ⟨b, m, e, S, fl, e', S', hb, R, E, he, q⟩ => by
    obtain ⟨p1, h1, he⟩ := bind_ok he
    have k1 := ki b e S p1.1 p1.2 hb h1
    generalize hF : (fun d e S => t b d e S >>= fun p => body b p.1 p.2 : D → Env → Sto → Rs (Fl × Env × Sto)) = F at he
    have kF : ∀ x e S fl e' S', b ≤ S.length → F x e S = .ok (fl, e', S') → Kp b S S' := fun x e S fl e' S' hb h => by
      rw [← hF] at h
      obtain ⟨p2, h2, h⟩ := bind_ok h
      have k2 := (kt b x e S p2.1 p2.2 hb h2).1
      exact k2.trans (kb b _ p2.2 fl e' S' (Nat.le_trans hb k2.len) h)
    refine ⟨b, m, e, S, p1.1.1, p1.1.2, p1.2, hb, R, E, h1, fun J H1 m1 z1 R1 wk hl => ?_⟩
    generalize hxs : p1.1.2 = xs at he wk hl
    generalize hck : p1.1.1 = ck at he wk
    have q1 := q.from z1
    refine ⟨fun i k σc Hc => k = xs.length - i ∧ i ≤ xs.length ∧ ∃ (mc : List Addr) (ec : Env) (Sc : Sto), Le H1 m1 Hc mc ∧ Rl X.K mc Hc Sc ∧ RE X.K Hc mc ec σc ∧ b ≤ Sc.length ∧ forL ck F (xs.drop i) ec Sc = .ok (fl, e', S'),
      ⟨xs.length, rfl, Nat.zero_le _, m1, e, p1.2, Le.refl _ _, R1, RE.mono z1 E, Nat.le_trans hb k1.len, he⟩, ?_⟩
    rintro i k σc Hc ⟨rfl, hi, mc, ec, Sc, zc, Rc, Ec, hbc, hfl⟩
    by_cases hlt : i < xs.length
    · rw [List.drop_eq_getElem_cons hlt] at hfl
      obtain ⟨hck, p, hf, hr⟩ := forL_cons hfl
      obtain ⟨g1, _, g3⟩ := wk Hc mc Sc zc Rc hck
      refine .inr ⟨g1 i hlt, _, fun σ' H' h => h, fun x' H' hy => ?_⟩
      obtain ⟨zy, Ry, rx⟩ := g3 i xs[i] x' H' (List.getElem?_eq_getElem hlt) hy
      have kf1 := kF _ _ Sc p.1 p.2.1 p.2.2 hbc hf
      rw [← hF] at hf
      obtain ⟨pt, ht1, hf⟩ := bind_ok hf
      have kt1 := (kt b _ _ Sc pt.1 pt.2 hbc ht1).1
      refine ⟨b, mc, ec, Sc, xs[i], pt.1, pt.2, hbc, Ry, RE.mono zy Ec, rx, ht1, fun σ2 H2 m2 z2 R2 E2 _ => ?_⟩
      have zz : Le H1 m1 H2 m2 := zc.trans (zy.trans z2)
      refine ⟨b, m2, pt.1, pt.2, p.1, p.2.1, p.2.2, Nat.le_trans hbc kt1.len, R2, E2, hf, ?_⟩
      rcases hr with ⟨hp1, hr⟩ | ⟨hp1, hr⟩ | ⟨v, hp1, hr⟩
      · have next : ∀ σ' H' m', Le H2 m2 H' m' → Rl X.K m' H' p.2.2 → RE X.K H' m' p.2.1 σ' → ∃ m', m' < xs.length - i ∧ (m' = xs.length - (i + 1) ∧ i + 1 ≤ xs.length ∧ ∃ (mc : List Addr) (ec : Env) (Sc : Sto), Le H1 m1 H' mc ∧ Rl X.K mc H' Sc ∧ RE X.K H' mc ec σ' ∧ b ≤ Sc.length ∧ forL ck F (xs.drop (i + 1)) ec Sc = .ok (fl, e', S')) :=
          fun σ' H' m' z' R' E' => ⟨xs.length - (i + 1), by omega, rfl, by omega, m', p.2.1, p.2.2, zz.trans z', R', E', Nat.le_trans hbc kf1.len, hr⟩
        rcases hp1 with hp1 | hp1 <;> rw [hp1] <;> exact next
      · rw [hp1]
        injection hr with e1 e2
        subst e1
        have e3 : p.2.1 = e' ∧ p.2.2 = S' := by rw [← e2]; exact ⟨rfl, rfl⟩
        rw [e3.1, e3.2]
        exact q1.from zz
      · rw [hp1]
        have e3 : fl = .rt v ∧ p.2.1 = e' ∧ p.2.2 = S' := by
          rw [← hp1, ← hr]; exact ⟨rfl, rfl, rfl⟩
        rw [e3.2.1, e3.2.2]
        have := q1.from zz
        rw [e3.1] at this
        exact this
    · have hie : i = xs.length := by omega
      subst hie
      rw [List.drop_length] at hfl
      obtain ⟨hck, er⟩ := forL_nil hfl
      obtain ⟨_, g2, _⟩ := wk Hc mc Sc zc Rc hck
      cases er
      exact .inl ⟨g2, q1 σc Hc mc zc Rc Ec⟩
theorem so_while {t : DT} {body : DF} {bs : List Stmt} (hp : PassesOwn (model X.prog X.w) X.A X.env X.xe) (kt : KV t) (kb : KF body) (hc : PT X c (tT X.K t)) (hb : PSs X bs (tF X.K body)) : PS X (.While c bs [] pos) (tF X.K (cWhile t body)) :=
  PS.imp (L2.ps_while hp hc hb) fun Dn σ H ⟨b, m, e, S, fl, e', S', hb, R, E, he, q⟩ => by
    refine ⟨fun n σc Hc => ∃ (mc : List Addr) (ec : Env) (Sc : Sto), Le H m Hc mc ∧ Rl X.K mc Hc Sc ∧ RE X.K Hc mc ec σc ∧ b ≤ Sc.length ∧ whileL (t b) (body b) n ec Sc = .ok (fl, e', S'), ⟨big, m, e, S, Le.refl _ _, R, E, hb, he⟩, ?_⟩
    rintro n σc Hc ⟨mc, ec, Sc, zc, Rc, Ec, hbc, hw⟩
    cases n with
    | zero => cases hw
    | succ n =>
      unfold whileL at hw
      obtain ⟨p1, h1, hw⟩ := bind_ok hw
      have k1 := kt b ec Sc p1.1 p1.2 hbc h1
      refine ⟨b, mc, ec, Sc, p1.1, p1.2, hbc, Rc, Ec, h1, fun H' m' z R' => ?_⟩
      cases e1 : p1.1 with
      | false =>
        rw [e1] at hw
        cases hw
        exact L2.iteF (q σc H' m' (zc.trans z) R' (RE.mono z Ec))
      | true =>
        rw [e1] at hw
        obtain ⟨p, h2, hw⟩ := bind_ok hw
        have k2 := k1.trans (kb b ec p1.2 p.1 p.2.1 p.2.2 (Nat.le_trans hbc k1.len) h2)
        refine L2.iteT ⟨_, fun σ' H' h => h, b, m', ec, p1.2, p.1, p.2.1, p.2.2, Nat.le_trans hbc k1.len, R', RE.mono z Ec, h2, ?_⟩
        obtain ⟨f1, e2, S2⟩ := p
        have zz := zc.trans z
        cases f1 with
        | nx => exact fun σ' H2 m2 z2 R2 E2 => ⟨n, Nat.lt_succ_self n, m2, e2, S2, zz.trans z2, R2, E2, Nat.le_trans hbc k2.len, hw⟩
        | ct => exact fun σ' H2 m2 z2 R2 E2 => ⟨n, Nat.lt_succ_self n, m2, e2, S2, zz.trans z2, R2, E2, Nat.le_trans hbc k2.len, hw⟩
        | br =>
          cases hw
          exact q.from zz
        | rt v =>
          cases hw
          exact q.from zz
end
end Pv
set_option linter.all false
set_option autoImplicit false
set_option maxRecDepth 100000
/-! What the evaluator tells, the machine does: calls of defs, the rest of the statements. -/
namespace Pv
open PySem PySem.Spec PyProof.Rows
open L2 (V Hp HO upd upd_same upd_ne VK XK TE TT TA TS TG TGs TI Cx PE PT PW PA PS PSs PG PGs PI Inv RelV SqL SqT OpR CallR Gl Ends Vals Room FnOk CX0 E0)

/-! ### back from a call -/
mutual
theorem RD.ub {K : PySem.W.Frag} {H : Hp} {m : List Addr} : ∀ {x : D} {v : V}, RD K H m x v → x.ub m.length = true
  | .non, _, _ => rfl
  | .bl _, _, _ => rfl
  | .int _, _, _ => rfl
  | .str _, _, _ => rfl
  | .scr _, _, _ => rfl
  | .loc l, v, h => by
    obtain ⟨a, ha, _⟩ := (h : ∃ a, m[l]? = some a ∧ v = .ref a)
    simpa [D.ub] using (List.getElem?_eq_some_iff.mp ha).1
  | .tup xs, v, h => by
    obtain ⟨a, vs, _, _, hr⟩ := (h : ∃ a vs, v = .ref a ∧ H a = some (.tup vs) ∧ RDs K H m xs vs)
    exact RDs.ub hr
theorem RDs.ub {K : PySem.W.Frag} {H : Hp} {m : List Addr} : ∀ {xs : List D} {vs : List V}, RDs K H m xs vs → ubL m.length xs = true
  | [], _, _ => rfl
  | x :: xs, vs, h => by
    obtain ⟨v, ws, _, h1, h2⟩ := (h : ∃ v ws, vs = v :: ws ∧ RD K H m x v ∧ RDs K H m xs ws)
    simp [ubL, RD.ub h1, RDs.ub h2]
end
theorem kD_ub {n : Nat} (k : L2.Key) : (kD k).ub n = true := by cases k <;> rfl
theorem dct_ub {n : Nat} : ∀ {kvs : List (D × D)} {ks : List (L2.Key × V)}, kvs.map (·.1) = ks.map (fun p => kD p.1) → ubL n (kvs.map (·.2)) = true → (kvs.all fun p => p.1.ub n && p.2.ub n) = true
  | [], _, _, _ => rfl
  | p :: kvs, [], h, _ => by simp at h
  | p :: kvs, k :: ks, h, hu => by
    rw [List.map_cons, List.map_cons] at h
    injection h with h1 h2
    have hu : p.2.ub n = true ∧ ubL n (kvs.map (·.2)) = true := by simpa [ubL] using hu
    rw [List.all_cons, h1, kD_ub, hu.1, dct_ub h2 hu.2]
    rfl
theorem ub_dct {n : Nat} : ∀ {kvs : List (D × D)}, (kvs.all fun p => p.1.ub n && p.2.ub n) = true → ubL n (kvs.map (·.2)) = true
  | [], _ => rfl
  | p :: kvs, h => by
    rw [List.all_cons, Bool.and_eq_true, Bool.and_eq_true] at h
    show (p.2.ub n && ubL n (kvs.map (·.2))) = true
    rw [h.1.2, ub_dct h.2]
    rfl
theorem Rl.wf {K : PySem.W.Frag} {m : List Addr} {H : Hp} {S : Sto} (R : Rl K m H S) : WF S.length S := fun l o hl ho => by
  have hm : l < m.length := by rw [R.len]; exact hl
  have := R.at_ l m[l] o (List.getElem?_eq_getElem hm) ho
  rw [← R.len]
  cases o with
  | lst xs => obtain ⟨vs, _, r⟩ := this; exact r.ub
  | dct _ kvs =>
    obtain ⟨_, ks, _, hk, r⟩ := this
    exact dct_ub hk r.ub
section
variable {K : PySem.W.Frag} {m0 m : List Addr} {H0 H : Hp} {S : Sto}
theorem take_pre (z : m0 <+: m) : m.take m0.length = m0 := by
  obtain ⟨t, rfl⟩ := z
  simp
theorem Le.cut (z : Le H0 m0 H m) : Le H0 m0 H m0 := ⟨List.prefix_refl _, z.tk, z.rest, fun _ h n => (n h).elim⟩
theorem back_get (z : m0 <+: m) {l : Nat} {a : Addr} (hl : l < m0.length) (h : m[l]? = some a) : m0[l]? = some a := by
  obtain ⟨t, rfl⟩ := z
  rwa [List.getElem?_append_left hl] at h
theorem RD.cut (z : m0 <+: m) {x : D} {v : V} (hu : x.ub m0.length = true) (r : RD K H m x v) : RD K H m0 x v := RD.via (Tk.refl H) (fun l a hl h => back_get z hl h) hu r
theorem RDs.cutm (z : m0 <+: m) {x : List D} {v : List V} (hu : ubL m0.length x = true) (r : RDs K H m x v) : RDs K H m0 x v := RDs.via (Tk.refl H) (fun l a hl h => back_get z hl h) hu r
theorem Rl.cut (R : Rl K m H S) (z : m0 <+: m) (w : WF m0.length S) : Rl K m0 H (S.take m0.length) := by
  have hle : m0.length ≤ S.length := by rw [← R.len]; exact z.length_le
  refine ⟨by simp; omega, List.Nodup.sublist z.sublist R.nd, fun l a o h1 h2 => ?_⟩
  have hl : l < m0.length := (List.getElem?_eq_some_iff.mp h1).1
  rw [List.getElem?_take, if_pos hl] at h2
  have := R.at_ l a o (pre_get z h1) h2
  have hu := w l o hl h2
  cases o with
  | lst xs => obtain ⟨vs, h, r⟩ := this; exact ⟨vs, h, r.cutm z hu⟩
  | dct _ kvs => obtain ⟨hf, ks, h, hk, r⟩ := this; exact ⟨hf, ks, h, hk, r.cutm z (ub_dct hu)⟩
theorem leave_ok (z : Le H0 m0 H m) (R : Rl K m H S) (w : WF m0.length S) {r : Vl} {v : V} (h : RV K H0 H m r v) : ∃ m', Le H0 m0 H m' ∧ Rl K m' H (leave m0.length r S).2 ∧ RV K H0 H m' (leave m0.length r S).1 v := by
  have same : ∀ r', RV K H0 H m r' v → (leave m0.length r S) = (r', S) → ∃ m', Le H0 m0 H m' ∧ Rl K m' H (leave m0.length r S).2 ∧ RV K H0 H m' (leave m0.length r S).1 v := fun r' hr e => by
    rw [e]; exact ⟨m, z, R, hr⟩
  have cut : ∀ r', RV K H0 H m0 r' v → (leave m0.length r S) = (r', S.take m0.length) → ∃ m', Le H0 m0 H m' ∧ Rl K m' H (leave m0.length r S).2 ∧ RV K H0 H m' (leave m0.length r S).1 v := fun r' hr e => by
    rw [e]; exact ⟨m0, z.cut, R.cut z.pre w, hr⟩
  cases r with
  | fr xs =>
    obtain ⟨p, vs, rfl, hp, hn, h0, hr⟩ := (h : ∃ p vs, v = .ref p ∧ H p = some (.lst vs) ∧ p ∉ m ∧ H0 p = none ∧ RDs K H m xs vs)
    by_cases e : ubL m0.length xs = true
    · exact cut (.fr xs) ⟨p, vs, rfl, hp, fun hm => hn (z.pre.subset hm), h0, hr.cutm z.pre e⟩ (by show (if ubL m0.length xs then _ else _) = _; rw [if_pos e])
    · exact same (.fr xs) ⟨p, vs, rfl, hp, hn, h0, hr⟩ (by show (if ubL m0.length xs then _ else _) = _; rw [if_neg e])
  | d x =>
    have plain : (∀ l, x ≠ .loc l) → ∃ m', Le H0 m0 H m' ∧ Rl K m' H (leave m0.length (.d x) S).2 ∧ RV K H0 H m' (leave m0.length (.d x) S).1 v := fun hx => by
      have el : leave m0.length (.d x) S = if x.ub m0.length then (.d x, S.take m0.length) else (.d x, S) := by
        cases x with
        | loc l => exact (hx l rfl).elim
        | _ => rfl
      by_cases e : x.ub m0.length = true
      · rw [if_pos e] at el; exact cut (.d x) (RD.cut z.pre e h) el
      · rw [if_neg e] at el; exact same (.d x) h el
    cases x with
    | loc l =>
      by_cases hl : l < m0.length
      · exact cut (.d (.loc l)) (RD.cut (K := K) (H := H) (x := .loc l) z.pre (by simpa [D.ub] using hl) h) (by show (if l < m0.length then _ else _) = _; rw [if_pos hl])
      · cases e : S[l]? with
        | none => exact same (.d (.loc l)) h (by show (if l < m0.length then _ else match S[l]? with | some (.lst xs) => _ | _ => _) = _; rw [if_neg hl, e])
        | some o =>
          cases o with
          | dct _ _ => exact same (.d (.loc l)) h (by show (if l < m0.length then _ else match S[l]? with | some (.lst xs) => _ | _ => _) = _; rw [if_neg hl, e])
          | lst xs =>
            by_cases eu : ubL m0.length xs = true
            · obtain ⟨p, hp, rfl⟩ := (h : ∃ a, m[l]? = some a ∧ v = .ref a)
              obtain ⟨vs, h1, h2⟩ := R.lst hp e
              have hn : p ∉ m0 := fun hm => by
                obtain ⟨k, hk⟩ := List.getElem?_of_mem hm
                obtain ⟨k1, k2⟩ := List.getElem?_eq_some_iff.mp (pre_get z.pre hk)
                obtain ⟨l1, l2⟩ := List.getElem?_eq_some_iff.mp hp
                have : k = l := (List.getElem_inj R.nd).mp (k2.trans l2.symm)
                have hk0 := (List.getElem?_eq_some_iff.mp hk).1
                omega
              exact cut (.fr xs) ⟨p, vs, rfl, h1, hn, z.fresh p (List.mem_of_getElem? hp) hn, h2.cutm z.pre eu⟩
                (by show (if l < m0.length then _ else match S[l]? with | some (.lst xs) => _ | _ => _) = _; rw [if_neg hl, e]; show (if ubL m0.length xs then _ else _) = _; rw [if_pos eu])
            · exact same (.d (.loc l)) h (by show (if l < m0.length then _ else match S[l]? with | some (.lst xs) => _ | _ => _) = _; rw [if_neg hl, e]; show (if ubL m0.length xs then _ else _) = _; rw [if_neg eu])
    | _ => exact plain fun l z => by cases z
end
theorem leave_kp {b n : Nat} {S S' : Sto} {r : Vl} (k : Kp b S S') (hb : n = S.length) : Kp b S (leave n r S').2 ∧ S.length ≤ (leave n r S').2.length := by
  have ht : Kp b S (S'.take n) := by
    refine ⟨by simp; have := k.len; omega, fun m hm w l o hl ho => ?_⟩
    rw [List.getElem?_take] at ho
    split at ho
    · exact k.wf m hm w l o hl ho
    · cases ho
  have : (leave n r S').2 = S' ∨ (leave n r S').2 = S'.take n := by
    unfold leave
    split
    · split <;> simp
    · split
      · simp
      · split
        · split <;> simp
        · simp
    · split <;> simp
  rcases this with e | e <;> rw [e]
  · exact ⟨k, k.len⟩
  · exact ⟨ht, ht.len⟩

/-! ### keeping, of calls -/
def KC (rc : Rc) : Prop := ∀ f ds S r S', rc f ds S = .ok (r, S') → Kp S.length S S'
theorem KV.call {rc : Rc} {f : Nat} {l k : DL} {perm : List Nat} (kr : KC rc) (kl : KV l) (kk : KV k) : KV (sCall rc f l k perm) := fun b e S r S' hb he => by
  obtain ⟨p1, h1, he⟩ := bind_ok he
  obtain ⟨p2, h2, he⟩ := bind_ok he
  obtain ⟨p3, h3, he⟩ := bind_ok he
  have e1 : leave S.length p3.1 p3.2 = (r, S') := by injection he
  have k1 := kl S.length e S p1.1 p1.2 (Nat.le_refl _) h1
  have k2 := k1.trans (kk S.length e p1.2 p2.1 p2.2 k1.len h2)
  have k3 := k2.trans ((kr _ _ _ p3.1 p3.2 h3).mono k2.len)
  have := (leave_kp (r := p3.1) k3 rfl).1
  rw [e1] at this
  exact this.mono hb

/-! ### calls -/
theorem arr_get {α : Type} (perm : List Nat) (xs : List α) (h : ∀ i ∈ perm, i < xs.length) : (arr perm xs).length = perm.length ∧ ∀ j : Nat, (arr perm xs)[j]? = (perm[j]?).bind (xs[·]?) := by
  induction perm with
  | nil => exact ⟨rfl, fun j => by simp [arr]⟩
  | cons i perm ih =>
    obtain ⟨h1, h2⟩ := ih fun k hk => h k (by simp [hk])
    have hi : i < xs.length := h i (by simp)
    have e : arr (i :: perm) xs = xs[i] :: arr perm xs := by
      unfold arr
      rw [List.filterMap_cons, List.getElem?_eq_getElem hi]
    rw [e]
    refine ⟨by simp [h1], fun j => ?_⟩
    cases j with
    | zero => simp [List.getElem?_eq_getElem hi]
    | succ j => simpa using h2 j
theorem arr_vals {perm : List Nat} : ∀ {vs : List V} {us : List Value}, Vals vs us → Vals (arr perm vs) (arr perm us) := fun {vs us} r => by
  induction perm with
  | nil => exact .nil
  | cons i perm ih =>
    unfold arr at ih ⊢
    rw [List.filterMap_cons, List.filterMap_cons]
    cases e : vs[i]? with
    | none => rw [r.none_of e]; exact ih
    | some v =>
      obtain ⟨u, h1, h2⟩ := r.get e
      rw [h1]; exact .cons h2 ih
theorem arr_rds {K : PySem.W.Frag} {H : Hp} {m : List Addr} {perm : List Nat} : ∀ {xs : List D} {vs : List V}, RDs K H m xs vs → RDs K H m (arr perm xs) (arr perm vs) := fun {xs vs} r => by
  induction perm with
  | nil => exact (show RDs K H m [] [] from rfl)
  | cons i perm ih =>
    unfold arr at ih ⊢
    rw [List.filterMap_cons, List.filterMap_cons]
    cases e : xs[i]? with
    | none =>
      have : vs[i]? = none := by
        rw [List.getElem?_eq_none_iff] at e ⊢
        rw [← r.length]; exact e
      rw [this]; exact ih
    | some x =>
      obtain ⟨v, h1, h2⟩ := r.get e
      rw [h1]; exact ⟨v, _, rfl, h2, ih⟩
/-- what a def's call keeps, by the evaluator -/
def spN (K : PySem.W.Frag) (rc : Rc) (np : Nat) (f : Nat) : L2.Sp := fun vs H Q _ => vs.length = np ∧ ∃ (m : List Addr) (S : Sto) (ds : List D) (r : Vl) (S' : Sto), Rl K m H S ∧ RDs K H m ds vs ∧ rc f ds S = .ok (r, S') ∧
  ∀ v H' m', Le H m H' m' → Rl K m' H' S' → RV K H H' m' r v → Q v H'
def kwOk (ks : List Str) (kws : List Keyword) : Bool := decide (kws.map (·.arg) = ks.map some)
theorem kw_each (env : PySem.Env) : ∀ kws : List Keyword, keywordEach kws env = kws.map fun k => (k.arg, eval k.value env)
  | [] => rfl
  | ⟨n, v, p⟩ :: r => by
    show (n, eval v env) :: keywordEach r env = _
    rw [kw_each env r]; rfl
theorem kw_names (pos : Pos) (env : PySem.Env) (kws : List Keyword) : (backToKw pos (keywordEach kws env)).map (·.1) = kws.map (·.arg) := by
  rw [kw_each]
  unfold backToKw
  simp
theorem kw_facts {ks : List Str} {kws : List Keyword} (h : kwOk ks kws = true) (pos : Pos) (env : PySem.Env) : (backToKw pos (keywordEach kws env)).all (·.1.isSome) = true ∧ (backToKw pos (keywordEach kws env)).filterMap (·.1) = ks ∧ (backToKw pos (keywordEach kws env)).any (·.1.isNone) = false := by
  have e := kw_names pos env kws
  rw [of_decide_eq_true h] at e
  generalize backToKw pos (keywordEach kws env) = l at e
  have hl : ∀ p ∈ l, p.1.isSome = true := fun p hp => by
    have : p.1 ∈ l.map (·.1) := List.mem_map_of_mem hp
    rw [e] at this
    obtain ⟨k, _, hk⟩ := List.mem_map.mp this
    rw [← hk]; rfl
  refine ⟨List.all_eq_true.mpr hl, ?_, ?_⟩
  · have : l.filterMap (·.1) = (l.map (·.1)).filterMap id := by rw [List.filterMap_map]; rfl
    rw [this, e, List.filterMap_map]
    simp
  · apply Bool.eq_false_iff.mpr
    intro hc
    obtain ⟨p, hp, hq⟩ := List.any_eq_true.mp hc
    have := hl p hp
    cases e : p.1 <;> simp [e] at this hq
theorem plain_args {env : PySem.Env} {pos : Pos} : ∀ {es : List Expr}, es.all noStar = true → (backTo pos (starEach es env)).any (·.1) = false
  | [], _ => rfl
  | e :: es, h => by
    have h' : noStar e = true ∧ es.all noStar = true := by simpa using h
    rw [star1 h'.1]
    have := plain_args (env := env) (pos := pos) h'.2
    unfold backTo at this ⊢
    rw [List.map_cons, List.any_cons, this]
    rfl
def tK (K : PySem.W.Frag) (f : DL) : TA := tL K f
section
variable {X : Cx} {a b c ex : Expr} {f g : DV} {pos : Pos}
theorem PK.imp {kws : List Keyword} {t t' : TA} (h : L2.PK X kws t) (k : ∀ σ H Q, t' σ H Q → t σ H Q) : L2.PK X kws t' := ⟨fun p pins s σ H Q I q => h.run p pins s σ H Q I (k σ H Q q)⟩
theorem so_kNil : L2.PK X [] (tL X.K lNil) := PK.imp L2.pk_nil fun σ H Q ⟨b, m, e, S, r, S', hb, R, RE, he, q⟩ => by
  cases he
  exact q [] H m (Le.refl H m) R rfl
theorem so_kCons {kws : List Keyword} {nm : Option Str} {kp : Pos} {l : DL} (kf : KV f) (ha : PE X a (tE X.K f)) (hl : L2.PK X kws (tL X.K l)) : L2.PK X (⟨nm, a, kp⟩ :: kws) (tL X.K (lCons f l)) :=
  PK.imp (L2.pk_cons (so_D ha) hl) fun σ H Q ⟨b, m, e, S, r, S', hb, R, RE, he, q⟩ => by
    obtain ⟨p1, h1, he⟩ := bind_ok he
    obtain ⟨p2, h2, he⟩ := bind_ok he
    cases he
    have k1 := kf.sD b e S p1.1 p1.2 hb h1
    exact ⟨b, m, e, S, p1.1, p1.2, hb, R, RE, h1, fun v H' m' z R' rv => ⟨b, m', e, p1.2, p2.1, p2.2, Nat.le_trans hb k1.len, R', RE.mono z, h2, fun vs H2 m2 z2 R2 rvs => q _ H2 m2 (z.trans z2) R2 ⟨v, vs, rfl, rv.mono z2, rvs⟩⟩⟩
/-- which call shapes bind how: n values, keywords ks, put in the order of perm -/
def Bd (K : PySem.W.Frag) (fd : FuncData) (ps : List Str) (n : Nat) (ks : List Str) (perm : List Nat) : Prop :=
  ∀ (s : Shared) (us ws : List Value), K.In s.heap → us.length = n → ws.length = ks.length → BindsTo s fd ⟨us, ks.zip ws⟩ (ps.zip (arr perm (us ++ ws)))
theorem tL_len {K : PySem.W.Frag} {l : DL} {n : Nat} (hn : ∀ b e S r S', l b e S = .ok (r, S') → r.length = n) {σ : L2.St} {H : Hp} {Q : List V → Hp → Prop} (h : tL K l σ H Q) : tL K l σ H fun vs H' => vs.length = n ∧ Q vs H' := by
  obtain ⟨b, m, e, S, r, S', hb, R, RE, he, q⟩ := h
  exact ⟨b, m, e, S, r, S', hb, R, RE, he, fun vs H' m' z R' rv => ⟨by rw [← rv.length]; exact hn b e S r S' he, q vs H' m' z R' rv⟩⟩
def LL (l : DL) (n : Nat) : Prop := ∀ b e S r S', l b e S = .ok (r, S') → r.length = n
theorem LL.nil : LL lNil 0 := fun b e S r S' h => by cases h; rfl
theorem LL.cons {f : DV} {l : DL} {n : Nat} (h : LL l n) : LL (lCons f l) (n + 1) := fun b e S r S' he => by
  obtain ⟨p1, h1, he⟩ := bind_ok he
  obtain ⟨p2, h2, he⟩ := bind_ok he
  cases he
  simp [h _ _ _ _ _ h2]
theorem so_call {rc : Rc} {k fi : Nat} {fa : Addr} {fd : FuncData} {ps ks : List Str} {np : Nat} {perm : List Nat} {x : Str} {p : Pos} {es : List Expr} {kws : List Keyword} {l kl : DL} (kr : KC rc) (F : FnOk X.prog X.w X.K X.mg X.base CX0 k fa fd ps (spN X.K rc np fi))
    (hr : Room k X.A) (hg : Gl X x) (hm : X.mg x = some (.ref fa)) (hk : PySem.W.keepIn X.K (.ref fa) = true) (hB : Bd X.K fd ps es.length ks perm) (hnp : perm.length = np) (hpm : ∀ i ∈ perm, i < es.length + ks.length) (hst : es.all noStar = true) (hkw : kwOk ks kws = true) (hd : (x == ("__debug__" : Str)) = false)
    (h0l : es = [] → l = lNil) (kl1 : KV l) (kl2 : KV kl) (ll1 : LL l es.length) (ll2 : LL kl ks.length) (ha : PA X es (tL X.K l)) (hK : L2.PK X kws (tL X.K kl)) : PE X (.Call (.Name x p) es kws pos) (tE X.K (sCall rc fi l kl perm)) := by
  have core : ∀ σ H Q, tE X.K (sCall rc fi l kl perm) σ H Q → tL X.K l σ H fun vs H1 => vs.length = es.length ∧ tL X.K kl σ H1 fun zs H2 => zs.length = ks.length ∧ spN X.K rc np fi (arr perm (vs ++ zs)) H2 Q E0 := fun σ H Q ⟨b, m, e, S, r, S', hb, R, RE, he, q⟩ => by
    obtain ⟨p1, h1, he⟩ := bind_ok he
    obtain ⟨p2, h2, he⟩ := bind_ok he
    obtain ⟨p3, h3, he⟩ := bind_ok he
    have e1 : leave S.length p3.1 p3.2 = (r, S') := by injection he
    have k1 := kl1 S.length e S p1.1 p1.2 (Nat.le_refl _) h1
    have k2 := k1.trans (kl2 S.length e p1.2 p2.1 p2.2 k1.len h2)
    have k3 := k2.trans ((kr _ _ _ p3.1 p3.2 h3).mono k2.len)
    refine ⟨S.length, m, e, S, p1.1, p1.2, Nat.le_refl _, R, RE, h1, fun vs H1 m1 z1 R1 r1 => ⟨by rw [← r1.length]; exact ll1 _ _ _ _ _ h1, S.length, m1, e, p1.2, p2.1, p2.2, k1.len, R1, RE.mono z1, h2, fun zs H2 m2 z2 R2 r2 => ⟨by rw [← r2.length]; exact ll2 _ _ _ _ _ h2, ?_, m2, p2.2, _, p3.1, p3.2, R2, arr_rds ((r1.mono z2).append r2), h3, fun v H3 m3 z3 R3 r3 => ?_⟩⟩⟩
    · have l1 : vs.length = es.length := by rw [← r1.length]; exact ll1 _ _ _ _ _ h1
      have l2 : zs.length = ks.length := by rw [← r2.length]; exact ll2 _ _ _ _ _ h2
      rw [(arr_get perm (vs ++ zs) fun i hi => by rw [List.length_append, l1, l2]; exact hpm i hi).1, hnp]
    · have z := z1.trans (z2.trans z3)
      have hlen := R.len
      have w : WF m.length p3.2 := by rw [hlen]; exact k3.wf _ (Nat.le_refl _) R.wf
      obtain ⟨m4, z4, R4, r4⟩ := leave_ok z R3 w (RV.from (z1.trans z2) z3 r3)
      rw [hlen, e1] at R4 r4
      exact q v H3 m4 z4 R4 r4
  refine ⟨fun pins s σ H Q I h => ?_⟩
  replace h := core σ H Q h
  have hb : L2.KBn X.K fd ps es.length ks (fun us ws => arr perm (us ++ ws)) (fun vs zs => arr perm (vs ++ zs)) := ⟨fun s us ws h1 h2 h3 => hB s us ws h1 h2 h3, fun r1 r2 => arr_vals (r1.append r2)⟩
  obtain ⟨f1, f2, f3⟩ := kw_facts hkw pos X.env
  cases es with
  | nil =>
    refine wpAny_Call_Name_kw (L2.ld_glob I hg hm ?_ hd)
    refine PySem.W.callWith_KW0 (h₀ := X.base) I.ok.mod.kin hk f1 ?_ (by rw [f3]; rfl)
    have el := h0l rfl
    subst el
    obtain ⟨b, m, e, S, r, S', hb0, R, RE, he, q⟩ := h
    cases he
    obtain ⟨_, q2⟩ := q [] H m (Le.refl _ _) R rfl
    refine L2.thn (hK.run pos pins s σ H _ I q2) fun ws s2 ⟨zs, H2, I2, rz, q3, q4⟩ => ⟨I2.kIn, ?_⟩
    rw [f2]
    exact L2.run_fnN (us := []) (vs := []) F hr hb L2.pass0 I2 .nil rz rfl q3 q4
  | cons e0 es =>
    have h' : L2.tCallN (e0 :: es).length ks.length (spN X.K rc np fi) (fun vs zs => arr perm (vs ++ zs)) E0 (tL X.K l) (tL X.K kl) σ H Q := by
      obtain ⟨b, m, e, S, r, S', hb0, R, RE, he, q⟩ := h
      refine ⟨b, m, e, S, r, S', hb0, R, RE, he, fun vs H1 m1 z1 R1 r1 => ?_⟩
      obtain ⟨q1, b2, m2, e2, S2, r2, S3, hb2, R2, RE2, he2, q2⟩ := q vs H1 m1 z1 R1 r1
      exact ⟨b2, m2, e2, S2, r2, S3, hb2, R2, RE2, he2, fun zs H2 m3 z2 R3 r3 => let ⟨q3, q4⟩ := q2 zs H2 m3 z2 R3 r3; ⟨q1, q3, q4⟩⟩
    have hst' : noStar e0 = true ∧ es.all noStar = true := by simpa using hst
    exact (L2.pe_callN F hr hg hm hk hb L2.pass0 ha hK f1 f2 hd (star1 hst'.1 es X.env) (by rw [plain_args hst, f3]; rfl)).run pins s σ H Q I h'
end
end Pv
set_option linter.all false
set_option autoImplicit false
set_option maxRecDepth 100000
/-! What the evaluator tells, the machine does: op=, several targets at once, a comprehension stored. -/
namespace Pv
open PySem PySem.Spec PyProof.Rows
open L2 (V Hp HO upd upd_same upd_ne VK XK TE TT TA TS TG TGs TI Cx PE PT PW PA PS PSs PG PGs PI Inv RelV SqL SqT OpR CallR Gl Ends Vals Room FnOk CX0 E0)
section
variable {X : Cx} {a b c ex : Expr} {f g : DV} {pos : Pos}
def augOk : Bo → Bool
  | .add => true | .sub => true | .mul => true | .fdiv => true
  | _ => false
def ipB (o : Bo) : L2.TIp := fun x y H Q => ∃ i j k, x = .int i ∧ y = .int j ∧ binI o i j = some k ∧ Q (.int k) H
theorem ip_ok {o : Bo} (h : augOk o = true) : L2.PIp X (opOf o) (ipB o) := by
  intro pins s σ H x y v u Q I rx ry ⟨i, j, k, ex, ey, hk, q⟩
  subst ex
  subst ey
  cases o with
  | add => cases hk; exact L2.iop_add pins s σ H _ _ v u Q I rx ry ⟨i, j, rfl, rfl, q⟩
  | sub => cases hk; exact L2.iop_sub pins s σ H _ _ v u Q I rx ry ⟨i, j, rfl, rfl, q⟩
  | mul =>
    by_cases e : i.natAbs < 18446744073709551616 ∨ j.natAbs < 18446744073709551616
    · rw [binI_mul e] at hk; cases hk
      exact L2.iop_mul pins s σ H _ _ v u Q I rx ry ⟨i, j, rfl, rfl, e.imp (fun z => by constructor <;> omega) (fun z => by constructor <;> omega), q⟩
    · rw [show binI .mul i j = none from if_neg e] at hk; cases hk
  | fdiv =>
    by_cases e : 0 < j ∧ j < 1073741824
    · rw [binI_fdiv e] at hk; cases hk
      exact L2.iop_fdiv pins s σ H _ _ v u Q I rx ry ⟨i, j, rfl, rfl, e, q⟩
    · rw [show binI .fdiv i j = none from if_neg e] at hk; cases hk
  | _ => cases h
theorem augI_some {o : Bo} {y x n : D} (h : augI o y x = some n) : ∃ i j k, y = .int i ∧ x = .int j ∧ binI o i j = some k ∧ n = .int k := by
  unfold augI at h
  split at h
  · rename_i i j
    cases e : binI o i j with
    | none => rw [e] at h; cases h
    | some k => rw [e] at h; cases h; exact ⟨i, j, k, rfl, rfl, e, rfl⟩
  · cases h
theorem so_aug {o : Bo} {i : Nat} {x : Str} {px : Pos} (ho : augOk o = true) (hN : X.N.Nodup) (hi : X.N[i]? = some x) (hx : L2.Loc X.env.scope x) (hf : X.fn x = true ∨ X.env.scope.names.lookup x = some .local) (ha : PE X a (tE X.K f)) :
    PS X (.AugAssign (.Name x px) (opOf o) a pos) (tF X.K (cAug i o f)) := PS.imp (L2.ps_aug hN hi hx (so_D ha) (ip_ok ho) hf) fun D σ H ⟨b, m, e, S, fl, e', S', hb, R, E, he, q⟩ => by
  obtain ⟨y, h0, he⟩ := bind_ok he
  obtain ⟨p1, h1, he⟩ := bind_ok he
  obtain ⟨n, h2, he⟩ := bind_ok he
  cases he
  obtain ⟨i', j', k', e1, e2, e3, e4⟩ := augI_some (ofO_ok h2)
  have hy : e[i]? = some (some y) := by
    unfold envGet at h0
    split at h0
    · rename_i z hz; cases h0; exact hz
    · cases h0
  obtain ⟨v, hv, rv⟩ := E.2 i y hy
  refine ⟨v, hv, b, m, e, S, p1.1, p1.2, hb, R, E, h1, fun w H' m' z R' rw_ => ?_⟩
  rw [e1] at rv
  rw [e2] at rw_
  exact ⟨i', j', k', rv, rw_, e3, q _ H' m' z R' (by rw [e4]; exact RE.set (x := .int k') (v := .int k') (RE.mono z E) rfl i)⟩
theorem pget_list : L2.PGet X (fun o i H Q => ∃ p xs k v, o = .ref p ∧ i = .int k ∧ SqL X.K H p xs ∧ 0 ≤ k ∧ xs[k.toNat]? = some v ∧ Q v H) := by
  intro pins s σ H o i ov iv Q I ro ri ⟨p, xs, k, v, eo, ei, hq, h0, hx, q⟩
  subst eo
  subst ei
  cases ro
  obtain ⟨t, rfl⟩ := (ri : ∃ t, iv = Value.int k t)
  obtain ⟨its, r, pl, hz⟩ := I.list hq
  obtain ⟨u, hu, ru⟩ := r.get hx
  have hl : k.toNat < xs.length := (List.getElem?_eq_some_iff.mp hx).1
  have hz' : xs.length ≤ 16777216 := hz
  exact wpAny_getItem_list pl.isList h0 (by omega) (by simpa using hu) ⟨v, H, I, ru, q⟩
theorem augst {i : Expr} (h : noSlice i = true) (ov iv new : Value) : augStore i ov iv new = (do
    holding [new, ov, iv] (setItem ov iv new)
    release [new, ov, iv] []
    pure .next) := by
  cases i <;> first | rfl | cases h
theorem so_augs {o : Bo} {x y : DV} {px : Pos} (ho : augOk o = true) (h : noSlice b = true) (kx : KV x) (ky : KV y) (kf : KV f) (hx : PE X a (tE X.K x)) (hy : PE X b (tE X.K y)) (hc : PE X c (tE X.K f)) :
    PS X (.AugAssign (.Subscript a b px) (opOf o) c pos) (tF X.K (cAugs x y o f)) := PS.imp (L2.ps_augS (so_D hx) (so_D hy) pget_list (so_D hc) (ip_ok ho) L2.set_list (augst h)) fun D σ H ⟨b, m, e, S, fl, e', S', hb, R, E, he, q⟩ => by
  obtain ⟨p1, h1, he⟩ := bind_ok he
  obtain ⟨p2, h2, he⟩ := bind_ok he
  obtain ⟨d, h3, he⟩ := bind_ok he
  obtain ⟨p3, h4, he⟩ := bind_ok he
  obtain ⟨n, h5, he⟩ := bind_ok he
  obtain ⟨S4, h6, he⟩ := bind_ok he
  cases he
  have k1 := kx.sD b e S p1.1 p1.2 hb h1
  have k2 := k1.trans (ky.sD b e p1.2 p2.1 p2.2 (Nat.le_trans hb k1.len) h2)
  obtain ⟨i', j', k', e1, e2, e3, e4⟩ := augI_some (ofO_ok h5)
  refine ⟨b, m, e, S, p1.1, p1.2, hb, R, E, h1, fun vo H1 m1 z1 R1 r1 => ⟨b, m1, e, p1.2, p2.1, p2.2, Nat.le_trans hb k1.len, R1, RE.mono z1 E, h2, fun vi H2 m2 z2 R2 r2 => ?_⟩⟩
  have r1' := r1.mono z2
  have h3' := ofO_ok h3
  unfold idxL at h3'
  split at h3'
  · rename_i l k hl hk
    rw [hk] at r2
    rw [hl] at r1'
    cases (show vi = .int k from r2)
    split at h3'
    · rename_i xs hxs
      split at h3'
      · rename_i h0
        obtain ⟨p, hp, rfl⟩ := (r1' : ∃ a, m2[l]? = some a ∧ vo = .ref a)
        obtain ⟨vs, w1, w2⟩ := R2.lst hp hxs
        obtain ⟨v, w3, w4⟩ := w2.get h3'
        refine ⟨p, vs, k, v, rfl, rfl, SqL.of w1, h0, w3, b, m2, e, p2.2, p3.1, p3.2, Nat.le_trans hb k2.len, R2, RE.mono (z1.trans z2) E, h4, fun w H3 m3 z3 R3 r3 => ?_⟩
        rw [e1] at w4
        rw [e2] at r3
        refine ⟨i', j', k', w4, r3, e3, ?_⟩
        rw [hl, hk, e4] at h6
        have rl : RD X.K H3 m3 (.loc l) (.ref p) := ⟨p, pre_get z3.pre hp, rfl⟩
        exact set_sub (i := .int k) (x := .int k') (v := .int k') R3 rl rfl rfl h6 fun H4 z4 R4 => q σ H4 m3 (z1.trans (z2.trans (z3.trans z4))) R4 (RE.mono (z1.trans (z2.trans (z3.trans z4))) E)
      · cases h3'
    · cases h3'
  · cases h3'

/-! ### a, b = x, y -/
def isStar : Expr → Bool
  | .Starred .. => true
  | _ => false
def nameAt (env : PySem.Env) (line : Nat) : Expr → Option Str
  | .Name id pos => if env.kindOf id == some .local && pos.line == line then some id else none
  | _ => none
theorem swap_eq (env : PySem.Env) (ts vs : List Expr) (k k2 : Nat) (p p2 : Pos) : swappedStores [.Tuple ts k p] (.Tuple vs k2 p2) env =
  (if (!(ts.length == 2 || ts.length == 3) || vs.length != ts.length || env.blockKind != .function) = true then pure none
   else if (vs.any isStar) = true then pure none
   else if ((ts.filterMap (nameAt env ((ts.head?.map (·.pos.line)).getD 0))).length != ts.length || (ts.filterMap (nameAt env ((ts.head?.map (·.pos.line)).getD 0))).eraseDups.length != (ts.filterMap (nameAt env ((ts.head?.map (·.pos.line)).getD 0))).length) = true then pure none
   else if (vs.all (foldedForSure 8)) = true then pure none
   else if (vs.all (constantsAlone 8)) = true then (do unsupported "assign.tuple-of-constant-expressions:order-of-the-stores"; pure (some (ts.filterMap (nameAt env ((ts.head?.map (·.pos.line)).getD 0)))))
   else pure (some (ts.filterMap (nameAt env ((ts.head?.map (·.pos.line)).getD 0))))) := by
  unfold swappedStores
  rfl
def nameSc (sc : Scope) (line : Nat) : Expr → Option Str
  | .Name id pos => if sc.names.lookup id == some .local && pos.line == line then some id else none
  | _ => none
/-- what the exchange of stores comes to; none: not told -/
def swapC (sc : Scope) (ts vs : List Expr) : Option (Option (List Str)) :=
  if (!(ts.length == 2 || ts.length == 3) || vs.length != ts.length) = true then some none
  else if (vs.any isStar) = true then some none
  else if ((ts.filterMap (nameSc sc ((ts.head?.map (·.pos.line)).getD 0))).length != ts.length || (ts.filterMap (nameSc sc ((ts.head?.map (·.pos.line)).getD 0))).eraseDups.length != (ts.filterMap (nameSc sc ((ts.head?.map (·.pos.line)).getD 0))).length) = true then some none
  else if (vs.all (foldedForSure 8)) = true then some none
  else if (vs.all (constantsAlone 8)) = true then none
  else some (some (ts.filterMap (nameSc sc ((ts.head?.map (·.pos.line)).getD 0))))
theorem swap_is {env : PySem.Env} {sc : Scope} (he : env.scope = sc) (hk : sc.kind = .function) {ts vs : List Expr} {k k2 : Nat} {p p2 : Pos} {r : Option (List Str)} (h : swapC sc ts vs = some r) : swappedStores [.Tuple ts k p] (.Tuple vs k2 p2) env = pure r := by
  subst he
  have hb : env.blockKind = .function := by unfold Env.blockKind; rw [hk]; rfl
  have hn : ∀ line, nameAt env line = nameSc env.scope line := fun line => by funext x; cases x <;> rfl
  rw [swap_eq, hb]
  simp only [hn]
  unfold swapC at h
  split at h
  · rename_i h1
    cases h
    rw [if_pos (by rw [h1]; rfl)]
  · rename_i h1
    rw [if_neg (by rw [Bool.eq_false_iff.mpr h1]; decide)]
    split at h
    · rename_i h2; cases h; rw [if_pos h2]
    · rename_i h2
      rw [if_neg h2]
      split at h
      · rename_i h3; cases h; rw [if_pos h3]
      · rename_i h3
        rw [if_neg h3]
        split at h
        · rename_i h4; cases h; rw [if_pos h4]
        · rename_i h4
          rw [if_neg h4]
          split at h
          · cases h
          · rename_i h5; cases h; rw [if_neg h5]
def isTup : Expr → Bool
  | .Tuple .. => true
  | _ => false
def plainG : Expr → Bool
  | .Name .. => true
  | .Subscript .. => true
  | _ => false
theorem swap_plain {env : PySem.Env} {t e : Expr} (h : plainG t = true) : swappedStores [t] e env = pure none := by
  cases t with
  | Name _ _ => cases e <;> rfl
  | Subscript _ _ _ => cases e <;> rfl
  | _ => cases h
theorem swap_val {env : PySem.Env} {ts : List Expr} {k : Nat} {p : Pos} {e : Expr} (h : isTup e = false) : swappedStores [.Tuple ts k p] e env = pure none := by
  cases e with
  | Tuple _ _ _ => cases h
  | _ => rfl
theorem so_swap2 {i j : Nat} {x y : Str} {px py pt pt2 : Pos} {kt k2 : Nat} {l : DL} (hc : X.calm = true) (hN : X.N.Nodup) (hi : X.N[i]? = some x) (hj : X.N[j]? = some y) (hij : i ≠ j) (hx : X.env.scope.names.lookup x = some .local) (hy : X.env.scope.names.lookup y = some .local)
    (ha : PA X [a, b] (tL X.K l)) (hw : swappedStores [.Tuple [.Name x px, .Name y py] kt pt] (.Tuple [a, b] k2 pt2) X.env = pure (some [x, y])) :
    PS X (.Assign [.Tuple [.Name x px, .Name y py] kt pt] (.Tuple [a, b] k2 pt2) pos) (tF X.K (cSwap [i, j] l)) := PS.imp (L2.ps_par hc hN hi hj hij hx hy ha hw) fun D σ H ⟨b, m, e, S, fl, e', S', hb, R, E, he, q⟩ => by
  obtain ⟨p1, h1, he⟩ := bind_ok he
  split at he
  · rename_i hl
    cases he
    refine ⟨b, m, e, S, p1.1, p1.2, hb, R, E, h1, fun vs H' m' z R' rv => ?_⟩
    obtain ⟨ds, S1⟩ := p1
    match ds, hl with
    | [d1, d2], _ =>
      obtain ⟨v, ws, rfl, r1, v2, ws2, rfl, r2, r3⟩ := rv
      cases (show ws2 = [] from r3)
      exact ⟨v, v2, rfl, q _ H' m' z R' (RE.set (RE.set (RE.mono z E) r1 i) r2 j)⟩
  · cases he
theorem so_swap3 {i j h : Nat} {x y z : Str} {px py pz pt pt2 : Pos} {kt k2 : Nat} {l : DL} (hc : X.calm = true) (hN : X.N.Nodup) (hi : X.N[i]? = some x) (hj : X.N[j]? = some y) (hh : X.N[h]? = some z) (hij : i ≠ j) (hih : i ≠ h) (hjh : j ≠ h) (hx : X.env.scope.names.lookup x = some .local) (hy : X.env.scope.names.lookup y = some .local) (hz : X.env.scope.names.lookup z = some .local)
    (ha : PA X [a, b, c] (tL X.K l)) (hw : swappedStores [.Tuple [.Name x px, .Name y py, .Name z pz] kt pt] (.Tuple [a, b, c] k2 pt2) X.env = pure (some [x, y, z])) :
    PS X (.Assign [.Tuple [.Name x px, .Name y py, .Name z pz] kt pt] (.Tuple [a, b, c] k2 pt2) pos) (tF X.K (cSwap [i, j, h] l)) := PS.imp (L2.ps_par3 hc hN hi hj hh hij hih hjh hx hy hz ha hw) fun D σ H ⟨b, m, e, S, fl, e', S', hb, R, E, he, q⟩ => by
  obtain ⟨p1, h1, he⟩ := bind_ok he
  split at he
  · rename_i hl
    cases he
    refine ⟨b, m, e, S, p1.1, p1.2, hb, R, E, h1, fun vs H' m' z R' rv => ?_⟩
    obtain ⟨ds, S1⟩ := p1
    match ds, hl with
    | [d1, d2, d3], _ =>
      obtain ⟨v, ws, rfl, r1, v2, ws2, rfl, r2, v3, ws3, rfl, r3, r4⟩ := rv
      cases (show ws3 = [] from r4)
      exact ⟨v, v2, v3, rfl, q _ H' m' z R' (RE.set (RE.set (RE.set (RE.mono z E) r1 i) r2 j) r3 h)⟩
  · cases he
theorem so_setComp {i : Nat} {y : Str} {py : Pos} {elt tgt iter : Expr} {ifs : List Expr} {scope : Scope} {own : List (Str × Nat)} {cpos : Pos} {x : DV} {t : DG} {it : DI} {u : DT} {ts : List Nat} (hc : X.calm = true) (hN : X.N.Nodup) (hy : X.N[i]? = some y) (hyl : X.env.scope.names.lookup y = some .local)
    (hsw : swapsWith (.ListComp elt [⟨tgt, iter, ifs, 0⟩] scope cpos) (some (.Name y py)) pos.line X.env = pure true) (ok : L2.BlkOk X.N X.env.scope scope own) (hts : ∀ i ∈ ts, i ∈ own.map (·.2))
    (hi : PI X tgt iter (tI X.K it)) (hg : ∀ (s : Shared) (H : Hp) (C : Addr) (cl : List (Str × Addr)) (fp : List Addr), PG (X.blk s H scope (compEnvC scope cl C X.env) fp) tgt (tg X.K ts t))
    (ht : ∀ (s : Shared) (H : Hp) (C : Addr) (cl : List (Str × Addr)) (fp : List Addr), L2.PTs (X.blk s H scope (compEnvC scope cl C X.env) fp) ifs (tT X.K u))
    (he : ∀ (s : Shared) (H : Hp) (C : Addr) (cl : List (Str × Addr)) (fp : List Addr), PE (X.blk s H scope (compEnvC scope cl C X.env) fp) elt (tE X.K x))
    (hs : ∀ x, foldedSetIterable iter X.env x = pure x) (kx : KV x) (kt : KG t) (ki : KV it) (ku : KV u) :
    PS X (.Assign [.Name y py] (.ListComp elt [⟨tgt, iter, ifs, 0⟩] scope cpos) pos) (tF X.K (cAsg (gVar i) (sComp x t it u (own.map (·.2))))) :=
  PS.imp (L2.ps_setLc hc hN hy hyl hsw hi ok hg ht (fun s H C cl fp => so_D (he s H C cl fp)) hs) fun D σ H ⟨b, m, e, S, fl, e', S', hb, R, E, hev, q⟩ => by
    obtain ⟨p1, h1, hev⟩ := bind_ok hev
    obtain ⟨p2, h2, hev⟩ := bind_ok hev
    cases h2
    cases hev
    obtain ⟨p0, h0, h1⟩ := bind_ok h1
    have e1 : settle p0.1 p0.2 = p1 := by injection h1
    refine so_comp hc hN ok hts hi hg ht he hs kx kt ki ku σ H _ ⟨b, m, e, S, p0.1, p0.2, hb, R, E, h0, fun v H' m' z R' rv => ?_⟩
    obtain ⟨m2, z2, z3, R2, r2⟩ := settled z R' rv
    rw [e1] at R2 r2
    exact q _ H' m2 z2 R2 (RE.set (RE.mono z2 E) r2 i)
theorem so_compE {elt tgt iter : Expr} {ifs : List Expr} {scope : Scope} {own : List (Str × Nat)} {x : DV} {t : DG} {it : DI} {u : DT} {ts : List Nat} (hc : X.calm = true) (hN : X.N.Nodup) (ok : L2.BlkOk X.N X.env.scope scope own) (hts : ∀ i ∈ ts, i ∈ own.map (·.2))
    (hi : PI X tgt iter (tI X.K it)) (hg : ∀ (s : Shared) (H : Hp) (C : Addr) (cl : List (Str × Addr)) (fp : List Addr), PG (X.blk s H scope (compEnvC scope cl C X.env) fp) tgt (tg X.K ts t))
    (ht : ∀ (s : Shared) (H : Hp) (C : Addr) (cl : List (Str × Addr)) (fp : List Addr), L2.PTs (X.blk s H scope (compEnvC scope cl C X.env) fp) ifs (tT X.K u))
    (he : ∀ (s : Shared) (H : Hp) (C : Addr) (cl : List (Str × Addr)) (fp : List Addr), PE (X.blk s H scope (compEnvC scope cl C X.env) fp) elt (tE X.K x))
    (hs : ∀ x, foldedSetIterable iter X.env x = pure x) (kx : KV x) (kt : KG t) (ki : KV it) (ku : KV u) : PE X (.ListComp elt [⟨tgt, iter, ifs, 0⟩] scope pos) (tE X.K (sComp x t it u (own.map (·.2)))) :=
  PE.imp (L2.pe_lc hc hN hi ok hg ht (fun s H C cl fp => so_D (he s H C cl fp)) hs) (so_comp hc hN ok hts hi hg ht he hs kx kt ki ku)
end
end Pv
set_option linter.all false
set_option autoImplicit false
set_option maxRecDepth 100000
/-! What the evaluator tells, the machine does: dicts. -/
namespace Pv
open PySem PySem.Spec PyProof.Rows
open L2 (V Hp HO upd upd_same upd_ne VK XK TE TT TA TS TG TGs TI It Cx PE PT PW PA PS PSs PG PGs PI Inv RelV SqL SqT OpR CallR Gl Ends)
section
variable {K : PySem.W.Frag} {H : Hp} {m : List Addr}
theorem isK_kD {x : D} (h : isK x = true) : ∃ j : L2.Key, x = kD j := by
  cases x with
  | int i => exact ⟨.inl i, rfl⟩
  | str s => exact ⟨.inr s, rfl⟩
  | _ => cases h
theorem kD_V {j : L2.Key} {v : V} (h : RD K H m (kD j) v) : v = L2.kV j := by
  cases j with
  | inl i => exact h
  | inr s => exact h
theorem eqF_kD (a b : L2.Key) : eqF (kD a) (kD b) = decide (a = b) := by
  cases a with
  | inl i => cases b with
    | inl j =>
      show (i == j) = _
      by_cases h : i = j
      · rw [h]; simp
      · rw [beq_eq_false_iff_ne.mpr h, decide_eq_false (fun e => h (Sum.inl.inj e))]
    | inr t => rfl
  | inr s => cases b with
    | inl j => rfl
    | inr t =>
      show decide (s = t) = _
      by_cases h : s = t
      · rw [h]; simp
      · rw [decide_eq_false h, decide_eq_false (fun e => h (Sum.inr.inj e))]
/-- a dict's entries and the machine's -/
def RK (K : PySem.W.Frag) (H : Hp) (m : List Addr) (kvs : List (D × D)) (ks : List (L2.Key × V)) : Prop := kvs.map (·.1) = ks.map (fun p => kD p.1) ∧ RDs K H m (kvs.map (·.2)) (ks.map (·.2))
theorem RK.cons {p : D × D} {kvs : List (D × D)} {ks : List (L2.Key × V)} (h : RK K H m (p :: kvs) ks) : ∃ k v ks', ks = (k, v) :: ks' ∧ p.1 = kD k ∧ RD K H m p.2 v ∧ RK K H m kvs ks' := by
  obtain ⟨h1, h2⟩ := h
  cases ks with
  | nil => simp at h1
  | cons q ks =>
    rw [List.map_cons, List.map_cons] at h1
    injection h1 with a b
    obtain ⟨v, ws, e, r1, r2⟩ := (h2 : ∃ v ws, (q :: ks).map (·.2) = v :: ws ∧ RD K H m p.2 v ∧ RDs K H m (kvs.map (·.2)) ws)
    rw [List.map_cons] at e
    injection e with e1 e2
    subst e1
    subst e2
    exact ⟨q.1, q.2, ks, rfl, a, r1, b, r2⟩
theorem RK.mk {p : D × D} {k : L2.Key} {v : V} {kvs : List (D × D)} {ks : List (L2.Key × V)} (h1 : p.1 = kD k) (h2 : RD K H m p.2 v) (h : RK K H m kvs ks) : RK K H m (p :: kvs) ((k, v) :: ks) := by
  refine ⟨?_, v, ks.map (·.2), rfl, h2, h.2⟩
  rw [List.map_cons, List.map_cons, h.1, h1]
theorem RK.get {j : L2.Key} : ∀ {kvs : List (D × D)} {ks : List (L2.Key × V)}, RK K H m kvs ks → (∀ x, getK kvs (kD j) = some x → ∃ v, L2.valV ks j = some v ∧ RD K H m x v) ∧ (getK kvs (kD j) = none → L2.valV ks j = none)
  | [], ks, h => by
    have : ks = [] := by
      cases ks with
      | nil => rfl
      | cons q ks => have := h.1; simp at this
    subst this
    exact And.intro (fun x hx => by cases (hx : none = some x)) (fun _ => rfl)
  | p :: kvs, ks, h => by
    obtain ⟨k, v, ks', rfl, h1, h2, h3⟩ := h.cons
    have ih := RK.get (j := j) h3
    by_cases e : k = j
    · have e1 : getK (p :: kvs) (kD j) = some p.2 := by
        unfold getK
        rw [List.find?_cons, h1, eqF_kD, decide_eq_true e]
        rfl
      rw [e1, L2.valV_pos e]
      exact ⟨fun x hx => by cases hx; exact ⟨v, rfl, h2⟩, fun hx => by cases hx⟩
    · have e1 : getK (p :: kvs) (kD j) = getK kvs (kD j) := by
        unfold getK
        rw [List.find?_cons, h1, eqF_kD, decide_eq_false e]
      rw [e1, L2.valV_neg (show ¬ ((k, v) : L2.Key × V).1 = j from e)]
      exact ih
theorem RK.isSome {j : L2.Key} {kvs : List (D × D)} {ks : List (L2.Key × V)} (h : RK K H m kvs ks) : (getK kvs (kD j)).isSome = (L2.valV ks j).isSome := by
  obtain ⟨a, b⟩ := h.get (j := j)
  cases e : getK kvs (kD j) with
  | none => rw [b e]; rfl
  | some x => obtain ⟨v, e1, _⟩ := a x e; rw [e1]; rfl
theorem RK.any {j : L2.Key} : ∀ {kvs : List (D × D)} {ks : List (L2.Key × V)}, RK K H m kvs ks → (kvs.any fun p => eqF p.1 (kD j)) = ks.any fun p => decide (p.1 = j)
  | [], ks, h => by
    have : ks = [] := by
      cases ks with
      | nil => rfl
      | cons q ks => have := h.1; simp at this
    subst this
    rfl
  | p :: kvs, ks, h => by
    obtain ⟨k, v, ks', rfl, h1, h2, h3⟩ := h.cons
    rw [List.any_cons, List.any_cons, h1, eqF_kD, RK.any h3]
theorem RK.rep {j : L2.Key} {x : D} {v : V} (r : RD K H m x v) : ∀ {kvs : List (D × D)} {ks : List (L2.Key × V)}, RK K H m kvs ks → RK K H m (kvs.map fun p => if eqF p.1 (kD j) then (p.1, x) else p) (ks.map fun p => if p.1 = j then (p.1, v) else p)
  | [], ks, h => by
    have : ks = [] := by
      cases ks with
      | nil => rfl
      | cons q ks => have := h.1; simp at this
    subst this
    exact h
  | p :: kvs, ks, h => by
    obtain ⟨k, u, ks', rfl, h1, h2, h3⟩ := h.cons
    have ih := RK.rep (j := j) r h3
    rw [List.map_cons, List.map_cons]
    by_cases e : k = j
    · have a : (if eqF p.1 (kD j) = true then (p.1, x) else p) = (p.1, x) := if_pos (by rw [h1, eqF_kD, decide_eq_true e])
      have b : (if ((k, u) : L2.Key × V).1 = j then (((k, u) : L2.Key × V).1, v) else (k, u)) = (k, v) := if_pos e
      rw [a, b]
      exact RK.mk h1 r ih
    · have a : (if eqF p.1 (kD j) = true then (p.1, x) else p) = p := if_neg (by rw [h1, eqF_kD, decide_eq_false e]; simp)
      have b : (if ((k, u) : L2.Key × V).1 = j then (((k, u) : L2.Key × V).1, v) else (k, u)) = (k, u) := if_neg e
      rw [a, b]
      exact RK.mk h1 h2 ih
theorem RK.put {j : L2.Key} {x : D} {v : V} (r : RD K H m x v) {kvs : List (D × D)} {ks : List (L2.Key × V)} (h : RK K H m kvs ks) : RK K H m (putK kvs (kD j) x) (L2.putK ks j v) := by
  unfold putK L2.putK
  rw [h.any]
  by_cases e : (ks.any fun p => decide (p.1 = j)) = true
  · rw [if_pos e, if_pos e]
    exact h.rep r
  · rw [if_neg e, if_neg e]
    refine ⟨?_, ?_⟩
    · rw [List.map_append, List.map_append, h.1]
      rfl
    · rw [List.map_append, List.map_append]
      exact h.2.append ⟨v, [], rfl, r, rfl⟩
theorem RK.len {kvs : List (D × D)} {ks : List (L2.Key × V)} (h : RK K H m kvs ks) : kvs.length = ks.length := by
  have := congrArg List.length h.1
  simpa using this
theorem dct_at {S : Sto} (R : Rl K m H S) {x : D} {v : V} {kvs : List (D × D)} (r : RD K H m x v) (h : dctO x S = some kvs) : ∃ l a ks, x = .loc l ∧ v = .ref a ∧ m[l]? = some a ∧ (∃ t, S[l]? = some (.dct t kvs)) ∧ H a = some (.dK ks) ∧ RK K H m kvs ks := by
  unfold dctO at h
  split at h
  · rename_i l
    obtain ⟨a, ha, rfl⟩ := (r : ∃ a, m[l]? = some a ∧ v = .ref a)
    split at h
    · rename_i t kvs' e
      cases h
      obtain ⟨_, ks, h1, h2, h3⟩ := R.at_ l a _ ha e
      exact ⟨l, a, ks, rfl, rfl, ha, ⟨t, e⟩, h1, h2, h3⟩
    · cases h
  · cases h
end
/-! the frame's base is kept -/
theorem KV.dnew (t : Bool) : KV (sDnew t) := fun b e S r S' hb he => by
  unfold sDnew at he
  split at he
  · cases he
  · cases he
    refine ⟨by simp, fun n hn w l o hl ho => ?_⟩
    have hlt : l < S.length := by omega
    rw [List.getElem?_append_left hlt] at ho
    exact w l o hl ho
theorem KV.dget {f g : DV} (kf : KV f) (kg : KV g) : KV (sDget f g) := fun b e S r S' hb he => by
  obtain ⟨p1, h1, he⟩ := bind_ok he
  obtain ⟨p2, h2, he⟩ := bind_ok he
  obtain ⟨w, h3, he⟩ := bind_ok he
  cases he
  have k1 := kf.sD b e S p1.1 p1.2 hb h1
  exact k1.trans (kg.sD b e p1.2 p2.1 p2.2 (Nat.le_trans hb k1.len) h2)
theorem KV.din {neg : Bool} {f g : DV} (kf : KV f) (kg : KV g) : KV (sDin neg f g) := fun b e S r S' hb he => by
  obtain ⟨p1, h1, he⟩ := bind_ok he
  obtain ⟨p2, h2, he⟩ := bind_ok he
  obtain ⟨w, h3, he⟩ := bind_ok he
  cases he
  have k1 := kf.sD b e S p1.1 p1.2 hb h1
  exact k1.trans (kg.sD b e p1.2 p2.1 p2.2 (Nat.le_trans hb k1.len) h2)
theorem KV.dlen {f : DV} (kf : KV f) : KV (sDlen f) := fun b e S r S' hb he => by
  obtain ⟨p1, h1, he⟩ := bind_ok he
  obtain ⟨w, h3, he⟩ := bind_ok he
  cases he
  exact kf.sD b e S p1.1 p1.2 hb h1
theorem KV.dgt {f g h : DV} (kf : KV f) (kg : KV g) (kh : KV h) : KV (sDgt f g h) := fun b e S r S' hb he => by
  obtain ⟨p1, h1, he⟩ := bind_ok he
  obtain ⟨_, _, he⟩ := bind_ok he
  obtain ⟨p2, h2, he⟩ := bind_ok he
  obtain ⟨p3, h3, he⟩ := bind_ok he
  obtain ⟨w, h4, he⟩ := bind_ok he
  cases he
  have k1 := kf.sD b e S p1.1 p1.2 hb h1
  have k2 := k1.trans (kg.sD b e p1.2 p2.1 p2.2 (Nat.le_trans hb k1.len) h2)
  exact k2.trans (kh.sD b e p2.2 p3.1 p3.2 (Nat.le_trans hb k2.len) h3)
theorem setK_kp {b : Nat} {o k x : D} {S S' : Sto} (h : setK b o k x S = .ok S') : Kp b S S' := by
  unfold setK at h
  split at h
  · rename_i l
    split at h
    · rename_i t kvs hx
      split at h
      · rename_i hc
        cases h
        obtain ⟨hk, _, hw⟩ := hc
        have kub : ∀ n, k.ub n = true := fun n => by
          obtain ⟨j, rfl⟩ := isK_kD hk
          exact kD_ub j
        refine Kp.set fun n hn w hl => ?_
        have h0 : (kvs.all fun p => p.1.ub n && p.2.ub n) = true := w _ _ hl hx
        show ((putK kvs k x).all fun p => p.1.ub n && p.2.ub n) = true
        have xub := wr_ub hw hn hl
        rw [List.all_eq_true] at h0 ⊢
        unfold putK
        split
        · intro p hp
          obtain ⟨q, hq, rfl⟩ := List.mem_map.mp hp
          have := h0 q hq
          split
          · rw [Bool.and_eq_true] at this ⊢
            exact ⟨this.1, xub⟩
          · exact this
        · intro p hp
          rcases List.mem_append.mp hp with hp | hp
          · exact h0 p hp
          · rw [List.mem_singleton.mp hp, Bool.and_eq_true]
            exact ⟨kub n, xub⟩
      · cases h
    · cases h
  · cases h
theorem KF.dput {o k f : DV} (ko : KV o) (kk : KV k) (kf : KV f) : KF (cDput o k f) := fun b e S fl e' S' hb he => by
  obtain ⟨p1, h1, he⟩ := bind_ok he
  obtain ⟨p2, h2, he⟩ := bind_ok he
  obtain ⟨p3, h3, he⟩ := bind_ok he
  obtain ⟨S2, h4, he⟩ := bind_ok he
  cases he
  have k1 := kf.sD b e S p1.1 p1.2 hb h1
  have k2 := k1.trans (ko.sD b e p1.2 p2.1 p2.2 (Nat.le_trans hb k1.len) h2)
  have k3 := k2.trans (kk.sD b e p2.2 p3.1 p3.2 (Nat.le_trans hb k2.len) h3)
  exact k3.trans (setK_kp h4)
section
variable {X : Cx} {a b c : Expr} {f g h : DV} {pos : Pos}
theorem noSl {e : Expr} (h : noSlice e = true) : L2.NoSl e := by
  intro o i
  cases e <;> first | rfl | cases h
theorem so_dnew : PE X (.Dict [] [] pos) (tE X.K (sDnew false)) :=
  PE.imp L2.pe_dnewK fun σ H Q ⟨b, m, e, S, r, S', hb, R, RE, he, q⟩ => by
    cases he
    intro p hp
    obtain ⟨z, R1⟩ := R.laid (o := .dK []) hp
    have hn := R.new hp
    exact q (.ref p) _ (m ++ [p]) (z.push hp) (R1.pushD upd_same hn) ⟨p, by rw [← R.len]; simp, rfl⟩
theorem so_dget (hu : X.A.units + 1 < cLine) (hs : noSlice b = true) (kf : KV f) (ha : PE X a (tE X.K f)) (hb : PE X b (tE X.K g)) : PE X (.Subscript a b pos) (tE X.K (sDget f g)) :=
  PE.imp (L2.pe_dget hu (so_D ha) (so_D hb) (noSl hs)) fun σ H Q ⟨b, m, e, S, r, S', hb, R, RE, he, q⟩ => by
    obtain ⟨p1, h1, he⟩ := bind_ok he
    obtain ⟨p2, h2, he⟩ := bind_ok he
    obtain ⟨w, h3, he⟩ := bind_ok he
    cases he
    have k1 := kf.sD b e S p1.1 p1.2 hb h1
    refine ⟨b, m, e, S, p1.1, p1.2, hb, R, RE, h1, fun x H1 m1 z1 R1 rx => ⟨b, m1, e, p1.2, p2.1, p2.2, Nat.le_trans hb k1.len, R1, RE.mono z1, h2, fun y H2 m2 z2 R2 ry => ?_⟩⟩
    have h3 := ofO_ok h3
    split at h3
    · rename_i hk
      obtain ⟨j, ej⟩ := isK_kD hk
      rw [ej] at ry h3
      cases hd : dctO p1.1 p2.2 with
      | none => rw [hd] at h3; cases h3
      | some kvs =>
        rw [hd] at h3
        obtain ⟨l, ad, ks, _, rfl, _, _, h4, h5⟩ := dct_at R2 (rx.mono z2) hd
        obtain ⟨v, h6, h7⟩ := h5.get.1 w h3
        refine ⟨ad, v, rfl, ?_, q v H2 m2 (z1.trans z2) R2 h7⟩
        rw [kD_V ry, ← h6]
        exact L2.DGet.k h4
    · cases h3
theorem so_din1 {neg : Bool} (kf : KV f) {σ : L2.St} {H : Hp} {Q : VK} (w : tE X.K (sDin neg f g) σ H Q) : tD X.K (sD f) σ H fun y H1 => tD X.K (sD g) σ H1 fun x H2 => ∃ a o, x = .ref a ∧ L2.DGet H2 a y o ∧ Q (.bl (if neg then !o.isSome else o.isSome)) H2 := by
  obtain ⟨b, m, e, S, r, S', hb, R, RE, he, q⟩ := w
  obtain ⟨p1, h1, he⟩ := bind_ok he
  obtain ⟨p2, h2, he⟩ := bind_ok he
  obtain ⟨w, h3, he⟩ := bind_ok he
  cases he
  have k1 := kf.sD b e S p1.1 p1.2 hb h1
  refine ⟨b, m, e, S, p1.1, p1.2, hb, R, RE, h1, fun x H1 m1 z1 R1 rx => ⟨b, m1, e, p1.2, p2.1, p2.2, Nat.le_trans hb k1.len, R1, RE.mono z1, h2, fun y H2 m2 z2 R2 ry => ?_⟩⟩
  have h3 := ofO_ok h3
  split at h3
  · rename_i hk
    obtain ⟨j, ej⟩ := isK_kD hk
    rw [ej] at rx h3
    cases hd : dctO p2.1 p2.2 with
    | none => rw [hd] at h3; cases h3
    | some kvs =>
      rw [hd] at h3
      obtain ⟨l, ad, ks, _, rfl, _, _, h4, h5⟩ := dct_at R2 ry hd
      have h6 : (getK kvs (kD j)).isSome = w := by simpa using h3
      rw [h5.isSome] at h6
      refine ⟨ad, L2.valV ks j, rfl, ?_, q _ H2 m2 (z1.trans z2) R2 (by rw [h6]; rfl)⟩
      rw [kD_V rx]
      exact L2.DGet.k h4
  · cases h3
theorem so_din (hu : X.A.units + 1 < cLine) (neg : Bool) (kf : KV f) (ha : PE X a (tE X.K f)) (hb : PE X b (tE X.K g)) (hm : behindInMarks (if neg then .NotIn else .In) b = false) : PE X (.Compare a [if neg then .NotIn else .In] [b] pos) (tE X.K (sDin neg f g)) := by
  cases neg with
  | true => exact PE.imp (L2.pe_cmp (L2.pc_dnotin hu (so_D ha) (so_D hb)) hm) fun σ H Q w => so_din1 kf w
  | false => exact PE.imp (L2.pe_cmp (L2.pc_din hu (so_D ha) (so_D hb)) hm) fun σ H Q w => so_din1 kf w
theorem so_dinT (hu : X.A.units + 1 < cLine) (neg : Bool) (kf : KV f) (ha : PE X a (tE X.K f)) (hb : PE X b (tE X.K g)) (hm : behindInMarks (if neg then .NotIn else .In) b = false) : PT X (.Compare a [if neg then .NotIn else .In] [b] pos) (tT X.K (sT (sDin neg f g))) := by
  have key : ∀ {σ : L2.St} {H : Hp} {Q : Bool → Hp → Prop}, tT X.K (sT (sDin neg f g)) σ H Q → tE X.K (sDin neg f g) σ H fun v H' => ∃ k, v = .bl k ∧ Q k H' := fun {σ H Q} ⟨b, m, e, S, r, S', hb, R, RE, he, q⟩ => by
    obtain ⟨p0, h0, he⟩ := bind_ok he
    obtain ⟨k, hk, he⟩ := bind_ok he
    have hp : ∃ w, p0.1 = .d (.bl w) := by
      obtain ⟨p1, h1, h0⟩ := bind_ok h0
      obtain ⟨p2, h2, h0⟩ := bind_ok h0
      obtain ⟨w, h3, h0⟩ := bind_ok h0
      cases h0
      exact ⟨_, rfl⟩
    obtain ⟨w, hw⟩ := hp
    have e : w = k := by
      have := ofO_ok hk
      rw [hw] at this
      simpa using this
    subst e
    have e1 : (w, p0.2) = (r, S') := by injection he
    injection e1 with e1 e2
    subst e1
    subst e2
    exact ⟨b, m, e, S, p0.1, p0.2, hb, R, RE, h0, fun v H' m' z R' rv => by
      rw [hw] at rv
      exact ⟨w, rv, q H' m' z R'⟩⟩
  cases neg with
  | true => exact PT.imp (L2.pt_cmp (L2.pc_dnotin hu (so_D ha) (so_D hb)) hm) fun σ H Q w => so_din1 kf (key w)
  | false => exact PT.imp (L2.pt_cmp (L2.pc_din hu (so_D ha) (so_D hb)) hm) fun σ H Q w => so_din1 kf (key w)
def rDlen (K : PySem.W.Frag) : List V → Hp → VK → Prop := fun xs H Q => ∃ a ks, xs = [.ref a] ∧ H a = some (.dK ks) ∧ Q (.int ks.length) H
theorem call_dlen : CallR X (.builtin "len") (rDlen X.K) := by
  intro pins s σ H xs us Q I r ⟨a, ks, ex, ha, q⟩
  subst ex
  cases r with
  | cons h t =>
    cases t
    obtain rfl := (show _ = Value.ref a from h)
    exact L2.d_len I (.inl ha) fun t s' I' => ⟨.int ks.length, H, I', ⟨t, rfl⟩, q⟩
theorem so_dlen {p : Pos} (hn : noStar a = true) (hg : Gl X "len") (hm : X.mg "len" = none) (ha : PE X a (tE X.K f)) : PE X (.Call (.Name "len" p) [a] [] pos) (tE X.K (sDlen f)) := by
  have hA : PA X [a] (L2.tCons (tD X.K (sD f)) L2.tNil) := L2.pa_cons (so_D ha) L2.pa_nil (star1 hn [] X.env)
  refine PE.imp (L2.pe_callB call_dlen hg hm boot_len hA (by decide) (by decide) (star1 hn [] X.env) rfl) fun σ H Q ⟨b, m, e, S, r, S', hb, R, RE, he, q⟩ => ?_
  obtain ⟨p1, h1, he⟩ := bind_ok he
  obtain ⟨kvs, h2, he⟩ := bind_ok he
  cases he
  refine ⟨b, m, e, S, p1.1, p1.2, hb, R, RE, h1, fun v H' m' z R' rv => ?_⟩
  obtain ⟨l, ad, ks, _, rfl, _, _, h4, h5⟩ := dct_at R' rv (ofO_ok h2)
  exact ⟨ad, ks, rfl, h4, q _ H' m' z R' (by rw [h5.len]; rfl)⟩
theorem few2 {e x : Expr} (h : noStar e = true) (h2 : noStar x = true) (cpos : Pos) (env : PySem.Env) : ((backTo cpos (starEach [e, x] env)).all (fun x => !x.1) && (backToKw cpos (keywordEach [] env)).all (fun x => x.1.isSome)
    && decide (([e, x] : List Expr).length + ([] : List Keyword).length + (if ([] : List Keyword).isEmpty then 0 else 1) < 30)) = true := by
  rw [star1 h [x] env, star1 h2 [] env]; rfl
theorem trees2 {e x : Expr} (h : noStar e = true) (h2 : noStar x = true) (cpos : Pos) (env : PySem.Env) : backTo cpos (starEach [e, x] env) = [(false, eval e env), (false, eval x env)] := by
  rw [star1 h [x] env, star1 h2 [] env]; rfl
theorem so_dgt {apos cpos : Pos} (hu : X.A.units + 1 < cLine) (ho : plainO a = true) (h1 : noStar b = true) (h2 : noStar c = true) (hl : (apos.endLine == cpos.line) = true) (kf : KV f) (kg : KV g) (ha : PE X a (tE X.K f)) (hb : PE X b (tE X.K g)) (hc : PE X c (tE X.K h)) :
    PE X (.Call (.Attribute a "get" apos) [b, c] [] cpos) (tE X.K (sDgt f g h)) :=
  PE.imp (L2.pe_dget2 hu (so_D ha) (so_D hb) (so_D hc) ⟨attr_plain ho _ _ _, few2 h1 h2 _ _, hl, trees2 h1 h2 _ _⟩) fun σ H Q ⟨b, m, e, S, r, S', hb, R, RE, he, q⟩ => by
    obtain ⟨p1, h1, he⟩ := bind_ok he
    obtain ⟨kvs0, h0, he⟩ := bind_ok he
    obtain ⟨p2, h2, he⟩ := bind_ok he
    obtain ⟨p3, h3, he⟩ := bind_ok he
    obtain ⟨w, h4, he⟩ := bind_ok he
    cases he
    have k1 := kf.sD b e S p1.1 p1.2 hb h1
    have k2 := k1.trans (kg.sD b e p1.2 p2.1 p2.2 (Nat.le_trans hb k1.len) h2)
    refine ⟨b, m, e, S, p1.1, p1.2, hb, R, RE, h1, fun x H1 m1 z1 R1 rx => ?_⟩
    obtain ⟨l, ad, ks0, el, rfl, hml, _, h5, _⟩ := dct_at R1 rx (ofO_ok h0)
    refine ⟨ad, rfl, .inl ⟨ks0, .inl h5⟩, b, m1, e, p1.2, p2.1, p2.2, Nat.le_trans hb k1.len, R1, RE.mono z1, h2, fun y H2 m2 z2 R2 ry => ⟨b, m2, e, p2.2, p3.1, p3.2, Nat.le_trans hb k2.len, R2, RE.mono (z1.trans z2), h3, fun zv H3 m3 z3 R3 rz => ?_⟩⟩
    have h4 := ofO_ok h4
    split at h4
    · rename_i hk
      obtain ⟨j, ej⟩ := isK_kD hk
      rw [ej] at ry h4
      cases hd : dctO p1.1 p3.2 with
      | none => rw [hd] at h4; cases h4
      | some kvs =>
        rw [hd] at h4
        have h4 : (getK kvs (kD j)).getD p3.1 = w := by simpa using h4
        obtain ⟨l2, ad2, ks, _, e2, _, _, h6, h7⟩ := dct_at R3 ((rx.mono z2).mono z3) hd
        cases e2
        refine ⟨L2.valV ks j, ?_, ?_⟩
        · rw [kD_V ry]
          exact L2.DGet.k h6
        · obtain ⟨g1, g2⟩ := h7.get (j := j)
          cases e5 : getK kvs (kD j) with
          | none =>
            rw [e5] at h4
            rw [g2 e5]
            have h4 : p3.1 = w := h4
            rw [← h4] at q
            exact q _ H3 m3 (z1.trans (z2.trans z3)) R3 rz
          | some x =>
            rw [e5] at h4
            have h4 : x = w := h4
            obtain ⟨v, e6, r6⟩ := g1 x e5
            rw [e6]
            rw [← h4] at q
            exact q _ H3 m3 (z1.trans (z2.trans z3)) R3 r6
    · cases h4
theorem so_dput {pos' : Pos} (hu : X.A.units + 1 < cLine) (kh : KV h) (kf : KV f) (ha : PE X a (tE X.K f)) (hb : PE X b (tE X.K g)) (hc : PE X c (tE X.K h)) (hs : swapsWith c (some (.Subscript a b pos')) pos.line X.env = pure false) :
    PS X (.Assign [.Subscript a b pos'] c pos) (tF X.K (cDput f g h)) :=
  PS.imp (L2.ps_dput hu (so_D ha) (so_D hb) (so_D hc) hs) fun D σ H ⟨b, m, e, S, fl, e', S', hb, R, E, he, q⟩ => by
    obtain ⟨p1, h1, he⟩ := bind_ok he
    obtain ⟨p2, h2, he⟩ := bind_ok he
    obtain ⟨p3, h3, he⟩ := bind_ok he
    obtain ⟨S2, h4, he⟩ := bind_ok he
    cases he
    have k1 := kh.sD b e S p1.1 p1.2 hb h1
    have k2 := k1.trans (kf.sD b e p1.2 p2.1 p2.2 (Nat.le_trans hb k1.len) h2)
    refine ⟨b, m, e, S, p1.1, p1.2, hb, R, E, h1, fun v H1 m1 z1 R1 rv => ⟨b, m1, e, p1.2, p2.1, p2.2, Nat.le_trans hb k1.len, R1, E.mono z1, h2, fun x H2 m2 z2 R2 rx => ⟨b, m2, e, p2.2, p3.1, p3.2, Nat.le_trans hb k2.len, R2, E.mono (z1.trans z2), h3, fun y H3 m3 z3 R3 ry => ?_⟩⟩⟩
    unfold setK at h4
    split at h4
    · rename_i l el
      split at h4
      · rename_i t kvs hx
        split at h4
        · rename_i hcnd
          cases h4
          obtain ⟨hk, hlen, _⟩ := hcnd
          obtain ⟨j, ej⟩ := isK_kD hk
          rw [ej] at ry
          rw [el] at rx
          have hd : dctO (.loc l) p3.2 = some kvs := by
            show (match p3.2[l]? with
              | some (.dct _ kvs) => some kvs
              | _ => none) = _
            rw [hx]
          obtain ⟨l2, ad, ks, e1, rfl, hml, _, h6, h7⟩ := dct_at R3 (rx.mono z3) hd
          cases e1
          have rv3 := (rv.mono z2).mono z3
          have h8 := h7.put (j := j) rv3
          rw [← ej] at h8
          obtain ⟨z4, R4⟩ := R3.writeD hml hx h6 h8.1 h8.2
          refine ⟨ad, _, rfl, ?_, q σ _ m3 (z1.trans (z2.trans (z3.trans z4))) R4 (E.mono (z1.trans (z2.trans (z3.trans z4))))⟩
          rw [kD_V ry]
          exact L2.DPut.k h6 (by rw [← h7.len]; exact hlen)
        · cases h4
      · cases h4
    · cases h4
end
end Pv
set_option linter.all false
set_option autoImplicit false
set_option maxRecDepth 100000
/-! What the evaluator tells, the machine does: insert, a op b op c, {k: x for ..}. -/
namespace Pv
open PySem PySem.Spec PyProof.Rows
open L2 (V Hp HO upd upd_same upd_ne VK XK TE TT TA TS TG TGs TI It Cx PE PT PW PA PS PSs PG PGs PI Inv RelV SqL SqT OpR CallR Gl Ends)
theorem meth2_ins {b : Nat} {o x y : D} {S S' : Sto} {w : Vl} (h : meth2 b .insert o x y S = .ok (w, S')) : ∃ l xs i, o = .loc l ∧ x = .int i ∧ S[l]? = some (.lst xs) ∧ 0 ≤ i ∧ i < 4611686018427387904 ∧ xs.length < line ∧ wr b l y ∧ w = .d .non ∧ S' = S.set l (.lst (xs.take i.toNat ++ [y] ++ xs.drop i.toNat)) := by
  cases o with
  | loc l => cases x with
    | int i =>
      unfold meth2 at h
      simp only at h
      split at h
      · rename_i xs hx
        split at h
        · rename_i hc
          have e1 : (Vl.d .non, S.set l (.lst (xs.take i.toNat ++ [y] ++ xs.drop i.toNat))) = (w, S') := by injection h
          injection e1 with e1 e2
          exact ⟨l, xs, i, rfl, rfl, hx, hc.1.1, hc.1.2, hc.2.1, hc.2.2, e1.symm, e2.symm⟩
        · cases h
      · cases h
    | _ => cases h
  | _ => cases h
theorem meth2_kp {b : Nat} {m : M2} {o x y : D} {S S' : Sto} {w : Vl} (h : meth2 b m o x y S = .ok (w, S')) : Kp b S S' := by
  cases m with
  | insert =>
    obtain ⟨l, xs, i, rfl, rfl, hx, _, _, _, hw, _, rfl⟩ := meth2_ins h
    refine Kp.set fun n hn w hl => ?_
    have h0 : ubL n xs = true := w _ _ hl hx
    refine ubL_mem.mpr fun z hz => ?_
    rcases List.mem_append.mp hz with hz | hz
    · rcases List.mem_append.mp hz with hz | hz
      · exact (ubL_mem.mp h0) z (List.mem_of_mem_take hz)
      · rw [List.mem_singleton.mp hz]
        exact wr_ub hw hn hl
    · exact (ubL_mem.mp h0) z (List.mem_of_mem_drop hz)
  | _ =>
    unfold meth2 at h
    cases o <;> cases x <;> cases h
theorem KV.m2 {m : M2} {f g h : DV} (kf : KV f) (kg : KV g) (kh : KV h) : KV (sM2 m f g h) := fun b e S r S' hb he => by
  obtain ⟨p1, h1, he⟩ := bind_ok he
  obtain ⟨_, _, he⟩ := bind_ok he
  obtain ⟨p2, h2, he⟩ := bind_ok he
  obtain ⟨p3, h3, he⟩ := bind_ok he
  have k1 := kf.sD b e S p1.1 p1.2 hb h1
  have k2 := k1.trans (kg.sD b e p1.2 p2.1 p2.2 (Nat.le_trans hb k1.len) h2)
  have k3 := k2.trans (kh.sD b e p2.2 p3.1 p3.2 (Nat.le_trans hb k2.len) h3)
  exact k3.trans (meth2_kp he)
theorem KV.chn {o p : Co} {f g h : DV} (kf : KV f) (kg : KV g) (kh : KV h) : KV (sChn o p f g h) := fun b e S r S' hb he => by
  obtain ⟨p1, h1, he⟩ := bind_ok he
  obtain ⟨p2, h2, he⟩ := bind_ok he
  obtain ⟨k, h3, he⟩ := bind_ok he
  have k1 := kf.sD b e S p1.1 p1.2 hb h1
  have k2 := k1.trans (kg.sD b e p1.2 p2.1 p2.2 (Nat.le_trans hb k1.len) h2)
  cases k with
  | true =>
    obtain ⟨p3, h4, he⟩ := bind_ok he
    obtain ⟨l, h5, he⟩ := bind_ok he
    cases he
    exact k2.trans (kh.sD b e p2.2 p3.1 p3.2 (Nat.le_trans hb k2.len) h4)
  | false => cases he; exact k2
theorem setK_is {b l : Nat} {k x : D} {S S' : Sto} (h : setK b (.loc l) k x S = .ok S') : ∃ t kvs, S[l]? = some (.dct t kvs) ∧ isK k = true ∧ kvs.length < line ∧ S.set l (.dct t (putK kvs k x)) = S' := by
  unfold setK at h
  dsimp only at h
  split at h
  · rename_i t kvs hx
    split at h
    · rename_i hc
      exact ⟨t, kvs, hx, hc.1, hc.2.1, by injection h⟩
    · cases h
  · cases h
theorem dcL_cons {c : Chk} {f : D → Sto → Rs Sto} {x : D} {xs : List D} {S S' : Sto} (h : dcL c f (x :: xs) S = .ok S') : c.ok S ∧ ∃ S1, f x S = .ok S1 ∧ dcL c f xs S1 = .ok S' := by
  unfold dcL at h
  split at h
  · rename_i hc
    obtain ⟨p, h1, h⟩ := bind_ok h
    exact ⟨hc, p, h1, h⟩
  · cases h
theorem dcL_nil {c : Chk} {f : D → Sto → Rs Sto} {S S' : Sto} (h : dcL c f [] S = .ok S') : c.ok S ∧ S' = S := by
  unfold dcL at h
  split at h
  · rename_i hc
    injection h with h
    exact ⟨hc, h.symm⟩
  · cases h
theorem dcL_kp {b : Nat} {c : Chk} {f : D → Sto → Rs Sto} (kf : ∀ x S S', b ≤ S.length → f x S = .ok S' → Kp b S S') : ∀ (xs : List D) (S S' : Sto), b ≤ S.length → dcL c f xs S = .ok S' → Kp b S S'
  | [], S, S', hb, h => by
    obtain ⟨_, rfl⟩ := dcL_nil h
    exact Kp.refl b _
  | x :: xs, S, S', hb, h => by
    obtain ⟨_, S1, h1, h2⟩ := dcL_cons h
    have k1 := kf x S S1 hb h1
    exact k1.trans (dcL_kp kf xs S1 S' (Nat.le_trans hb k1.len) h2)
theorem turnD_kp {k x : DV} {t : DG} {u : DT} {e0 : Env} {b l : Nat} (kk : KV k) (kx : KV x) (kt : KG t) (ku : KV u) (d : D) (S S' : Sto) (hb : b ≤ S.length) (h : turnD k x t u e0 b l d S = .ok S') : Kp b S S' := by
  obtain ⟨p1, h1, h⟩ := bind_ok h
  obtain ⟨p2, h2, h⟩ := bind_ok h
  have k1 := (kt b d e0 S p1.1 p1.2 hb h1).1
  have k2 := k1.trans (ku b p1.1 p1.2 p2.1 p2.2 (Nat.le_trans hb k1.len) h2)
  split at h
  · obtain ⟨p3, h3, h⟩ := bind_ok h
    obtain ⟨p4, h4, h⟩ := bind_ok h
    have k3 := k2.trans (kk.sD b p1.1 p2.2 p3.1 p3.2 (Nat.le_trans hb k2.len) h3)
    have k4 := k3.trans (kx.sD b p1.1 p3.2 p4.1 p4.2 (Nat.le_trans hb k3.len) h4)
    exact k4.trans (setK_kp h)
  · cases h; exact k2
theorem Kp.pushD {b : Nat} {S : Sto} (hb : b ≤ S.length) : Kp b S (S ++ [.dct false []]) := by
  refine ⟨by simp, fun n hn w l o hl ho => ?_⟩
  have hlt : l < S.length := by omega
  rw [List.getElem?_append_left hlt] at ho
  exact w l o hl ho
theorem KV.dcmp {k x : DV} {t : DG} {it : DI} {u : DT} {vs : List Nat} (kk : KV k) (kx : KV x) (kt : KG t) (ki : KV it) (ku : KV u) : KV (sDcmp k x t it u vs) := fun b e S r S' hb he => by
  obtain ⟨p1, h1, he⟩ := bind_ok he
  obtain ⟨S2, h2, he⟩ := bind_ok he
  cases he
  have k1 := ki b e S p1.1 p1.2 hb h1
  have hb1 := Nat.le_trans hb k1.len
  exact (k1.trans (Kp.pushD hb1)).trans (dcL_kp (fun d S S' hb h => turnD_kp kk kx kt ku d S S' hb h) _ _ _ (by simp; omega) h2)
section
variable {X : Cx} {a b c tgt iter kx vx : Expr} {f g h : DV} {pos : Pos}
theorem so_m2 {apos cpos : Pos} (ho : plainO a = true) (h1 : noStar b = true) (h2 : noStar c = true) (hl : (apos.endLine == cpos.line) = true) (kf : KV f) (kg : KV g) (ha : PE X a (tE X.K f)) (hb : PE X b (tE X.K g)) (hc : PE X c (tE X.K h)) :
    PE X (.Call (.Attribute a "insert" apos) [b, c] [] cpos) (tE X.K (sM2 .insert f g h)) := by
  have hA : PA X [b, c] (L2.tCons (tD X.K (sD g)) (L2.tCons (tD X.K (sD h)) L2.tNil)) := L2.pa_cons (so_D hb) (L2.pa_cons (so_D hc) L2.pa_nil (star1 h2 [] X.env)) (star1 h1 [c] X.env)
  refine PE.imp (L2.pe_bm PySem.F.plainAttrs_list PySem.F.slot_list_insert PySem.F.type_list_insert L2.mt_insert (so_D ha) hA (attr_plain ho _ _ _) (few2 h1 h2 _ _) hl (star1 h1 [c] X.env) (by rw [star1 h2 [] X.env]; rfl)) fun σ H Q ⟨b, m0, e, S, w, S', hb, R, RE, he, q⟩ => ?_
  obtain ⟨p1, h1, he⟩ := bind_ok he
  obtain ⟨u, h0, he⟩ := bind_ok he
  obtain ⟨p2, h2, he⟩ := bind_ok he
  obtain ⟨p3, h3, he⟩ := bind_ok he
  have k1 := kf.sD b e S p1.1 p1.2 hb h1
  have k2 := k1.trans (kg.sD b e p1.2 p2.1 p2.2 (Nat.le_trans hb k1.len) h2)
  refine ⟨b, m0, e, S, p1.1, p1.2, hb, R, RE, h1, fun x H1 m1 z1 R1 rx => ⟨recv_at R1 rx (ofO_ok h0), b, m1, e, p1.2, p2.1, p2.2, Nat.le_trans hb k1.len, R1, RE.mono z1, h2, fun y H2 m2 z2 R2 ry => ⟨b, m2, e, p2.2, p3.1, p3.2, Nat.le_trans hb k2.len, R2, RE.mono (z1.trans z2), h3, fun v H3 m3 z3 R3 rv => ?_⟩⟩⟩
  obtain ⟨l, xs, i, hl0, hi0, hx, i0, i1, hc, _, rfl, rfl⟩ := meth2_ins he
  rw [hl0] at rx
  rw [hi0] at ry
  cases (show y = .int i from ry)
  obtain ⟨p, hp, rfl⟩ := ((rx.mono z2).mono z3 : ∃ a, m3[l]? = some a ∧ x = .ref a)
  obtain ⟨vs, e1, e2⟩ := R3.lst hp hx
  have e3 : RDs X.K H3 m3 (xs.take i.toNat ++ [p3.1] ++ xs.drop i.toNat) (vs.take i.toNat ++ [v] ++ vs.drop i.toNat) := ((e2.take i.toNat).append (show RDs X.K H3 m3 [p3.1] [v] from ⟨v, [], rfl, rv, rfl⟩)).append (e2.drop i.toNat)
  obtain ⟨z, R'⟩ := R3.write hp hx e1 e3
  exact ⟨p, vs, i, v, rfl, rfl, e1, by rw [← e2.length]; exact hc, i0, by omega, q _ _ m3 (z1.trans (z2.trans (z3.trans z))) R' rfl⟩
theorem chn_core {o p : Co} (kf : KV f) (kg : KV g) {σ : L2.St} {H : Hp} {Q : VK} (w : tE X.K (sChn o p f g h) σ H Q) : L2.tChain (rC X.K o) (rC X.K p) (tD X.K (sD f)) (tD X.K (sD g)) (tD X.K (sD h)) σ H Q := by
  obtain ⟨b, m, e, S, r, S', hb, R, RE, he, q⟩ := w
  obtain ⟨p1, h1, he⟩ := bind_ok he
  obtain ⟨p2, h2, he⟩ := bind_ok he
  obtain ⟨k, h3, he⟩ := bind_ok he
  have k1 := kf.sD b e S p1.1 p1.2 hb h1
  have k2 := k1.trans (kg.sD b e p1.2 p2.1 p2.2 (Nat.le_trans hb k1.len) h2)
  refine ⟨b, m, e, S, p1.1, p1.2, hb, R, RE, h1, fun x H1 m1 z1 R1 rx => ⟨b, m1, e, p1.2, p2.1, p2.2, Nat.le_trans hb k1.len, R1, RE.mono z1, h2, fun y H2 m2 z2 R2 ry => ⟨H, m2, p2.2, .d p1.1, .d p2.1, k, R2, rx.mono z2, ry, ofO_ok h3, k, rfl, ?_⟩⟩⟩
  cases k with
  | true =>
    obtain ⟨p3, h4, he⟩ := bind_ok he
    obtain ⟨l, h5, he⟩ := bind_ok he
    cases he
    refine L2.iteT ⟨b, m2, e, p2.2, p3.1, p3.2, Nat.le_trans hb k2.len, R2, RE.mono (z1.trans z2), h4, fun v H4 m4 z4 R4 rv => ⟨H, m4, p3.2, .d p2.1, .d p3.1, l, R4, ry.mono z4, rv, ofO_ok h5, q _ H4 m4 (z1.trans (z2.trans z4)) R4 rfl⟩⟩
  | false =>
    cases he
    exact L2.iteF (q _ H2 m2 (z1.trans z2) R2 rfl)
theorem so_chn (hu : X.A.units + 65 < cLine) (o p : Co) (kf : KV f) (kg : KV g) (ha : PE X a (tE X.K f)) (hb : PE X b (tE X.K g)) (hc : PE X c (tE X.K h)) (hm : lastMarks [coOf o, coOf p] [b, c] = false) : PE X (.Compare a [coOf o, coOf p] [b, c] pos) (tE X.K (sChn o p f g h)) :=
  PE.imp (L2.pe_chain (opC_ok hu o) (opC_ok hu p) (so_D ha) (so_D hb) (so_D hc) hm) fun σ H Q w => chn_core kf kg w
theorem so_chnT (hu : X.A.units + 65 < cLine) (o p : Co) (kf : KV f) (kg : KV g) (ha : PE X a (tE X.K f)) (hb : PE X b (tE X.K g)) (hc : PE X c (tE X.K h)) (hm : lastMarks [coOf o, coOf p] [b, c] = false) : PT X (.Compare a [coOf o, coOf p] [b, c] pos) (tT X.K (sT (sChn o p f g h))) := by
  have key : ∀ {σ : L2.St} {H : Hp} {Q : Bool → Hp → Prop}, tT X.K (sT (sChn o p f g h)) σ H Q → tE X.K (sChn o p f g h) σ H fun v H' => ∃ k, v = .bl k ∧ Q k H' := fun {σ H Q} ⟨b, m, e, S, r, S', hb, R, RE, he, q⟩ => by
    obtain ⟨p0, h0, he⟩ := bind_ok he
    obtain ⟨k, hk, he⟩ := bind_ok he
    have hp : ∃ w, p0.1 = .d (.bl w) := by
      obtain ⟨p1, h1, h0⟩ := bind_ok h0
      obtain ⟨p2, h2, h0⟩ := bind_ok h0
      obtain ⟨w, h3, h0⟩ := bind_ok h0
      cases w with
      | true =>
        obtain ⟨p3, h4, h0⟩ := bind_ok h0
        obtain ⟨l, h5, h0⟩ := bind_ok h0
        cases h0
        exact ⟨_, rfl⟩
      | false => cases h0; exact ⟨_, rfl⟩
    obtain ⟨w, hw⟩ := hp
    have e : w = k := by
      have := ofO_ok hk
      rw [hw] at this
      simpa using this
    subst e
    have e1 : (w, p0.2) = (r, S') := by injection he
    injection e1 with e1 e2
    subst e1
    subst e2
    exact ⟨b, m, e, S, p0.1, p0.2, hb, R, RE, h0, fun v H' m' z R' rv => by
      rw [hw] at rv
      exact ⟨w, rv, q H' m' z R'⟩⟩
  exact PT.imp (L2.pt_chain (opC_ok hu o) (opC_ok hu p) (so_D ha) (so_D hb) (so_D hc) hm) fun σ H Q w => chn_core kf kg (key w)
theorem so_dc {scope : Scope} {own : List (Str × Nat)} {k x : DV} {t : DG} {it : DI} {u : DT} {ts : List Nat} (hc : X.calm = true) (hN : X.N.Nodup) (ok : L2.BlkOk X.N X.env.scope scope own) (hts : ∀ i ∈ ts, i ∈ own.map (·.2))
    (kk : KV k) (kx : KV x) (kt : KG t) (ki : KV it) (ku : KV u) : ∀ σ H Q, tE X.K (sDcmp k x t it u (own.map (·.2))) σ H Q → L2.tDc (tI X.K it) (tg X.K ts t) (tT X.K u) (tD X.K (sD k)) (tD X.K (sD x)) (own.map (·.2)) σ H Q := fun σ H Q ⟨b, m, e, S, r, S', hb, R, REe, hev, q⟩ => by
  obtain ⟨p1, h1, hev⟩ := bind_ok hev
  obtain ⟨S2, h2, hev⟩ := bind_ok hev
  have e1 : (Vl.d (.loc p1.2.length), S2) = (r, S') := by injection hev
  injection e1 with e1 e2
  subst e1
  subst e2
  have k1 := ki b e S p1.1 p1.2 hb h1
  generalize hF : turnD k x t u (wipeE e (own.map (·.2))) b p1.2.length = F at h2
  have kF : ∀ d S S', b ≤ S.length → F d S = .ok S' → Kp b S S' := fun d S S' hb h => by rw [← hF] at h; exact turnD_kp kk kx kt ku d S S' hb h
  refine ⟨b, m, e, S, p1.1.1, p1.1.2, p1.2, hb, R, REe, h1, fun J H1 m1 z1 R1 wk hl L hL => ?_⟩
  generalize hxs : p1.1.2 = xs at h2 wk hl
  generalize hck : p1.1.1 = ck at h2 wk
  have nL := R1.new hL
  obtain ⟨zL, RL⟩ := R1.laid (o := .dK []) hL
  have RP := RL.pushD upd_same nL
  have zP := zL.push hL
  have hmL : (m1 ++ [L])[p1.2.length]? = some L := by rw [← R1.len]; simp
  refine ⟨fun i n Hc => n = xs.length - i ∧ i ≤ xs.length ∧ ∃ (mc : List Addr) (Sc : Sto), Le (upd H1 L (.dK [])) (m1 ++ [L]) Hc mc ∧ Rl X.K mc Hc Sc ∧ b ≤ Sc.length ∧ dcL ck F (xs.drop i) Sc = .ok S2, ⟨xs.length, ?_⟩, ?_⟩
  · exact ⟨rfl, Nat.zero_le _, m1 ++ [L], p1.2 ++ [.dct false []], Le.refl _ _, RP, by have := k1.len; simp; omega, by rw [List.drop_zero]; exact h2⟩
  · rintro i n Hc ⟨rfl, hi, mc, Sc, zc, Rc, hbc, hcl⟩
    have zc1 : Le H1 m1 Hc mc := zP.trans zc
    by_cases hlt : i < xs.length
    · rw [List.drop_eq_getElem_cons hlt] at hcl
      obtain ⟨hck, S3, hf, hr⟩ := dcL_cons hcl
      obtain ⟨g1, _, g3⟩ := wk Hc mc Sc zc1 Rc hck
      refine .inr ⟨g1 i hlt, _, fun H' h => h, fun x' H' hy => ?_⟩
      obtain ⟨zy, Ry, rx⟩ := g3 i xs[i] x' H' (List.getElem?_eq_getElem hlt) hy
      rw [← hF] at hf
      obtain ⟨pt, ht1, hf⟩ := bind_ok hf
      obtain ⟨pu, hu1, hf⟩ := bind_ok hf
      have kt1 := (kt b _ _ Sc pt.1 pt.2 hbc ht1).1
      have ku1 := kt1.trans (ku b pt.1 pt.2 pu.1 pu.2 (Nat.le_trans hbc kt1.len) hu1)
      refine ⟨b, mc, _, Sc, xs[i], pt.1, pt.2, hbc, Ry, ((Pv.RE.mono (z1.trans (zc1.trans zy)) REe).wipe _), rx, ht1, fun σ2 H2 m2 z2 R2 RE2 ws => ⟨(ws _ hts).trans (wipe_wipe σ _), b, m2, pt.1, pt.2, pu.1, pu.2, Nat.le_trans hbc kt1.len, R2, RE2, hu1, fun H3 m3 z3 R3 => ?_⟩⟩
      have zz : Le (upd H1 L (.dK [])) (m1 ++ [L]) H3 m3 := zc.trans (zy.trans (z2.trans z3))
      cases ek : pu.1 with
      | true =>
        rw [ek] at hf
        obtain ⟨pk, hk1, hf⟩ := bind_ok hf
        obtain ⟨pv, hv1, hf⟩ := bind_ok hf
        have kk1 := ku1.trans (kk.sD b pt.1 pu.2 pk.1 pk.2 (Nat.le_trans hbc ku1.len) hk1)
        have kv1 := kk1.trans (kx.sD b pt.1 pk.2 pv.1 pv.2 (Nat.le_trans hbc kk1.len) hv1)
        refine L2.iteT ⟨b, m3, pt.1, pu.2, pk.1, pk.2, Nat.le_trans hbc ku1.len, R3, Pv.RE.mono z3 RE2, hk1, fun y H4 m4 z4 R4 ry => ⟨b, m4, pt.1, pk.2, pv.1, pv.2, Nat.le_trans hbc kk1.len, R4, Pv.RE.mono (z3.trans z4) RE2, hv1, fun zv H5 m5 z5 R5 rv => ?_⟩⟩
        have ry5 := ry.mono z5
        obtain ⟨t, kvs, hx, hk, hlen, e3⟩ := setK_is hf
        obtain ⟨j, ej⟩ := isK_kD hk
        rw [ej] at ry5
        have hd : dctO (.loc p1.2.length) pv.2 = some kvs := by
          show (match pv.2[p1.2.length]? with
            | some (.dct _ kvs) => some kvs
            | _ => none) = _
          rw [hx]
        have hm5 : m5[p1.2.length]? = some L := pre_get ((zz.trans (z4.trans z5)).pre) hmL
        obtain ⟨l2, ad, ks, e1, e4, hml, _, h6, h7⟩ := dct_at R5 (show RD X.K H5 m5 (.loc p1.2.length) (.ref L) from ⟨L, hm5, rfl⟩) hd
        cases e1
        cases e4
        have h8 := h7.put (j := j) rv
        rw [← ej] at h8
        obtain ⟨z6, R6⟩ := R5.writeD hml hx h6 h8.1 h8.2
        rw [e3] at R6
        exact ⟨ks, j, kD_V ry5, h6, by rw [← h7.len]; exact hlen, xs.length - (i + 1), by omega, rfl, by omega, m5, S3, zz.trans (z4.trans (z5.trans z6)), R6, by rw [← e3]; have := kv1.len; simp; omega, hr⟩
      | false =>
        rw [ek] at hf
        have ep : pu.2 = S3 := by injection hf
        subst ep
        exact L2.iteF ⟨xs.length - (i + 1), by omega, rfl, by omega, m3, pu.2, zz, R3, Nat.le_trans hbc ku1.len, hr⟩
    · have hie : i = xs.length := by omega
      subst hie
      rw [List.drop_length] at hcl
      obtain ⟨hck, er⟩ := dcL_nil hcl
      obtain ⟨_, g2, _⟩ := wk Hc mc Sc zc1 Rc hck
      refine .inl ⟨g2, q _ Hc mc (z1.trans zc1) (by rw [er]; exact Rc) ⟨L, pre_get zc.pre hmL, rfl⟩⟩
end
end Pv
namespace L2
open PySem PySem.Spec PyProof.Rows
section
variable {X : Cx}
/-- name = {..} on one line, the name a local -/
theorem ps_setDc {i : Nat} {y : Str} {py : Pos} {kx vx tg iter : Expr} {ifs : List Expr} {scope : Scope} {own : List (Str × Nat)} {pos spos : Pos} {wi : TI} {g : TG} {tt : TT} {tk tv : TE} (hc : X.calm = true) (hN : X.N.Nodup) (hy : X.N[i]? = some y) (hyl : X.env.scope.names.lookup y = some .local)
    (hsw : swapsWith (.DictComp kx vx [⟨tg, iter, ifs, 0⟩] scope pos) (some (.Name y py)) spos.line X.env = pure true) (hi : PI X tg iter wi) (ok : BlkOk X.N X.env.scope scope own)
    (hg : ∀ (s : Shared) (H : Hp) (C : Addr) (cl : List (Str × Addr)) (fp : List Addr), PG (X.blk s H scope (compEnvC scope cl C X.env) fp) tg g) (ht : ∀ (s : Shared) (H : Hp) (C : Addr) (cl : List (Str × Addr)) (fp : List Addr), PTs (X.blk s H scope (compEnvC scope cl C X.env) fp) ifs tt)
    (hk : ∀ (s : Shared) (H : Hp) (C : Addr) (cl : List (Str × Addr)) (fp : List Addr), PE (X.blk s H scope (compEnvC scope cl C X.env) fp) kx tk)
    (he : ∀ (s : Shared) (H : Hp) (C : Addr) (cl : List (Str × Addr)) (fp : List Addr), PE (X.blk s H scope (compEnvC scope cl C X.env) fp) vx tv) (hs : ∀ x, foldedSetIterable iter X.env x = pure x) :
    PS X (.Assign [.Name y py] (.DictComp kx vx [⟨tg, iter, ifs, 0⟩] scope pos) spos) (tAsg (tDc wi g tt tk tv (own.map (·.2))) (gName i)) := by
  constructor
  intro pn s0 σ H DD I0 hh
  rw [exec_Assign_Name_used _ _ _ _ hsw]
  apply wpAny_bind
  apply wpAny_standAt
  apply wpAny_bind
  show wpAny _ X.A (do let _ ← comprehension (.DictComp kx vx [⟨tg, iter, ifs, 0⟩] scope pos) scope X.env (firstIterPos [⟨tg, iter, ifs, 0⟩] pos) newDict false (eval iter X.env) (some (assign (.Name y py) X.env))) _ _ s0
  have h2 : tDc wi g tt tk tv (own.map (·.2)) σ H (fun x H1 => gName i x σ H1 DD.nx) := hh
  apply wpAny_bind
  refine thn (dc_core (Qf := fun _ t1 => SP X pn DD .next t1) hc hN I0 hi ok hg ht hk he hs h2 ?_) fun _ t1 z => wpAny_pure (wpAny_pure z)
  intro LL CC t1 mm HH I1 qq nn ff
  show wpAny _ _ (assign (.Name y py) X.env (.ref LL)) _ _ _
  refine wpAny_assign_Name (store_ok2 (v := V.ref LL) I1 hN hy (.inl hyl) rfl ?_ (.inr hyl))
  intro t2 I2 ⟨aa, same, aEq⟩
  obtain ⟨p0, p1, p2, p3, p4, p5⟩ := ff
  have other : CC ≠ aa := aEq.elim (fun z => by rw [z]; exact p1) fun z e => p4 y aa z e.symm
  exact ⟨mm, nn.sameBut same other, fun t3 same3 => ⟨_, HH, I2.turned (t' := t2.toks) (fun b o hb e => (same3.2 b hb).trans e) p0 p1 p3 p4 p5, qq⟩⟩
end
end L2
namespace Pv
open PySem PySem.Spec PyProof.Rows
open L2 (V Hp HO upd upd_same upd_ne VK XK TE TT TA TS TG TGs TI It Cx PE PT PW PA PS PSs PG PGs PI Inv RelV SqL SqT OpR CallR Gl Ends)
section
variable {X : Cx} {tgt iter kx vx : Expr} {pos : Pos}
theorem so_dcE {ifs : List Expr} {scope : Scope} {own : List (Str × Nat)} {k x : DV} {t : DG} {it : DI} {u : DT} {ts : List Nat} (hc : X.calm = true) (hN : X.N.Nodup) (ok : L2.BlkOk X.N X.env.scope scope own) (hts : ∀ i ∈ ts, i ∈ own.map (·.2))
    (hi : PI X tgt iter (tI X.K it)) (hg : ∀ (s : Shared) (H : Hp) (C : Addr) (cl : List (Str × Addr)) (fp : List Addr), PG (X.blk s H scope (compEnvC scope cl C X.env) fp) tgt (tg X.K ts t))
    (ht : ∀ (s : Shared) (H : Hp) (C : Addr) (cl : List (Str × Addr)) (fp : List Addr), L2.PTs (X.blk s H scope (compEnvC scope cl C X.env) fp) ifs (tT X.K u))
    (hk : ∀ (s : Shared) (H : Hp) (C : Addr) (cl : List (Str × Addr)) (fp : List Addr), PE (X.blk s H scope (compEnvC scope cl C X.env) fp) kx (tE X.K k))
    (he : ∀ (s : Shared) (H : Hp) (C : Addr) (cl : List (Str × Addr)) (fp : List Addr), PE (X.blk s H scope (compEnvC scope cl C X.env) fp) vx (tE X.K x))
    (hs : ∀ x, foldedSetIterable iter X.env x = pure x) (kk : KV k) (kx' : KV x) (kt : KG t) (ki : KV it) (ku : KV u) : PE X (.DictComp kx vx [⟨tgt, iter, ifs, 0⟩] scope pos) (tE X.K (sDcmp k x t it u (own.map (·.2)))) :=
  PE.imp (L2.pe_dc hc hN hi ok hg ht (fun s H C cl fp => so_D (hk s H C cl fp)) (fun s H C cl fp => so_D (he s H C cl fp)) hs) (so_dc hc hN ok hts kk kx' kt ki ku)
theorem so_setDc {i : Nat} {y : Str} {py : Pos} {ifs : List Expr} {scope : Scope} {own : List (Str × Nat)} {cpos : Pos} {k x : DV} {t : DG} {it : DI} {u : DT} {ts : List Nat} (hc : X.calm = true) (hN : X.N.Nodup) (hy : X.N[i]? = some y) (hyl : X.env.scope.names.lookup y = some .local)
    (hsw : swapsWith (.DictComp kx vx [⟨tgt, iter, ifs, 0⟩] scope cpos) (some (.Name y py)) pos.line X.env = pure true) (ok : L2.BlkOk X.N X.env.scope scope own) (hts : ∀ i ∈ ts, i ∈ own.map (·.2))
    (hi : PI X tgt iter (tI X.K it)) (hg : ∀ (s : Shared) (H : Hp) (C : Addr) (cl : List (Str × Addr)) (fp : List Addr), PG (X.blk s H scope (compEnvC scope cl C X.env) fp) tgt (tg X.K ts t))
    (ht : ∀ (s : Shared) (H : Hp) (C : Addr) (cl : List (Str × Addr)) (fp : List Addr), L2.PTs (X.blk s H scope (compEnvC scope cl C X.env) fp) ifs (tT X.K u))
    (hk : ∀ (s : Shared) (H : Hp) (C : Addr) (cl : List (Str × Addr)) (fp : List Addr), PE (X.blk s H scope (compEnvC scope cl C X.env) fp) kx (tE X.K k))
    (he : ∀ (s : Shared) (H : Hp) (C : Addr) (cl : List (Str × Addr)) (fp : List Addr), PE (X.blk s H scope (compEnvC scope cl C X.env) fp) vx (tE X.K x))
    (hs : ∀ x, foldedSetIterable iter X.env x = pure x) (kk : KV k) (kx' : KV x) (kt : KG t) (ki : KV it) (ku : KV u) :
    PS X (.Assign [.Name y py] (.DictComp kx vx [⟨tgt, iter, ifs, 0⟩] scope cpos) pos) (tF X.K (cAsg (gVar i) (sDcmp k x t it u (own.map (·.2))))) :=
  PS.imp (L2.ps_setDc hc hN hy hyl hsw hi ok hg ht (fun s H C cl fp => so_D (hk s H C cl fp)) (fun s H C cl fp => so_D (he s H C cl fp)) hs) fun D σ H ⟨b, m, e, S, fl, e', S', hb, R, E, hev, q⟩ => by
    obtain ⟨p1, h1, hev⟩ := bind_ok hev
    obtain ⟨p2, h2, hev⟩ := bind_ok hev
    cases h2
    cases hev
    obtain ⟨p0, h0, h1⟩ := bind_ok h1
    have e1 : settle p0.1 p0.2 = p1 := by injection h1
    refine so_dc hc hN ok hts kk kx' kt ki ku σ H _ ⟨b, m, e, S, p0.1, p0.2, hb, R, E, h0, fun v H' m' z R' rv => ?_⟩
    obtain ⟨m2, z2, z3, R2, r2⟩ := settled z R' rv
    rw [e1] at R2 r2
    exact q _ H' m2 z2 R2 (RE.set (RE.mono z2 E) r2 i)
end
end Pv
set_option linter.all false
set_option autoImplicit false
set_option maxRecDepth 100000
/-! The check that a text is the evaluator's term, and what follows from it. -/
namespace Pv
open PySem PySem.Spec PyProof.Rows
open L2 (V Hp HO upd upd_same upd_ne VK XK TE TT TA TS TG TGs TI Cx PE PT PW PA PS PSs PG PGs PI Inv RelV SqL SqT OpR CallR Gl Ends Vals Room FnOk CX0 E0)

/-- what is known of the defs: name, parameters, the shapes in which it is called; the built-in names that no def takes -/
structure Fs where
  name : Str
  np : Nat
  shapes : List (Nat × List Str × List Nat)
structure Gs where
  fns : List Fs
  frees : List Str
def opB : Bo → Operator → Bool
  | .add, .Add => true | .sub, .Sub => true | .mul, .Mult => true | .fdiv, .FloorDiv => true | .mod, .Mod => true | .pow, .Pow => true | .shl, .LShift => true | .shr, .RShift => true | .band, .BitAnd => true | .bor, .BitOr => true
  | _, _ => false
theorem opB_is {o : Bo} {op : Operator} (h : opB o op = true) : op = opOf o := by cases o <;> cases op <;> first | rfl | cases h
def coB : Co → CmpOp → Bool
  | .eq, .Eq => true | .ne, .NotEq => true | .lt, .Lt => true | .le, .LtE => true | .gt, .Gt => true | .ge, .GtE => true | .is, .Is => true | .isn, .IsNot => true | .inn, .In => true | .nin, .NotIn => true
  | _, _ => false
theorem coB_is {o : Co} {op : CmpOp} (h : coB o op = true) : op = coOf o := by cases o <;> cases op <;> first | rfl | cases h
def visB (sc : Scope) (x : Str) : Bool := match sc.names.lookup x with
  | some .local => true | some .cell => true | some .free => true
  | _ => false
def locB (sc : Scope) (x : Str) : Bool := match sc.names.lookup x with
  | some .local => true | some .cell => true
  | _ => false
def glB (sc : Scope) (x : Str) : Bool := match sc.names.lookup x with
  | some .globalImplicit => true
  | _ => false
def freeB (G : Gs) (sc : Scope) (x : Str) : Bool := glB sc x && G.frees.any fun y => decide (y = x)
def strB (x y : Str) : Bool := decide (x = y)
def slotB (N : List Str) (i : Nat) (x : Str) : Bool := decide (N[i]? = some x)
def noSet : Expr → Bool
  | .Set .. => false
  | _ => true
def ownOf (N : List Str) (vs : List Nat) : List (Str × Nat) := vs.map fun i => (N.getD i "", i)
mutual
def slots : Tg → List Nat
  | .var i => [i]
  | .tup ts => slotsL ts
  | .sub _ _ => []
def slotsL : Tgs → List Nat
  | .nil => []
  | .cons t ts => slots t ++ slotsL ts
end
def cellB (sc : Scope) (x : Str) : Bool := match sc.names.lookup x with
  | some .cell => true
  | _ => false
def lclB (sc : Scope) (x : Str) : Bool := match sc.names.lookup x with
  | some .local => true
  | _ => false
/-- a block's scope as it runs: what is the def's cell is a cell -/
def reSc (scope sc : Scope) : Scope := { scope with names := scope.names.map fun (n, k) => if (k == .free && sc.kind == .function && sc.names.lookup n == some .cell) then (n, .cell) else (n, k) }
def dbgB (x : Str) : Bool := !(x == ("__debug__" : Str)) && !(x == ("__classdict__" : Str))
/-! what an expression is made of -/
def dName : Expr → Option Str
  | .Name x _ => some x
  | _ => none
theorem dName_is {x : Expr} {s : Str} (h : dName x = some s) : ∃ p, x = .Name s p := by cases x <;> cases h; exact ⟨_, rfl⟩
def dConst : Expr → Option Const
  | .Constant c _ _ => some c
  | _ => none
theorem dConst_is {x : Expr} {s : Const} (h : dConst x = some s) : ∃ k p, x = .Constant s k p := by cases x <;> cases h; exact ⟨_, _, rfl⟩
def dNeg : Expr → Option Expr
  | .UnaryOp .USub x _ => some x
  | _ => none
theorem dNeg_is {x a : Expr} (h : dNeg x = some a) : ∃ p, x = .UnaryOp .USub a p := by
  unfold dNeg at h
  split at h
  · cases h; exact ⟨_, rfl⟩
  · cases h
def dNot : Expr → Option Expr
  | .UnaryOp .Not x _ => some x
  | _ => none
theorem dNot_is {x a : Expr} (h : dNot x = some a) : ∃ p, x = .UnaryOp .Not a p := by
  unfold dNot at h
  split at h
  · cases h; exact ⟨_, rfl⟩
  · cases h
def dBin : Expr → Option (Expr × Operator × Expr)
  | .BinOp x op y _ => some (x, op, y)
  | _ => none
theorem dBin_is {x a b : Expr} {op : Operator} (h : dBin x = some (a, op, b)) : ∃ p, x = .BinOp a op b p := by cases x <;> cases h; exact ⟨_, rfl⟩
def dCmp : Expr → Option (Expr × CmpOp × Expr)
  | .Compare x [op] [y] _ => some (x, op, y)
  | _ => none
theorem dCmp_is {x a b : Expr} {op : CmpOp} (h : dCmp x = some (a, op, b)) : ∃ p, x = .Compare a [op] [b] p := by
  unfold dCmp at h
  split at h
  · cases h; exact ⟨_, rfl⟩
  · cases h
def dAnd : Expr → Option (Expr × Expr × List Expr × Pos)
  | .BoolOp .And (x :: y :: r) p => some (x, y, r, p)
  | _ => none
theorem dAnd_is {x a b : Expr} {r : List Expr} {p : Pos} (h : dAnd x = some (a, b, r, p)) : x = .BoolOp .And (a :: b :: r) p := by
  unfold dAnd at h
  split at h
  · cases h; rfl
  · cases h
def dOr : Expr → Option (Expr × Expr × List Expr × Pos)
  | .BoolOp .Or (x :: y :: r) p => some (x, y, r, p)
  | _ => none
theorem dOr_is {x a b : Expr} {r : List Expr} {p : Pos} (h : dOr x = some (a, b, r, p)) : x = .BoolOp .Or (a :: b :: r) p := by
  unfold dOr at h
  split at h
  · cases h; rfl
  · cases h
def dIf : Expr → Option (Expr × Expr × Expr)
  | .IfExp c x y _ => some (c, x, y)
  | _ => none
theorem dIf_is {x a b c : Expr} (h : dIf x = some (c, a, b)) : ∃ p, x = .IfExp c a b p := by cases x <;> cases h; exact ⟨_, rfl⟩
def dTup : Expr → Option (List Expr)
  | .Tuple xs _ _ => some xs
  | _ => none
theorem dTup_is {x : Expr} {l : List Expr} (h : dTup x = some l) : ∃ k p, x = .Tuple l k p := by cases x <;> cases h; exact ⟨_, _, rfl⟩
def dLst : Expr → Option (List Expr)
  | .List xs _ => some xs
  | _ => none
theorem dLst_is {x : Expr} {l : List Expr} (h : dLst x = some l) : ∃ p, x = .List l p := by cases x <;> cases h; exact ⟨_, rfl⟩
def dSub : Expr → Option (Expr × Expr)
  | .Subscript x y _ => some (x, y)
  | _ => none
theorem dSub_is {x a b : Expr} (h : dSub x = some (a, b)) : ∃ p, x = .Subscript a b p := by cases x <;> cases h; exact ⟨_, rfl⟩
def dSlc : Expr → Option (Option Expr × Option Expr)
  | .Slice l u none _ => some (l, u)
  | _ => none
theorem dSlc_is {x : Expr} {l u : Option Expr} (h : dSlc x = some (l, u)) : ∃ p, x = .Slice l u none p := by
  unfold dSlc at h
  split at h
  · cases h; exact ⟨_, rfl⟩
  · cases h
def dRev : Expr → Bool
  | .Slice none none (some (.UnaryOp .USub (.Constant (.int 1) _ _) _)) _ => true
  | _ => false
theorem dRev_is {x : Expr} (h : dRev x = true) : ∃ k p1 p2 p3, x = .Slice none none (some (.UnaryOp .USub (.Constant (.int 1) k p1) p2)) p3 := by
  unfold dRev at h
  split at h
  · exact ⟨_, _, _, _, rfl⟩
  · cases h
def dCall : Expr → Option (Str × List Expr × List Keyword)
  | .Call (.Name x _) as kws _ => some (x, as, kws)
  | _ => none
theorem dCall_is {x : Expr} {s : Str} {as : List Expr} {kws : List Keyword} (h : dCall x = some (s, as, kws)) : ∃ p q, x = .Call (.Name s p) as kws q := by
  unfold dCall at h
  split at h
  · cases h; exact ⟨_, _, rfl⟩
  · cases h
/-- f(a), no keyword -/
def dC1 (x : Expr) : Option (Str × Expr) := match dCall x with
  | some (s, [a], []) => some (s, a)
  | _ => none
theorem dC1_is {x a : Expr} {s : Str} (h : dC1 x = some (s, a)) : ∃ p q, x = .Call (.Name s p) [a] [] q := by
  unfold dC1 at h
  split at h
  · rename_i e; cases h; exact dCall_is e
  · cases h
def dC2 (x : Expr) : Option (Str × Expr × Expr) := match dCall x with
  | some (s, [a, b], []) => some (s, a, b)
  | _ => none
theorem dC2_is {x a b : Expr} {s : Str} (h : dC2 x = some (s, a, b)) : ∃ p q, x = .Call (.Name s p) [a, b] [] q := by
  unfold dC2 at h
  split at h
  · rename_i e; cases h; exact dCall_is e
  · cases h
def dM0 : Expr → Option (Expr × Str)
  | .Call (.Attribute o nm ap) [] [] cp => if (ap.endLine == cp.line) = true then some (o, nm) else none
  | _ => none
theorem dM0_is {x o : Expr} {nm : Str} (h : dM0 x = some (o, nm)) : ∃ ap cp, (ap.endLine == cp.line) = true ∧ x = .Call (.Attribute o nm ap) [] [] cp := by
  unfold dM0 at h
  split at h
  · split at h
    · cases h; exact ⟨_, _, ‹_›, rfl⟩
    · cases h
  · cases h
def dM1 : Expr → Option (Expr × Str × Expr)
  | .Call (.Attribute o nm ap) [a] [] cp => if (ap.endLine == cp.line) = true then some (o, nm, a) else none
  | _ => none
theorem dM1_is {x o a : Expr} {nm : Str} (h : dM1 x = some (o, nm, a)) : ∃ ap cp, (ap.endLine == cp.line) = true ∧ x = .Call (.Attribute o nm ap) [a] [] cp := by
  unfold dM1 at h
  split at h
  · split at h
    · cases h; exact ⟨_, _, ‹_›, rfl⟩
    · cases h
  · cases h
def dM2 : Expr → Option (Expr × Str × Expr × Expr)
  | .Call (.Attribute o nm ap) [a, b] [] cp => if (ap.endLine == cp.line) = true then some (o, nm, a, b) else none
  | _ => none
theorem dM2_is {x o a b : Expr} {nm : Str} (h : dM2 x = some (o, nm, a, b)) : ∃ ap cp, (ap.endLine == cp.line) = true ∧ x = .Call (.Attribute o nm ap) [a, b] [] cp := by
  unfold dM2 at h
  split at h
  · split at h
    · cases h; exact ⟨_, _, ‹_›, rfl⟩
    · cases h
  · cases h
def dDict : Expr → Bool
  | .Dict [] [] _ => true
  | _ => false
theorem dDict_is {x : Expr} (h : dDict x = true) : ∃ p, x = .Dict [] [] p := by
  unfold dDict at h
  split at h
  · exact ⟨_, rfl⟩
  · cases h
def dComp : Expr → Option (Expr × Expr × Expr × List Expr × Scope)
  | .ListComp elt [⟨tgt, iter, cs, 0⟩] scope _ => some (elt, tgt, iter, cs, scope)
  | _ => none
theorem dComp_is {x elt tgt iter : Expr} {cs : List Expr} {scope : Scope} (h : dComp x = some (elt, tgt, iter, cs, scope)) : ∃ p, x = .ListComp elt [⟨tgt, iter, cs, 0⟩] scope p := by
  unfold dComp at h
  split at h
  · cases h; exact ⟨_, rfl⟩
  · cases h
def dChn : Expr → Option (Expr × CmpOp × Expr × CmpOp × Expr)
  | .Compare x [o, p] [y, z] _ => some (x, o, y, p, z)
  | _ => none
theorem dChn_is {x a b c : Expr} {o p : CmpOp} (h : dChn x = some (a, o, b, p, c)) : ∃ q, x = .Compare a [o, p] [b, c] q := by
  unfold dChn at h
  split at h
  · cases h; exact ⟨_, rfl⟩
  · cases h
def dDcm : Expr → Option (Expr × Expr × Expr × Expr × List Expr × Scope)
  | .DictComp kx vx [⟨tgt, iter, cs, 0⟩] scope _ => some (kx, vx, tgt, iter, cs, scope)
  | _ => none
theorem dDcm_is {x kx vx tgt iter : Expr} {cs : List Expr} {scope : Scope} (h : dDcm x = some (kx, vx, tgt, iter, cs, scope)) : ∃ p, x = .DictComp kx vx [⟨tgt, iter, cs, 0⟩] scope p := by
  unfold dDcm at h
  split at h
  · cases h; exact ⟨_, rfl⟩
  · cases h
def cnB : D → Const → Bool
  | .non, .none => true
  | .bl b, .bool c => b == c
  | .int i, .int j => decide (i = j)
  | .str s, .str t => strB s t
  | _, _ => false
def fnB (sc : Scope) : Bool := match sc.kind with
  | .function => true
  | _ => false
def shapeB (G : Gs) (f : Nat) (perm : List Nat) (s : Str) (as : List Expr) (kws : List Keyword) : Bool := match G.fns[f]? with
  | some d => strB d.name s && d.shapes.any fun q => q.1 == as.length && decide (kws.map (·.arg) = q.2.1.map some) && decide (q.2.2 = perm) && perm.length == d.np && perm.all fun i => decide (i < as.length + q.2.1.length)
  | none => false
mutual
def okE (G : Gs) (N : List Str) : E → Scope → Expr → Bool
  | .var i, sc, x => match dName x with
    | some s => slotB N i s && visB sc s && dbgB s
    | none => false
  | .cn c, sc, x => match dConst x with
    | some k => cnB c k
    | none => false
  | .neg a, sc, x => match dNeg x with
    | some y => okE G N a sc y
    | none => false
  | .not a, sc, x => match dNot x with
    | some y => okE G N a sc y
    | none => false
  | .bin o a b, sc, x => match dBin x with
    | some (y, op, z) => opB o op && okE G N a sc y && okE G N b sc z
    | none => false
  | .cmp o a b, sc, x => match dCmp x with
    | some (y, op, z) => coB o op && okE G N a sc y && okE G N b sc z && !behindInMarks op z
    | none => false
  | .and a b, sc, x => match dAnd x with
    | some (y, z, [], _) => okE G N a sc y && okE G N b sc z
    | some (y, z, w :: r, p) => okE G N a sc y && okE G N b sc (.BoolOp .And (z :: w :: r) p)
    | none => false
  | .or a b, sc, x => match dOr x with
    | some (y, z, [], _) => okE G N a sc y && okE G N b sc z
    | some (y, z, w :: r, p) => okE G N a sc y && okE G N b sc (.BoolOp .Or (z :: w :: r) p)
    | none => false
  | .ite c a b, sc, x => match dIf x with
    | some (t, y, z) => okE G N c sc t && okE G N a sc y && okE G N b sc z
    | none => false
  | .tup es, sc, x => match dTup x with
    | some xs => okEs G N es sc xs
    | none => false
  | .lst es, sc, x => match dLst x with
    | some xs => okEs G N es sc xs
    | none => false
  | .idx a b, sc, x => match dSub x with
    | some (y, z) => noSlice z && okE G N a sc y && okE G N b sc z
    | none => false
  | .sl a lo hi, sc, x => match dSub x with
    | some (y, z) => (match dSlc z with
      | some (l, u) => okE G N a sc y && okO G N lo sc l && okO G N hi sc u
      | none => false)
    | none => false
  | .rev a, sc, x => match dSub x with
    | some (y, z) => dRev z && okE G N a sc y
    | none => false
  | .call f es ks perm, sc, x => match dCall x with
    | some (s, as, kws) => shapeB G f perm s as kws && glB sc s && dbgB s && as.all noStar && okEs G N es sc as && okKs G N ks sc kws
    | none => false
  | .f1 o a, sc, x => match dC1 x with
    | some (s, y) => strB s (f1Name o) && freeB G sc s && noStar y && okE G N a sc y
    | none => false
  | .f2 o a b, sc, x => match dC2 x with
    | some (s, y, z) => strB s (f2Name o) && freeB G sc s && noStar y && noStar z && okE G N a sc y && okE G N b sc z
    | none => false
  | .isi a t, sc, x => match dC2 x with
    | some (s, y, z) => (match dName z with
      | some r => strB s "isinstance" && freeB G sc s && strB r (tyName t) && freeB G sc r && noStar y && okE G N a sc y
      | none => false)
    | none => false
  | .mkr t lo hi, sc, x => match dC1 x with
    | some (s, w) => (t == .list || t == .tuple) && strB s (f1Name t) && freeB G sc s && (match lo with
      | .none => (match dC1 w with
        | some (r, y) => strB r "range" && freeB G sc r && noStar y && okE G N hi sc y
        | none => false)
      | .some lo => (match dC2 w with
        | some (r, y, z) => strB r "range" && freeB G sc r && noStar y && noStar z && okE G N lo sc y && okE G N hi sc z
        | none => false))
    | none => false
  | .m0 m o, sc, x => match dM0 x with
    | some (y, nm) => strB nm (m0Name m) && plainO y && okE G N o sc y
    | none => false
  | .m1 m o a, sc, x => match dM1 x with
    | some (y, nm, z) => (m == .append || m == .pop || m == .index) && strB nm (m1Name m) && plainO y && noStar z && okE G N o sc y && okE G N a sc z
    | none => false
  | .comp x tg it ifs vs, sc, w => match dComp w with
    | some (elt, tgt, iter, cs, scope) => fnB scope && L2.blkC N sc scope (ownOf N vs) && (slots tg).all (fun i => vs.contains i) && noSet iter && okIt G N it sc tgt iter && okTg G N tg scope (reSc scope sc) tgt && okE G N x (reSc scope sc) elt && decide (cs.length ≤ 1) && okEs G N ifs (reSc scope sc) cs
    | none => false
  | .m2 m o a b, sc, x => match dM2 x with
    | some (y, nm, z, w) => (m == .insert && strB nm "insert" && plainO y && noStar z && noStar w) && okE G N o sc y && okE G N a sc z && okE G N b sc w
    | none => false
  | .chn o p a b e, sc, x => match dChn x with
    | some (y, op, z, oq, w) => (coB o op && coB p oq && !lastMarks [op, oq] [z, w]) && okE G N a sc y && okE G N b sc z && okE G N e sc w
    | none => false
  | .dcmp k x tg it ifs vs, sc, w => match dDcm w with
    | some (kx, vx, tgt, iter, cs, scope) => fnB scope && L2.blkC N sc scope (ownOf N vs) && (slots tg).all (fun i => vs.contains i) && noSet iter && okIt G N it sc tgt iter && okTg G N tg scope (reSc scope sc) tgt && (okE G N k (reSc scope sc) kx && okE G N x (reSc scope sc) vx) && decide (cs.length ≤ 1) && okEs G N ifs (reSc scope sc) cs
    | none => false
  | .dnew t, _, x => !t && dDict x
  | .dget a b, sc, x => match dSub x with
    | some (y, z) => noSlice z && okE G N a sc y && okE G N b sc z
    | none => false
  | .din neg a b, sc, x => match dCmp x with
    | some (y, op, z) => coB (if neg then .nin else .inn) op && okE G N a sc y && okE G N b sc z && !behindInMarks op z
    | none => false
  | .dlen a, sc, x => match dC1 x with
    | some (s, y) => strB s "len" && freeB G sc s && noStar y && okE G N a sc y
    | none => false
  | .dgt o a b, sc, x => match dM2 x with
    | some (y, nm, z, w) => (strB nm "get" && plainO y && noStar z && noStar w) && okE G N o sc y && okE G N a sc z && okE G N b sc w
    | none => false
def okEs (G : Gs) (N : List Str) : Es → Scope → List Expr → Bool
  | .nil, _, l => l.isEmpty
  | .cons e es, sc, l => match l with
    | x :: xs => noStar x && okE G N e sc x && okEs G N es sc xs
    | [] => false
def okKs (G : Gs) (N : List Str) : Es → Scope → List Keyword → Bool
  | .nil, _, l => l.isEmpty
  | .cons e es, sc, l => match l with
    | x :: xs => okE G N e sc x.value && okKs G N es sc xs
    | [] => false
def okO (G : Gs) (N : List Str) : Oe → Scope → Option Expr → Bool
  | .none, _, o => o.isNone
  | .some e, sc, o => match o with
    | some x => okE G N e sc x
    | none => false
def okIt (G : Gs) (N : List Str) : It → Scope → Expr → Expr → Bool
  | .e a, sc, _, x => okE G N a sc x
  | .rng lo hi, sc, _, x => match lo with
    | .none => (match dC1 x with
      | some (r, y) => strB r "range" && freeB G sc r && noStar y && okE G N hi sc y
      | none => false)
    | .some lo => (match dC2 x with
      | some (r, y, z) => strB r "range" && freeB G sc r && noStar y && noStar z && okE G N lo sc y && okE G N hi sc z
      | none => false)
  | .enum a, sc, t, x => (dTup t).isSome && (match dC1 x with
    | some (r, y) => strB r "enumerate" && freeB G sc r && noStar y && okE G N a sc y
    | none => false)
  | .zip a b, sc, t, x => (dTup t).isSome && (match dC2 x with
    | some (r, y, z) => strB r "zip" && freeB G sc r && noStar y && noStar z && okE G N a sc y && okE G N b sc z
    | none => false)
  | .rev a, sc, _, x => match dC1 x with
    | some (r, y) => strB r "reversed" && freeB G sc r && noStar y && okE G N a sc y
    | none => false
def okTg (G : Gs) (N : List Str) : Tg → Scope → Scope → Expr → Bool
  | .var i, osc, sc, x => match dName x with
    | some s => slotB N i s && locB sc s && (cellB osc s || lclB sc s)
    | none => false
  | .tup ts, osc, sc, x => match dTup x with
    | some xs => xs.all noStar && okTgs G N ts osc sc xs
    | none => false
  | .sub o i, _, sc, x => match dSub x with
    | some (y, z) => noSlice z && okE G N o sc y && okE G N i sc z
    | none => false
def okTgs (G : Gs) (N : List Str) : Tgs → Scope → Scope → List Expr → Bool
  | .nil, _, _, l => l.isEmpty
  | .cons t ts, osc, sc, l => match l with
    | x :: xs => noStar x && okTg G N t osc sc x && okTgs G N ts osc sc xs
    | [] => false
end
/-! what a statement is made of -/
/-- may x be stored at t as a plain assignment -/
def asgB (sc : Scope) (t x : Expr) : Bool := (plainG t && noComp x) || (match dTup t with
  | some ts => (match dTup x with
    | some vs => decide (swapC sc ts vs = some none)
    | none => noComp x)
  | none => false)
/-- a comprehension stored at a def's cell: as any value -/
def compCell (sc : Scope) (t x : Expr) : Bool := match t, x with
  | .Name y _, .ListComp .. => cellB sc y
  | .Name y _, .DictComp .. => cellB sc y
  | _, _ => false
/-- a comprehension stored at a name, its list laid by exchange -/
def compB (sc : Scope) (t x : Expr) : Bool := match t, x with
  | .Name y py, .ListComp _ _ scope cp => lclB sc y && (py.line == cp.line) && !(scope.names.any fun (m, k) => m == y && (k == .local || k == .cell))
  | _, _ => false
/-- a dict's comprehension stored at a name, laid by exchange -/
def dcB (sc : Scope) (t x : Expr) : Bool := match t, x with
  | .Name y py, .DictComp _ _ _ scope cp => lclB sc y && (py.line == cp.line) && !(scope.names.any fun (m, k) => m == y && (k == .local || k == .cell))
  | _, _ => false
def isVarG : Tg → Bool
  | .var _ => true
  | _ => false
def swapB (sc : Scope) (N : List Str) (ts : List Nat) (t v : List Expr) : Bool := match ts, t, v with
  | [i, j], [.Name x px, .Name y py], [a, b] => slotB N i x && slotB N j y && !(i == j) && lclB sc x && lclB sc y && decide (swapC sc [.Name x px, .Name y py] [a, b] = some (some [x, y]))
  | [i, j, h], [.Name x px, .Name y py, .Name z pz], [a, b, c] => slotB N i x && slotB N j y && slotB N h z && !(i == j) && !(i == h) && !(j == h) && lclB sc x && lclB sc y && lclB sc z && decide (swapC sc [.Name x px, .Name y py, .Name z pz] [a, b, c] = some (some [x, y, z]))
  | _, _, _ => false
mutual
def okS (G : Gs) (N : List Str) (sc : Scope) : Pv.St → Stmt → Bool
  | .expr a, x => match x with
    | .Expr y _ => noComp y && okE G N a sc y
    | _ => false
  | .asg t a, x => match x with
    | .Assign [tgt] y _ => okTg G N t sc sc tgt && noStar tgt && okE G N a sc y && (asgB sc tgt y || compCell sc tgt y || (isVarG t && compB sc tgt y) || (isVarG t && dcB sc tgt y))
    | _ => false
  | .aug i o a, x => match x with
    | .AugAssign (.Name s _) op y _ => opB o op && augOk o && slotB N i s && locB sc s && okE G N a sc y
    | _ => false
  | .augs a b o c, x => match x with
    | .AugAssign (.Subscript y z _) op w _ => opB o op && augOk o && noSlice z && okE G N a sc y && okE G N b sc z && okE G N c sc w
    | _ => false
  | .swap ts es, x => match x with
    | .Assign [.Tuple t _ _] (.Tuple v _ _) _ => swapB sc N ts t v && okEs G N es sc v
    | _ => false
  | .ite c a b, x => match x with
    | .If t xs ys _ => okE G N c sc t && okSs G N sc a xs && okSs G N sc b ys
    | _ => false
  | .for t it b, x => match x with
    | .For tgt iter bs [] _ => noSet iter && okIt G N it sc tgt iter && okTg G N t sc sc tgt && okSs G N sc b bs
    | _ => false
  | .while c b, x => match x with
    | .While t bs [] _ => okE G N c sc t && okSs G N sc b bs
    | _ => false
  | .ret a, x => match x with
    | .Return (some y) _ => okE G N a sc y
    | _ => false
  | .retn, x => match x with
    | .Return none _ => true
    | _ => false
  | .brk, x => match x with
    | .Break _ => true
    | _ => false
  | .cont, x => match x with
    | .Continue _ => true
    | _ => false
  | .pass, x => match x with
    | .Pass _ => true
    | _ => false
  | .dput a b c, x => match x with
    | .Assign [.Subscript y z _] w _ => noComp w && okE G N a sc y && okE G N b sc z && okE G N c sc w
    | _ => false
def okSs (G : Gs) (N : List Str) (sc : Scope) : Ss → List Stmt → Bool
  | .nil, l => l.isEmpty
  | .cons s r, l => match l with
    | x :: xs => okS G N sc s x && okSs G N sc r xs
    | [] => false
end
end Pv
set_option linter.all false
set_option autoImplicit false
set_option maxRecDepth 100000
/-! What the check says, the machine does. -/
namespace Pv
open PySem PySem.Spec PyProof.Rows
open L2 (V Hp HO upd upd_same upd_ne VK XK TE TT TA TS TG TGs TI Cx PE PT PW PA PS PSs PG PGs PI Inv RelV SqL SqT OpR CallR Gl Ends Vals Room FnOk CX0 E0)

/-- the defs as they stand: each keeps what the evaluator tells, in so many calls one within another -/
def Fns (P : Program) (w : World) (K : PySem.W.Frag) (mg : Str → Option Value) (base : Heap) (n : Nat) (rc : Rc) (G : Gs) : Prop := ∀ f d, G.fns[f]? = some d → ∃ (fa : Addr) (fd : FuncData) (ps : List Str), mg d.name = some (.ref fa) ∧ PySem.W.keepIn K (.ref fa) = true ∧
  FnOk P w K mg base CX0 n fa fd ps (spN K rc d.np f) ∧ ∀ s ∈ d.shapes, Bd K fd ps s.1 s.2.1 s.2.2
/-- where a piece of text stands -/
structure Cz (n : Nat) (rc : Rc) (G : Gs) (N : List Str) (osc sc : Scope) (X : Cx) : Prop where
  hN : X.N = N
  nd : N.Nodup
  hsc : X.env.scope = sc
  kd : sc.kind = .function
  calm : X.calm = true
  room : Room n X.A
  cell : ∀ x, osc.names.lookup x = some .cell → X.fn x = true
  free : ∀ x ∈ G.frees, X.mg x = none
  fns : Fns X.prog X.w X.K X.mg X.base n rc G
section
variable {n : Nat} {rc : Rc} {G : Gs} {N : List Str} {osc sc : Scope} {X : Cx}
theorem Cz.slot (c : Cz n rc G N osc sc X) {i : Nat} {x : Str} (h : slotB N i x = true) : X.N[i]? = some x := by
  rw [c.hN]; exact of_decide_eq_true h
theorem Cz.vis (c : Cz n rc G N osc sc X) {x : Str} (h : visB sc x = true) : L2.Vis X.env.scope x := by
  rw [c.hsc]
  unfold visB at h
  split at h
  · exact .inl ‹_›
  · exact .inr (.inl ‹_›)
  · exact .inr (.inr ‹_›)
  · cases h
theorem Cz.loc (c : Cz n rc G N osc sc X) {x : Str} (h : locB sc x = true) (h2 : (cellB osc x || lclB sc x) = true) : L2.Loc X.env.scope x ∧ (X.fn x = true ∨ X.env.scope.names.lookup x = some .local) := by
  rw [c.hsc]
  refine ⟨?_, ?_⟩
  · unfold locB at h
    split at h
    · exact .inl ‹_›
    · exact .inr ‹_›
    · cases h
  · rcases Bool.or_eq_true_iff.mp h2 with h2 | h2
    · unfold cellB at h2
      split at h2
      · exact .inl (c.cell x ‹_›)
      · cases h2
    · unfold lclB at h2
      split at h2
      · exact .inr ‹_›
      · cases h2
theorem Cz.gl (c : Cz n rc G N osc sc X) {x : Str} (h : glB sc x = true) : Gl X x := by
  unfold glB at h
  split at h
  · show X.env.scope.names.lookup x = _
    rw [c.hsc]; assumption
  · cases h
theorem Cz.fr (c : Cz n rc G N osc sc X) {x : Str} (h : freeB G sc x = true) : Gl X x ∧ X.mg x = none := by
  have h' : glB sc x = true ∧ (G.frees.any fun y => decide (y = x)) = true := by simpa [freeB] using h
  refine ⟨c.gl h'.1, ?_⟩
  obtain ⟨y, hy, e⟩ := List.any_eq_true.mp h'.2
  rw [← of_decide_eq_true e]
  exact c.free y hy
theorem Cz.blk (c : Cz n rc G N osc sc X) (s : Shared) (H : Hp) (scope : Scope) (C : Addr) (cl : List (Str × Addr)) (fp : List Addr) (hk : scope.kind = .function) : Cz n rc G N scope (reSc scope sc) (X.blk s H scope (compEnvC scope cl C X.env) fp) :=
  ⟨c.hN, c.nd, by show relabel scope X.env = reSc scope sc; unfold relabel reSc; rw [← c.hsc]; rfl, hk, c.calm, c.room, fun x h => by show (scope.names.lookup x == some .cell) = true; rw [h]; rfl, c.free, c.fns⟩
end
theorem dbg {x : Str} (h : dbgB x = true) : (x == ("__debug__" : Str)) = false ∧ (x == ("__classdict__" : Str)) = false := by
  unfold dbgB at h
  have h' : (!(x == ("__debug__" : Str))) = true ∧ (!(x == ("__classdict__" : Str))) = true := by simpa only [Bool.and_eq_true] using h
  exact ⟨Bool.not_eq_true' _ ▸ h'.1, Bool.not_eq_true' _ ▸ h'.2⟩
/-! the evaluator keeps the frame base -/
mutual
theorem kvE {rc : Rc} (kr : KC rc) : ∀ e : E, KV (evE rc e).v ∧ KV (evE rc e).t
  | .var i => ⟨KV.var i, (KV.var i).sT⟩
  | .cn c => ⟨KV.cn c, (KV.cn c).sT⟩
  | .neg a => ⟨(kvE kr a).1.neg, (kvE kr a).1.neg.sT⟩
  | .not a => ⟨(kvE kr a).1.not, (kvE kr a).2.tNot⟩
  | .bin o a b => ⟨KV.bin (kvE kr a).1 (kvE kr b).1, (KV.bin (kvE kr a).1 (kvE kr b).1).sT⟩
  | .cmp o a b => ⟨KV.cmp (kvE kr a).1 (kvE kr b).1, (KV.cmp (kvE kr a).1 (kvE kr b).1).sT⟩
  | .and a b => ⟨KV.and (kvE kr a).1 (kvE kr b).1, KV.tAnd (kvE kr a).2 (kvE kr b).2⟩
  | .or a b => ⟨KV.or (kvE kr a).1 (kvE kr b).1, KV.tOr (kvE kr a).2 (kvE kr b).2⟩
  | .ite c a b => ⟨KV.ite (kvE kr c).2 (kvE kr a).1 (kvE kr b).1, fun _ _ _ _ _ _ h => by cases h⟩
  | .tup es => ⟨KV.tup (kvEs kr es).1, (KV.tup (kvEs kr es).1).sT⟩
  | .lst es => ⟨KV.lst (kvEs kr es).1, (KV.lst (kvEs kr es).1).sT⟩
  | .idx a b => ⟨KV.idx (kvE kr a).1 (kvE kr b).1, (KV.idx (kvE kr a).1 (kvE kr b).1).sT⟩
  | .sl a lo hi => ⟨KV.sl (kvE kr a).1 (kvO kr lo) (kvO kr hi), (KV.sl (kvE kr a).1 (kvO kr lo) (kvO kr hi)).sT⟩
  | .rev a => ⟨(kvE kr a).1.rev, (kvE kr a).1.rev.sT⟩
  | .call f es ks perm => ⟨KV.call kr (kvEs kr es).1 (kvEs kr ks).1, (KV.call kr (kvEs kr es).1 (kvEs kr ks).1).sT⟩
  | .f1 o a => ⟨(kvE kr a).1.f1, (kvE kr a).1.f1.sT⟩
  | .f2 o a b => ⟨KV.f2 (kvE kr a).1 (kvE kr b).1, (KV.f2 (kvE kr a).1 (kvE kr b).1).sT⟩
  | .isi a t => ⟨(kvE kr a).1.isi, (kvE kr a).1.isi.sT⟩
  | .mkr t lo hi => ⟨KV.mkr (kvO kr lo) (kvE kr hi).1, (KV.mkr (kvO kr lo) (kvE kr hi).1).sT⟩
  | .m0 m o => ⟨(kvE kr o).1.m0, (kvE kr o).1.m0.sT⟩
  | .m1 m o a => ⟨KV.m1 (kvE kr o).1 (kvE kr a).1, (KV.m1 (kvE kr o).1 (kvE kr a).1).sT⟩
  | .m2 m o a b => ⟨KV.m2 (kvE kr o).1 (kvE kr a).1 (kvE kr b).1, (KV.m2 (kvE kr o).1 (kvE kr a).1 (kvE kr b).1).sT⟩
  | .chn o p a b c => ⟨KV.chn (kvE kr a).1 (kvE kr b).1 (kvE kr c).1, (KV.chn (kvE kr a).1 (kvE kr b).1 (kvE kr c).1).sT⟩
  | .dcmp k x tg it ifs vs => ⟨KV.dcmp (kvE kr k).1 (kvE kr x).1 (kvTg kr tg) (kvIt kr it) (kvEs kr ifs).2, (KV.dcmp (kvE kr k).1 (kvE kr x).1 (kvTg kr tg) (kvIt kr it) (kvEs kr ifs).2).sT⟩
  | .comp x tg it ifs vs => ⟨KV.comp (kvE kr x).1 (kvTg kr tg) (kvIt kr it) (kvEs kr ifs).2, (KV.comp (kvE kr x).1 (kvTg kr tg) (kvIt kr it) (kvEs kr ifs).2).sT⟩
  | .dnew t => ⟨KV.dnew t, (KV.dnew t).sT⟩
  | .dget a b => ⟨KV.dget (kvE kr a).1 (kvE kr b).1, (KV.dget (kvE kr a).1 (kvE kr b).1).sT⟩
  | .din neg a b => ⟨KV.din (kvE kr a).1 (kvE kr b).1, (KV.din (kvE kr a).1 (kvE kr b).1).sT⟩
  | .dlen a => ⟨KV.dlen (kvE kr a).1, (KV.dlen (kvE kr a).1).sT⟩
  | .dgt a b c => ⟨KV.dgt (kvE kr a).1 (kvE kr b).1 (kvE kr c).1, (KV.dgt (kvE kr a).1 (kvE kr b).1 (kvE kr c).1).sT⟩
theorem kvEs {rc : Rc} (kr : KC rc) : ∀ e : Es, KV (evEs rc e).1 ∧ KV (evEs rc e).2
  | .nil => ⟨KV.lNil, KV.tYes⟩
  | .cons x es => ⟨KV.lCons (kvE kr x).1 (kvEs kr es).1, KV.tAnd (kvE kr x).2 (kvEs kr es).2⟩
theorem kvO {rc : Rc} (kr : KC rc) : ∀ e : Oe, KV (evO rc e)
  | .none => KV.oNone
  | .some x => (kvE kr x).1.oSome
theorem kvIt {rc : Rc} (kr : KC rc) : ∀ e : It, KV (evIt rc e)
  | .e x => (kvE kr x).1.iE
  | .enum x => (kvE kr x).1.iEnum
  | .rev x => (kvE kr x).1.iRev
  | .zip x y => KV.iZip (kvE kr x).1 (kvE kr y).1
  | .rng lo hi => KV.iRng (kvO kr lo) (kvE kr hi).1
theorem kvTg {rc : Rc} (kr : KC rc) : ∀ t : Tg, KG (evTg rc t)
  | .var i => KG.var i
  | .tup ts => (kvTgs kr ts).tup
  | .sub o i => KG.sub (kvE kr o).1 (kvE kr i).1
theorem kvTgs {rc : Rc} (kr : KC rc) : ∀ t : Tgs, KG (evTgs rc t)
  | .nil => KG.nil
  | .cons t ts => KG.cons (kvTg kr t) (kvTgs kr ts)
end
mutual
theorem kvS {rc : Rc} (kr : KC rc) : ∀ s : Pv.St, KF (evS rc s)
  | .expr x => KF.expr (kvE kr x).1
  | .asg t x => KF.asg (kvE kr x).1 (kvTg kr t)
  | .aug i o x => KF.aug (kvE kr x).1
  | .augs o i op x => KF.augs (kvE kr o).1 (kvE kr i).1 (kvE kr x).1
  | .swap ts es => KF.swap (kvEs kr es).1
  | .ite c x y => KF.ite (kvE kr c).2 (kvSs kr x) (kvSs kr y)
  | .for t it body => KF.for (kvTg kr t) (kvIt kr it) (kvSs kr body)
  | .while c body => KF.while (kvE kr c).2 (kvSs kr body)
  | .ret x => KF.ret (kvE kr x).1
  | .retn => KF.fl _
  | .brk => KF.fl _
  | .cont => KF.fl _
  | .pass => KF.fl _
  | .dput o k x => KF.dput (kvE kr o).1 (kvE kr k).1 (kvE kr x).1
theorem kvSs {rc : Rc} (kr : KC rc) : ∀ s : Ss, KF (evSs rc s)
  | .nil => KF.fl _
  | .cons s r => KF.seq (kvS kr s) (kvSs kr r)
end
theorem kcN (T : Nat → Option Df) : ∀ n, KC (callN T n)
  | 0 => fun _ _ _ _ _ h => by cases h
  | n + 1 => fun f ds S r S' h => by
    unfold callN at h
    split at h
    · cases h
    · rename_i d hd
      split at h
      · obtain ⟨⟨fl, e', S1⟩, h1, h⟩ := bind_ok h
        obtain ⟨v, h2, h⟩ := bind_ok h
        have e1 : leave S.length v S1 = (r, S') := by injection h
        have k1 := kvSs (kcN T n) d.body S.length _ S fl e' S1 (Nat.le_refl _) h1
        have := (leave_kp (r := v) k1 rfl).1
        rw [e1] at this
        exact this
      · cases h
theorem llEs {rc : Rc} : ∀ {es : Es} {G : Gs} {N : List Str} {sc : Scope} {xs : List Expr}, okEs G N es sc xs = true → LL (evEs rc es).1 xs.length
  | .nil, _, _, _, [], _ => LL.nil
  | .cons e es, G, N, sc, x :: xs, h => by
    have h' : (noStar x = true ∧ okE G N e sc x = true) ∧ okEs G N es sc xs = true := by simpa [okEs] using h
    exact LL.cons (llEs h'.2)
  | .nil, _, _, _, _ :: _, h => by simp [okEs] at h
  | .cons _ _, _, _, _, [], h => by simp [okEs] at h
theorem llKs {rc : Rc} : ∀ {es : Es} {G : Gs} {N : List Str} {sc : Scope} {xs : List Keyword}, okKs G N es sc xs = true → LL (evEs rc es).1 xs.length
  | .nil, _, _, _, [], _ => LL.nil
  | .cons e es, G, N, sc, ⟨k, x, p⟩ :: xs, h => by
    have h' : okE G N e sc x = true ∧ okKs G N es sc xs = true := by simpa [okKs] using h
    exact LL.cons (llKs h'.2)
  | .nil, _, _, _, _ :: _, h => by simp [okKs] at h
  | .cons _ _, _, _, _, [], h => by simp [okKs] at h
theorem glTs {rc : Rc} : ∀ {ts : Tgs} {G : Gs} {N : List Str} {osc sc : Scope} {xs : List Expr}, okTgs G N ts osc sc xs = true → GL xs.length (evTgs rc ts)
  | .nil, _, _, _, _, [], _ => GL.nil
  | .cons t ts, G, N, osc, sc, x :: xs, h => by
    have h' : (noStar x = true ∧ okTg G N t osc sc x = true) ∧ okTgs G N ts osc sc xs = true := by simpa [okTgs] using h
    exact GL.cons (glTs h'.2)
  | .nil, _, _, _, _, _ :: _, h => by simp [okTgs] at h
  | .cons _ _, _, _, _, _, [], h => by simp [okTgs] at h
theorem foldSet {iter : Expr} (h : noSet iter = true) (env : PySem.Env) (x : Value) : foldedSetIterable iter env x = pure x := by
  cases iter <;> first | rfl | cases h
theorem PT.pw {X : Cx} {op : BoolOp} {vs : List Expr} {p : Pos} {t : TT} (h : PT X (.BoolOp op vs p) t) : PW X (.BoolOp op vs p) t := ⟨fun _ pins s σ H Q I q => h.run pins s σ H Q I q⟩
theorem so_badT {X : Cx} {ex : Expr} : PT X ex (tT X.K fun _ _ _ => .bad) := ⟨fun pins s σ H Q I ⟨b, m, e, S, k, S', hb, R, E, he, q⟩ => by cases he⟩
theorem nil_of {rc : Rc} {es : Es} {G : Gs} {N : List Str} {sc : Scope} (h : okEs G N es sc [] = true) : es = .nil := by
  cases es with
  | nil => rfl
  | cons _ _ => simp [okEs] at h
end Pv
set_option linter.all false
set_option autoImplicit false
set_option maxRecDepth 100000
/-! The check, met: every expression. -/
namespace Pv
open PySem PySem.Spec PyProof.Rows
open L2 (V Hp HO upd upd_same upd_ne VK XK TE TT TA TS TG TGs TI Cx PE PT PW PA PS PSs PG PGs PI Inv RelV SqL SqT OpR CallR Gl Ends Vals Room FnOk CX0 E0)
theorem strB_is {x y : Str} (h : strB x y = true) : x = y := of_decide_eq_true h
theorem cn_ok {X : Cx} {c : D} {k : Const} {q : Nat} {p : Pos} (h : cnB c k = true) : PE X (.Constant k q p) (tE X.K (sCn c)) := by
  cases c with
  | non => cases k <;> first | exact so_const L2.pe_non (fun _ _ => rfl) | cases h
  | bl b => cases k with
    | bool j => have e : b = j := eq_of_beq h; subst e; exact so_const L2.pe_bl (fun _ _ => rfl)
    | _ => cases h
  | int i => cases k with
    | int j => have e : i = j := of_decide_eq_true h; subst e; exact so_const L2.pe_int (fun _ _ => rfl)
    | _ => cases h
  | str s => cases k with
    | str j => have e : s = j := strB_is h; subst e; exact so_const L2.pe_str (fun _ _ => rfl)
    | _ => cases h
  | _ => cases h
theorem and3 {a b c : Bool} (h : (a && b && c) = true) : a = true ∧ b = true ∧ c = true := by cases a <;> cases b <;> cases c <;> first | exact ⟨rfl, rfl, rfl⟩ | cases h
theorem and4 {a b c d : Bool} (h : (a && b && c && d) = true) : a = true ∧ b = true ∧ c = true ∧ d = true := by cases a <;> cases b <;> cases c <;> cases d <;> first | exact ⟨rfl, rfl, rfl, rfl⟩ | cases h
theorem and2 {a b : Bool} (h : (a && b) = true) : a = true ∧ b = true := by cases a <;> cases b <;> first | exact ⟨rfl, rfl⟩ | cases h
def isDbg (s : Str) : Bool := s == ("__debug__" : Str)
/-- a call's facts, out of the check -/
theorem so_callC {n : Nat} {rc : Rc} {G : Gs} {N : List Str} {osc sc : Scope} {X : Cx} (c : Cz n rc G N osc sc X) (kr : KC rc) {f : Nat} {es ks : Es} {perm : List Nat} {s : Str} {as : List Expr} {kws : List Keyword} {p q : Pos}
    (h1 : shapeB G f perm s as kws = true) (h2 : glB sc s = true) (h3 : dbgB s = true) (h4 : as.all noStar = true) (h5 : okEs G N es sc as = true) (h6 : okKs G N ks sc kws = true)
    (pa : PA X as (tL X.K (evEs rc es).1)) (pk : L2.PK X kws (tL X.K (evEs rc ks).1)) : PE X (.Call (.Name s p) as kws q) (tE X.K (evE rc (.call f es ks perm)).v) := by
  unfold shapeB at h1
  split at h1
  · rename_i d hd
    obtain ⟨e1, h1⟩ := and2 h1
    have es1 := strB_is e1
    obtain ⟨qq, hq, h1⟩ := List.any_eq_true.mp h1
    obtain ⟨h1, b5⟩ := and2 h1
    obtain ⟨b1, b2, b3, b4⟩ := and4 h1
    have c1 : qq.1 = as.length := eq_of_beq b1
    have c2 : kws.map (·.arg) = qq.2.1.map some := of_decide_eq_true b2
    have c3 : qq.2.2 = perm := of_decide_eq_true b3
    have c4 : perm.length = d.np := eq_of_beq b4
    obtain ⟨fa, fd, ps, hm, hk, F, hB⟩ := c.fns f d hd
    have hb := hB qq hq
    rw [c1, c3] at hb
    rw [es1] at hm
    have hkl : kws.length = qq.2.1.length := by
      have := congrArg List.length c2
      simpa using this
    exact so_call kr F c.room (c.gl h2) hm hk hb c4 (fun i hi => of_decide_eq_true (List.all_eq_true.mp b5 i hi)) h4 (decide_eq_true c2) (dbg h3).1 (fun e => by subst e; rw [nil_of (rc := rc) h5]; rfl)
      (kvEs kr es).1 (kvEs kr ks).1 (llEs h5) (by rw [← hkl]; exact llKs h6) pa pk
  · cases h1
theorem so_testsC {n : Nat} {rc : Rc} {G : Gs} {N : List Str} {sc : Scope} {X : Cx} {cs : List Expr} {ifs : Es} (h : cs.length ≤ 1) (hk : okEs G N ifs sc cs = true)
    (ih : ∀ a es, ifs = .cons a es → ∀ y, okE G N a sc y = true → PT X y (tT X.K (evE rc a).t)) : L2.PTs X cs (tT X.K (evEs rc ifs).2) := by
  cases cs with
  | nil => rw [nil_of (rc := rc) hk]; exact so_tYes
  | cons y ys =>
    cases ys with
    | cons _ _ => exact absurd h (by simp)
    | nil =>
      cases ifs with
      | nil => unfold okEs at hk; cases hk
      | cons a es =>
        unfold okEs at hk
        obtain ⟨_, h2, h3⟩ := and3 hk
        have := nil_of (rc := rc) h3
        subst this
        exact so_tOne (ih a _ rfl y h2)
mutual
theorem soE {n : Nat} {rc : Rc} {G : Gs} {N : List Str} (kr : KC rc) : ∀ (e : E) {osc sc : Scope} {X : Cx} {x : Expr}, Cz n rc G N osc sc X → okE G N e sc x = true → PE X x (tE X.K (evE rc e).v) ∧ PT X x (tT X.K (evE rc e).t)
  | .var i, osc, sc, X, x, c, h => by
    unfold okE at h
    split at h
    · rename_i s e
      obtain ⟨p, rfl⟩ := dName_is e
      obtain ⟨h1, h2, h3⟩ := and3 h
      have r := so_var (pos := p) (c.slot h1) (c.vis h2) (dbg h3).1 (dbg h3).2
      exact ⟨r, so_sT rfl r⟩
    · cases h
  | .cn k, osc, sc, X, x, c, h => by
    unfold okE at h
    split at h
    · rename_i s e
      obtain ⟨q, p, rfl⟩ := dConst_is e
      have r := cn_ok (X := X) (q := q) (p := p) h
      exact ⟨r, so_sT rfl r⟩
    · cases h
  | .neg a, osc, sc, X, x, c, h => by
    unfold okE at h
    split at h
    · rename_i s e
      obtain ⟨p, rfl⟩ := dNeg_is e
      have r := so_neg (pos := p) (soE kr a c h).1
      exact ⟨r, so_sT rfl r⟩
    · cases h
  | .not a, osc, sc, X, x, c, h => by
    unfold okE at h
    split at h
    · rename_i s e
      obtain ⟨p, rfl⟩ := dNot_is e
      have r := soE kr a c h
      exact ⟨so_not r.1, so_tNot r.2⟩
    · cases h
  | .bin o a b, osc, sc, X, x, c, h => by
    unfold okE at h
    split at h
    · rename_i y op z e
      obtain ⟨p, rfl⟩ := dBin_is e
      obtain ⟨h1, h2, h3⟩ := and3 h
      rw [opB_is h1]
      have r := so_bin (pos := p) o (kvE kr a).1 (soE kr a c h2).1 (soE kr b c h3).1
      exact ⟨r, so_sT rfl r⟩
    · cases h
  | .cmp o a b, osc, sc, X, x, c, h => by
    unfold okE at h
    split at h
    · rename_i y op z e
      obtain ⟨p, rfl⟩ := dCmp_is e
      obtain ⟨h1, h2, h3, h4⟩ := and4 h
      have e1 := opB_is (o := .add) (op := .Add) rfl
      rw [coB_is h1] at h4 ⊢
      have hm : behindInMarks (coOf o) z = false := by simpa using h4
      have hu : X.A.units + 65 < cLine := by have := c.room.un; omega
      exact ⟨so_cmp hu o (kvE kr a).1 (soE kr a c h2).1 (soE kr b c h3).1 hm, so_cmpT hu o (kvE kr a).1 (soE kr a c h2).1 (soE kr b c h3).1 hm⟩
    · cases h
  | .and a b, osc, sc, X, x, c, h => by
    unfold okE at h
    split at h
    · rename_i y z p e
      rw [dAnd_is e]
      obtain ⟨h1, h2⟩ := and2 h
      have r := soE kr a c h1
      have r2 := soE kr b c h2
      exact ⟨so_and (kvE kr a).1 r.1 (L2.pe_one r2.1), (so_tAnd (kvE kr a).2 r.2 (L2.pw_and1 r2.2)).pt⟩
    · rename_i y z w r p e
      rw [dAnd_is e]
      obtain ⟨h1, h2⟩ := and2 h
      have r := soE kr a c h1
      have r2 := soE kr b c h2
      exact ⟨so_and (kvE kr a).1 r.1 r2.1, (so_tAnd (kvE kr a).2 r.2 (Pv.PT.pw r2.2)).pt⟩
    · cases h
  | .or a b, osc, sc, X, x, c, h => by
    unfold okE at h
    split at h
    · rename_i y z p e
      rw [dOr_is e]
      obtain ⟨h1, h2⟩ := and2 h
      have r := soE kr a c h1
      have r2 := soE kr b c h2
      exact ⟨so_or (kvE kr a).1 r.1 (L2.pe_one r2.1), (so_tOr (kvE kr a).2 r.2 (L2.pw_or1 r2.2)).pt⟩
    · rename_i y z w r p e
      rw [dOr_is e]
      obtain ⟨h1, h2⟩ := and2 h
      have r := soE kr a c h1
      have r2 := soE kr b c h2
      exact ⟨so_or (kvE kr a).1 r.1 r2.1, (so_tOr (kvE kr a).2 r.2 (Pv.PT.pw r2.2)).pt⟩
    · cases h
  | .ite t a b, osc, sc, X, x, c, h => by
    unfold okE at h
    split at h
    · rename_i u y z e
      obtain ⟨p, rfl⟩ := dIf_is e
      obtain ⟨h1, h2, h3⟩ := and3 h
      exact ⟨so_ite (kvE kr t).2 (soE kr t c h1).2 (soE kr a c h2).1 (soE kr b c h3).1, so_badT⟩
    · cases h
  | .tup es, osc, sc, X, x, c, h => by
    unfold okE at h
    split at h
    · rename_i xs e
      obtain ⟨k, p, rfl⟩ := dTup_is e
      have r := so_tup (x1 := k) (pos := p) (soEs kr es c h)
      exact ⟨r, so_sT rfl r⟩
    · cases h
  | .lst es, osc, sc, X, x, c, h => by
    unfold okE at h
    split at h
    · rename_i xs e
      obtain ⟨p, rfl⟩ := dLst_is e
      have r := so_lst (pos := p) (soEs kr es c h)
      exact ⟨r, so_sT rfl r⟩
    · cases h
  | .idx a b, osc, sc, X, x, c, h => by
    unfold okE at h
    split at h
    · rename_i y z e
      obtain ⟨p, rfl⟩ := dSub_is e
      obtain ⟨h1, h2, h3⟩ := and3 h
      have r := so_idx (pos := p) h1 (kvE kr a).1 (soE kr a c h2).1 (soE kr b c h3).1
      exact ⟨r, so_sT rfl r⟩
    · cases h
  | .sl a lo hi, osc, sc, X, x, c, h => by
    unfold okE at h
    split at h
    · rename_i y z e
      obtain ⟨p, rfl⟩ := dSub_is e
      split at h
      · rename_i l u e2
        obtain ⟨p2, rfl⟩ := dSlc_is e2
        obtain ⟨h1, h2, h3⟩ := and3 h
        have r := so_sl (pos := p) (p2 := p2) (kvE kr a).1 (kvO kr lo) (kvO kr hi) (soE kr a c h1).1 (soO kr lo c h2) (soO kr hi c h3)
        exact ⟨r, so_sT rfl r⟩
      · cases h
    · cases h
  | .rev a, osc, sc, X, x, c, h => by
    unfold okE at h
    split at h
    · rename_i y z e
      obtain ⟨p, rfl⟩ := dSub_is e
      obtain ⟨h1, h2⟩ := and2 h
      obtain ⟨k, p1, p2, p3, rfl⟩ := dRev_is h1
      have r := so_rev (pos := p) (k := k) (p1 := p1) (p2 := p2) (p3 := p3) (soE kr a c h2).1
      exact ⟨r, so_sT rfl r⟩
    · cases h
  | .call f es ks perm, osc, sc, X, x, c, h => by
    unfold okE at h
    split at h
    · rename_i s as kws e
      obtain ⟨p, q, rfl⟩ := dCall_is e
      obtain ⟨h, h6⟩ := and2 h
      obtain ⟨h, h5⟩ := and2 h
      obtain ⟨h1, h2, h3, h4⟩ := and4 h
      have r := so_callC (p := p) (q := q) c kr h1 h2 h3 h4 h5 h6 (soEs kr es c h5) (soKs kr ks c h6)
      exact ⟨r, so_sT rfl r⟩
    · cases h
  | .f1 o a, osc, sc, X, x, c, h => by
    unfold okE at h
    split at h
    · rename_i s y e
      obtain ⟨p, q, rfl⟩ := dC1_is e
      obtain ⟨h1, h2, h3, h4⟩ := and4 h
      rw [strB_is h1] at h2 ⊢
      have r := so_f1 (pos := q) (p := p) o c.calm h3 (c.fr h2).1 (c.fr h2).2 (soE kr a c h4).1
      exact ⟨r, so_sT rfl r⟩
    · cases h
  | .f2 o a b, osc, sc, X, x, c, h => by
    unfold okE at h
    split at h
    · rename_i s y z e
      obtain ⟨p, q, rfl⟩ := dC2_is e
      obtain ⟨h, h6⟩ := and2 h
      obtain ⟨h, h5⟩ := and2 h
      obtain ⟨h1, h2, h3, h4⟩ := and4 h
      rw [strB_is h1] at h2 ⊢
      have r := so_f2 (pos := q) (p := p) o c.calm h3 h4 (c.fr h2).1 (c.fr h2).2 (kvE kr a).1 (soE kr a c h5).1 (soE kr b c h6).1
      exact ⟨r, so_sT rfl r⟩
    · cases h
  | .isi a t, osc, sc, X, x, c, h => by
    unfold okE at h
    split at h
    · rename_i s y z e
      obtain ⟨p, q, rfl⟩ := dC2_is e
      split at h
      · rename_i w e2
        obtain ⟨p2, rfl⟩ := dName_is e2
        obtain ⟨h, h6⟩ := and2 h
        obtain ⟨h, h5⟩ := and2 h
        obtain ⟨h1, h2, h3, h4⟩ := and4 h
        rw [strB_is h1] at h2 ⊢
        rw [strB_is h3] at h4 ⊢
        have r := so_isi (pos := q) (p := p) (p2 := p2) t h5 (c.fr h2).1 (c.fr h2).2 (c.fr h4).1 (c.fr h4).2 (kvE kr a).1 (soE kr a c h6).1
        exact ⟨r, so_sT rfl r⟩
      · cases h
    · cases h
  | .mkr t lo hi, osc, sc, X, x, c, h => by
    unfold okE at h
    split at h
    · rename_i s w e
      obtain ⟨p, q, rfl⟩ := dC1_is e
      obtain ⟨h1, h2, h3, h4⟩ := and4 h
      have ht : t = .list ∨ t = .tuple := by
        rcases Bool.or_eq_true_iff.mp h1 with h | h
        · exact .inl (by cases t <;> first | rfl | cases h)
        · exact .inr (by cases t <;> first | rfl | cases h)
      rw [strB_is h2] at h3 ⊢
      cases lo with
      | none =>
        dsimp only at h4
        split at h4
        · rename_i r y e2
          obtain ⟨p2, q2, rfl⟩ := dC1_is e2
          obtain ⟨k1, k2, k3, k4⟩ := and4 h4
          rw [strB_is k1] at k2 ⊢
          obtain ⟨tt, g1, g2⟩ := so_ends1 (pos := q2) (p := p2) k3 (c.fr k2).1 (c.fr k2).2 (soE kr hi c k4).1
          have r := so_mkr (pos := q) (p := p) t c.calm rfl (c.fr h3).1 (c.fr h3).2 g1 g2 ht
          exact ⟨r, so_sT rfl r⟩
        · cases h4
      | some lo =>
        dsimp only at h4
        split at h4
        · rename_i r y z e2
          obtain ⟨p2, q2, rfl⟩ := dC2_is e2
          obtain ⟨h4, k6⟩ := and2 h4
          obtain ⟨h4, k5⟩ := and2 h4
          obtain ⟨k1, k2, k3, k4⟩ := and4 h4
          rw [strB_is k1] at k2 ⊢
          obtain ⟨tt, g1, g2⟩ := so_ends2 (pos := q2) (p := p2) k3 k4 (c.fr k2).1 (c.fr k2).2 (kvE kr lo).1 (soE kr lo c k5).1 (soE kr hi c k6).1
          have r := so_mkr (pos := q) (p := p) t c.calm rfl (c.fr h3).1 (c.fr h3).2 g1 g2 ht
          exact ⟨r, so_sT rfl r⟩
        · cases h4
    · cases h
  | .m0 m o, osc, sc, X, x, c, h => by
    unfold okE at h
    split at h
    · rename_i y nm e
      obtain ⟨ap, cp, hl, rfl⟩ := dM0_is e
      obtain ⟨h1, h2, h3⟩ := and3 h
      rw [strB_is h1]
      have r := so_m0 (X := X) (apos := ap) (cpos := cp) m h2 hl (soE kr o c h3).1
      exact ⟨r, so_sT rfl r⟩
    · cases h
  | .m1 m o a, osc, sc, X, x, c, h => by
    unfold okE at h
    split at h
    · rename_i y nm z e
      obtain ⟨ap, cp, hl, rfl⟩ := dM1_is e
      obtain ⟨h, h6⟩ := and2 h
      obtain ⟨h, h5⟩ := and2 h
      obtain ⟨h1, h2, h3, h4⟩ := and4 h
      have hm : m = .append ∨ m = .pop ∨ m = .index := by
        rcases Bool.or_eq_true_iff.mp h1 with h | h
        · rcases Bool.or_eq_true_iff.mp h with h | h
          · exact .inl (by cases m <;> first | rfl | cases h)
          · exact .inr (.inl (by cases m <;> first | rfl | cases h))
        · exact .inr (.inr (by cases m <;> first | rfl | cases h))
      rw [strB_is h2]
      have r := so_m1 (X := X) (apos := ap) (cpos := cp) (show X.A.units + 65 < cLine by have := c.room.un; omega) m hm h3 h4 hl (kvE kr o).1 (soE kr o c h5).1 (soE kr a c h6).1
      exact ⟨r, so_sT rfl r⟩
    · cases h
  | .comp elt tg it ifs vs, osc, sc, X, w, c, h => by
    unfold okE at h
    split at h
    · rename_i ex tgt iter cs scope e
      obtain ⟨p, rfl⟩ := dComp_is e
      obtain ⟨h, h9⟩ := and2 h
      obtain ⟨h, h8⟩ := and2 h
      obtain ⟨h, h7⟩ := and2 h
      obtain ⟨h, h6⟩ := and2 h
      obtain ⟨h, h5⟩ := and2 h
      obtain ⟨h1, h2, h3, h4⟩ := and4 h
      have hk : scope.kind = .function := by
        unfold fnB at h1
        split at h1
        · assumption
        · cases h1
      have ow : (ownOf N vs).map (·.2) = vs := by unfold ownOf; rw [List.map_map]; exact List.map_id' vs
      have bl : L2.BlkOk X.N X.env.scope scope (ownOf N vs) := by rw [c.hN, c.hsc]; exact L2.blkOk_by h2
      have r := so_compE (pos := p) c.calm (c.hN ▸ c.nd) bl (ts := slots tg) (fun i hi => by rw [ow]; have := List.all_eq_true.mp h3 i hi; simpa using this) (soIt kr it c h5)
        (fun s H C cl fp => soTg kr tg (c.blk s H scope C cl fp hk) h6) (fun s H C cl fp => so_testsC (n := n) (of_decide_eq_true h8) h9 (fun a es e y hy => soE1 kr ifs (c.blk s H scope C cl fp hk) a es e y hy)) (fun s H C cl fp => (soE kr elt (c.blk s H scope C cl fp hk) h7).1)
        (foldSet h4 X.env) (kvE kr elt).1 (kvTg kr tg) (kvIt kr it) (kvEs kr ifs).2
      rw [ow] at r
      exact ⟨r, so_sT rfl r⟩
    · cases h
  | .m2 m o a b, osc, sc, X, x, c, h => by
    unfold okE at h
    split at h
    · rename_i y nm z w e
      obtain ⟨ap, cp, hl, rfl⟩ := dM2_is e
      obtain ⟨h1, h2, h3, h4⟩ := and4 h
      obtain ⟨h1, g4⟩ := and2 h1
      obtain ⟨g0, g1, g2, g3⟩ := and4 h1
      have hm : m = .insert := by cases m <;> first | rfl | cases g0
      subst hm
      rw [strB_is g1]
      have r := so_m2 (X := X) (apos := ap) (cpos := cp) g2 g3 g4 hl (kvE kr o).1 (kvE kr a).1 (soE kr o c h2).1 (soE kr a c h3).1 (soE kr b c h4).1
      exact ⟨r, so_sT rfl r⟩
    · cases h
  | .chn o p a b d, osc, sc, X, x, c, h => by
    unfold okE at h
    split at h
    · rename_i y op z oq w e
      obtain ⟨q, rfl⟩ := dChn_is e
      obtain ⟨h1, h2, h3, h4⟩ := and4 h
      obtain ⟨g1, g2, g3⟩ := and3 h1
      rw [coB_is g1, coB_is g2] at g3 ⊢
      have hm : lastMarks [coOf o, coOf p] [z, w] = false := by simpa using g3
      exact ⟨so_chn (show X.A.units + 65 < cLine by have := c.room.un; omega) o p (kvE kr a).1 (kvE kr b).1 (soE kr a c h2).1 (soE kr b c h3).1 (soE kr d c h4).1 hm, so_chnT (show X.A.units + 65 < cLine by have := c.room.un; omega) o p (kvE kr a).1 (kvE kr b).1 (soE kr a c h2).1 (soE kr b c h3).1 (soE kr d c h4).1 hm⟩
    · cases h
  | .dcmp k x tg it ifs vs, osc, sc, X, w, c, h => by
    unfold okE at h
    split at h
    · rename_i kx vx tgt iter cs scope e
      obtain ⟨p, rfl⟩ := dDcm_is e
      obtain ⟨h, h9⟩ := and2 h
      obtain ⟨h, h8⟩ := and2 h
      obtain ⟨h, h7⟩ := and2 h
      obtain ⟨h, h6⟩ := and2 h
      obtain ⟨h, h5⟩ := and2 h
      obtain ⟨h1, h2, h3, h4⟩ := and4 h
      obtain ⟨h7, h10⟩ := and2 h7
      have hk : scope.kind = .function := by
        unfold fnB at h1
        split at h1
        · assumption
        · cases h1
      have ow : (ownOf N vs).map (·.2) = vs := by unfold ownOf; rw [List.map_map]; exact List.map_id' vs
      have bl : L2.BlkOk X.N X.env.scope scope (ownOf N vs) := by rw [c.hN, c.hsc]; exact L2.blkOk_by h2
      have r := so_dcE (pos := p) c.calm (c.hN ▸ c.nd) bl (ts := slots tg) (fun i hi => by rw [ow]; have := List.all_eq_true.mp h3 i hi; simpa using this) (soIt kr it c h5)
        (fun s H C cl fp => soTg kr tg (c.blk s H scope C cl fp hk) h6) (fun s H C cl fp => so_testsC (n := n) (of_decide_eq_true h8) h9 (fun a es e y hy => soE1 kr ifs (c.blk s H scope C cl fp hk) a es e y hy)) (fun s H C cl fp => (soE kr k (c.blk s H scope C cl fp hk) h7).1) (fun s H C cl fp => (soE kr x (c.blk s H scope C cl fp hk) h10).1)
        (foldSet h4 X.env) (kvE kr k).1 (kvE kr x).1 (kvTg kr tg) (kvIt kr it) (kvEs kr ifs).2
      rw [ow] at r
      exact ⟨r, so_sT rfl r⟩
    · cases h
  | .dnew t, osc, sc, X, x, c, h => by
    unfold okE at h
    obtain ⟨h1, h2⟩ := and2 h
    obtain ⟨p, rfl⟩ := dDict_is h2
    have e : t = false := by cases t <;> first | rfl | cases h1
    subst e
    have r := so_dnew (X := X) (pos := p)
    exact ⟨r, so_sT rfl r⟩
  | .dget a b, osc, sc, X, x, c, h => by
    unfold okE at h
    split at h
    · rename_i y z e
      obtain ⟨p, rfl⟩ := dSub_is e
      obtain ⟨h1, h2, h3⟩ := and3 h
      have hu : X.A.units + 1 < cLine := by have := c.room.un; omega
      have r := so_dget (pos := p) hu h1 (kvE kr a).1 (soE kr a c h2).1 (soE kr b c h3).1
      exact ⟨r, so_sT rfl r⟩
    · cases h
  | .din neg a b, osc, sc, X, x, c, h => by
    unfold okE at h
    split at h
    · rename_i y op z e
      obtain ⟨p, rfl⟩ := dCmp_is e
      obtain ⟨h1, h2, h3, h4⟩ := and4 h
      have hop : op = if neg then .NotIn else .In := by
        have := coB_is h1
        cases neg <;> exact this
      subst hop
      have hm : behindInMarks (if neg then .NotIn else .In) z = false := by simpa using h4
      have hu : X.A.units + 1 < cLine := by have := c.room.un; omega
      exact ⟨so_din hu neg (kvE kr a).1 (soE kr a c h2).1 (soE kr b c h3).1 hm, so_dinT hu neg (kvE kr a).1 (soE kr a c h2).1 (soE kr b c h3).1 hm⟩
    · cases h
  | .dlen a, osc, sc, X, x, c, h => by
    unfold okE at h
    split at h
    · rename_i s y e
      obtain ⟨p, q, rfl⟩ := dC1_is e
      obtain ⟨h1, h2, h3, h4⟩ := and4 h
      rw [strB_is h1] at h2 ⊢
      have r := so_dlen (pos := q) (p := p) h3 (c.fr h2).1 (c.fr h2).2 (soE kr a c h4).1
      exact ⟨r, so_sT rfl r⟩
    · cases h
  | .dgt o a b, osc, sc, X, x, c, h => by
    unfold okE at h
    split at h
    · rename_i y nm z w e
      obtain ⟨ap, cp, hl, rfl⟩ := dM2_is e
      obtain ⟨h1, h2, h3, h4⟩ := and4 h
      obtain ⟨g1, g2, g3, g4⟩ := and4 h1
      rw [strB_is g1]
      have hu : X.A.units + 1 < cLine := by have := c.room.un; omega
      have r := so_dgt (X := X) (apos := ap) (cpos := cp) hu g2 g3 g4 hl (kvE kr o).1 (kvE kr a).1 (soE kr o c h2).1 (soE kr a c h3).1 (soE kr b c h4).1
      exact ⟨r, so_sT rfl r⟩
    · cases h
theorem soE1 {n : Nat} {rc : Rc} {G : Gs} {N : List Str} (kr : KC rc) : ∀ (ifs : Es) {osc sc : Scope} {X : Cx}, Cz n rc G N osc sc X → ∀ a es, ifs = .cons a es → ∀ y, okE G N a sc y = true → PT X y (tT X.K (evE rc a).t)
  | .nil, _, _, _, _, _, _, e, _, _ => by cases e
  | .cons a es, _, _, _, c, _, _, e, y, hy => by cases e; exact (soE kr a c hy).2
theorem soEs {n : Nat} {rc : Rc} {G : Gs} {N : List Str} (kr : KC rc) : ∀ (es : Es) {osc sc : Scope} {X : Cx} {xs : List Expr}, Cz n rc G N osc sc X → okEs G N es sc xs = true → PA X xs (tL X.K (evEs rc es).1)
  | .nil, _, _, _, [], c, _ => so_lNil
  | .nil, _, _, _, _ :: _, c, h => by unfold okEs at h; cases h
  | .cons _ _, _, _, _, [], c, h => by unfold okEs at h; cases h
  | .cons e es, _, _, _, x :: xs, c, h => by
    unfold okEs at h
    obtain ⟨h1, h2, h3⟩ := and3 h
    exact so_lCons h1 (kvE kr e).1 (soE kr e c h2).1 (soEs kr es c h3)
theorem soKs {n : Nat} {rc : Rc} {G : Gs} {N : List Str} (kr : KC rc) : ∀ (es : Es) {osc sc : Scope} {X : Cx} {xs : List Keyword}, Cz n rc G N osc sc X → okKs G N es sc xs = true → L2.PK X xs (tL X.K (evEs rc es).1)
  | .nil, _, _, _, [], c, _ => so_kNil
  | .nil, _, _, _, _ :: _, c, h => by unfold okKs at h; cases h
  | .cons _ _, _, _, _, [], c, h => by unfold okKs at h; cases h
  | .cons e es, _, _, _, ⟨nm, x, kp⟩ :: xs, c, h => by
    unfold okKs at h
    obtain ⟨h1, h2⟩ := and2 h
    exact so_kCons (kvE kr e).1 (soE kr e c h1).1 (soKs kr es c h2)
theorem soO {n : Nat} {rc : Rc} {G : Gs} {N : List Str} (kr : KC rc) : ∀ (o : Oe) {osc sc : Scope} {X : Cx} {x : Option Expr}, Cz n rc G N osc sc X → okO G N o sc x = true → L2.PO X x (tO X.K (evO rc o))
  | .none, _, _, _, none, c, _ => so_oNone
  | .none, _, _, _, some _, c, h => by unfold okO at h; cases h
  | .some _, _, _, _, none, c, h => by unfold okO at h; cases h
  | .some e, _, _, _, some x, c, h => by
    unfold okO at h
    exact so_oSome (soE kr e c h).1
theorem soIt {n : Nat} {rc : Rc} {G : Gs} {N : List Str} (kr : KC rc) : ∀ (it : It) {osc sc : Scope} {X : Cx} {t x : Expr}, Cz n rc G N osc sc X → okIt G N it sc t x = true → PI X t x (tI X.K (evIt rc it))
  | .e a, _, _, _, _, _, c, h => by
    unfold okIt at h
    exact so_iE (soE kr a c h).1
  | .rng lo hi, _, _, X, t, x, c, h => by
    unfold okIt at h
    cases lo with
    | none =>
      dsimp only at h
      split at h
      · rename_i r y e
        obtain ⟨p, q, rfl⟩ := dC1_is e
        obtain ⟨k1, k2, k3, k4⟩ := and4 h
        rw [strB_is k1] at k2 ⊢
        exact so_iRng1 k3 (c.fr k2).1 (c.fr k2).2 (soE kr hi c k4).1
      · cases h
    | some lo =>
      dsimp only at h
      split at h
      · rename_i r y z e
        obtain ⟨p, q, rfl⟩ := dC2_is e
        obtain ⟨h, k6⟩ := and2 h
        obtain ⟨h, k5⟩ := and2 h
        obtain ⟨k1, k2, k3, k4⟩ := and4 h
        rw [strB_is k1] at k2 ⊢
        exact so_iRng2 k3 k4 (c.fr k2).1 (c.fr k2).2 (kvE kr lo).1 (soE kr lo c k5).1 (soE kr hi c k6).1
      · cases h
  | .enum a, _, _, X, t, x, c, h => by
    unfold okIt at h
    obtain ⟨g, h⟩ := and2 h
    obtain ⟨ts, e0⟩ := Option.isSome_iff_exists.mp g
    obtain ⟨k0, p0, rfl⟩ := dTup_is e0
    split at h
    · rename_i r y e
      obtain ⟨p, q, rfl⟩ := dC1_is e
      obtain ⟨k1, k2, k3, k4⟩ := and4 h
      rw [strB_is k1] at k2 ⊢
      exact so_iEnum k3 (c.fr k2).1 (c.fr k2).2 (soE kr a c k4).1
    · cases h
  | .zip a b, _, _, X, t, x, c, h => by
    unfold okIt at h
    obtain ⟨g, h⟩ := and2 h
    obtain ⟨ts, e0⟩ := Option.isSome_iff_exists.mp g
    obtain ⟨k0, p0, rfl⟩ := dTup_is e0
    split at h
    · rename_i r y z e
      obtain ⟨p, q, rfl⟩ := dC2_is e
      obtain ⟨h, k6⟩ := and2 h
      obtain ⟨h, k5⟩ := and2 h
      obtain ⟨k1, k2, k3, k4⟩ := and4 h
      rw [strB_is k1] at k2 ⊢
      exact so_iZip k3 k4 (c.fr k2).1 (c.fr k2).2 (kvE kr a).1 (soE kr a c k5).1 (soE kr b c k6).1
    · cases h
  | .rev a, _, _, X, t, x, c, h => by
    unfold okIt at h
    split at h
    · rename_i r y e
      obtain ⟨p, q, rfl⟩ := dC1_is e
      obtain ⟨k1, k2, k3, k4⟩ := and4 h
      rw [strB_is k1] at k2 ⊢
      exact so_iRev k3 (c.fr k2).1 (c.fr k2).2 (soE kr a c k4).1
    · cases h
theorem soTg {n : Nat} {rc : Rc} {G : Gs} {N : List Str} (kr : KC rc) : ∀ (t : Tg) {osc sc : Scope} {X : Cx} {x : Expr}, Cz n rc G N osc sc X → okTg G N t osc sc x = true → PG X x (tg X.K (slots t) (evTg rc t))
  | .var i, _, _, X, x, c, h => by
    unfold okTg at h
    split at h
    · rename_i s e
      obtain ⟨p, rfl⟩ := dName_is e
      obtain ⟨h1, h2, h3⟩ := and3 h
      have l := c.loc h2 h3
      exact so_gVar (c.hN ▸ c.nd) (c.slot h1) l.1 l.2
    · cases h
  | .tup ts, _, _, X, x, c, h => by
    unfold okTg at h
    split at h
    · rename_i xs e
      obtain ⟨k, p, rfl⟩ := dTup_is e
      obtain ⟨h1, h2⟩ := and2 h
      exact so_gTup c.calm (glTs h2) h1 (soTgs kr ts c h2)
    · cases h
  | .sub o i, _, _, X, x, c, h => by
    unfold okTg at h
    split at h
    · rename_i y z e
      obtain ⟨p, rfl⟩ := dSub_is e
      obtain ⟨h1, h2, h3⟩ := and3 h
      exact so_gSub h1 (kvE kr o).1 (soE kr o c h2).1 (soE kr i c h3).1
    · cases h
theorem soTgs {n : Nat} {rc : Rc} {G : Gs} {N : List Str} (kr : KC rc) : ∀ (ts : Tgs) {osc sc : Scope} {X : Cx} {xs : List Expr}, Cz n rc G N osc sc X → okTgs G N ts osc sc xs = true → PGs X xs (tgs X.K (slotsL ts) (evTgs rc ts))
  | .nil, _, _, _, [], c, _ => so_gNil
  | .nil, _, _, _, _ :: _, c, h => by unfold okTgs at h; cases h
  | .cons _ _, _, _, _, [], c, h => by unfold okTgs at h; cases h
  | .cons t ts, _, _, _, x :: xs, c, h => by
    unfold okTgs at h
    obtain ⟨h1, h2, h3⟩ := and3 h
    exact so_gCons h1 (kvTg kr t) (soTg kr t c h2) (soTgs kr ts c h3)
end
end Pv
set_option linter.all false
set_option autoImplicit false
set_option maxRecDepth 100000
/-! The check, met: every statement, every def. -/
namespace Pv
open PySem PySem.Spec PyProof.Rows
open L2 (V Hp HO upd upd_same upd_ne VK XK TE TT TA TS TG TGs TI Cx PE PT PW PA PS PSs PG PGs PI Inv RelV SqL SqT OpR CallR Gl Ends Vals Room FnOk CX0 E0)
theorem asg_ok {X : Cx} {t x : Expr} (hk : X.env.scope.kind = .function) (h0 : asgB X.env.scope t x = true) : noComp x = true ∧ swappedStores [t] x X.env = pure none := by
  unfold asgB at h0
  rcases Bool.or_eq_true_iff.mp h0 with h | h
  · obtain ⟨h1, h2⟩ := and2 h
    exact ⟨h2, swap_plain h1⟩
  · clear h0
    cases e : dTup t with
    | none => rw [e] at h; cases h
    | some ts =>
      obtain ⟨k, p, rfl⟩ := dTup_is e
      cases e2 : dTup x with
      | some vs =>
        obtain ⟨k2, p2, rfl⟩ := dTup_is e2
        exact ⟨rfl, swap_is rfl hk (of_decide_eq_true h)⟩
      | none =>
        rw [e2] at h
        refine ⟨h, swap_val ?_⟩
        cases x <;> first | rfl | cases e2
theorem cell_ok {X : Cx} {t x : Expr} (h : compCell X.env.scope t x = true) : (∀ n, swapsWithSole [t] x n X.env = pure false) ∧ swappedStores [t] x X.env = pure none := by
  unfold compCell at h
  split at h
  · rename_i y p elt g scope cp
    unfold cellB at h
    split at h
    · rename_i hl
      refine ⟨fun n => ?_, rfl⟩
      have hko : X.env.kindOf y = some .cell := hl
      show (pure ((X.env.blockKind == .function && X.env.kindOf y == some .local && p.line == cp.line) && !(scope.names.any fun (m, k) => m == y && (k == .local || k == .cell))) : Sem Bool) = pure false
      rw [hko, show ((some NameKind.cell == some NameKind.local) = false) from rfl]
      simp
    · cases h
  · rename_i y p kx vx g scope cp
    unfold cellB at h
    split at h
    · rename_i hl
      refine ⟨fun n => ?_, rfl⟩
      have hko : X.env.kindOf y = some .cell := hl
      show (pure ((X.env.blockKind == .function && X.env.kindOf y == some .local && p.line == cp.line) && !(scope.names.any fun (m, k) => m == y && (k == .local || k == .cell))) : Sem Bool) = pure false
      rw [hko, show ((some NameKind.cell == some NameKind.local) = false) from rfl]
      simp
    · cases h
  · cases h
theorem lcl_is {sc : Scope} {x : Str} (h : lclB sc x = true) : sc.names.lookup x = some .local := by
  unfold lclB at h
  split at h
  · assumption
  · cases h
theorem comp_sw {env : PySem.Env} {y : Str} {py cp : Pos} {elt : Expr} {g : List Comprehension} {scope : Scope} {line : Nat} (hk : env.scope.kind = .function) (hl : env.scope.names.lookup y = some .local) (h1 : (py.line == cp.line) = true)
    (h2 : (!(scope.names.any fun (m, k) => m == y && (k == .local || k == .cell))) = true) : swapsWith (.ListComp elt g scope cp) (some (.Name y py)) line env = pure true := by
  have hb : env.blockKind = .function := by unfold Env.blockKind; rw [hk]; rfl
  have hko : env.kindOf y = some .local := hl
  show (pure ((env.blockKind == .function && env.kindOf y == some .local && py.line == cp.line) && !(scope.names.any fun (m, k) => m == y && (k == .local || k == .cell))) : Sem Bool) = pure true
  rw [hb, hko, h1, h2]
  rfl
theorem comp_parts {G : Gs} {N : List Str} {sc : Scope} {elt : E} {tg : Tg} {it : It} {ifs : Es} {vs : List Nat} {w : Expr} (h : okE G N (.comp elt tg it ifs vs) sc w = true) : ∃ ex tgt iter cs scope p, w = .ListComp ex [⟨tgt, iter, cs, 0⟩] scope p ∧
    scope.kind = .function ∧ L2.blkC N sc scope (ownOf N vs) = true ∧ (slots tg).all (fun i => vs.contains i) = true ∧ noSet iter = true ∧ okIt G N it sc tgt iter = true ∧ okTg G N tg scope (reSc scope sc) tgt = true ∧ okE G N elt (reSc scope sc) ex = true ∧ cs.length ≤ 1 ∧ okEs G N ifs (reSc scope sc) cs = true := by
  unfold okE at h
  split at h
  · rename_i ex tgt iter cs scope e
    obtain ⟨p, rfl⟩ := dComp_is e
    obtain ⟨h, h9⟩ := and2 h
    obtain ⟨h, h8⟩ := and2 h
    obtain ⟨h, h7⟩ := and2 h
    obtain ⟨h, h6⟩ := and2 h
    obtain ⟨h, h5⟩ := and2 h
    obtain ⟨h1, h2, h3, h4⟩ := and4 h
    have hk : scope.kind = .function := by
      unfold fnB at h1
      split at h1
      · assumption
      · cases h1
    exact ⟨_, _, _, _, _, p, rfl, hk, h2, h3, h4, h5, h6, h7, of_decide_eq_true h8, h9⟩
  · cases h
theorem cb_is {sc : Scope} {t x : Expr} (h : compB sc t x = true) : ∃ y py elt g scope cp, t = .Name y py ∧ x = .ListComp elt g scope cp ∧ lclB sc y = true ∧ (py.line == cp.line) = true ∧ (!(scope.names.any fun (m, k) => m == y && (k == .local || k == .cell))) = true := by
  unfold compB at h
  split at h
  · obtain ⟨h1, h2, h3⟩ := and3 h
    exact ⟨_, _, _, _, _, _, rfl, rfl, h1, h2, h3⟩
  · cases h
theorem soCA {n : Nat} {rc : Rc} {G : Gs} {N : List Str} (kr : KC rc) {sc : Scope} {X : Cx} (c : Cz n rc G N sc sc X) (t : Tg) (a : E) {tgt y : Expr} {pos : Pos} (h1 : okTg G N t sc sc tgt = true) (h3 : okE G N a sc y = true) (h : (isVarG t && compB sc tgt y) = true) :
    PS X (.Assign [tgt] y pos) (tF X.K (evS rc (.asg t a))) := by
  obtain ⟨hv, hc⟩ := and2 h
  obtain ⟨z, py, elt0, g0, scope0, cp, rfl, rfl, k1, k2, k3⟩ := cb_is hc
  cases t with
  | var i =>
    unfold okTg at h1
    dsimp only [dName] at h1
    obtain ⟨g1, g2, g3⟩ := and3 h1
    cases a with
    | comp elt tg it ifs vs =>
      obtain ⟨ex, tgt, iter, cs, scope, p, e, hk, f2, f3, f4, f5, f6, f7, f8, f9⟩ := comp_parts h3
      cases e
      have ow : (ownOf N vs).map (·.2) = vs := by unfold ownOf; rw [List.map_map]; exact List.map_id' vs
      have bl : L2.BlkOk X.N X.env.scope scope0 (ownOf N vs) := by rw [c.hN, c.hsc]; exact L2.blkOk_by f2
      have hl : X.env.scope.names.lookup z = some .local := by rw [c.hsc]; exact lcl_is k1
      have r := so_setComp (pos := pos) c.calm (c.hN ▸ c.nd) (c.slot g1) hl (comp_sw (elt := elt0) (by rw [c.hsc]; exact c.kd) hl k2 k3) bl (ts := slots tg) (fun i hi => by rw [ow]; have := List.all_eq_true.mp f3 i hi; simpa using this) (soIt kr it c f5)
        (fun s H C cl fp => soTg kr tg (c.blk s H scope0 C cl fp hk) f6) (fun s H C cl fp => so_testsC (n := n) f8 f9 (fun a es e y hy => soE1 kr ifs (c.blk s H scope0 C cl fp hk) a es e y hy)) (fun s H C cl fp => (soE kr elt (c.blk s H scope0 C cl fp hk) f7).1)
        (foldSet f4 X.env) (kvE kr elt).1 (kvTg kr tg) (kvIt kr it) (kvEs kr ifs).2
      rw [ow] at r
      exact r
    | _ => unfold okE at h3; first | cases h3 | (dsimp only [dName, dConst, dNeg, dNot, dBin, dCmp, dAnd, dOr, dIf, dTup, dLst, dSub, dCall, dC1, dC2, dM0, dM1, dM2, dChn, dDcm] at h3; cases h3) | (have h4 := (and2 h3).2; cases h4)
  | _ => cases hv
theorem dc_parts {G : Gs} {N : List Str} {sc : Scope} {k x : E} {tg : Tg} {it : It} {ifs : Es} {vs : List Nat} {w : Expr} (h : okE G N (.dcmp k x tg it ifs vs) sc w = true) : ∃ kx vx tgt iter cs scope p, w = .DictComp kx vx [⟨tgt, iter, cs, 0⟩] scope p ∧
    scope.kind = .function ∧ L2.blkC N sc scope (ownOf N vs) = true ∧ (slots tg).all (fun i => vs.contains i) = true ∧ noSet iter = true ∧ okIt G N it sc tgt iter = true ∧ okTg G N tg scope (reSc scope sc) tgt = true ∧ okE G N k (reSc scope sc) kx = true ∧ okE G N x (reSc scope sc) vx = true ∧ cs.length ≤ 1 ∧ okEs G N ifs (reSc scope sc) cs = true := by
  unfold okE at h
  split at h
  · rename_i kx vx tgt iter cs scope e
    obtain ⟨p, rfl⟩ := dDcm_is e
    obtain ⟨h, h9⟩ := and2 h
    obtain ⟨h, h8⟩ := and2 h
    obtain ⟨h, h7⟩ := and2 h
    obtain ⟨h, h6⟩ := and2 h
    obtain ⟨h, h5⟩ := and2 h
    obtain ⟨h1, h2, h3, h4⟩ := and4 h
    obtain ⟨h7, h10⟩ := and2 h7
    have hk : scope.kind = .function := by
      unfold fnB at h1
      split at h1
      · assumption
      · cases h1
    exact ⟨_, _, _, _, _, _, p, rfl, hk, h2, h3, h4, h5, h6, h7, h10, of_decide_eq_true h8, h9⟩
  · cases h
theorem dcb_is {sc : Scope} {t x : Expr} (h : dcB sc t x = true) : ∃ y py kx vx g scope cp, t = .Name y py ∧ x = .DictComp kx vx g scope cp ∧ lclB sc y = true ∧ (py.line == cp.line) = true ∧ (!(scope.names.any fun (m, k) => m == y && (k == .local || k == .cell))) = true := by
  unfold dcB at h
  split at h
  · obtain ⟨h1, h2, h3⟩ := and3 h
    exact ⟨_, _, _, _, _, _, _, rfl, rfl, h1, h2, h3⟩
  · cases h
theorem dc_sw {env : PySem.Env} {y : Str} {py cp : Pos} {kx vx : Expr} {g : List Comprehension} {scope : Scope} {line : Nat} (hk : env.scope.kind = .function) (hl : env.scope.names.lookup y = some .local) (h1 : (py.line == cp.line) = true)
    (h2 : (!(scope.names.any fun (m, k) => m == y && (k == .local || k == .cell))) = true) : swapsWith (.DictComp kx vx g scope cp) (some (.Name y py)) line env = pure true := by
  have hb : env.blockKind = .function := by unfold Env.blockKind; rw [hk]; rfl
  have hko : env.kindOf y = some .local := hl
  show (pure ((env.blockKind == .function && env.kindOf y == some .local && py.line == cp.line) && !(scope.names.any fun (m, k) => m == y && (k == .local || k == .cell))) : Sem Bool) = pure true
  rw [hb, hko, h1, h2]
  rfl
theorem soDA {n : Nat} {rc : Rc} {G : Gs} {N : List Str} (kr : KC rc) {sc : Scope} {X : Cx} (c : Cz n rc G N sc sc X) (t : Tg) (a : E) {tgt y : Expr} {pos : Pos} (h1 : okTg G N t sc sc tgt = true) (h3 : okE G N a sc y = true) (h : (isVarG t && dcB sc tgt y) = true) :
    PS X (.Assign [tgt] y pos) (tF X.K (evS rc (.asg t a))) := by
  obtain ⟨hv, hc⟩ := and2 h
  obtain ⟨z, py, kx0, vx0, g0, scope0, cp, rfl, rfl, k1, k2, k3⟩ := dcb_is hc
  cases t with
  | var i =>
    unfold okTg at h1
    dsimp only [dName] at h1
    obtain ⟨g1, g2, g3⟩ := and3 h1
    cases a with
    | dcmp k x tg it ifs vs =>
      obtain ⟨kx, vx, tgt, iter, cs, scope, p, e, hk, f2, f3, f4, f5, f6, f7, f10, f8, f9⟩ := dc_parts h3
      cases e
      have ow : (ownOf N vs).map (·.2) = vs := by unfold ownOf; rw [List.map_map]; exact List.map_id' vs
      have bl : L2.BlkOk X.N X.env.scope scope0 (ownOf N vs) := by rw [c.hN, c.hsc]; exact L2.blkOk_by f2
      have hl : X.env.scope.names.lookup z = some .local := by rw [c.hsc]; exact lcl_is k1
      have r := so_setDc (pos := pos) c.calm (c.hN ▸ c.nd) (c.slot g1) hl (dc_sw (kx := kx0) (vx := vx0) (by rw [c.hsc]; exact c.kd) hl k2 k3) bl (ts := slots tg) (fun i hi => by rw [ow]; have := List.all_eq_true.mp f3 i hi; simpa using this) (soIt kr it c f5)
        (fun s H C cl fp => soTg kr tg (c.blk s H scope0 C cl fp hk) f6) (fun s H C cl fp => so_testsC (n := n) f8 f9 (fun a es e y hy => soE1 kr ifs (c.blk s H scope0 C cl fp hk) a es e y hy)) (fun s H C cl fp => (soE kr k (c.blk s H scope0 C cl fp hk) f7).1) (fun s H C cl fp => (soE kr x (c.blk s H scope0 C cl fp hk) f10).1)
        (foldSet f4 X.env) (kvE kr k).1 (kvE kr x).1 (kvTg kr tg) (kvIt kr it) (kvEs kr ifs).2
      rw [ow] at r
      exact r
    | _ => unfold okE at h3; first | cases h3 | (dsimp only [dName, dConst, dNeg, dNot, dBin, dCmp, dAnd, dOr, dIf, dTup, dLst, dSub, dCall, dC1, dC2, dM0, dM1, dM2, dComp, dChn] at h3; cases h3) | (have h4 := (and2 h3).2; cases h4)
  | _ => cases hv
mutual
theorem soS {n : Nat} {rc : Rc} {G : Gs} {N : List Str} (kr : KC rc) {osc sc : Scope} {X : Cx} (c : Cz n rc G N osc sc X) (hp : PassesOwn (model X.prog X.w) X.A X.env X.xe) (hsc : osc = sc) : ∀ (s : Pv.St) {x : Stmt}, okS G N sc s x = true → PS X x (tF X.K (evS rc s))
  | .expr a, x, h => by
    unfold okS at h
    split at h
    · obtain ⟨h1, h2⟩ := and2 h
      exact so_expr h1 (soE kr a c h2).1
    · cases h
  | .asg t a, x, h => by
    unfold okS at h
    split at h
    · rename_i tgt y p
      obtain ⟨h1, h2, h3, h4⟩ := and4 h
      have c' : Cz n rc G N sc sc X := hsc ▸ c
      rcases Bool.or_eq_true_iff.mp h4 with h4 | hd
      rcases Bool.or_eq_true_iff.mp h4 with h | h
      · rcases Bool.or_eq_true_iff.mp h with h | h
        · have r := asg_ok (X := X) (t := tgt) (x := y) (by rw [c.hsc]; exact c.kd) (by rw [c.hsc]; exact h)
          exact so_asg h2 (kvE kr a).1 (soE kr a c h3).1 (soTg kr t c' h1) (fun n => noSwapS r.1 _ _ _) r.2
        · have r := cell_ok (X := X) (t := tgt) (x := y) (by rw [c.hsc]; exact h)
          exact so_asg h2 (kvE kr a).1 (soE kr a c h3).1 (soTg kr t c' h1) r.1 r.2
      · exact soCA kr c' t a h1 h3 h
      · exact soDA kr c' t a h1 h3 hd
    · cases h
  | .aug i o a, x, h => by
    unfold okS at h
    split at h
    · rename_i s px op y p
      obtain ⟨h, h5⟩ := and2 h
      obtain ⟨h1, h2, h3, h4⟩ := and4 h
      rw [opB_is h1]
      have c' : Cz n rc G N sc sc X := hsc ▸ c
      have l := c'.loc h4 (by
        unfold locB at h4
        unfold cellB lclB
        split at h4
        · rename_i e; rw [e]; rfl
        · rename_i e; rw [e]; rfl
        · cases h4)
      exact so_aug h2 (c.hN ▸ c.nd) (c.slot h3) l.1 l.2 (soE kr a c h5).1
    · cases h
  | .augs a b o e, x, h => by
    unfold okS at h
    split at h
    · rename_i y z px op w p
      obtain ⟨h, h6⟩ := and2 h
      obtain ⟨h, h5⟩ := and2 h
      obtain ⟨h1, h2, h3, h4⟩ := and4 h
      rw [opB_is h1]
      exact so_augs h2 h3 (kvE kr a).1 (kvE kr b).1 (kvE kr e).1 (soE kr a c h4).1 (soE kr b c h5).1 (soE kr e c h6).1
    · cases h
  | .swap ts es, x, h => by
    unfold okS at h
    split at h
    · rename_i t kt pt v kv pv p
      obtain ⟨h1, h2⟩ := and2 h
      unfold swapB at h1
      split at h1
      · rename_i i j x px y py a b
        obtain ⟨h1, h8⟩ := and2 h1
        obtain ⟨h1, h7⟩ := and2 h1
        obtain ⟨h1, h6⟩ := and2 h1
        obtain ⟨h3, h4, h5⟩ := and3 h1
        have hij : i ≠ j := by intro e; subst e; simp at h5
        exact so_swap2 c.calm (c.hN ▸ c.nd) (c.slot h3) (c.slot h4) hij (by rw [c.hsc]; exact lcl_is h6) (by rw [c.hsc]; exact lcl_is h7) (soEs kr es c h2) (swap_is c.hsc c.kd (of_decide_eq_true h8))
      · rename_i i j k x px y py z pz a b d
        obtain ⟨h1, g10⟩ := and2 h1
        obtain ⟨h1, g9⟩ := and2 h1
        obtain ⟨h1, g8⟩ := and2 h1
        obtain ⟨h1, g7⟩ := and2 h1
        obtain ⟨h1, g6⟩ := and2 h1
        obtain ⟨h1, g5⟩ := and2 h1
        obtain ⟨g1, g2, g3, g4⟩ := and4 h1
        exact so_swap3 c.calm (c.hN ▸ c.nd) (c.slot g1) (c.slot g2) (c.slot g3) (by intro e; subst e; simp at g4) (by intro e; subst e; simp at g5) (by intro e; subst e; simp at g6) (by rw [c.hsc]; exact lcl_is g7) (by rw [c.hsc]; exact lcl_is g8) (by rw [c.hsc]; exact lcl_is g9) (soEs kr es c h2) (swap_is c.hsc c.kd (of_decide_eq_true g10))
      · cases h1
    · cases h
  | .ite t a b, x, h => by
    unfold okS at h
    split at h
    · obtain ⟨h1, h2, h3⟩ := and3 h
      exact so_if (kvE kr t).2 (soE kr t c h1).2 (soSs kr c hp hsc a h2) (soSs kr c hp hsc b h3)
    · cases h
  | .for t it b, x, h => by
    unfold okS at h
    split at h
    · obtain ⟨h1, h2, h3, h4⟩ := and4 h
      have c' : Cz n rc G N sc sc X := hsc ▸ c
      exact so_for hp c.calm (kvTg kr t) (kvIt kr it) (kvSs kr b) (soIt kr it c h2) (soTg kr t c' h3) (soSs kr c hp hsc b h4) (foldSet h1 X.env)
    · cases h
  | .while t b, x, h => by
    unfold okS at h
    split at h
    · obtain ⟨h1, h2⟩ := and2 h
      exact so_while hp (kvE kr t).2 (kvSs kr b) (soE kr t c h1).2 (soSs kr c hp hsc b h2)
    · cases h
  | .ret a, x, h => by
    unfold okS at h
    split at h
    · exact so_ret (soE kr a c h).1
    · cases h
  | .retn, x, h => by
    unfold okS at h
    split at h
    · exact so_retn
    · cases h
  | .brk, x, h => by
    unfold okS at h
    split at h
    · exact so_brk
    · cases h
  | .cont, x, h => by
    unfold okS at h
    split at h
    · exact so_cont
    · cases h
  | .pass, x, h => by
    unfold okS at h
    split at h
    · exact so_pass
    · cases h
  | .dput a b e, x, h => by
    unfold okS at h
    split at h
    · rename_i y z px w p
      obtain ⟨h1, h2, h3, h4⟩ := and4 h
      have hu : X.A.units + 1 < cLine := by have := c.room.un; omega
      exact so_dput hu (kvE kr e).1 (kvE kr a).1 (soE kr a c h2).1 (soE kr b c h3).1 (soE kr e c h4).1 (noSwap h1 _ _ _)
    · cases h
theorem soSs {n : Nat} {rc : Rc} {G : Gs} {N : List Str} (kr : KC rc) {osc sc : Scope} {X : Cx} (c : Cz n rc G N osc sc X) (hp : PassesOwn (model X.prog X.w) X.A X.env X.xe) (hsc : osc = sc) : ∀ (s : Ss) {xs : List Stmt}, okSs G N sc s xs = true → PSs X xs (tF X.K (evSs rc s))
  | .nil, [], _ => so_nil
  | .nil, _ :: _, h => by unfold okSs at h; cases h
  | .cons _ _, [], h => by unfold okSs at h; cases h
  | .cons s r, x :: xs, h => by
    unfold okSs at h
    obtain ⟨h1, h2⟩ := and2 h
    exact so_seq (kvS kr s) (soS kr c hp hsc s h1) (soSs kr c hp hsc r h2)
end
end Pv
set_option linter.all false
set_option autoImplicit false
set_option maxRecDepth 100000
/-! Every def keeps what the evaluator tells; a law's end. -/
namespace Pv
open PySem PySem.Spec PyProof.Rows
open L2 (V Hp HO upd upd_same upd_ne VK XK TE TT TA TS TG TGs TI Cx PE PT PW PA PS PSs PG PGs PI Inv RelV SqL SqT OpR CallR Gl Ends Vals Room FnOk CX0 E0 FunD FnScope cxOf)
/-- a def as it is met -/
structure Fn where
  name : Str
  st : Stmt
  N : List Str
  np : Nat
  body : Ss
  shapes : List (Nat × List Str × List Nat)
def Fn.args (f : Fn) : Arguments := L2.defArgs f.st
def Fn.code (f : Fn) : List Stmt := L2.defBody f.st
def Fn.scope (f : Fn) : Scope := L2.defScope f.st
def Fn.ps (f : Fn) : List Str := f.N.take f.np
def tOf (L : List Fn) : Nat → Option Df := fun i => (L[i]?).map fun f => ⟨f.name, f.np, f.N.length, f.body⟩
def gOf (L : List Fn) (frees : List Str) : Gs := ⟨L.map fun f => ⟨f.name, f.np, f.shapes⟩, frees⟩
def Fn.scB (f : Fn) : Bool := (match f.scope.kind with
  | .function => true
  | _ => false) && !f.scope.isCoroutine && !f.scope.isGenerator && decide f.N.Nodup && decide (f.np ≤ f.N.length) && f.ps.all (fun x => decide (f.scope.names.lookup x = some .local) || decide (f.scope.names.lookup x = some .cell)) && f.scope.names.all fun y => y.2 != .free
def Fn.chk (G : Gs) (f : Fn) : Bool := f.scB && okSs G f.N f.scope f.body f.code
theorem Fn.sc_ok {f : Fn} (h : f.scB = true) : FnScope f.N f.ps f.scope := by
  unfold Fn.scB at h
  obtain ⟨h, h7⟩ := and2 h
  obtain ⟨h, h6⟩ := and2 h
  obtain ⟨h, h5⟩ := and2 h
  obtain ⟨h1, h2, h3, h4⟩ := and4 h
  have hl : f.ps.length = f.np := by unfold Fn.ps; rw [List.length_take]; exact Nat.min_eq_left (of_decide_eq_true h5)
  refine ⟨?_, by simpa using h2, by simpa using h3, of_decide_eq_true h4, by rw [hl]; rfl, fun x hx => ?_, fun y hy => ?_⟩
  · split at h1
    · assumption
    · cases h1
  · have := List.all_eq_true.mp h6 x hx
    simpa using this
  · have := List.all_eq_true.mp h7 y hy
    simpa using this
theorem Fn.ps_len {f : Fn} (h : f.scB = true) : f.ps.length = f.np := by
  unfold Fn.scB at h
  obtain ⟨h, h7⟩ := and2 h
  obtain ⟨h, h6⟩ := and2 h
  obtain ⟨h, h5⟩ := and2 h
  unfold Fn.ps; rw [List.length_take]; exact Nat.min_eq_left (of_decide_eq_true h5)
/-- how a call's shape binds -/
def ShapeOk (f : Fn) (s : Nat × List Str × List Nat) : Prop := ∀ (kV doc pm : Value) (an : Option Addr) (cdv ct : Value) (us ws : List Value), us.length = s.1 → ws.length = s.2.1.length →
  bindArgs (PySem.W.fnOf f.name f.name f.args f.code f.scope .none kV doc pm an cdv ct) ⟨us, s.2.1.zip ws⟩ = pure (f.ps.zip (arr s.2.2 (us ++ ws)))
abbrev FnP (K : PySem.W.Frag) (f : Fn) (fa : Addr) (fd : FuncData) : Prop := FunD K f.name f.name f.args f.code f.scope [] [] fa fd
theorem bd_of {K : PySem.W.Frag} {f : Fn} {fa : Addr} {fd : FuncData} (F : FnP K f fa fd) {s : Nat × List Str × List Nat} (h : ShapeOk f s) : Bd K fd f.ps s.1 s.2.1 s.2.2 := by
  obtain ⟨oc, od, dV, kV, doc, pm, an, cdv, ct, osl, rfl, lk, hcd, hD, hK⟩ := F.ex
  rcases hD with ⟨_, rfl⟩ | ⟨e, _⟩
  · exact fun s us ws _ h1 h2 => .of_eq (h kV doc pm an cdv ct us ws h1 h2)
  · exact absurd rfl e
/-- the table lies as said -/
structure Tab (P : Program) (K : PySem.W.Frag) (mg : Str → Option Value) (L : List Fn) (frees : List Str) : Prop where
  fns : ∀ (i : Nat) (f : Fn), L[i]? = some f → ∃ fa fd, mg f.name = some (.ref fa) ∧ FnP K f fa fd
  frees : ∀ x ∈ frees, mg x = none
theorem env0_start {K : PySem.W.Frag} {H : Hp} {m : List Addr} {N : List Str} {ds : List D} {vs : List V} (h : RDs K H m ds vs) : RE K H m (env0 N.length ds) (L2.start N vs) := by
  have hl := h.length
  refine ⟨by unfold env0 L2.start; simp [hl], fun i x hx => ?_⟩
  unfold env0 at hx
  by_cases hi : i < ds.length
  · rw [List.getElem?_append_left (by simpa using hi), List.getElem?_map] at hx
    obtain ⟨y, hy, e⟩ := Option.map_eq_some_iff.mp hx
    cases e
    obtain ⟨v, hv, r⟩ := h.get hy
    refine ⟨v, ?_, r⟩
    unfold L2.start
    rw [List.getElem?_append_left (by simpa [← hl] using hi), List.getElem?_map, hv]
    rfl
  · rw [List.getElem?_append_right (by simpa using Nat.le_of_not_lt hi), List.getElem?_replicate] at hx
    split at hx <;> cases hx
theorem gOf_get {L : List Fn} {frees : List Str} {i : Nat} {d : Fs} (h : (gOf L frees).fns[i]? = some d) : ∃ f, L[i]? = some f ∧ (⟨f.name, f.np, f.shapes⟩ : Fs) = d := by
  have h : (L.map fun f : Fn => (⟨f.name, f.np, f.shapes⟩ : Fs))[i]? = some d := h
  rw [List.getElem?_map] at h
  exact Option.map_eq_some_iff.mp h
theorem fn_step {P : Program} {w : World} {K : PySem.W.Frag} {mg : Str → Option Value} {base : Heap} {L : List Fn} {frees : List Str} (tb : Tab P K mg L frees) (ck : ∀ f ∈ L, f.chk (gOf L frees) = true) {n : Nat} (ih : Fns P w K mg base n (callN (tOf L) n) (gOf L frees))
    {i : Nat} {f : Fn} {fa : Addr} {fd : FuncData} (hf : L[i]? = some f) (F : FnP K f fa fd) : FnOk P w K mg base CX0 (n + 1) fa fd f.ps (spN K (callN (tOf L) (n + 1)) f.np i) := by
  have hmem := List.mem_of_getElem? hf
  obtain ⟨hsc, hok⟩ := and2 (ck f hmem)
  have sc := Fn.sc_ok hsc
  refine F.ok sc (fun vs H Q E h => by rw [Fn.ps_len hsc]; exact h.1) (fun cdv A outer s H vs Q E hr h => ?_)
  obtain ⟨_, m, S, ds, r, S', R, rd, hc, q⟩ := h
  unfold callN at hc
  have hT : tOf L i = some ⟨f.name, f.np, f.N.length, f.body⟩ := by unfold tOf; rw [hf]; rfl
  rw [hT] at hc
  dsimp only at hc
  split at hc
  · obtain ⟨⟨fl, e', S1⟩, h1, hc⟩ := bind_ok hc
    obtain ⟨v, h2, hc⟩ := bind_ok hc
    have e1 : leave S.length v S1 = (r, S') := by injection hc
    have kr := kcN (tOf L) n
    have kp := kvSs kr f.body S.length _ S fl e' S1 (Nat.le_refl _) h1
    have wf : WF m.length S1 := by rw [R.len]; exact kp.wf _ (Nat.le_refl _) R.wf
    have out : ∀ (v' : V) (H' : Hp) (m' : List Addr), Le H m H' m' → Rl K m' H' S1 → RV K H H' m' v v' → Q v' H' := fun v' H' m' z R' rv => by
      obtain ⟨m2, z2, R2, r2⟩ := leave_ok z R' wf rv
      rw [R.len, e1] at R2 r2
      exact q v' H' m2 z2 R2 r2
    have cz : Cz n (callN (tOf L) n) (gOf L frees) f.N f.scope f.scope (cxOf CX0 P w K mg base f.N f.name f.scope fa cdv A outer s H E).nox :=
      ⟨rfl, sc.nd, rfl, sc.kind, rfl, hr, fun _ _ => rfl, fun x hx => tb.frees x hx, ih⟩
    refine ⟨tF K (evSs (callN (tOf L) n) f.body), PSs.nox (soSs kr cz PassesOwn.never rfl f.body hok), S.length, m, env0 f.N.length ds, S, fl, e', S1, Nat.le_refl _, R, env0_start rd, h1, ?_⟩
    cases fl with
    | nx =>
      cases (show some (Vl.d .non) = some v from by cases h2; rfl)
      exact fun σ' H' m' z R' E' => out .non H' m' z R' rfl
    | rt u =>
      cases (show some u = some v from by cases h2; rfl)
      exact fun z H' m' le R' rv => out z H' m' le R' rv
    | br => cases h2
    | ct => cases h2
  · cases hc
theorem fns_ok {P : Program} {w : World} {K : PySem.W.Frag} {mg : Str → Option Value} {base : Heap} {L : List Fn} {frees : List Str} (tb : Tab P K mg L frees) (ck : ∀ f ∈ L, f.chk (gOf L frees) = true) (sh : ∀ f ∈ L, ∀ s ∈ f.shapes, ShapeOk f s) : ∀ n, Fns P w K mg base n (callN (tOf L) n) (gOf L frees) := by
  intro n
  induction n with
  | zero =>
    intro i d hd
    obtain ⟨f, hf, e⟩ := gOf_get hd
    subst e
    obtain ⟨fa, fd, hm, F⟩ := tb.fns i f hf
    have hmem := List.mem_of_getElem? hf
    have hsc := (and2 (ck f hmem)).1
    exact ⟨fa, fd, f.ps, hm, F.kp, ⟨fun vs H Q E h => by rw [Fn.ps_len hsc]; exact h.1, fun A outer s H args us vs Q E _ _ _ _ h => by
      obtain ⟨_, m, S, ds, r, S', _, _, h, _⟩ := h
      cases h⟩, fun s hs => bd_of F (sh f hmem s hs)⟩
  | succ n ih =>
    intro i d hd
    obtain ⟨f, hf, e⟩ := gOf_get hd
    subst e
    obtain ⟨fa, fd, hm, F⟩ := tb.fns i f hf
    exact ⟨fa, fd, f.ps, hm, F.kp, fn_step tb ck ih hf F, fun s hs => bd_of F (sh f (List.mem_of_getElem? hf) s hs)⟩
end Pv
set_option linter.all false
set_option autoImplicit false
set_option maxRecDepth 100000
/-! A law's end: what the evaluator tells is what the law tells. -/
namespace Pv
open PySem PySem.Spec PyProof.Rows
open L2 (V Hp HO VK XK Cx RelV SqL Room FnOk CX0 E0 FunD FnScope)
def Fn.dd (f : Fn) : He.DefD := ⟨(f.name, none), f.name, f.name, f.args, f.code, f.scope, [], []⟩
def faOf (L : List Fn) (frees : List Str) : List He.Fa := L.map (fun f => .glo f.name) ++ frees.map .free
def fnO (L : List Fn) : List He.DefD := L.map Fn.dd
theorem tab_of {P : Program} {K : PySem.W.Frag} {h : Heap} {mg : Str → Option Value} {L : List Fn} {frees : List Str} (X : K.In h) (G : h.Ns mainGlobals mg) (c : He.SaysD (faOf L frees) (fnO L) K) : Tab P K mg L frees := by
  refine ⟨fun i f hf => ?_, fun x hx => ?_⟩
  · have h1 : (faOf L frees)[i]? = some (.glo f.name) := by
      unfold faOf
      rw [List.getElem?_append_left (by have := (List.getElem?_eq_some_iff.mp hf).1; simpa using this), List.getElem?_map, hf]
      rfl
    have h2 : (fnO L)[i]? = some f.dd := by unfold fnO; rw [List.getElem?_map, hf]; rfl
    obtain ⟨fd, F⟩ := c.def_ i (d := f.dd) h2
    exact ⟨_, fd, He.glo_ok X G (c.fact i (f := .glo f.name) h1), F⟩
  · obtain ⟨j, hj, e⟩ := List.mem_iff_getElem.mp hx
    have h1 : (faOf L frees)[L.length + j]? = some (.free x) := by
      unfold faOf
      rw [List.getElem?_append_right (by simp)]
      simp [hj, e]
    exact He.free_ok X G (c.fact _ (f := .free x) h1)
/-- the law's def, last of the table; k calls deep -/
theorem walk_law {l : PySem.W.OpenLaw} {n k lvl li : Nat} {q : Program} {loose : List Str} {XP : (Str → Option Value) → Heap → Prop} {d : DefRec} {L : List Fn} {frees : List Str} {f : Fn}
    (hn : l.most = some n) (hn2 : n ≤ sizeLine) (hdf : d.params.defaults = []) (hr : Room (k + 1) PySem.callerA) (hl0 : L[li]? = some f) (hdn : d.name = f.name) (hnp : f.np = 1) (x : Str) (hx : f.ps = [x])
    (hs : (1, [], [0]) ∈ f.shapes) (ck : ∀ f ∈ L, f.chk (gOf L frees) = true) (sh : ∀ f ∈ L, ∀ s ∈ f.shapes, ShapeOk f s)
    (law : ∀ ns : List Int, ns.length ≤ n → ∃ S', callN (tOf L) (k + 1) li [.scr ns] [] = .ok (.d (.bl true), S')) :
    PySem.W.WalkO q loose XP (He.hookD lvl (faOf L frees) (fnO L)).says l.row.toRowW d [] (fun f vs => PySem.call f vs) := by
  refine L2.walk_ofE (l := l) (n := n) (k := k + 1) (x := x) (CX := CX0) hn hn2 hdf hr (fun w mg fa h Y G hmg => ?_) (fun _ _ _ _ z => z)
  obtain ⟨K, KX, c⟩ := Y
  have tb : Tab l.prog K mg L frees := tab_of KX G c
  obtain ⟨fa', fd, hm, F⟩ := tb.fns li f hl0
  rw [hdn] at hmg
  have e : fa' = fa := by have := hm.symm.trans hmg; injection this with this; injection this
  subst e
  refine ⟨K, fd, spN K (callN (tOf L) (k + 1)) 1 li, KX, fun s u => ?_, fun H a ns hln hO hS => ?_, fun base _ _ => ?_⟩
  · have b := FunD.bindsA (ps := [x]) F (fun kV doc pm an cdv ct us hl => match us, hl with
      | [u], _ => by
        have h := sh f (List.mem_of_getElem? hl0) _ hs kV doc pm an cdv ct [u] [] rfl rfl
        rw [hx] at h
        exact h) s [u] rfl
    exact b
  · obtain ⟨S', hc⟩ := law ns hln
    refine ⟨rfl, [], [], [.scr ns], .d (.bl true), S', ⟨rfl, List.nodup_nil, fun l a o h => by cases h⟩, ⟨.ref a, [], rfl, ⟨a, rfl, ?_⟩, rfl⟩, hc, fun v H' m' z R' rv => rv⟩
    rcases hS with (h | ⟨o, h⟩) | h
    · rcases hO a with h' | ⟨o, xs, h'⟩ <;> rw [h] at h' <;> cases h'
    · exact .inl ⟨o, h⟩
    · exact .inr (.inr h)
  · have r := fn_step (base := base) (w := w) tb ck (fns_ok tb ck sh k) hl0 F
    rw [hx, hnp] at r
    exact r
end Pv
set_option linter.all false
set_option autoImplicit false
/-! Reasoning about runs of the evaluator. -/
namespace Pv
open PySem (Str)
def Ok {α : Type} (r : Rs α) (Q : α → Prop) : Prop := ∃ a, r = .ok a ∧ Q a
theorem Ok.ok {α : Type} {a : α} {Q : α → Prop} (h : Q a) : Ok (.ok a) Q := ⟨a, rfl, h⟩
theorem Ok.eq {α : Type} {r : Rs α} {a : α} {Q : α → Prop} (e : r = .ok a) (h : Q a) : Ok r Q := ⟨a, e, h⟩
theorem Ok.mono {α : Type} {r : Rs α} {P Q : α → Prop} (h : Ok r P) (k : ∀ a, P a → Q a) : Ok r Q := by
  obtain ⟨a, e, p⟩ := h
  exact ⟨a, e, k a p⟩
theorem Ok.bind {α β : Type} {r : Rs α} {f : α → Rs β} {Q : β → Prop} (h : Ok r fun a => Ok (f a) Q) : Ok (r >>= f) Q := by
  obtain ⟨a, e, b, e2, q⟩ := h
  exact ⟨b, by rw [e]; exact e2, q⟩
theorem Ok.ofO {α : Type} {o : Option α} {a : α} {Q : α → Prop} (e : o = some a) (h : Q a) : Ok (Rs.ofO o) Q := ⟨a, by rw [e]; rfl, h⟩
section
variable {T : Nat → Option Df} {n : Nat} {rc : Rc} {b : Nat} {e : Env} {S : Sto} {Q : Fl × Env × Sto → Prop}
theorem ok_nil (h : Q (.nx, e, S)) : Ok (evSs rc .nil b e S) Q := ⟨_, rfl, h⟩
theorem ok_seq {s : St} {r : Ss} (h : Ok (evS rc s b e S) fun q => match q.1 with
    | .nx => Ok (evSs rc r b q.2.1 q.2.2) Q
    | fl => Q (fl, q.2)) : Ok (evSs rc (.cons s r) b e S) Q := by
  obtain ⟨⟨fl, e1, S1⟩, h1, h2⟩ := h
  show Ok (evS rc s b e S >>= _) Q
  rw [h1]
  cases fl <;> first | exact h2 | exact ⟨_, rfl, h2⟩
theorem ok_expr {x : E} {r : Ss} (h : Ok ((evE rc x).v b e S) fun w => Ok (evSs rc r b e w.2) Q) : Ok (evSs rc (.cons (.expr x) r) b e S) Q := by
  refine ok_seq (Ok.bind (h.mono fun w hw => ?_))
  exact ⟨_, rfl, hw⟩
theorem ok_asg {i : Nat} {x : E} {r : Ss} (h : Ok ((evE rc x).v b e S) fun w => Ok (evSs rc r b (e.set i (some (settle w.1 w.2).1)) (settle w.1 w.2).2) Q) : Ok (evSs rc (.cons (.asg (.var i) x) r) b e S) Q := by
  refine ok_seq ?_
  show Ok (sD (evE rc x).v b e S >>= _) _
  refine Ok.bind (Ok.bind (h.mono fun w hw => ?_))
  exact ⟨_, rfl, ⟨_, rfl, hw⟩⟩
theorem ok_asgG {t : Tg} {x : E} {r : Ss} (h : Ok ((evE rc x).v b e S) fun w => Ok (evTg rc t b (settle w.1 w.2).1 e (settle w.1 w.2).2) fun q => Ok (evSs rc r b q.1 q.2) Q) : Ok (evSs rc (.cons (.asg t x) r) b e S) Q := by
  refine ok_seq ?_
  show Ok (sD (evE rc x).v b e S >>= _) _
  refine Ok.bind (Ok.bind (h.mono fun w hw => ?_))
  refine ⟨_, rfl, Ok.bind (hw.mono fun q hq => ?_)⟩
  exact ⟨_, rfl, hq⟩
theorem ok_ret {x : E} {r : Ss} (h : Ok ((evE rc x).v b e S) fun w => Q (.rt w.1, e, w.2)) : Ok (evSs rc (.cons (.ret x) r) b e S) Q := by
  refine ok_seq (Ok.bind (h.mono fun w hw => ?_))
  exact ⟨_, rfl, hw⟩
theorem ok_retn {r : Ss} (h : Q (.rt (.d .non), e, S)) : Ok (evSs rc (.cons .retn r) b e S) Q := ok_seq ⟨_, rfl, h⟩
theorem ok_brk {r : Ss} (h : Q (.br, e, S)) : Ok (evSs rc (.cons .brk r) b e S) Q := ok_seq ⟨_, rfl, h⟩
theorem ok_cont {r : Ss} (h : Q (.ct, e, S)) : Ok (evSs rc (.cons .cont r) b e S) Q := ok_seq ⟨_, rfl, h⟩
theorem ok_pass {r : Ss} (h : Ok (evSs rc r b e S) Q) : Ok (evSs rc (.cons .pass r) b e S) Q := ok_seq ⟨_, rfl, h⟩
/-- what follows an inner block -/
def Then (rc : Rc) (r : Ss) (b : Nat) (Q : Fl × Env × Sto → Prop) : Fl × Env × Sto → Prop := fun q => match q.1 with
    | .nx => Ok (evSs rc r b q.2.1 q.2.2) Q
    | fl => Q (fl, q.2)
theorem Then.nx {r : Ss} (h : Ok (evSs rc r b e S) Q) : Then rc r b Q (.nx, e, S) := h
theorem Then.rt {r : Ss} {v : Vl} (h : Q (.rt v, e, S)) : Then rc r b Q (.rt v, e, S) := h
theorem Then.br {r : Ss} (h : Q (.br, e, S)) : Then rc r b Q (.br, e, S) := h
theorem Then.ct {r : Ss} (h : Q (.ct, e, S)) : Then rc r b Q (.ct, e, S) := h
theorem ok_ite {c : E} {x y r : Ss} (h : Ok ((evE rc c).t b e S) fun k => (k.1 = true → Ok (evSs rc x b e k.2) (Then rc r b Q)) ∧ (k.1 = false → Ok (evSs rc y b e k.2) (Then rc r b Q))) : Ok (evSs rc (.cons (.ite c x y) r) b e S) Q := by
  refine ok_seq (Ok.bind (h.mono fun k hk => ?_))
  obtain ⟨k, S1⟩ := k
  cases k with
  | true => exact hk.1 rfl
  | false => exact hk.2 rfl
theorem ok_swap {ts : List Nat} {es : Es} {r : Ss} (h : Ok ((evEs rc es).1 b e S) fun w => w.1.length = ts.length ∧ Ok (evSs rc r b (setAll ts w.1 e) w.2) Q) : Ok (evSs rc (.cons (.swap ts es) r) b e S) Q := by
  refine ok_seq (Ok.bind (h.mono fun w hw => ?_))
  rw [if_pos hw.1]
  exact ⟨_, rfl, hw.2⟩
/-- a for loop: I of the items that are left -/
theorem ok_forL {c : Chk} {f : D → Env → Sto → Rs (Fl × Env × Sto)} {Q : Fl × Env × Sto → Prop} (I : List D → Env → Sto → Prop) (hc : ∀ xs e S, I xs e S → c.ok S)
    (h : ∀ x xs e S, I (x :: xs) e S → Ok (f x e S) fun r => match r.1 with
      | .nx => I xs r.2.1 r.2.2
      | .ct => I xs r.2.1 r.2.2
      | .br => Q (.nx, r.2)
      | .rt v => Q (.rt v, r.2)) (h0 : ∀ e S, I [] e S → Q (.nx, e, S)) : ∀ xs e S, I xs e S → Ok (forL c f xs e S) Q
  | [], e, S, hI => ⟨_, if_pos (hc _ _ _ hI), h0 e S hI⟩
  | x :: xs, e, S, hI => by
    obtain ⟨⟨fl, e1, S1⟩, h1, h2⟩ := h x xs e S hI
    unfold forL
    rw [if_pos (hc _ _ _ hI), h1]
    cases fl with
    | nx => exact ok_forL I hc h h0 xs e1 S1 h2
    | ct => exact ok_forL I hc h h0 xs e1 S1 h2
    | br => exact ⟨_, rfl, h2⟩
    | rt v => exact ⟨_, rfl, h2⟩
theorem ok_for {t : Tg} {it : It} {body r : Ss} (h : Ok (evIt rc it b e S) fun w => Ok (forL w.1.1 (fun d e S => evTg rc t b d e S >>= fun p => evSs rc body b p.1 p.2) w.1.2 e w.2) (Then rc r b Q)) : Ok (evSs rc (.cons (.for t it body) r) b e S) Q := by
  refine ok_seq ?_
  show Ok (evIt rc it b e S >>= _) _
  exact Ok.bind h
theorem ok_compL {c : Chk} {f : D → Sto → Rs (Option D × Sto)} {Q : List D × Sto → Prop} (I : List D → List D → Sto → Prop) (hc : ∀ xs ys S, I xs ys S → c.ok S)
    (h : ∀ x xs ys S, I (x :: xs) ys S → Ok (f x S) fun r => I xs (ys ++ r.1.toList) r.2) : ∀ xs ys S, I xs ys S → (∀ zs S', I [] (ys ++ zs) S' → Q (zs, S')) → Ok (compL c f xs S) Q
  | [], ys, S, hI, hQ => ⟨_, if_pos (hc _ _ _ hI), hQ [] S (by rw [List.append_nil]; exact hI)⟩
  | x :: xs, ys, S, hI, hQ => by
    obtain ⟨⟨o, S1⟩, h1, h2⟩ := h x xs ys S hI
    unfold compL
    rw [if_pos (hc _ _ _ hI), h1]
    refine Ok.bind (Ok.ok (Ok.bind ?_))
    refine Ok.mono (ok_compL (Q := fun r => Q (o.toList ++ r.1, r.2)) I hc h xs (ys ++ o.toList) S1 h2 fun zs S' hz => hQ _ _ (by rw [← List.append_assoc]; exact hz)) fun r hr => ⟨_, rfl, hr⟩
theorem ok_comp {x : E} {t : Tg} {it : It} {ifs : Es} {vs : List Nat} {Q : Vl × Sto → Prop} (h : Ok (evIt rc it b e S) fun w => Ok (compL w.1.1 (fun d S => evTg rc t b d (wipeE e vs) S >>= fun p => (evEs rc ifs).2 b p.1 p.2 >>= fun q => match q.1 with
        | true => sD (evE rc x).v b p.1 q.2 >>= fun v => .ok (some v.1, v.2)
        | false => .ok (none, q.2)) w.1.2 w.2) fun r => Q (.fr r.1, r.2)) : Ok ((evE rc (.comp x t it ifs vs)).v b e S) Q := by
  show Ok (evIt rc it b e S >>= _) _
  refine Ok.bind (h.mono fun w hw => Ok.bind (hw.mono fun r hr => ?_))
  exact ⟨_, rfl, hr⟩
theorem ok_call {f : Nat} {es ks : Es} {perm : List Nat} {Q : Vl × Sto → Prop} (h : Ok ((evEs rc es).1 S.length e S) fun r => Ok ((evEs rc ks).1 S.length e r.2) fun q => Ok (rc f (arr perm (r.1 ++ q.1)) q.2) fun w => Q (leave S.length w.1 w.2)) : Ok ((evE rc (.call f es ks perm)).v b e S) Q := by
  show Ok ((evEs rc es).1 S.length e S >>= _) _
  refine Ok.bind (h.mono fun r hr => Ok.bind (hr.mono fun q hq => Ok.bind (hq.mono fun w hw => ?_)))
  exact ⟨_, rfl, hw⟩
/-- a def, called -/
theorem ok_fn {f : Nat} {d : Df} {ds : List D} {Q : Vl × Sto → Prop} (hT : T f = some d) (hl : ds.length = d.np) (h : Ok (evSs (callN T n) d.body S.length (env0 d.nv ds) S) fun r => ∃ v, flV r.1 = some v ∧ Q (leave S.length v r.2.2)) : Ok (callN T (n + 1) f ds S) Q := by
  obtain ⟨⟨fl, e1, S1⟩, h1, v, hv, hq⟩ := h
  refine ⟨_, ?_, hq⟩
  show (match T f with
    | none => Rs.bad
    | some d => if ds.length = d.np then evSs (callN T n) d.body S.length (env0 d.nv ds) S >>= fun r => Rs.ofO (flV r.1) >>= fun v => .ok (leave S.length v r.2.2) else .bad) = _
  rw [hT]
  dsimp only
  rw [if_pos hl, h1]
  show Rs.ofO (flV fl) >>= _ = _
  rw [hv]
  rfl
end
@[simp] theorem le_line {n : Nat} (h : n ≤ 16777216) : n ≤ line := h
theorem lt_line {n : Nat} (h : n < 16777216) : n < line := h
/-- for i in range(k) -/
theorem ok_for0 {rc : Rc} {b : Nat} {e : Env} {S : Sto} {Q : Fl × Env × Sto → Prop} {t : Tg} {hi : E} {body r : Ss} {k : Int} (h : (evE rc hi).v b e S = .ok (.d (.int k), S)) (hk : k ≤ 1000000) (hk0 : -1000000 ≤ k) (h2 : Ok (forL [] (fun d e S => evTg rc t b d e S >>= fun p => evSs rc body b p.1 p.2) (rngD 0 k) e S) (Then rc r b Q)) : Ok (evSs rc (.cons (.for t (.rng .none hi) body) r) b e S) Q := by
  refine ok_for ?_
  refine Ok.eq (a := (([], rngD 0 k), S)) ?_ h2
  show ((Rs.ok (none, S) >>= fun p => sD (evE rc hi).v b e p.2 >>= _) >>= _) = _
  show ((((evE rc hi).v b e S >>= fun r => Rs.ok (settle r.1 r.2)) >>= _) >>= _) = _
  rw [h]
  show ((if (-4611686018427387904 ≤ (0 : Int) ∧ (0 : Int) < 4611686018427387904) ∧ (-4611686018427387904 ≤ k ∧ k < 4611686018427387904) then Rs.ok (((0 : Int), k), S) else .bad) >>= _) = _
  rw [if_pos ⟨by omega, by omega⟩]
  show (if (k - 0).toNat ≤ line then Rs.ok (([], rngD 0 k), S) else .bad) = _
  rw [if_pos (by unfold line; omega)]
theorem rngD_nil {lo hi : Int} (h : hi ≤ lo) : rngD lo hi = [] := by
  unfold rngD
  rw [show (hi - lo).toNat = 0 by omega]
  rfl
theorem rngD_cons {lo hi : Int} (h : lo < hi) : rngD lo hi = .int lo :: rngD (lo + 1) hi := by
  unfold rngD
  obtain ⟨k, hk⟩ : ∃ k, (hi - lo).toNat = k + 1 := ⟨(hi - lo).toNat - 1, by omega⟩
  rw [hk, show (hi - (lo + 1)).toNat = k by omega, List.range_succ_eq_map]
  simp [List.map_map, Function.comp_def]
  intro a _
  omega
/-- for i in range(lo, hi) -/
theorem ok_rng {f : D → Env → Sto → Rs (Fl × Env × Sto)} {Q : Fl × Env × Sto → Prop} {lo hi : Int} (I : Int → Env → Sto → Prop) (hl : lo ≤ hi)
    (h : ∀ i e S, lo ≤ i → i < hi → I i e S → Ok (f (.int i) e S) fun r => match r.1 with
      | .nx => I (i + 1) r.2.1 r.2.2
      | .ct => I (i + 1) r.2.1 r.2.2
      | .br => Q (.nx, r.2)
      | .rt v => Q (.rt v, r.2)) (h0 : ∀ e S, I hi e S → Q (.nx, e, S)) {e : Env} {S : Sto} (hI : I lo e S) : Ok (forL [] f (rngD lo hi) e S) Q := by
  refine ok_forL (fun xs e S => ∃ i, xs = rngD i hi ∧ lo ≤ i ∧ i ≤ hi ∧ I i e S) (fun _ _ _ _ p hp => by cases hp) ?_ ?_ _ _ _ ⟨lo, rfl, Int.le_refl _, hl, hI⟩
  · rintro x xs e S ⟨i, hx, i0, i1, hI⟩
    have hlt : i < hi := by
      rcases Int.lt_or_le i hi with z | z
      · exact z
      · rw [rngD_nil z] at hx; cases hx
    rw [rngD_cons hlt] at hx
    cases hx
    refine (h i e S i0 hlt hI).mono fun r hr => ?_
    obtain ⟨fl, e1, S1⟩ := r
    cases fl with
    | nx => exact ⟨i + 1, rfl, by omega, by omega, hr⟩
    | ct => exact ⟨i + 1, rfl, by omega, by omega, hr⟩
    | br => exact hr
    | rt v => exact hr
  · rintro e S ⟨i, hx, i0, i1, hI⟩
    have : i = hi := by
      rcases Int.lt_or_le i hi with z | z
      · rw [rngD_cons z] at hx; cases hx
      · omega
    subst this
    exact h0 e S hI
/-- for x in xs, the turns counted -/
theorem ok_cnt {c : Chk} {f : D → Env → Sto → Rs (Fl × Env × Sto)} {Q : Fl × Env × Sto → Prop} {xs : List D} (I : Nat → Env → Sto → Prop) (hc : ∀ k e S, I k e S → c.ok S)
    (h : ∀ k x e S, xs[k]? = some x → I k e S → Ok (f x e S) fun r => match r.1 with
      | .nx => I (k + 1) r.2.1 r.2.2
      | .ct => I (k + 1) r.2.1 r.2.2
      | .br => Q (.nx, r.2)
      | .rt v => Q (.rt v, r.2)) (h0 : ∀ e S, I xs.length e S → Q (.nx, e, S)) {e : Env} {S : Sto} (hI : I 0 e S) : Ok (forL c f xs e S) Q := by
  refine ok_forL (fun ys e S => ∃ k, ys = xs.drop k ∧ k ≤ xs.length ∧ I k e S) (fun _ _ _ ⟨k, _, _, hI⟩ => hc k _ _ hI) ?_ ?_ _ _ _ ⟨0, rfl, Nat.zero_le _, hI⟩
  · rintro x ys e S ⟨k, hx, hk, hI⟩
    have hlt : k < xs.length := by
      rcases Nat.lt_or_ge k xs.length with z | z
      · exact z
      · rw [List.drop_of_length_le z] at hx; cases hx
    rw [List.drop_eq_getElem_cons hlt] at hx
    injection hx with e1 e2
    subst e1
    subst e2
    refine (h k xs[k] e S (List.getElem?_eq_getElem hlt) hI).mono fun r hr => ?_
    obtain ⟨fl, e1, S1⟩ := r
    cases fl with
    | nx => exact ⟨k + 1, rfl, hlt, hr⟩
    | ct => exact ⟨k + 1, rfl, hlt, hr⟩
    | br => exact hr
    | rt v => exact hr
  · rintro e S ⟨k, hx, hk, hI⟩
    have : k = xs.length := by
      rcases Nat.lt_or_ge k xs.length with z | z
      · rw [List.drop_eq_getElem_cons z] at hx; cases hx
      · omega
    subst this
    exact h0 e S hI
/-- [.. for x in xs], the turns counted; ys: what stands in the list by then -/
theorem ok_ccnt {c : Chk} {f : D → Sto → Rs (Option D × Sto)} {Q : List D × Sto → Prop} {xs : List D} (I : Nat → List D → Sto → Prop) (hc : ∀ k ys S, I k ys S → c.ok S)
    (h : ∀ k x ys S, xs[k]? = some x → I k ys S → Ok (f x S) fun r => I (k + 1) (ys ++ r.1.toList) r.2) (h0 : ∀ ys S, I xs.length ys S → Q (ys, S)) {S : Sto} (hI : I 0 [] S) : Ok (compL c f xs S) Q := by
  refine ok_compL (fun zs ys S => ∃ k, zs = xs.drop k ∧ k ≤ xs.length ∧ I k ys S) (fun _ _ _ ⟨k, _, _, hI⟩ => hc k _ _ hI) ?_ xs [] S ⟨0, rfl, Nat.zero_le _, hI⟩ ?_
  · rintro x zs ys S ⟨k, hx, hk, hI⟩
    have hlt : k < xs.length := by
      rcases Nat.lt_or_ge k xs.length with z | z
      · exact z
      · rw [List.drop_of_length_le z] at hx; cases hx
    rw [List.drop_eq_getElem_cons hlt] at hx
    injection hx with e1 e2
    subst e1
    subst e2
    exact (h k xs[k] ys S (List.getElem?_eq_getElem hlt) hI).mono fun r hr => ⟨k + 1, rfl, hlt, hr⟩
  · rintro zs S ⟨k, hx, hk, hI⟩
    have : k = xs.length := by
      rcases Nat.lt_or_ge k xs.length with z | z
      · rw [List.drop_eq_getElem_cons z] at hx; cases hx
      · omega
    subst this
    exact h0 _ _ hI
theorem rngD_get {lo hi : Int} {k : Nat} {x : D} (h : (rngD lo hi)[k]? = some x) : x = .int (lo + k) ∧ lo + k < hi := by
  unfold rngD at h
  rw [List.getElem?_map] at h
  obtain ⟨y, h1, rfl⟩ := Option.map_eq_some_iff.mp h
  obtain ⟨h2, h3⟩ := List.getElem?_eq_some_iff.mp h1
  simp at h3
  simp at h2
  subst h3
  exact ⟨rfl, by omega⟩
theorem enumD_get {xs : List D} {k : Nat} {x : D} (h : (enumD xs)[k]? = some x) : ∃ d, x = .tup [.int k, d] ∧ xs[k]? = some d := by
  unfold enumD at h
  rw [List.getElem?_map] at h
  obtain ⟨p, h1, rfl⟩ := Option.map_eq_some_iff.mp h
  rw [List.getElem?_zipIdx] at h1
  obtain ⟨d, h2, rfl⟩ := Option.map_eq_some_iff.mp h1
  exact ⟨d, by simp, h2⟩
@[simp] theorem enumD_len (xs : List D) : (enumD xs).length = xs.length := by unfold enumD; simp
@[simp] theorem rngD_len (lo hi : Int) : (rngD lo hi).length = (hi - lo).toNat := by unfold rngD; simp
@[simp] theorem rs_assoc {α β γ : Type} (x : Rs α) (f : α → Rs β) (g : β → Rs γ) : (x >>= f) >>= g = x >>= fun a => f a >>= g := by cases x <;> rfl
/-! expressions, told by simp -/
section
variable {rc : Rc} {b : Nat} {e : Env} {S : Sto}
@[simp] theorem v_var (i : Nat) : (evE rc (.var i)).v b e S = match e[i]? with
    | some (some x) => .ok (.d x, S)
    | _ => .bad := rfl
@[simp] theorem v_cn (c : D) : (evE rc (.cn c)).v b e S = .ok (.d c, S) := rfl
@[simp] theorem v_neg (x : E) : (evE rc (.neg x)).v b e S = (evE rc x).v b e S >>= fun r => match r.1 with
    | .d (.int i) => .ok (.d (.int (-i)), r.2)
    | _ => .bad := rfl
@[simp] theorem v_not (x : E) : (evE rc (.not x)).v b e S = (evE rc x).v b e S >>= fun r => Rs.ofO (truth r.1 r.2) >>= fun k => .ok (.d (.bl (!k)), r.2) := rfl
@[simp] theorem v_bin (o : Bo) (x y : E) : (evE rc (.bin o x y)).v b e S = (evE rc x).v b e S >>= fun r => (evE rc y).v b e r.2 >>= fun q => Rs.ofO (binV o r.1 q.1 q.2) >>= fun v => .ok (v, q.2) := rfl
@[simp] theorem v_cmp (o : Co) (x y : E) : (evE rc (.cmp o x y)).v b e S = (evE rc x).v b e S >>= fun r => (evE rc y).v b e r.2 >>= fun q => Rs.ofO (cmpV o r.1 q.1 q.2) >>= fun k => .ok (.d (.bl k), q.2) := rfl
@[simp] theorem v_and (x y : E) : (evE rc (.and x y)).v b e S = (evE rc x).v b e S >>= fun r => Rs.ofO (truthD (settle r.1 r.2).1 (settle r.1 r.2).2) >>= fun k => match k with
    | true => (evE rc y).v b e (settle r.1 r.2).2
    | false => .ok (.d (settle r.1 r.2).1, (settle r.1 r.2).2) := by
  show (((evE rc x).v b e S >>= fun r => Rs.ok (settle r.1 r.2)) >>= _) = _
  cases (evE rc x).v b e S <;> rfl
@[simp] theorem v_or (x y : E) : (evE rc (.or x y)).v b e S = (evE rc x).v b e S >>= fun r => Rs.ofO (truthD (settle r.1 r.2).1 (settle r.1 r.2).2) >>= fun k => match k with
    | true => .ok (.d (settle r.1 r.2).1, (settle r.1 r.2).2)
    | false => (evE rc y).v b e (settle r.1 r.2).2 := by
  show (((evE rc x).v b e S >>= fun r => Rs.ok (settle r.1 r.2)) >>= _) = _
  cases (evE rc x).v b e S <;> rfl
@[simp] theorem v_ite (c x y : E) : (evE rc (.ite c x y)).v b e S = (evE rc c).t b e S >>= fun r => match r.1 with
    | true => (evE rc x).v b e r.2
    | false => (evE rc y).v b e r.2 := rfl
@[simp] theorem v_tup (es : Es) : (evE rc (.tup es)).v b e S = (evEs rc es).1 b e S >>= fun r => if r.1.length ≤ line then .ok (.d (.tup r.1), r.2) else .bad := rfl
@[simp] theorem v_lst (es : Es) : (evE rc (.lst es)).v b e S = (evEs rc es).1 b e S >>= fun r => if r.1.length ≤ line then .ok (.fr r.1, r.2) else .bad := rfl
theorem sD_b {f : DV} {α : Type} (g : D × Sto → Rs α) : (sD f b e S >>= g) = (f b e S >>= fun r => g (settle r.1 r.2)) := by
  show ((f b e S >>= fun r => Rs.ok (settle r.1 r.2)) >>= g) = _
  cases f b e S <;> rfl
@[simp] theorem v_idx (x y : E) : (evE rc (.idx x y)).v b e S = (evE rc x).v b e S >>= fun r => (evE rc y).v b e r.2 >>= fun q => Rs.ofO (idxV r.1 (settle q.1 q.2).1 (settle q.1 q.2).2) >>= fun v => .ok (.d v, (settle q.1 q.2).2) := by
  show ((evE rc x).v b e S >>= fun r => sD (evE rc y).v b e r.2 >>= _) = _
  cases (evE rc x).v b e S with
  | ok r => exact sD_b _
  | _ => rfl
@[simp] theorem v_sl (x : E) (lo hi : Oe) : (evE rc (.sl x lo hi)).v b e S = (evE rc x).v b e S >>= fun r => evO rc lo b e r.2 >>= fun p => evO rc hi b e p.2 >>= fun q => Rs.ofO (sliceV r.1 p.1 q.1 q.2) >>= fun v => .ok (v, q.2) := rfl
@[simp] theorem v_rev (x : E) : (evE rc (.rev x)).v b e S = (evE rc x).v b e S >>= fun r => Rs.ofO (revV r.1 r.2) >>= fun v => .ok (v, r.2) := rfl
@[simp] theorem v_f1 (o : F1) (x : E) : (evE rc (.f1 o x)).v b e S = (evE rc x).v b e S >>= fun r => Rs.ofO (app1 o r.1 r.2) >>= fun v => .ok (v, r.2) := rfl
@[simp] theorem v_f2 (o : F2) (x y : E) : (evE rc (.f2 o x y)).v b e S = (evE rc x).v b e S >>= fun r => (evE rc y).v b e (settle r.1 r.2).2 >>= fun q => Rs.ofO (app2 o (settle r.1 r.2).1 (settle q.1 q.2).1) >>= fun v => .ok (.d v, (settle q.1 q.2).2) := by
  show (sD (evE rc x).v b e S >>= _) = _
  rw [sD_b]
  cases (evE rc x).v b e S with
  | ok r => exact sD_b _
  | _ => rfl
@[simp] theorem v_isi (x : E) (t : Ty) : (evE rc (.isi x t)).v b e S = (evE rc x).v b e S >>= fun r => Rs.ofO (isTy (settle r.1 r.2).1 t (settle r.1 r.2).2) >>= fun k => .ok (.d (.bl k), (settle r.1 r.2).2) := sD_b _
@[simp] theorem v_m1 (m : M1) (x y : E) : (evE rc (.m1 m x y)).v b e S = (evE rc x).v b e S >>= fun r => Rs.ofO (recv (settle r.1 r.2).1 (settle r.1 r.2).2) >>= fun _ => (evE rc y).v b e (settle r.1 r.2).2 >>= fun q => meth1 b m (settle r.1 r.2).1 (settle q.1 q.2).1 (settle q.1 q.2).2 := by
  show (sD (evE rc x).v b e S >>= _) = _
  rw [sD_b]
  cases (evE rc x).v b e S with
  | ok r =>
    show (Rs.ofO _ >>= fun _ => _) = (Rs.ofO _ >>= fun _ => _)
    cases (recv (settle r.1 r.2).1 (settle r.1 r.2).2) with
    | none => rfl
    | some u => exact sD_b _
  | _ => rfl
@[simp] theorem v_m0 (m : M0) (x : E) : (evE rc (.m0 m x)).v b e S = (evE rc x).v b e S >>= fun r => meth0 m (settle r.1 r.2).1 (settle r.1 r.2).2 := sD_b _
@[simp] theorem l_nil : (evEs rc .nil).1 b e S = .ok ([], S) := rfl
@[simp] theorem l_cons (x : E) (es : Es) : (evEs rc (.cons x es)).1 b e S = (evE rc x).v b e S >>= fun r => (evEs rc es).1 b e (settle r.1 r.2).2 >>= fun q => .ok ((settle r.1 r.2).1 :: q.1, q.2) := sD_b _
theorem i_rng0 (hi : E) {k : Int} (h : (evE rc hi).v b e S = .ok (.d (.int k), S)) (hk : k ≤ 1000000) (hk0 : -1000000 ≤ k) : evIt rc (.rng .none hi) b e S = .ok (([], rngD 0 k), S) := by
  show (((Rs.ok (none, S) >>= fun p => sD (evE rc hi).v b e p.2 >>= _) >>= _) : Rs ((Chk × List D) × Sto)) = _
  show (((((evE rc hi).v b e S >>= fun r => Rs.ok (settle r.1 r.2)) >>= _) >>= _) : Rs ((Chk × List D) × Sto)) = _
  rw [h]
  show ((if (-4611686018427387904 ≤ (0 : Int) ∧ (0 : Int) < 4611686018427387904) ∧ (-4611686018427387904 ≤ k ∧ k < 4611686018427387904) then Rs.ok (((0 : Int), k), S) else .bad) >>= _) = _
  rw [if_pos ⟨by omega, by omega⟩]
  show (if (k - 0).toNat ≤ line then _ else Rs.bad) = _
  rw [if_pos (by unfold line; omega)]
theorem v_mkr0 (t : F1) (hi : E) {k : Int} (h : (evE rc hi).v b e S = .ok (.d (.int k), S)) (hk : k ≤ 1000000) (hk0 : -1000000 ≤ k) (ht : t = .list ∨ t = .tuple) : (evE rc (.mkr t .none hi)).v b e S = .ok (if t = .list then .fr (rngD 0 k) else .d (.tup (rngD 0 k)), S) := by
  show (((Rs.ok (none, S) >>= fun p => sD (evE rc hi).v b e p.2 >>= _) >>= _) : Rs (Vl × Sto)) = _
  show (((((evE rc hi).v b e S >>= fun r => Rs.ok (settle r.1 r.2)) >>= _) >>= _) : Rs (Vl × Sto)) = _
  rw [h]
  show ((if (-4611686018427387904 ≤ (0 : Int) ∧ (0 : Int) < 4611686018427387904) ∧ (-4611686018427387904 ≤ k ∧ k < 4611686018427387904) then Rs.ok (((0 : Int), k), S) else .bad) >>= _) = _
  rw [if_pos ⟨by omega, by omega⟩]
  show (if (k - 0).toNat ≤ line then _ else Rs.bad) = _
  rw [if_pos (by unfold line; omega)]
  rcases ht with rfl | rfl <;> rfl
@[simp] theorem e2_nil : (evEs rc .nil).2 b e S = .ok (true, S) := rfl
@[simp] theorem e2_cons (x : E) (es : Es) : (evEs rc (.cons x es)).2 b e S = (evE rc x).t b e S >>= fun r => match r.1 with
    | true => (evEs rc es).2 b e r.2
    | false => .ok (false, r.2) := rfl
@[simp] theorem sD_ap (f : DV) : sD f b e S = f b e S >>= fun r => .ok (settle r.1 r.2) := rfl
@[simp] theorem t_var (i : Nat) : (evE rc (.var i)).t b e S = (evE rc (.var i)).v b e S >>= fun r => Rs.ofO (truth r.1 r.2) >>= fun k => .ok (k, r.2) := rfl
@[simp] theorem t_cmp (o : Co) (x y : E) : (evE rc (.cmp o x y)).t b e S = (evE rc (.cmp o x y)).v b e S >>= fun r => Rs.ofO (truth r.1 r.2) >>= fun k => .ok (k, r.2) := rfl
@[simp] theorem t_isi (x : E) (t : Ty) : (evE rc (.isi x t)).t b e S = (evE rc (.isi x t)).v b e S >>= fun r => Rs.ofO (truth r.1 r.2) >>= fun k => .ok (k, r.2) := rfl
@[simp] theorem t_idx (x y : E) : (evE rc (.idx x y)).t b e S = (evE rc (.idx x y)).v b e S >>= fun r => Rs.ofO (truth r.1 r.2) >>= fun k => .ok (k, r.2) := rfl
@[simp] theorem t_f1 (o : F1) (x : E) : (evE rc (.f1 o x)).t b e S = (evE rc (.f1 o x)).v b e S >>= fun r => Rs.ofO (truth r.1 r.2) >>= fun k => .ok (k, r.2) := rfl
@[simp] theorem t_bin (o : Bo) (x y : E) : (evE rc (.bin o x y)).t b e S = (evE rc (.bin o x y)).v b e S >>= fun r => Rs.ofO (truth r.1 r.2) >>= fun k => .ok (k, r.2) := rfl
theorem t_call (f : Nat) (es ks : Es) (perm : List Nat) : (evE rc (.call f es ks perm)).t b e S = (evE rc (.call f es ks perm)).v b e S >>= fun r => Rs.ofO (truth r.1 r.2) >>= fun k => .ok (k, r.2) := rfl
@[simp] theorem t_not (x : E) : (evE rc (.not x)).t b e S = (evE rc x).t b e S >>= fun r => .ok (!r.1, r.2) := rfl
@[simp] theorem t_and (x y : E) : (evE rc (.and x y)).t b e S = (evE rc x).t b e S >>= fun r => match r.1 with
    | true => (evE rc y).t b e r.2
    | false => .ok (false, r.2) := rfl
@[simp] theorem t_or (x y : E) : (evE rc (.or x y)).t b e S = (evE rc x).t b e S >>= fun r => match r.1 with
    | true => .ok (true, r.2)
    | false => (evE rc y).t b e r.2 := rfl
@[simp] theorem o_none : evO rc .none b e S = .ok (none, S) := rfl
@[simp] theorem o_some (x : E) : evO rc (.some x) b e S = (evE rc x).v b e S >>= fun r => Rs.ofO (intO (settle r.1 r.2).1) >>= fun i => .ok (some i, (settle r.1 r.2).2) := sD_b _
@[simp] theorem i_e (x : E) : evIt rc (.e x) b e S = (evE rc x).v b e S >>= fun r => Rs.ofO (items r.1 r.2) >>= fun xs => .ok ((chkOf r.1 r.2, xs), r.2) := rfl
@[simp] theorem i_enum (x : E) : evIt rc (.enum x) b e S = (evE rc x).v b e S >>= fun r => Rs.ofO (items r.1 r.2) >>= fun xs => .ok ((chkOf r.1 r.2, enumD xs), r.2) := rfl
@[simp] theorem i_rev (x : E) : evIt rc (.rev x) b e S = (evE rc x).v b e S >>= fun r => Rs.ofO (items r.1 r.2) >>= fun xs => .ok ((chkOf r.1 r.2, xs.reverse), r.2) := rfl
@[simp] theorem i_zip (x y : E) : evIt rc (.zip x y) b e S = (evE rc x).v b e S >>= fun r => (evE rc y).v b e r.2 >>= fun q => Rs.ofO (items r.1 q.2) >>= fun xs => Rs.ofO (items q.1 q.2) >>= fun ys => if (!(tupO q.1).isSome || (tupO r.1).isSome) = true then .ok ((chkOf r.1 q.2 ++ chkOf q.1 q.2, zipD xs ys), q.2) else .bad := rfl
@[simp] theorem i_rng (lo : Oe) (hi : E) : evIt rc (.rng lo hi) b e S = (evO rc lo b e S >>= fun p => (evE rc hi).v b e p.2 >>= fun q => Rs.ofO (intO (settle q.1 q.2).1) >>= fun j =>
    if (-4611686018427387904 ≤ p.1.getD 0 ∧ p.1.getD 0 < 4611686018427387904) ∧ (-4611686018427387904 ≤ j ∧ j < 4611686018427387904) then Rs.ok ((p.1.getD 0, j), (settle q.1 q.2).2) else .bad) >>= fun r => if (r.1.2 - r.1.1).toNat ≤ line then .ok (([], rngD r.1.1 r.1.2), r.2) else .bad := by
  show ((evO rc lo b e S >>= fun p => sD (evE rc hi).v b e p.2 >>= _) >>= _) = _
  cases evO rc lo b e S with
  | ok p =>
    show ((sD (evE rc hi).v b e p.2 >>= _) >>= _) = _
    rw [sD_b]
    rfl
  | _ => rfl
@[simp] theorem g_var (i : Nat) (x : D) : evTg rc (.var i) b x e S = .ok (e.set i (some x), S) := rfl
@[simp] theorem g_tup (ts : Tgs) (xs : List D) : evTg rc (.tup ts) b (.tup xs) e S = evTgs rc ts b xs e S := rfl
@[simp] theorem g_sub (o i : E) (x : D) : evTg rc (.sub o i) b x e S = (evE rc o).v b e S >>= fun r => (evE rc i).v b e (settle r.1 r.2).2 >>= fun q => setI b (settle r.1 r.2).1 (settle q.1 q.2).1 x (settle q.1 q.2).2 >>= fun S => .ok (e, S) := by
  show (sD (evE rc o).v b e S >>= _) = _
  rw [sD_b]
  cases (evE rc o).v b e S with
  | ok r => exact sD_b _
  | _ => rfl
@[simp] theorem g_nil : evTgs rc .nil b [] e S = .ok (e, S) := rfl
@[simp] theorem g_cons (t : Tg) (ts : Tgs) (x : D) (xs : List D) : evTgs rc (.cons t ts) b (x :: xs) e S = evTg rc t b x e S >>= fun r => evTgs rc ts b xs r.1 r.2 := rfl
@[simp] theorem env0_eq (nv : Nat) (ds : List D) : env0 nv ds = ds.map some ++ List.replicate (nv - ds.length) none := rfl
@[simp] theorem idxV_int (x : Vl) (i : Int) (S : Sto) : idxV x (.int i) S = (items x S).bind fun xs => atI xs i := rfl
@[simp] theorem itemsD_loc (l : Nat) (S : Sto) : itemsD (.loc l) S = match S[l]? with
  | some (.lst xs) => some xs
  | _ => none := rfl
@[simp] theorem atI_0 (x : D) (xs : List D) : atI (x :: xs) 0 = some x := atI_nat (j := 0) rfl
@[simp] theorem atI_1 (x y : D) (xs : List D) : atI (x :: y :: xs) 1 = some y := atI_nat (j := 1) rfl
@[simp] theorem atI_2 (x y z : D) (xs : List D) : atI (x :: y :: z :: xs) 2 = some z := atI_nat (j := 2) rfl
@[simp] theorem app_int (i : Int) (S : Sto) : app1 .int (.d (.int i)) S = some (.d (.int i)) := rfl
@[simp] theorem app_abs (i : Int) (S : Sto) : app1 .abs (.d (.int i)) S = some (.d (.int (if i < 0 then -i else i))) := rfl
@[simp] theorem app_len (x : Vl) (S : Sto) : app1 .len x S = (items x S).map fun xs => .d (.int xs.length) := rfl
@[simp] theorem app_tuple (x : Vl) (S : Sto) : app1 .tuple x S = (items x S).map fun xs => .d (.tup xs) := rfl
@[simp] theorem app_list (x : Vl) (S : Sto) : app1 .list x S = (items x S).map fun xs => .fr xs := rfl
open Classical in
theorem setI_int (l : Nat) (i : Int) (x : D) : setI b (.loc l) (.int i) x S = match S[l]? with
    | some (.lst xs) => match ixN xs.length i with
      | some j => if wr b l x then .ok (S.set l (.lst (xs.set j x))) else .bad
      | none => .bad
    | _ => .bad := rfl
open Classical in
theorem meth_append (l : Nat) (x : D) : meth1 b .append (.loc l) x S = match S[l]? with
    | some (.lst xs) => if xs.length < line ∧ wr b l x then .ok (.d .non, S.set l (.lst (xs ++ [x]))) else .bad
    | _ => .bad := rfl
theorem meth_app {l : Nat} {x : D} {xs : List D} (h : S[l]? = some (.lst xs)) (hl : xs.length < 16777216) (hw : wr b l x) : meth1 b .append (.loc l) x S = .ok (.d .non, S.set l (.lst (xs ++ [x]))) := by
  rw [meth_append, h]
  exact if_pos ⟨hl, hw⟩
theorem set_at {l : Nat} {o o2 : O} (h : S[l]? = some o) : (S.set l o2)[l]? = some o2 := List.getElem?_set_self (List.getElem?_eq_some_iff.mp h).1
theorem set_ne {l k : Nat} {o : Option O} {o2 : O} (h : S[k]? = o) (hk : l ≠ k) : (S.set l o2)[k]? = o := by rw [List.getElem?_set_ne hk]; exact h
theorem push_lt {k : Nat} {o : O} {T : Sto} (h : S[k]? = some o) : (S ++ T)[k]? = some o := by rw [List.getElem?_append_left (List.getElem?_eq_some_iff.mp h).1]; exact h
theorem push_at {o : O} : (S ++ [o])[S.length]? = some o := by simp
theorem at_lt {k : Nat} {o : O} (h : S[k]? = some o) : k < S.length := (List.getElem?_eq_some_iff.mp h).1
@[simp] theorem ixN_0 (n : Nat) : ixN (n + 1) 0 = some 0 := by unfold ixN; simp
@[simp] theorem ixN_1 (n : Nat) : ixN (n + 2) 1 = some 1 := by unfold ixN; simp; omega
@[simp] theorem wr_int (l : Nat) (i : Int) : wr b l (.int i) := .inl rfl
@[simp] theorem wr_non (l : Nat) : wr b l .non := .inl rfl
@[simp] theorem wr_own (l : Nat) (x : D) (h : b ≤ l) : wr b l x := .inr h
end
/-! what a run leaves of the store -/
theorem leave_pure {n : Nat} {x : D} {S : Sto} (h : x.pure = true) : leave n (.d x) S = (.d x, S.take n) := by
  cases x with
  | loc l => cases h
  | non => rfl
  | bl b => rfl
  | int i => rfl
  | str s => rfl
  | scr ns => rfl
  | tup xs =>
    show (if D.ub n (.tup xs) then _ else _) = _
    rw [if_pos (pure_ub h)]
@[simp] theorem chkOf_tup (xs : List D) (S : Sto) : chkOf (.d (.tup xs)) S = [] := rfl
@[simp] theorem chkOf_fr (xs : List D) (S : Sto) : chkOf (.fr xs) S = [] := rfl
@[simp] theorem chkOf_scr (ns : List Int) (S : Sto) : chkOf (.d (.scr ns)) S = [] := rfl
theorem chkOf_loc (l : Nat) (S : Sto) : chkOf (.d (.loc l)) S = match S[l]? with
    | some o => [(l, o)]
    | none => [] := rfl
theorem chk_nil (S : Sto) : Chk.ok [] S := fun p hp => by cases hp
theorem chk_one {l : Nat} {o : O} {S : Sto} (h : S[l]? = some o) : Chk.ok [(l, o)] S := fun p hp => by
  cases List.mem_singleton.mp hp
  exact h
@[simp] theorem isD_non (x : D) : isD x .non = some (match x with
  | .non => true
  | _ => false) := by cases x <;> rfl
@[simp] theorem isD_int (i : Int) (b : Bool) : isD (.int i) (.bl b) = some false := rfl
@[simp] theorem isTy_int (i : Int) (t : Ty) (S : Sto) : isTy (.int i) t S = some (t == .int) := rfl
@[simp] theorem isTy_non (t : Ty) (S : Sto) : isTy .non t S = some false := rfl
@[simp] theorem isTy_bl (b : Bool) (t : Ty) (S : Sto) : isTy (.bl b) t S = some (t == .bool || t == .int) := rfl
@[simp] theorem isTy_tup (xs : List D) (t : Ty) (S : Sto) : isTy (.tup xs) t S = some (t == .tuple) := rfl
@[simp] theorem scalEq_int (i j : Int) : scalEq (.int i) (.int j) = some (i == j) := rfl
@[simp] theorem scalEq_non : scalEq .non .non = some true := rfl
@[simp] theorem scalEq_in (i : Int) : scalEq (.int i) .non = some false := rfl
@[simp] theorem scalEq_ni (i : Int) : scalEq .non (.int i) = some false := rfl
@[simp] theorem leave_non (n : Nat) (S : Sto) : leave n (.d .non) S = (.d .non, S.take n) := rfl
@[simp] theorem leave_bl (n : Nat) (b : Bool) (S : Sto) : leave n (.d (.bl b)) S = (.d (.bl b), S.take n) := rfl
@[simp] theorem leave_int (n : Nat) (i : Int) (S : Sto) : leave n (.d (.int i)) S = (.d (.int i), S.take n) := rfl
@[simp] theorem leave_str (n : Nat) (i : Str) (S : Sto) : leave n (.d (.str i)) S = (.d (.str i), S.take n) := rfl
@[simp] theorem take_self (S : Sto) : S.take S.length = S := List.take_length
@[simp] theorem take_set (S : Sto) (l : Nat) (o : O) : (S.set l o).take S.length = S.set l o := List.take_of_length_le (by simp)
theorem atI_of {xs : List D} {i : Int} (h : 0 ≤ i) (h2 : i < xs.length) : ∃ x, x ∈ xs ∧ atI xs i = some x ∧ xs[i.toNat]? = some x := by
  obtain ⟨j, rfl⟩ := Int.eq_ofNat_of_zero_le h
  have hj : j < xs.length := by omega
  exact ⟨xs[j], List.getElem_mem _, atI_nat (List.getElem?_eq_getElem hj), by simp⟩
theorem pureL_of {xs : List D} (h : ∀ x ∈ xs, x.pure = true) : pureL xs = true := by
  induction xs with
  | nil => rfl
  | cons x xs ih =>
    show (x.pure && pureL xs) = true
    rw [h x (by simp), ih fun y hy => h y (by simp [hy])]
    rfl
theorem pure_ints (ns : List Int) : (D.tup (ns.map .int)).pure = true := pureL_of (by simp; intro _ _; rfl)
theorem cut_take {xs : List D} {p : Int} (h : 0 ≤ p) : cut xs none (some p) = xs.take p.toNat := by
  unfold cut sIx
  simp [Int.not_lt.mpr h]
theorem cut_drop {xs : List D} {p : Int} (h : 0 ≤ p) : cut xs (some p) none = xs.drop p.toNat := by
  unfold cut sIx
  simp [Int.not_lt.mpr h]
  by_cases h2 : p.toNat ≤ xs.length
  · rw [Nat.min_eq_left h2]
    exact List.take_of_length_le (by simp)
  · rw [Nat.min_eq_right (by omega), List.drop_of_length_le (Nat.le_refl _), List.drop_of_length_le (show xs.length ≤ p.toNat by omega)]
    simp
@[simp] theorem slice_tup (xs : List D) (lo hi : Option Int) (S : Sto) : sliceV (.d (.tup xs)) lo hi S = some (.d (.tup (cut xs lo hi))) := rfl
@[simp] theorem intO_int (i : Int) : intO (.int i) = some i := rfl
theorem inF_non {xs : List D} : inF .non xs = true ↔ ∃ x ∈ xs, x = .non := by
  unfold inF
  rw [List.any_eq_true]
  constructor
  · rintro ⟨x, hx, h⟩
    refine ⟨x, hx, ?_⟩
    cases x <;> first | rfl | cases h
  · rintro ⟨x, hx, rfl⟩
    exact ⟨_, hx, rfl⟩
theorem inG_tup {x : D} {xs : List D} {S : Sto} (h : flat x = true) (h2 : xs.all flat = true) : inG x (.d (.tup xs)) S = some (inF x xs) := by
  unfold inG inV
  simp [h]
  rw [if_pos (by simpa using h2)]
  rfl
/-! == of lists of whole numbers -/
theorem mapO_ints (n : Nat) (S : Sto) : ∀ ns : List Int, mapO (pyD (n + 1) S) (ns.map .int) = some (ns.map .int)
  | [] => rfl
  | i :: ns => by
    show ((pyD (n + 1) S (.int i)).bind fun y => (mapO (pyD (n + 1) S) (ns.map .int)).map (y :: ·)) = _
    rw [mapO_ints n S ns]
    rfl
theorem lay_ints : ∀ ns : List Int, PySem.PyData.canLayAll0 (ns.map .int) = true
  | [] => rfl
  | i :: ns => by
    show (PySem.PyData.canLay0 (.int i) && PySem.PyData.canLayAll0 (ns.map .int)) = true
    rw [lay_ints ns]
    rfl
theorem depth_ints : ∀ ns : List Int, PySem.PyData.depthAll (ns.map .int) ≤ 1
  | [] => by decide
  | i :: ns => by
    have := depth_ints ns
    show max (PySem.PyData.depth (.int i)) (PySem.PyData.depthAll (ns.map .int)) ≤ 1
    have h1 : PySem.PyData.depth (.int i) ≤ 1 := by unfold PySem.PyData.depth; omega
    omega
theorem shaped_ints (ns : List Int) : PySem.SeqAt.shaped (.list (ns.map .int)) = true := by
  have h1 := lay_ints ns
  have h2 := depth_ints ns
  have h3 : PySem.PyData.depth (.list (ns.map .int)) ≤ 64 := by
    show PySem.PyData.depthAll (ns.map .int) + 1 ≤ 64
    omega
  show (PySem.PyData.canLayAll0 (ns.map .int) && decide (PySem.PyData.depth (.list (ns.map .int)) ≤ 64)) = true
  rw [h1, decide_eq_true h3]
  rfl
theorem eq_nil {p : Nat} {S : Sto} {ns : List Int} (h : S[p]? = some (.lst (ns.map .int))) : deepEq (.d (.loc p)) (.fr []) S = some ns.isEmpty := by
  have h1 : pyD pyF S (.loc p) = some (.list (ns.map .int)) := by
    show (match S[p]? with
      | some (.lst xs) => (mapO (pyD 11 S) xs).map PySem.PyData.list
      | _ => none) = _
    rw [h]
    show (mapO (pyD 11 S) (ns.map .int)).map PySem.PyData.list = _
    rw [mapO_ints]
    rfl
  show ((pyD pyF S (.loc p)).bind fun p => (some (PySem.PyData.list [])).bind fun q => if PySem.SeqAt.shaped p = true ∧ PySem.SeqAt.shaped q = true then some (PySem.PyData.eqv p q) else none) = _
  rw [h1]
  show (if PySem.SeqAt.shaped (.list (ns.map .int)) = true ∧ PySem.SeqAt.shaped (.list []) = true then some (PySem.PyData.eqv (.list (ns.map .int)) (.list [])) else none) = _
  rw [if_pos ⟨shaped_ints ns, shaped_ints []⟩]
  cases ns <;> rfl
theorem take_le {S : Sto} {n : Nat} (h : S.length ≤ n) : S.take n = S := List.take_of_length_le h
/-! ### draws: a box of two whole numbers -/
def Bx (S : Sto) (l : Nat) : Prop := ∃ a b : Int, S[l]? = some (.lst [.int a, .int b])
theorem Bx.lt {S : Sto} {l : Nat} (h : Bx S l) : l < S.length := by
  obtain ⟨a, b, h⟩ := h
  exact (List.getElem?_eq_some_iff.mp h).1
/-- a draw moves the box alone -/
structure Fr (l : Nat) (S S' : Sto) : Prop where
  len : S'.length = S.length
  rest : ∀ j, j ≠ l → S'[j]? = S[j]?
  bx : Bx S' l
theorem Fr.refl {l : Nat} {S : Sto} (h : Bx S l) : Fr l S S := ⟨rfl, fun _ _ => rfl, h⟩
theorem Fr.trans {l : Nat} {S S1 S2 : Sto} (x : Fr l S S1) (y : Fr l S1 S2) : Fr l S S2 := ⟨y.len.trans x.len, fun j h => (y.rest j h).trans (x.rest j h), y.bx⟩
theorem Fr.at {l k : Nat} {S S' : Sto} {o : Option O} (x : Fr l S S') (h : S[k]? = o) (hk : k ≠ l) : S'[k]? = o := by rw [x.rest k hk]; exact h
theorem Fr.set {l : Nat} {S : Sto} {a b : Int} (h : l < S.length) : Fr l S (S.set l (.lst [.int a, .int b])) := ⟨by simp, fun j hj => by rw [List.getElem?_set_ne (fun e => hj e.symm)], a, b, List.getElem?_set_self h⟩
/-- in a def that draws: its own objects come behind -/
structure Gr (l : Nat) (S S' : Sto) : Prop where
  len : S.length ≤ S'.length
  rest : ∀ j, j < S.length → j ≠ l → S'[j]? = S[j]?
  bx : Bx S' l
theorem Gr.refl {l : Nat} {S : Sto} (h : Bx S l) : Gr l S S := ⟨Nat.le_refl _, fun _ _ _ => rfl, h⟩
theorem Gr.fr {l : Nat} {S S1 S2 : Sto} (x : Gr l S S1) (y : Fr l S1 S2) : Gr l S S2 := ⟨by rw [y.len]; exact x.len, fun j h1 h2 => (y.rest j h2).trans (x.rest j h1 h2), y.bx⟩
theorem Gr.push {l : Nat} {S S1 : Sto} (x : Gr l S S1) (T : Sto) : Gr l S (S1 ++ T) := ⟨by have := x.len; simp; omega, fun j h1 h2 => by rw [List.getElem?_append_left (by have := x.len; omega)]; exact x.rest j h1 h2, by
  obtain ⟨a, b, h⟩ := x.bx
  exact ⟨a, b, by rw [List.getElem?_append_left (List.getElem?_eq_some_iff.mp h).1]; exact h⟩⟩
theorem Gr.set {l : Nat} {S S1 : Sto} (x : Gr l S S1) {j : Nat} (o : O) (hj : S.length ≤ j) (hl : j ≠ l) : Gr l S (S1.set j o) := ⟨by rw [List.length_set]; exact x.len, fun i h1 h2 => by rw [List.getElem?_set_ne (by omega)]; exact x.rest i h1 h2, by
  obtain ⟨a, b, h⟩ := x.bx
  exact ⟨a, b, by rw [List.getElem?_set_ne hl]; exact h⟩⟩
theorem Gr.leave {l : Nat} {S S1 : Sto} (x : Gr l S S1) (hl : l < S.length) : Fr l S (S1.take S.length) := ⟨by rw [List.length_take]; have := x.len; omega, fun j h => by
  rw [List.getElem?_take]
  split
  · exact x.rest j ‹_› h
  · exact (List.getElem?_eq_none (by omega)).symm, by
  obtain ⟨a, b, h⟩ := x.bx
  exact ⟨a, b, by rw [List.getElem?_take, if_pos hl]; exact h⟩⟩
def tailOf : Ss → Ss
  | .cons _ r => r
  | s => s
/-- a comprehension that draws nothing -/
theorem ok_filt {rc : Rc} {b : Nat} {e : Env} {S : Sto} {x : E} {t : Tg} {it : It} {ifs : Es} {vs : List Nat} {c : Chk} {xs : List D} (p : D → Bool) (g : D → D) (hi : Ok (evIt rc it b e S) fun r => r = ((c, xs), S)) (hc : c.ok S)
    (h : ∀ d ∈ xs, Ok (evTg rc t b d (wipeE e vs) S) fun q => q.2 = S ∧ Ok ((evEs rc ifs).2 b q.1 S) fun k => k = (p d, S) ∧ (p d = true → Ok ((evE rc x).v b q.1 S) fun w => w = (.d (g d), S))) :
    Ok ((evE rc (.comp x t it ifs vs)).v b e S) fun r => r = (.fr ((xs.filter p).map g), S) := by
  refine ok_comp (Ok.mono hi fun r hr => ?_)
  subst hr
  refine Ok.mono (ok_ccnt (Q := fun r => r = ((xs.filter p).map g, S)) (fun k ys S' => S' = S ∧ ys = ((xs.take k).filter p).map g) ?_ ?_ ?_ ?_) fun r hr => ?_
  · rintro k ys S' ⟨rfl, _⟩
    exact hc
  · rintro k d ys S' hd ⟨rfl, rfl⟩
    have ht : xs.take (k + 1) = xs.take k ++ [d] := by rw [List.take_add_one, hd]; rfl
    obtain ⟨q, e1, e2, h2⟩ := h d (List.mem_of_getElem? hd)
    obtain ⟨q1, q2⟩ := q
    dsimp only at e2
    subst e2
    refine Ok.bind (Ok.eq e1 ?_)
    refine Ok.bind (Ok.mono h2 fun k2 hk => ?_)
    obtain ⟨rfl, h3⟩ := hk
    cases hp : p d with
    | true =>
      refine Ok.bind (Ok.bind (Ok.mono (h3 hp) fun w hw => ?_))
      subst hw
      refine Ok.ok (Ok.ok ⟨rfl, ?_⟩)
      rw [ht, List.filter_append, List.map_append]
      simp [hp, settle]
    | false =>
      refine Ok.ok ⟨rfl, ?_⟩
      rw [ht, List.filter_append, List.map_append]
      simp [hp]
  · rintro ys S' ⟨rfl, rfl⟩
    rw [List.take_length]
  · exact ⟨rfl, rfl⟩
  · rw [hr]
def rngI (n : Nat) : List Int := (List.range n).map fun (i : Nat) => (i : Int)
theorem rngD_int (n : Nat) : rngD 0 n = (rngI n).map .int := by
  unfold rngD rngI
  rw [List.map_map, show ((n : Int) - 0).toNat = n by omega]
  apply List.map_congr_left
  intro a _
  simp
theorem rngI_mem {n : Nat} {i : Int} : i ∈ rngI n ↔ 0 ≤ i ∧ i < n := by
  unfold rngI
  simp
  constructor
  · rintro ⟨a, h, rfl⟩
    omega
  · rintro ⟨h1, h2⟩
    exact ⟨i.toNat, by omega, by omega⟩
theorem filt_int (p : D → Bool) (g : D → D) (ns : List Int) : ((ns.map D.int).filter p).map g = (ns.filter fun i => p (.int i)).map fun i => g (.int i) := by
  rw [List.filter_map, List.map_map]
  rfl
theorem inF_int (x : Int) (ys : List Int) : inF (.int x) (ys.map .int) = ys.any fun y => y == x := by
  unfold inF
  rw [List.any_map]
  rfl
theorem flat_ints (ns : List Int) : (ns.map D.int).all flat = true := by
  rw [List.all_map]
  exact List.all_eq_true.mpr fun _ _ => rfl
theorem in_ints (x : Int) (ys : List Int) (S : Sto) : inG (.int x) (.d (.tup (ys.map .int))) S = some (ys.any fun y => y == x) := by
  rw [inG_tup rfl (flat_ints ys), inF_int]
theorem enumD_rng (xs : List D) : enumD xs = (rngI xs.length).map fun i => .tup [.int i, xs.getD i.toNat .non] := by
  apply List.ext_getElem?
  intro k
  unfold enumD rngI
  rw [List.map_map, List.getElem?_map, List.getElem?_zipIdx, List.getElem?_map]
  by_cases hk : k < xs.length
  · rw [List.getElem?_eq_getElem hk, List.getElem?_range hk]
    simp [hk]
  · rw [List.getElem?_eq_none (by omega), List.getElem?_eq_none (by simp; omega)]
    rfl
/-- a call that leaves the store as it was, of a plain value -/
theorem ok_callP {rc : Rc} {b f : Nat} {e : Env} {S : Sto} {es ks : Es} {perm : List Nat} {as cs : List D} {v : D} (ha : (evEs rc es).1 S.length e S = .ok (as, S)) (hk : (evEs rc ks).1 S.length e S = .ok (cs, S)) (h : Ok (rc f (arr perm (as ++ cs)) S) fun r => r = (.d v, S)) (hp : v.pure = true) :
    Ok ((evE rc (.call f es ks perm)).v b e S) fun r => r = (.d v, S) := by
  refine ok_call (Ok.eq ha (Ok.eq hk (Ok.mono h fun r hr => ?_)))
  rw [hr, leave_pure hp, take_self]
theorem eq_of {α : Type} {r : Rs α} {a : α} (h : Ok r fun x => x = a) : r = .ok a := by
  obtain ⟨x, e, rfl⟩ := h
  exact e
end Pv
set_option linter.all false
set_option autoImplicit false
/-! Expressions that leave the store as it is, told part by part. -/
namespace Pv
open PySem (Str)
section
variable {rc : Rc} {e : Env} {S : Sto}
def PV (rc : Rc) (e : Env) (S : Sto) (x : E) (v : Vl) : Prop := ∀ b, (evE rc x).v b e S = .ok (v, S)
def PT (rc : Rc) (e : Env) (S : Sto) (x : E) (k : Bool) : Prop := ∀ b, (evE rc x).t b e S = .ok (k, S)
def PEs (rc : Rc) (e : Env) (S : Sto) (es : Es) (vs : List D) : Prop := ∀ b, (evEs rc es).1 b e S = .ok (vs, S)
def PTs (rc : Rc) (e : Env) (S : Sto) (es : Es) (k : Bool) : Prop := ∀ b, (evEs rc es).2 b e S = .ok (k, S)
def PI (rc : Rc) (e : Env) (S : Sto) (it : It) (c : Chk) (xs : List D) : Prop := ∀ b, evIt rc it b e S = .ok ((c, xs), S)
def PO (rc : Rc) (e : Env) (S : Sto) (o : Oe) (i : Option Int) : Prop := ∀ b, evO rc o b e S = .ok (i, S)
theorem pv_var {i : Nat} {v : D} (h : e[i]? = some (some v)) : PV rc e S (.var i) (.d v) := fun b => by rw [v_var, h]
theorem pv_cn (c : D) : PV rc e S (.cn c) (.d c) := fun _ => rfl
theorem pes_nil : PEs rc e S .nil [] := fun _ => rfl
theorem pes_cons {x : E} {es : Es} {v : D} {vs : List D} (h : PV rc e S x (.d v)) (hs : PEs rc e S es vs) : PEs rc e S (.cons x es) (v :: vs) := fun b => by
  rw [l_cons, h b, ok_bind]
  show ((evEs rc es).1 b e S >>= _) = _
  rw [hs b]
  rfl
theorem pv_tup {es : Es} {vs : List D} (h : PEs rc e S es vs) (hl : vs.length ≤ 16777216) : PV rc e S (.tup es) (.d (.tup vs)) := fun b => by
  rw [v_tup, h b, ok_bind]
  exact if_pos hl
theorem pv_lst {es : Es} {vs : List D} (h : PEs rc e S es vs) (hl : vs.length ≤ 16777216) : PV rc e S (.lst es) (.fr vs) := fun b => by
  rw [v_lst, h b, ok_bind]
  exact if_pos hl
theorem pv_neg {x : E} {i : Int} (h : PV rc e S x (.d (.int i))) : PV rc e S (.neg x) (.d (.int (-i))) := fun b => by rw [v_neg, h b]; rfl
theorem pv_not {x : E} {v : Vl} {k : Bool} (h : PV rc e S x v) (hk : truth v S = some k) : PV rc e S (.not x) (.d (.bl (!k))) := fun b => by
  rw [v_not, h b, ok_bind]
  show (Rs.ofO (truth v S) >>= _) = _
  rw [hk]
  rfl
theorem pv_bin {o : Bo} {x y : E} {v w u : Vl} (hx : PV rc e S x v) (hy : PV rc e S y w) (h : binV o v w S = some u) : PV rc e S (.bin o x y) u := fun b => by
  rw [v_bin, hx b, ok_bind]
  show ((evE rc y).v b e S >>= _) = _
  rw [hy b, ok_bind]
  show (Rs.ofO (binV o v w S) >>= _) = _
  rw [h]
  rfl
theorem pv_bini {o : Bo} {x y : E} {i j k : Int} (hx : PV rc e S x (.d (.int i))) (hy : PV rc e S y (.d (.int j))) (h : binI o i j = some k) : PV rc e S (.bin o x y) (.d (.int k)) := pv_bin hx hy (by rw [binV_int, h]; rfl)
theorem pv_cmp {o : Co} {x y : E} {v w : Vl} {k : Bool} (hx : PV rc e S x v) (hy : PV rc e S y w) (h : cmpV o v w S = some k) : PV rc e S (.cmp o x y) (.d (.bl k)) := fun b => by
  rw [v_cmp, hx b, ok_bind]
  show ((evE rc y).v b e S >>= _) = _
  rw [hy b, ok_bind]
  show (Rs.ofO (cmpV o v w S) >>= _) = _
  rw [h]
  rfl
theorem pv_idx {x i : E} {v : Vl} {k : Int} {xs : List D} {u : D} (hx : PV rc e S x v) (hi : PV rc e S i (.d (.int k))) (h1 : items v S = some xs) (h2 : atI xs k = some u) : PV rc e S (.idx x i) (.d u) := fun b => by
  rw [v_idx, hx b, ok_bind]
  show ((evE rc i).v b e S >>= _) = _
  rw [hi b, ok_bind]
  show (Rs.ofO ((items v S).bind fun xs => atI xs k) >>= _) = _
  rw [h1]
  show (Rs.ofO (atI xs k) >>= _) = _
  rw [h2]
  rfl
theorem pv_f1 {o : F1} {x : E} {v w : Vl} (hx : PV rc e S x v) (h : app1 o v S = some w) : PV rc e S (.f1 o x) w := fun b => by
  rw [v_f1, hx b, ok_bind]
  show (Rs.ofO (app1 o v S) >>= _) = _
  rw [h]
  rfl
theorem pv_f2 {o : F2} {x y : E} {v w u : D} (hx : PV rc e S x (.d v)) (hy : PV rc e S y (.d w)) (h : app2 o v w = some u) : PV rc e S (.f2 o x y) (.d u) := fun b => by
  rw [v_f2, hx b, ok_bind]
  show ((evE rc y).v b e S >>= _) = _
  rw [hy b, ok_bind]
  show (Rs.ofO (app2 o v w) >>= _) = _
  rw [h]
  rfl
theorem pv_isi {x : E} {t : Ty} {v : D} {k : Bool} (hx : PV rc e S x (.d v)) (h : isTy v t S = some k) : PV rc e S (.isi x t) (.d (.bl k)) := fun b => by
  rw [v_isi, hx b, ok_bind]
  show (Rs.ofO (isTy v t S) >>= _) = _
  rw [h]
  rfl
theorem po_none : PO rc e S .none none := fun _ => rfl
theorem po_some {x : E} {i : Int} (h : PV rc e S x (.d (.int i))) : PO rc e S (.some x) (some i) := fun b => by
  rw [o_some, h b]
  rfl
theorem pv_sl {x : E} {lo hi : Oe} {v w : Vl} {i j : Option Int} (hx : PV rc e S x v) (hl : PO rc e S lo i) (hh : PO rc e S hi j) (h : sliceV v i j S = some w) : PV rc e S (.sl x lo hi) w := fun b => by
  rw [v_sl, hx b, ok_bind]
  show (evO rc lo b e S >>= _) = _
  rw [hl b, ok_bind]
  show (evO rc hi b e S >>= _) = _
  rw [hh b, ok_bind]
  show (Rs.ofO (sliceV v i j S) >>= _) = _
  rw [h]
  rfl
theorem pv_list {hi : E} {k : Int} (h : PV rc e S hi (.d (.int k))) (hk : k ≤ 1000000) (hk0 : -1000000 ≤ k) : PV rc e S (.mkr .list .none hi) (.fr (rngD 0 k)) := fun b => by
  rw [v_mkr0 .list hi (h b) hk hk0 (.inl rfl)]
  rfl
theorem pv_tuple {hi : E} {k : Int} (h : PV rc e S hi (.d (.int k))) (hk : k ≤ 1000000) (hk0 : -1000000 ≤ k) : PV rc e S (.mkr .tuple .none hi) (.d (.tup (rngD 0 k))) := fun b => by
  rw [v_mkr0 .tuple hi (h b) hk hk0 (.inr rfl)]
  rfl
theorem pv_call {f : Nat} {es ks : Es} {perm : List Nat} {as cs ds : List D} {v : D} (ha : PEs rc e S es as) (hk : PEs rc e S ks cs) (hd : arr perm (as ++ cs) = ds) (h : Ok (rc f ds S) fun r => r = (.d v, S)) (hp : v.pure = true) : PV rc e S (.call f es ks perm) (.d v) := fun b => eq_of (ok_callP (ha _) (hk _) (by rw [hd]; exact h) hp)
theorem pv_call0 {f : Nat} {es : Es} {perm : List Nat} {as ds : List D} {v : D} (ha : PEs rc e S es as) (h : Ok (rc f ds S) fun r => r = (.d v, S)) (hp : v.pure = true) (hd : arr perm as = ds) : PV rc e S (.call f es .nil perm) (.d v) := pv_call ha pes_nil (by rw [List.append_nil]; exact hd) h hp
theorem pv_callk {f : Nat} {es : Es} {perm : List Nat} {as ds : List D} {v : D} (ha : PEs rc e S es as) (h : Ok (rc f ds S) fun r => r = (.d v, S)) (hp : v.pure = true) (hd : arr perm as = ds) : PV rc e S (.call f .nil es perm) (.d v) := pv_call pes_nil ha hd h hp
theorem pv_ite {c x y : E} {k : Bool} {v : Vl} (hc : PT rc e S c k) (h1 : k = true → PV rc e S x v) (h2 : k = false → PV rc e S y v) : PV rc e S (.ite c x y) v := fun b => by
  rw [v_ite, hc b, ok_bind]
  cases k with
  | true => exact h1 rfl b
  | false => exact h2 rfl b
theorem pv_andb {x y : E} {k l : Bool} (hx : PV rc e S x (.d (.bl k))) (hy : k = true → PV rc e S y (.d (.bl l))) : PV rc e S (.and x y) (.d (.bl (k && l))) := fun b => by
  rw [v_and, hx b, ok_bind]
  cases k with
  | true => exact hy rfl b
  | false => rfl
theorem pv_orb {x y : E} {k l : Bool} (hx : PV rc e S x (.d (.bl k))) (hy : k = false → PV rc e S y (.d (.bl l))) : PV rc e S (.or x y) (.d (.bl (k || l))) := fun b => by
  rw [v_or, hx b, ok_bind]
  cases k with
  | true => rfl
  | false => exact hy rfl b
theorem pt_of {x : E} {v : Vl} {k : Bool} (h : PV rc e S x v) (ht : (evE rc x).t = sT (evE rc x).v) (hk : truth v S = some k) : PT rc e S x k := fun b => by
  rw [ht]
  show ((evE rc x).v b e S >>= _) = _
  rw [h b, ok_bind]
  show (Rs.ofO (truth v S) >>= _) = _
  rw [hk]
  rfl
theorem pt_not {x : E} {k : Bool} (h : PT rc e S x k) : PT rc e S (.not x) (!k) := fun b => by rw [t_not, h b]; rfl
theorem pt_and {x y : E} {k l : Bool} (hx : PT rc e S x k) (hy : k = true → PT rc e S y l) : PT rc e S (.and x y) (k && l) := fun b => by
  rw [t_and, hx b, ok_bind]
  cases k with
  | true => exact hy rfl b
  | false => rfl
theorem pt_or {x y : E} {k l : Bool} (hx : PT rc e S x k) (hy : k = false → PT rc e S y l) : PT rc e S (.or x y) (k || l) := fun b => by
  rw [t_or, hx b, ok_bind]
  cases k with
  | true => rfl
  | false => exact hy rfl b
theorem pts_nil : PTs rc e S .nil true := fun _ => rfl
theorem pts_cons {x : E} {es : Es} {k l : Bool} (hx : PT rc e S x k) (hs : k = true → PTs rc e S es l) : PTs rc e S (.cons x es) (k && l) := fun b => by
  rw [e2_cons, hx b, ok_bind]
  cases k with
  | true => exact hs rfl b
  | false => rfl
theorem pts_one {x : E} {k : Bool} (hx : PT rc e S x k) : PTs rc e S (.cons x .nil) k := fun b => by
  rw [e2_cons, hx b, ok_bind]
  cases k <;> rfl
/-! iterables -/
theorem pi_rng0 {hi : E} {k : Int} (h : PV rc e S hi (.d (.int k))) (hk : k ≤ 1000000) (hk0 : -1000000 ≤ k) : PI rc e S (.rng .none hi) [] (rngD 0 k) := fun b => i_rng0 hi (h b) hk hk0
theorem pi_rng {lo hi : E} {j k : Int} (hl : PV rc e S lo (.d (.int j))) (h : PV rc e S hi (.d (.int k))) (hj : j ≤ 1000000) (hj0 : -1000000 ≤ j) (hk : k ≤ 1000000) (hk0 : -1000000 ≤ k) : PI rc e S (.rng (.some lo) hi) [] (rngD j k) := fun b => by
  rw [i_rng, po_some hl b, ok_bind]
  show (((evE rc hi).v b e S >>= _) >>= _) = _
  rw [h b, ok_bind]
  show ((if (-4611686018427387904 ≤ j ∧ j < 4611686018427387904) ∧ (-4611686018427387904 ≤ k ∧ k < 4611686018427387904) then Rs.ok ((j, k), S) else .bad) >>= _) = _
  rw [if_pos ⟨by omega, by omega⟩]
  show (if (k - j).toNat ≤ line then Rs.ok (([], rngD j k), S) else .bad) = _
  rw [if_pos (by unfold line; omega)]
theorem pi_e {x : E} {v : Vl} {xs : List D} {c : Chk} (h : PV rc e S x v) (h1 : items v S = some xs) (hc : chkOf v S = c) : PI rc e S (.e x) c xs := fun b => by
  rw [i_e, h b, ok_bind]
  show (Rs.ofO (items v S) >>= fun xs => Rs.ok ((chkOf v S, xs), S)) = _
  rw [h1, hc]
  rfl
theorem pi_enum {x : E} {v : Vl} {xs : List D} {c : Chk} (h : PV rc e S x v) (h1 : items v S = some xs) (hc : chkOf v S = c) : PI rc e S (.enum x) c (enumD xs) := fun b => by
  rw [i_enum, h b, ok_bind]
  show (Rs.ofO (items v S) >>= fun xs => Rs.ok ((chkOf v S, enumD xs), S)) = _
  rw [h1, hc]
  rfl
theorem pi_rev {x : E} {v : Vl} {xs : List D} {c : Chk} (h : PV rc e S x v) (h1 : items v S = some xs) (hc : chkOf v S = c) : PI rc e S (.rev x) c xs.reverse := fun b => by
  rw [i_rev, h b, ok_bind]
  show (Rs.ofO (items v S) >>= fun xs => Rs.ok ((chkOf v S, xs.reverse), S)) = _
  rw [h1, hc]
  rfl
theorem pi_zipT {x y : E} {xs ys : List D} (h : PV rc e S x (.d (.tup xs))) (h2 : PV rc e S y (.d (.tup ys))) : PI rc e S (.zip x y) [] (zipD xs ys) := fun b => by
  rw [i_zip, h b, ok_bind]
  show ((evE rc y).v b e S >>= _) = _
  rw [h2 b]
  rfl
/-- [x for i in it if ifs] -/
theorem pv_comp {x : E} {t : Tg} {it : It} {ifs : Es} {vs : List Nat} {c : Chk} {xs : List D} (p : D → Bool) (g : D → D) (hi : PI rc e S it c xs) (hc : c.ok S)
    (h : ∀ d ∈ xs, ∃ e1, (∀ b, evTg rc t b d (wipeE e vs) S = .ok (e1, S)) ∧ PTs rc e1 S ifs (p d) ∧ (p d = true → PV rc e1 S x (.d (g d)))) :
    PV rc e S (.comp x t it ifs vs) (.fr ((xs.filter p).map g)) := fun b => by
  refine eq_of (ok_filt p g (Ok.eq (hi b) rfl) hc fun d hd => ?_)
  obtain ⟨e1, h1, h2, h3⟩ := h d hd
  exact Ok.eq (h1 b) ⟨rfl, Ok.eq (h2 b) ⟨rfl, fun hp => Ok.eq (h3 hp b) rfl⟩⟩
theorem pv_compI {x : E} {i : Nat} {it : It} {ifs : Es} {vs : List Nat} {c : Chk} {ns : List Int} (p : Int → Bool) (g : Int → D) (hi : PI rc e S it c (ns.map .int)) (hc : c.ok S)
    (h : ∀ d ∈ ns, PTs rc ((wipeE e vs).set i (some (.int d))) S ifs (p d) ∧ (p d = true → PV rc ((wipeE e vs).set i (some (.int d))) S x (.d (g d)))) :
    PV rc e S (.comp x (.var i) it ifs vs) (.fr ((ns.filter p).map g)) := by
  have h2 : PV rc e S (.comp x (.var i) it ifs vs) (.fr (((ns.map D.int).filter fun d => match d with
    | .int k => p k
    | _ => false).map fun d => match d with
    | .int k => g k
    | _ => .non)) := pv_comp _ _ hi hc fun d hd => by
    obtain ⟨k, hk, rfl⟩ := List.mem_map.mp hd
    exact ⟨_, fun b => rfl, (h k hk).1, (h k hk).2⟩
  rw [filt_int] at h2
  exact h2
theorem pv_m1 {m : M1} {x y : E} {b : Nat} {l : Nat} {xs : List D} {v : D} (hx : PV rc e S x (.d (.loc l))) (hl : S[l]? = some (.lst xs)) (hy : PV rc e S y (.d v)) : (evE rc (.m1 m x y)).v b e S = meth1 b m (.loc l) v S := by
  rw [v_m1, hx b, ok_bind]
  show (Rs.ofO (match S[l]? with
    | some (.lst _) => some ()
    | _ => none) >>= _) = _
  rw [hl]
  show ((evE rc y).v b e S >>= _) = _
  rw [hy b]
  rfl
theorem pv_m1F {m : M1} {x y : E} {b : Nat} {l : Nat} {xs ys : List D} (hx : PV rc e S x (.d (.loc l))) (hl : S[l]? = some (.lst xs)) (hy : PV rc e S y (.fr ys)) : (evE rc (.m1 m x y)).v b e S = meth1 b m (.loc l) (.loc S.length) (S ++ [.lst ys]) := by
  rw [v_m1, hx b, ok_bind]
  show (Rs.ofO (match S[l]? with
    | some (.lst _) => some ()
    | _ => none) >>= _) = _
  rw [hl]
  show ((evE rc y).v b e S >>= _) = _
  rw [hy b]
  rfl
end
/-! statements -/
section
variable {rc : Rc} {b : Nat} {e : Env} {S : Sto} {Q : Fl × Env × Sto → Prop}
theorem st_asg {i : Nat} {x : E} {v : D} {r : Ss} (hx : PV rc e S x (.d v)) (h : Ok (evSs rc r b (e.set i (some v)) S) Q) : Ok (evSs rc (.cons (.asg (.var i) x) r) b e S) Q := ok_asg (Ok.eq (hx b) h)
theorem st_asgF {i : Nat} {x : E} {xs : List D} {r : Ss} (hx : PV rc e S x (.fr xs)) (h : Ok (evSs rc r b (e.set i (some (.loc S.length))) (S ++ [.lst xs])) Q) : Ok (evSs rc (.cons (.asg (.var i) x) r) b e S) Q := ok_asg (Ok.eq (hx b) h)
theorem st_asgG {t : Tg} {x : E} {v : D} {e1 : Env} {S1 : Sto} {r : Ss} (hx : PV rc e S x (.d v)) (ht : evTg rc t b v e S = .ok (e1, S1)) (h : Ok (evSs rc r b e1 S1) Q) : Ok (evSs rc (.cons (.asg t x) r) b e S) Q := ok_asgG (Ok.eq (hx b) (Ok.eq ht h))
theorem st_ite {c : E} {x y r : Ss} {k : Bool} (hc : PT rc e S c k) (h1 : k = true → Ok (evSs rc x b e S) (Then rc r b Q)) (h2 : k = false → Ok (evSs rc y b e S) (Then rc r b Q)) : Ok (evSs rc (.cons (.ite c x y) r) b e S) Q := ok_ite (Ok.eq (hc b) ⟨h1, h2⟩)
theorem st_yes {c : E} {x y r : Ss} (hc : PT rc e S c true) (h : Ok (evSs rc x b e S) (Then rc r b Q)) : Ok (evSs rc (.cons (.ite c x y) r) b e S) Q := st_ite hc (fun _ => h) (fun h => by cases h)
theorem st_no {c : E} {x y r : Ss} (hc : PT rc e S c false) (h : Ok (evSs rc y b e S) (Then rc r b Q)) : Ok (evSs rc (.cons (.ite c x y) r) b e S) Q := st_ite hc (fun h => by cases h) (fun _ => h)
/-- if c: .. (not) -/
theorem st_skip {c : E} {x r : Ss} (hc : PT rc e S c false) (h : Ok (evSs rc r b e S) Q) : Ok (evSs rc (.cons (.ite c x .nil) r) b e S) Q := st_no hc (ok_nil (Then.nx h))
/-- if c: .. or not, without an else -/
theorem st_if {c : E} {x r : Ss} {k : Bool} (hc : PT rc e S c k) (h1 : k = true → Ok (evSs rc x b e S) (Then rc r b Q)) (h2 : k = false → Ok (evSs rc r b e S) Q) : Ok (evSs rc (.cons (.ite c x .nil) r) b e S) Q := st_ite hc h1 (fun h => ok_nil (Then.nx (h2 h)))
theorem st_ret {x : E} {v : Vl} {r : Ss} (hx : PV rc e S x v) (h : Q (.rt v, e, S)) : Ok (evSs rc (.cons (.ret x) r) b e S) Q := ok_ret (Ok.eq (hx b) h)
theorem st_for {t : Tg} {it : It} {body r : Ss} {c : Chk} {xs : List D} (hi : PI rc e S it c xs) (h : Ok (forL c (fun d e S => evTg rc t b d e S >>= fun p => evSs rc body b p.1 p.2) xs e S) (Then rc r b Q)) : Ok (evSs rc (.cons (.for t it body) r) b e S) Q := ok_for (Ok.eq (hi b) h)
theorem st_app {x y : E} {r : Ss} {l : Nat} {xs : List D} {v : D} (hx : PV rc e S x (.d (.loc l))) (hl : S[l]? = some (.lst xs)) (hn : xs.length < 16777216) (hy : PV rc e S y (.d v)) (hw : wr b l v) (h : Ok (evSs rc r b e (S.set l (.lst (xs ++ [v])))) Q) : Ok (evSs rc (.cons (.expr (.m1 .append x y)) r) b e S) Q := ok_expr (Ok.eq ((pv_m1 hx hl hy).trans (meth_app hl hn hw)) h)
end
/-- a def that leaves the store as it was -/
theorem fn_pure {T : Nat → Option Df} {n f : Nat} {d : Df} {ds : List D} {S : Sto} {v : D} (hT : T f = some d) (hl : ds.length = d.np) (hp : v.pure = true) (h : Ok (evSs (callN T n) d.body S.length (env0 d.nv ds) S) fun r => r.1 = .rt (.d v) ∧ r.2.2.take S.length = S) : Ok (callN T (n + 1) f ds S) fun r => r = (.d v, S) := ok_fn hT hl (Ok.mono h fun r ⟨h1, h2⟩ => by
  obtain ⟨fl, e1, S1⟩ := r
  cases h1
  refine ⟨_, rfl, ?_⟩
  rw [leave_pure hp]
  exact congrArg _ h2)
/-! expressions that may move the store -/
section
variable {rc : Rc} {b : Nat} {e : Env} {S : Sto}
theorem ev_pv {x : E} {v : Vl} {Q : Vl × Sto → Prop} (h : PV rc e S x v) (hq : Q (v, S)) : Ok ((evE rc x).v b e S) Q := Ok.eq (h b) hq
theorem ev_bin {o : Bo} {x y : E} {Q : Vl × Sto → Prop} (h : Ok ((evE rc x).v b e S) fun r => Ok ((evE rc y).v b e r.2) fun q => ∃ v, binV o r.1 q.1 q.2 = some v ∧ Q (v, q.2)) : Ok ((evE rc (.bin o x y)).v b e S) Q := by
  rw [v_bin]
  refine Ok.bind (Ok.mono h fun r hr => Ok.bind (Ok.mono hr fun q hq => ?_))
  obtain ⟨v, h1, h2⟩ := hq
  rw [h1]
  exact Ok.ok h2
theorem ev_cmp {o : Co} {x y : E} {Q : Vl × Sto → Prop} (h : Ok ((evE rc x).v b e S) fun r => Ok ((evE rc y).v b e r.2) fun q => ∃ k, cmpV o r.1 q.1 q.2 = some k ∧ Q (.d (.bl k), q.2)) : Ok ((evE rc (.cmp o x y)).v b e S) Q := by
  rw [v_cmp]
  refine Ok.bind (Ok.mono h fun r hr => Ok.bind (Ok.mono hr fun q hq => ?_))
  obtain ⟨v, h1, h2⟩ := hq
  rw [h1]
  exact Ok.ok h2
theorem ev_f1 {o : F1} {x : E} {Q : Vl × Sto → Prop} (h : Ok ((evE rc x).v b e S) fun r => ∃ v, app1 o r.1 r.2 = some v ∧ Q (v, r.2)) : Ok ((evE rc (.f1 o x)).v b e S) Q := by
  rw [v_f1]
  refine Ok.bind (Ok.mono h fun r hr => ?_)
  obtain ⟨v, h1, h2⟩ := hr
  rw [h1]
  exact Ok.ok h2
theorem ev_tup {es : Es} {Q : Vl × Sto → Prop} (h : Ok ((evEs rc es).1 b e S) fun w => w.1.length ≤ 16777216 ∧ Q (.d (.tup w.1), w.2)) : Ok ((evE rc (.tup es)).v b e S) Q := by
  rw [v_tup]
  refine Ok.bind (Ok.mono h fun r hr => ?_)
  rw [if_pos (show r.1.length ≤ line from hr.1)]
  exact Ok.ok hr.2
theorem ev_lst {es : Es} {Q : Vl × Sto → Prop} (h : Ok ((evEs rc es).1 b e S) fun w => w.1.length ≤ 16777216 ∧ Q (.fr w.1, w.2)) : Ok ((evE rc (.lst es)).v b e S) Q := by
  rw [v_lst]
  refine Ok.bind (Ok.mono h fun r hr => ?_)
  rw [if_pos (show r.1.length ≤ line from hr.1)]
  exact Ok.ok hr.2
theorem ev_ite {c x y : E} {Q : Vl × Sto → Prop} (h : Ok ((evE rc c).t b e S) fun k => (k.1 = true → Ok ((evE rc x).v b e k.2) Q) ∧ (k.1 = false → Ok ((evE rc y).v b e k.2) Q)) : Ok ((evE rc (.ite c x y)).v b e S) Q := by
  rw [v_ite]
  refine Ok.bind (Ok.mono h fun r hr => ?_)
  obtain ⟨k, S1⟩ := r
  cases k with
  | true => exact hr.1 rfl
  | false => exact hr.2 rfl
theorem es_nil {Q : List D × Sto → Prop} (h : Q ([], S)) : Ok ((evEs rc .nil).1 b e S) Q := Ok.ok h
theorem es_cons {x : E} {es : Es} {Q : List D × Sto → Prop} (h : Ok ((evE rc x).v b e S) fun r => Ok ((evEs rc es).1 b e (settle r.1 r.2).2) fun q => Q ((settle r.1 r.2).1 :: q.1, q.2)) : Ok ((evEs rc (.cons x es)).1 b e S) Q := by
  rw [l_cons]
  exact Ok.bind (Ok.mono h fun r hr => Ok.bind (Ok.mono hr fun q hq => Ok.ok hq))
theorem es_pv {x : E} {es : Es} {v : D} {Q : List D × Sto → Prop} (hx : PV rc e S x (.d v)) (h : Ok ((evEs rc es).1 b e S) fun q => Q (v :: q.1, q.2)) : Ok ((evEs rc (.cons x es)).1 b e S) Q := es_cons (ev_pv hx h)
theorem et_of {x : E} {Q : Bool × Sto → Prop} (ht : (evE rc x).t = sT (evE rc x).v) (h : Ok ((evE rc x).v b e S) fun r => ∃ k, truth r.1 r.2 = some k ∧ Q (k, r.2)) : Ok ((evE rc x).t b e S) Q := by
  rw [ht]
  refine Ok.bind (Ok.mono h fun r hr => ?_)
  obtain ⟨k, h1, h2⟩ := hr
  rw [h1]
  exact Ok.ok h2
theorem et_pt {x : E} {k : Bool} {Q : Bool × Sto → Prop} (h : PT rc e S x k) (hq : Q (k, S)) : Ok ((evE rc x).t b e S) Q := Ok.eq (h b) hq
theorem et_not {x : E} {Q : Bool × Sto → Prop} (h : Ok ((evE rc x).t b e S) fun k => Q (!k.1, k.2)) : Ok ((evE rc (.not x)).t b e S) Q := by
  rw [t_not]
  exact Ok.bind (Ok.mono h fun r hr => Ok.ok hr)
theorem et_or {x y : E} {Q : Bool × Sto → Prop} (h : Ok ((evE rc x).t b e S) fun k => (k.1 = true → Q (true, k.2)) ∧ (k.1 = false → Ok ((evE rc y).t b e k.2) Q)) : Ok ((evE rc (.or x y)).t b e S) Q := by
  rw [t_or]
  refine Ok.bind (Ok.mono h fun r hr => ?_)
  obtain ⟨k, S1⟩ := r
  cases k with
  | true => exact Ok.ok (hr.1 rfl)
  | false => exact hr.2 rfl
theorem et_and {x y : E} {Q : Bool × Sto → Prop} (h : Ok ((evE rc x).t b e S) fun k => (k.1 = false → Q (false, k.2)) ∧ (k.1 = true → Ok ((evE rc y).t b e k.2) Q)) : Ok ((evE rc (.and x y)).t b e S) Q := by
  rw [t_and]
  refine Ok.bind (Ok.mono h fun r hr => ?_)
  obtain ⟨k, S1⟩ := r
  cases k with
  | false => exact Ok.ok (hr.1 rfl)
  | true => exact hr.2 rfl
end
theorem pi_rngI {rc : Rc} {e : Env} {S : Sto} {hi : E} {k : Int} (h : PV rc e S hi (.d (.int k))) (k0 : 0 ≤ k) (hk : k ≤ 1000000) : PI rc e S (.rng .none hi) [] ((rngI k.toNat).map .int) := by
  rw [← rngD_int, show ((k.toNat : Nat) : Int) = k by omega]
  exact pi_rng0 h hk (by omega)
theorem pv_lenM {rc : Rc} {e : Env} {S : Sto} {x : E} {α : Type} {f : α → D} {l : List α} (h : PV rc e S x (.d (.tup (l.map f)))) : PV rc e S (.f1 .len x) (.d (.int l.length)) := pv_f1 h (by rw [app_len]; simp)
theorem pv_lenF {rc : Rc} {e : Env} {S : Sto} {x : E} {α : Type} {f : α → D} {l : List α} (h : PV rc e S x (.fr (l.map f))) : PV rc e S (.f1 .len x) (.d (.int l.length)) := pv_f1 h (by rw [app_len]; simp)
theorem items_loc {S : Sto} {p : Nat} {xs : List D} (h : S[p]? = some (.lst xs)) : items (.d (.loc p)) S = some xs := by
  show (match S[p]? with
    | some (.lst xs) => some xs
    | _ => none) = _
  rw [h]
theorem chk_loc {S : Sto} {p : Nat} {xs : List D} (h : S[p]? = some (.lst xs)) : chkOf (.d (.loc p)) S = [(p, .lst xs)] := by
  rw [chkOf_loc, h]
theorem pv_lenL {rc : Rc} {e : Env} {S : Sto} {x : E} {p : Nat} {xs : List D} (h : PV rc e S x (.d (.loc p))) (hp : S[p]? = some (.lst xs)) : PV rc e S (.f1 .len x) (.d (.int xs.length)) := pv_f1 h (by rw [app_len, items_loc hp]; rfl)
theorem pv_idxL {rc : Rc} {e : Env} {S : Sto} {x i : E} {p : Nat} {k : Int} {xs : List D} {u : D} (hx : PV rc e S x (.d (.loc p))) (hp : S[p]? = some (.lst xs)) (hi : PV rc e S i (.d (.int k))) (h2 : atI xs k = some u) : PV rc e S (.idx x i) (.d u) := pv_idx hx hi (items_loc hp) h2
theorem pi_loc {rc : Rc} {e : Env} {S : Sto} {x : E} {p : Nat} {xs : List D} (h : PV rc e S x (.d (.loc p))) (hp : S[p]? = some (.lst xs)) : PI rc e S (.e x) [(p, .lst xs)] xs := pi_e h (items_loc hp) (chk_loc hp)
/-- [x for i in it if ifs], it told as images -/
theorem pv_compM {rc : Rc} {e : Env} {S : Sto} {x : E} {t : Tg} {it : It} {ifs : Es} {vs : List Nat} {c : Chk} {α : Type} {f : α → D} {ns : List α} (p : α → Bool) (g : α → D) (hi : PI rc e S it c (ns.map f)) (hc : c.ok S)
    (h : ∀ d ∈ ns, ∃ e1, (∀ b, evTg rc t b (f d) (wipeE e vs) S = .ok (e1, S)) ∧ PTs rc e1 S ifs (p d) ∧ (p d = true → PV rc e1 S x (.d (g d)))) :
    PV rc e S (.comp x t it ifs vs) (.fr ((ns.filter p).map g)) := fun b => by
  refine eq_of (ok_comp (Ok.eq (hi b) ?_))
  refine Ok.mono (ok_ccnt (Q := fun r => r = ((ns.filter p).map g, S)) (fun k ys S' => S' = S ∧ ys = ((ns.take k).filter p).map g) ?_ ?_ ?_ ⟨rfl, rfl⟩) fun r hr => by rw [hr]
  · rintro k ys S' ⟨rfl, _⟩
    exact hc
  · rintro k d ys S' hd ⟨rfl, rfl⟩
    rw [List.getElem?_map] at hd
    obtain ⟨a, ha, rfl⟩ := Option.map_eq_some_iff.mp hd
    have ht : ns.take (k + 1) = ns.take k ++ [a] := by rw [List.take_add_one, ha]; rfl
    obtain ⟨e1, h1, h2, h3⟩ := h a (List.mem_of_getElem? ha)
    refine Ok.bind (Ok.eq (h1 b) (Ok.bind (Ok.eq (h2 b) ?_)))
    cases hp : p a with
    | true =>
      refine Ok.bind (Ok.bind (Ok.eq (h3 hp b) ?_))
      refine Ok.ok (Ok.ok ⟨rfl, ?_⟩)
      rw [ht, List.filter_append, List.map_append]
      simp [hp, settle]
    | false =>
      refine Ok.ok ⟨rfl, ?_⟩
      rw [ht, List.filter_append, List.map_append]
      simp [hp]
  · rintro ys S' ⟨rfl, rfl⟩
    rw [List.length_map, List.take_length]
theorem pv_compE {rc : Rc} {e : Env} {S : Sto} {x : E} {i j : Nat} {y : E} {ifs : Es} {vs : List Nat} {c : Chk} {xs : List D} (p : Int → Bool) (g : Int → D) (hi : PI rc e S (.enum y) c (enumD xs)) (hc : c.ok S)
    (h : ∀ o : Int, 0 ≤ o → o < xs.length → PTs rc (((wipeE e vs).set i (some (.int o))).set j (some (xs.getD o.toNat .non))) S ifs (p o) ∧ (p o = true → PV rc (((wipeE e vs).set i (some (.int o))).set j (some (xs.getD o.toNat .non))) S x (.d (g o)))) :
    PV rc e S (.comp x (.tup (.cons (.var i) (.cons (.var j) .nil))) (.enum y) ifs vs) (.fr (((rngI xs.length).filter p).map g)) := by
  rw [enumD_rng] at hi
  refine pv_compM p g hi hc fun o ho => ?_
  obtain ⟨o0, o1⟩ := rngI_mem.mp ho
  exact ⟨_, fun b => rfl, (h o o0 o1).1, (h o o0 o1).2⟩
theorem leave_fr {xs : List D} {S : Sto} : leave S.length (.fr xs) S = (.fr xs, S) := by
  show (if ubL S.length xs = true then (Vl.fr xs, S.take S.length) else (Vl.fr xs, S)) = _
  rw [take_self]
  split <;> rfl
theorem pv_callF {rc : Rc} {e : Env} {S : Sto} {f : Nat} {es ks : Es} {perm : List Nat} {as cs ds : List D} {xs : List D} (ha : PEs rc e S es as) (hk : PEs rc e S ks cs) (h : Ok (rc f ds S) fun r => r = (.fr xs, S)) (hd : arr perm (as ++ cs) = ds) : PV rc e S (.call f es ks perm) (.fr xs) := fun b => by
  refine eq_of (ok_call (Ok.eq (ha _) (Ok.eq (hk _) ?_)))
  rw [hd]
  refine Ok.mono h fun r hr => ?_
  rw [hr, leave_fr]
/-- a list of plain data, the def's own, told -/
theorem leave_own {n l : Nat} {xs : List D} {S : Sto} (h : S[l]? = some (.lst xs)) (hl : n ≤ l) (hp : ∀ x ∈ xs, x.pure = true) : leave n (.d (.loc l)) S = (.fr xs, S.take n) := by
  show (if l < n then (Vl.d (.loc l), S.take n) else match S[l]? with
    | some (.lst xs) => if ubL n xs = true then (.fr xs, S.take n) else (.d (.loc l), S)
    | _ => (.d (.loc l), S)) = _
  rw [if_neg (by omega), h]
  exact if_pos (pureL_ub (pureL_of hp))
theorem leave_frP {n : Nat} {xs : List D} {S : Sto} (hp : ∀ x ∈ xs, x.pure = true) : leave n (.fr xs) S = (.fr xs, S.take n) := if_pos (pureL_ub (pureL_of hp))
theorem atI_map {α : Type} {f : α → D} {l : List α} {i : Int} (d : α) (i0 : 0 ≤ i) (i1 : i < l.length) : atI (l.map f) i = some (f (l.getD i.toNat d)) := by
  obtain ⟨j, rfl⟩ := Int.eq_ofNat_of_zero_le i0
  have hj : j < l.length := by omega
  refine atI_nat ?_
  rw [List.getElem?_map, List.getElem?_eq_getElem hj]
  simp [hj]
theorem in_cmp (x : Int) (ys : List Int) (S : Sto) : cmpV .inn (.d (.int x)) (.d (.tup (ys.map .int))) S = some (ys.any fun y => y == x) := in_ints x ys S
theorem nin_cmp (x : Int) (ys : List Int) (S : Sto) : cmpV .nin (.d (.int x)) (.d (.tup (ys.map .int))) S = some (!(ys.any fun y => y == x)) := by
  show (inG (.int x) (.d (.tup (ys.map .int))) S).map not = _
  rw [in_ints]
  rfl
theorem in_loc {x : Int} {ys : List Int} {S : Sto} {p : Nat} (h : S[p]? = some (.lst (ys.map .int))) : cmpV .inn (.d (.int x)) (.d (.loc p)) S = some (ys.any fun y => y == x) := by
  show orE ((items (.d (.loc p)) S).bind fun xs => if flat (.int x) && xs.all flat then some (inF (.int x) xs) else none) _ = _
  rw [items_loc h]
  show orE (if (ys.map D.int).all flat = true then some (inF (.int x) (ys.map .int)) else none) _ = _
  rw [if_pos (flat_ints ys), inF_int]
  rfl
theorem intsOf_ints : ∀ ns : List Int, intsOf (ns.map .int) = some ns
  | [] => rfl
  | i :: ns => by
    show (intsOf (ns.map .int)).map (fun r => i :: r) = _
    rw [intsOf_ints ns]
    rfl
theorem app_minL {ns : List Int} {S : Sto} {p : Nat} {m : Int} (h : S[p]? = some (.lst (ns.map .int))) (hm : minI ns = some m) : app1 .min (.d (.loc p)) S = some (.d (.int m)) := by
  show ((items (.d (.loc p)) S).bind fun xs => (intsOf xs).bind fun ns => (minI ns).map fun m => Vl.d (.int m)) = _
  rw [items_loc h]
  show ((intsOf (ns.map .int)).bind fun ns => (minI ns).map fun m => Vl.d (.int m)) = _
  rw [intsOf_ints]
  show (minI ns).map (fun m => Vl.d (.int m)) = _
  rw [hm]
  rfl
theorem app_maxF {ns : List Int} {S : Sto} {m : Int} (hm : maxI ns = some m) : app1 .max (.fr (ns.map .int)) S = some (.d (.int m)) := by
  show ((intsOf (ns.map .int)).bind fun ns => (maxI ns).map fun m => Vl.d (.int m)) = _
  rw [intsOf_ints]
  show (maxI ns).map (fun m => Vl.d (.int m)) = _
  rw [hm]
  rfl
theorem app_sortF (ns : List Int) (S : Sto) : app1 .sorted (.fr (ns.map .int)) S = some (.fr ((sortI ns).map .int)) := by
  show (intsOf (ns.map .int)).map (fun ns => Vl.fr ((sortI ns).map .int)) = _
  rw [intsOf_ints]
  rfl
theorem app_sortL {ns : List Int} {S : Sto} {p : Nat} (h : S[p]? = some (.lst (ns.map .int))) : app1 .sorted (.d (.loc p)) S = some (.fr ((sortI ns).map .int)) := by
  show ((items (.d (.loc p)) S).bind fun xs => (intsOf xs).map fun ns => Vl.fr ((sortI ns).map .int)) = _
  rw [items_loc h]
  exact app_sortF ns S
theorem take_push {S S' T : Sto} (h : S'.take S.length = S) : (S' ++ T).take S.length = S := by
  have h2 : S.length ≤ S'.length := by
    have := congrArg List.length h
    rw [List.length_take] at this
    omega
  rw [List.take_append_of_le_length h2, h]
theorem take_setG {S S' : Sto} {p : Nat} {o : O} (h : S'.take S.length = S) (hp : S.length ≤ p) : (S'.set p o).take S.length = S := by
  rw [List.take_set, h, List.set_eq_of_length_le hp]
theorem take_len {S S' : Sto} (h : S'.take S.length = S) : S.length ≤ S'.length := by
  have := congrArg List.length h
  rw [List.length_take] at this
  omega
theorem setI_at {b l : Nat} {xs : List D} {i : Int} {x : D} {S : Sto} (h : S[l]? = some (.lst xs)) (i0 : 0 ≤ i) (i1 : i < xs.length) (hw : wr b l x) : setI b (.loc l) (.int i) x S = .ok (S.set l (.lst (xs.set i.toNat x))) := by
  rw [setI_int, h]
  have : ixN xs.length i = some i.toNat := by
    unfold ixN
    rw [if_pos i0, if_pos i1]
  dsimp only
  rw [this]
  exact if_pos hw
theorem tg_sub {rc : Rc} {b : Nat} {e : Env} {S S1 : Sto} {o i : E} {l : Nat} {k : Int} {x : D} (ho : PV rc e S o (.d (.loc l))) (hi : PV rc e S i (.d (.int k))) (h : setI b (.loc l) (.int k) x S = .ok S1) : evTg rc (.sub o i) b x e S = .ok (e, S1) := by
  rw [g_sub, ho b, ok_bind]
  show ((evE rc i).v b e S >>= _) = _
  rw [hi b, ok_bind]
  show (setI b (.loc l) (.int k) x S >>= _) = _
  rw [h]
  rfl
theorem maxI_top : ∀ ns : List Int, ns ≠ [] → ∃ m, maxI ns = some m ∧ m ∈ ns ∧ ∀ x ∈ ns, x ≤ m
  | [], h => absurd rfl h
  | x :: xs, _ => by
    cases xs with
    | nil => exact ⟨x, rfl, by simp, by simp⟩
    | cons y ys =>
      obtain ⟨m, h1, h2, h3⟩ := maxI_top (y :: ys) (by simp)
      have e : maxI (x :: y :: ys) = some (if m < x then x else m) := by
        show (match maxI (y :: ys) with
          | none => some x
          | some m => some (if m < x then x else m)) = _
        rw [h1]
      refine ⟨_, e, ?_, ?_⟩
      · split
        · simp
        · exact List.mem_cons_of_mem _ h2
      · intro z hz
        rcases List.mem_cons.mp hz with rfl | hz
        · split <;> omega
        · have := h3 z hz
          split <;> omega
theorem ev_m1 {rc : Rc} {b : Nat} {e : Env} {S : Sto} {m : M1} {x y : E} {l : Nat} {xs : List D} {Q : Vl × Sto → Prop} (hx : PV rc e S x (.d (.loc l))) (hl : S[l]? = some (.lst xs)) (h : Ok ((evE rc y).v b e S) fun r => Ok (meth1 b m (.loc l) (settle r.1 r.2).1 (settle r.1 r.2).2) Q) : Ok ((evE rc (.m1 m x y)).v b e S) Q := by
  rw [v_m1, hx b, ok_bind]
  show Ok (Rs.ofO (match S[l]? with
    | some (.lst _) => some ()
    | _ => none) >>= _) _
  rw [hl]
  exact Ok.bind (Ok.ok (Ok.bind h))
theorem tg_two {rc : Rc} {b : Nat} {e : Env} {S S1 S2 : Sto} {t1 t2 : Tg} {u v : D} (h1 : evTg rc t1 b u e S = .ok (e, S1)) (h2 : evTg rc t2 b v e S1 = .ok (e, S2)) : evTg rc (.tup (.cons t1 (.cons t2 .nil))) b (.tup [u, v]) e S = .ok (e, S2) := by
  rw [g_tup, g_cons, h1, ok_bind]
  show (evTgs rc (.cons t2 .nil) b [v] e S1) = _
  rw [g_cons, h2]
  rfl
theorem binV_catL {S : Sto} {p q : Nat} {xs ys : List D} (hp : S[p]? = some (.lst xs)) (hq : S[q]? = some (.lst ys)) (hl : xs.length + ys.length ≤ 16777216) : binV .add (.d (.loc p)) (.d (.loc q)) S = some (.fr (xs ++ ys)) := by
  show ((match S[p]? with
    | some (.lst xs) => some xs
    | _ => none).bind fun xs => (match S[q]? with
    | some (.lst xs) => some xs
    | _ => none).bind fun ys => if xs.length + ys.length ≤ line then some (Vl.fr (xs ++ ys)) else none) = _
  rw [hp, hq]
  exact if_pos hl
/-- for x in .. where the list told moves the store -/
theorem ei_e {rc : Rc} {b : Nat} {e : Env} {S : Sto} {x : E} {Q : (Chk × List D) × Sto → Prop} (h : Ok ((evE rc x).v b e S) fun r => ∃ xs, items r.1 r.2 = some xs ∧ Q ((chkOf r.1 r.2, xs), r.2)) : Ok (evIt rc (.e x) b e S) Q := by
  rw [i_e]
  refine Ok.bind (Ok.mono h fun r hr => ?_)
  obtain ⟨xs, h1, h2⟩ := hr
  rw [h1]
  exact Ok.ok h2
/-! dicts of whole numbers, each held with True -/
def dk (ks : List Int) : List (D × D) := ks.map fun g => (.int g, .bl true)
def addK (ks : List Int) (g : Int) : List Int := if (ks.any fun y => y == g) then ks else ks ++ [g]
theorem any_dk (ks : List Int) (g : Int) : ((dk ks).any fun p => eqF p.1 (.int g)) = ks.any fun y => y == g := by
  unfold dk
  rw [List.any_map]
  rfl
theorem get_dk (ks : List Int) (g : Int) : (getK (dk ks) (.int g)).isSome = ks.any fun y => y == g := by
  rw [← any_dk]
  unfold getK
  rw [Option.isSome_map, List.isSome_find?]
theorem put_dk (ks : List Int) (g : Int) : putK (dk ks) (.int g) (.bl true) = dk (addK ks g) := by
  unfold putK addK
  rw [any_dk]
  by_cases h : (ks.any fun y => y == g) = true
  · rw [if_pos h, if_pos h]
    have : ∀ p ∈ dk ks, (if eqF p.1 (.int g) = true then (p.1, D.bl true) else p) = p := fun p hp => by
      obtain ⟨y, _, rfl⟩ := List.mem_map.mp hp
      split <;> rfl
    rw [List.map_congr_left this]
    exact List.map_id' _
  · rw [if_neg h, if_neg h]
    unfold dk
    rw [List.map_append]
    rfl
theorem pv_din {rc : Rc} {e : Env} {S : Sto} {i o : E} {g : Int} {l : Nat} {t : Bool} {ks : List Int} (hi : PV rc e S i (.d (.int g))) (ho : PV rc e S o (.d (.loc l))) (hl : S[l]? = some (.dct t (dk ks))) : PV rc e S (.din false i o) (.d (.bl (ks.any fun y => y == g))) := fun b => by
  show (((evE rc i).v b e S >>= fun r => Rs.ok (settle r.1 r.2)) >>= _) = _
  rw [hi b]
  show (((evE rc o).v b e S >>= fun r => Rs.ok (settle r.1 r.2)) >>= _) = _
  rw [ho b]
  show (Rs.ofO (if isK (.int g) = true then (match S[l]? with
    | some (.dct _ kvs) => some kvs
    | _ => none).map fun kvs => (getK kvs (.int g)).isSome else none) >>= _) = _
  rw [hl]
  show (Rs.ok (Vl.d (.bl (getK (dk ks) (.int g)).isSome), S) : Rs (Vl × Sto)) = _
  rw [get_dk]
theorem pv_dlen {rc : Rc} {e : Env} {S : Sto} {o : E} {l : Nat} {t : Bool} {ks : List Int} (ho : PV rc e S o (.d (.loc l))) (hl : S[l]? = some (.dct t (dk ks))) : PV rc e S (.dlen o) (.d (.int ks.length)) := fun b => by
  show (((evE rc o).v b e S >>= fun r => Rs.ok (settle r.1 r.2)) >>= _) = _
  rw [ho b]
  show (Rs.ofO (match S[l]? with
    | some (.dct _ kvs) => some kvs
    | _ => none) >>= _) = _
  rw [hl]
  show (Rs.ok (Vl.d (.int (dk ks).length), S) : Rs (Vl × Sto)) = _
  unfold dk
  rw [List.length_map]
theorem st_dnew {rc : Rc} {b i : Nat} {e : Env} {S : Sto} {Q : Fl × Env × Sto → Prop} {r : Ss} (h : Ok (evSs rc r b (e.set i (some (.loc S.length))) (S ++ [.dct false (dk [])])) Q) : Ok (evSs rc (.cons (.asg (.var i) (.dnew false)) r) b e S) Q := ok_asg (Ok.eq rfl h)
open Classical in
theorem st_dput {rc : Rc} {b : Nat} {e : Env} {S : Sto} {Q : Fl × Env × Sto → Prop} {r : Ss} {o k x : E} {l : Nat} {t : Bool} {ks : List Int} {g : Int} (hx : PV rc e S x (.d (.bl true))) (ho : PV rc e S o (.d (.loc l))) (hk : PV rc e S k (.d (.int g))) (hl : S[l]? = some (.dct t (dk ks))) (hn : ks.length < 16777216) (h : Ok (evSs rc r b e (S.set l (.dct t (dk (addK ks g))))) Q) : Ok (evSs rc (.cons (.dput o k x) r) b e S) Q := by
  refine ok_seq (Q := Q) ?_
  show Ok (((evE rc x).v b e S >>= fun r => Rs.ok (settle r.1 r.2)) >>= _) _
  rw [hx b]
  show Ok (((evE rc o).v b e S >>= fun r => Rs.ok (settle r.1 r.2)) >>= _) _
  rw [ho b]
  show Ok (((evE rc k).v b e S >>= fun r => Rs.ok (settle r.1 r.2)) >>= _) _
  rw [hk b]
  show Ok ((match S[l]? with
    | some (.dct t kvs) => if isK (.int g) = true ∧ kvs.length < line ∧ wr b l (.bl true) then Rs.ok (S.set l (.dct t (putK kvs (.int g) (.bl true)))) else .bad
    | _ => .bad) >>= _) _
  rw [hl]
  show Ok ((if isK (.int g) = true ∧ (dk ks).length < line ∧ wr b l (.bl true) then Rs.ok (S.set l (.dct t (putK (dk ks) (.int g) (.bl true)))) else .bad) >>= _) _
  rw [if_pos ⟨rfl, by unfold dk; rw [List.length_map]; exact hn, .inl rfl⟩, put_dk]
  exact Ok.ok h
theorem meth_pop {b p : Nat} {k : Nat} {x : D} {xs : List D} {S : Sto} (h : S[p]? = some (.lst xs)) (hk : xs[k]? = some x) : meth1 b .pop (.loc p) (.int k) S = .ok (.d x, S.set p (.lst (xs.eraseIdx k))) := by
  have hl := (List.getElem?_eq_some_iff.mp hk).1
  have hi : ixN xs.length (k : Nat) = some k := by
    unfold ixN
    rw [if_pos (by omega), if_pos (by omega)]
    rfl
  unfold meth1
  dsimp only
  rw [h]
  dsimp only
  rw [hi]
  dsimp only
  rw [hk]
theorem pi_zipM {rc : Rc} {e : Env} {S : Sto} {x y : E} {xs ys : List D} {p : Nat} (h : PV rc e S x (.d (.tup xs))) (h2 : PV rc e S y (.d (.loc p))) (hp : S[p]? = some (.lst ys)) : PI rc e S (.zip x y) [(p, .lst ys)] (zipD xs ys) := fun b => by
  rw [i_zip, h b, ok_bind]
  show ((evE rc y).v b e S >>= _) = _
  rw [h2 b, ok_bind]
  show (Rs.ofO (items (.d (.tup xs)) S) >>= fun xs => Rs.ofO (items (.d (.loc p)) S) >>= fun ys => if (!(tupO (.d (.loc p))).isSome || true) = true then Rs.ok ((chkOf (.d (.tup xs)) S ++ chkOf (.d (.loc p)) S, zipD xs ys), S) else .bad) = _
  rw [items_loc hp, chk_loc hp]
  rfl
theorem pv_rev {rc : Rc} {e : Env} {S : Sto} {x : E} {p : Nat} {xs : List D} (h : PV rc e S x (.d (.loc p))) (hp : S[p]? = some (.lst xs)) : PV rc e S (.rev x) (.fr xs.reverse) := fun b => by
  rw [v_rev, h b, ok_bind]
  show (Rs.ofO ((items (.d (.loc p)) S).map fun xs => Vl.fr xs.reverse) >>= _) = _
  rw [items_loc hp]
  rfl
theorem meth_rev {p : Nat} {xs : List D} {S : Sto} (h : S[p]? = some (.lst xs)) : meth0 .reverse (.loc p) S = .ok (.d .non, S.set p (.lst xs.reverse)) := by
  unfold meth0
  dsimp only
  rw [h]
theorem zip_map {α β : Type} (f : α → D) (g : β → D) : ∀ (xs : List α) (ys : List β), zipD (xs.map f) (ys.map g) = (xs.zip ys).map fun p => .tup [f p.1, g p.2]
  | [], _ => rfl
  | _ :: _, [] => rfl
  | x :: xs, y :: ys => by
    show _ :: zipD (xs.map f) (ys.map g) = _
    rw [zip_map f g xs ys]
    rfl
theorem map_erase {α : Type} (f : α → D) : ∀ (l : List α) (k : Nat), (l.map f).eraseIdx k = (l.eraseIdx k).map f
  | [], _ => rfl
  | _ :: _, 0 => rfl
  | x :: l, k + 1 => by
    show _ :: (l.map f).eraseIdx k = _
    rw [map_erase f l k]
    rfl
/-- l[i] op= x, the item a whole number -/
theorem st_augs {rc : Rc} {b : Nat} {e : Env} {S : Sto} {Q : Fl × Env × Sto → Prop} {r : Ss} {o i x : E} {op : Bo} {l : Nat} {xs : List D} {k v d w : Int} (ho : PV rc e S o (.d (.loc l))) (hi : PV rc e S i (.d (.int k))) (hl : S[l]? = some (.lst xs)) (k0 : 0 ≤ k) (hv : xs[k.toNat]? = some (.int v)) (hx : PV rc e S x (.d (.int d))) (hw : binI op v d = some w) (h : Ok (evSs rc r b e (S.set l (.lst (xs.set k.toNat (.int w))))) Q) : Ok (evSs rc (.cons (.augs o i op x) r) b e S) Q := by
  have hlt := (List.getElem?_eq_some_iff.mp hv).1
  refine ok_seq (Q := Q) ?_
  show Ok (((evE rc o).v b e S >>= fun r => Rs.ok (settle r.1 r.2)) >>= _) _
  rw [ho b]
  show Ok (((evE rc i).v b e S >>= fun r => Rs.ok (settle r.1 r.2)) >>= _) _
  rw [hi b]
  show Ok (Rs.ofO (match S[l]? with
    | some (.lst xs) => if 0 ≤ k then xs[k.toNat]? else none
    | _ => none) >>= _) _
  rw [hl]
  show Ok (Rs.ofO (if 0 ≤ k then xs[k.toNat]? else none) >>= _) _
  rw [if_pos k0, hv]
  show Ok (((evE rc x).v b e S >>= fun r => Rs.ok (settle r.1 r.2)) >>= _) _
  rw [hx b]
  show Ok (Rs.ofO ((binI op v d).map .int) >>= fun n => setI b (.loc l) (.int k) n S >>= _) _
  rw [hw]
  show Ok (setI b (.loc l) (.int k) (.int w) S >>= _) _
  rw [setI_at hl k0 (by omega) (.inl rfl)]
  exact Ok.ok h
end Pv
set_option linter.all false
set_option autoImplicit false
/-! More rules for expressions that may move the store. -/
namespace Pv
section
variable {rc : Rc} {b : Nat} {e : Env} {S : Sto}
theorem ev_sl {x : E} {lo hi : Oe} {Q : Vl × Sto → Prop} (h : Ok ((evE rc x).v b e S) fun r => Ok (evO rc lo b e r.2) fun p => Ok (evO rc hi b e p.2) fun q => ∃ v, sliceV r.1 p.1 q.1 q.2 = some v ∧ Q (v, q.2)) : Ok ((evE rc (.sl x lo hi)).v b e S) Q := by
  rw [v_sl]
  refine Ok.bind (Ok.mono h fun r hr => Ok.bind (Ok.mono hr fun p hp => Ok.bind (Ok.mono hp fun q hq => ?_)))
  obtain ⟨v, h1, h2⟩ := hq
  rw [h1]
  exact Ok.ok h2
theorem eo_none {Q : Option Int × Sto → Prop} (hq : Q (none, S)) : Ok (evO rc .none b e S) Q := Ok.ok hq
theorem eo_some {x : E} {Q : Option Int × Sto → Prop} (h : Ok ((evE rc x).v b e S) fun r => ∃ i S1, r = (.d (.int i), S1) ∧ Q (some i, S1)) : Ok (evO rc (.some x) b e S) Q := by
  rw [o_some]
  refine Ok.bind (Ok.mono h fun r hr => ?_)
  obtain ⟨i, S1, rfl, h2⟩ := hr
  exact Ok.ok h2
theorem ev_f2 {o : F2} {x y : E} {Q : Vl × Sto → Prop} (h : Ok ((evE rc x).v b e S) fun r => Ok ((evE rc y).v b e (settle r.1 r.2).2) fun q => ∃ v, app2 o (settle r.1 r.2).1 (settle q.1 q.2).1 = some v ∧ Q (.d v, (settle q.1 q.2).2)) : Ok ((evE rc (.f2 o x y)).v b e S) Q := by
  rw [v_f2]
  refine Ok.bind (Ok.mono h fun r hr => Ok.bind (Ok.mono hr fun q hq => ?_))
  obtain ⟨v, h1, h2⟩ := hq
  rw [h1]
  exact Ok.ok h2
theorem ev_idx {x y : E} {Q : Vl × Sto → Prop} (h : Ok ((evE rc x).v b e S) fun r => Ok ((evE rc y).v b e r.2) fun q => ∃ v, idxV r.1 (settle q.1 q.2).1 (settle q.1 q.2).2 = some v ∧ Q (.d v, (settle q.1 q.2).2)) : Ok ((evE rc (.idx x y)).v b e S) Q := by
  rw [v_idx]
  refine Ok.bind (Ok.mono h fun r hr => Ok.bind (Ok.mono hr fun q hq => ?_))
  obtain ⟨v, h1, h2⟩ := hq
  rw [h1]
  exact Ok.ok h2
theorem slice_fr {xs : List D} {k : Int} (h : 0 ≤ k) : sliceV (.fr xs) none (some k) S = some (.fr (xs.take k.toNat)) := by
  show some (Vl.fr (cut xs none (some k))) = _
  rw [cut_take h]
theorem slice_loc {xs : List D} {p : Nat} {i j : Option Int} (hp : S[p]? = some (.lst xs)) : sliceV (.d (.loc p)) i j S = some (.fr (cut xs i j)) := by
  show (items (.d (.loc p)) S).map (fun xs => Vl.fr (cut xs i j)) = _
  rw [items_loc hp]
  rfl
theorem binV_catLF {p : Nat} {xs ys : List D} (hp : S[p]? = some (.lst xs)) (hl : xs.length + ys.length ≤ 16777216) : binV .add (.d (.loc p)) (.fr ys) S = some (.fr (xs ++ ys)) := by
  show ((match S[p]? with
    | some (.lst xs) => some xs
    | _ => none).bind fun xs => (some ys).bind fun ys => if xs.length + ys.length ≤ line then some (Vl.fr (xs ++ ys)) else none) = _
  rw [hp]
  exact if_pos hl
theorem binV_catT (xs ys : List D) (hl : xs.length + ys.length ≤ 16777216) : binV .add (.d (.tup xs)) (.d (.tup ys)) S = some (.d (.tup (xs ++ ys))) := if_pos hl
/-- a statement that is a method called on a list -/
theorem st_app2 {Q : Fl × Env × Sto → Prop} {x y : E} {r : Ss} {l : Nat} {xs : List D} (hx : PV rc e S x (.d (.loc l))) (hl : S[l]? = some (.lst xs)) (hn : xs.length < 16777216) (h : Ok ((evE rc y).v b e S) fun q => ∃ v S1, q = (.d v, S1) ∧ S1[l]? = some (.lst xs) ∧ wr b l v ∧ Ok (evSs rc r b e (S1.set l (.lst (xs ++ [v])))) Q) : Ok (evSs rc (.cons (.expr (.m1 .append x y)) r) b e S) Q := by
  refine ok_expr (ev_m1 hx hl (Ok.mono h fun q hq => ?_))
  obtain ⟨v, S1, rfl, h1, h2, h3⟩ := hq
  exact Ok.eq (meth_app h1 hn h2) h3
end
theorem map_of {α : Type} {f : α → D} {ys : List D} {ns : List α} (h : ys.Perm (ns.map f)) : ∃ ms : List α, ys = ms.map f ∧ ms.Perm ns := by
  generalize hm : ns.map f = zs at h
  induction h generalizing ns with
  | nil => exact ⟨[], rfl, by rw [List.map_eq_nil_iff.mp hm]⟩
  | cons x _ ih =>
    obtain ⟨a, l, rfl, ha, hl⟩ := List.map_eq_cons_iff.mp hm
    obtain ⟨ms, rfl, hp⟩ := ih hl
    exact ⟨a :: ms, by rw [List.map_cons, ha], hp.cons a⟩
  | swap x y l =>
    obtain ⟨a, m, rfl, ha, hl⟩ := List.map_eq_cons_iff.mp hm
    obtain ⟨c, m, rfl, hc, hl⟩ := List.map_eq_cons_iff.mp hl
    exact ⟨c :: a :: m, by rw [List.map_cons, List.map_cons, ha, hc, hl], .swap ..⟩
  | trans _ _ ih1 ih2 =>
    obtain ⟨ms, e, hp⟩ := ih2 hm
    obtain ⟨ms2, e2, hp2⟩ := ih1 e.symm
    exact ⟨ms2, e2, hp2.trans hp⟩
end Pv
namespace Pv
theorem e2_c {rc : Rc} {b : Nat} {e : Env} {S : Sto} {x : E} {es : Es} {Q : Bool × Sto → Prop} (h : Ok ((evE rc x).t b e S) fun k => (k.1 = true → Ok ((evEs rc es).2 b e k.2) Q) ∧ (k.1 = false → Q (false, k.2))) : Ok ((evEs rc (.cons x es)).2 b e S) Q := by
  rw [e2_cons]
  refine Ok.bind (Ok.mono h fun r hr => ?_)
  obtain ⟨k, S1⟩ := r
  cases k with
  | true => exact hr.1 rfl
  | false => exact Ok.ok (hr.2 rfl)
theorem Gr.trans {l : Nat} {S S1 S2 : Sto} (x : Gr l S S1) (y : Gr l S1 S2) : Gr l S S2 := ⟨Nat.le_trans x.len y.len, fun j h1 h2 => (y.rest j (Nat.lt_of_lt_of_le h1 x.len) h2).trans (x.rest j h1 h2), y.bx⟩
theorem Gr.at {l k : Nat} {S S' : Sto} {o : O} (x : Gr l S S') (h : S[k]? = some o) (hk : k ≠ l) : S'[k]? = some o := by
  rw [x.rest k (List.getElem?_eq_some_iff.mp h).1 hk]
  exact h
end Pv
set_option linter.all false
set_option autoImplicit false
/-! == of rows and of lists of lists; parts of rows. -/
namespace Pv
open PySem (PyData)
theorem eqv_ints : ∀ a c : List Int, PyData.eqvAll (a.map .int) (c.map .int) = decide (a = c)
  | [], [] => rfl
  | [], _ :: _ => rfl
  | _ :: _, [] => rfl
  | x :: a, y :: c => by
    show ((x == y) && PyData.eqvAll (a.map .int) (c.map .int)) = _
    rw [eqv_ints a c]
    by_cases h : x = y
    · subst h
      simp
    · simp [h]
theorem eqv_lists : ∀ F G : List (List Int), PyData.eqvAll (F.map fun f => .list (f.map .int)) (G.map fun f => .list (f.map .int)) = decide (F = G)
  | [], [] => rfl
  | [], _ :: _ => rfl
  | _ :: _, [] => rfl
  | x :: a, y :: c => by
    show (PyData.eqvAll (x.map .int) (y.map .int) && PyData.eqvAll (a.map fun f => .list (f.map .int)) (c.map fun f => .list (f.map .int))) = _
    rw [eqv_lists a c, eqv_ints]
    by_cases h : x = y
    · subst h
      simp
    · simp [h]
theorem shaped_tup (ns : List Int) : PySem.SeqAt.shaped (.tuple (ns.map .int)) = true := by
  have h1 := lay_ints ns
  have h2 := depth_ints ns
  have h3 : PyData.depth (.tuple (ns.map .int)) ≤ 64 := by
    show PyData.depthAll (ns.map .int) + 1 ≤ 64
    omega
  show (PyData.canLayAll0 (ns.map .int) && decide (PyData.depth (.tuple (ns.map .int)) ≤ 64)) = true
  rw [h1, decide_eq_true h3]
  rfl
theorem lay_lists : ∀ F : List (List Int), PyData.canLayAll0 (F.map fun f => .list (f.map .int)) = true
  | [] => rfl
  | f :: F => by
    show (PyData.canLayAll0 (f.map .int) && PyData.canLayAll0 (F.map fun f => .list (f.map .int))) = true
    rw [lay_lists F, lay_ints f]
    rfl
theorem depth_lists : ∀ F : List (List Int), PyData.depthAll (F.map fun f => .list (f.map .int)) ≤ 2
  | [] => by decide
  | f :: F => by
    have h1 := depth_lists F
    have h2 := depth_ints f
    show max (PyData.depthAll (f.map .int) + 1) (PyData.depthAll (F.map fun f => .list (f.map .int))) ≤ 2
    omega
theorem shaped_lists (F : List (List Int)) : PySem.SeqAt.shaped (.list (F.map fun f => .list (f.map .int))) = true := by
  have h1 := lay_lists F
  have h2 := depth_lists F
  have h3 : PyData.depth (.list (F.map fun f => .list (f.map .int))) ≤ 64 := by
    show PyData.depthAll (F.map fun f => .list (f.map .int)) + 1 ≤ 64
    omega
  show (PyData.canLayAll0 (F.map fun f => .list (f.map .int)) && decide (PyData.depth (.list (F.map fun f => .list (f.map .int))) ≤ 64)) = true
  rw [h1, decide_eq_true h3]
  rfl
/-- == of two tuples of whole numbers -/
theorem eq_tups (a c : List Int) (S : Sto) : cmpV .eq (.d (.tup (a.map .int))) (.d (.tup (c.map .int))) S = some (decide (a = c)) := by
  show deepEq (.d (.tup (a.map .int))) (.d (.tup (c.map .int))) S = _
  have h : ∀ ns : List Int, pyD pyF S (.tup (ns.map .int)) = some (.tuple (ns.map .int)) := fun ns => by
    show (mapO (pyD 11 S) (ns.map .int)).map PyData.tuple = _
    rw [mapO_ints]
    rfl
  show ((pyD pyF S (.tup (a.map .int))).bind fun p => (pyD pyF S (.tup (c.map .int))).bind fun q => if PySem.SeqAt.shaped p = true ∧ PySem.SeqAt.shaped q = true then some (PyData.eqv p q) else none) = _
  rw [h, h]
  show (if PySem.SeqAt.shaped (.tuple (a.map .int)) = true ∧ PySem.SeqAt.shaped (.tuple (c.map .int)) = true then some (PyData.eqvAll (a.map .int) (c.map .int)) else none) = _
  rw [if_pos ⟨shaped_tup a, shaped_tup c⟩, eqv_ints]
theorem mapO_locs (n : Nat) (S : Sto) : ∀ (locs : List Nat) (F : List (List Int)), locs.length = F.length → (∀ (k l : Nat), locs[k]? = some l → ∃ f : List Int, F[k]? = some f ∧ S[l]? = some (.lst (f.map .int))) → mapO (pyD (n + 2) S) (locs.map .loc) = some (F.map fun f => .list (f.map .int))
  | [], [], _, _ => rfl
  | [], _ :: _, h, _ => by cases h
  | _ :: _, [], h, _ => by cases h
  | l :: locs, f :: F, h, hk => by
    obtain ⟨f', h1, h2⟩ := hk 0 l rfl
    have : f = f' := by simpa using h1
    subst this
    have ih := mapO_locs n S locs F (by simpa using h) fun k q hq => hk (k + 1) q hq
    show ((match S[l]? with
      | some (.lst xs) => (mapO (pyD (n + 1) S) xs).map PyData.list
      | _ => none).bind fun y => (mapO (pyD (n + 2) S) (locs.map .loc)).map (y :: ·)) = _
    rw [h2, ih]
    dsimp only
    rw [mapO_ints]
    rfl
/-- == of two lists of lists of whole numbers -/
theorem eq_lists {S : Sto} {p q : Nat} {l1 l2 : List Nat} {F G : List (List Int)} (hp : S[p]? = some (.lst (l1.map .loc))) (hq : S[q]? = some (.lst (l2.map .loc))) (e1 : l1.length = F.length) (e2 : l2.length = G.length) (h1 : ∀ (k l : Nat), l1[k]? = some l → ∃ f : List Int, F[k]? = some f ∧ S[l]? = some (.lst (f.map .int))) (h2 : ∀ (k l : Nat), l2[k]? = some l → ∃ f : List Int, G[k]? = some f ∧ S[l]? = some (.lst (f.map .int))) : cmpV .eq (.d (.loc p)) (.d (.loc q)) S = some (decide (F = G)) := by
  have a1 : pyD pyF S (.loc p) = some (.list (F.map fun f => .list (f.map .int))) := by
    show (match S[p]? with
      | some (.lst xs) => (mapO (pyD 11 S) xs).map PyData.list
      | _ => none) = _
    rw [hp]
    dsimp only
    rw [mapO_locs 9 S l1 F e1 h1]
    rfl
  have a2 : pyD pyF S (.loc q) = some (.list (G.map fun f => .list (f.map .int))) := by
    show (match S[q]? with
      | some (.lst xs) => (mapO (pyD 11 S) xs).map PyData.list
      | _ => none) = _
    rw [hq]
    dsimp only
    rw [mapO_locs 9 S l2 G e2 h2]
    rfl
  show ((pyD pyF S (.loc p)).bind fun p => (pyD pyF S (.loc q)).bind fun q => if PySem.SeqAt.shaped p = true ∧ PySem.SeqAt.shaped q = true then some (PyData.eqv p q) else none) = _
  rw [a1, a2]
  show (if PySem.SeqAt.shaped (.list (F.map fun f => .list (f.map .int))) = true ∧ PySem.SeqAt.shaped (.list (G.map fun f => .list (f.map .int))) = true then some (PyData.eqvAll (F.map fun f => .list (f.map .int)) (G.map fun f => .list (f.map .int))) else none) = _
  rw [if_pos ⟨shaped_lists F, shaped_lists G⟩, eqv_lists]
end Pv
namespace Pv
theorem cut_ints (ns : List Int) (i j : Option Int) : ∃ ms : List Int, cut (ns.map .int) i j = ms.map .int ∧ (∀ x ∈ ms, x ∈ ns) ∧ ms.length ≤ ns.length := by
  refine ⟨(ns.drop (sIx ns.length 0 i)).take (sIx ns.length ns.length j - sIx ns.length 0 i), ?_, fun x hx => List.mem_of_mem_drop (List.mem_of_mem_take hx), ?_⟩
  · unfold cut
    rw [List.length_map, List.map_take, List.map_drop]
  · rw [List.length_take, List.length_drop]
    omega
/-- a part of a row -/
theorem pv_slr {rc : Rc} {e : Env} {S : Sto} {x : E} {lo hi : Oe} {ns : List Int} {i j : Option Int} (hx : PV rc e S x (.d (.tup (ns.map .int)))) (hl : PO rc e S lo i) (hh : PO rc e S hi j) : ∃ ms : List Int, PV rc e S (.sl x lo hi) (.d (.tup (ms.map .int))) ∧ (∀ x ∈ ms, x ∈ ns) ∧ ms.length ≤ ns.length := by
  obtain ⟨ms, h1, h2, h3⟩ := cut_ints ns i j
  refine ⟨ms, pv_sl hx hl hh ?_, h2, h3⟩
  rw [slice_tup, h1]
theorem pv_catr {rc : Rc} {e : Env} {S : Sto} {x y : E} {a c : List Int} (hx : PV rc e S x (.d (.tup (a.map .int)))) (hy : PV rc e S y (.d (.tup (c.map .int)))) (h1 : a.length < 100000) (h2 : c.length < 100000) : PV rc e S (.bin .add x y) (.d (.tup ((a ++ c).map .int))) := by
  refine pv_bin hx hy ?_
  rw [binV_catT _ _ (by simp; omega), List.map_append]
/-- a row without the one at a place, or with something else there -/
theorem pv_pos {rc : Rc} {e : Env} {S : Sto} {x : E} {k : Int} (h : PV rc e S x (.d (.int k))) (d : Int) : PO rc e S (.some (.bin .add x (.cn (.int d)))) (some (k + d)) := po_some (pv_bini h (pv_cn _) rfl)
end Pv
set_option linter.all false
set_option autoImplicit false
/-! Rules for a op b op c, index, insert. -/
namespace Pv
section
variable {rc : Rc} {e : Env} {S : Sto}
theorem pv_chn {o p : Co} {x y z : E} {a b c : D} {k l : Bool} (hx : PV rc e S x (.d a)) (hy : PV rc e S y (.d b)) (h1 : cmpV o (.d a) (.d b) S = some k) (hz : k = true → PV rc e S z (.d c) ∧ cmpV p (.d b) (.d c) S = some l) : PV rc e S (.chn o p x y z) (.d (.bl (k && l))) := fun t => by
  show (((evE rc x).v t e S >>= fun r => Rs.ok (settle r.1 r.2)) >>= _) = _
  rw [hx t]
  show (((evE rc y).v t e S >>= fun r => Rs.ok (settle r.1 r.2)) >>= _) = _
  rw [hy t]
  show (Rs.ofO (cmpV o (.d a) (.d b) S) >>= _) = _
  rw [h1]
  cases k with
  | false => rfl
  | true =>
    obtain ⟨h2, h3⟩ := hz rfl
    show (((evE rc z).v t e S >>= fun r => Rs.ok (settle r.1 r.2)) >>= _) = _
    rw [h2 t]
    show (Rs.ofO (cmpV p (.d b) (.d c) S) >>= _) = _
    rw [h3]
    rfl
theorem ev_andb {b : Nat} {x y : E} {Q : Vl × Sto → Prop} (hx : PV rc e S x (.d (.bl true))) (h : Ok ((evE rc y).v b e S) Q) : Ok ((evE rc (.and x y)).v b e S) Q := by
  rw [v_and, hx b, ok_bind]
  exact h
theorem find_eqv : ∀ (ns : List Int) (i : Int), (ns.map PySem.PyData.int).findIdx? (fun z => PySem.PyData.eqv z (.int i)) = ns.findIdx? fun y => y == i
  | [], _ => rfl
  | n :: ns, i => by
    rw [List.map_cons, List.findIdx?_cons, List.findIdx?_cons, find_eqv ns i]
    rfl
/-- l.index(i) of whole numbers -/
theorem meth_index {b l : Nat} {ns : List Int} {i : Int} {j : Nat} (hl : S[l]? = some (.lst (ns.map .int))) (hj : ns.findIdx? (fun y => y == i) = some j) : meth1 b .index (.loc l) (.int i) S = .ok (.d (.int (j : Nat)), S) := by
  have h1 : pyD pyF S (.loc l) = some (.list (ns.map .int)) := by
    show (match S[l]? with
      | some (.lst xs) => (mapO (pyD 11 S) xs).map PySem.PyData.list
      | _ => none) = _
    rw [hl]
    show (mapO (pyD 11 S) (ns.map .int)).map PySem.PyData.list = _
    rw [mapO_ints]
    rfl
  have h2 : pyD pyF S (.int i) = some (.int i) := rfl
  have hs : PySem.SeqAt.shaped (.int i) = true := by
    have h3 : PySem.PyData.depth (.int i) ≤ 64 := by unfold PySem.PyData.depth; omega
    show (PySem.PyData.canLay0 (.int i) && decide (PySem.PyData.depth (.int i) ≤ 64)) = true
    rw [decide_eq_true h3]
    rfl
  unfold meth1
  dsimp only
  rw [h1, h2]
  dsimp only
  rw [if_pos ⟨shaped_ints ns, hs⟩, find_eqv, hj]
theorem pv_index {x y : E} {l : Nat} {ns : List Int} {i : Int} {j : Nat} (hx : PV rc e S x (.d (.loc l))) (hl : S[l]? = some (.lst (ns.map .int))) (hy : PV rc e S y (.d (.int i))) (hj : ns.findIdx? (fun y => y == i) = some j) : PV rc e S (.m1 .index x y) (.d (.int (j : Nat))) := fun b => (pv_m1 hx hl hy).trans (meth_index hl hj)
theorem st_ins {b l : Nat} {Q : Fl × Env × Sto → Prop} {x y z : E} {r : Ss} {xs : List D} (hx : PV rc e S x (.d (.loc l))) (hl : S[l]? = some (.lst xs)) (hn : xs.length < 16777216) (h : Ok ((evE rc y).v b e S) fun q => ∃ (i : Int) (S1 : Sto), q = (.d (.int i), S1) ∧ 0 ≤ i ∧ i < 1000000 ∧ S1[l]? = some (.lst xs) ∧ Ok ((evE rc z).v b e S1) fun p => ∃ v, p = (.d v, S1) ∧ wr b l v ∧ Ok (evSs rc r b e (S1.set l (.lst (xs.take i.toNat ++ [v] ++ xs.drop i.toNat)))) Q) : Ok (evSs rc (.cons (.expr (.m2 .insert x y z)) r) b e S) Q := by
  refine ok_expr ?_
  show Ok (((evE rc x).v b e S >>= fun r => Rs.ok (settle r.1 r.2)) >>= _) _
  rw [hx b]
  show Ok (Rs.ofO (match S[l]? with
    | some (.lst _) => some ()
    | _ => none) >>= _) _
  rw [hl]
  show Ok (((evE rc y).v b e S >>= fun r => Rs.ok (settle r.1 r.2)) >>= _) _
  refine Ok.bind (Ok.bind (Ok.mono h fun q hq => ?_))
  obtain ⟨i, S1, rfl, i0, i1, h1, h2⟩ := hq
  refine Ok.ok ?_
  show Ok (((evE rc z).v b e S1 >>= fun r => Rs.ok (settle r.1 r.2)) >>= _) _
  refine Ok.bind (Ok.bind (Ok.mono h2 fun p hp => ?_))
  obtain ⟨v, rfl, hw, h3⟩ := hp
  refine Ok.ok ?_
  show Ok (meth2 b .insert (.loc l) (.int i) v S1) _
  unfold meth2
  dsimp only
  rw [h1]
  dsimp only
  rw [if_pos ⟨⟨i0, by omega⟩, hn, hw⟩]
  exact Ok.ok h3
end
end Pv
namespace Pv
/-- while c: .. ; I: what holds ahead of each turn, m: what grows less -/
theorem ok_whileL {t : Env → Sto → Rs (Bool × Sto)} {f : Env → Sto → Rs (Fl × Env × Sto)} {Q : Fl × Env × Sto → Prop} (I : Nat → Env → Sto → Prop)
    (h : ∀ m e S, I m e S → Ok (t e S) fun r => (r.1 = false → Q (.nx, e, r.2)) ∧ (r.1 = true → Ok (f e r.2) fun q => match q.1 with
      | .nx => ∃ m', m' < m ∧ I m' q.2.1 q.2.2
      | .ct => ∃ m', m' < m ∧ I m' q.2.1 q.2.2
      | .br => Q (.nx, q.2)
      | .rt v => Q (.rt v, q.2))) : ∀ (N m : Nat) (e : Env) (S : Sto), m < N → I m e S → Ok (whileL t f N e S) Q
  | 0, m, e, S, hm, _ => by omega
  | N + 1, m, e, S, hm, hI => by
    unfold whileL
    refine Ok.bind (Ok.mono (h m e S hI) fun r ⟨h1, h2⟩ => ?_)
    obtain ⟨k, S1⟩ := r
    cases k with
    | false => exact Ok.ok (h1 rfl)
    | true =>
      refine Ok.bind (Ok.mono (h2 rfl) fun q hq => ?_)
      obtain ⟨fl, e2, S2⟩ := q
      cases fl with
      | nx =>
        obtain ⟨m', h3, h4⟩ := hq
        exact ok_whileL I h N m' e2 S2 (by omega) h4
      | ct =>
        obtain ⟨m', h3, h4⟩ := hq
        exact ok_whileL I h N m' e2 S2 (by omega) h4
      | br => exact Ok.ok hq
      | rt v => exact Ok.ok hq
theorem st_while {rc : Rc} {b : Nat} {e : Env} {S : Sto} {Q : Fl × Env × Sto → Prop} {c : E} {body r : Ss} (I : Nat → Env → Sto → Prop) {m : Nat} (hm : m < 1000000000) (h0 : I m e S)
    (h : ∀ m e S, I m e S → Ok ((evE rc c).t b e S) fun q => (q.1 = false → Ok (evSs rc r b e q.2) Q) ∧ (q.1 = true → Ok (evSs rc body b e q.2) fun q => match q.1 with
      | .nx => ∃ m', m' < m ∧ I m' q.2.1 q.2.2
      | .ct => ∃ m', m' < m ∧ I m' q.2.1 q.2.2
      | .br => Ok (evSs rc r b q.2.1 q.2.2) Q
      | .rt v => Q (.rt v, q.2))) : Ok (evSs rc (.cons (.while c body) r) b e S) Q := by
  refine ok_seq (Q := Q) ?_
  show Ok (whileL (fun e S => (evE rc c).t b e S) (fun e S => evSs rc body b e S) big e S) _
  refine Ok.mono (ok_whileL (Q := Then rc r b Q) I (fun m e S hI => ?_) big m e S hm h0) fun q hq => ?_
  · refine Ok.mono (h m e S hI) fun q ⟨h1, h2⟩ => ⟨fun hk => Then.nx (h1 hk), fun hk => ?_⟩
    refine Ok.mono (h2 hk) fun w hw => ?_
    obtain ⟨fl, e2, S2⟩ := w
    cases fl with
    | nx => exact hw
    | ct => exact hw
    | br => exact Then.nx hw
    | rt v => exact Then.rt hw
  · exact hq
/-- x op= y, both whole numbers -/
theorem st_aug {rc : Rc} {b i : Nat} {e : Env} {S : Sto} {Q : Fl × Env × Sto → Prop} {r : Ss} {o : Bo} {x : E} {v d w : Int} (hi : e[i]? = some (some (.int v))) (hx : PV rc e S x (.d (.int d))) (hw : binI o v d = some w) (h : Ok (evSs rc r b (e.set i (some (.int w))) S) Q) : Ok (evSs rc (.cons (.aug i o x) r) b e S) Q := by
  refine ok_seq (Q := Q) ?_
  show Ok (envGet e i >>= _) _
  unfold envGet
  rw [hi]
  show Ok (((evE rc x).v b e S >>= fun r => Rs.ok (settle r.1 r.2)) >>= _) _
  rw [hx b]
  show Ok (Rs.ofO ((binI o v d).map D.int) >>= _) _
  rw [hw]
  exact Ok.ok h
end Pv
set_option linter.all false
set_option autoImplicit false
/-! Ranges whose end is drawn. -/
namespace Pv
section
variable {rc : Rc} {b : Nat} {e : Env} {S : Sto}
theorem ev_mkr {hi : E} {Q : Vl × Sto → Prop} (h : Ok ((evE rc hi).v b e S) fun r => ∃ (k : Int) (S1 : Sto), r = (.d (.int k), S1) ∧ 0 ≤ k ∧ k ≤ 1000000 ∧ Q (.fr ((rngI k.toNat).map .int), S1)) : Ok ((evE rc (.mkr .list .none hi)).v b e S) Q := by
  obtain ⟨r, e1, k, S1, rfl, k0, k1, hq⟩ := h
  show Ok (((Rs.ok (none, S) >>= fun p => sD (evE rc hi).v b e p.2 >>= _) >>= _) : Rs (Vl × Sto)) Q
  show Ok (((((evE rc hi).v b e S >>= fun r => Rs.ok (settle r.1 r.2)) >>= _) >>= _) : Rs (Vl × Sto)) Q
  rw [e1]
  show Ok ((if (-4611686018427387904 ≤ (0 : Int) ∧ (0 : Int) < 4611686018427387904) ∧ (-4611686018427387904 ≤ k ∧ k < 4611686018427387904) then Rs.ok (((0 : Int), k), S1) else .bad) >>= _) Q
  rw [if_pos ⟨by omega, by omega⟩]
  show Ok (if (k - 0).toNat ≤ line then Rs.ok (Vl.fr (rngD 0 k), S1) else .bad) Q
  rw [if_pos (by unfold line; omega)]
  rw [show rngD 0 k = (rngI k.toNat).map .int by rw [← rngD_int, show ((k.toNat : Nat) : Int) = k by omega]]
  exact Ok.ok hq
theorem ei_rng0 {hi : E} {Q : (Chk × List D) × Sto → Prop} (h : Ok ((evE rc hi).v b e S) fun r => ∃ (k : Int) (S1 : Sto), r = (.d (.int k), S1) ∧ 0 ≤ k ∧ k ≤ 1000000 ∧ Q (([], (rngI k.toNat).map .int), S1)) : Ok (evIt rc (.rng .none hi) b e S) Q := by
  obtain ⟨r, e1, k, S1, rfl, k0, k1, hq⟩ := h
  rw [i_rng]
  show Ok (((Rs.ok (none, S) >>= fun p => (evE rc hi).v b e p.2 >>= _) >>= _) : Rs ((Chk × List D) × Sto)) Q
  show Ok ((((evE rc hi).v b e S >>= _) >>= _) : Rs ((Chk × List D) × Sto)) Q
  rw [e1]
  show Ok ((if (-4611686018427387904 ≤ (0 : Int) ∧ (0 : Int) < 4611686018427387904) ∧ (-4611686018427387904 ≤ k ∧ k < 4611686018427387904) then Rs.ok (((0 : Int), k), S1) else .bad) >>= _) Q
  rw [if_pos ⟨by omega, by omega⟩]
  show Ok (if (k - 0).toNat ≤ line then Rs.ok (([], rngD 0 k), S1) else .bad) Q
  rw [if_pos (by unfold line; omega)]
  rw [show rngD 0 k = (rngI k.toNat).map .int by rw [← rngD_int, show ((k.toNat : Nat) : Int) = k by omega]]
  exact Ok.ok hq
theorem find_mem {ns : List Int} {x : Int} (h : x ∈ ns) : ∃ j, ns.findIdx? (fun y => y == x) = some j ∧ j < ns.length := by
  cases hf : ns.findIdx? (fun y => y == x) with
  | none =>
    have := List.findIdx?_eq_none_iff.mp hf x h
    simp at this
  | some j =>
    obtain ⟨hl, _⟩ := List.findIdx?_eq_some_iff_getElem.mp hf
    exact ⟨j, rfl, hl⟩
end
/-- a tuple with own lists in it, told -/
theorem leave_tup {n : Nat} {xs : List D} {S : Sto} {a : Nat} (h : .loc a ∈ xs) (hn : n ≤ a) : leave n (.d (.tup xs)) S = (.d (.tup xs), S) := by
  have : ubL n xs = false := by
    rw [Bool.eq_false_iff]
    intro e
    have := (ubL_mem.mp e) _ h
    have h2 : decide (a < n) = true := this
    have := of_decide_eq_true h2
    omega
  show (if ubL n xs = true then (Vl.d (.tup xs), S.take n) else (Vl.d (.tup xs), S)) = _
  rw [if_neg (by rw [this]; simp)]
end Pv
set_option linter.all false
set_option autoImplicit false
set_option maxRecDepth 100000
set_option maxHeartbeats 0
/-! The law's defs as terms of the evaluator, the check, the head: printed by gen.py. -/
namespace K24
open PySem PySem.Spec PyProof.Rows Pv

def top (i : Nat) : Stmt := PySem.Challenge.pw_oneactmore_k24_cuts_that_come_to_rest.main.body.getD i (.Pass ⟨0, 0, 0, 0⟩)

/-- shut_hands(web, shut, letter); slots: 0 web, 1 shut, 2 letter, 3 found, 4 hand -/
def b_shut_hands_1 : Ss :=
  (.cons (.ite (.din false (.var 4) (.var 1)) (.cons (.asg (.var 3) (.cn (.bl true)))
    .nil) .nil)
  (.cons (.dput (.var 1) (.var 4) (.cn (.bl true)))
  .nil))
def b_shut_hands : Ss :=
  (.cons (.asg (.var 3) (.cn (.bl false)))
  (.cons (.for (.var 4) (.e (.idx (.idx (.var 0) (.cn (.int 1))) (.var 2))) b_shut_hands_1)
  (.cons (.ret (.var 3))
  .nil)))
def f_shut_hands : Fn := ⟨"shut_hands", top 1, ["web", "shut", "letter", "found", "hand"], 3, b_shut_hands, [(3, [], [0, 1, 2])]⟩
/-- first_place(web, left); slots: 0 web, 1 left, 2 best, 3 shut, 4 place, 5 letter, 6 is_late -/
def b_first_place_1 : Ss :=
  (.cons (.asg (.var 6) (.call 0 (.cons (.var 0) (.cons (.var 3) (.cons (.var 5) .nil))) .nil [0, 1, 2]))
  (.cons (.ite (.and (.not (.var 6)) (.cmp .lt (.var 5) (.idx (.var 1) (.var 2)))) (.cons (.asg (.var 2) (.var 4))
    .nil) .nil)
  (.cons (.ite (.cmp .eq (.dlen (.var 3)) (.idx (.var 0) (.cn (.int 0)))) (.cons .brk
    .nil) .nil)
  .nil)))
def b_first_place : Ss :=
  (.cons (.asg (.var 2) (.cn (.int 0)))
  (.cons (.asg (.var 3) (.dnew false))
  (.cons (.for (.tup (.cons (.var 4) (.cons (.var 5) .nil))) (.enum (.var 1)) b_first_place_1)
  (.cons (.ret (.var 2))
  .nil))))
def f_first_place : Fn := ⟨"first_place", top 2, ["web", "left", "best", "shut", "place", "letter", "is_late"], 2, b_first_place, [(2, [], [0, 1])]⟩
/-- least_form(web, row); slots: 0 web, 1 row, 2 left, 3 found, 4 turn -/
def b_least_form_1 : Ss :=
  (.cons (.expr (.m1 .append (.var 3) (.m1 .pop (.var 2) (.call 1 (.cons (.var 0) (.cons (.var 2) .nil)) .nil [0, 1]))))
  .nil)
def b_least_form : Ss :=
  (.cons (.asg (.var 2) (.f1 .list (.var 1)))
  (.cons (.asg (.var 3) (.lst .nil))
  (.cons (.for (.var 4) (.rng .none (.f1 .len (.var 1))) b_least_form_1)
  (.cons (.ret (.f1 .tuple (.var 3)))
  .nil))))
def f_least_form : Fn := ⟨"least_form", top 3, ["web", "row", "left", "found", "turn"], 2, b_least_form, [(2, [], [0, 1])]⟩
/-- seen_events(web, row, eye); slots: 0 web, 1 row, 2 eye, 3 hands, 4 marks, 5 letter, 6 is_seen, 7 hand -/
def b_seen_events_1 : Ss :=
  (.cons (.dput (.var 3) (.var 7) (.cn (.bl true)))
  .nil)
def b_seen_events_2 : Ss :=
  (.cons (.asg (.var 6) (.or (.cmp .inn (.var 5) (.var 2)) (.cmp .gt (.f1 .len (.comp (.var 7) (.var 7) (.e (.idx (.idx (.var 0) (.cn (.int 1))) (.var 5))) (.cons (.din false (.var 7) (.var 3)) .nil) [7])) (.cn (.int 0)))))
  (.cons (.ite (.var 6) (.cons (.for (.var 7) (.e (.idx (.idx (.var 0) (.cn (.int 1))) (.var 5))) b_seen_events_1)
    .nil) .nil)
  (.cons (.expr (.m1 .append (.var 4) (.var 6)))
  .nil)))
def b_seen_events : Ss :=
  (.cons (.asg (.var 3) (.dnew false))
  (.cons (.asg (.var 4) (.lst .nil))
  (.cons (.for (.var 5) (.rev (.var 1)) b_seen_events_2)
  (.cons (.ret (.rev (.var 4)))
  .nil))))
def f_seen_events : Fn := ⟨"seen_events", top 5, ["web", "row", "eye", "hands", "marks", "letter", "is_seen", "hand"], 3, b_seen_events, [(3, [], [0, 1, 2])]⟩
/-- view_of(web, row, eye); slots: 0 web, 1 row, 2 eye, 3 marks, 4 letter, 5 is_seen -/
def b_view_of : Ss :=
  (.cons (.asg (.var 3) (.call 3 (.cons (.var 0) (.cons (.var 1) (.cons (.var 2) .nil))) .nil [0, 1, 2]))
  (.cons (.ret (.call 2 (.cons (.var 0) (.cons (.f1 .tuple (.comp (.var 4) (.tup (.cons (.var 4) (.cons (.var 5) .nil))) (.zip (.var 1) (.var 3)) (.cons (.var 5) .nil) [4, 5])) .nil)) .nil [0, 1]))
  .nil))
def f_view_of : Fn := ⟨"view_of", top 6, ["web", "row", "eye", "marks", "letter", "is_seen"], 3, b_view_of, [(3, [], [0, 1, 2])]⟩
/-- row_cuts(web, row, eyes); slots: 0 web, 1 row, 2 eyes, 3 here, 4 cuts, 5 calm, 6 place, 7 seen -/
def b_row_cuts_1 : Ss :=
  (.cons (.asg (.var 7) (.call 4 (.cons (.var 0) (.cons (.var 3) (.cons (.idx (.var 2) (.var 6)) .nil))) .nil [0, 1, 2]))
  (.cons (.aug 5 .add (.cn (.int 1)))
  (.cons (.ite (.cmp .ne (.var 7) (.var 3)) (.cons (.expr (.m1 .append (.var 4) (.tup (.cons (.var 6) (.cons (.var 7) .nil)))))
    (.cons (.swap [3, 5] (.cons (.var 7) (.cons (.cn (.int 0)) .nil)))
    .nil)) .nil)
  (.cons (.asg (.var 6) (.bin .mod (.bin .add (.var 6) (.cn (.int 1))) (.f1 .len (.var 2))))
  .nil))))
def b_row_cuts : Ss :=
  (.cons (.asg (.tup (.cons (.var 3) (.cons (.var 4) (.cons (.var 5) (.cons (.var 6) .nil))))) (.tup (.cons (.call 2 (.cons (.var 0) (.cons (.var 1) .nil)) .nil [0, 1]) (.cons (.lst .nil) (.cons (.cn (.int 0)) (.cons (.cn (.int 0)) .nil))))))
  (.cons (.while (.cmp .lt (.var 5) (.f1 .len (.var 2))) b_row_cuts_1)
  (.cons (.ret (.var 4))
  .nil)))
def f_row_cuts : Fn := ⟨"row_cuts", top 8, ["web", "row", "eyes", "here", "cuts", "calm", "place", "seen"], 3, b_row_cuts, [(3, [], [0, 1, 2])]⟩
/-- cut_rows(web, row, eyes); slots: 0 web, 1 row, 2 eyes, 3 place, 4 seen -/
def b_cut_rows : Ss :=
  (.cons (.ret (.bin .add (.tup (.cons (.call 2 (.cons (.var 0) (.cons (.var 1) .nil)) .nil [0, 1]) .nil)) (.f1 .tuple (.comp (.var 4) (.tup (.cons (.var 3) (.cons (.var 4) .nil))) (.e (.call 5 (.cons (.var 0) (.cons (.var 1) (.cons (.var 2) .nil))) .nil [0, 1, 2])) .nil [3, 4]))))
  .nil)
def f_cut_rows : Fn := ⟨"cut_rows", top 9, ["web", "row", "eyes", "place", "seen"], 3, b_cut_rows, [(0, ["web","row","eyes"], [0, 1, 2]), (3, [], [0, 1, 2])]⟩
/-- _law_box(script, k); slots: 0 script, 1 k, 2 cell, 3 great -/
def b__law_box : Ss :=
  (.cons (.asg (.var 2) (.bin .add (.bin .mul (.cn (.int 7919)) (.var 1)) (.cn (.int 1931))))
  (.cons (.ite (.cmp .lt (.var 1) (.f1 .len (.var 0))) (.cons (.asg (.var 2) (.f1 .abs (.f1 .int (.idx (.var 0) (.var 1)))))
    .nil) (.cons (.ite (.cmp .gt (.f1 .len (.var 0)) (.cn (.int 0))) (.cons (.asg (.var 2) (.bin .add (.var 2) (.bin .mul (.bin .mod (.f1 .int (.f1 .abs (.f1 .int (.idx (.var 0) (.bin .mod (.f1 .int (.var 1)) (.f1 .len (.var 0))))))) (.cn (.int 2147483563))) (.cn (.int 48271)))))
      .nil) .nil)
    .nil))
  (.cons (.asg (.var 3) (.ite (.cmp .ge (.var 2) (.bin .pow (.cn (.int 10)) (.cn (.int 18)))) (.var 2) (.cn (.int 0))))
  (.cons (.ret (.lst (.cons (.var 3) (.cons (.bin .add (.bin .mod (.f1 .int (.bin .add (.bin .mul (.bin .mod (.f1 .int (.var 2)) (.cn (.int 2147483563))) (.cn (.int 40014))) (.bin .mul (.cn (.int 1931)) (.var 1)))) (.cn (.int 2147483563))) (.cn (.int 1))) .nil))))
  .nil))))
def f__law_box : Fn := ⟨"_law_box", top 11, ["script", "k", "cell", "great"], 2, b__law_box, [(2, [], [0, 1])]⟩
/-- _law_take(box, many); slots: 0 box, 1 many, 2 digit, 3 raw -/
def b__law_take : Ss :=
  (.cons (.ite (.cmp .gt (.idx (.var 0) (.cn (.int 0))) (.cn (.int 0))) (.cons (.asg (.var 2) (.bin .mod (.f1 .int (.idx (.var 0) (.cn (.int 0)))) (.var 1)))
    (.cons (.asg (.sub (.var 0) (.cn (.int 0))) (.bin .fdiv (.idx (.var 0) (.cn (.int 0))) (.var 1)))
    (.cons (.ret (.var 2))
    .nil))) .nil)
  (.cons (.asg (.var 3) (.bin .mod (.f1 .int (.bin .add (.bin .mul (.idx (.var 0) (.cn (.int 1))) (.cn (.int 39373))) (.cn (.int 982)))) (.cn (.int 2147483647))))
  (.cons (.asg (.sub (.var 0) (.cn (.int 1))) (.bin .add (.bin .mod (.f1 .int (.bin .add (.bin .mul (.var 3) (.cn (.int 40692))) (.cn (.int 88)))) (.cn (.int 2147483399))) (.cn (.int 1))))
  (.cons (.ret (.bin .mod (.f1 .int (.bin .fdiv (.bin .add (.bin .mul (.var 3) (.cn (.int 2147483629))) (.idx (.var 0) (.cn (.int 1)))) (.cn (.int 8209)))) (.var 1)))
  .nil))))
def f__law_take : Fn := ⟨"_law_take", top 12, ["box", "many", "digit", "raw"], 2, b__law_take, [(2, [], [0, 1])]⟩
/-- _law_pick(box, some); slots: 0 box, 1 some -/
def b__law_pick : Ss :=
  (.cons (.ret (.idx (.var 1) (.call 8 (.cons (.var 0) (.cons (.f1 .len (.var 1)) .nil)) .nil [0, 1])))
  .nil)
def f__law_pick : Fn := ⟨"_law_pick", top 13, ["box", "some"], 2, b__law_pick, [(2, [], [0, 1])]⟩
/-- _law_same(told, due); slots: 0 told, 1 due, 2 one, 3 other -/
def b__law_same_1 : Ss :=
  (.cons (.ite (.not (.call 10 (.cons (.var 2) (.cons (.var 3) .nil)) .nil [0, 1])) (.cons (.ret (.cn (.bl false)))
    .nil) .nil)
  .nil)
def b__law_same : Ss :=
  (.cons (.ite (.isi (.var 1) .tuple) (.cons (.ite (.or (.not (.isi (.var 0) .tuple)) (.cmp .ne (.f1 .len (.var 0)) (.f1 .len (.var 1)))) (.cons (.ret (.cn (.bl false)))
      .nil) .nil)
    (.cons (.for (.tup (.cons (.var 2) (.cons (.var 3) .nil))) (.zip (.var 0) (.var 1)) b__law_same_1)
    (.cons (.ret (.cn (.bl true)))
    .nil))) .nil)
  (.cons (.ite (.cmp .is (.var 1) (.cn (.non))) (.cons (.ret (.cmp .is (.var 0) (.cn (.non))))
    .nil) .nil)
  (.cons (.ite (.or (.cmp .is (.var 1) (.cn (.bl true))) (.cmp .is (.var 1) (.cn (.bl false)))) (.cons (.ret (.and (.isi (.var 0) .bool) (.cmp .eq (.var 0) (.var 1))))
    .nil) .nil)
  (.cons (.ite (.isi (.var 1) .int) (.cons (.ret (.and (.isi (.var 0) .int) (.and (.not (.isi (.var 0) .bool)) (.cmp .eq (.var 0) (.var 1)))))
    .nil) .nil)
  (.cons (.ret (.and (.isi (.var 0) .str) (.cmp .eq (.var 0) (.var 1))))
  .nil)))))
def f__law_same : Fn := ⟨"_law_same", top 14, ["told", "due", "one", "other"], 2, b__law_same, [(2, [], [0, 1])]⟩
/-- _law_mixed(box, some); slots: 0 box, 1 some, 2 left, 3 found, 4 turn -/
def b__law_mixed_1 : Ss :=
  (.cons (.expr (.m1 .append (.var 3) (.m1 .pop (.var 2) (.call 8 (.cons (.var 0) (.cons (.f1 .len (.var 2)) .nil)) .nil [0, 1]))))
  .nil)
def b__law_mixed : Ss :=
  (.cons (.asg (.var 2) (.f1 .list (.var 1)))
  (.cons (.asg (.var 3) (.lst .nil))
  (.cons (.for (.var 4) (.rng .none (.f1 .len (.var 1))) b__law_mixed_1)
  (.cons (.ret (.var 3))
  .nil))))
def f__law_mixed : Fn := ⟨"_law_mixed", top 15, ["box", "some", "left", "found", "turn"], 2, b__law_mixed, [(2, [], [0, 1])]⟩
/-- _law_web(box, hands, letters); slots: 0 box, 1 hands, 2 letters, 3 menu, 4 lots, 5 turn, 6 some -/
def b__law_web_1 : Ss :=
  (.cons (.asg (.var 6) (.call 11 (.cons (.var 0) (.cons (.mkr .list .none (.var 1)) .nil)) .nil [0, 1]))
  (.cons (.expr (.m1 .append (.var 4) (.f1 .tuple (.f1 .sorted (.sl (.var 6) .none (.some (.f2 .min (.var 1) (.call 9 (.cons (.var 0) (.cons (.var 3) .nil)) .nil [0, 1]))))))))
  .nil))
def b__law_web : Ss :=
  (.cons (.asg (.var 3) (.call 9 (.cons (.var 0) (.cons (.lst (.cons (.lst (.cons (.cn (.int 1)) .nil)) (.cons (.lst (.cons (.cn (.int 1)) (.cons (.cn (.int 1)) (.cons (.cn (.int 1)) (.cons (.cn (.int 2)) .nil))))) (.cons (.lst (.cons (.cn (.int 1)) (.cons (.cn (.int 2)) (.cons (.cn (.int 2)) (.cons (.cn (.int 3)) .nil))))) (.cons (.lst (.cons (.cn (.int 1)) (.cons (.cn (.int 1)) (.cons (.cn (.int 2)) (.cons (.cn (.int 3)) (.cons (.cn (.int 4)) .nil)))))) .nil))))) .nil)) .nil [0, 1]))
  (.cons (.asg (.var 4) (.lst .nil))
  (.cons (.for (.var 5) (.rng .none (.var 2)) b__law_web_1)
  (.cons (.ret (.tup (.cons (.var 1) (.cons (.f1 .tuple (.var 4)) .nil))))
  .nil))))
def f__law_web : Fn := ⟨"_law_web", top 16, ["box", "hands", "letters", "menu", "lots", "turn", "some"], 3, b__law_web, [(3, [], [0, 1, 2])]⟩
/-- _law_lane_web(box); slots: 0 box, 1 some -/
def b__law_lane_web : Ss :=
  (.cons (.asg (.var 1) (.lst (.cons (.tup (.cons (.cn (.int 0)) .nil)) (.cons (.tup (.cons (.cn (.int 1)) .nil)) (.cons (.tup (.cons (.cn (.int 2)) .nil)) (.cons (.tup (.cons (.cn (.int 3)) .nil)) (.cons (.tup (.cons (.cn (.int 0)) (.cons (.cn (.int 1)) .nil))) (.cons (.tup (.cons (.cn (.int 1)) (.cons (.cn (.int 2)) .nil))) (.cons (.tup (.cons (.cn (.int 2)) (.cons (.cn (.int 3)) .nil))) .nil)))))))))
  (.cons (.expr (.m1 .append (.var 1) (.f1 .tuple (.f1 .sorted (.sl (.call 11 (.cons (.var 0) (.cons (.mkr .list .none (.cn (.int 4))) .nil)) .nil [0, 1]) .none (.some (.bin .add (.cn (.int 1)) (.call 8 (.cons (.var 0) (.cons (.cn (.int 4)) .nil)) .nil [0, 1]))))))))
  (.cons (.ret (.tup (.cons (.cn (.int 4)) (.cons (.f1 .tuple (.call 11 (.cons (.var 0) (.cons (.var 1) .nil)) .nil [0, 1])) .nil))))
  .nil)))
def f__law_lane_web : Fn := ⟨"_law_lane_web", top 17, ["box", "some"], 1, b__law_lane_web, [(1, [], [0])]⟩
/-- _law_any_web(box, k); slots: 0 box, 1 k -/
def b__law_any_web : Ss :=
  (.cons (.ite (.cmp .eq (.var 1) (.cn (.int 0))) (.cons (.ret (.call 13 (.cons (.var 0) .nil) .nil [0]))
    .nil) .nil)
  (.cons (.ite (.cmp .eq (.var 1) (.cn (.int 1))) (.cons (.ret (.call 12 (.cons (.var 0) (.cons (.cn (.int 4)) (.cons (.cn (.int 8)) .nil))) .nil [0, 1, 2]))
    .nil) .nil)
  (.cons (.ret (.call 12 (.cons (.var 0) (.cons (.bin .add (.cn (.int 1)) (.call 8 (.cons (.var 0) (.cons (.cn (.int 4)) .nil)) .nil [0, 1])) (.cons (.bin .add (.cn (.int 1)) (.call 8 (.cons (.var 0) (.cons (.cn (.int 8)) .nil)) .nil [0, 1])) .nil))) .nil [0, 1, 2]))
  .nil)))
def f__law_any_web : Fn := ⟨"_law_any_web", top 18, ["box", "k"], 2, b__law_any_web, [(2, [], [0, 1])]⟩
/-- _law_bag(box, web); slots: 0 box, 1 web, 2 bag, 3 letter -/
def b__law_bag_1 : Ss :=
  (.cons (.asg (.var 2) (.bin .add (.var 2) (.bin .mul (.lst (.cons (.var 3) .nil)) (.call 9 (.cons (.var 0) (.cons (.lst (.cons (.cn (.int 0)) (.cons (.cn (.int 1)) (.cons (.cn (.int 1)) (.cons (.cn (.int 2)) (.cons (.ite (.cmp .eq (.f1 .len (.idx (.idx (.var 1) (.cn (.int 1))) (.var 3))) (.cn (.int 1))) (.cn (.int 6)) (.cn (.int 1))) .nil)))))) .nil)) .nil [0, 1]))))
  .nil)
def b__law_bag : Ss :=
  (.cons (.asg (.var 2) (.lst .nil))
  (.cons (.for (.var 3) (.rng .none (.f1 .len (.idx (.var 1) (.cn (.int 1))))) b__law_bag_1)
  (.cons (.ret (.ite (.cmp .gt (.f1 .len (.var 2)) (.cn (.int 0))) (.var 2) (.mkr .list .none (.f1 .len (.idx (.var 1) (.cn (.int 1)))))))
  .nil)))
def f__law_bag : Fn := ⟨"_law_bag", top 19, ["box", "web", "bag", "letter"], 2, b__law_bag, [(2, [], [0, 1])]⟩
/-- _law_row(box, web, many); slots: 0 box, 1 web, 2 many, 3 bag, 4 turn -/
def b__law_row : Ss :=
  (.cons (.asg (.var 3) (.call 15 (.cons (.var 0) (.cons (.var 1) .nil)) .nil [0, 1]))
  (.cons (.ret (.f1 .tuple (.comp (.call 9 (.cons (.var 0) (.cons (.var 3) .nil)) .nil [0, 1]) (.var 4) (.rng .none (.var 2)) .nil [4])))
  .nil))
def f__law_row : Fn := ⟨"_law_row", top 20, ["box", "web", "many", "bag", "turn"], 3, b__law_row, [(3, [], [0, 1, 2])]⟩
/-- _law_eye(box, web); slots: 0 box, 1 web, 2 letters, 3 kind, 4 hands, 5 counts, 6 lot, 7 hand, 8 found, 9 letter -/
def b__law_eye : Ss :=
  (.cons (.asg (.var 2) (.mkr .list .none (.f1 .len (.idx (.var 1) (.cn (.int 1))))))
  (.cons (.asg (.var 3) (.call 8 (.cons (.var 0) (.cons (.cn (.int 9)) .nil)) .nil [0, 1]))
  (.cons (.asg (.var 4) (.sl (.call 11 (.cons (.var 0) (.cons (.mkr .list .none (.idx (.var 1) (.cn (.int 0)))) .nil)) .nil [0, 1]) .none (.some (.ite (.cmp .lt (.var 3) (.cn (.int 2))) (.cn (.int 1)) (.bin .add (.cn (.int 1)) (.call 8 (.cons (.var 0) (.cons (.idx (.var 1) (.cn (.int 0))) .nil)) .nil [0, 1]))))))
  (.cons (.asg (.var 5) (.comp (.f1 .len (.comp (.var 7) (.var 7) (.e (.var 4)) (.cons (.cmp .inn (.var 7) (.var 6)) .nil) [7])) (.var 6) (.e (.idx (.var 1) (.cn (.int 1)))) .nil [6]))
  (.cons (.ite (.cmp .lt (.var 3) (.cn (.int 3))) (.cons (.asg (.var 8) (.comp (.var 9) (.var 9) (.e (.var 2)) (.cons (.cmp .gt (.idx (.var 5) (.var 9)) (.cn (.int 0))) .nil) [9]))
    (.cons (.ret (.ite (.cmp .ne (.var 3) (.cn (.int 1))) (.f1 .tuple (.var 8)) (.f1 .tuple (.comp (.var 9) (.var 9) (.e (.var 8)) (.cons (.cmp .eq (.call 8 (.cons (.var 0) (.cons (.cn (.int 2)) .nil)) .nil [0, 1]) (.cn (.int 0))) .nil) [9]))))
    .nil)) .nil)
  (.cons (.ite (.cmp .eq (.var 3) (.cn (.int 3))) (.cons (.ret (.f1 .tuple (.comp (.var 9) (.var 9) (.e (.var 2)) (.cons (.cmp .eq (.idx (.var 5) (.var 9)) (.f1 .len (.var 4))) .nil) [9])))
    .nil) .nil)
  (.cons (.ite (.cmp .eq (.var 3) (.cn (.int 4))) (.cons (.ret (.tup .nil))
    .nil) .nil)
  (.cons (.ite (.cmp .eq (.var 3) (.cn (.int 5))) (.cons (.ret (.f1 .tuple (.var 2)))
    .nil) .nil)
  (.cons (.ite (.cmp .eq (.var 3) (.cn (.int 6))) (.cons (.ret (.tup (.cons (.call 9 (.cons (.var 0) (.cons (.var 2) .nil)) .nil [0, 1]) .nil)))
    .nil) .nil)
  (.cons (.ret (.f1 .tuple (.comp (.var 9) (.var 9) (.e (.var 2)) (.cons (.cmp .eq (.call 8 (.cons (.var 0) (.cons (.cn (.int 2)) .nil)) .nil [0, 1]) (.cn (.int 0))) .nil) [9])))
  .nil))))))))))
def f__law_eye : Fn := ⟨"_law_eye", top 21, ["box", "web", "letters", "kind", "hands", "counts", "lot", "hand", "found", "letter"], 2, b__law_eye, [(2, [], [0, 1])]⟩
/-- _law_marks(web, row, eye); slots: 0 web, 1 row, 2 eye, 3 heard, 4 marks, 5 letter, 6 is_in, 7 hand -/
def b__law_marks_1 : Ss :=
  (.cons (.ite (.idx (.var 3) (.var 7)) (.cons (.asg (.var 6) (.cn (.bl true)))
    .nil) .nil)
  .nil)
def b__law_marks_2 : Ss :=
  (.cons (.asg (.sub (.var 3) (.var 7)) (.cn (.bl true)))
  .nil)
def b__law_marks_3 : Ss :=
  (.cons (.asg (.var 6) (.cmp .inn (.var 5) (.var 2)))
  (.cons (.for (.var 7) (.e (.idx (.idx (.var 0) (.cn (.int 1))) (.var 5))) b__law_marks_1)
  (.cons (.ite (.var 6) (.cons (.for (.var 7) (.e (.idx (.idx (.var 0) (.cn (.int 1))) (.var 5))) b__law_marks_2)
    .nil) .nil)
  (.cons (.expr (.m1 .append (.var 4) (.var 6)))
  .nil))))
def b__law_marks : Ss :=
  (.cons (.asg (.var 3) (.bin .mul (.lst (.cons (.cn (.bl false)) .nil)) (.idx (.var 0) (.cn (.int 0)))))
  (.cons (.asg (.var 4) (.lst .nil))
  (.cons (.for (.var 5) (.rev (.var 1)) b__law_marks_3)
  (.cons (.expr (.m0 .reverse (.var 4)))
  (.cons (.ret (.var 4))
  .nil)))))
def f__law_marks : Fn := ⟨"_law_marks", top 22, ["web", "row", "eye", "heard", "marks", "letter", "is_in", "hand"], 3, b__law_marks, [(3, [], [0, 1, 2])]⟩
/-- _law_lanes(web, row); slots: 0 web, 1 row, 2 lanes, 3 hand, 4 letter -/
def b__law_lanes_1 : Ss :=
  (.cons (.expr (.m1 .append (.idx (.var 2) (.var 3)) (.var 4)))
  .nil)
def b__law_lanes_2 : Ss :=
  (.cons (.for (.var 3) (.e (.idx (.idx (.var 0) (.cn (.int 1))) (.var 4))) b__law_lanes_1)
  .nil)
def b__law_lanes : Ss :=
  (.cons (.asg (.var 2) (.comp (.lst .nil) (.var 3) (.rng .none (.idx (.var 0) (.cn (.int 0)))) .nil [3]))
  (.cons (.for (.var 4) (.e (.var 1)) b__law_lanes_2)
  (.cons (.ret (.var 2))
  .nil)))
def f__law_lanes : Fn := ⟨"_law_lanes", top 23, ["web", "row", "lanes", "hand", "letter"], 2, b__law_lanes, [(2, [], [0, 1])]⟩
/-- _law_first(web, lanes, spots); slots: 0 web, 1 lanes, 2 spots, 3 letter, 4 is_late, 5 hand -/
def b__law_first_1 : Ss :=
  (.cons (.ite (.or (.cmp .ge (.idx (.var 2) (.var 5)) (.f1 .len (.idx (.var 1) (.var 5)))) (.cmp .ne (.idx (.idx (.var 1) (.var 5)) (.idx (.var 2) (.var 5))) (.var 3))) (.cons (.asg (.var 4) (.cn (.bl true)))
    (.cons .brk
    .nil)) .nil)
  .nil)
def b__law_first_2 : Ss :=
  (.cons (.asg (.var 4) (.cn (.bl false)))
  (.cons (.for (.var 5) (.e (.idx (.idx (.var 0) (.cn (.int 1))) (.var 3))) b__law_first_1)
  (.cons (.ite (.not (.var 4)) (.cons (.ret (.var 3))
    .nil) .nil)
  .nil)))
def b__law_first : Ss :=
  (.cons (.for (.var 3) (.rng .none (.f1 .len (.idx (.var 0) (.cn (.int 1))))) b__law_first_2)
  (.cons (.ret (.cn (.int 0)))
  .nil))
def f__law_first : Fn := ⟨"_law_first", top 24, ["web", "lanes", "spots", "letter", "is_late", "hand"], 3, b__law_first, [(3, [], [0, 1, 2])]⟩
/-- _law_least(web, row); slots: 0 web, 1 row, 2 lanes, 3 spots, 4 found, 5 turn, 6 letter, 7 hand -/
def b__law_least_1 : Ss :=
  (.cons (.augs (.var 3) (.var 7) .add (.cn (.int 1)))
  .nil)
def b__law_least_2 : Ss :=
  (.cons (.asg (.var 6) (.call 20 (.cons (.var 0) (.cons (.var 2) (.cons (.var 3) .nil))) .nil [0, 1, 2]))
  (.cons (.expr (.m1 .append (.var 4) (.var 6)))
  (.cons (.for (.var 7) (.e (.idx (.idx (.var 0) (.cn (.int 1))) (.var 6))) b__law_least_1)
  .nil)))
def b__law_least : Ss :=
  (.cons (.asg (.var 2) (.call 19 (.cons (.var 0) (.cons (.var 1) .nil)) .nil [0, 1]))
  (.cons (.asg (.var 3) (.bin .mul (.lst (.cons (.cn (.int 0)) .nil)) (.idx (.var 0) (.cn (.int 0)))))
  (.cons (.asg (.var 4) (.lst .nil))
  (.cons (.for (.var 5) (.rng .none (.f1 .len (.var 1))) b__law_least_2)
  (.cons (.ret (.f1 .tuple (.var 4)))
  .nil)))))
def f__law_least : Fn := ⟨"_law_least", top 25, ["web", "row", "lanes", "spots", "found", "turn", "letter", "hand"], 2, b__law_least, [(2, [], [0, 1])]⟩
/-- _law_part(row, marks, is_in); slots: 0 row, 1 marks, 2 is_in, 3 letter, 4 mark -/
def b__law_part : Ss :=
  (.cons (.ret (.f1 .tuple (.comp (.var 3) (.tup (.cons (.var 3) (.cons (.var 4) .nil))) (.zip (.var 0) (.var 1)) (.cons (.cmp .eq (.var 4) (.var 2)) .nil) [3, 4])))
  .nil)
def f__law_part : Fn := ⟨"_law_part", top 26, ["row", "marks", "is_in", "letter", "mark"], 3, b__law_part, [(3, [], [0, 1, 2])]⟩
/-- _law_view(web, row, eye); slots: 0 web, 1 row, 2 eye -/
def b__law_view : Ss :=
  (.cons (.ret (.call 21 (.cons (.var 0) (.cons (.call 22 (.cons (.var 1) (.cons (.call 18 (.cons (.var 0) (.cons (.var 1) (.cons (.var 2) .nil))) .nil [0, 1, 2]) (.cons (.cn (.bl true)) .nil))) .nil [0, 1, 2]) .nil)) .nil [0, 1]))
  .nil)
def f__law_view : Fn := ⟨"_law_view", top 27, ["web", "row", "eye"], 3, b__law_view, [(3, [], [0, 1, 2])]⟩
/-- _law_shared(web, eyes); slots: 0 web, 1 eyes, 2 letter, 3 eye -/
def b__law_shared : Ss :=
  (.cons (.ret (.f1 .tuple (.comp (.var 2) (.var 2) (.rng .none (.f1 .len (.idx (.var 0) (.cn (.int 1))))) (.cons (.cmp .eq (.f1 .len (.comp (.var 3) (.var 3) (.e (.var 1)) (.cons (.cmp .inn (.var 2) (.var 3)) .nil) [3])) (.f1 .len (.var 1))) .nil) [2])))
  .nil)
def f__law_shared : Fn := ⟨"_law_shared", top 28, ["web", "eyes", "letter", "eye"], 2, b__law_shared, [(2, [], [0, 1])]⟩
/-- _law_turns_web(box); slots: 0 box, 1 hands, 2 some, 3 more, 4 turn, 5 order, 6 web, 7 k -/
def b__law_turns_web_1 : Ss :=
  (.cons (.expr (.m1 .append (.var 2) (.call 9 (.cons (.var 0) (.cons (.var 3) .nil)) .nil [0, 1])))
  .nil)
def b__law_turns_web : Ss :=
  (.cons (.asg (.var 1) (.call 11 (.cons (.var 0) (.cons (.mkr .list .none (.call 9 (.cons (.var 0) (.cons (.lst (.cons (.cn (.int 3)) (.cons (.cn (.int 3)) (.cons (.cn (.int 4)) .nil)))) .nil)) .nil [0, 1])) .nil)) .nil [0, 1]))
  (.cons (.asg (.var 2) (.lst (.cons (.f1 .tuple (.f1 .sorted (.lst (.cons (.idx (.var 1) (.cn (.int 0))) (.cons (.idx (.var 1) (.cn (.int 2))) .nil))))) (.cons (.f1 .tuple (.f1 .sorted (.lst (.cons (.idx (.var 1) (.cn (.int 1))) (.cons (.idx (.var 1) (.cn (.int 2))) .nil))))) .nil))))
  (.cons (.asg (.var 3) (.lst (.cons (.tup (.cons (.idx (.var 1) (.cn (.int 0))) .nil)) (.cons (.tup (.cons (.idx (.var 1) (.cn (.int 1))) .nil)) (.cons (.tup (.cons (.idx (.var 1) (.cn (.int 2))) .nil)) (.cons (.tup (.cons (.idx (.var 1) (.cn (.int 2))) .nil)) (.cons (.idx (.var 2) (.cn (.int 0))) (.cons (.idx (.var 2) (.cn (.int 1))) .nil))))))))
  (.cons (.for (.var 4) (.rng .none (.call 8 (.cons (.var 0) (.cons (.cn (.int 7)) .nil)) .nil [0, 1])) b__law_turns_web_1)
  (.cons (.asg (.var 5) (.call 11 (.cons (.var 0) (.cons (.mkr .list .none (.f1 .len (.var 2))) .nil)) .nil [0, 1]))
  (.cons (.asg (.var 6) (.tup (.cons (.f1 .len (.var 1)) (.cons (.f1 .tuple (.comp (.idx (.var 2) (.var 7)) (.var 7) (.e (.var 5)) .nil [7])) .nil))))
  (.cons (.ret (.tup (.cons (.var 6) (.cons (.lst (.cons (.m1 .index (.var 5) (.cn (.int 0))) (.cons (.m1 .index (.var 5) (.cn (.int 1))) .nil))) (.cons (.sl (.var 1) .none (.some (.cn (.int 2)))) .nil)))))
  .nil)))))))
def f__law_turns_web : Fn := ⟨"_law_turns_web", top 29, ["box", "hands", "some", "more", "turn", "order", "web", "k"], 1, b__law_turns_web, [(1, [], [0])]⟩
/-- _law_turns(box, web, two, many); slots: 0 box, 1 web, 2 two, 3 many, 4 row, 5 turn, 6 letter -/
def b__law_turns_1 : Ss :=
  (.cons (.asg (.var 6) (.ite (.cmp .gt (.call 8 (.cons (.var 0) (.cons (.cn (.int 5)) .nil)) .nil [0, 1]) (.cn (.int 0))) (.idx (.var 2) (.bin .mod (.var 5) (.cn (.int 2)))) (.call 8 (.cons (.var 0) (.cons (.f1 .len (.idx (.var 1) (.cn (.int 1)))) .nil)) .nil [0, 1])))
  (.cons (.expr (.m1 .append (.var 4) (.var 6)))
  .nil))
def b__law_turns : Ss :=
  (.cons (.asg (.var 4) (.lst .nil))
  (.cons (.for (.var 5) (.rng .none (.var 3)) b__law_turns_1)
  (.cons (.ret (.f1 .tuple (.var 4)))
  .nil)))
def f__law_turns : Fn := ⟨"_law_turns", top 30, ["box", "web", "two", "many", "row", "turn", "letter"], 4, b__law_turns, [(4, [], [0, 1, 2, 3])]⟩
/-- _law_hand_eye(web, hand); slots: 0 web, 1 hand, 2 letter -/
def b__law_hand_eye : Ss :=
  (.cons (.ret (.f1 .tuple (.comp (.var 2) (.var 2) (.rng .none (.f1 .len (.idx (.var 0) (.cn (.int 1))))) (.cons (.cmp .inn (.var 1) (.idx (.idx (.var 0) (.cn (.int 1))) (.var 2))) .nil) [2])))
  .nil)
def f__law_hand_eye : Fn := ⟨"_law_hand_eye", top 31, ["web", "hand", "letter"], 2, b__law_hand_eye, [(2, [], [0, 1])]⟩
/-- _law_cuts(web, row, eyes); slots: 0 web, 1 row, 2 eyes, 3 here, 4 calm, 5 found, 6 turn, 7 marks -/
def b__law_cuts_1 : Ss :=
  (.cons (.asg (.var 7) (.call 18 (.cons (.var 0) (.cons (.var 3) (.cons (.idx (.var 2) (.bin .mod (.var 6) (.f1 .len (.var 2)))) .nil))) .nil [0, 1, 2]))
  (.cons (.aug 4 .add (.cn (.int 1)))
  (.cons (.ite (.cmp .inn (.cn (.bl false)) (.var 7)) (.cons (.swap [3, 4] (.cons (.call 21 (.cons (.var 0) (.cons (.call 22 (.cons (.var 3) (.cons (.var 7) (.cons (.cn (.bl true)) .nil))) .nil [0, 1, 2]) .nil)) .nil [0, 1]) (.cons (.cn (.int 0)) .nil)))
    (.cons (.expr (.m1 .append (.var 5) (.tup (.cons (.bin .mod (.var 6) (.f1 .len (.var 2))) (.cons (.var 3) .nil)))))
    .nil)) .nil)
  (.cons (.ite (.cmp .eq (.var 4) (.f1 .len (.var 2))) (.cons .brk
    .nil) .nil)
  .nil))))
def b__law_cuts : Ss :=
  (.cons (.swap [3, 4] (.cons (.call 21 (.cons (.var 0) (.cons (.var 1) .nil)) .nil [0, 1]) (.cons (.cn (.int 0)) .nil)))
  (.cons (.asg (.var 5) (.lst (.cons (.tup (.cons (.neg (.cn (.int 1))) (.cons (.var 3) .nil))) .nil)))
  (.cons (.for (.var 6) (.rng .none (.bin .mul (.f1 .len (.var 2)) (.bin .add (.f1 .len (.var 1)) (.cn (.int 2))))) b__law_cuts_1)
  (.cons (.ret (.var 5))
  .nil))))
def f__law_cuts : Fn := ⟨"_law_cuts", top 32, ["web", "row", "eyes", "here", "calm", "found", "turn", "marks"], 3, b__law_cuts, [(3, [], [0, 1, 2])]⟩
/-- _law_asked_cuts(web, row, eyes); slots: 0 web, 1 row, 2 eyes, 3 due, 4 place, 5 seen, 6 told -/
def b__law_asked_cuts : Ss :=
  (.cons (.asg (.var 3) (.f1 .tuple (.comp (.var 5) (.tup (.cons (.var 4) (.cons (.var 5) .nil))) (.e (.call 28 (.cons (.var 0) (.cons (.var 1) (.cons (.var 2) .nil))) .nil [0, 1, 2])) .nil [4, 5])))
  (.cons (.asg (.var 6) (.call 6 (.cons (.var 0) (.cons (.var 1) (.cons (.var 2) .nil))) .nil [0, 1, 2]))
  (.cons (.ret (.and (.call 10 (.cons (.var 6) (.cons (.var 3) .nil)) .nil [0, 1]) (.call 10 (.cons (.idx (.var 6) (.neg (.cn (.int 1)))) (.cons (.call 23 (.cons (.var 0) (.cons (.var 1) (.cons (.call 24 (.cons (.var 0) (.cons (.var 2) .nil)) .nil [0, 1]) .nil))) .nil [0, 1, 2]) .nil)) .nil [0, 1])))
  .nil)))
def f__law_asked_cuts : Fn := ⟨"_law_asked_cuts", top 33, ["web", "row", "eyes", "due", "place", "seen", "told"], 3, b__law_asked_cuts, [(3, [], [0, 1, 2])]⟩
/-- law(script); slots: 0 script, 1 asked, 2 k, 3 box, 4 web, 5 row, 6 turn, 7 eyes, 8 two, 9 hands, 10 hand, 11 one, 12 place, 13 seen -/
def b_law_1 : Ss :=
  (.cons (.asg (.var 7) (.f1 .tuple (.comp (.call 17 (.cons (.var 3) (.cons (.var 4) .nil)) .nil [0, 1]) (.var 11) (.rng .none (.bin .add (.cn (.int 1)) (.call 8 (.cons (.var 3) (.cons (.cn (.int 4)) .nil)) .nil [0, 1]))) .nil [11])))
  (.cons (.expr (.m1 .append (.var 1) (.tup (.cons (.var 4) (.cons (.var 5) (.cons (.var 7) .nil))))))
  .nil))
def b_law_2 : Ss :=
  (.cons (.asg (.var 3) (.call 7 (.cons (.var 0) (.cons (.var 2) .nil)) .nil [0, 1]))
  (.cons (.asg (.var 4) (.call 14 (.cons (.var 3) (.cons (.var 2) .nil)) .nil [0, 1]))
  (.cons (.asg (.var 5) (.call 16 (.cons (.var 3) (.cons (.var 4) (.cons (.call 9 (.cons (.var 3) (.cons (.lst (.cons (.cn (.int 0)) (.cons (.cn (.int 1)) (.cons (.cn (.int 6)) (.cons (.cn (.int 24)) (.cons (.cn (.int 40)) (.cons (.cn (.int 60)) .nil))))))) .nil)) .nil [0, 1]) .nil))) .nil [0, 1, 2]))
  (.cons (.for (.var 6) (.rng .none (.cn (.int 2))) b_law_1)
  (.cons (.asg (.tup (.cons (.var 4) (.cons (.var 8) (.cons (.var 9) .nil)))) (.call 25 (.cons (.var 3) .nil) .nil [0]))
  (.cons (.asg (.var 5) (.call 26 (.cons (.var 3) (.cons (.var 4) (.cons (.var 8) (.cons (.ite (.cmp .gt (.var 2) (.cn (.int 0))) (.call 9 (.cons (.var 3) (.cons (.lst (.cons (.cn (.int 2)) (.cons (.cn (.int 9)) (.cons (.cn (.int 16)) (.cons (.cn (.int 24)) .nil))))) .nil)) .nil [0, 1]) (.bin .add (.cn (.int 50)) (.call 8 (.cons (.var 3) (.cons (.cn (.int 11)) .nil)) .nil [0, 1]))) .nil)))) .nil [0, 1, 2, 3]))
  (.cons (.asg (.var 7) (.comp (.call 27 (.cons (.var 4) (.cons (.var 10) .nil)) .nil [0, 1]) (.var 10) (.e (.call 11 (.cons (.var 3) (.cons (.var 9) .nil)) .nil [0, 1])) .nil [10]))
  (.cons (.ite (.cmp .eq (.call 8 (.cons (.var 3) (.cons (.cn (.int 2)) .nil)) .nil [0, 1]) (.cn (.int 0))) (.cons (.expr (.m2 .insert (.var 7) (.call 8 (.cons (.var 3) (.cons (.cn (.int 3)) .nil)) .nil [0, 1]) (.mkr .tuple .none (.f1 .len (.idx (.var 4) (.cn (.int 1)))))))
    .nil) .nil)
  (.cons (.expr (.m1 .append (.var 1) (.tup (.cons (.var 4) (.cons (.var 5) (.cons (.f1 .tuple (.var 7)) .nil))))))
  .nil)))))))))
def b_law_3 : Ss :=
  (.cons (.ite (.not (.call 29 (.cons (.var 4) (.cons (.var 5) (.cons (.var 7) .nil))) .nil [0, 1, 2])) (.cons (.ret (.cn (.bl false)))
    .nil) .nil)
  .nil)
def b_law : Ss :=
  (.cons (.asg (.var 1) (.lst .nil))
  (.cons (.for (.var 2) (.rng .none (.cn (.int 4))) b_law_2)
  (.cons (.for (.tup (.cons (.var 4) (.cons (.var 5) (.cons (.var 7) .nil)))) (.e (.var 1)) b_law_3)
  (.cons (.asg (.tup (.cons (.var 4) (.cons (.var 5) (.cons (.var 7) .nil)))) (.idx (.var 1) (.cn (.int 0))))
  (.cons (.ret (.call 10 (.cons (.call 6 .nil (.cons (.var 4) (.cons (.var 5) (.cons (.var 7) .nil))) [0, 1, 2]) (.cons (.f1 .tuple (.comp (.var 13) (.tup (.cons (.var 12) (.cons (.var 13) .nil))) (.e (.call 28 (.cons (.var 4) (.cons (.var 5) (.cons (.var 7) .nil))) .nil [0, 1, 2])) .nil [12, 13])) .nil)) .nil [0, 1]))
  .nil)))))
def f_law : Fn := ⟨"law", top 34, ["script", "asked", "k", "box", "web", "row", "turn", "eyes", "two", "hands", "hand", "one", "place", "seen"], 1, b_law, [(1, [], [0])]⟩
def L : List Fn := [f_shut_hands, f_first_place, f_least_form, f_seen_events, f_view_of, f_row_cuts, f_cut_rows, f__law_box, f__law_take, f__law_pick, f__law_same, f__law_mixed, f__law_web, f__law_lane_web, f__law_any_web, f__law_bag, f__law_row, f__law_eye, f__law_marks, f__law_lanes, f__law_first, f__law_least, f__law_part, f__law_view, f__law_shared, f__law_turns_web, f__law_turns, f__law_hand_eye, f__law_cuts, f__law_asked_cuts, f_law]
def frees : List Str := ["abs", "bool", "enumerate", "int", "isinstance", "len", "list", "min", "range", "reversed", "sorted", "str", "tuple", "zip"]
abbrev T : Nat → Option Df := tOf L
theorem ck : ∀ f ∈ L, f.chk (gOf L frees) = true := by
  have h : (L.all fun f => f.chk (gOf L frees)) = true := by decide +kernel
  exact fun f hf => List.all_eq_true.mp h f hf
theorem sh_shut_hands_0 : ShapeOk f_shut_hands (3, [], [0, 1, 2]) := fun _ _ _ _ _ _ us ws h1 h2 => match us, ws, h1, h2 with
  | [_, _, _], [], _, _ => rfl
theorem sh_first_place_0 : ShapeOk f_first_place (2, [], [0, 1]) := fun _ _ _ _ _ _ us ws h1 h2 => match us, ws, h1, h2 with
  | [_, _], [], _, _ => rfl
theorem sh_least_form_0 : ShapeOk f_least_form (2, [], [0, 1]) := fun _ _ _ _ _ _ us ws h1 h2 => match us, ws, h1, h2 with
  | [_, _], [], _, _ => rfl
theorem sh_seen_events_0 : ShapeOk f_seen_events (3, [], [0, 1, 2]) := fun _ _ _ _ _ _ us ws h1 h2 => match us, ws, h1, h2 with
  | [_, _, _], [], _, _ => rfl
theorem sh_view_of_0 : ShapeOk f_view_of (3, [], [0, 1, 2]) := fun _ _ _ _ _ _ us ws h1 h2 => match us, ws, h1, h2 with
  | [_, _, _], [], _, _ => rfl
theorem sh_row_cuts_0 : ShapeOk f_row_cuts (3, [], [0, 1, 2]) := fun _ _ _ _ _ _ us ws h1 h2 => match us, ws, h1, h2 with
  | [_, _, _], [], _, _ => rfl
theorem sh_cut_rows_0 : ShapeOk f_cut_rows (0, ["web", "row", "eyes"], [0, 1, 2]) := fun _ _ _ _ _ _ us ws h1 h2 => match us, ws, h1, h2 with
  | [], [_, _, _], _, _ => rfl
theorem sh_cut_rows_1 : ShapeOk f_cut_rows (3, [], [0, 1, 2]) := fun _ _ _ _ _ _ us ws h1 h2 => match us, ws, h1, h2 with
  | [_, _, _], [], _, _ => rfl
theorem sh__law_box_0 : ShapeOk f__law_box (2, [], [0, 1]) := fun _ _ _ _ _ _ us ws h1 h2 => match us, ws, h1, h2 with
  | [_, _], [], _, _ => rfl
theorem sh__law_take_0 : ShapeOk f__law_take (2, [], [0, 1]) := fun _ _ _ _ _ _ us ws h1 h2 => match us, ws, h1, h2 with
  | [_, _], [], _, _ => rfl
theorem sh__law_pick_0 : ShapeOk f__law_pick (2, [], [0, 1]) := fun _ _ _ _ _ _ us ws h1 h2 => match us, ws, h1, h2 with
  | [_, _], [], _, _ => rfl
theorem sh__law_same_0 : ShapeOk f__law_same (2, [], [0, 1]) := fun _ _ _ _ _ _ us ws h1 h2 => match us, ws, h1, h2 with
  | [_, _], [], _, _ => rfl
theorem sh__law_mixed_0 : ShapeOk f__law_mixed (2, [], [0, 1]) := fun _ _ _ _ _ _ us ws h1 h2 => match us, ws, h1, h2 with
  | [_, _], [], _, _ => rfl
theorem sh__law_web_0 : ShapeOk f__law_web (3, [], [0, 1, 2]) := fun _ _ _ _ _ _ us ws h1 h2 => match us, ws, h1, h2 with
  | [_, _, _], [], _, _ => rfl
theorem sh__law_lane_web_0 : ShapeOk f__law_lane_web (1, [], [0]) := fun _ _ _ _ _ _ us ws h1 h2 => match us, ws, h1, h2 with
  | [_], [], _, _ => rfl
theorem sh__law_any_web_0 : ShapeOk f__law_any_web (2, [], [0, 1]) := fun _ _ _ _ _ _ us ws h1 h2 => match us, ws, h1, h2 with
  | [_, _], [], _, _ => rfl
theorem sh__law_bag_0 : ShapeOk f__law_bag (2, [], [0, 1]) := fun _ _ _ _ _ _ us ws h1 h2 => match us, ws, h1, h2 with
  | [_, _], [], _, _ => rfl
theorem sh__law_row_0 : ShapeOk f__law_row (3, [], [0, 1, 2]) := fun _ _ _ _ _ _ us ws h1 h2 => match us, ws, h1, h2 with
  | [_, _, _], [], _, _ => rfl
theorem sh__law_eye_0 : ShapeOk f__law_eye (2, [], [0, 1]) := fun _ _ _ _ _ _ us ws h1 h2 => match us, ws, h1, h2 with
  | [_, _], [], _, _ => rfl
theorem sh__law_marks_0 : ShapeOk f__law_marks (3, [], [0, 1, 2]) := fun _ _ _ _ _ _ us ws h1 h2 => match us, ws, h1, h2 with
  | [_, _, _], [], _, _ => rfl
theorem sh__law_lanes_0 : ShapeOk f__law_lanes (2, [], [0, 1]) := fun _ _ _ _ _ _ us ws h1 h2 => match us, ws, h1, h2 with
  | [_, _], [], _, _ => rfl
theorem sh__law_first_0 : ShapeOk f__law_first (3, [], [0, 1, 2]) := fun _ _ _ _ _ _ us ws h1 h2 => match us, ws, h1, h2 with
  | [_, _, _], [], _, _ => rfl
theorem sh__law_least_0 : ShapeOk f__law_least (2, [], [0, 1]) := fun _ _ _ _ _ _ us ws h1 h2 => match us, ws, h1, h2 with
  | [_, _], [], _, _ => rfl
theorem sh__law_part_0 : ShapeOk f__law_part (3, [], [0, 1, 2]) := fun _ _ _ _ _ _ us ws h1 h2 => match us, ws, h1, h2 with
  | [_, _, _], [], _, _ => rfl
theorem sh__law_view_0 : ShapeOk f__law_view (3, [], [0, 1, 2]) := fun _ _ _ _ _ _ us ws h1 h2 => match us, ws, h1, h2 with
  | [_, _, _], [], _, _ => rfl
theorem sh__law_shared_0 : ShapeOk f__law_shared (2, [], [0, 1]) := fun _ _ _ _ _ _ us ws h1 h2 => match us, ws, h1, h2 with
  | [_, _], [], _, _ => rfl
theorem sh__law_turns_web_0 : ShapeOk f__law_turns_web (1, [], [0]) := fun _ _ _ _ _ _ us ws h1 h2 => match us, ws, h1, h2 with
  | [_], [], _, _ => rfl
theorem sh__law_turns_0 : ShapeOk f__law_turns (4, [], [0, 1, 2, 3]) := fun _ _ _ _ _ _ us ws h1 h2 => match us, ws, h1, h2 with
  | [_, _, _, _], [], _, _ => rfl
theorem sh__law_hand_eye_0 : ShapeOk f__law_hand_eye (2, [], [0, 1]) := fun _ _ _ _ _ _ us ws h1 h2 => match us, ws, h1, h2 with
  | [_, _], [], _, _ => rfl
theorem sh__law_cuts_0 : ShapeOk f__law_cuts (3, [], [0, 1, 2]) := fun _ _ _ _ _ _ us ws h1 h2 => match us, ws, h1, h2 with
  | [_, _, _], [], _, _ => rfl
theorem sh__law_asked_cuts_0 : ShapeOk f__law_asked_cuts (3, [], [0, 1, 2]) := fun _ _ _ _ _ _ us ws h1 h2 => match us, ws, h1, h2 with
  | [_, _, _], [], _, _ => rfl
theorem sh_law_0 : ShapeOk f_law (1, [], [0]) := fun _ _ _ _ _ _ us ws h1 h2 => match us, ws, h1, h2 with
  | [_], [], _, _ => rfl
theorem sh : ∀ f ∈ L, ∀ s ∈ f.shapes, ShapeOk f s := by
  intro f hf
  unfold L at hf
  simp only [List.mem_cons, List.mem_nil_iff, or_false] at hf
  rcases hf with rfl | rfl | rfl | rfl | rfl | rfl | rfl | rfl | rfl | rfl | rfl | rfl | rfl | rfl | rfl | rfl | rfl | rfl | rfl | rfl | rfl | rfl | rfl | rfl | rfl | rfl | rfl | rfl | rfl | rfl | rfl
  · intro s hs
    rcases List.mem_cons.mp hs with rfl | hs
    · exact sh_shut_hands_0
    · cases hs
  · intro s hs
    rcases List.mem_cons.mp hs with rfl | hs
    · exact sh_first_place_0
    · cases hs
  · intro s hs
    rcases List.mem_cons.mp hs with rfl | hs
    · exact sh_least_form_0
    · cases hs
  · intro s hs
    rcases List.mem_cons.mp hs with rfl | hs
    · exact sh_seen_events_0
    · cases hs
  · intro s hs
    rcases List.mem_cons.mp hs with rfl | hs
    · exact sh_view_of_0
    · cases hs
  · intro s hs
    rcases List.mem_cons.mp hs with rfl | hs
    · exact sh_row_cuts_0
    · cases hs
  · intro s hs
    rcases List.mem_cons.mp hs with rfl | hs
    · exact sh_cut_rows_0
    rcases List.mem_cons.mp hs with rfl | hs
    · exact sh_cut_rows_1
    · cases hs
  · intro s hs
    rcases List.mem_cons.mp hs with rfl | hs
    · exact sh__law_box_0
    · cases hs
  · intro s hs
    rcases List.mem_cons.mp hs with rfl | hs
    · exact sh__law_take_0
    · cases hs
  · intro s hs
    rcases List.mem_cons.mp hs with rfl | hs
    · exact sh__law_pick_0
    · cases hs
  · intro s hs
    rcases List.mem_cons.mp hs with rfl | hs
    · exact sh__law_same_0
    · cases hs
  · intro s hs
    rcases List.mem_cons.mp hs with rfl | hs
    · exact sh__law_mixed_0
    · cases hs
  · intro s hs
    rcases List.mem_cons.mp hs with rfl | hs
    · exact sh__law_web_0
    · cases hs
  · intro s hs
    rcases List.mem_cons.mp hs with rfl | hs
    · exact sh__law_lane_web_0
    · cases hs
  · intro s hs
    rcases List.mem_cons.mp hs with rfl | hs
    · exact sh__law_any_web_0
    · cases hs
  · intro s hs
    rcases List.mem_cons.mp hs with rfl | hs
    · exact sh__law_bag_0
    · cases hs
  · intro s hs
    rcases List.mem_cons.mp hs with rfl | hs
    · exact sh__law_row_0
    · cases hs
  · intro s hs
    rcases List.mem_cons.mp hs with rfl | hs
    · exact sh__law_eye_0
    · cases hs
  · intro s hs
    rcases List.mem_cons.mp hs with rfl | hs
    · exact sh__law_marks_0
    · cases hs
  · intro s hs
    rcases List.mem_cons.mp hs with rfl | hs
    · exact sh__law_lanes_0
    · cases hs
  · intro s hs
    rcases List.mem_cons.mp hs with rfl | hs
    · exact sh__law_first_0
    · cases hs
  · intro s hs
    rcases List.mem_cons.mp hs with rfl | hs
    · exact sh__law_least_0
    · cases hs
  · intro s hs
    rcases List.mem_cons.mp hs with rfl | hs
    · exact sh__law_part_0
    · cases hs
  · intro s hs
    rcases List.mem_cons.mp hs with rfl | hs
    · exact sh__law_view_0
    · cases hs
  · intro s hs
    rcases List.mem_cons.mp hs with rfl | hs
    · exact sh__law_shared_0
    · cases hs
  · intro s hs
    rcases List.mem_cons.mp hs with rfl | hs
    · exact sh__law_turns_web_0
    · cases hs
  · intro s hs
    rcases List.mem_cons.mp hs with rfl | hs
    · exact sh__law_turns_0
    · cases hs
  · intro s hs
    rcases List.mem_cons.mp hs with rfl | hs
    · exact sh__law_hand_eye_0
    · cases hs
  · intro s hs
    rcases List.mem_cons.mp hs with rfl | hs
    · exact sh__law_cuts_0
    · cases hs
  · intro s hs
    rcases List.mem_cons.mp hs with rfl | hs
    · exact sh__law_asked_cuts_0
    · cases hs
  · intro s hs
    rcases List.mem_cons.mp hs with rfl | hs
    · exact sh_law_0
    · cases hs
abbrev R : PySem.W.OpenRow := PySem.W.OpenLaw.row PySem.Challenge.rw_oneactmore_k24_cuts_that_come_to_rest
abbrev hk : PySem.W.Hook := He.hookD 4 (faOf L frees) (fnO L)
def ob (s : PySem.W.SharedT) : He.AlD := He.obsDG 4 (faOf L frees) (fnO L) (HandSHeadRun.getT s)
theorem ob_eq (s : PySem.W.SharedT) : ob s = hk.obs s.abs := He.obsDG_eq (HandSHeadRun.getT_eq s)
theorem run (w : World) : HandSHeadRun.RunEq R (PySem.W.view R.prog [34]) hk ob 4000 ["shut_hands", "first_place", "least_form", "seen_events", "view_of", "row_cuts", "cut_rows", "_law_box", "_law_take", "_law_pick", "_law_same", "_law_mixed", "_law_web", "_law_lane_web", "_law_any_web", "_law_bag", "_law_row", "_law_eye", "_law_marks", "_law_lanes", "_law_first", "_law_least", "_law_part", "_law_view", "_law_shared", "_law_turns_web", "_law_turns", "_law_hand_eye", "_law_cuts", "_law_asked_cuts"] w := by
  intro os
  kernel_rfl
end K24
section
open PySem PySem.W PySem.Calls PyProof.Rows
theorem K24.holds (k : Nat) (hr : L2.Room (k + 1) PySem.callerA) (law : ∀ ns : List Int, ns.length ≤ 63 → ∃ S', Pv.callN (Pv.tOf K24.L) (k + 1) 30 [.scr ns] [] = .ok (.d (.bl true), S')) : PySem.Challenge.rw_oneactmore_k24_cuts_that_come_to_rest.Holds := by
  w_on; o_law
  refine HandSHeadRun.head_any (r := OpenLaw.row PySem.Challenge.rw_oneactmore_k24_cuts_that_come_to_rest) (q := view (OpenLaw.row PySem.Challenge.rw_oneactmore_k24_cuts_that_come_to_rest).prog [34]) (H := K24.hk) (ob := K24.ob) (M := 4000) (loose := ["shut_hands", "first_place", "least_form", "seen_events", "view_of", "row_cuts", "cut_rows", "_law_box", "_law_take", "_law_pick", "_law_same", "_law_mixed", "_law_web", "_law_lane_web", "_law_any_web", "_law_bag", "_law_row", "_law_eye", "_law_marks", "_law_lanes", "_law_first", "_law_least", "_law_part", "_law_view", "_law_shared", "_law_turns_web", "_law_turns", "_law_hand_eye", "_law_cuts", "_law_asked_cuts"]) (d := HandSHeadRun.topDef (OpenLaw.row PySem.Challenge.rw_oneactmore_k24_cuts_that_come_to_rest).prog 34) (kwd := []) K24.ob_eq
    (by kernel_rfl) (fun s => by kernel_rfl) K24.run (by kernel_rfl) (by kernel_rfl) (by kernel_rfl) (by rfl) (by first | assumption | decide +kernel) (by decide +kernel) ⟨rfl, rfl, rfl, rfl, rfl, by decide +kernel⟩ ?hw ?hc
  case hw => w_witness2
  case hc =>
    exact Pv.walk_law (l := PySem.Challenge.rw_oneactmore_k24_cuts_that_come_to_rest) (n := 63) (k := k) (lvl := 4) (li := 30) (L := K24.L) (frees := K24.frees) (f := K24.f_law) rfl (by decide) (by kernel_rfl) hr rfl (by kernel_rfl) rfl "script" rfl (by decide) K24.ck K24.sh law
end
set_option linter.all false
set_option autoImplicit false
set_option maxRecDepth 100000
namespace K24
open Pv
theorem ok_take {n l : Nat} {S : Sto} {m : Int} (hb : Bx S l) (hm : 0 < m) (hm2 : m < 1000) : Ok (callN T (n + 1) 8 [.loc l, .int m] S) fun r => ∃ q : Int, r.1 = .d (.int q) ∧ 0 ≤ q ∧ q < m ∧ Fr l S r.2 := by
  obtain ⟨a, b, hl⟩ := hb
  have hlt : l < S.length := (List.getElem?_eq_some_iff.mp hl).1
  refine ok_fn (d := ⟨"_law_take", 2, 4, b__law_take⟩) rfl rfl ?_
  dsimp only [b__law_take]
  refine ok_ite ?_
  conv => arg 1; simp [hl]
  refine Ok.ok ?_
  try dsimp only [settle, List.set]
  refine ⟨fun h => ?_, fun h => ?_⟩
  · have ha : 0 < a := by simpa using h
    refine ok_asg ?_
    conv => arg 1; simp [hl, binI_mod hm]
    refine Ok.ok ?_
    try dsimp only [settle, List.set]
    refine ok_asgG ?_
    conv => arg 1; simp [hl, binI_fdiv (i := a) (j := m) ⟨hm, by omega⟩]
    refine Ok.ok ?_
    try dsimp only [settle, List.set]
    conv => arg 1; simp [setI_int, hl]
    refine Ok.ok ?_
    try dsimp only [settle, List.set]
    refine ok_ret ?_
    conv => arg 1; simp
    refine Ok.ok ?_
    try dsimp only [settle, List.set]
    refine ⟨_, rfl, ?_⟩
    simp
    exact ⟨Int.emod_nonneg _ (by omega), Int.emod_lt_of_pos _ hm, Fr.set hlt⟩
  · refine ok_nil ?_
    refine Then.nx ?_
    refine ok_asg ?_
    conv => arg 1; simp [hl, binI_mod, binI_mul]
    refine Ok.ok ?_
    try dsimp only [settle, List.set]
    refine ok_asgG ?_
    conv => arg 1; simp [hl, binI_mod, binI_mul]
    refine Ok.ok ?_
    try dsimp only [settle, List.set]
    conv => arg 1; simp [setI_int, hl]
    refine Ok.ok ?_
    try dsimp only [settle, List.set]
    refine ok_ret ?_
    conv => arg 1; simp [hlt, binI_mod, hm, binI_mul, binI_fdiv]
    refine Ok.ok ?_
    try dsimp only [settle, List.set]
    refine ⟨_, rfl, ?_⟩
    simp
    exact ⟨Int.emod_nonneg _ (by omega), Int.emod_lt_of_pos _ hm, Fr.set hlt⟩
theorem ok_pick {n l : Nat} {S : Sto} {y : D} {xs : List D} (hb : Bx S l) (hy : itemsD y S = some xs) (hyl : y ≠ .loc l) (h0 : xs ≠ []) (hlen : xs.length < 1000) (hp : ∀ x ∈ xs, x.pure = true) :
    Ok (callN T (n + 2) 9 [.loc l, y] S) fun r => ∃ x, x ∈ xs ∧ r.1 = .d x ∧ Fr l S r.2 := by
  refine ok_fn (d := ⟨"_law_pick", 2, 2, b__law_pick⟩) rfl rfl ?_
  dsimp only [b__law_pick]
  refine ok_ret ?_
  conv => arg 1; simp
  refine Ok.bind ?_
  refine ok_call ?_
  conv => arg 1; simp [hy]
  refine Ok.ok ?_
  try dsimp only [settle, List.set]
  refine Ok.eq rfl ?_
  conv => arg 1; simp [arr]
  have hlen0 : 0 < xs.length := List.length_pos_iff.mpr h0
  refine Ok.mono (ok_take hb (m := xs.length) (by omega) (by omega)) fun r ⟨q, e1, q0, q1, fr⟩ => ?_
  obtain ⟨r, S1⟩ := r
  cases e1
  have hy1 : itemsD y S1 = some xs := by
    cases y with
    | loc j =>
      have : j ≠ l := fun e => hyl (by rw [e])
      simpa [fr.rest j this] using hy
    | _ => exact hy
  obtain ⟨x, hx, hxa, _⟩ := atI_of q0 q1
  have ht : S1.take S.length = S1 := take_le (by rw [fr.len]; exact Nat.le_refl _)
  conv => arg 1; simp [ht, hy1, hxa]
  refine Ok.ok ⟨_, rfl, x, hx, ?_⟩
  rw [leave_pure (hp x hx)]
  simp [ht, fr]
theorem ok_pickF {n l : Nat} {S : Sto} {xs : List D} (hb : Bx S l) (h0 : xs ≠ []) (hlen : xs.length < 1000) (hp : ∀ x ∈ xs, x.pure = true) :
    Ok (callN T (n + 2) 9 [.loc l, .loc S.length] (S ++ [.lst xs])) fun r => ∃ x, x ∈ xs ∧ r.1 = .d x ∧ Fr l S (r.2.take S.length) := by
  have hlt := hb.lt
  refine Ok.mono (ok_pick (xs := xs) ((Gr.refl hb).push [.lst xs]).bx (by simp) (by simp; omega) h0 hlen hp) fun r ⟨x, hx, e, fr⟩ => ⟨x, hx, e, ?_⟩
  exact (((Gr.refl hb).push _).fr fr).leave hlt
theorem take_at {n b l i : Nat} {e : Env} {S : Sto} {ye : E} {m : Int} (he : e[i]? = some (some (.loc l))) (hy : (evE (callN T (n + 1)) ye).v S.length e S = .ok (.d (.int m), S)) (hb : Bx S l) (hm : 0 < m) (hm2 : m < 1000) :
    Ok ((evE (callN T (n + 1)) (.call 8 (.cons (.var i) (.cons ye .nil)) .nil [0, 1])).v b e S) fun r => ∃ (q : Int) (S1 : Sto), r = (.d (.int q), S1) ∧ 0 ≤ q ∧ q < m ∧ Fr l S S1 := by
  refine ok_call ?_
  conv => arg 1; simp [he, hy]
  refine Ok.ok ?_
  try dsimp only [settle, List.set]
  refine Ok.eq rfl ?_
  conv => arg 1; simp [arr]
  refine (ok_take hb hm hm2).mono fun r ⟨q, e1, q0, q1, fr⟩ => ?_
  rw [e1]
  refine ⟨q, r.2, ?_, q0, q1, fr⟩
  simp [take_le (show r.2.length ≤ S.length by rw [fr.len]; exact Nat.le_refl _)]
theorem pickF_at {n b l i : Nat} {e : Env} {S S0 : Sto} {ye : E} {xs : List D} (he : e[i]? = some (some (.loc l))) (hy : (evE (callN T (n + 2)) ye).v S.length e S = .ok (.fr xs, S0)) (hS : S0 = S) (hb : Bx S l) (h0 : xs ≠ []) (hlen : xs.length < 1000) (hp : ∀ x ∈ xs, x.pure = true) :
    Ok ((evE (callN T (n + 2)) (.call 9 (.cons (.var i) (.cons ye .nil)) .nil [0, 1])).v b e S) fun r => ∃ (x : D) (S1 : Sto), r = (.d x, S1) ∧ x ∈ xs ∧ Fr l S S1 := by
  subst hS
  refine ok_call ?_
  conv => arg 1; simp [he, hy]
  refine Ok.ok ?_
  try dsimp only [settle, List.set]
  refine Ok.eq rfl ?_
  conv => arg 1; simp [arr]
  refine (ok_pickF hb h0 hlen hp).mono fun r ⟨x, hx, e1, fr⟩ => ?_
  rw [e1, leave_pure (hp x hx)]
  exact ⟨x, _, rfl, hx, fr⟩
theorem pick_at {n b l i : Nat} {e : Env} {S : Sto} {ye : E} {y : D} {xs : List D} (he : e[i]? = some (some (.loc l))) (hy : (evE (callN T (n + 2)) ye).v S.length e S = .ok (.d y, S)) (hb : Bx S l) (hi : itemsD y S = some xs) (hyl : y ≠ .loc l) (h0 : xs ≠ []) (hlen : xs.length < 1000) (hp : ∀ x ∈ xs, x.pure = true) :
    Ok ((evE (callN T (n + 2)) (.call 9 (.cons (.var i) (.cons ye .nil)) .nil [0, 1])).v b e S) fun r => ∃ (x : D) (S1 : Sto), r = (.d x, S1) ∧ x ∈ xs ∧ Fr l S S1 := by
  refine ok_call ?_
  conv => arg 1; simp [he, hy]
  refine Ok.ok ?_
  try dsimp only [settle, List.set]
  refine Ok.eq rfl ?_
  conv => arg 1; simp [arr]
  refine (ok_pick hb hi hyl h0 hlen hp).mono fun r ⟨x, hx, e1, fr⟩ => ?_
  rw [e1, leave_pure (hp x hx)]
  exact ⟨x, _, rfl, hx, by rw [take_le (by rw [fr.len]; exact Nat.le_refl _)]; exact fr⟩
theorem pickG_at {n b l i : Nat} {e : Env} {S : Sto} {ye : E} {P : List D → Prop} (he : e[i]? = some (some (.loc l))) (hy : Ok ((evE (callN T (n + 2)) ye).v S.length e S) fun r => ∃ xs S0, r = (.fr xs, S0) ∧ P xs ∧ Fr l S S0) (hP : ∀ xs, P xs → xs ≠ [] ∧ xs.length < 1000 ∧ ∀ x ∈ xs, x.pure = true) :
    Ok ((evE (callN T (n + 2)) (.call 9 (.cons (.var i) (.cons ye .nil)) .nil [0, 1])).v b e S) fun r => ∃ (x : D) (xs : List D) (S1 : Sto), r = (.d x, S1) ∧ P xs ∧ x ∈ xs ∧ Fr l S S1 := by
  refine ok_call ?_
  conv => arg 1; simp [he]
  refine Ok.bind (hy.mono fun r ⟨xs, S0, er, hp, fr0⟩ => ?_)
  subst er
  obtain ⟨h0, hlen, hpu⟩ := hP xs hp
  conv => arg 1; simp
  refine Ok.ok ?_
  try dsimp only [settle, List.set]
  refine Ok.eq rfl ?_
  conv => arg 1; simp [arr]
  refine (ok_pickF (n := n) fr0.bx h0 hlen hpu).mono fun r ⟨x, hx, e1, fr⟩ => ?_
  rw [e1, leave_pure (hpu x hx), ← fr0.len]
  exact ⟨x, xs, _, rfl, hp, hx, fr0.trans fr⟩
theorem leave_box {a b : Int} {S : Sto} : leave S.length (.fr [.int a, .int b]) S = (.fr [.int a, .int b], S) := by
  show (if ubL S.length [.int a, .int b] = true then (Vl.fr [.int a, .int b], S.take S.length) else (Vl.fr [.int a, .int b], S)) = _
  rw [if_pos (show ubL S.length [.int a, .int b] = true from rfl), take_self]
theorem ok_box {n : Nat} {S : Sto} {ns : List Int} {k : Int} (hns : ns.length ≤ 63) (k0 : 0 ≤ k) : Ok (callN T (n + 1) 7 [.scr ns, .int k] S) fun r => ∃ a b : Int, r = (.fr [.int a, .int b], S) := by
  refine ok_fn (d := ⟨"_law_box", 2, 4, b__law_box⟩) rfl rfl ?_
  dsimp only [b__law_box]
  rw [show env0 4 [.scr ns, .int k] = [some (.scr ns), some (.int k), none, none] from rfl]
  refine ok_asg ?_
  conv => arg 1; simp [binI_mul]
  refine Ok.ok ?_
  try dsimp only [settle, List.set]
  have fin : ∀ (cell : Int), Ok (evSs (callN T n) (tailOf (tailOf b__law_box)) S.length [some (.scr ns), some (.int k), some (.int cell), none] S)
      fun r => ∃ v, flV r.1 = some v ∧ ∃ a b : Int, leave S.length v r.2.2 = (.fr [.int a, .int b], S) := fun cell => by
    have hp : binI .pow 10 18 = some 1000000000000000000 := by decide
    dsimp only [b__law_box, tailOf]
    refine ok_asg ?_
    conv => arg 1; simp [hp]
    by_cases h : 1000000000000000000 ≤ cell
    · conv => arg 1; simp [h]
      refine Ok.ok ?_
      try dsimp only [settle, List.set]
      refine ok_ret ?_
      conv => arg 1; simp [binI_mod, binI_mul]
      refine Ok.ok ?_
      try dsimp only [settle, List.set]
      exact ⟨_, rfl, _, _, leave_box⟩
    · conv => arg 1; simp [h]
      refine Ok.ok ?_
      try dsimp only [settle, List.set]
      refine ok_ret ?_
      conv => arg 1; simp [binI_mod, binI_mul]
      refine Ok.ok ?_
      try dsimp only [settle, List.set]
      exact ⟨_, rfl, _, _, leave_box⟩
  refine ok_ite ?_
  conv => arg 1; simp [itemsD]
  refine Ok.ok ?_
  try dsimp only [settle, List.set]
  refine ⟨fun h => ?_, fun h => ?_⟩
  · have hk : k < ns.length := by simpa using h
    obtain ⟨x, hx, ea, _⟩ := atI_of (xs := ns.map .int) k0 (by simpa using hk)
    obtain ⟨z, _, rfl⟩ := List.mem_map.mp hx
    refine ok_asg ?_
    conv => arg 1; simp [itemsD, ea]
    refine Ok.ok ?_
    try dsimp only [settle, List.set]
    exact ok_nil (Then.nx (fin _))
  · refine ok_ite ?_
    conv => arg 1; simp [itemsD]
    refine Ok.ok ?_
    try dsimp only [settle, List.set]
    refine ⟨fun h2 => ?_, fun h2 => ?_⟩
    · have hp : (0 : Int) < ns.length := by simpa using h2
      obtain ⟨x, hx, ea, _⟩ := atI_of (xs := ns.map .int) (i := k % ns.length) (Int.emod_nonneg _ (by omega)) (by have := Int.emod_lt_of_pos k hp; simpa using this)
      obtain ⟨z, _, rfl⟩ := List.mem_map.mp hx
      refine ok_asg ?_
      conv => arg 1; simp [itemsD, ea, binI_mod hp, binI_mod, binI_mul]
      refine Ok.ok ?_
      try dsimp only [settle, List.set]
      exact ok_nil (Then.nx (ok_nil (Then.nx (fin _))))
    · exact ok_nil (Then.nx (ok_nil (Then.nx (fin _))))
theorem box_at {n b i : Nat} {e : Env} {S : Sto} {ns : List Int} {ye : E} {k : Int} (hns : ns.length ≤ 63) (k0 : 0 ≤ k) (he : e[i]? = some (some (.scr ns))) (hy : (evE (callN T (n + 1)) ye).v S.length e S = .ok (.d (.int k), S)) :
    Ok ((evE (callN T (n + 1)) (.call 7 (.cons (.var i) (.cons ye .nil)) .nil [0, 1])).v b e S) fun r => ∃ a b : Int, r = (.fr [.int a, .int b], S) := by
  refine ok_call ?_
  conv => arg 1; simp [he, hy]
  refine Ok.ok ?_
  try dsimp only [settle, List.set]
  refine Ok.eq rfl ?_
  conv => arg 1; simp [arr]
  refine (ok_box hns k0).mono fun r ⟨a, b, er⟩ => ?_
  rw [er]
  exact ⟨a, b, leave_box⟩

abbrev lotD (l : List Int) : D := .tup (l.map .int)
abbrev webD (h : Int) (L : List (List Int)) : D := .tup [.int h, .tup (L.map lotD)]
def lot (L : List (List Int)) (i : Int) : List Int := L.getD i.toNat []
def share (a b : List Int) : Bool := a.any fun x => b.any fun y => y == x
theorem lot_at {L : List (List Int)} {i : Int} (i0 : 0 ≤ i) (i1 : i < L.length) : atI (L.map lotD) i = some (lotD (lot L i)) := by
  obtain ⟨j, rfl⟩ := Int.eq_ofNat_of_zero_le i0
  have hj : j < L.length := by omega
  refine atI_nat ?_
  rw [List.getElem?_map, List.getElem?_eq_getElem hj]
  unfold lot
  simp [hj]
theorem pv_lots {rc : Rc} {e : Env} {S : Sto} {i : Nat} {h : Int} {L : List (List Int)} (he : e[i]? = some (some (webD h L))) : PV rc e S (.idx (.var i) (.cn (.int 1))) (.d (.tup (L.map lotD))) := pv_idx (pv_var he) (pv_cn _) rfl (atI_1 _ _ _)

def inn (x : Int) (l : List Int) : Bool := l.any fun y => y == x
theorem inn_mem {x : Int} {l : List Int} : inn x l = true ↔ x ∈ l := by
  unfold inn
  rw [List.any_eq_true]
  constructor
  · rintro ⟨y, hy, h⟩
    have h : y = x := by simpa using h
    subst h
    exact hy
  · intro h
    exact ⟨x, h, by simp⟩

def ati (l : List Int) (i : Int) : Int := l.getD i.toNat 0
theorem atI_ints {ns : List Int} {i : Int} (i0 : 0 ≤ i) (i1 : i < ns.length) : atI (ns.map .int) i = some (.int (ati ns i)) := atI_map 0 i0 i1
theorem filter_yes {α : Type} (l : List α) : (l.filter fun _ => true) = l := List.filter_eq_self.mpr fun _ _ => rfl
theorem take_succ' {α : Type} {l : List α} {k : Nat} {x : α} (h : l[k]? = some x) : l.take (k + 1) = l.take k ++ [x] := by
  rw [List.take_add_one, h]
  rfl
theorem lot_getD {L : List (List Int)} {o : Int} (o0 : 0 ≤ o) (o1 : o < (L.map lotD).length) : (L.map lotD).getD o.toNat .non = lotD (lot L o) := by
  have hk : o.toNat < L.length := by simp at o1; omega
  unfold lot
  simp [List.getD, hk]
theorem pure_lots (L : List (List Int)) : (D.tup (L.map lotD)).pure = true := pureL_of (by
  intro y hy
  obtain ⟨z, _, rfl⟩ := List.mem_map.mp hy
  exact pure_ints z)
theorem pv_hands {rc : Rc} {e : Env} {S : Sto} {i : Nat} {h : Int} {L : List (List Int)} (he : e[i]? = some (some (webD h L))) : PV rc e S (.idx (.var i) (.cn (.int 0))) (.d (.int h)) := pv_idx (pv_var he) (pv_cn _) rfl (atI_0 _ _)
theorem share_iff {a b : List Int} : share a b = true ↔ ∃ x, x ∈ a ∧ x ∈ b := by
  unfold share
  rw [List.any_eq_true]
  constructor
  · rintro ⟨x, hx, h⟩
    exact ⟨x, hx, inn_mem.mp h⟩
  · rintro ⟨x, hx, h⟩
    exact ⟨x, hx, inn_mem.mpr h⟩
theorem lot_mem {L : List (List Int)} {i : Int} (i0 : 0 ≤ i) (i1 : i < L.length) : lot L i ∈ L := by
  obtain ⟨j, rfl⟩ := Int.eq_ofNat_of_zero_le i0
  have hj : j < L.length := by omega
  unfold lot
  simp [hj]

/-! ### the least row of a weaving, in plain lists -/
abbrev N (L : List (List Int)) : Int → Int → Bool := fun y x => share (lot L y) (lot L x)
def hd (L : List (List Int)) (g : Int) (l : List Int) : List Int := l.filter fun y => inn g (lot L y)
/-- x can stand first: for each of its hands it is the first -/
def Fre (L : List (List Int)) (l : List Int) (x : Int) : Prop := ∀ g ∈ lot L x, (hd L g l).head? = some x
def IsMin (L : List (List Int)) (l : List Int) (x : Int) : Prop := x ∈ l ∧ Fre L l x ∧ ∀ y ∈ l, Fre L l y → x ≤ y
theorem IsMin.uniq {L : List (List Int)} {l : List Int} {x y : Int} (h : IsMin L l x) (k : IsMin L l y) : x = y := by
  have := h.2.2 y k.1 k.2.1
  have := k.2.2 x h.1 h.2.1
  omega
inductive Rch (L : List (List Int)) (row : List Int) : List Int → List Int → Prop
  | nil : Rch L row [] row
  | snoc {f l : List Int} {x : Int} : Rch L row f l → IsMin L l x → Rch L row (f ++ [x]) (l.erase x)
theorem Rch.len {L : List (List Int)} {row f l : List Int} (h : Rch L row f l) : f.length + l.length = row.length := by
  induction h with
  | nil => simp
  | snoc h m ih =>
    rw [List.length_append, List.length_erase_of_mem m.1]
    have := List.length_pos_of_mem m.1
    simp
    omega
theorem Rch.uniq {L : List (List Int)} {row f l : List Int} (h : Rch L row f l) : ∀ {f' l' : List Int}, Rch L row f' l' → f.length = f'.length → f = f' ∧ l = l' := by
  induction h with
  | nil =>
    intro f' l' k e
    cases k with
    | nil => exact ⟨rfl, rfl⟩
    | snoc k m => simp at e
  | snoc h m ih =>
    intro f' l' k e
    cases k with
    | nil => simp at e
    | snoc k m2 =>
      obtain ⟨rfl, rfl⟩ := ih k (by simpa using e)
      rw [m.uniq m2]
      exact ⟨rfl, rfl⟩
theorem Rch.sub {L : List (List Int)} {row f l : List Int} (h : Rch L row f l) : (∀ x ∈ f, x ∈ row) ∧ ∀ x ∈ l, x ∈ row := by
  induction h with
  | nil => exact ⟨by simp, fun x h => h⟩
  | snoc h m ih =>
    refine ⟨fun x hx => ?_, fun x hx => ih.2 x (List.mem_of_mem_erase hx)⟩
    rcases List.mem_append.mp hx with hx | hx
    · exact ih.1 x hx
    · rw [List.mem_singleton.mp hx]; exact ih.2 _ m.1
/-- a place at which none ahead shares a hand -/
def Fst (L : List (List Int)) (l : List Int) (p : Nat) : Prop := ∃ x, l[p]? = some x ∧ ∀ y ∈ l.take p, N L y x = false
theorem hd_append (L : List (List Int)) (g : Int) (a b : List Int) : hd L g (a ++ b) = hd L g a ++ hd L g b := List.filter_append ..
theorem hd_nil {L : List (List Int)} {g : Int} {a : List Int} (h : ∀ y ∈ a, inn g (lot L y) = false) : hd L g a = [] := List.filter_eq_nil_iff.mpr fun y hy => by rw [h y hy]; simp
theorem no_share {a b : List Int} {g : Int} (h : share a b = false) (hg : g ∈ b) : inn g a = false := by
  rw [Bool.eq_false_iff]
  intro e
  have : share a b = true := share_iff.mpr ⟨g, inn_mem.mp e, hg⟩
  rw [h] at this
  cases this
theorem split_at {l : List Int} {p : Nat} {x : Int} (h : l[p]? = some x) : l = l.take p ++ x :: l.drop (p + 1) := by
  obtain ⟨hp, e⟩ := List.getElem?_eq_some_iff.mp h
  rw [← e, ← List.drop_eq_getElem_cons hp, List.take_append_drop]
/-- such a place's letter can stand first -/
theorem Fst.free {L : List (List Int)} {l : List Int} {p : Nat} {x : Int} (h : Fst L l p) (hx : l[p]? = some x) : Fre L l x := by
  intro g hg
  obtain ⟨x', e, h1⟩ := h
  rw [hx] at e
  cases e
  rw [split_at hx, hd_append, hd_nil fun y hy => no_share (h1 y hy) hg]
  have : inn g (lot L x) = true := inn_mem.mpr hg
  unfold hd
  rw [List.nil_append, List.filter_cons, if_pos this]
  rfl
theorem Fst.erase {L : List (List Int)} {l : List Int} {p : Nat} {x : Int} (h : Fst L l p) (hx : l[p]? = some x) (hne : lot L x ≠ []) : l.eraseIdx p = l.erase x := by
  obtain ⟨x', e, h1⟩ := h
  rw [hx] at e
  cases e
  have hp := (List.getElem?_eq_some_iff.mp hx).1
  have hn : x ∉ l.take p := fun hm => by
    have := h1 x hm
    obtain ⟨g, gs, e⟩ := List.exists_cons_of_ne_nil hne
    have h2 : share (lot L x) (lot L x) = true := share_iff.mpr ⟨g, by rw [e]; simp, by rw [e]; simp⟩
    rw [show N L x x = share (lot L x) (lot L x) from rfl, h2] at this
    cases this
  rw [List.eraseIdx_eq_take_drop_succ]
  conv => rhs; rw [split_at hx]
  rw [List.erase_append_right _ hn, List.erase_cons_head]
/-- a letter that can stand first has such a place: its first one -/
theorem Fre.place {L : List (List Int)} {l : List Int} {x : Int} (h : Fre L l x) (hx : x ∈ l) : ∃ p, l[p]? = some x ∧ Fst L l p := by
  obtain ⟨a, b, e, hn⟩ := List.eq_append_cons_of_mem hx
  refine ⟨a.length, by rw [e]; simp, x, by rw [e]; simp, fun y hy => ?_⟩
  rw [e] at hy
  simp at hy
  rw [Bool.eq_false_iff]
  intro hs
  obtain ⟨g, g1, g2⟩ := share_iff.mp hs
  have h1 := h g g2
  rw [e, hd_append] at h1
  have hy2 : y ∈ hd L g a := List.mem_filter.mpr ⟨hy, inn_mem.mpr g1⟩
  cases hc : hd L g a with
  | nil => rw [hc] at hy2; simp at hy2
  | cons z zs =>
    rw [hc] at h1
    have : z = x := by simpa using h1
    subst this
    have hz : z ∈ hd L g a := by rw [hc]; simp
    exact hn (List.mem_filter.mp hz).1
theorem hd_erase {L : List (List Int)} {g x : Int} : ∀ {l : List Int}, (inn g (lot L x) = true → (hd L g l).head? = some x → hd L g (l.erase x) = (hd L g l).tail) ∧ (inn g (lot L x) = false → hd L g (l.erase x) = hd L g l)
  | [] => ⟨fun _ _ => rfl, fun _ => rfl⟩
  | y :: l => by
    have ih := hd_erase (L := L) (g := g) (x := x) (l := l)
    by_cases e : y = x
    · subst e
      rw [List.erase_cons_head]
      unfold hd at *
      rw [List.filter_cons]
      exact ⟨fun h _ => by rw [if_pos h]; rfl, fun h => by rw [if_neg (by rw [h]; simp)]⟩
    · have e1 : (y :: l).erase x = y :: l.erase x := List.erase_cons_tail (by simpa using e)
      rw [e1]
      unfold hd at *
      rw [List.filter_cons, List.filter_cons]
      by_cases hy : inn g (lot L y) = true
      · rw [if_pos hy, if_pos hy]
        refine ⟨fun _ h => ?_, fun h => by rw [ih.2 h]⟩
        have : y = x := by simpa using h
        exact absurd this e
      · rw [if_neg hy, if_neg hy]
        exact ih
end K24
set_option linter.all false
set_option autoImplicit false
set_option maxRecDepth 100000
namespace K24
open Pv
/-- webs with any lots of hands, none empty, no hand twice -/
structure Web (h : Int) (L : List (List Int)) : Prop where
  h0 : 0 < h
  h4 : h ≤ 4
  l0 : 0 < L.length
  l8 : L.length ≤ 8
  ok : ∀ x ∈ L, x ≠ [] ∧ x.Nodup ∧ ∀ g ∈ x, 0 ≤ g ∧ g < h
theorem nth_of {α : Type} {l : List α} {k : Nat} (h : k < l.length) : l[k]? = some l[k] := List.getElem?_eq_getElem h
theorem nth_mem {α : Type} {l : List α} {k : Nat} {x : α} (h : l[k]? = some x) : x ∈ l := List.mem_of_getElem? h
def Rng (L : List (List Int)) (l : List Int) : Prop := ∀ x ∈ l, 0 ≤ x ∧ x < L.length
theorem add_mem {ks : List Int} {g x : Int} : x ∈ addK ks g ↔ x ∈ ks ∨ x = g := by
  unfold addK
  by_cases h : (ks.any fun y => y == g) = true
  · rw [if_pos h]
    have : g ∈ ks := inn_mem.mp h
    constructor
    · exact .inl
    · rintro (h | rfl)
      · exact h
      · exact this
  · rw [if_neg h, List.mem_append, List.mem_singleton]
theorem add_nd {ks : List Int} {g : Int} (h : ks.Nodup) : (addK ks g).Nodup := by
  unfold addK
  by_cases e : (ks.any fun y => y == g) = true
  · rw [if_pos e]; exact h
  · rw [if_neg e, List.nodup_append]
    refine ⟨h, by simp, fun a ha b hb => ?_⟩
    rw [List.mem_singleton.mp hb]
    rintro rfl
    exact e (inn_mem.mpr ha)
theorem addL_mem : ∀ {lo ks : List Int} {x : Int}, x ∈ lo.foldl addK ks ↔ x ∈ ks ∨ x ∈ lo
  | [], ks, x => by simp
  | g :: lo, ks, x => by
    rw [List.foldl_cons, addL_mem, add_mem, List.mem_cons]
    exact ⟨fun h => by rcases h with (h | h) | h <;> simp [h], fun h => by rcases h with h | h | h <;> simp [h]⟩
theorem addL_nd : ∀ {lo ks : List Int}, ks.Nodup → (lo.foldl addK ks).Nodup
  | [], _, h => h
  | g :: lo, ks, h => by
    rw [List.foldl_cons]
    exact addL_nd (add_nd h)
theorem nodup_le : ∀ {l m : List Int}, l.Nodup → (∀ x ∈ l, x ∈ m) → l.length ≤ m.length
  | [], _, _, _ => by simp
  | x :: l, m, h, k => by
    obtain ⟨h1, h2⟩ := List.nodup_cons.mp h
    have hx := k x (by simp)
    have := nodup_le (m := m.erase x) h2 fun y hy => (List.mem_erase_of_ne (by rintro rfl; exact h1 hy)).mpr (k y (by simp [hy]))
    rw [List.length_erase_of_mem hx] at this
    have := List.length_pos_of_mem hx
    simp
    omega
theorem full {h : Int} {ks : List Int} (h0 : 0 ≤ h) (nd : ks.Nodup) (hr : ∀ g ∈ ks, 0 ≤ g ∧ g < h) (hl : (ks.length : Int) = h) {g : Int} (g0 : 0 ≤ g) (g1 : g < h) : g ∈ ks := by
  by_cases hg : g ∈ ks
  · exact hg
  have := nodup_le (l := g :: ks) (m := rngI h.toNat) (List.nodup_cons.mpr ⟨hg, nd⟩) fun x hx => by
    rcases List.mem_cons.mp hx with rfl | hx
    · exact rngI_mem.mpr (by omega)
    · have := hr x hx
      exact rngI_mem.mpr (by omega)
  have e : (rngI h.toNat).length = h.toNat := by simp [rngI]
  rw [List.length_cons, e] at this
  omega
theorem mem_lt {h : Int} {ks : List Int} (h0 : 0 ≤ h) (h4 : h ≤ 4) (nd : ks.Nodup) (hr : ∀ g ∈ ks, 0 ≤ g ∧ g < h) : ks.length ≤ 4 := by
  have := nodup_le (l := ks) (m := rngI h.toNat) nd fun x hx => by
    have := hr x hx
    exact rngI_mem.mpr (by omega)
  have e : (rngI h.toNat).length = h.toNat := by simp [rngI]
  omega
theorem share_nil_any (a ks : List Int) : share a ks = a.any fun g => ks.any fun y => y == g := rfl
theorem nodup_take {l : List Int} {j : Nat} {g : Int} (h : l.Nodup) (hg : l[j]? = some g) : g ∉ l.take j := by
  intro hm
  rw [split_at hg] at h
  rw [List.nodup_append] at h
  exact h.2.2 g hm g (by simp) rfl
section
variable {n b : Nat} {S : Sto} {h : Int} {L : List (List Int)}
/-- the hands of a letter are shut -/
theorem ok_shut {l : Nat} {x : Int} {ks : List Int} (w : Web h L) (hl : S[l]? = some (.dct false (dk ks))) (x0 : 0 ≤ x) (x1 : x < L.length) (hk : ks.Nodup) (hr : ∀ g ∈ ks, 0 ≤ g ∧ g < h) :
    Ok (callN T (n + 1) 0 [webD h L, .loc l, .int x] S) fun r => r = (.d (.bl (share (lot L x) ks)), S.set l (.dct false (dk ((lot L x).foldl addK ks)))) := by
  obtain ⟨lo0, lond, lor⟩ := w.ok _ (lot_mem x0 x1)
  have hlt : l < S.length := at_lt hl
  refine ok_fn (d := ⟨"shut_hands", 3, 5, b_shut_hands⟩) rfl rfl ?_
  dsimp only [b_shut_hands]
  rw [show env0 5 [webD h L, .loc l, .int x] = [some (webD h L), some (.loc l), some (.int x), none, none] from rfl]
  refine st_asg (pv_cn _) ?_
  dsimp only [List.set]
  refine st_for (pi_e (pv_idx (pv_lots rfl) (pv_var rfl) rfl (lot_at x0 x1)) rfl rfl) ?_
  refine ok_cnt (fun j e S' => ∃ o4, e = [some (webD h L), some (.loc l), some (.int x), some (.bl (share ((lot L x).take j) ks)), o4] ∧ S' = S.set l (.dct false (dk (((lot L x).take j).foldl addK ks)))) (fun _ _ _ _ => chk_nil _) ?_ ?_ ⟨_, rfl, ?_⟩
  · rintro j y e S' hy ⟨o4, rfl, rfl⟩
    rw [List.getElem?_map] at hy
    obtain ⟨g, hg, rfl⟩ := Option.map_eq_some_iff.mp hy
    have hl' : (S.set l (.dct false (dk (((lot L x).take j).foldl addK ks))))[l]? = some (.dct false (dk (((lot L x).take j).foldl addK ks))) := set_at hl
    have hmem : ((((lot L x).take j).foldl addK ks).any fun y => y == g) = ks.any fun y => y == g := by
      rw [Bool.eq_iff_iff]
      show inn g _ = true ↔ inn g ks = true
      rw [inn_mem, inn_mem, addL_mem]
      exact ⟨fun h => h.resolve_right (nodup_take lond hg), .inl⟩
    have hlen : (((lot L x).take j).foldl addK ks).length < 16777216 := by
      have := mem_lt (ks := ((lot L x).take j).foldl addK ks) (h := h) (by have := w.h0; omega) w.h4 (addL_nd hk) fun g hg => by
        rcases addL_mem.mp hg with hg | hg
        · exact hr g hg
        · exact lor g (List.mem_of_mem_take hg)
      omega
    have fin : ∀ bb : Bool, bb = (share ((lot L x).take j) ks || ks.any fun y => y == g) → Ok (evSs (callN T n) (.cons (.dput (.var 1) (.var 4) (.cn (.bl true))) .nil) S.length [some (webD h L), some (.loc l), some (.int x), some (.bl bb), some (.int g)] (S.set l (.dct false (dk (((lot L x).take j).foldl addK ks))))) fun r => match r.1 with
      | .nx => ∃ o4, r.2.1 = [some (webD h L), some (.loc l), some (.int x), some (.bl (share ((lot L x).take (j + 1)) ks)), o4] ∧ r.2.2 = S.set l (.dct false (dk (((lot L x).take (j + 1)).foldl addK ks)))
      | _ => False := by
      intro bb hbb
      refine st_dput (ks := ((lot L x).take j).foldl addK ks) (pv_cn _) (pv_var rfl) (pv_var rfl) hl' hlen (ok_nil ⟨some (.int g), ?_, ?_⟩)
      · rw [take_succ' hg, hbb]
        unfold share
        rw [List.any_append]
        simp
      · rw [take_succ' hg, List.foldl_append, List.set_set]
        rfl
    refine Ok.bind (Ok.ok ?_)
    dsimp only [b_shut_hands_1, List.set]
    refine st_if (k := ks.any fun y => y == g) (pt_of (pv_din (pv_var rfl) (pv_var rfl) hl') rfl (by rw [hmem]; rfl)) (fun hc => ?_) (fun hc => ?_)
    · refine st_asg (pv_cn _) (ok_nil (Then.nx (Ok.mono (fin true (by rw [hc]; simp)) fun r hr => ?_)))
      obtain ⟨fl, e1, S1⟩ := r
      cases fl with
      | nx => exact hr
      | _ => exact absurd hr id
    · refine Ok.mono (fin _ (by rw [hc]; simp)) fun r hr => ?_
      obtain ⟨fl, e1, S1⟩ := r
      cases fl with
      | nx => exact hr
      | _ => exact absurd hr id
  · rintro e S' ⟨o4, rfl, rfl⟩
    rw [List.length_map, List.take_length]
    refine Then.nx (st_ret (pv_var rfl) ⟨_, rfl, ?_⟩)
    show leave S.length (.d (.bl _)) _ = _
    rw [leave_bl, take_set]
  · show S = S.set l (.dct false (dk ks))
    obtain ⟨_, e⟩ := List.getElem?_eq_some_iff.mp hl
    rw [← e]
    simp
/-- a letter behind all hands: none stands first -/
theorem share_mem {a ks : List Int} : share a ks = false ↔ ∀ g ∈ a, g ∉ ks := by
  rw [Bool.eq_false_iff]
  constructor
  · intro hs g hg hk
    exact hs (share_iff.mpr ⟨g, hg, hk⟩)
  · intro k hs
    obtain ⟨g, h1, h2⟩ := share_iff.mp hs
    exact k g h1 h2
/-- the hands of the first so many events -/
def Shut (L : List (List Int)) (h : Int) (l : List Int) (k : Nat) (ks : List Int) : Prop := ks.Nodup ∧ (∀ g ∈ ks, 0 ≤ g ∧ g < h) ∧ ∀ g, g ∈ ks ↔ ∃ y ∈ l.take k, g ∈ lot L y
theorem Shut.fst {l ks : List Int} {k : Nat} {x : Int} (s : Shut L h l k ks) (hx : l[k]? = some x) : share (lot L x) ks = false ↔ Fst L l k := by
  rw [share_mem]
  constructor
  · intro hn
    refine ⟨x, hx, fun y hy => ?_⟩
    rw [Bool.eq_false_iff]
    intro hs
    obtain ⟨g, h1, h2⟩ := share_iff.mp hs
    exact hn g h2 ((s.2.2 g).mpr ⟨y, hy, h1⟩)
  · rintro ⟨x', e, hn⟩ g hg hk
    rw [hx] at e
    cases e
    obtain ⟨y, hy, hgy⟩ := (s.2.2 g).mp hk
    have := hn y hy
    rw [show N L y x = share (lot L y) (lot L x) from rfl, share_iff.mpr ⟨g, hgy, hg⟩] at this
    cases this
theorem Shut.next {l ks : List Int} {k : Nat} {x : Int} (w : Web h L) (s : Shut L h l k ks) (hx : l[k]? = some x) (hr : Rng L l) : Shut L h l (k + 1) ((lot L x).foldl addK ks) := by
  obtain ⟨a, b, c⟩ := s
  have hlo := (w.ok _ (lot_mem (hr x (nth_mem hx)).1 (hr x (nth_mem hx)).2)).2.2
  refine ⟨addL_nd a, fun g hg => ?_, fun g => ?_⟩
  · rcases addL_mem.mp hg with hg | hg
    · exact b g hg
    · exact hlo g hg
  · rw [addL_mem, c, take_succ' hx]
    constructor
    · rintro (⟨y, hy, hg⟩ | hg)
      · exact ⟨y, by simp [hy], hg⟩
      · exact ⟨x, by simp, hg⟩
    · rintro ⟨y, hy, hg⟩
      rcases List.mem_append.mp hy with hy | hy
      · exact .inl ⟨y, hy, hg⟩
      · rw [List.mem_singleton.mp hy] at hg
        exact .inr hg
theorem Shut.all {l ks : List Int} {k : Nat} (w : Web h L) (s : Shut L h l k ks) (hl : (ks.length : Int) = h) (hr : Rng L l) {q : Nat} (hq : k ≤ q) : ¬ Fst L l q := by
  rintro ⟨x, hx, hn⟩
  have hx2 := hr x (nth_mem hx)
  obtain ⟨lo0, _, lor⟩ := w.ok _ (lot_mem hx2.1 hx2.2)
  obtain ⟨g, gs, e⟩ := List.exists_cons_of_ne_nil lo0
  have hg : g ∈ lot L x := by rw [e]; simp
  have hk := full (by have := w.h0; omega) s.1 s.2.1 hl (lor g hg).1 (lor g hg).2
  obtain ⟨y, hy, hgy⟩ := (s.2.2 g).mp hk
  have hy2 : y ∈ l.take q := by
    rw [show l.take k = (l.take q).take k by rw [List.take_take, Nat.min_eq_left hq]] at hy
    exact List.mem_of_mem_take hy
  have := hn y hy2
  rw [show N L y x = share (lot L y) (lot L x) from rfl, share_iff.mpr ⟨g, hgy, hg⟩] at this
  cases this
/-- the best place so far -/
def Best (L : List (List Int)) (l : List Int) (k best : Nat) (x : Int) : Prop := l[best]? = some x ∧ Fst L l best ∧ ∀ q y, q < k → l[q]? = some y → Fst L l q → x ≤ y
theorem ok_first {p : Nat} {l : List Int} (w : Web h L) (hp : S[p]? = some (.lst (l.map .int))) (hne : l ≠ []) (hr : Rng L l) (hll : l.length < 1000) :
    Ok (callN T (n + 2) 1 [webD h L, .loc p] S) fun r => ∃ (k : Nat) (x : Int), r = (.d (.int k), S) ∧ Best L l l.length k x := by
  have h0 := w.h0
  have h4 := w.h4
  refine ok_fn (d := ⟨"first_place", 2, 7, b_first_place⟩) rfl rfl ?_
  dsimp only [b_first_place]
  rw [show env0 7 [webD h L, .loc p] = [some (webD h L), some (.loc p), none, none, none, none, none] from rfl]
  refine st_asg (pv_cn _) (st_dnew ?_)
  dsimp only [List.set]
  have hd0 : (S ++ [O.dct false (dk [])])[S.length]? = some (.dct false (dk [])) := push_at
  have hp0 : (S ++ [O.dct false (dk [])])[p]? = some (.lst (l.map .int)) := push_lt hp
  have ht0 : (S ++ [O.dct false (dk [])]).take S.length = S := take_push (take_self _)
  have hps : p ≠ S.length := by have := at_lt hp; omega
  generalize S ++ [O.dct false (dk [])] = S0 at *
  obtain ⟨x0, xs, hl0⟩ := List.exists_cons_of_ne_nil hne
  have b0 : Best L l 0 0 x0 := ⟨by rw [hl0]; rfl, ⟨x0, by rw [hl0]; rfl, by simp⟩, fun q y hq => by omega⟩
  have fin : ∀ (e : Env) (S' : Sto) (best : Nat) (x : Int), e[2]? = some (some (.int best)) → S'.take S.length = S → Best L l l.length best x → Ok (evSs (callN T (n + 1)) (.cons (.ret (.var 2)) .nil) S.length e S') fun r => ∃ v, flV r.1 = some v ∧ ∃ (k : Nat) (x : Int), leave S.length v r.2.2 = (.d (.int k), S) ∧ Best L l l.length k x := by
    intro e S' best x he ht bt
    refine st_ret (pv_var he) ⟨_, rfl, best, x, ?_, bt⟩
    show leave S.length (.d (.int best)) S' = _
    rw [leave_int, ht]
  refine st_for (pi_enum (pv_var rfl) (items_loc hp0) (chk_loc hp0)) ?_
  rw [enumD_rng, List.length_map]
  refine ok_cnt (fun k e S' => ∃ (best : Nat) (x : Int) (ks : List Int) (o4 o5 o6 : Option D), e = [some (webD h L), some (.loc p), some (.int best), some (.loc S.length), o4, o5, o6] ∧ S'[p]? = some (.lst (l.map .int)) ∧ S'[S.length]? = some (.dct false (dk ks)) ∧ Shut L h l k ks ∧ Best L l k best x ∧ S'.take S.length = S) (fun _ _ _ ⟨_, _, _, _, _, _, _, h1, _⟩ => chk_one h1) ?_ ?_ ⟨0, x0, [], _, _, _, rfl, hp0, hd0, ⟨by simp, by simp, by simp⟩, b0, ht0⟩
  · rintro k yy e S' hyy ⟨best, x, ks, o4, o5, o6, rfl, hp', hd', sh, bt, ht⟩
    rw [List.getElem?_map] at hyy
    obtain ⟨i, hi, rfl⟩ := Option.map_eq_some_iff.mp hyy
    clear hyy
    have hik : i = (k : Nat) ∧ k < l.length := by
      obtain ⟨h1, h2⟩ := List.getElem?_eq_some_iff.mp hi
      simp [rngI] at h1 h2
      exact ⟨h2.symm, h1⟩
    obtain ⟨rfl, hkl⟩ := hik
    have hlk : l[k]? = some l[k] := nth_of hkl
    have hgd : (l.map D.int).getD ((k : Nat) : Int).toNat .non = .int l[k] := by simp [List.getD, hkl]
    rw [hgd]
    have hrk := hr _ (nth_mem hlk)
    obtain ⟨lo0, lond, lor⟩ := w.ok _ (lot_mem hrk.1 hrk.2)
    refine Ok.bind (Ok.ok ?_)
    dsimp only [b_first_place_1, List.set]
    refine ok_asg (ok_call (es_pv (pv_var rfl) (es_pv (pv_var rfl) (es_pv (pv_var rfl) (es_nil (Ok.ok ?_))))))
    refine Ok.mono (ok_shut (n := n) w hd' hrk.1 hrk.2 sh.1 sh.2.1) fun r er => ?_
    subst er
    rw [leave_bl, take_set]
    dsimp only [settle, List.set]
    have hp1 : (S'.set S.length (.dct false (dk ((lot L l[k]).foldl addK ks))))[p]? = some (.lst (l.map .int)) := set_ne hp' (fun e => hps e.symm)
    have hd1 : (S'.set S.length (.dct false (dk ((lot L l[k]).foldl addK ks))))[S.length]? = some (.dct false (dk ((lot L l[k]).foldl addK ks))) := set_at hd'
    have ht1 : (S'.set S.length (.dct false (dk ((lot L l[k]).foldl addK ks)))).take S.length = S := take_setG ht (Nat.le_refl _)
    generalize S'.set S.length (O.dct false (dk ((lot L l[k]).foldl addK ks))) = S1 at *
    have sh1 := sh.next w hlk hr
    have hfst := sh.fst hlk
    have hbl := (List.getElem?_eq_some_iff.mp bt.1).1
    have hbx : atI (l.map .int) (best : Nat) = some (.int x) := atI_nat (by rw [List.getElem?_map, bt.1]; rfl)
    have rest : ∀ (best : Nat) (x : Int), Best L l (k + 1) best x → Ok (evSs (callN T (n + 1)) (.cons (.ite (.cmp .eq (.dlen (.var 3)) (.idx (.var 0) (.cn (.int 0)))) (.cons .brk .nil) .nil) .nil) S.length [some (webD h L), some (.loc p), some (.int best), some (.loc S.length), some (.int k), some (.int l[k]), some (.bl (share (lot L l[k]) ks))] S1) fun r => match r.1 with
      | .nx => ∃ (best : Nat) (x : Int) (ks : List Int) (o4 o5 o6 : Option D), r.2.1 = [some (webD h L), some (.loc p), some (.int best), some (.loc S.length), o4, o5, o6] ∧ r.2.2[p]? = some (.lst (l.map .int)) ∧ r.2.2[S.length]? = some (.dct false (dk ks)) ∧ Shut L h l (k + 1) ks ∧ Best L l (k + 1) best x ∧ r.2.2.take S.length = S
      | .ct => ∃ (best : Nat) (x : Int) (ks : List Int) (o4 o5 o6 : Option D), r.2.1 = [some (webD h L), some (.loc p), some (.int best), some (.loc S.length), o4, o5, o6] ∧ r.2.2[p]? = some (.lst (l.map .int)) ∧ r.2.2[S.length]? = some (.dct false (dk ks)) ∧ Shut L h l (k + 1) ks ∧ Best L l (k + 1) best x ∧ r.2.2.take S.length = S
      | .br => Then (callN T (n + 1)) (.cons (.ret (.var 2)) .nil) S.length (fun r => ∃ v, flV r.1 = some v ∧ ∃ (k : Nat) (x : Int), leave S.length v r.2.2 = (.d (.int k), S) ∧ Best L l l.length k x) (.nx, r.2)
      | .rt v => Then (callN T (n + 1)) (.cons (.ret (.var 2)) .nil) S.length (fun r => ∃ v, flV r.1 = some v ∧ ∃ (k : Nat) (x : Int), leave S.length v r.2.2 = (.d (.int k), S) ∧ Best L l l.length k x) (.rt v, r.2) := by
      intro best x bt
      refine st_if (k := (((lot L l[k]).foldl addK ks).length : Int) == h) (pt_of (pv_cmp (pv_dlen (pv_var rfl) hd1) (pv_hands rfl) rfl) rfl rfl) (fun hc => ?_) (fun _ => ?_)
      · have hc : (((lot L l[k]).foldl addK ks).length : Int) = h := by simpa using hc
        refine ok_brk (Then.br (Then.nx (fin _ S1 best x rfl ht1 ⟨bt.1, bt.2.1, fun q y hq hy hf => ?_⟩)))
        by_cases hqk : q < k + 1
        · exact bt.2.2 q y hqk hy hf
        · exact absurd hf (sh1.all w hc hr (by omega))
      · exact ok_nil ⟨best, x, _, _, _, _, rfl, hp1, hd1, sh1, bt, ht1⟩
    refine st_if (k := !(share (lot L l[k]) ks) && decide (l[k] < x)) (pt_and (pt_not (pt_of (pv_var rfl) rfl rfl)) fun _ => pt_of (pv_cmp (pv_var rfl) (pv_idxL (pv_var rfl) hp1 (pv_var rfl) hbx) rfl) rfl rfl) (fun hc => ?_) (fun hc => ?_)
    · rw [Bool.and_eq_true, decide_eq_true_eq] at hc
      have hf : Fst L l k := hfst.mp (by simpa using hc.1)
      refine st_asg (pv_var rfl) (ok_nil (Then.nx (rest k l[k] ⟨hlk, hf, fun q y hq hy hfq => ?_⟩)))
      by_cases hqk : q < k
      · have := bt.2.2 q y hqk hy hfq
        omega
      · have : q = k := by omega
        subst this
        rw [hlk] at hy
        cases hy
        omega
    · refine rest best x ⟨bt.1, bt.2.1, fun q y hq hy hfq => ?_⟩
      by_cases hqk : q < k
      · exact bt.2.2 q y hqk hy hfq
      · have : q = k := by omega
        subst this
        rw [hlk] at hy
        cases hy
        rw [hfst.mpr hfq] at hc
        simpa using hc
  · rintro e S' ⟨best, x, ks, o4, o5, o6, rfl, hp', hd', sh, bt, ht⟩
    rw [List.length_map] at bt
    have e1 : (rngI l.length).length = l.length := by simp [rngI]
    rw [e1] at bt
    exact Then.nx (fin _ S' best x rfl ht bt)
theorem Best.isMin {l : List Int} {k : Nat} {x : Int} (b : Best L l l.length k x) (hl : ∀ y ∈ l, lot L y ≠ []) : IsMin L l x ∧ l.eraseIdx k = l.erase x := by
  obtain ⟨h1, h2, h3⟩ := b
  refine ⟨⟨nth_mem h1, h2.free h1, fun y hy hf => ?_⟩, h2.erase h1 (hl x (nth_mem h1))⟩
  obtain ⟨q, hq, hfq⟩ := hf.place hy
  exact h3 q y (List.getElem?_eq_some_iff.mp hq).1 hq hfq
end
end K24
set_option linter.all false
set_option autoImplicit false
set_option maxRecDepth 100000
namespace K24
open Pv
def has (g l : List Int) : List Int := g.filter fun x => inn x l
theorem has_pos (a b : List Int) : decide ((0 : Int) < ((has a b).length : Int)) = share a b := by
  unfold has
  induction a with
  | nil => rfl
  | cons x a ih =>
    unfold share at *
    rw [List.any_cons, ← ih, List.filter_cons]
    cases h : inn x b with
    | true =>
      have h2 : (b.any fun y => y == x) = true := h
      rw [h2]
      simp
    | false =>
      have h2 : (b.any fun y => y == x) = false := h
      rw [h2]
      simp
/-- len([hand for hand in hands if hand in lot]) -/
theorem pv_has {rc : Rc} {e : Env} {S : Sto} {x : E} {c : Nat} {y : E} {g l : List Int} (hx : PV rc e S x (.d (lotD g))) (hy : ∀ d, PV rc ((wipeE e [c]).set c (some (.int d))) S y (.d (lotD l))) (hc : ∀ d, PV rc ((wipeE e [c]).set c (some (.int d))) S (.var c) (.d (.int d))) :
    PV rc e S (.f1 .len (.comp (.var c) (.var c) (.e x) (.cons (.cmp .inn (.var c) y) .nil) [c])) (.d (.int (has g l).length)) := by
  refine pv_lenF (f := D.int) (l := has g l) ?_
  exact pv_compI (c := []) (ns := g) (fun d => inn d l) .int (pi_e hx rfl rfl) (chk_nil _) fun d _ => ⟨pts_one (pt_of (pv_cmp (hc d) (hy d) (in_cmp _ _ _)) rfl rfl), fun _ => hc d⟩
theorem share_comm (a b : List Int) : share a b = share b a := by
  rw [Bool.eq_iff_iff, share_iff, share_iff]
  exact ⟨fun ⟨x, h1, h2⟩ => ⟨x, h2, h1⟩, fun ⟨x, h1, h2⟩ => ⟨x, h2, h1⟩⟩

theorem lots_ne {h : Int} {L : List (List Int)} {l : List Int} (w : Web h L) (hr : Rng L l) : ∀ y ∈ l, lot L y ≠ [] := fun y hy => (w.ok _ (lot_mem (hr y hy).1 (hr y hy).2)).1
/-- the least row of a weaving, told by its steps -/
def Lst (L : List (List Int)) (row f : List Int) : Prop := f.length = row.length ∧ ∃ l, Rch L row f l
theorem Lst.uniq {L : List (List Int)} {row f f' : List Int} (a : Lst L row f) (b : Lst L row f') : f = f' := by
  obtain ⟨l1, _, h1⟩ := a
  obtain ⟨l2, _, h2⟩ := b
  exact (h1.uniq h2 (l1.trans l2.symm)).1
section
variable {n b : Nat} {S : Sto} {h : Int} {L : List (List Int)}
theorem ok_least1 {p q : Nat} {t : Int} {l f : List Int} {o4 : Option D} {rowD : D} (w : Web h L) (hp : S[p]? = some (.lst (l.map .int))) (hq : S[q]? = some (.lst (f.map .int))) (hpq : p ≠ q) (hne : l ≠ []) (hr : Rng L l) (hl : l.length < 1000) (hf : f.length < 1000) :
    Ok (evTg (callN T (n + 2)) (.var 4) b (.int t) [some (webD h L), some rowD, some (.loc p), some (.loc q), o4] S >>= fun r => evSs (callN T (n + 2)) b_least_form_1 b r.1 r.2) fun r => ∃ x, IsMin L l x ∧ r = (.nx, [some (webD h L), some rowD, some (.loc p), some (.loc q), some (.int t)], (S.set p (.lst ((l.erase x).map .int))).set q (.lst ((f ++ [x]).map .int))) := by
  refine Ok.bind (Ok.ok ?_)
  dsimp only [b_least_form_1, List.set]
  refine ok_expr (ev_m1 (pv_var rfl) hq (ev_m1 (pv_var rfl) hp (ok_call (es_pv (pv_var rfl) (es_pv (pv_var rfl) (es_nil (Ok.ok ?_)))))))
  refine Ok.mono (ok_first (n := n) w hp hne hr hl) fun r ⟨k, x, er, bt⟩ => ?_
  subst er
  rw [leave_int, take_self]
  obtain ⟨im, ee⟩ := bt.isMin (lots_ne w hr)
  refine Ok.eq (meth_pop hp (k := k) (x := .int x) (by rw [List.getElem?_map, bt.1]; rfl)) ?_
  refine Ok.eq (meth_app (set_ne hq (fun e => hpq e)) (by simp; omega) (.inl rfl)) ?_
  refine ok_nil ⟨x, im, ?_⟩
  rw [map_erase, ee, List.map_append]
  rfl
theorem ok_leastf {row : List Int} (w : Web h L) (hr : Rng L row) (hl : row.length < 900) : Ok (callN T (n + 3) 2 [webD h L, lotD row] S) fun r => ∃ f, r = (.d (lotD f), S) ∧ Lst L row f := by
  refine ok_fn (d := ⟨"least_form", 2, 5, b_least_form⟩) rfl rfl ?_
  dsimp only [b_least_form]
  rw [show env0 5 [webD h L, lotD row] = [some (webD h L), some (lotD row), none, none, none] from rfl]
  refine st_asgF (xs := row.map .int) (pv_f1 (pv_var rfl) rfl) ?_
  dsimp only [List.set]
  refine st_asgF (xs := []) (pv_lst pes_nil (by simp)) ?_
  dsimp only [List.set]
  have hp0 : ((S ++ [O.lst (row.map D.int)]) ++ [O.lst []])[S.length]? = some (.lst (row.map .int)) := push_lt push_at
  have hq0 : ((S ++ [O.lst (row.map D.int)]) ++ [O.lst []])[(S ++ [O.lst (row.map D.int)]).length]? = some (.lst (([] : List Int).map .int)) := push_at
  have ht0 : ((S ++ [O.lst (row.map D.int)]) ++ [O.lst []]).take S.length = S := take_push (take_push (take_self _))
  have hq : S.length < (S ++ [O.lst (row.map D.int)]).length := by simp
  generalize (S ++ [O.lst (row.map D.int)]) ++ [O.lst []] = S0 at *
  generalize (S ++ [O.lst (row.map D.int)]).length = q at *
  refine st_for (pi_rng0 (k := row.length) (pv_lenM (f := D.int) (l := row) (pv_var rfl)) (by omega) (by omega)) ?_
  refine ok_rng (fun k e S' => ∃ o4 f l, e = [some (webD h L), some (lotD row), some (.loc S.length), some (.loc q), o4] ∧ S'[S.length]? = some (.lst (l.map .int)) ∧ S'[q]? = some (.lst (f.map .int)) ∧ (f.length : Int) = k ∧ Rch L row f l ∧ S'.take S.length = S) (by omega) ?_ ?_ ⟨_, [], row, rfl, hp0, hq0, rfl, .nil, ht0⟩
  · rintro k e S' k0 k1 ⟨o4, f, l, rfl, hp, hq', hf, rc, ht⟩
    have hlen := rc.len
    have hsub := rc.sub
    refine Ok.mono (ok_least1 (n := n) w hp hq' (by omega) (by rintro rfl; simp at hlen; omega) (fun x hx => hr x (hsub.2 x hx)) (by omega) (by omega)) fun r ⟨x, im, er⟩ => ?_
    subst er
    exact ⟨_, f ++ [x], l.erase x, rfl, set_ne (set_at hp) (by omega), set_at (set_ne hq' (by omega)), by simp; omega, .snoc rc im, take_setG (take_setG ht (Nat.le_refl _)) (by omega)⟩
  · rintro e S' ⟨o4, f, l, rfl, hp, hq', hf, rc, ht⟩
    refine Then.nx (st_ret (v := .d (lotD f)) (pv_f1 (pv_var rfl) (by rw [app_tuple, items_loc hq']; rfl)) ⟨_, rfl, f, ?_, by omega, l, rc⟩)
    show leave S.length (.d (lotD f)) S' = _
    rw [leave_pure (pure_ints _), ht]
/-! which events are in the view -/
def mk (L : List (List Int)) (eye : List Int) (st : List Int × List Bool) (y : Int) : List Int × List Bool := (if inn y eye || share (lot L y) st.1 then (lot L y).foldl addK st.1 else st.1, st.2 ++ [inn y eye || share (lot L y) st.1])
def mks (L : List (List Int)) (eye l : List Int) : List Int × List Bool := l.foldl (mk L eye) ([], [])
def marksOf (L : List (List Int)) (row eye : List Int) : List Bool := (mks L eye row.reverse).2.reverse
theorem mks_snoc (L : List (List Int)) (eye l : List Int) (y : Int) : mks L eye (l ++ [y]) = mk L eye (mks L eye l) y := by
  unfold mks
  rw [List.foldl_append]
  rfl
theorem mks_ok (w : Web h L) {eye : List Int} : ∀ (l : List Int) (st : List Int × List Bool), Rng L l → st.1.Nodup → (∀ g ∈ st.1, 0 ≤ g ∧ g < h) → (l.foldl (mk L eye) st).1.Nodup ∧ (∀ g ∈ (l.foldl (mk L eye) st).1, 0 ≤ g ∧ g < h) ∧ (l.foldl (mk L eye) st).2.length = st.2.length + l.length
  | [], st, _, h1, h2 => ⟨h1, h2, rfl⟩
  | y :: l, st, hr, h1, h2 => by
    have hy := hr y (by simp)
    have lo := (w.ok _ (lot_mem hy.1 hy.2)).2.2
    have a : (mk L eye st y).1.Nodup := by
      unfold mk
      dsimp only
      split
      · exact addL_nd h1
      · exact h1
    have b : ∀ g ∈ (mk L eye st y).1, 0 ≤ g ∧ g < h := by
      unfold mk
      dsimp only
      split
      · intro g hg
        rcases addL_mem.mp hg with hg | hg
        · exact h2 g hg
        · exact lo g hg
      · exact h2
    obtain ⟨c1, c2, c3⟩ := mks_ok w l (mk L eye st y) (fun x hx => hr x (by simp [hx])) a b
    refine ⟨c1, c2, ?_⟩
    rw [List.foldl_cons, c3]
    unfold mk
    simp
    omega
theorem Rng.take {l : List Int} (hr : Rng L l) (k : Nat) : Rng L (l.take k) := fun x hx => hr x (List.mem_of_mem_take hx)
theorem Rng.rev {l : List Int} (hr : Rng L l) : Rng L l.reverse := fun x hx => hr x (List.mem_reverse.mp hx)
theorem marks_len (w : Web h L) {row eye : List Int} (hr : Rng L row) : (marksOf L row eye).length = row.length := by
  unfold marksOf mks
  rw [List.length_reverse, (mks_ok w row.reverse ([], []) hr.rev (by simp) (by simp)).2.2]
  simp
theorem ok_sev1 {d : Nat} {g : Int} {ks : List Int} {o7 : Option D} {x1 x2 x4 x5 x6 : Option D} {wD : D} (hd : S[d]? = some (.dct false (dk ks))) (hl : ks.length < 1000) : Ok (evTg (callN T n) (.var 7) b (.int g) [some wD, x1, x2, some (.loc d), x4, x5, x6, o7] S >>= fun r => evSs (callN T n) b_seen_events_1 b r.1 r.2) fun r => r = (.nx, [some wD, x1, x2, some (.loc d), x4, x5, x6, some (.int g)], S.set d (.dct false (dk (addK ks g)))) := by
  refine Ok.bind (Ok.ok ?_)
  dsimp only [b_seen_events_1, List.set]
  exact st_dput (pv_cn _) (pv_var rfl) (pv_var rfl) hd (by omega) (ok_nil rfl)
theorem ok_sev2 {d m : Nat} {y : Int} {ks eye : List Int} {ms : List Bool} {o5 o6 o7 : Option D} {rowD : D} (w : Web h L) (hd : S[d]? = some (.dct false (dk ks))) (hm : S[m]? = some (.lst (ms.map .bl))) (hdm : d ≠ m) (y0 : 0 ≤ y) (y1 : y < L.length) (hk : ks.Nodup) (hkr : ∀ g ∈ ks, 0 ≤ g ∧ g < h) (hml : ms.length < 1000) :
    Ok (evTg (callN T n) (.var 5) b (.int y) [some (webD h L), some rowD, some (lotD eye), some (.loc d), some (.loc m), o5, o6, o7] S >>= fun r => evSs (callN T n) b_seen_events_2 b r.1 r.2) fun r => ∃ o5 o6 o7, r = (.nx, [some (webD h L), some rowD, some (lotD eye), some (.loc d), some (.loc m), o5, o6, o7], (S.set d (.dct false (dk (mk L eye (ks, ms) y).1))).set m (.lst ((mk L eye (ks, ms) y).2.map .bl))) := by
  obtain ⟨lo0, lond, lor⟩ := w.ok _ (lot_mem y0 y1)
  refine Ok.bind (Ok.ok ?_)
  dsimp only [b_seen_events_2, List.set]
  have hs : PV (callN T n) [some (webD h L), some rowD, some (lotD eye), some (.loc d), some (.loc m), some (.int y), o6, o7] S (.cmp .gt (.f1 .len (.comp (.var 7) (.var 7) (.e (.idx (.idx (.var 0) (.cn (.int 1))) (.var 5))) (.cons (.din false (.var 7) (.var 3)) .nil) [7])) (.cn (.int 0))) (.d (.bl (share (lot L y) ks))) := by
    rw [← has_pos]
    refine pv_cmp (pv_lenF (f := D.int) (l := has (lot L y) ks) ?_) (pv_cn _) rfl
    exact pv_compI (c := []) (ns := lot L y) (fun g => inn g ks) .int (pi_e (pv_idx (pv_lots rfl) (pv_var rfl) rfl (lot_at y0 y1)) rfl rfl) (chk_nil _) fun g _ => ⟨pts_one (pt_of (pv_din (pv_var rfl) (pv_var rfl) hd) rfl rfl), fun _ => pv_var rfl⟩
  refine st_asg (pv_orb (pv_cmp (pv_var rfl) (pv_var rfl) (in_cmp _ _ _)) fun _ => hs) ?_
  dsimp only [List.set]
  show Ok (evSs (callN T n) _ b [some (webD h L), some rowD, some (lotD eye), some (.loc d), some (.loc m), some (.int y), some (.bl (inn y eye || share (lot L y) ks)), o7] S) _
  have hsd : S.set d (.dct false (dk ks)) = S := by
    obtain ⟨_, e⟩ := List.getElem?_eq_some_iff.mp hd
    rw [← e]
    simp
  have fin : ∀ (S1 : Sto) (o7 : Option D), S1 = S.set d (.dct false (dk (mk L eye (ks, ms) y).1)) → Ok (evSs (callN T n) (.cons (.expr (.m1 .append (.var 4) (.var 6))) .nil) b [some (webD h L), some rowD, some (lotD eye), some (.loc d), some (.loc m), some (.int y), some (.bl (inn y eye || share (lot L y) ks)), o7] S1) fun r => ∃ o5 o6 o7, r = (.nx, [some (webD h L), some rowD, some (lotD eye), some (.loc d), some (.loc m), o5, o6, o7], (S.set d (.dct false (dk (mk L eye (ks, ms) y).1))).set m (.lst ((mk L eye (ks, ms) y).2.map .bl))) := by
    rintro S1 o7 rfl
    refine st_app (v := .bl (inn y eye || share (lot L y) ks)) (pv_var rfl) (set_ne hm hdm) (by simp; omega) (pv_var rfl) (.inl rfl) (ok_nil ⟨some (.int y), some (.bl (inn y eye || share (lot L y) ks)), o7, ?_⟩)
    rw [show (mk L eye (ks, ms) y).2.map D.bl = ms.map D.bl ++ [.bl (inn y eye || share (lot L y) ks)] by unfold mk; rw [List.map_append]; rfl]
  refine st_if (k := inn y eye || share (lot L y) ks) (pt_of (pv_var rfl) rfl rfl) (fun hc => ?_) (fun hc => ?_)
  · refine st_for (pi_e (pv_idx (pv_lots rfl) (pv_var rfl) rfl (lot_at y0 y1)) rfl rfl) ?_
    refine ok_cnt (fun j e S' => ∃ o7, e = [some (webD h L), some rowD, some (lotD eye), some (.loc d), some (.loc m), some (.int y), some (.bl (inn y eye || share (lot L y) ks)), o7] ∧ S' = S.set d (.dct false (dk (((lot L y).take j).foldl addK ks)))) (fun _ _ _ _ => chk_nil _) ?_ ?_ ⟨_, rfl, hsd.symm⟩
    · rintro j z e S' hz ⟨o7, rfl, rfl⟩
      rw [List.getElem?_map] at hz
      obtain ⟨g, hg, rfl⟩ := Option.map_eq_some_iff.mp hz
      have hlen := mem_lt (ks := ((lot L y).take j).foldl addK ks) (h := h) (by have := w.h0; omega) w.h4 (addL_nd hk) fun g hg => by
        rcases addL_mem.mp hg with hg | hg
        · exact hkr g hg
        · exact lor g (List.mem_of_mem_take hg)
      refine Ok.mono (ok_sev1 (n := n) (set_at hd) (by omega)) fun r er => ?_
      subst er
      refine ⟨_, rfl, ?_⟩
      rw [take_succ' hg, List.foldl_append, List.set_set]
      rfl
    · rintro e S' ⟨o7, rfl, rfl⟩
      rw [List.length_map, List.take_length]
      refine Then.nx (ok_nil (Then.nx (fin _ o7 ?_)))
      unfold mk
      dsimp only
      rw [if_pos hc]
  · refine fin S _ ?_
    unfold mk
    dsimp only
    rw [if_neg (by rw [hc]; simp), hsd]
theorem ok_seen {row eye : List Int} (w : Web h L) (hr : Rng L row) (hl : row.length < 900) : Ok (callN T (n + 1) 3 [webD h L, lotD row, lotD eye] S) fun r => r = (.fr ((marksOf L row eye).map .bl), S) := by
  refine ok_fn (d := ⟨"seen_events", 3, 8, b_seen_events⟩) rfl rfl ?_
  dsimp only [b_seen_events]
  rw [show env0 8 [webD h L, lotD row, lotD eye] = [some (webD h L), some (lotD row), some (lotD eye), none, none, none, none, none] from rfl]
  refine st_dnew ?_
  dsimp only [List.set]
  refine st_asgF (xs := []) (pv_lst pes_nil (by simp)) ?_
  dsimp only [List.set]
  have hd0 : ((S ++ [O.dct false (dk [])]) ++ [O.lst []])[S.length]? = some (.dct false (dk (mks L eye (row.reverse.take 0)).1)) := push_lt push_at
  have hm0 : ((S ++ [O.dct false (dk [])]) ++ [O.lst []])[(S ++ [O.dct false (dk [])]).length]? = some (.lst ((mks L eye (row.reverse.take 0)).2.map .bl)) := push_at
  have ht0 : ((S ++ [O.dct false (dk [])]) ++ [O.lst []]).take S.length = S := take_push (take_push (take_self _))
  have hq : S.length < (S ++ [O.dct false (dk [])]).length := by simp
  generalize (S ++ [O.dct false (dk [])]) ++ [O.lst []] = S0 at *
  generalize (S ++ [O.dct false (dk [])]).length = m at *
  refine st_for (pi_rev (pv_var rfl) rfl rfl) ?_
  rw [← List.map_reverse]
  refine ok_cnt (fun k e S' => ∃ o5 o6 o7, e = [some (webD h L), some (lotD row), some (lotD eye), some (.loc S.length), some (.loc m), o5, o6, o7] ∧ S'[S.length]? = some (.dct false (dk (mks L eye (row.reverse.take k)).1)) ∧ S'[m]? = some (.lst ((mks L eye (row.reverse.take k)).2.map .bl)) ∧ S'.take S.length = S) (fun _ _ _ _ => chk_nil _) ?_ ?_ ⟨_, _, _, rfl, hd0, hm0, ht0⟩
  · rintro k z e S' hz ⟨o5, o6, o7, rfl, hd, hm, ht⟩
    rw [List.getElem?_map] at hz
    obtain ⟨y, hy, rfl⟩ := Option.map_eq_some_iff.mp hz
    have hyr := hr.rev y (nth_mem hy)
    obtain ⟨a1, a2, a3⟩ := mks_ok (eye := eye) w (row.reverse.take k) ([], []) (hr.rev.take k) (by simp) (by simp)
    have hlen : (row.reverse.take k).length ≤ row.length := by rw [List.length_take, List.length_reverse]; exact Nat.min_le_right _ _
    refine Ok.mono (ok_sev2 (n := n) (eye := eye) w hd hm (by omega) hyr.1 hyr.2 a1 a2 (by show (mks L eye (row.reverse.take k)).2.length < 1000; unfold mks; rw [a3]; simp; omega)) fun r ⟨o5, o6, o7, er⟩ => ?_
    subst er
    refine ⟨o5, o6, o7, rfl, ?_, ?_, take_setG (take_setG ht (Nat.le_refl _)) (by omega)⟩
    · rw [take_succ' hy, mks_snoc]
      exact set_ne (set_at hd) (by omega)
    · rw [take_succ' hy, mks_snoc]
      exact set_at (set_ne hm (by omega))
  · rintro e S' ⟨o5, o6, o7, rfl, hd, hm, ht⟩
    rw [List.length_map, List.take_length] at hm
    refine Then.nx (st_ret (pv_rev (pv_var rfl) hm) ⟨_, rfl, ?_⟩)
    rw [leave_frP (fun y hy => by
      rw [← List.map_reverse] at hy
      obtain ⟨z, _, rfl⟩ := List.mem_map.mp hy
      rfl), ht, ← List.map_reverse]
    rfl
/-- the events in the view -/
def partOf (L : List (List Int)) (row eye : List Int) : List Int := ((row.zip (marksOf L row eye)).filter (·.2)).map (·.1)
theorem part_rng {row eye : List Int} (hr : Rng L row) : Rng L (partOf L row eye) ∧ (partOf L row eye).length ≤ row.length := by
  constructor
  · intro x hx
    obtain ⟨p, hp, rfl⟩ := List.mem_map.mp hx
    exact hr _ (List.of_mem_zip (List.mem_filter.mp hp).1).1
  · unfold partOf
    rw [List.length_map]
    have a := List.length_filter_le (fun p : Int × Bool => p.2) (row.zip (marksOf L row eye))
    have b : (row.zip (marksOf L row eye)).length ≤ row.length := by rw [List.length_zip]; exact Nat.min_le_left _ _
    omega
theorem ok_view {row eye : List Int} (w : Web h L) (hr : Rng L row) (hl : row.length < 900) : Ok (callN T (n + 4) 4 [webD h L, lotD row, lotD eye] S) fun r => ∃ f, r = (.d (lotD f), S) ∧ Lst L (partOf L row eye) f := by
  obtain ⟨pr, pl⟩ := part_rng (eye := eye) hr
  refine ok_fn (d := ⟨"view_of", 3, 6, b_view_of⟩) rfl rfl ?_
  dsimp only [b_view_of]
  rw [show env0 6 [webD h L, lotD row, lotD eye] = [some (webD h L), some (lotD row), some (lotD eye), none, none, none] from rfl]
  refine st_asgF (xs := (marksOf L row eye).map .bl) (pv_callF (pes_cons (pv_var rfl) (pes_cons (pv_var rfl) (pes_cons (pv_var rfl) pes_nil))) pes_nil (ok_seen (n := n + 2) w hr hl) rfl) ?_
  dsimp only [List.set]
  have hm : (S ++ [O.lst ((marksOf L row eye).map D.bl)])[S.length]? = some (.lst ((marksOf L row eye).map .bl)) := push_at
  have ht : (S ++ [O.lst ((marksOf L row eye).map D.bl)]).take S.length = S := take_push (take_self _)
  generalize S ++ [O.lst ((marksOf L row eye).map D.bl)] = S1 at *
  have hpart : PV (callN T (n + 3)) [some (webD h L), some (lotD row), some (lotD eye), some (.loc S.length), none, none] S1 (.f1 .tuple (.comp (.var 4) (.tup (.cons (.var 4) (.cons (.var 5) .nil))) (.zip (.var 1) (.var 3)) (.cons (.var 5) .nil) [4, 5])) (.d (lotD (partOf L row eye))) := by
    have hz := pi_zipM (rc := callN T (n + 3)) (e := [some (webD h L), some (lotD row), some (lotD eye), some (.loc S.length), none, none]) (x := .var 1) (y := .var 3) (pv_var rfl) (pv_var rfl) hm
    rw [zip_map] at hz
    refine pv_f1 (pv_compM (f := fun p : Int × Bool => D.tup [.int p.1, .bl p.2]) (ns := row.zip (marksOf L row eye)) (fun p => p.2) (fun p => .int p.1) hz (chk_one hm) fun p hp => ⟨_, fun b => rfl, pts_one (pt_of (pv_var rfl) rfl rfl), fun _ => pv_var rfl⟩) ?_
    rw [app_tuple, items_fr]
    show some (Vl.d (.tup _)) = some (Vl.d (.tup (List.map D.int (List.map (fun p : Int × Bool => p.1) _))))
    rw [List.map_map]
    rfl
  refine ok_ret (ok_call (es_pv (pv_var rfl) (es_pv hpart (es_nil (Ok.ok ?_)))))
  refine Ok.mono (ok_leastf (n := n) w pr (by omega)) fun r ⟨f, er, lf⟩ => ?_
  subst er
  rw [leave_pure (pure_ints _), take_self]
  refine ⟨_, rfl, f, ?_, lf⟩
  show leave S.length (.d (lotD f)) S1 = _
  rw [leave_pure (pure_ints _), ht]
end
end K24
set_option linter.all false
set_option autoImplicit false
set_option maxRecDepth 100000
namespace K24
open Pv
/-! ### lists of lists in the store -/
structure Nst {α : Type} (en : α → D) (b : Nat) (ex : List Nat) (S : Sto) (sp : Nat) (locs : List Nat) (F : List (List α)) : Prop where
  at_ : S[sp]? = some (O.lst (locs.map D.loc))
  it : ∀ (k l : Nat), locs[k]? = some l → ∃ f : List α, F[k]? = some f ∧ S[l]? = some (O.lst (f.map en))
  len : locs.length = F.length
  nd : locs.Nodup
  ns : sp ∉ locs
  ge : b ≤ sp ∧ ∀ l ∈ locs, b ≤ l
  exs : sp ∉ ex ∧ ∀ l ∈ locs, l ∉ ex
/-- what is kept: what lies below b, and some others -/
structure Kp (b : Nat) (ex : List Nat) (S S' : Sto) : Prop where
  len : S.length ≤ S'.length
  at_ : ∀ q, q < S.length → (q < b ∨ q ∈ ex) → S'[q]? = S[q]?
theorem Kp.refl {b : Nat} {ex : List Nat} {S : Sto} : Kp b ex S S := ⟨Nat.le_refl _, fun _ _ _ => rfl⟩
theorem Kp.trans {b : Nat} {ex : List Nat} {S S1 S2 : Sto} (h : Kp b ex S S1) (h2 : Kp b ex S1 S2) : Kp b ex S S2 := ⟨Nat.le_trans h.len h2.len, fun q h1 h3 => (h2.at_ q (Nat.lt_of_lt_of_le h1 h.len) h3).trans (h.at_ q h1 h3)⟩
theorem Kp.push {b : Nat} {ex : List Nat} {S : Sto} (T : Sto) : Kp b ex S (S ++ T) := ⟨by simp, fun q h _ => List.getElem?_append_left h⟩
theorem Kp.set {b : Nat} {ex : List Nat} {S : Sto} {q : Nat} {o : O} (h : b ≤ q) (h2 : q ∉ ex) : Kp b ex S (S.set q o) := ⟨by simp, fun r _ hr => by
  rw [List.getElem?_set_ne]
  rintro rfl
  rcases hr with hr | hr
  · omega
  · exact h2 hr⟩
theorem Kp.take {b : Nat} {ex : List Nat} {S S' S0 : Sto} (h : Kp b ex S S') (hb : b = S0.length) (h0 : S.take b = S0) : S'.take b = S0 := by
  have hl : b ≤ S.length := by
    have := congrArg List.length h0
    rw [List.length_take] at this
    omega
  rw [← h0]
  apply List.ext_getElem?
  intro q
  rw [List.getElem?_take, List.getElem?_take]
  split
  · exact h.at_ q (by omega) (.inl ‹_›)
  · rfl
theorem Nst.set_ex {b : Nat} {ex : List Nat} {S : Sto} {sp : Nat} {locs : List Nat} {α : Type} {en : α → D} {F : List (List α)} (h : Nst en b ex S sp locs F) {q : Nat} {o : O} (hq : q ∈ ex) : Nst en b ex (S.set q o) sp locs F := ⟨set_ne h.at_ (by rintro rfl; exact h.exs.1 hq), fun k l hl => by
  obtain ⟨f, h1, h2⟩ := h.it k l hl
  exact ⟨f, h1, set_ne h2 (by rintro rfl; exact h.exs.2 q (nth_mem hl) hq)⟩, h.len, h.nd, h.ns, h.ge, h.exs⟩
theorem Nst.push {b : Nat} {ex : List Nat} {S : Sto} {sp : Nat} {locs : List Nat} {α : Type} {en : α → D} {F : List (List α)} (h : Nst en b ex S sp locs F) (T : Sto) : Nst en b ex (S ++ T) sp locs F := ⟨push_lt h.at_, fun k l hl => by
  obtain ⟨f, h1, h2⟩ := h.it k l hl
  exact ⟨f, h1, push_lt h2⟩, h.len, h.nd, h.ns, h.ge, h.exs⟩
theorem Nst.fr {b : Nat} {ex : List Nat} {S S' : Sto} {sp l : Nat} {locs : List Nat} {α : Type} {en : α → D} {F : List (List α)} (h : Nst en b ex S sp locs F) (fr : Fr l S S') (hl : l ∈ ex) : Nst en b ex S' sp locs F := ⟨fr.at h.at_ (by rintro rfl; exact h.exs.1 hl), fun k q hq => by
  obtain ⟨f, h1, h2⟩ := h.it k q hq
  exact ⟨f, h1, fr.at h2 (by rintro rfl; exact h.exs.2 q (nth_mem hq) hl)⟩, h.len, h.nd, h.ns, h.ge, h.exs⟩
theorem Nst.new {b : Nat} {ex : List Nat} {S : Sto} {sp : Nat} {locs : List Nat} {α : Type} {en : α → D} {F : List (List α)} (h : Nst en b ex S sp locs F) (hx : ∀ q ∈ ex, q < S.length) (hb : b ≤ S.length) (f : List α) : Nst en b ex ((S ++ [O.lst (f.map en)]).set sp (.lst (locs.map .loc ++ [.loc S.length]))) sp (locs ++ [S.length]) (F ++ [f]) := by
  have hs := at_lt h.at_
  have hl : ∀ l ∈ locs, l < S.length := fun l hl => by
    obtain ⟨k, hk⟩ := List.getElem?_of_mem hl
    obtain ⟨f, _, h2⟩ := h.it k l hk
    exact at_lt h2
  refine ⟨?_, ?_, by simp [h.len], ?_, ?_, ⟨h.ge.1, ?_⟩, ⟨h.exs.1, ?_⟩⟩
  · rw [set_at (push_lt h.at_), List.map_append]
    rfl
  · intro k l hk
    rw [List.getElem?_append] at hk
    split at hk
    · obtain ⟨f, h1, h2⟩ := h.it k l hk
      refine ⟨f, ?_, set_ne (push_lt h2) (by rintro rfl; exact h.ns (nth_mem hk))⟩
      rw [List.getElem?_append_left (by rw [← h.len]; assumption)]
      exact h1
    · have hk2 : k = locs.length := by
        have := (List.getElem?_eq_some_iff.mp hk).1
        simp at this
        omega
      subst hk2
      simp at hk
      subst hk
      refine ⟨f, by rw [h.len]; simp, set_ne push_at (by omega)⟩
  · rw [List.nodup_append]
    refine ⟨h.nd, by simp, ?_⟩
    intro a ha c hc
    rw [List.mem_singleton.mp hc]
    have := hl a ha
    omega
  · intro hm
    rcases List.mem_append.mp hm with hm | hm
    · exact h.ns hm
    · rw [List.mem_singleton.mp hm] at hs
      omega
  · intro l hm
    rcases List.mem_append.mp hm with hm | hm
    · exact h.ge.2 l hm
    · rw [List.mem_singleton.mp hm]; exact hb
  · intro l hm he
    rcases List.mem_append.mp hm with hm | hm
    · exact h.exs.2 l hm he
    · rw [List.mem_singleton.mp hm] at he
      have := hx _ he
      omega
theorem Nst.add {b : Nat} {ex : List Nat} {S : Sto} {sp k l : Nat} {locs : List Nat} {α : Type} {en : α → D} {F : List (List α)} {f : List α} (h : Nst en b ex S sp locs F) (hl : locs[k]? = some l) (hf : F[k]? = some f) (x : α) : Nst en b ex (S.set l (.lst (f.map en ++ [en x]))) sp locs (F.modify k (· ++ [x])) := by
  have hns : l ≠ sp := by rintro rfl; exact h.ns (nth_mem hl)
  refine ⟨set_ne h.at_ hns, ?_, by simp [h.len], h.nd, h.ns, h.ge, h.exs⟩
  intro j q hq
  obtain ⟨f2, h1, h2⟩ := h.it j q hq
  rw [List.getElem?_modify]
  by_cases e : k = j
  · subst e
    rw [hl] at hq
    cases hq
    rw [hf] at h1
    cases h1
    refine ⟨f ++ [x], ?_, ?_⟩
    · rw [hf]
      simp
    · rw [set_at h2, List.map_append]
      rfl
  · refine ⟨f2, ?_, set_ne h2 ?_⟩
    · rw [h1]
      simp [e]
    · rintro rfl
      have nd := List.pairwise_iff_getElem.mp (List.nodup_iff_pairwise_ne.mp h.nd)
      obtain ⟨a1, a2⟩ := List.getElem?_eq_some_iff.mp hl
      obtain ⟨b1, b2⟩ := List.getElem?_eq_some_iff.mp hq
      rcases Nat.lt_or_gt_of_ne e with g | g
      · exact nd _ _ a1 b1 g (a2.trans b2.symm)
      · exact nd _ _ b1 a1 g (b2.trans a2.symm)
theorem Nst.keep {b : Nat} {ex : List Nat} {S S' : Sto} {sp : Nat} {locs : List Nat} {α : Type} {en : α → D} {F : List (List α)} (h : Nst en b ex S sp locs F) (k : ∀ q, q = sp ∨ q ∈ locs → S'[q]? = S[q]?) : Nst en b ex S' sp locs F := ⟨(k _ (.inl rfl)).trans h.at_, fun j l hl => by
  obtain ⟨f, h1, h2⟩ := h.it j l hl
  exact ⟨f, h1, (k _ (.inr (nth_mem hl))).trans h2⟩, h.len, h.nd, h.ns, h.ge, h.exs⟩
theorem Nst.lt {b : Nat} {ex : List Nat} {S : Sto} {sp : Nat} {locs : List Nat} {α : Type} {en : α → D} {F : List (List α)} (h : Nst en b ex S sp locs F) {q : Nat} (hq : q = sp ∨ q ∈ locs) : q < S.length := by
  rcases hq with rfl | hq
  · exact at_lt h.at_
  · obtain ⟨k, hk⟩ := List.getElem?_of_mem hq
    obtain ⟨f, _, h2⟩ := h.it k q hk
    exact at_lt h2
theorem Nst.take {b : Nat} {ex : List Nat} {S S' : Sto} {sp : Nat} {locs : List Nat} {α : Type} {en : α → D} {F : List (List α)} (h : Nst en b ex S sp locs F) (k : S'.take S.length = S) : Nst en b ex S' sp locs F := h.keep fun q hq => by
  have := h.lt hq
  conv => rhs; rw [← k]
  rw [List.getElem?_take, if_pos this]
theorem kp_take {S S' : Sto} {ex : List Nat} (h : Kp S.length ex S S') : S'.take S.length = S := h.take rfl (take_self S)
theorem ub_loc {n : Nat} : ∀ {locs : List Nat}, locs ≠ [] → (∀ l ∈ locs, n ≤ l) → ubL n (locs.map .loc) = false
  | [], h, _ => absurd rfl h
  | l :: ls, _, h => by
    show (decide (l < n) && _) = false
    rw [decide_eq_false (by have := h l (by simp); omega)]
    rfl
/-- a list of lists, the def's own, told -/
theorem leave_deep {n np : Nat} {S : Sto} {locs : List Nat} (h : S[np]? = some (.lst (locs.map .loc))) (hl : n ≤ np) (hg : ∀ l ∈ locs, n ≤ l) (h0 : locs ≠ []) : leave n (.d (.loc np)) S = (.d (.loc np), S) := by
  show (if np < n then (Vl.d (.loc np), S.take n) else match S[np]? with
    | some (.lst xs) => if ubL n xs = true then (.fr xs, S.take n) else (.d (.loc np), S)
    | _ => (.d (.loc np), S)) = _
  rw [if_neg (by omega), h]
  dsimp only
  rw [if_neg (by rw [ub_loc h0 hg]; simp)]

/-! ### the law's own marks -/
def hrd (h : Int) (ks : List Int) : List D := (rngI h.toNat).map fun g => .bl (inn g ks)
theorem rngI_len (n : Nat) : (rngI n).length = n := by simp [rngI]
theorem rngI_at {n : Nat} {j : Nat} (h : j < n) : (rngI n)[j]? = some (j : Int) := by
  unfold rngI
  rw [List.getElem?_map, List.getElem?_range h]
  rfl
theorem hrd_at {h g : Int} {ks : List Int} (g0 : 0 ≤ g) (g1 : g < h) : atI (hrd h ks) g = some (.bl (inn g ks)) := by
  obtain ⟨j, rfl⟩ := Int.eq_ofNat_of_zero_le g0
  unfold hrd
  exact atI_nat (by rw [List.getElem?_map, rngI_at (by omega)]; rfl)
theorem hrd_len {h : Int} {ks : List Int} : (hrd h ks).length = h.toNat := by
  unfold hrd
  rw [List.length_map, rngI_len]
theorem hrd_set {h g : Int} {ks : List Int} (g0 : 0 ≤ g) (g1 : g < h) : (hrd h ks).set g.toNat (.bl true) = hrd h (addK ks g) := by
  unfold hrd
  apply List.ext_getElem?
  intro j
  rw [List.getElem?_set, List.getElem?_map, List.getElem?_map, List.length_map, rngI_len]
  by_cases e : g.toNat = j
  · subst e
    have hj : g.toNat < h.toNat := by omega
    rw [if_pos rfl, if_pos hj, rngI_at hj]
    have : inn ((g.toNat : Nat) : Int) (addK ks g) = true := inn_mem.mpr (add_mem.mpr (.inr (by omega)))
    show some (D.bl true) = some (D.bl (inn ((g.toNat : Nat) : Int) (addK ks g)))
    rw [this]
  · rw [if_neg e]
    by_cases hj : j < h.toNat
    · rw [rngI_at hj]
      have : inn ((j : Nat) : Int) (addK ks g) = inn ((j : Nat) : Int) ks := by
        rw [Bool.eq_iff_iff, inn_mem, inn_mem, add_mem]
        exact ⟨fun h => h.resolve_right (by omega), .inl⟩
      simp [this]
    · rw [List.getElem?_eq_none (by rw [rngI_len]; omega)]
      rfl
section
variable {n b : Nat} {S : Sto} {h : Int} {L : List (List Int)}
theorem ok_mk1 {d : Nat} {g : Int} {ks : List Int} {k : Bool} {x1 x2 x4 x5 o7 : Option D} {wD : D} (hd : S[d]? = some (.lst (hrd h ks))) (g0 : 0 ≤ g) (g1 : g < h) : Ok (evTg (callN T n) (.var 7) b (.int g) [some wD, x1, x2, some (.loc d), x4, x5, some (.bl k), o7] S >>= fun r => evSs (callN T n) b__law_marks_1 b r.1 r.2) fun r => r = (.nx, [some wD, x1, x2, some (.loc d), x4, x5, some (.bl (k || inn g ks)), some (.int g)], S) := by
  refine Ok.bind (Ok.ok ?_)
  dsimp only [b__law_marks_1, List.set]
  refine st_if (k := inn g ks) (pt_of (pv_idxL (pv_var rfl) hd (pv_var rfl) (hrd_at g0 g1)) rfl rfl) (fun hc => ?_) (fun hc => ?_)
  · refine st_asg (pv_cn _) (ok_nil (Then.nx (ok_nil ?_)))
    rw [hc, Bool.or_true]
    rfl
  · refine ok_nil ?_
    rw [hc, Bool.or_false]
theorem ok_mk2 {d : Nat} {g : Int} {ks : List Int} {x1 x2 x4 x5 x6 o7 : Option D} {wD : D} (hd : S[d]? = some (.lst (hrd h ks))) (hbd : b ≤ d) (g0 : 0 ≤ g) (g1 : g < h) : Ok (evTg (callN T n) (.var 7) b (.int g) [some wD, x1, x2, some (.loc d), x4, x5, x6, o7] S >>= fun r => evSs (callN T n) b__law_marks_2 b r.1 r.2) fun r => r = (.nx, [some wD, x1, x2, some (.loc d), x4, x5, x6, some (.int g)], S.set d (.lst (hrd h (addK ks g)))) := by
  refine Ok.bind (Ok.ok ?_)
  dsimp only [b__law_marks_2, List.set]
  refine st_asgG (pv_cn _) (tg_sub (pv_var rfl) (pv_var rfl) (setI_at hd g0 (by rw [hrd_len]; omega) (.inr hbd))) (ok_nil ?_)
  rw [hrd_set g0 g1]
theorem ok_mk3 {d m : Nat} {y : Int} {ks eye : List Int} {ms : List Bool} {o5 o6 o7 : Option D} {rowD : D} (w : Web h L) (hd : S[d]? = some (.lst (hrd h ks))) (hm : S[m]? = some (.lst (ms.map .bl))) (hdm : d ≠ m) (hbd : b ≤ d) (y0 : 0 ≤ y) (y1 : y < L.length) (hml : ms.length < 1000) :
    Ok (evTg (callN T n) (.var 5) b (.int y) [some (webD h L), some rowD, some (lotD eye), some (.loc d), some (.loc m), o5, o6, o7] S >>= fun r => evSs (callN T n) b__law_marks_3 b r.1 r.2) fun r => ∃ o5 o6 o7, r = (.nx, [some (webD h L), some rowD, some (lotD eye), some (.loc d), some (.loc m), o5, o6, o7], (S.set d (.lst (hrd h (mk L eye (ks, ms) y).1))).set m (.lst ((mk L eye (ks, ms) y).2.map .bl))) := by
  obtain ⟨lo0, lond, lor⟩ := w.ok _ (lot_mem y0 y1)
  refine Ok.bind (Ok.ok ?_)
  dsimp only [b__law_marks_3, List.set]
  refine st_asg (v := .bl (inn y eye)) (pv_cmp (pv_var rfl) (pv_var rfl) (in_cmp _ _ _)) ?_
  dsimp only [List.set]
  have hsd : S.set d (.lst (hrd h ks)) = S := by
    obtain ⟨_, e⟩ := List.getElem?_eq_some_iff.mp hd
    rw [← e]
    simp
  refine st_for (pi_e (pv_idx (pv_lots rfl) (pv_var rfl) rfl (lot_at y0 y1)) rfl rfl) ?_
  refine ok_cnt (fun j e S' => ∃ o7, e = [some (webD h L), some rowD, some (lotD eye), some (.loc d), some (.loc m), some (.int y), some (.bl (inn y eye || share ((lot L y).take j) ks)), o7] ∧ S = S') (fun _ _ _ _ => chk_nil _) ?_ ?_ ⟨o7, by simp [share], rfl⟩
  · rintro j z e S' hz ⟨o7, rfl, rfl⟩
    rw [List.getElem?_map] at hz
    obtain ⟨g, hg, rfl⟩ := Option.map_eq_some_iff.mp hz
    have hgr := lor g (nth_mem hg)
    refine Ok.mono (ok_mk1 (n := n) hd hgr.1 hgr.2) fun r er => ?_
    subst er
    refine ⟨some (.int g), ?_, rfl⟩
    rw [take_succ' hg, Bool.or_assoc]
    have : (share ((lot L y).take j) ks || inn g ks) = share ((lot L y).take j ++ [g]) ks := by
      unfold share
      rw [List.any_append]
      simp [inn]
    rw [this]
  · rintro e S' ⟨o7, rfl, rfl⟩
    rw [List.length_map, List.take_length]
    refine Then.nx ?_
    have fin : ∀ (S1 : Sto) (o7 : Option D), S1 = S.set d (.lst (hrd h (mk L eye (ks, ms) y).1)) → Ok (evSs (callN T n) (.cons (.expr (.m1 .append (.var 4) (.var 6))) .nil) b [some (webD h L), some rowD, some (lotD eye), some (.loc d), some (.loc m), some (.int y), some (.bl (inn y eye || share (lot L y) ks)), o7] S1) fun r => ∃ o5 o6 o7, r = (.nx, [some (webD h L), some rowD, some (lotD eye), some (.loc d), some (.loc m), o5, o6, o7], (S.set d (.lst (hrd h (mk L eye (ks, ms) y).1))).set m (.lst ((mk L eye (ks, ms) y).2.map .bl))) := by
      rintro S1 o7 rfl
      refine st_app (v := .bl (inn y eye || share (lot L y) ks)) (pv_var rfl) (set_ne hm hdm) (by simp; omega) (pv_var rfl) (.inl rfl) (ok_nil ⟨some (.int y), some (.bl (inn y eye || share (lot L y) ks)), o7, ?_⟩)
      rw [show (mk L eye (ks, ms) y).2.map D.bl = ms.map D.bl ++ [.bl (inn y eye || share (lot L y) ks)] by unfold mk; rw [List.map_append]; rfl]
    refine st_if (k := inn y eye || share (lot L y) ks) (pt_of (pv_var rfl) rfl rfl) (fun hc => ?_) (fun hc => ?_)
    · refine st_for (pi_e (pv_idx (pv_lots rfl) (pv_var rfl) rfl (lot_at y0 y1)) rfl rfl) ?_
      refine ok_cnt (fun j e S' => ∃ o7, e = [some (webD h L), some rowD, some (lotD eye), some (.loc d), some (.loc m), some (.int y), some (.bl (inn y eye || share (lot L y) ks)), o7] ∧ S' = S.set d (.lst (hrd h (((lot L y).take j).foldl addK ks)))) (fun _ _ _ _ => chk_nil _) ?_ ?_ ⟨_, rfl, hsd.symm⟩
      · rintro j z e S' hz ⟨o7, rfl, rfl⟩
        rw [List.getElem?_map] at hz
        obtain ⟨g, hg, rfl⟩ := Option.map_eq_some_iff.mp hz
        have hgr := lor g (nth_mem hg)
        refine Ok.mono (ok_mk2 (n := n) (set_at hd) hbd hgr.1 hgr.2) fun r er => ?_
        subst er
        refine ⟨_, rfl, ?_⟩
        rw [take_succ' hg, List.foldl_append, List.set_set]
        rfl
      · rintro e S' ⟨o7, rfl, rfl⟩
        rw [List.length_map, List.take_length]
        refine Then.nx (ok_nil (Then.nx (fin _ o7 ?_)))
        unfold mk
        dsimp only
        rw [if_pos hc]
    · refine fin S _ ?_
      unfold mk
      dsimp only
      rw [if_neg (by rw [hc]; simp), hsd]
theorem ok_marks {row eye : List Int} (w : Web h L) (hr : Rng L row) (hl : row.length < 900) : Ok (callN T (n + 1) 18 [webD h L, lotD row, lotD eye] S) fun r => r = (.fr ((marksOf L row eye).map .bl), S) := by
  have h0 := w.h0
  have h4 := w.h4
  refine ok_fn (d := ⟨"_law_marks", 3, 8, b__law_marks⟩) rfl rfl ?_
  dsimp only [b__law_marks]
  rw [show env0 8 [webD h L, lotD row, lotD eye] = [some (webD h L), some (lotD row), some (lotD eye), none, none, none, none, none] from rfl]
  refine st_asgF (xs := hrd h []) ?_ ?_
  · refine pv_bin (v := .fr [.bl false]) (pv_lst (pes_cons (pv_cn _) pes_nil) (by simp)) (pv_hands rfl) ?_
    rw [binV_repf, if_pos ⟨by simp, by omega, by omega⟩]
    have : h = 1 ∨ h = 2 ∨ h = 3 ∨ h = 4 := by omega
    rcases this with rfl | rfl | rfl | rfl <;> rfl
  dsimp only [List.set]
  refine st_asgF (xs := []) (pv_lst pes_nil (by simp)) ?_
  dsimp only [List.set]
  have hd0 : ((S ++ [O.lst (hrd h [])]) ++ [O.lst []])[S.length]? = some (.lst (hrd h (mks L eye (row.reverse.take 0)).1)) := push_lt push_at
  have hm0 : ((S ++ [O.lst (hrd h [])]) ++ [O.lst []])[(S ++ [O.lst (hrd h [])]).length]? = some (.lst ((mks L eye (row.reverse.take 0)).2.map .bl)) := push_at
  have ht0 : ((S ++ [O.lst (hrd h [])]) ++ [O.lst []]).take S.length = S := take_push (take_push (take_self _))
  have hq : S.length < (S ++ [O.lst (hrd h [])]).length := by simp
  generalize (S ++ [O.lst (hrd h [])]) ++ [O.lst []] = S0 at *
  generalize (S ++ [O.lst (hrd h [])]).length = m at *
  refine st_for (pi_rev (pv_var rfl) rfl rfl) ?_
  rw [← List.map_reverse]
  refine ok_cnt (fun k e S' => ∃ o5 o6 o7, e = [some (webD h L), some (lotD row), some (lotD eye), some (.loc S.length), some (.loc m), o5, o6, o7] ∧ S'[S.length]? = some (.lst (hrd h (mks L eye (row.reverse.take k)).1)) ∧ S'[m]? = some (.lst ((mks L eye (row.reverse.take k)).2.map .bl)) ∧ S'.take S.length = S) (fun _ _ _ _ => chk_nil _) ?_ ?_ ⟨_, _, _, rfl, hd0, hm0, ht0⟩
  · rintro k z e S' hz ⟨o5, o6, o7, rfl, hd, hm, ht⟩
    rw [List.getElem?_map] at hz
    obtain ⟨y, hy, rfl⟩ := Option.map_eq_some_iff.mp hz
    have hyr := hr.rev y (nth_mem hy)
    obtain ⟨a1, a2, a3⟩ := mks_ok (eye := eye) w (row.reverse.take k) ([], []) (hr.rev.take k) (by simp) (by simp)
    have hlen : (row.reverse.take k).length ≤ row.length := by rw [List.length_take, List.length_reverse]; exact Nat.min_le_right _ _
    refine Ok.mono (ok_mk3 (n := n) (eye := eye) w hd hm (by omega) (Nat.le_refl _) hyr.1 hyr.2 (by show (mks L eye (row.reverse.take k)).2.length < 1000; unfold mks; rw [a3]; simp; omega)) fun r ⟨o5, o6, o7, er⟩ => ?_
    subst er
    refine ⟨o5, o6, o7, rfl, ?_, ?_, take_setG (take_setG ht (Nat.le_refl _)) (by omega)⟩
    · rw [take_succ' hy, mks_snoc]
      exact set_ne (set_at hd) (by omega)
    · rw [take_succ' hy, mks_snoc]
      exact set_at (set_ne hm (by omega))
  · rintro e S' ⟨o5, o6, o7, rfl, hd, hm, ht⟩
    rw [List.length_map, List.take_length] at hm
    refine Then.nx ?_
    have e1 : (evE (callN T n) (.m0 .reverse (.var 4))).v S.length [some (webD h L), some (lotD row), some (lotD eye), some (.loc S.length), some (.loc m), o5, o6, o7] S' = .ok (.d .non, S'.set m (.lst ((mks L eye row.reverse).2.map D.bl).reverse)) := by
      rw [v_m0]
      exact meth_rev hm
    refine ok_expr (Ok.eq e1 (st_ret (pv_var rfl) ⟨_, rfl, ?_⟩))
    have hm2 := set_at (o2 := O.lst ((mks L eye row.reverse).2.map D.bl).reverse) hm
    show leave S.length (.d (.loc m)) (S'.set m (.lst ((mks L eye row.reverse).2.map D.bl).reverse)) = _
    rw [leave_own hm2 (by omega) (fun y hy => by
      rw [← List.map_reverse] at hy
      obtain ⟨z, _, rfl⟩ := List.mem_map.mp hy
      rfl), take_setG ht (by omega), ← List.map_reverse]
    rfl
/-! the law's lanes -/
def lanesOf (L : List (List Int)) (h : Int) (l : List Int) : List (List Int) := (rngI h.toNat).map fun g => hd L g l
theorem lanes_at {h g : Int} {l : List Int} (g0 : 0 ≤ g) (g1 : g < h) : (lanesOf L h l)[g.toNat]? = some (hd L g l) := by
  obtain ⟨j, rfl⟩ := Int.eq_ofNat_of_zero_le g0
  unfold lanesOf
  rw [List.getElem?_map, show ((j : Nat) : Int).toNat = j by omega, rngI_at (by omega)]
  rfl
/-- the lanes, the letter put into some of its hands' -/
def lanesJ (L : List (List Int)) (h : Int) (l : List Int) (x : Int) (lo : List Int) : List (List Int) := (rngI h.toNat).map fun g => hd L g l ++ (if inn g lo then [x] else [])
theorem lanesJ_nil {h x : Int} {l : List Int} : lanesJ L h l x [] = lanesOf L h l := by
  unfold lanesJ lanesOf
  apply List.map_congr_left
  intro g _
  exact List.append_nil _
theorem lanesJ_all {h x : Int} {l : List Int} : lanesJ L h l x (lot L x) = lanesOf L h (l ++ [x]) := by
  unfold lanesJ lanesOf
  apply List.map_congr_left
  intro g _
  rw [hd_append]
  congr 1
  unfold hd
  rw [List.filter_cons, List.filter_nil]
theorem lanesJ_put {h x g : Int} {l lo : List Int} (g0 : 0 ≤ g) (g1 : g < h) (hg : g ∉ lo) : (lanesJ L h l x lo).modify g.toNat (· ++ [x]) = lanesJ L h l x (lo ++ [g]) := by
  obtain ⟨j, rfl⟩ := Int.eq_ofNat_of_zero_le g0
  rw [show ((j : Nat) : Int).toNat = j by omega]
  unfold lanesJ
  apply List.ext_getElem?
  intro i
  rw [List.getElem?_modify, List.getElem?_map, List.getElem?_map]
  by_cases hi : i < h.toNat
  · rw [rngI_at hi]
    by_cases e : j = i
    · subst e
      have a : inn ((j : Nat) : Int) lo = false := by
        rw [Bool.eq_false_iff]
        exact fun h => hg (inn_mem.mp h)
      have b : inn ((j : Nat) : Int) (lo ++ [((j : Nat) : Int)]) = true := inn_mem.mpr (by simp)
      simp [a, b]
    · have : inn ((i : Nat) : Int) (lo ++ [((j : Nat) : Int)]) = inn ((i : Nat) : Int) lo := by
        rw [Bool.eq_iff_iff, inn_mem, inn_mem]
        simp
        intro e2
        omega
      simp [e, this]
  · rw [List.getElem?_eq_none (by rw [rngI_len]; omega)]
    rfl
end
end K24
set_option linter.all false
set_option autoImplicit false
set_option maxRecDepth 100000
namespace K24
open Pv
section
variable {n b : Nat} {S : Sto} {h : Int} {L : List (List Int)}
theorem loc_at {locs : List Nat} {g : Int} {q : Nat} (g0 : 0 ≤ g) (hq : locs[g.toNat]? = some q) : atI (locs.map .loc) g = some (.loc q) := by
  obtain ⟨j, rfl⟩ := Int.eq_ofNat_of_zero_le g0
  exact atI_nat (by rw [List.getElem?_map, show locs[j]? = some q from hq]; rfl)
theorem lanesOf_len {l : List Int} : (lanesOf L h l).length = h.toNat := by
  unfold lanesOf
  rw [List.length_map, rngI_len]
theorem Nst.loc {c : Nat} {sp : Nat} {locs : List Nat} {F : List (List Int)} (st : Nst D.int c [] S sp locs F) {g : Int} {f : List Int} (hf : F[g.toNat]? = some f) : ∃ q, locs[g.toNat]? = some q ∧ S[q]? = some (.lst (f.map .int)) := by
  have hk := (List.getElem?_eq_some_iff.mp hf).1
  rw [← st.len] at hk
  obtain ⟨f2, h1, h2⟩ := st.it _ _ (nth_of hk)
  rw [hf] at h1
  cases h1
  exact ⟨_, nth_of hk, h2⟩
theorem ok_ln1 {sp : Nat} {locs : List Nat} {x g : Int} {l lo : List Int} {o3 : Option D} {rowD : D} (st : Nst D.int b [] S sp locs (lanesJ L h l x lo)) (g0 : 0 ≤ g) (g1 : g < h) (hg : g ∉ lo) (hll : l.length < 900) :
    Ok (evTg (callN T n) (.var 3) b (.int g) [some (webD h L), some rowD, some (.loc sp), o3, some (.int x)] S >>= fun r => evSs (callN T n) b__law_lanes_1 b r.1 r.2) fun r => ∃ S1, r = (.nx, [some (webD h L), some rowD, some (.loc sp), some (.int g), some (.int x)], S1) ∧ Nst D.int b [] S1 sp locs (lanesJ L h l x (lo ++ [g])) ∧ Kp b [] S S1 := by
  refine Ok.bind (Ok.ok ?_)
  dsimp only [b__law_lanes_1, List.set]
  have hF : (lanesJ L h l x lo)[g.toNat]? = some (hd L g l ++ (if inn g lo then [x] else [])) := by
    obtain ⟨j, rfl⟩ := Int.eq_ofNat_of_zero_le g0
    unfold lanesJ
    rw [List.getElem?_map, show ((j : Nat) : Int).toNat = j by omega, rngI_at (by omega)]
    rfl
  obtain ⟨q, h1, h2⟩ := Nst.loc st hF
  have hlen : (hd L g l ++ (if inn g lo then [x] else [])).length < 1000 := by
    have : (hd L g l).length ≤ l.length := List.length_filter_le _ _
    rw [List.length_append]
    split <;> simp <;> omega
  refine st_app (v := .int x) (pv_idxL (pv_var rfl) st.at_ (pv_var rfl) (loc_at g0 h1)) h2 (by rw [List.length_map]; omega) (pv_var rfl) (.inl rfl) (ok_nil ⟨_, rfl, ?_, Kp.set (st.ge.2 q (nth_mem h1)) (by simp)⟩)
  rw [← lanesJ_put g0 g1 hg]
  exact st.add h1 hF x
theorem ok_ln2 {sp : Nat} {locs : List Nat} {x : Int} {l : List Int} {o3 o4 : Option D} {rowD : D} (w : Web h L) (st : Nst D.int b [] S sp locs (lanesOf L h l)) (x0 : 0 ≤ x) (x1 : x < L.length) (hll : l.length < 900) :
    Ok (evTg (callN T n) (.var 4) b (.int x) [some (webD h L), some rowD, some (.loc sp), o3, o4] S >>= fun r => evSs (callN T n) b__law_lanes_2 b r.1 r.2) fun r => ∃ o3 S1, r = (.nx, [some (webD h L), some rowD, some (.loc sp), o3, some (.int x)], S1) ∧ Nst D.int b [] S1 sp locs (lanesOf L h (l ++ [x])) ∧ Kp b [] S S1 := by
  obtain ⟨lo0, lond, lor⟩ := w.ok _ (lot_mem x0 x1)
  refine Ok.bind (Ok.ok ?_)
  dsimp only [b__law_lanes_2, List.set]
  refine st_for (pi_e (pv_idx (pv_lots rfl) (pv_var rfl) rfl (lot_at x0 x1)) rfl rfl) ?_
  refine ok_cnt (fun j e S' => ∃ o3, e = [some (webD h L), some rowD, some (.loc sp), o3, some (.int x)] ∧ Nst D.int b [] S' sp locs (lanesJ L h l x ((lot L x).take j)) ∧ Kp b [] S S') (fun _ _ _ _ => chk_nil _) ?_ ?_ ⟨_, rfl, by rw [List.take_zero, lanesJ_nil]; exact st, Kp.refl⟩
  · rintro j z e S' hz ⟨o3, rfl, st', kp⟩
    rw [List.getElem?_map] at hz
    obtain ⟨g, hg, rfl⟩ := Option.map_eq_some_iff.mp hz
    have hgr := lor g (nth_mem hg)
    refine Ok.mono (ok_ln1 (n := n) st' hgr.1 hgr.2 (nodup_take lond hg) hll) fun r ⟨S1, er, h1, h2⟩ => ?_
    subst er
    refine ⟨_, rfl, ?_, kp.trans h2⟩
    rw [take_succ' hg]
    exact h1
  · rintro e S' ⟨o3, rfl, st', kp⟩
    rw [List.length_map, List.take_length, lanesJ_all] at st'
    exact Then.nx (ok_nil ⟨_, S', rfl, st', kp⟩)
theorem ok_lanes {row : List Int} (w : Web h L) (hr : Rng L row) (hl : row.length < 900) : Ok (callN T (n + 1) 19 [webD h L, lotD row] S) fun r => ∃ sp locs, r.1 = .d (.loc sp) ∧ Nst D.int S.length [] r.2 sp locs (lanesOf L h row) ∧ Kp S.length [] S r.2 := by
  have h0 := w.h0
  have h4 := w.h4
  refine ok_fn (d := ⟨"_law_lanes", 2, 5, b__law_lanes⟩) rfl rfl ?_
  dsimp only [b__law_lanes]
  rw [show env0 5 [webD h L, lotD row] = [some (webD h L), some (lotD row), none, none, none] from rfl]
  refine ok_asg (ok_comp (Ok.eq (pi_rng0 (pv_hands rfl) (by omega) (by omega) _) ?_))
  refine ok_ccnt (fun k ys S' => ys = (List.range k).map (fun i => D.loc (S.length + i)) ∧ S' = S ++ List.replicate k (.lst [])) (fun _ _ _ _ => chk_nil _) ?_ ?_ ⟨rfl, by simp⟩
  · rintro k x ys S' hx ⟨rfl, rfl⟩
    refine Ok.bind (Ok.ok (Ok.bind (Ok.ok (Ok.bind (Ok.bind (ev_pv (pv_lst pes_nil (by simp)) (Ok.ok (Ok.ok ⟨?_, ?_⟩))))))))
    · rw [List.range_succ, List.map_append]
      simp [settle]
    · show (S ++ List.replicate k (O.lst [])) ++ [O.lst []] = _
      rw [List.replicate_succ', List.append_assoc]
  · rintro ys S' ⟨rfl, rfl⟩
    dsimp only [settle, List.set]
    rw [rngD_len, show (h - 0).toNat = h.toNat by omega]
    have st0 : Nst D.int S.length [] ((S ++ List.replicate h.toNat (O.lst [])) ++ [O.lst ((List.range h.toNat).map fun i => D.loc (S.length + i))]) (S ++ List.replicate h.toNat (O.lst [])).length ((List.range h.toNat).map fun i => S.length + i) (lanesOf L h []) := by
      refine ⟨?_, ?_, ?_, ?_, ?_, ⟨by simp, ?_⟩, ⟨by simp, by simp⟩⟩
      · rw [push_at, List.map_map]
        rfl
      · intro k l hk
        rw [List.getElem?_map] at hk
        obtain ⟨i, hi, rfl⟩ := Option.map_eq_some_iff.mp hk
        have hk2 : k < h.toNat ∧ i = k := by
          obtain ⟨a, c⟩ := List.getElem?_eq_some_iff.mp hi
          simp at a c
          exact ⟨by omega, c.symm⟩
        obtain ⟨hk3, rfl⟩ := hk2
        refine ⟨[], ?_, ?_⟩
        · unfold lanesOf
          rw [List.getElem?_map, rngI_at hk3]
          rfl
        · rw [List.getElem?_append_left (by simp; omega), List.getElem?_append_right (by omega), show S.length + i - S.length = i by omega, List.getElem?_replicate, if_pos hk3]
          rfl
      · rw [List.length_map, List.length_range, lanesOf_len]
      · rw [List.nodup_iff_pairwise_ne, List.pairwise_map]
        exact (List.nodup_iff_pairwise_ne.mp List.nodup_range).imp fun hne e => hne (by omega)
      · intro hm
        obtain ⟨i, hi, e⟩ := List.mem_map.mp hm
        have := List.mem_range.mp hi
        simp at e
        omega
      · intro l hm
        obtain ⟨i, hi, rfl⟩ := List.mem_map.mp hm
        omega
    have kp0 : Kp S.length [] S ((S ++ List.replicate h.toNat (O.lst [])) ++ [O.lst ((List.range h.toNat).map fun i => D.loc (S.length + i))]) := (Kp.push _).trans (Kp.push _)
    have hne : (List.range h.toNat).map (fun i => S.length + i) ≠ [] := by
      intro e
      have := congrArg List.length e
      simp at this
      omega
    generalize (S ++ List.replicate h.toNat (O.lst [])) ++ [O.lst ((List.range h.toNat).map fun i => D.loc (S.length + i))] = S0 at *
    generalize (S ++ List.replicate h.toNat (O.lst [])).length = sp at *
    generalize (List.range h.toNat).map (fun i => S.length + i) = locs at *
    refine st_for (pi_e (pv_var rfl) rfl rfl) ?_
    refine ok_cnt (fun k e S' => ∃ o3 o4, e = [some (webD h L), some (lotD row), some (.loc sp), o3, o4] ∧ Nst D.int S.length [] S' sp locs (lanesOf L h (row.take k)) ∧ Kp S.length [] S S') (fun _ _ _ _ => chk_nil _) ?_ ?_ ⟨_, _, rfl, st0, kp0⟩
    · rintro k z e S' hz ⟨o3, o4, rfl, st, kp⟩
      rw [List.getElem?_map] at hz
      obtain ⟨x, hx, rfl⟩ := Option.map_eq_some_iff.mp hz
      have hxr := hr x (nth_mem hx)
      have hlen : (row.take k).length ≤ row.length := by rw [List.length_take]; exact Nat.min_le_right _ _
      refine Ok.mono (ok_ln2 (n := n) w st hxr.1 hxr.2 (by omega)) fun r ⟨o3, S1, er, h1, h2⟩ => ?_
      subst er
      refine ⟨_, _, rfl, ?_, kp.trans h2⟩
      rw [take_succ' hx]
      exact h1
    · rintro e S' ⟨o3, o4, rfl, st, kp⟩
      rw [List.length_map, List.take_length] at st
      refine Then.nx (st_ret (pv_var rfl) ⟨_, rfl, sp, locs, ?_⟩)
      rw [leave_deep st.at_ st.ge.1 st.ge.2 hne]
      exact ⟨rfl, st, kp⟩
/-! the letter that can stand next -/
def spD (h : Int) (s : Int → Nat) : List D := (rngI h.toNat).map fun g => .int (s g : Nat)
theorem sp_get {s : Int → Nat} {g : Int} (g0 : 0 ≤ g) (g1 : g < h) : (spD h s)[g.toNat]? = some (.int (s g : Nat)) := by
  obtain ⟨j, rfl⟩ := Int.eq_ofNat_of_zero_le g0
  unfold spD
  rw [List.getElem?_map, show ((j : Nat) : Int).toNat = j by omega, rngI_at (by omega)]
  rfl
theorem sp_at {s : Int → Nat} {g : Int} (g0 : 0 ≤ g) (g1 : g < h) : atI (spD h s) g = some (.int (s g : Nat)) := by
  obtain ⟨j, rfl⟩ := Int.eq_ofNat_of_zero_le g0
  exact atI_nat (sp_get g0 g1)
/-- the lanes from the spots on are those of what is left -/
def Left (L : List (List Int)) (h : Int) (row l : List Int) (s : Int → Nat) : Prop := ∀ g, 0 ≤ g → g < h → (hd L g row).drop (s g) = hd L g l
theorem left_head {row l : List Int} {s : Int → Nat} {g x : Int} (hl : Left L h row l s) (g0 : 0 ≤ g) (g1 : g < h) : (hd L g l).head? = (hd L g row)[s g]? := by
  rw [← hl g g0 g1, List.head?_drop]
theorem ok_lf1 {lp sp : Nat} {locs : List Nat} {row l : List Int} {s : Int → Nat} {x g : Int} {k : Bool} {o5 : Option D} {c : Nat} (st : Nst D.int c [] S lp locs (lanesOf L h row)) (hs : S[sp]? = some (.lst (spD h s))) (hl : Left L h row l s) (g0 : 0 ≤ g) (g1 : g < h) :
    Ok (evTg (callN T n) (.var 5) b (.int g) [some (webD h L), some (.loc lp), some (.loc sp), some (.int x), some (.bl false), o5] S >>= fun r => evSs (callN T n) b__law_first_1 b r.1 r.2) fun r => ((hd L g l).head? = some x ∧ r = (.nx, [some (webD h L), some (.loc lp), some (.loc sp), some (.int x), some (.bl false), some (.int g)], S)) ∨ ((hd L g l).head? ≠ some x ∧ r = (.br, [some (webD h L), some (.loc lp), some (.loc sp), some (.int x), some (.bl true), some (.int g)], S)) := by
  refine Ok.bind (Ok.ok ?_)
  dsimp only [b__law_first_1, List.set]
  obtain ⟨q, h1, h2⟩ := Nst.loc st (lanes_at (L := L) (l := row) g0 g1)
  have hs1 : PV (callN T n) [some (webD h L), some (.loc lp), some (.loc sp), some (.int x), some (.bl false), some (.int g)] S (.idx (.var 2) (.var 5)) (.d (.int (s g : Nat))) := pv_idxL (pv_var rfl) hs (pv_var rfl) (sp_at g0 g1)
  have hl1 : PV (callN T n) [some (webD h L), some (.loc lp), some (.loc sp), some (.int x), some (.bl false), some (.int g)] S (.idx (.var 1) (.var 5)) (.d (.loc q)) := pv_idxL (pv_var rfl) st.at_ (pv_var rfl) (loc_at g0 h1)
  have e1 : PT (callN T n) [some (webD h L), some (.loc lp), some (.loc sp), some (.int x), some (.bl false), some (.int g)] S (.cmp .ge (.idx (.var 2) (.var 5)) (.f1 .len (.idx (.var 1) (.var 5)))) (decide ((((hd L g row).map D.int).length : Int) ≤ (s g : Nat))) := pt_of (pv_cmp hs1 (pv_lenL hl1 h2) rfl) rfl rfl
  have hh := left_head (x := x) hl g0 g1
  by_cases hc : s g < (hd L g row).length
  · have hn : (hd L g row)[s g]? = some (hd L g row)[s g] := nth_of hc
    have e2 : PT (callN T n) [some (webD h L), some (.loc lp), some (.loc sp), some (.int x), some (.bl false), some (.int g)] S (.cmp .ne (.idx (.idx (.var 1) (.var 5)) (.idx (.var 2) (.var 5))) (.var 3)) (!((hd L g row)[s g] == x)) := pt_of (pv_cmp (pv_idxL hl1 h2 hs1 (atI_nat (by rw [List.getElem?_map, hn]; rfl))) (pv_var rfl) rfl) rfl rfl
    rw [hh, hn]
    rw [decide_eq_false (by rw [List.length_map]; omega)] at e1
    refine st_if (k := false || !((hd L g row)[s g] == x)) (pt_or e1 fun _ => e2) (fun hk => ?_) (fun hk => ?_)
    · refine st_asg (pv_cn _) (ok_brk (Then.br (.inr ⟨?_, rfl⟩)))
      intro e
      have e : (hd L g row)[s g] = x := by simpa using e
      rw [e] at hk
      simp at hk
    · refine ok_nil (.inl ⟨?_, rfl⟩)
      have : (hd L g row)[s g] = x := by simpa using hk
      rw [this]
  · have hn : (hd L g row)[s g]? = none := List.getElem?_eq_none (by omega)
    rw [hh, hn]
    rw [decide_eq_true (by rw [List.length_map]; omega)] at e1
    refine st_if (k := true) (pt_or (l := true) e1 (fun h => by cases h)) (fun _ => ?_) (fun h => by cases h)
    exact st_asg (pv_cn _) (ok_brk (Then.br (.inr ⟨by simp, rfl⟩)))
theorem ok_lf2 {lp sp : Nat} {locs : List Nat} {row l : List Int} {s : Int → Nat} {x : Int} {o3 o4 o5 : Option D} {c : Nat} (w : Web h L) (st : Nst D.int c [] S lp locs (lanesOf L h row)) (hs : S[sp]? = some (.lst (spD h s))) (hl : Left L h row l s) (x0 : 0 ≤ x) (x1 : x < L.length) :
    Ok (evTg (callN T n) (.var 3) b (.int x) [some (webD h L), some (.loc lp), some (.loc sp), o3, o4, o5] S >>= fun r => evSs (callN T n) b__law_first_2 b r.1 r.2) fun r => (Fre L l x ∧ ∃ e, r = (.rt (.d (.int x)), e, S)) ∨ (¬ Fre L l x ∧ ∃ o4 o5, r = (.nx, [some (webD h L), some (.loc lp), some (.loc sp), some (.int x), o4, o5], S)) := by
  obtain ⟨lo0, lond, lor⟩ := w.ok _ (lot_mem x0 x1)
  refine Ok.bind (Ok.ok ?_)
  dsimp only [b__law_first_2, List.set]
  refine st_asg (pv_cn _) ?_
  dsimp only [List.set]
  refine st_for (pi_e (pv_idx (pv_lots rfl) (pv_var rfl) rfl (lot_at x0 x1)) rfl rfl) ?_
  refine ok_cnt (fun j e S' => ∃ o5, e = [some (webD h L), some (.loc lp), some (.loc sp), some (.int x), some (.bl false), o5] ∧ S = S' ∧ ∀ g ∈ (lot L x).take j, (hd L g l).head? = some x) (fun _ _ _ _ => chk_nil _) ?_ ?_ ⟨_, rfl, rfl, by simp⟩
  · rintro j z e S' hz ⟨o5, rfl, rfl, hj⟩
    rw [List.getElem?_map] at hz
    obtain ⟨g, hg, rfl⟩ := Option.map_eq_some_iff.mp hz
    have hgr := lor g (nth_mem hg)
    refine Ok.mono (ok_lf1 (n := n) (k := false) (x := x) st hs hl hgr.1 hgr.2) fun r hr => ?_
    rcases hr with ⟨h1, rfl⟩ | ⟨h1, rfl⟩
    · refine ⟨_, rfl, rfl, fun g' hg' => ?_⟩
      rw [take_succ' hg] at hg'
      rcases List.mem_append.mp hg' with hg' | hg'
      · exact hj g' hg'
      · rw [List.mem_singleton.mp hg']; exact h1
    · refine Then.nx (st_skip (pt_not (k := true) (pt_of (pv_var rfl) rfl rfl)) (ok_nil (.inr ⟨fun hf => h1 (hf g (nth_mem hg)), _, _, rfl⟩)))
  · rintro e S' ⟨o5, rfl, rfl, hj⟩
    rw [List.length_map, List.take_length] at hj
    refine Then.nx (st_if (k := true) (pt_not (k := false) (pt_of (pv_var rfl) rfl rfl)) (fun _ => ?_) (fun h => by cases h))
    exact st_ret (pv_var rfl) (Then.rt (.inl ⟨hj, _, rfl⟩))
theorem ok_lfirst {lp sp : Nat} {locs : List Nat} {row l : List Int} {s : Int → Nat} {c : Nat} (w : Web h L) (st : Nst D.int c [] S lp locs (lanesOf L h row)) (hs : S[sp]? = some (.lst (spD h s))) (hl : Left L h row l s) (hne : l ≠ []) (hr : Rng L l) :
    Ok (callN T (n + 1) 20 [webD h L, .loc lp, .loc sp] S) fun r => ∃ x, r = (.d (.int x), S) ∧ IsMin L l x := by
  have hl8 := w.l8
  refine ok_fn (d := ⟨"_law_first", 3, 6, b__law_first⟩) rfl rfl ?_
  dsimp only [b__law_first]
  rw [show env0 6 [webD h L, .loc lp, .loc sp] = [some (webD h L), some (.loc lp), some (.loc sp), none, none, none] from rfl]
  refine st_for (pi_rng0 (pv_lenM (pv_lots rfl)) (by omega) (by omega)) ?_
  refine ok_rng (fun k e S' => ∃ o3 o4 o5, e = [some (webD h L), some (.loc lp), some (.loc sp), o3, o4, o5] ∧ S = S' ∧ ∀ y : Int, 0 ≤ y → y < k → ¬ Fre L l y) (by omega) ?_ ?_ ⟨_, _, _, rfl, rfl, fun y h1 h2 => by omega⟩
  · rintro x e S' x0 x1 ⟨o3, o4, o5, rfl, rfl, hx⟩
    refine Ok.mono (ok_lf2 (n := n) w st hs hl x0 x1) fun r hr2 => ?_
    rcases hr2 with ⟨hf, e, rfl⟩ | ⟨hf, o4, o5, rfl⟩
    · refine Then.rt ⟨_, rfl, x, ?_, ?_, hf, fun y hy hfy => ?_⟩
      · show leave S.length (.d (.int x)) S = _
        rw [leave_int, take_self]
      · obtain ⟨lo0, _, _⟩ := w.ok _ (lot_mem x0 x1)
        obtain ⟨g, gs, e⟩ := List.exists_cons_of_ne_nil lo0
        have := hf g (by rw [e]; simp)
        have h2 : x ∈ hd L g l := List.mem_of_mem_head? (by rw [this]; rfl)
        exact (List.mem_filter.mp h2).1
      · rcases Int.lt_or_le y x with hlt | hle
        · exact absurd hfy (hx y (hr y hy).1 hlt)
        · exact hle
    · refine ⟨_, _, _, rfl, rfl, fun y h1 h2 => ?_⟩
      by_cases e : y = x
      · rw [e]; exact hf
      · exact hx y h1 (by omega)
  · rintro e S' ⟨o3, o4, o5, rfl, rfl, hx⟩
    obtain ⟨y, ys, e⟩ := List.exists_cons_of_ne_nil hne
    have hy : l[0]? = some y := by rw [e]; rfl
    have hyr := hr y (nth_mem hy)
    have : Fst L l 0 := ⟨y, hy, by simp⟩
    exact absurd (this.free hy) (hx y hyr.1 hyr.2)
end
end K24
set_option linter.all false
set_option autoImplicit false
set_option maxRecDepth 100000
namespace K24
open Pv
section
variable {n b : Nat} {S : Sto} {h : Int} {L : List (List Int)}
def sJ (s : Int → Nat) (lo : List Int) : Int → Nat := fun g => if inn g lo then s g + 1 else s g
theorem sp_set {s : Int → Nat} {g : Int} {lo : List Int} (g0 : 0 ≤ g) (g1 : g < h) (hg : g ∉ lo) : (spD h (sJ s lo)).set g.toNat (.int (s g + 1 : Nat)) = spD h (sJ s (lo ++ [g])) := by
  obtain ⟨j, rfl⟩ := Int.eq_ofNat_of_zero_le g0
  rw [show ((j : Nat) : Int).toNat = j by omega]
  have hj : j < h.toNat := by omega
  unfold spD
  apply List.ext_getElem?
  intro i
  rw [List.getElem?_set, List.getElem?_map, List.getElem?_map, List.length_map, rngI_len]
  by_cases e : j = i
  · subst e
    rw [if_pos rfl, if_pos hj, rngI_at hj]
    have : inn ((j : Nat) : Int) (lo ++ [((j : Nat) : Int)]) = true := inn_mem.mpr (by simp)
    show some (D.int (s ((j : Nat) : Int) + 1 : Nat)) = some (D.int ((sJ s (lo ++ [((j : Nat) : Int)]) ((j : Nat) : Int) : Nat)))
    unfold sJ
    rw [if_pos this]
  · rw [if_neg e]
    by_cases hi : i < h.toNat
    · rw [rngI_at hi]
      have : inn ((i : Nat) : Int) (lo ++ [((j : Nat) : Int)]) = inn ((i : Nat) : Int) lo := by
        rw [Bool.eq_iff_iff, inn_mem, inn_mem]
        simp
        intro e2
        omega
      show some (D.int (sJ s lo ((i : Nat) : Int) : Nat)) = some (D.int (sJ s (lo ++ [((j : Nat) : Int)]) ((i : Nat) : Int) : Nat))
      unfold sJ
      rw [this]
    · rw [List.getElem?_eq_none (by rw [rngI_len]; omega)]
      rfl
theorem left_next {row l : List Int} {s : Int → Nat} {x : Int} (hl : Left L h row l s) (hf : Fre L l x) : Left L h row (l.erase x) (sJ s (lot L x)) := by
  intro g g0 g1
  have h1 := hl g g0 g1
  have he := hd_erase (L := L) (g := g) (x := x) (l := l)
  unfold sJ
  by_cases hi : inn g (lot L x) = true
  · rw [if_pos hi, he.1 hi (hf g (inn_mem.mp hi)), ← h1, List.tail_drop]
  · rw [if_neg hi, he.2 (by simpa using hi), h1]
theorem lanes_locs {c lp : Nat} {locs : List Nat} {row : List Int} (w : Web h L) (st : Nst D.int c [] S lp locs (lanesOf L h row)) : locs ≠ [] := by
  have h0 := w.h0
  intro e
  have := st.len
  rw [e, lanesOf_len] at this
  simp at this
  omega
theorem ok_ll1 {lp sp fp : Nat} {rowD : D} {s : Int → Nat} {lo : List Int} {g x : Int} {o5 o7 : Option D} (hs : S[sp]? = some (.lst (spD h (sJ s lo)))) (g0 : 0 ≤ g) (g1 : g < h) (hg : g ∉ lo) :
    Ok (evTg (callN T n) (.var 7) b (.int g) [some (webD h L), some rowD, some (.loc lp), some (.loc sp), some (.loc fp), o5, some (.int x), o7] S >>= fun r => evSs (callN T n) b__law_least_1 b r.1 r.2) fun r => r = (.nx, [some (webD h L), some rowD, some (.loc lp), some (.loc sp), some (.loc fp), o5, some (.int x), some (.int g)], S.set sp (.lst (spD h (sJ s (lo ++ [g]))))) := by
  refine Ok.bind (Ok.ok ?_)
  dsimp only [b__law_least_1, List.set]
  have hv : (spD h (sJ s lo))[g.toNat]? = some (.int (s g : Nat)) := by
    rw [sp_get g0 g1]
    unfold sJ
    rw [if_neg (fun h => hg (inn_mem.mp h))]
  refine st_augs (pv_var rfl) (pv_var rfl) hs g0 hv (pv_cn _) (w := ((s g + 1 : Nat) : Int)) rfl (ok_nil ?_)
  rw [sp_set g0 g1 hg]
theorem ok_ll2 {lp sp fp : Nat} {locs : List Nat} {row l f : List Int} {s : Int → Nat} {k : Int} {o5 o6 o7 : Option D} {rowD : D} {c : Nat} (w : Web h L) (st : Nst D.int c [] S lp locs (lanesOf L h row)) (hs : S[sp]? = some (.lst (spD h s))) (hf : S[fp]? = some (.lst (f.map .int))) (hsf : fp ≠ sp) (hl : Left L h row l s) (hne : l ≠ []) (hr : Rng L l) (hfl : f.length < 1000) :
    Ok (evTg (callN T (n + 1)) (.var 5) b (.int k) [some (webD h L), some rowD, some (.loc lp), some (.loc sp), some (.loc fp), o5, o6, o7] S >>= fun r => evSs (callN T (n + 1)) b__law_least_2 b r.1 r.2) fun r => ∃ o5 o6 o7 s' x, r = (.nx, [some (webD h L), some rowD, some (.loc lp), some (.loc sp), some (.loc fp), o5, o6, o7], (S.set fp (.lst ((f ++ [x]).map .int))).set sp (.lst (spD h s'))) ∧ IsMin L l x ∧ Left L h row (l.erase x) s' := by
  refine Ok.bind (Ok.ok ?_)
  dsimp only [b__law_least_2, List.set]
  obtain ⟨r, e, x, rfl, hx⟩ := ok_lfirst (n := n) w st hs hl hne hr
  have hxr := hr x hx.1
  obtain ⟨lo0, lond, lor⟩ := w.ok _ (lot_mem hxr.1 hxr.2)
  refine st_asg (pv_call0 (v := .int x) (pes_cons (pv_var rfl) (pes_cons (pv_var rfl) (pes_cons (pv_var rfl) pes_nil))) ⟨_, e, rfl⟩ rfl rfl) ?_
  dsimp only [List.set]
  refine st_app (pv_var rfl) hf (by rw [List.length_map]; omega) (pv_var rfl) (.inl rfl) ?_
  have ef : f.map D.int ++ [.int x] = (f ++ [x]).map D.int := by rw [List.map_append]; rfl
  rw [ef]
  have hs2 : (S.set fp (.lst ((f ++ [x]).map .int)))[sp]? = some (.lst (spD h (sJ s []))) := set_ne hs hsf
  generalize hS1 : S.set fp (.lst ((f ++ [x]).map .int)) = S1 at *
  have hsd : S1.set sp (.lst (spD h (sJ s []))) = S1 := by
    obtain ⟨_, e⟩ := List.getElem?_eq_some_iff.mp hs2
    rw [← e]
    simp
  refine st_for (pi_e (pv_idx (pv_lots rfl) (pv_var rfl) rfl (lot_at hxr.1 hxr.2)) rfl rfl) ?_
  refine ok_cnt (fun j e S' => ∃ o7, e = [some (webD h L), some rowD, some (.loc lp), some (.loc sp), some (.loc fp), some (.int k), some (.int x), o7] ∧ S' = S1.set sp (.lst (spD h (sJ s ((lot L x).take j))))) (fun _ _ _ _ => chk_nil _) ?_ ?_ ⟨_, rfl, by rw [List.take_zero]; exact hsd.symm⟩
  · rintro j z e S' hz ⟨o7, rfl, rfl⟩
    rw [List.getElem?_map] at hz
    obtain ⟨g, hg, rfl⟩ := Option.map_eq_some_iff.mp hz
    have hgr := lor g (nth_mem hg)
    refine Ok.mono (ok_ll1 (n := n + 1) (set_at hs2) hgr.1 hgr.2 (nodup_take lond hg)) fun r er => ?_
    subst er
    refine ⟨_, rfl, ?_⟩
    rw [take_succ' hg, List.set_set]
  · rintro e S' ⟨o7, rfl, rfl⟩
    rw [List.length_map, List.take_length]
    subst hS1
    exact Then.nx (ok_nil ⟨_, _, o7, _, x, rfl, hx, left_next hl hx.2.1⟩)
theorem ok_lleast {row : List Int} (w : Web h L) (hr : Rng L row) (hl : row.length < 900) : Ok (callN T (n + 2) 21 [webD h L, lotD row] S) fun r => ∃ f, r = (.d (lotD f), S) ∧ Lst L row f := by
  have h0 := w.h0
  have h4 := w.h4
  refine ok_fn (d := ⟨"_law_least", 2, 8, b__law_least⟩) rfl rfl ?_
  dsimp only [b__law_least]
  rw [show env0 8 [webD h L, lotD row] = [some (webD h L), some (lotD row), none, none, none, none, none, none] from rfl]
  refine ok_asg (ok_call (es_pv (pv_var rfl) (es_pv (pv_var rfl) (es_nil (Ok.ok ?_)))))
  refine Ok.mono (ok_lanes (n := n) w hr hl) fun r ⟨lp, locs, e1, st, kp⟩ => ?_
  obtain ⟨r, S1⟩ := r
  dsimp only at e1 st kp
  subst e1
  rw [leave_deep st.at_ st.ge.1 st.ge.2 (lanes_locs w st)]
  dsimp only [settle, List.set]
  have hS1 : S1.take S.length = S := kp_take kp
  refine st_asgF (xs := spD h (fun _ => 0)) ?_ ?_
  · refine pv_bin (v := .fr [.int 0]) (pv_lst (pes_cons (pv_cn _) pes_nil) (by simp)) (pv_hands rfl) ?_
    rw [binV_repf, if_pos ⟨by simp, by omega, by omega⟩]
    have : h = 1 ∨ h = 2 ∨ h = 3 ∨ h = 4 := by omega
    rcases this with rfl | rfl | rfl | rfl <;> rfl
  dsimp only [List.set]
  refine st_asgF (xs := []) (pv_lst pes_nil (by simp)) ?_
  dsimp only [List.set]
  have hd0 : ((S1 ++ [O.lst (spD h (fun _ => 0))]) ++ [O.lst []])[S1.length]? = some (.lst (spD h (fun _ => 0))) := push_lt push_at
  have hm0 : ((S1 ++ [O.lst (spD h (fun _ => 0))]) ++ [O.lst []])[(S1 ++ [O.lst (spD h (fun _ => 0))]).length]? = some (.lst (([] : List Int).map .int)) := push_at
  have ht0 : ((S1 ++ [O.lst (spD h (fun _ => 0))]) ++ [O.lst []]).take S1.length = S1 := take_push (take_push (take_self _))
  have hq : S1.length < (S1 ++ [O.lst (spD h (fun _ => 0))]).length := by simp
  generalize (S1 ++ [O.lst (spD h (fun _ => 0))]) ++ [O.lst []] = S0 at *
  generalize (S1 ++ [O.lst (spD h (fun _ => 0))]).length = fp at *
  have hz : Left L h row row (fun _ => 0) := fun g _ _ => rfl
  refine st_for (pi_rng0 (k := row.length) (pv_lenM (pv_var rfl)) (by omega) (by omega)) ?_
  refine ok_rng (fun k e S' => ∃ o5 o6 o7 f l s, e = [some (webD h L), some (lotD row), some (.loc lp), some (.loc S1.length), some (.loc fp), o5, o6, o7] ∧ S'[S1.length]? = some (.lst (spD h s)) ∧ S'[fp]? = some (.lst (f.map .int)) ∧ S'.take S1.length = S1 ∧ Rch L row f l ∧ Left L h row l s ∧ (f.length : Int) = k) (by omega) ?_ ?_ ⟨_, _, _, [], row, fun _ => 0, rfl, hd0, hm0, ht0, .nil, hz, rfl⟩
  · rintro k e S' k0 k1 ⟨o5, o6, o7, f, l, s, rfl, a1, a2, a3, rc, lf, hk⟩
    have hlen := rc.len
    have hlne : l ≠ [] := by
      rintro rfl
      simp at hlen
      omega
    have hlr : Rng L l := fun x hx => hr x (rc.sub.2 x hx)
    refine Ok.mono (ok_ll2 (n := n) w (st.take a3) a1 a2 (by omega) lf hlne hlr (by omega)) fun r ⟨o5, o6, o7, s', x, er, hx, lf'⟩ => ?_
    subst er
    refine ⟨o5, o6, o7, f ++ [x], l.erase x, s', rfl, set_at (set_ne a1 (by omega)), set_ne (set_at a2) (by omega), take_setG (take_setG a3 (by omega)) (Nat.le_refl _), rc.snoc hx, lf', ?_⟩
    simp
    omega
  · rintro e S' ⟨o5, o6, o7, f, l, s, rfl, a1, a2, a3, rc, lf, hk⟩
    refine Then.nx (st_ret (pv_f1 (w := .d (lotD f)) (pv_var rfl) (by rw [app_tuple, items_loc a2]; rfl)) ⟨_, rfl, f, ?_, by omega, l, rc⟩)
    have hS : S'.take S.length = S := by
      rw [← hS1, ← a3, List.take_take]
      have : S.length ≤ S1.length := take_len hS1
      rw [List.length_take]
      congr 1
      have := take_len a3
      omega
    show leave S.length (.d (lotD f)) S' = _
    rw [leave_pure (pure_ints _), hS]
theorem ok_part {row : List Int} {ms : List Bool} {p : Nat} (hp : S[p]? = some (.lst (ms.map .bl))) : Ok (callN T (n + 1) 22 [lotD row, .loc p, .bl true] S) fun r => r = (.d (lotD (((row.zip ms).filter (·.2)).map (·.1))), S) := by
  refine ok_fn (d := ⟨"_law_part", 3, 5, b__law_part⟩) rfl rfl ?_
  dsimp only [b__law_part]
  rw [show env0 5 [lotD row, .loc p, .bl true] = [some (lotD row), some (.loc p), some (.bl true), none, none] from rfl]
  have hz := pi_zipM (rc := callN T n) (e := [some (lotD row), some (.loc p), some (.bl true), none, none]) (x := .var 0) (y := .var 1) (pv_var rfl) (pv_var rfl) hp
  rw [zip_map] at hz
  refine st_ret (pv_f1 (w := .d (lotD (((row.zip ms).filter (·.2)).map (·.1)))) (pv_compM (f := fun p : Int × Bool => D.tup [.int p.1, .bl p.2]) (ns := row.zip ms) (fun p => p.2) (fun p => .int p.1) hz (chk_one hp) fun p hp => ⟨_, fun b => rfl, pts_one (pt_of (pv_cmp (k := p.2) (pv_var rfl) (pv_var rfl) ?_) rfl rfl), fun _ => pv_var rfl⟩) ?_) ⟨_, rfl, ?_⟩
  · obtain ⟨y, m⟩ := p
    cases m <;> rfl
  · rw [app_tuple, items_fr]
    show some (Vl.d (.tup _)) = some (Vl.d (.tup (List.map D.int (List.map (fun p : Int × Bool => p.1) _))))
    rw [List.map_map]
    rfl
  · show leave S.length (.d (lotD _)) S = _
    rw [leave_pure (pure_ints _), take_self]
theorem ok_lview {row eye : List Int} (w : Web h L) (hr : Rng L row) (hl : row.length < 900) : Ok (callN T (n + 3) 23 [webD h L, lotD row, lotD eye] S) fun r => ∃ f, r = (.d (lotD f), S) ∧ Lst L (partOf L row eye) f := by
  obtain ⟨pr, pl⟩ := part_rng (eye := eye) hr
  refine ok_fn (d := ⟨"_law_view", 3, 3, b__law_view⟩) rfl rfl ?_
  dsimp only [b__law_view]
  rw [show env0 3 [webD h L, lotD row, lotD eye] = [some (webD h L), some (lotD row), some (lotD eye)] from rfl]
  have hpart : PV (callN T (n + 2)) [some (webD h L), some (lotD row), some (lotD eye)] S (.call 22 (.cons (.var 1) (.cons (.call 18 (.cons (.var 0) (.cons (.var 1) (.cons (.var 2) .nil))) .nil [0, 1, 2]) (.cons (.cn (.bl true)) .nil))) .nil [0, 1, 2]) (.d (lotD (partOf L row eye))) := fun b => by
    refine eq_of (ok_call (es_pv (pv_var rfl) (es_cons (ev_pv (pv_callF (pes_cons (pv_var rfl) (pes_cons (pv_var rfl) (pes_cons (pv_var rfl) pes_nil))) pes_nil (ok_marks (n := n + 1) w hr hl) rfl) (es_pv (pv_cn _) (es_nil (Ok.ok ?_)))))))
    refine Ok.mono (ok_part (n := n + 1) (ms := marksOf L row eye) push_at) fun r er => ?_
    subst er
    show leave S.length (.d (lotD (partOf L row eye))) (S ++ [O.lst ((marksOf L row eye).map .bl)]) = _
    rw [leave_pure (pure_ints _), take_push (take_self _)]
  refine ok_ret (ok_call (es_pv (pv_var rfl) (es_pv hpart (es_nil (Ok.ok ?_)))))
  refine Ok.mono (ok_lleast (n := n) w pr (by omega)) fun r ⟨f, er, lf⟩ => ?_
  subst er
  rw [leave_pure (pure_ints _), take_self]
  refine ⟨_, rfl, f, ?_, lf⟩
  show leave S.length (.d (lotD f)) S = _
  rw [leave_pure (pure_ints _), take_self]
end
end K24
set_option linter.all false
set_option autoImplicit false
set_option maxRecDepth 100000
namespace K24
open Pv
/-! ### members in a drawn order -/
theorem erase_perm {α : Type} {l : List α} {k : Nat} {x : α} (h : l[k]? = some x) : (x :: l.eraseIdx k).Perm l := by
  obtain ⟨hk, e⟩ := List.getElem?_eq_some_iff.mp h
  rw [List.eraseIdx_eq_take_drop_succ]
  have e2 : l = l.take k ++ (x :: l.drop (k + 1)) := by
    rw [← e, ← List.drop_eq_getElem_cons hk, List.take_append_drop]
  conv => rhs; rw [e2]
  exact List.perm_middle.symm
theorem ok_mix1 {n b l p q : Nat} {S : Sto} {t : Int} {x1 o4 : Option D} {lf fd : List D} (hb : Bx S l) (hp : S[p]? = some (.lst lf)) (hq : S[q]? = some (.lst fd)) (hpq : p ≠ q) (hpl : p ≠ l) (hql : q ≠ l) (h1 : 0 < lf.length) (h2 : lf.length < 1000) (h3 : fd.length < 1000) (hpu : ∀ x ∈ lf, x.pure = true) :
    Ok (evTg (callN T (n + 1)) (.var 4) b (.int t) [some (.loc l), x1, some (.loc p), some (.loc q), o4] S >>= fun r => evSs (callN T (n + 1)) b__law_mixed_1 b r.1 r.2) fun r => ∃ k x S1, r = (.nx, [some (.loc l), x1, some (.loc p), some (.loc q), some (.int t)], (S1.set p (.lst (lf.eraseIdx k))).set q (.lst (fd ++ [x]))) ∧ lf[k]? = some x ∧ Fr l S S1 := by
  refine Ok.bind (Ok.ok ?_)
  dsimp only [b__law_mixed_1, List.set]
  refine st_app2 (pv_var rfl) hq (by omega) ?_
  refine ev_m1 (pv_var rfl) hp (Ok.mono (take_at (n := n) (m := lf.length) rfl (pv_lenL (pv_var rfl) hp _) hb (by omega) (by omega)) fun r ⟨k, S1, er, k0, k1, fr⟩ => ?_)
  subst er
  dsimp only [settle]
  obtain ⟨k, rfl⟩ := Int.eq_ofNat_of_zero_le k0
  have hk : k < lf.length := by omega
  have hx : lf[k]? = some lf[k] := List.getElem?_eq_getElem hk
  refine Ok.eq (meth_pop (fr.at hp hpl) hx) ⟨_, _, rfl, set_ne (fr.at hq hql) hpq, .inl (hpu _ (List.getElem_mem hk)), ok_nil ⟨k, lf[k], S1, rfl, hx, fr⟩⟩
theorem ok_mixD {n l p : Nat} {S : Sto} {xs : List D} (hb : Bx S l) (hp : S[p]? = some (.lst xs)) (hpl : p ≠ l) (hl : xs.length < 1000) (hpu : ∀ x ∈ xs, x.pure = true) : Ok (callN T (n + 2) 11 [.loc l, .loc p] S) fun r => ∃ ys, r.1 = .fr ys ∧ ys.Perm xs ∧ Fr l S r.2 := by
  have hlt := hb.lt
  have hpS := at_lt hp
  refine ok_fn (d := ⟨"_law_mixed", 2, 5, b__law_mixed⟩) rfl rfl ?_
  dsimp only [b__law_mixed]
  rw [show env0 5 [.loc l, .loc p] = [some (.loc l), some (.loc p), none, none, none] from rfl]
  refine st_asgF (xs := xs) (pv_f1 (pv_var rfl) (by rw [app_list, items_loc hp]; rfl)) ?_
  dsimp only [List.set]
  refine st_asgF (xs := []) (pv_lst pes_nil (by simp)) ?_
  dsimp only [List.set]
  have hp0 : ((S ++ [O.lst xs]) ++ [O.lst []])[S.length]? = some (.lst xs) := push_lt push_at
  have hq0 : ((S ++ [O.lst xs]) ++ [O.lst []])[(S ++ [O.lst xs]).length]? = some (.lst []) := push_at
  have hr0 : ((S ++ [O.lst xs]) ++ [O.lst []])[p]? = some (.lst xs) := push_lt (push_lt hp)
  have g0 : Gr l S ((S ++ [O.lst xs]) ++ [O.lst []]) := ((Gr.refl hb).push _).push _
  have hpq0 : S.length < (S ++ [O.lst xs]).length := by simp
  generalize (S ++ [O.lst xs]) ++ [O.lst []] = S0 at *
  generalize (S ++ [O.lst xs]).length = q at *
  refine st_for (pi_rngI (pv_lenL (pv_var rfl) hr0) (by omega) (by omega)) ?_
  rw [show (xs.length : Int).toNat = xs.length by omega]
  refine ok_cnt (fun k e S' => ∃ o4 lf fd, e = [some (.loc l), some (.loc p), some (.loc S.length), some (.loc q), o4] ∧ S'[S.length]? = some (.lst lf) ∧ S'[q]? = some (.lst fd) ∧ lf.length + k = xs.length ∧ fd.length = k ∧ (fd ++ lf).Perm xs ∧ Gr l S S') (fun _ _ _ _ => chk_nil _) ?_ ?_ ⟨_, xs, [], rfl, hp0, hq0, rfl, rfl, .refl _, g0⟩
  · rintro k x e S' hx ⟨o4, lf, fd, rfl, hlf, hfd, h1, h2, hpm, g⟩
    rw [List.getElem?_map] at hx
    obtain ⟨t, ht, rfl⟩ := Option.map_eq_some_iff.mp hx
    have hk := (List.getElem?_eq_some_iff.mp ht).1
    have hk : k < xs.length := by simpa [rngI] using hk
    refine Ok.mono (ok_mix1 (n := n) g.bx hlf hfd (by omega) (by omega) (by omega) (by omega) (by omega) (by omega) (fun x hx => hpu x (hpm.subset (List.mem_append_right _ hx)))) fun r ⟨j, x, S1, er, hj, fr⟩ => ?_
    subst er
    have hj2 := (List.getElem?_eq_some_iff.mp hj).1
    have a1 : S1[S.length]? = some (.lst lf) := fr.at hlf (by omega)
    have a2 : S1[q]? = some (.lst fd) := fr.at hfd (by omega)
    refine ⟨_, lf.eraseIdx j, fd ++ [x], rfl, set_ne (set_at a1) (by omega), set_at (set_ne a2 (by omega)), ?_, by simp; omega, ?_, ((g.fr fr).set _ (by omega) (by omega)).set _ (by omega) (by omega)⟩
    · rw [List.length_eraseIdx, if_pos hj2]
      omega
    · refine List.Perm.trans ?_ hpm
      rw [List.append_assoc]
      exact List.Perm.append_left fd (erase_perm hj)
  · rintro e S' ⟨o4, lf, fd, rfl, hlf, hfd, h1, h2, hpm, g⟩
    have hl0 : lf = [] := by
      rw [List.length_map] at h1
      have : (rngI xs.length).length = xs.length := by simp [rngI]
      exact List.eq_nil_of_length_eq_zero (by omega)
    subst hl0
    rw [List.append_nil] at hpm
    refine Then.nx (st_ret (pv_var rfl) ⟨_, rfl, fd, ?_⟩)
    show (leave S.length (.d (.loc q)) S').1 = _ ∧ fd.Perm xs ∧ Fr l S (leave S.length (.d (.loc q)) S').2
    rw [leave_own hfd (by omega) fun y hy => hpu y (hpm.subset hy)]
    exact ⟨rfl, hpm, g.leave hlt⟩
/-- _law_mixed of a list in the store, or of one just made -/
theorem mix_at {n b l i : Nat} {e : Env} {S : Sto} {X : E} {p : Nat} {α : Type} {f : α → D} {ns : List α} (hi : e[i]? = some (some (.loc l))) (hX : PV (callN T (n + 2)) e S X (.d (.loc p))) (hp : S[p]? = some (.lst (ns.map f))) (hpl : p ≠ l) (hb : Bx S l) (hl : ns.length < 1000) (hpu : ∀ x ∈ ns, (f x).pure = true) : Ok ((evE (callN T (n + 2)) (.call 11 (.cons (.var i) (.cons X .nil)) .nil [0, 1])).v b e S) fun r => ∃ (ms : List α) (S1 : Sto), r = (.fr (ms.map f), S1) ∧ ms.Perm ns ∧ Fr l S S1 := by
  have hpu2 : ∀ x ∈ ns.map f, x.pure = true := fun x hx => by
    obtain ⟨z, hz, rfl⟩ := List.mem_map.mp hx
    exact hpu z hz
  refine ok_call (es_pv (pv_var hi) (es_pv hX (es_nil (Ok.ok ?_))))
  refine Ok.mono (ok_mixD (n := n) hb hp hpl (by simp; omega) hpu2) fun r ⟨ys, e1, hpm, fr⟩ => ?_
  obtain ⟨ms, rfl, hm⟩ := map_of hpm
  refine ⟨ms, r.2, ?_, hm, fr⟩
  rw [e1, leave_frP (fun y hy => hpu2 y (hpm.subset hy)), take_le (by rw [fr.len]; exact Nat.le_refl _)]
theorem mixF_at {n b l i : Nat} {e : Env} {S : Sto} {X : E} {α : Type} {f : α → D} {ns : List α} (hi : e[i]? = some (some (.loc l))) (hX : PV (callN T (n + 2)) e S X (.fr (ns.map f))) (hb : Bx S l) (hl : ns.length < 1000) (hpu : ∀ x ∈ ns, (f x).pure = true) : Ok ((evE (callN T (n + 2)) (.call 11 (.cons (.var i) (.cons X .nil)) .nil [0, 1])).v b e S) fun r => ∃ (ms : List α) (S1 : Sto), r = (.fr (ms.map f), S1) ∧ ms.Perm ns ∧ Fr l S S1 := by
  have hlt := hb.lt
  have hpu2 : ∀ x ∈ ns.map f, x.pure = true := fun x hx => by
    obtain ⟨z, hz, rfl⟩ := List.mem_map.mp hx
    exact hpu z hz
  refine ok_call (es_pv (pv_var hi) (es_cons (ev_pv hX (es_nil (Ok.ok ?_)))))
  have g := (Gr.refl hb).push [O.lst (ns.map f)]
  refine Ok.mono (ok_mixD (n := n) g.bx push_at (show S.length ≠ l by omega) (by simp; omega) hpu2) fun r ⟨ys, e1, hpm, fr⟩ => ?_
  obtain ⟨ms, rfl, hm⟩ := map_of hpm
  refine ⟨ms, r.2.take S.length, ?_, hm, (g.fr fr).leave hlt⟩
  rw [e1, leave_frP (fun y hy => hpu2 y (hpm.subset hy))]
/-- list(range(k)) in a drawn order -/
theorem mixR_at {n b l i : Nat} {e : Env} {S : Sto} {X : E} {k : Int} (hi : e[i]? = some (some (.loc l))) (hX : PV (callN T (n + 2)) e S X (.d (.int k))) (hb : Bx S l) (k0 : 0 ≤ k) (hk : k < 1000) : Ok ((evE (callN T (n + 2)) (.call 11 (.cons (.var i) (.cons (.mkr .list .none X) .nil)) .nil [0, 1])).v b e S) fun r => ∃ (ms : List Int) (S1 : Sto), r = (.fr (ms.map .int), S1) ∧ ms.Perm (rngI k.toNat) ∧ Fr l S S1 := by
  have h := pv_list hX (by omega) (by omega)
  rw [show rngD 0 k = (rngI k.toNat).map .int by rw [← rngD_int, show ((k.toNat : Nat) : Int) = k by omega]] at h
  exact mixF_at hi h hb (by simp [rngI]; omega) fun _ _ => rfl

/-! ### one of some lists -/
theorem ok_pickL {n l p : Nat} {S : Sto} {xs : List D} (hb : Bx S l) (hp : S[p]? = some (.lst xs)) (hpl : p ≠ l) (h0 : xs ≠ []) (hlen : xs.length < 1000) (hx : ∀ x ∈ xs, ∃ q, x = .loc q ∧ q < S.length) :
    Ok (callN T (n + 2) 9 [.loc l, .loc p] S) fun r => ∃ x, x ∈ xs ∧ r.1 = .d x ∧ Fr l S r.2 := by
  refine ok_fn (d := ⟨"_law_pick", 2, 2, b__law_pick⟩) rfl rfl ?_
  dsimp only [b__law_pick]
  rw [show env0 2 [.loc l, .loc p] = [some (.loc l), some (.loc p)] from rfl]
  have hlen0 : 0 < xs.length := List.length_pos_iff.mpr h0
  refine ok_ret (ev_idx (ev_pv (pv_var rfl) (Ok.mono (take_at (n := n) (m := xs.length) rfl (pv_lenL (pv_var rfl) hp _) hb (by omega) (by omega)) fun r ⟨q, S1, er, q0, q1, fr⟩ => ?_)))
  subst er
  obtain ⟨x, hm, ha, _⟩ := atI_of q0 q1
  have e1 : idxV (.d (.loc p)) (.int q) S1 = some x := by
    show (items (.d (.loc p)) S1).bind (fun xs => atI xs q) = _
    rw [items_loc (fr.at hp hpl)]
    exact ha
  refine ⟨x, e1, _, rfl, x, hm, ?_⟩
  obtain ⟨q, rfl, hq⟩ := hx x hm
  have e2 : leave S.length (.d (.loc q)) S1 = (.d (.loc q), S1.take S.length) := if_pos hq
  show (leave S.length (.d (.loc q)) S1).1 = _ ∧ Fr l S (leave S.length (.d (.loc q)) S1).2
  rw [e2, take_le (by rw [fr.len]; exact Nat.le_refl _)]
  exact ⟨rfl, fr⟩
/-- pick(box, [[..], [..], ..]): lists of whole numbers -/
theorem pickLs_at {n b l i : Nat} {e : Env} {S : Sto} {es : Es} {F : List (List Int)} (hi : e[i]? = some (some (.loc l))) (hes : Ok ((evEs (callN T (n + 2)) es).1 S.length e S) fun r => r = ((List.range F.length).map fun k => D.loc (S.length + k), S ++ F.map fun f => O.lst (f.map .int))) (hb : Bx S l) (h0 : F ≠ []) (hlen : F.length < 1000) :
    Ok ((evE (callN T (n + 2)) (.call 9 (.cons (.var i) (.cons (.lst es) .nil)) .nil [0, 1])).v b e S) fun r => ∃ (f : List Int) (S1 : Sto), r = (.fr (f.map .int), S1) ∧ f ∈ F ∧ Fr l S S1 := by
  have hlt := hb.lt
  refine ok_call (es_pv (pv_var hi) (es_cons (ev_lst (Ok.mono hes fun r er => ?_))))
  subst er
  refine ⟨by simp; omega, es_nil (Ok.ok ?_)⟩
  have g := ((Gr.refl hb).push (F.map fun f => O.lst (f.map .int))).push [O.lst ((List.range F.length).map fun k => D.loc (S.length + k))]
  have hF : 0 < F.length := List.length_pos_iff.mpr h0
  have hp : ((S ++ F.map fun f => O.lst (f.map .int)) ++ [O.lst ((List.range F.length).map fun k => D.loc (S.length + k))])[(S ++ F.map fun f => O.lst (f.map .int)).length]? = some (.lst ((List.range F.length).map fun k => D.loc (S.length + k))) := push_at
  have hpl : (S ++ F.map fun f => O.lst (f.map D.int)).length ≠ l := by simp; omega
  have hxs : (List.range F.length).map (fun k => D.loc (S.length + k)) ≠ [] := by
    intro e
    have := congrArg List.length e
    simp at this
    exact h0 this
  refine Ok.mono (ok_pickL (n := n) g.bx hp hpl hxs (by simp; omega) ?_) fun r ⟨x, hx, e1, fr⟩ => ?_
  · intro x hx
    obtain ⟨k, hk, rfl⟩ := List.mem_map.mp hx
    have := List.mem_range.mp hk
    exact ⟨_, rfl, by simp; omega⟩
  · obtain ⟨k, hk, rfl⟩ := List.mem_map.mp hx
    have hk := List.mem_range.mp hk
    have h1 : ((S ++ F.map fun f => O.lst (f.map .int)) ++ [O.lst ((List.range F.length).map fun k => D.loc (S.length + k))])[S.length + k]? = some (.lst (F[k].map .int)) := by
      refine push_lt ?_
      rw [List.getElem?_append_right (by omega), show S.length + k - S.length = k by omega, List.getElem?_map, List.getElem?_eq_getElem hk]
      rfl
    have h2 := fr.at h1 (by omega)
    refine ⟨F[k], r.2.take S.length, ?_, List.getElem_mem hk, (g.fr fr).leave hlt⟩
    rw [e1, leave_own h2 (by omega) fun y hy => by
      obtain ⟨z, _, rfl⟩ := List.mem_map.mp hy
      rfl]
theorem esL_nil {rc : Rc} {b : Nat} {e : Env} {S : Sto} : Ok ((evEs rc .nil).1 b e S) fun r => r = ((List.range ([] : List (List Int)).length).map fun k => D.loc (S.length + k), S ++ ([] : List (List Int)).map fun f => O.lst (f.map .int)) := Ok.ok (by simp)
theorem esL_cons {rc : Rc} {b : Nat} {e : Env} {S : Sto} {x : E} {es : Es} {f : List Int} {F : List (List Int)} (hx : PV rc e S x (.fr (f.map .int))) (h : ∀ S, Ok ((evEs rc es).1 b e S) fun r => r = ((List.range F.length).map fun k => D.loc (S.length + k), S ++ F.map fun f => O.lst (f.map .int))) : Ok ((evEs rc (.cons x es)).1 b e S) fun r => r = ((List.range (f :: F).length).map fun k => D.loc (S.length + k), S ++ (f :: F).map fun f => O.lst (f.map .int)) := by
  refine es_cons (ev_pv hx (Ok.mono (h (S ++ [O.lst (f.map .int)])) fun r er => ?_))
  subst er
  show (D.loc S.length :: _, _) = _
  rw [List.length_cons, List.range_succ_eq_map, List.map_cons, List.map_map]
  congr 1
  · congr 1
    refine List.map_congr_left fun k _ => ?_
    show D.loc ((S ++ [O.lst (f.map .int)]).length + k) = D.loc (S.length + (k + 1))
    rw [List.length_append]
    congr 1
    simp
    omega
  · rw [List.append_assoc]
    rfl

/-! ### a web: how many hands do a letter is drawn -/
theorem asc_nodup {l : List Int} (h : l.Pairwise (· < ·)) : l.Nodup := h.imp (by intro a b h; omega)
/-- an ascending lot of hands, one at least -/
structure LotW (h : Int) (x : List Int) : Prop where
  ne : x ≠ []
  asc : x.Pairwise (· < ·)
  rng : ∀ g ∈ x, 0 ≤ g ∧ g < h
theorem asc_of {l : List Int} (h : l.Pairwise (· ≤ ·)) (nd : l.Nodup) : l.Pairwise (· < ·) := by
  induction l with
  | nil => exact .nil
  | cons x l ih =>
    obtain ⟨h1, h2⟩ := List.pairwise_cons.mp h
    obtain ⟨n1, n2⟩ := List.nodup_cons.mp nd
    refine List.pairwise_cons.mpr ⟨fun y hy => ?_, ih h2 n2⟩
    have := h1 y hy
    have : x ≠ y := by
      rintro rfl
      exact n1 hy
    omega
theorem rngI_nodup (n : Nat) : (rngI n).Nodup := by
  unfold rngI
  rw [List.nodup_iff_pairwise_ne, List.pairwise_map]
  exact (List.nodup_iff_pairwise_ne.mp List.nodup_range).imp fun h e => h (by omega)
theorem lotW_of {h : Int} {ms : List Int} {k : Nat} (hp : ms.Perm (rngI h.toNat)) (h0 : 0 < h) (hk : 0 < k) : LotW h (sortI (ms.take k)) := by
  have hl : ms.length = h.toNat := by
    rw [hp.length_eq]
    simp [rngI]
  have nd : ms.Nodup := hp.nodup_iff.mpr (rngI_nodup _)
  refine ⟨fun e => ?_, asc_of (sortI_sorted _) ((sortI_perm _).nodup_iff.mpr (List.Nodup.sublist (List.take_sublist _ _) nd)), fun g hg => ?_⟩
  · have := (sortI_perm (ms.take k)).length_eq
    rw [e, List.length_take] at this
    simp at this
    omega
  · have := hp.subset (List.mem_of_mem_take ((sortI_perm _).subset hg))
    have := rngI_mem.mp this
    omega
structure WebW (h : Int) (L : List (List Int)) : Prop where
  h0 : 0 < h
  h4 : h ≤ 4
  l0 : 0 < L.length
  l8 : L.length ≤ 8
  ok : ∀ x ∈ L, LotW h x
def menus : List (List Int) := [[1], [1, 1, 1, 2], [1, 2, 2, 3], [1, 1, 2, 3, 4]]
theorem pure_webW (h : Int) (L : List (List Int)) : (webD h L).pure = true := pureL_of (by
  intro x hx
  simp at hx
  rcases hx with rfl | rfl
  · rfl
  · exact pureL_of (by
      intro y hy
      obtain ⟨z, _, rfl⟩ := List.mem_map.mp hy
      exact pure_ints z))
theorem ok_webW1 {n b l p q : Nat} {B S : Sto} {h m k : Int} {o5 o6 : Option D} {L : List (List Int)} {me : List Int} (g : Gr l B S) (hBp : B.length ≤ p) (h0 : 0 < h) (h4 : h ≤ 4) (hp : S[p]? = some (.lst (L.map lotD))) (hq : S[q]? = some (.lst (me.map .int))) (hpl : p ≠ l) (hql : q ≠ l) (hpq : p ≠ q) (hm0 : me ≠ []) (hml : me.length < 1000) (hm1 : ∀ x ∈ me, 1 ≤ x) (hL : L.length < 1000) :
    Ok (evTg (callN T (n + 2)) (.var 5) b (.int k) [some (.loc l), some (.int h), some (.int m), some (.loc q), some (.loc p), o5, o6] S >>= fun r => evSs (callN T (n + 2)) b__law_web_1 b r.1 r.2) fun r => ∃ o5 o6 ns S1, r = (.nx, [some (.loc l), some (.int h), some (.int m), some (.loc q), some (.loc p), o5, o6], S1) ∧ S1[p]? = some (.lst ((L ++ [ns]).map lotD)) ∧ LotW h ns ∧ Gr l B S1 ∧ S1[q]? = some (.lst (me.map .int)) := by
  refine Ok.bind (Ok.ok ?_)
  dsimp only [b__law_web_1, List.set]
  refine ok_asg (Ok.mono (mixR_at (n := n) rfl (pv_var rfl) g.bx (by omega) (by omega)) fun r ⟨ms, S1, er, hpm, fr1⟩ => ?_)
  subst er
  dsimp only [settle, List.set]
  have hlt := g.bx.lt
  have g1 : Gr l B (S1 ++ [O.lst (ms.map .int)]) := (g.fr fr1).push _
  have b1 : (S1 ++ [O.lst (ms.map .int)])[p]? = some (.lst (L.map lotD)) := push_lt (fr1.at hp hpl)
  have b2 : (S1 ++ [O.lst (ms.map .int)])[q]? = some (.lst (me.map .int)) := push_lt (fr1.at hq hql)
  have b3 : (S1 ++ [O.lst (ms.map .int)])[S1.length]? = some (.lst (ms.map .int)) := push_at
  have hll : l < S1.length := by rw [fr1.len]; exact hlt
  generalize S1 ++ [O.lst (ms.map .int)] = S2 at *
  have hit : itemsD (.loc q) S2 = some (me.map .int) := items_loc b2
  have hpu : ∀ x ∈ me.map D.int, x.pure = true := fun x hx => by
    obtain ⟨z, _, rfl⟩ := List.mem_map.mp hx
    rfl
  refine st_app2 (pv_var rfl) b1 (by simp; omega) ?_
  refine ev_f1 (ev_f1 (ev_sl (ev_pv (pv_var rfl) (eo_none (eo_some (ev_f2 (ev_pv (pv_var rfl) (Ok.mono (pick_at (n := n) (y := .loc q) rfl (pv_var rfl _) g1.bx hit (by simp; exact hql) (by simpa using hm0) (by simp; omega) hpu) fun r ⟨x, S3, er, hx, fr3⟩ => ?_))))))))
  subst er
  obtain ⟨z, hz, rfl⟩ := List.mem_map.mp hx
  have hz1 := hm1 z hz
  dsimp only [settle]
  have hmin : app2 .min (.int h) (.int z) = some (.int (if z < h then z else h)) := rfl
  refine ⟨_, hmin, _, _, rfl, ?_⟩
  have hk1 : 1 ≤ (if z < h then z else h) := by split <;> omega
  generalize (if z < h then z else h) = kk at *
  have b3' := fr3.at b3 (by omega)
  refine ⟨.fr ((ms.take kk.toNat).map .int), by rw [slice_loc b3', cut_take (by omega), ← List.map_take], ?_⟩
  refine ⟨_, app_sortF _ _, ?_⟩
  refine ⟨.d (lotD (sortI (ms.take kk.toNat))), rfl, _, S3, rfl, fr3.at b1 hpl, .inl (pure_ints _), ?_⟩
  refine ok_nil ⟨_, _, sortI (ms.take kk.toNat), _, rfl, ?_, lotW_of hpm h0 (by omega), (g1.fr fr3).set _ hBp hpl, set_ne (fr3.at b2 hql) hpq⟩
  rw [set_at (fr3.at b1 hpl), List.map_append]
  rfl
theorem ok_webW {n l : Nat} {S : Sto} {h m : Int} (hb : Bx S l) (h0 : 0 < h) (h4 : h ≤ 4) (m0 : 0 < m) (m8 : m ≤ 8) : Ok (callN T (n + 3) 12 [.loc l, .int h, .int m] S) fun r => ∃ L, r.1 = .d (webD h L) ∧ WebW h L ∧ (L.length : Int) = m ∧ Fr l S r.2 := by
  have hlt := hb.lt
  refine ok_fn (d := ⟨"_law_web", 3, 7, b__law_web⟩) rfl rfl ?_
  dsimp only [b__law_web]
  rw [show env0 7 [.loc l, .int h, .int m] = [some (.loc l), some (.int h), some (.int m), none, none, none, none] from rfl]
  have hms : ∀ (e : Env) (S : Sto), Ok ((evEs (callN T (n + 2)) (.cons (.lst (.cons (.cn (.int 1)) .nil)) (.cons (.lst (.cons (.cn (.int 1)) (.cons (.cn (.int 1)) (.cons (.cn (.int 1)) (.cons (.cn (.int 2)) .nil))))) (.cons (.lst (.cons (.cn (.int 1)) (.cons (.cn (.int 2)) (.cons (.cn (.int 2)) (.cons (.cn (.int 3)) .nil))))) (.cons (.lst (.cons (.cn (.int 1)) (.cons (.cn (.int 1)) (.cons (.cn (.int 2)) (.cons (.cn (.int 3)) (.cons (.cn (.int 4)) .nil)))))) .nil))))).1 S.length e S) fun r => r = ((List.range menus.length).map fun k => D.loc (S.length + k), S ++ menus.map fun f => O.lst (f.map .int)) := fun e S => by
    refine esL_cons (f := [1]) (pv_lst (pes_cons (pv_cn _) pes_nil) (by decide)) fun S => ?_
    refine esL_cons (f := [1, 1, 1, 2]) (pv_lst (pes_cons (pv_cn _) (pes_cons (pv_cn _) (pes_cons (pv_cn _) (pes_cons (pv_cn _) pes_nil)))) (by decide)) fun S => ?_
    refine esL_cons (f := [1, 2, 2, 3]) (pv_lst (pes_cons (pv_cn _) (pes_cons (pv_cn _) (pes_cons (pv_cn _) (pes_cons (pv_cn _) pes_nil)))) (by decide)) fun S => ?_
    refine esL_cons (f := [1, 1, 2, 3, 4]) (pv_lst (pes_cons (pv_cn _) (pes_cons (pv_cn _) (pes_cons (pv_cn _) (pes_cons (pv_cn _) (pes_cons (pv_cn _) pes_nil))))) (by decide)) fun S => ?_
    exact esL_nil
  refine ok_asg (Ok.mono (pickLs_at (n := n) (F := menus) rfl (hms _ _) hb (by decide) (by decide)) fun r ⟨me, S1, er, hme, fr1⟩ => ?_)
  subst er
  have hme : me ≠ [] ∧ me.length < 1000 ∧ ∀ x ∈ me, 1 ≤ x := by
    simp [menus] at hme
    rcases hme with rfl | rfl | rfl | rfl <;> refine ⟨by simp, by simp, ?_⟩ <;> intro x hx <;> simp at hx <;> omega
  dsimp only [settle, List.set]
  refine st_asgF (xs := []) (pv_lst pes_nil (by simp)) ?_
  dsimp only [List.set]
  have hlen : S1.length = S.length := fr1.len
  have hp0 : ((S1 ++ [O.lst (me.map .int)]) ++ [O.lst []])[(S1 ++ [O.lst (me.map .int)]).length]? = some (.lst (([] : List (List Int)).map lotD)) := push_at
  have hq0 : ((S1 ++ [O.lst (me.map .int)]) ++ [O.lst []])[S1.length]? = some (.lst (me.map .int)) := push_lt push_at
  have g0 : Gr l S ((S1 ++ [O.lst (me.map .int)]) ++ [O.lst []]) := (((Gr.refl hb).fr fr1).push _).push _
  have hpq : S1.length < (S1 ++ [O.lst (me.map .int)]).length := by simp
  generalize (S1 ++ [O.lst (me.map .int)]) ++ [O.lst []] = S0 at *
  generalize (S1 ++ [O.lst (me.map .int)]).length = p at *
  refine st_for (pi_rng0 (pv_var rfl) (by omega) (by omega)) ?_
  refine ok_rng (fun k e S' => ∃ o5 o6 L, e = [some (.loc l), some (.int h), some (.int m), some (.loc S1.length), some (.loc p), o5, o6] ∧ S'[p]? = some (.lst (L.map lotD)) ∧ S'[S1.length]? = some (.lst (me.map .int)) ∧ (L.length : Int) = k ∧ (∀ x ∈ L, LotW h x) ∧ Gr l S S') (by omega) ?_ ?_ ⟨_, _, [], rfl, hp0, hq0, rfl, by simp, g0⟩
  · rintro k e S' k0 k1 ⟨o5, o6, L, rfl, hp, hq, hk, hL, g⟩
    refine Ok.mono (ok_webW1 (n := n) g (by omega) h0 h4 hp hq (by omega) (by omega) (by omega) hme.1 hme.2.1 hme.2.2 (by omega)) fun r ⟨o5, o6, ns, S4, er, hp4, hn, g4, hq4⟩ => ?_
    subst er
    refine ⟨o5, o6, L ++ [ns], rfl, hp4, hq4, by simp; omega, ?_, g4⟩
    intro x hx
    rcases List.mem_append.mp hx with hx | hx
    · exact hL x hx
    · rw [List.mem_singleton.mp hx]; exact hn
  · rintro e S' ⟨o5, o6, L, rfl, hp, hq, hk, hL, g⟩
    refine Then.nx ?_
    refine st_ret (pv_tup (pes_cons (pv_var rfl) (pes_cons (pv_f1 (v := .d (.loc p)) (w := .d (.tup (L.map lotD))) (pv_var rfl) (by rw [app_tuple, items_loc hp]; rfl)) pes_nil)) (by simp)) ?_
    refine ⟨_, rfl, L, ?_, ⟨h0, h4, by omega, by omega, hL⟩, hk, ?_⟩
    · show (leave S.length (.d (webD h L)) S').1 = _
      rw [leave_pure (pure_webW _ _)]
    · show Fr l S (leave S.length (.d (webD h L)) S').2
      rw [leave_pure (pure_webW _ _)]
      exact g.leave hlt
theorem webW_at {n b l i : Nat} {e : Env} {S : Sto} {X Y : E} {h m : Int} (hi : e[i]? = some (some (.loc l))) (hX : PV (callN T (n + 3)) e S X (.d (.int h))) (hY : PV (callN T (n + 3)) e S Y (.d (.int m))) (hb : Bx S l) (h0 : 0 < h) (h4 : h ≤ 4) (m0 : 0 < m) (m8 : m ≤ 8) : Ok ((evE (callN T (n + 3)) (.call 12 (.cons (.var i) (.cons X (.cons Y .nil))) .nil [0, 1, 2])).v b e S) fun r => ∃ L S1, r = (.d (webD h L), S1) ∧ WebW h L ∧ (L.length : Int) = m ∧ Fr l S S1 := by
  refine ok_call (es_pv (pv_var hi) (es_pv hX (es_pv hY (es_nil (Ok.ok ?_)))))
  refine Ok.mono (ok_webW (n := n) hb h0 h4 m0 m8) fun r ⟨L, e1, w, hm, fr⟩ => ⟨L, r.2, ?_, w, hm, fr⟩
  rw [e1, leave_pure (pure_webW _ _), take_le (by rw [fr.len]; exact Nat.le_refl _)]

end K24
set_option linter.all false
set_option autoImplicit false
set_option maxRecDepth 100000
namespace K24
open Pv
/-! ### four hands in a row -/
def lane7 : List (List Int) := [[0], [1], [2], [3], [0, 1], [1, 2], [2, 3]]
theorem lane7_ok : ∀ x ∈ lane7, LotW 4 x := by
  intro x hx
  have : ∀ x ∈ lane7, x ≠ [] ∧ x.Pairwise (· < ·) ∧ ∀ g ∈ x, 0 ≤ g ∧ g < 4 := by decide
  obtain ⟨a, b, c⟩ := this x hx
  exact ⟨a, b, c⟩
theorem ok_lane {n l : Nat} {S : Sto} (hb : Bx S l) : Ok (callN T (n + 3) 13 [.loc l] S) fun r => ∃ L, r.1 = .d (webD 4 L) ∧ WebW 4 L ∧ (L.length : Int) = 8 ∧ Fr l S r.2 := by
  have hlt := hb.lt
  refine ok_fn (d := ⟨"_law_lane_web", 1, 2, b__law_lane_web⟩) rfl rfl ?_
  dsimp only [b__law_lane_web]
  rw [show env0 2 [.loc l] = [some (.loc l), none] from rfl]
  refine st_asgF (xs := lane7.map lotD) (pv_lst (pes_cons (pv_tup (pes_cons (pv_cn _) pes_nil) (by decide)) (pes_cons (pv_tup (pes_cons (pv_cn _) pes_nil) (by decide)) (pes_cons (pv_tup (pes_cons (pv_cn _) pes_nil) (by decide)) (pes_cons (pv_tup (pes_cons (pv_cn _) pes_nil) (by decide)) (pes_cons (pv_tup (pes_cons (pv_cn _) (pes_cons (pv_cn _) pes_nil)) (by decide)) (pes_cons (pv_tup (pes_cons (pv_cn _) (pes_cons (pv_cn _) pes_nil)) (by decide)) (pes_cons (pv_tup (pes_cons (pv_cn _) (pes_cons (pv_cn _) pes_nil)) (by decide)) pes_nil))))))) (by decide)) ?_
  dsimp only [List.set]
  have g0 : Gr l S (S ++ [O.lst (lane7.map lotD)]) := (Gr.refl hb).push _
  have hp0 : (S ++ [O.lst (lane7.map lotD)])[S.length]? = some (.lst (lane7.map lotD)) := push_at
  generalize S ++ [O.lst (lane7.map lotD)] = S0 at *
  refine st_app2 (pv_var rfl) hp0 (by simp [lane7]) ?_
  refine ev_f1 (ev_f1 (ev_sl (Ok.mono (mixR_at (n := n) rfl (pv_cn _) g0.bx (by omega) (by omega)) fun r ⟨ms, S1, er, hpm, fr1⟩ => ?_)))
  subst er
  refine eo_none (eo_some (ev_bin (ev_pv (pv_cn _) (Ok.mono (take_at (n := n + 1) (m := 4) rfl rfl fr1.bx (by omega) (by omega)) fun r ⟨q, S2, er, q0, q1, fr2⟩ => ?_))))
  subst er
  refine ⟨_, rfl, _, _, rfl, .fr ((ms.take (1 + q).toNat).map .int), by rw [slice_fr (by omega), ← List.map_take], ?_⟩
  refine ⟨_, app_sortF _ _, ?_⟩
  have g2 := (g0.fr fr1).fr fr2
  have hp2 := fr2.at (fr1.at hp0 (by omega)) (by omega)
  refine ⟨.d (lotD (sortI (ms.take (1 + q).toNat))), rfl, _, S2, rfl, hp2, .inl (pure_ints _), ?_⟩
  have hlo : LotW 4 (sortI (ms.take (1 + q).toNat)) := lotW_of hpm (by omega) (by omega)
  generalize sortI (ms.take (1 + q).toNat) = lo at *
  have hok : ∀ x ∈ lane7 ++ [lo], LotW 4 x := fun x hx => by
    rcases List.mem_append.mp hx with hx | hx
    · exact lane7_ok x hx
    · rw [List.mem_singleton.mp hx]; exact hlo
  have hl8 : (lane7 ++ [lo]).length = 8 := by rw [List.length_append]; rfl
  have hp3 : (S2.set S.length (.lst (lane7.map lotD ++ [lotD lo])))[S.length]? = some (.lst ((lane7 ++ [lo]).map lotD)) := by
    rw [set_at hp2, List.map_append]
    rfl
  have g3 : Gr l S (S2.set S.length (.lst (lane7.map lotD ++ [lotD lo]))) := g2.set _ (Nat.le_refl _) (by omega)
  generalize S2.set S.length (.lst (lane7.map lotD ++ [lotD lo])) = S3 at *
  refine ok_ret (ev_tup (es_pv (pv_cn _) (es_cons (ev_f1 (Ok.mono (mix_at (n := n) (f := lotD) rfl (pv_var rfl) hp3 (by omega) g3.bx (by omega) fun x _ => pure_ints x) fun r ⟨L, S4, er, hpm, fr4⟩ => ?_)))))
  subst er
  refine ⟨_, rfl, es_nil ⟨by simp, _, rfl, L, ?_, ⟨by omega, by omega, ?_, ?_, fun x hx => hok x (hpm.subset hx)⟩, ?_, ?_⟩⟩
  · show (leave S.length (.d (webD 4 L)) S4).1 = _
    rw [leave_pure (pure_webW _ _)]
  · rw [hpm.length_eq, hl8]; omega
  · rw [hpm.length_eq, hl8]; omega
  · rw [hpm.length_eq, hl8]; rfl
  · show Fr l S (leave S.length (.d (webD 4 L)) S4).2
    rw [leave_pure (pure_webW _ _)]
    exact (g3.fr fr4).leave hlt
theorem ok_anyweb {n l : Nat} {S : Sto} {k : Int} (hb : Bx S l) : Ok (callN T (n + 4) 14 [.loc l, .int k] S) fun r => ∃ h L, r.1 = .d (webD h L) ∧ WebW h L ∧ Fr l S r.2 := by
  have hlt := hb.lt
  refine ok_fn (d := ⟨"_law_any_web", 2, 2, b__law_any_web⟩) rfl rfl ?_
  dsimp only [b__law_any_web]
  rw [show env0 2 [.loc l, .int k] = [some (.loc l), some (.int k)] from rfl]
  have fin : ∀ (h : Int) (L : List (List Int)) (S1 : Sto), WebW h L → Fr l S S1 → ∃ h' L', (leave S.length (.d (webD h L)) S1).1 = .d (webD h' L') ∧ WebW h' L' ∧ Fr l S (leave S.length (.d (webD h L)) S1).2 := fun h L S1 w fr => by
    rw [leave_pure (pure_webW _ _), take_le (by rw [fr.len]; exact Nat.le_refl _)]
    exact ⟨h, L, rfl, w, fr⟩
  refine st_if (k := k == 0) (pt_of (pv_cmp (pv_var rfl) (pv_cn _) rfl) rfl rfl) (fun _ => ?_) (fun _ => ?_)
  · refine ok_ret (ok_call (es_pv (pv_var rfl) (es_nil (Ok.ok ?_))))
    refine Ok.mono (ok_lane (n := n) hb) fun r ⟨L, e1, w, _, fr⟩ => ?_
    rw [e1, leave_pure (pure_webW _ _), take_le (by rw [fr.len]; exact Nat.le_refl _)]
    exact Then.rt ⟨_, rfl, fin _ _ _ w fr⟩
  refine st_if (k := k == 1) (pt_of (pv_cmp (pv_var rfl) (pv_cn _) rfl) rfl rfl) (fun _ => ?_) (fun _ => ?_)
  · refine ok_ret (Ok.mono (webW_at (n := n) rfl (pv_cn _) (pv_cn _) hb (by omega) (by omega) (by omega) (by omega)) fun r ⟨L, S1, er, w, _, fr⟩ => ?_)
    subst er
    exact Then.rt ⟨_, rfl, fin _ _ _ w fr⟩
  refine ok_ret (ok_call (es_pv (pv_var rfl) (es_cons (ev_bin (ev_pv (pv_cn _) (Ok.mono (take_at (n := n + 2) (m := 4) rfl rfl hb (by omega) (by omega)) fun r ⟨q1, S1, er, a0, a1, fr1⟩ => ?_))))))
  subst er
  refine ⟨_, rfl, es_cons (ev_bin (ev_pv (pv_cn _) (Ok.mono (take_at (n := n + 2) (m := 8) rfl rfl fr1.bx (by omega) (by omega)) fun r ⟨q2, S2, er, c0, c1, fr2⟩ => ?_)))⟩
  subst er
  refine ⟨_, rfl, es_nil (Ok.ok ?_)⟩
  refine Ok.mono (ok_webW (n := n) (h := 1 + q1) (m := 1 + q2) fr2.bx (by omega) (by omega) (by omega) (by omega)) fun r ⟨L, e1, w, _, fr3⟩ => ?_
  have fr := (fr1.trans fr2).trans fr3
  rw [e1, leave_pure (pure_webW _ _), take_le (by rw [fr.len]; exact Nat.le_refl _)]
  exact ⟨_, rfl, fin _ _ _ w fr⟩
theorem anyweb_at {n b l i j : Nat} {e : Env} {S : Sto} {k : Int} (hi : e[i]? = some (some (.loc l))) (hj : e[j]? = some (some (.int k))) (hb : Bx S l) : Ok ((evE (callN T (n + 4)) (.call 14 (.cons (.var i) (.cons (.var j) .nil)) .nil [0, 1])).v b e S) fun r => ∃ h L S1, r = (.d (webD h L), S1) ∧ WebW h L ∧ Fr l S S1 := by
  refine ok_call (es_pv (pv_var hi) (es_pv (pv_var hj) (es_nil (Ok.ok ?_))))
  refine Ok.mono (ok_anyweb (n := n) hb) fun r ⟨h, L, e1, w, fr⟩ => ⟨h, L, r.2, ?_, w, fr⟩
  rw [e1, leave_pure (pure_webW _ _), take_le (by rw [fr.len]; exact Nat.le_refl _)]

end K24
set_option linter.all false
set_option autoImplicit false
set_option maxRecDepth 100000
namespace K24
open Pv
/-! ### a row of letters from a bag -/
theorem rng_ne {n : Nat} (h : 0 < n) : rngI n ≠ [] := by
  obtain ⟨m, rfl⟩ : ∃ m, n = m + 1 := ⟨n - 1, by omega⟩
  unfold rngI
  rw [List.range_succ, List.map_append]
  simp
theorem rep_ints {x z : Int} (h : z = 0 ∨ z = 1 ∨ z = 2 ∨ z = 6) : repl z [D.int x] = (List.replicate z.toNat x).map .int := by
  rcases h with rfl | rfl | rfl | rfl <;> rfl
theorem ok_bag1 {n b l p : Nat} {B S : Sto} {h x : Int} {L : List (List Int)} {bag : List Int} {o3 : Option D} (g : Gr l B S) (hp : S[p]? = some (.lst (bag.map .int))) (hpl : p ≠ l) (x0 : 0 ≤ x) (x1 : x < L.length) (hbl : bag.length < 1000) (hB : l < B.length) :
    Ok (evTg (callN T (n + 2)) (.var 3) b (.int x) [some (.loc l), some (webD h L), some (.loc p), o3] S >>= fun r => evSs (callN T (n + 2)) b__law_bag_1 b r.1 r.2) fun r => ∃ q z S1, r = (.nx, [some (.loc l), some (webD h L), some (.loc q), some (.int x)], S1) ∧ S1[q]? = some (.lst ((bag ++ List.replicate z x).map .int)) ∧ z ≤ 6 ∧ B.length ≤ q ∧ Gr l B S1 := by
  refine Ok.bind (Ok.ok ?_)
  dsimp only [b__law_bag_1, List.set]
  have hw : ∃ w : Int, (w = 6 ∨ w = 1) ∧ PV (callN T (n + 2)) [some (.loc l), some (webD h L), some (.loc p), some (.int x)] S (.ite (.cmp .eq (.f1 .len (.idx (.idx (.var 1) (.cn (.int 1))) (.var 3))) (.cn (.int 1))) (.cn (.int 6)) (.cn (.int 1))) (.d (.int w)) := by
    have hc : PT (callN T (n + 2)) [some (.loc l), some (webD h L), some (.loc p), some (.int x)] S (.cmp .eq (.f1 .len (.idx (.idx (.var 1) (.cn (.int 1))) (.var 3))) (.cn (.int 1))) ((((lot L x).length : Nat) : Int) == 1) := pt_of (pv_cmp (pv_lenM (f := D.int) (pv_idx (pv_lots rfl) (pv_var rfl) rfl (lot_at x0 x1))) (pv_cn _) rfl) rfl rfl
    cases hk : ((((lot L x).length : Nat) : Int) == 1) with
    | true => exact ⟨6, .inl rfl, pv_ite (by rw [hk] at hc; exact hc) (fun _ => pv_cn _) (fun h => by cases h)⟩
    | false => exact ⟨1, .inr rfl, pv_ite (by rw [hk] at hc; exact hc) (fun h => by cases h) (fun _ => pv_cn _)⟩
  obtain ⟨w, hw6, hw⟩ := hw
  refine ok_asg (ev_bin (ev_pv (pv_var rfl) (ev_bin (ev_pv (pv_lst (pes_cons (pv_var rfl) pes_nil) (by simp)) (Ok.mono (pickF_at (n := n) (xs := [.int 0, .int 1, .int 1, .int 2, .int w]) rfl (pv_lst (pes_cons (pv_cn _) (pes_cons (pv_cn _) (pes_cons (pv_cn _) (pes_cons (pv_cn _) (pes_cons hw pes_nil))))) (by simp) _) rfl g.bx (by simp) (by simp) (fun x hx => by simp at hx; rcases hx with rfl | rfl | rfl | rfl <;> rfl)) fun r ⟨y, S1, er, hy, fr⟩ => ?_)))))
  subst er
  have hz : ∃ z : Int, y = .int z ∧ (z = 0 ∨ z = 1 ∨ z = 2 ∨ z = 6) := by
    simp at hy
    rcases hy with rfl | rfl | rfl | rfl
    · exact ⟨_, rfl, by omega⟩
    · exact ⟨_, rfl, by omega⟩
    · exact ⟨_, rfl, by omega⟩
    · exact ⟨_, rfl, by omega⟩
  obtain ⟨z, rfl, hz⟩ := hz
  refine ⟨.fr ((List.replicate z.toNat x).map .int), ?_, .fr ((bag ++ List.replicate z.toNat x).map .int), ?_, ?_⟩
  · rw [binV_repf, if_pos ⟨by simp, by omega, by omega⟩, rep_ints hz]
  · rw [binV_catLF (fr.at hp hpl) (by simp; omega), List.map_append]
  · dsimp only [settle, List.set]
    exact ok_nil ⟨_, z.toNat, _, rfl, push_at, by omega, by rw [fr.len]; exact g.len, (g.fr fr).push _⟩
theorem ok_bag {n l : Nat} {S : Sto} {h : Int} {L : List (List Int)} (hb : Bx S l) (l0 : 0 < L.length) (l8 : L.length ≤ 8) : Ok (callN T (n + 3) 15 [.loc l, webD h L] S) fun r => ∃ bag : List Int, r.1 = .fr (bag.map .int) ∧ bag ≠ [] ∧ (∀ x ∈ bag, 0 ≤ x ∧ x < L.length) ∧ bag.length < 100 ∧ Fr l S r.2 := by
  have hlt := hb.lt
  refine ok_fn (d := ⟨"_law_bag", 2, 4, b__law_bag⟩) rfl rfl ?_
  dsimp only [b__law_bag]
  rw [show env0 4 [.loc l, webD h L] = [some (.loc l), some (webD h L), none, none] from rfl]
  refine st_asgF (xs := []) (pv_lst pes_nil (by simp)) ?_
  dsimp only [List.set]
  have hp0 : (S ++ [O.lst []])[S.length]? = some (.lst (([] : List Int).map .int)) := push_at
  have g0 : Gr l S (S ++ [O.lst []]) := (Gr.refl hb).push _
  generalize S ++ [O.lst []] = S0 at *
  refine st_for (pi_rng0 (pv_lenM (pv_lots rfl)) (by omega) (by omega)) ?_
  refine ok_rng (fun k e S' => ∃ (p : Nat) (bag : List Int) (o3 : Option D), e = [some (.loc l), some (webD h L), some (.loc p), o3] ∧ S'[p]? = some (.lst (bag.map .int)) ∧ S.length ≤ p ∧ (∀ x ∈ bag, 0 ≤ x ∧ x < L.length) ∧ (bag.length : Int) ≤ 6 * k ∧ Gr l S S') (by omega) ?_ ?_ ⟨_, [], _, rfl, hp0, Nat.le_refl _, by simp, by simp, g0⟩
  · rintro x e S' x0 x1 ⟨p, bag, o3, rfl, hp, hBp, hr, hbl, g⟩
    refine Ok.mono (ok_bag1 (n := n) g hp (by omega) x0 x1 (by omega) hlt) fun r ⟨q, z, S1, er, hq, z6, hBq, g1⟩ => ?_
    subst er
    refine ⟨q, _, _, rfl, hq, hBq, ?_, by simp; omega, g1⟩
    intro y hy
    rcases List.mem_append.mp hy with hy | hy
    · exact hr y hy
    · rw [(List.mem_replicate.mp hy).2]
      exact ⟨x0, x1⟩
  · rintro e S' ⟨p, bag, o3, rfl, hp, hBp, hr, hbl, g⟩
    refine Then.nx (ok_ret (ev_ite (et_pt (k := decide ((0 : Int) < ((bag.map D.int).length : Int))) (pt_of (pv_cmp (pv_lenL (pv_var rfl) hp) (pv_cn _) rfl) rfl rfl) ⟨fun hc => ?_, fun _ => ?_⟩)))
    · refine ev_pv (pv_var rfl) ⟨_, rfl, bag, ?_, ?_, hr, by omega, ?_⟩
      · show (leave S.length (.d (.loc p)) S').1 = _
        rw [leave_own hp hBp fun y hy => by
          obtain ⟨z, _, rfl⟩ := List.mem_map.mp hy
          rfl]
      · rintro rfl
        simp at hc
      · show Fr l S (leave S.length (.d (.loc p)) S').2
        rw [leave_own hp hBp fun y hy => by
          obtain ⟨z, _, rfl⟩ := List.mem_map.mp hy
          rfl]
        exact g.leave hlt
    · refine ev_pv (pv_list (pv_lenM (pv_lots rfl)) (by omega) (by omega)) ⟨_, rfl, rngI L.length, ?_, ?_, ?_, by simp [rngI]; omega, ?_⟩
      · show (leave S.length (.fr (rngD 0 L.length)) S').1 = _
        rw [rngD_int, leave_frP fun y hy => by
          obtain ⟨z, _, rfl⟩ := List.mem_map.mp hy
          rfl]
      · exact rng_ne l0
      · intro y hy
        have := rngI_mem.mp hy
        omega
      · show Fr l S (leave S.length (.fr (rngD 0 L.length)) S').2
        rw [rngD_int, leave_frP fun y hy => by
          obtain ⟨z, _, rfl⟩ := List.mem_map.mp hy
          rfl]
        exact g.leave hlt
theorem ok_row {n l : Nat} {S : Sto} {h m : Int} {L : List (List Int)} (hb : Bx S l) (l0 : 0 < L.length) (l8 : L.length ≤ 8) (m0 : 0 ≤ m) (m1 : m < 900) : Ok (callN T (n + 4) 16 [.loc l, webD h L, .int m] S) fun r => ∃ row : List Int, r.1 = .d (lotD row) ∧ (∀ x ∈ row, 0 ≤ x ∧ x < L.length) ∧ (row.length : Int) = m ∧ Fr l S r.2 := by
  have hlt := hb.lt
  refine ok_fn (d := ⟨"_law_row", 3, 5, b__law_row⟩) rfl rfl ?_
  dsimp only [b__law_row]
  rw [show env0 5 [.loc l, webD h L, .int m] = [some (.loc l), some (webD h L), some (.int m), none, none] from rfl]
  refine ok_asg (ok_call (es_pv (pv_var rfl) (es_pv (pv_var rfl) (es_nil (Ok.ok ?_)))))
  refine Ok.mono (ok_bag (n := n) hb l0 l8) fun r ⟨bag, e1, hne, hr, hbl, fr1⟩ => ?_
  have hpu : ∀ x ∈ bag.map D.int, x.pure = true := fun x hx => by
    obtain ⟨z, _, rfl⟩ := List.mem_map.mp hx
    rfl
  rw [e1, leave_frP hpu, take_le (by rw [fr1.len]; exact Nat.le_refl _)]
  obtain ⟨r, S1⟩ := r
  dsimp only at e1 fr1
  dsimp only [settle, List.set]
  have g0 : Gr l S (S1 ++ [O.lst (bag.map .int)]) := ((Gr.refl hb).fr fr1).push _
  have hp0 : (S1 ++ [O.lst (bag.map .int)])[S1.length]? = some (.lst (bag.map .int)) := push_at
  have hll : S1.length ≠ l := by have := fr1.len; omega
  generalize S1 ++ [O.lst (bag.map .int)] = S2 at *
  refine ok_ret (ev_f1 (ok_comp (Ok.eq (pi_rngI (pv_var rfl) m0 (by omega) _) ?_)))
  refine ok_ccnt (fun k ys S' => ∃ zs : List Int, ys = zs.map .int ∧ zs.length = k ∧ (∀ x ∈ zs, 0 ≤ x ∧ x < L.length) ∧ Fr l S2 S') (fun _ _ _ _ => chk_nil _) ?_ ?_ ⟨[], rfl, rfl, by simp, Fr.refl g0.bx⟩
  · rintro k x ys S' hx ⟨zs, rfl, hz, hzr, fr⟩
    rw [List.getElem?_map] at hx
    obtain ⟨t, ht, rfl⟩ := Option.map_eq_some_iff.mp hx
    have hit : itemsD (.loc S1.length) S' = some (bag.map .int) := items_loc (fr.at hp0 hll)
    refine Ok.bind (Ok.ok (Ok.bind (Ok.ok (Ok.bind (Ok.bind (Ok.mono (pick_at (n := n + 1) (y := .loc S1.length) rfl (pv_var rfl _) fr.bx hit (by simp; exact hll) (by simpa using hne) (by simp; omega) hpu) fun r ⟨y, S3, er, hy, fr3⟩ => ?_))))))
    subst er
    obtain ⟨y, hy2, rfl⟩ := List.mem_map.mp hy
    refine Ok.ok (Ok.ok ⟨zs ++ [y], ?_, by simp; omega, ?_, fr.trans fr3⟩)
    · simp [settle]
    · intro x hx
      rcases List.mem_append.mp hx with hx | hx
      · exact hzr x hx
      · rw [List.mem_singleton.mp hx]
        exact hr y hy2
  · rintro ys S' ⟨zs, rfl, hz, hzr, fr⟩
    rw [List.length_map] at hz
    have : (rngI m.toNat).length = m.toNat := by simp [rngI]
    refine ⟨.d (lotD zs), rfl, _, rfl, zs, ?_, hzr, by omega, ?_⟩
    · show (leave S.length (.d (lotD zs)) S').1 = _
      rw [leave_pure (pure_ints _)]
    · show Fr l S (leave S.length (.d (lotD zs)) S').2
      rw [leave_pure (pure_ints _)]
      exact (g0.fr fr).leave hlt
theorem row_at {n b l i : Nat} {e : Env} {S : Sto} {X : E} {h : Int} {L : List (List Int)} {P : Int → Prop} {Y : E} (hi : e[i]? = some (some (.loc l))) (hX : PV (callN T (n + 4)) e S X (.d (webD h L))) (hY : Ok ((evE (callN T (n + 4)) Y).v S.length e S) fun r => ∃ m S1, r = (.d (.int m), S1) ∧ P m ∧ 0 ≤ m ∧ m < 900 ∧ Fr l S S1) (l0 : 0 < L.length) (l8 : L.length ≤ 8) : Ok ((evE (callN T (n + 4)) (.call 16 (.cons (.var i) (.cons X (.cons Y .nil))) .nil [0, 1, 2])).v b e S) fun r => ∃ row S1, r = (.d (lotD row), S1) ∧ (∀ x ∈ row, 0 ≤ x ∧ x < L.length) ∧ P row.length ∧ row.length < 900 ∧ Fr l S S1 := by
  refine ok_call (es_pv (pv_var hi) (es_pv hX (es_cons (Ok.mono hY fun r ⟨m, S1, er, hm, m0, m1, fr1⟩ => ?_))))
  subst er
  refine es_nil (Ok.ok (Ok.mono (ok_row (n := n) fr1.bx l0 l8 m0 m1) fun r ⟨row, e1, hr, hl, fr2⟩ => ?_))
  have fr := fr1.trans fr2
  refine ⟨row, r.2, ?_, hr, by rw [hl]; exact hm, by omega, fr⟩
  rw [e1, leave_pure (pure_ints _), take_le (by rw [fr.len]; exact Nat.le_refl _)]

/-! ### an eye of any kind -/
theorem randc {n b l i j p : Nat} {e : Env} {S : Sto} {ns : List Int} (hb : Bx S l) (hj : e[j]? = some (some (.loc p))) (hp : S[p]? = some (.lst (ns.map .int))) (hpl : p ≠ l) (h0 : ∀ d, ((wipeE e [i]).set i (some d))[0]? = some (some (.loc l))) (hi : ∀ d, ((wipeE e [i]).set i (some d))[i]? = some (some d)) :
    Ok ((evE (callN T (n + 1)) (.comp (.var i) (.var i) (.e (.var j)) (.cons (.cmp .eq (.call 8 (.cons (.var 0) (.cons (.cn (.int 2)) .nil)) .nil [0, 1]) (.cn (.int 0))) .nil) [i])).v b e S) fun r => ∃ (zs : List Int) (S1 : Sto), r = (.fr (zs.map .int), S1) ∧ zs.Sublist ns ∧ Fr l S S1 := by
  refine ok_comp (Ok.eq (pi_loc (pv_var hj) hp b) ?_)
  refine ok_ccnt (fun k ys S' => ∃ zs : List Int, ys = zs.map .int ∧ zs.Sublist (ns.take k) ∧ Fr l S S') (fun k ys S' ⟨zs, _, _, fr⟩ => chk_one (fr.at hp hpl)) ?_ ?_ ⟨[], rfl, by simp, Fr.refl hb⟩
  · rintro k x ys S' hx ⟨zs, rfl, hz, fr⟩
    rw [List.getElem?_map] at hx
    obtain ⟨t, ht, rfl⟩ := Option.map_eq_some_iff.mp hx
    refine Ok.bind (Ok.ok (Ok.bind (e2_c (et_of rfl (ev_cmp (Ok.mono (take_at (n := n) (m := 2) (h0 _) rfl fr.bx (by omega) (by omega)) fun r ⟨q, S3, er, q0, q1, fr3⟩ => ?_))))))
    subst er
    refine ev_pv (pv_cn _) ⟨q == 0, rfl, _, rfl, fun hk => Ok.ok ?_, fun hk => ?_⟩
    · refine Ok.bind (Ok.bind (ev_pv (pv_var (hi _)) (Ok.ok (Ok.ok ⟨zs ++ [t], by simp [settle], ?_, fr.trans fr3⟩))))
      rw [take_succ' ht]
      exact hz.append (List.Sublist.refl _)
    · rw [show (q == 0) = false from hk]
      refine Ok.ok ⟨zs, by simp, ?_, fr.trans fr3⟩
      rw [take_succ' ht]
      exact hz.trans (List.sublist_append_left _ _)
  · rintro ys S' ⟨zs, rfl, hz, fr⟩
    rw [List.length_map, List.take_length] at hz
    exact ⟨zs, S', rfl, hz, fr⟩
theorem ok_eye {n l : Nat} {S : Sto} {h : Int} {L : List (List Int)} (hb : Bx S l) (h0 : 0 < h) (h4 : h ≤ 4) (l0 : 0 < L.length) (l8 : L.length ≤ 8) : Ok (callN T (n + 3) 17 [.loc l, webD h L] S) fun r => ∃ eye : List Int, r.1 = .d (lotD eye) ∧ eye.Sublist (rngI L.length) ∧ Fr l S r.2 := by
  have hlt := hb.lt
  refine ok_fn (d := ⟨"_law_eye", 2, 10, b__law_eye⟩) rfl rfl ?_
  dsimp only [b__law_eye]
  rw [show env0 10 [.loc l, webD h L] = [some (.loc l), some (webD h L), none, none, none, none, none, none, none, none] from rfl]
  refine st_asgF (xs := (rngI L.length).map .int) ?_ ?_
  · rw [← rngD_int]
    exact pv_list (pv_lenM (pv_lots rfl)) (by omega) (by omega)
  dsimp only [List.set]
  have g0 : Gr l S (S ++ [O.lst ((rngI L.length).map .int)]) := (Gr.refl hb).push _
  have hp0 : (S ++ [O.lst ((rngI L.length).map .int)])[S.length]? = some (.lst ((rngI L.length).map .int)) := push_at
  generalize S ++ [O.lst ((rngI L.length).map .int)] = S0 at *
  refine ok_asg (Ok.mono (take_at (n := n + 1) (m := 9) rfl rfl g0.bx (by omega) (by omega)) fun r ⟨kd, S1, er, k0, k1, fr1⟩ => ?_)
  subst er
  dsimp only [settle, List.set]
  have g1 := g0.fr fr1
  have hp1 := fr1.at hp0 (by omega)
  have fin : ∀ (eye : List Int) (S' : Sto), eye.Sublist (rngI L.length) → Gr l S S' → ∃ v, flV (.rt (.d (lotD eye))) = some v ∧ ∃ eye : List Int, (leave S.length v S').1 = .d (lotD eye) ∧ eye.Sublist (rngI L.length) ∧ Fr l S (leave S.length v S').2 := fun eye S' hs g => by
    refine ⟨_, rfl, eye, ?_, hs, ?_⟩
    · rw [leave_pure (pure_ints _)]
    · rw [leave_pure (pure_ints _)]
      exact g.leave hlt
  refine ok_asg (ev_sl (Ok.mono (mixR_at (n := n) rfl (pv_hands rfl) g1.bx (by omega) (by omega)) fun r ⟨ms, S2, er, hpm, fr2⟩ => ?_))
  subst er
  have hk : Ok (evO (callN T (n + 2)) (.some (.ite (.cmp .lt (.var 3) (.cn (.int 2))) (.cn (.int 1)) (.bin .add (.cn (.int 1)) (.call 8 (.cons (.var 0) (.cons (.idx (.var 1) (.cn (.int 0))) .nil)) .nil [0, 1])))) S.length [some (.loc l), some (webD h L), some (.loc S.length), some (.int kd), none, none, none, none, none, none] S2) fun r => ∃ (i : Int) (S3 : Sto), r = (some i, S3) ∧ 1 ≤ i ∧ Fr l S2 S3 := by
    refine eo_some (ev_ite (et_pt (k := decide (kd < 2)) (pt_of (pv_cmp (pv_var rfl) (pv_cn _) rfl) rfl rfl) ⟨fun _ => ev_pv (pv_cn _) ⟨1, S2, rfl, 1, S2, rfl, by omega, Fr.refl fr2.bx⟩, fun _ => ev_bin (ev_pv (pv_cn _) (Ok.mono (take_at (n := n + 1) (m := h) rfl (pv_hands rfl _) fr2.bx (by omega) (by omega)) fun r ⟨q, S3, er, q0, q1, fr3⟩ => ?_))⟩))
    subst er
    exact ⟨_, rfl, _, _, rfl, 1 + q, S3, rfl, by omega, fr3⟩
  refine eo_none (Ok.mono hk fun r ⟨i, S3, er, i1, fr3⟩ => ?_)
  subst er
  refine ⟨.fr ((ms.take i.toNat).map .int), by rw [slice_fr (by omega), ← List.map_take], ?_⟩
  dsimp only [settle, List.set]
  generalize ms.take i.toNat = hs at *
  have g3 := ((g1.fr fr2).fr fr3).push [O.lst (hs.map .int)]
  have hp3 : (S3 ++ [O.lst (hs.map .int)])[S.length]? = some (.lst ((rngI L.length).map .int)) := push_lt (fr3.at (fr2.at hp1 (by omega)) (by omega))
  have hh3 : (S3 ++ [O.lst (hs.map .int)])[S3.length]? = some (.lst (hs.map .int)) := push_at
  have hhl : S3.length ≠ l := by
    have := (fr2.trans fr3).bx.lt
    have := fr3.bx.lt
    omega
  generalize S3 ++ [O.lst (hs.map .int)] = S4 at *
  generalize S3.length = hp at *
  generalize hcs : L.map (fun lo => (((hs.filter fun d => inn d lo).length : Nat) : Int)) = cs
  have hcl : cs.length = L.length := by rw [← hcs, List.length_map]
  refine st_asgF (xs := cs.map .int) ?_ ?_
  · have hcomp := pv_compM (rc := callN T (n + 2)) (e := [some (.loc l), some (webD h L), some (.loc S.length), some (.int kd), some (.loc hp), none, none, none, none, none]) (S := S4) (x := .f1 .len (.comp (.var 7) (.var 7) (.e (.var 4)) (.cons (.cmp .inn (.var 7) (.var 6)) .nil) [7])) (t := .var 6) (it := .e (.idx (.var 1) (.cn (.int 1)))) (ifs := .nil) (vs := [6]) (f := lotD) (ns := L) (fun _ => true) (fun lo => .int ((hs.filter fun d => inn d lo).length : Nat)) (pi_e (pv_lots rfl) rfl rfl) (chk_nil _) fun lo _ => ⟨_, fun b => rfl, pts_nil, fun _ => pv_lenF (f := D.int) (l := hs.filter fun d => inn d lo) (pv_compI (c := [(hp, .lst (hs.map .int))]) (ns := hs) (fun d => inn d lo) .int (pi_loc (pv_var rfl) hh3) (chk_one hh3) fun d _ => ⟨pts_one (pt_of (pv_cmp (pv_var rfl) (pv_var rfl) (in_cmp _ _ _)) rfl rfl), fun _ => pv_var rfl⟩)⟩
    rw [filter_yes] at hcomp
    rw [← hcs, List.map_map]
    exact hcomp
  dsimp only [List.set]
  have g5 := g3.push [O.lst (cs.map .int)]
  have hp5 : (S4 ++ [O.lst (cs.map .int)])[S.length]? = some (.lst ((rngI L.length).map .int)) := push_lt hp3
  have hh5 : (S4 ++ [O.lst (cs.map .int)])[hp]? = some (.lst (hs.map .int)) := push_lt hh3
  have hc5 : (S4 ++ [O.lst (cs.map .int)])[S4.length]? = some (.lst (cs.map .int)) := push_at
  generalize S4 ++ [O.lst (cs.map .int)] = S5 at *
  generalize S4.length = cp at *
  have hat : ∀ (x : Int), x ∈ rngI L.length → ∀ (e : Env), e[5]? = some (some (.loc cp)) → e[9]? = some (some (.int x)) → PV (callN T (n + 2)) e S5 (.idx (.var 5) (.var 9)) (.d (.int (ati cs x))) := fun x hx e h5 h9 => by
    have := rngI_mem.mp hx
    exact pv_idxL (pv_var h5) hc5 (pv_var h9) (atI_ints (by omega) (by omega))
  refine st_if (k := decide (kd < 3)) (pt_of (pv_cmp (pv_var rfl) (pv_cn _) rfl) rfl rfl) (fun _ => ?_) (fun _ => ?_)
  · generalize hfd : (rngI L.length).filter (fun x => decide (0 < ati cs x)) = fd
    have hfs : fd.Sublist (rngI L.length) := by rw [← hfd]; exact List.filter_sublist
    refine st_asgF (xs := fd.map .int) ?_ ?_
    · rw [← hfd]
      exact pv_compI (c := [(S.length, .lst ((rngI L.length).map .int))]) (ns := rngI L.length) (fun x => decide (0 < ati cs x)) .int (pi_loc (pv_var rfl) hp5) (chk_one hp5) fun x hx => ⟨pts_one (pt_of (pv_cmp (hat x hx _ rfl rfl) (pv_cn _) rfl) rfl rfl), fun _ => pv_var rfl⟩
    dsimp only [List.set]
    have g6 := g5.push [O.lst (fd.map .int)]
    have hf6 : (S5 ++ [O.lst (fd.map .int)])[S5.length]? = some (.lst (fd.map .int)) := push_at
    have hfl : S5.length ≠ l := by have := g5.bx.lt; omega
    generalize S5 ++ [O.lst (fd.map .int)] = S6 at *
    generalize S5.length = fp at *
    refine ok_ret (ev_ite (et_pt (k := !(kd == 1)) (pt_of (pv_cmp (pv_var rfl) (pv_cn _) rfl) rfl rfl) ⟨fun _ => ?_, fun _ => ?_⟩))
    · exact ev_pv (pv_f1 (w := .d (lotD fd)) (pv_var rfl) (by rw [app_tuple, items_loc hf6]; rfl)) (Then.rt (fin fd S6 hfs g6))
    · refine ev_f1 (Ok.mono (randc (n := n + 1) (ns := fd) g6.bx rfl hf6 hfl (fun _ => rfl) (fun _ => rfl)) fun r ⟨zs, S7, er, hz, fr7⟩ => ?_)
      subst er
      exact ⟨.d (lotD zs), rfl, Then.rt (fin zs S7 (hz.trans hfs) (g6.fr fr7))⟩
  refine st_if (k := kd == 3) (pt_of (pv_cmp (pv_var rfl) (pv_cn _) rfl) rfl rfl) (fun _ => ?_) (fun _ => ?_)
  · have hc := pv_compI (rc := callN T (n + 2)) (e := [some (.loc l), some (webD h L), some (.loc S.length), some (.int kd), some (.loc hp), some (.loc cp), none, none, none, none]) (S := S5) (x := .var 9) (i := 9) (it := .e (.var 2)) (ifs := .cons (.cmp .eq (.idx (.var 5) (.var 9)) (.f1 .len (.var 4))) .nil) (vs := [9]) (c := [(S.length, .lst ((rngI L.length).map .int))]) (ns := rngI L.length) (fun x => ati cs x == ((hs.map D.int).length : Int)) .int (pi_loc (pv_var rfl) hp5) (chk_one hp5) fun x hx => ⟨pts_one (pt_of (pv_cmp (hat x hx _ rfl rfl) (pv_lenL (pv_var rfl) hh5) rfl) rfl rfl), fun _ => pv_var rfl⟩
    exact st_ret (pv_f1 (w := .d (lotD _)) hc (by rw [app_tuple, items_fr]; rfl)) (Then.rt (fin _ S5 List.filter_sublist g5))
  refine st_if (k := kd == 4) (pt_of (pv_cmp (pv_var rfl) (pv_cn _) rfl) rfl rfl) (fun _ => ?_) (fun _ => ?_)
  · exact st_ret (pv_tup pes_nil (by simp)) (Then.rt (fin [] S5 (List.nil_sublist _) g5))
  refine st_if (k := kd == 5) (pt_of (pv_cmp (pv_var rfl) (pv_cn _) rfl) rfl rfl) (fun _ => ?_) (fun _ => ?_)
  · exact st_ret (pv_f1 (w := .d (lotD (rngI L.length))) (pv_var rfl) (by rw [app_tuple, items_loc hp5]; rfl)) (Then.rt (fin _ S5 (List.Sublist.refl _) g5))
  refine st_if (k := kd == 6) (pt_of (pv_cmp (pv_var rfl) (pv_cn _) rfl) rfl rfl) (fun _ => ?_) (fun _ => ?_)
  · have hit : itemsD (.loc S.length) S5 = some ((rngI L.length).map .int) := items_loc hp5
    have hne : (rngI L.length).map D.int ≠ [] := fun e => rng_ne l0 (List.map_eq_nil_iff.mp e)
    refine ok_ret (ev_tup (es_cons (Ok.mono (pick_at (n := n) (y := .loc S.length) rfl (pv_var rfl _) g5.bx hit (by simp; omega) hne (by simp [rngI]; omega) (fun x hx => by
      obtain ⟨z, _, rfl⟩ := List.mem_map.mp hx
      rfl)) fun r ⟨y, S6, er, hy, fr6⟩ => ?_)))
    subst er
    obtain ⟨y, hy2, rfl⟩ := List.mem_map.mp hy
    exact es_nil ⟨by simp, Then.rt (fin [y] S6 (List.singleton_sublist.mpr hy2) (g5.fr fr6))⟩
  · refine ok_ret (ev_f1 (Ok.mono (randc (n := n + 1) (ns := rngI L.length) g5.bx rfl hp5 (by omega) (fun _ => rfl) (fun _ => rfl)) fun r ⟨zs, S7, er, hz, fr7⟩ => ?_))
    subst er
    exact ⟨.d (lotD zs), rfl, fin zs S7 hz (g5.fr fr7)⟩
theorem eye_at {n b l i : Nat} {e : Env} {S : Sto} {X : E} {h : Int} {L : List (List Int)} (hi : e[i]? = some (some (.loc l))) (hX : PV (callN T (n + 3)) e S X (.d (webD h L))) (hb : Bx S l) (h0 : 0 < h) (h4 : h ≤ 4) (l0 : 0 < L.length) (l8 : L.length ≤ 8) : Ok ((evE (callN T (n + 3)) (.call 17 (.cons (.var i) (.cons X .nil)) .nil [0, 1])).v b e S) fun r => ∃ eye S1, r = (.d (lotD eye), S1) ∧ eye.Sublist (rngI L.length) ∧ Fr l S S1 := by
  refine ok_call (es_pv (pv_var hi) (es_pv hX (es_nil (Ok.ok ?_))))
  refine Ok.mono (ok_eye (n := n) hb h0 h4 l0 l8) fun r ⟨eye, e1, hs, fr⟩ => ⟨eye, r.2, ?_, hs, fr⟩
  rw [e1, leave_pure (pure_ints _), take_le (by rw [fr.len]; exact Nat.le_refl _)]

end K24
set_option linter.all false
set_option autoImplicit false
set_option maxRecDepth 100000
namespace K24
open Pv
/-! ### one weaving: the same letters for each hand, in their order -/
section
variable {L : List (List Int)}
def Sm (L : List (List Int)) (a b : List Int) : Prop := ∀ g, hd L g a = hd L g b
theorem Sm.refl {a : List Int} : Sm L a a := fun _ => rfl
theorem Sm.symm {a b : List Int} (h : Sm L a b) : Sm L b a := fun g => (h g).symm
theorem Sm.trans {a b c : List Int} (h : Sm L a b) (k : Sm L b c) : Sm L a c := fun g => (h g).trans (k g)
theorem Sm.app {a b c d : List Int} (h : Sm L a b) (k : Sm L c d) : Sm L (a ++ c) (b ++ d) := fun g => by rw [hd_append, hd_append, h g, k g]
theorem hd_rev (g : Int) (a : List Int) : hd L g a.reverse = (hd L g a).reverse := List.filter_reverse ..
theorem Sm.rev {a b : List Int} (h : Sm L a b) : Sm L a.reverse b.reverse := fun g => by rw [hd_rev, hd_rev, h g]
theorem mem_hd {x : Int} {l : List Int} (hx : lot L x ≠ []) : x ∈ l ↔ ∃ g ∈ lot L x, x ∈ hd L g l := by
  obtain ⟨g, gs, e⟩ := List.exists_cons_of_ne_nil hx
  exact ⟨fun h => ⟨g, by rw [e]; simp, List.mem_filter.mpr ⟨h, inn_mem.mpr (by rw [e]; simp)⟩⟩, fun ⟨g, _, h⟩ => (List.mem_filter.mp h).1⟩
theorem Sm.mem {a b : List Int} (h : Sm L a b) {x : Int} (hx : lot L x ≠ []) : x ∈ a ↔ x ∈ b := by
  rw [mem_hd hx, mem_hd hx]
  exact ⟨fun ⟨g, h1, h2⟩ => ⟨g, h1, h g ▸ h2⟩, fun ⟨g, h1, h2⟩ => ⟨g, h1, h g ▸ h2⟩⟩
theorem Sm.fre {a b : List Int} (h : Sm L a b) {x : Int} (k : Fre L a x) : Fre L b x := fun g hg => by rw [← h g]; exact k g hg
theorem Sm.isMin {a b : List Int} (ha : ∀ y ∈ a, lot L y ≠ []) (hb : ∀ y ∈ b, lot L y ≠ []) (h : Sm L a b) {x : Int} (k : IsMin L a x) : IsMin L b x := by
  refine ⟨(h.mem (ha x k.1)).mp k.1, h.fre k.2.1, fun y hy hf => ?_⟩
  exact k.2.2 y ((h.mem (hb y hy)).mpr hy) (h.symm.fre hf)
theorem Sm.erase {a b : List Int} (h : Sm L a b) {x : Int} (k : Fre L a x) : Sm L (a.erase x) (b.erase x) := fun g => by
  have e1 := hd_erase (L := L) (g := g) (x := x) (l := a)
  have e2 := hd_erase (L := L) (g := g) (x := x) (l := b)
  by_cases hg : inn g (lot L x) = true
  · rw [e1.1 hg (k g (inn_mem.mp hg)), e2.1 hg (h.fre k g (inn_mem.mp hg)), h g]
  · have hg : inn g (lot L x) = false := by simpa using hg
    rw [e1.2 hg, e2.2 hg, h g]
theorem Sm.len {a b : List Int} (ha : ∀ y ∈ a, lot L y ≠ []) (hb : ∀ y ∈ b, lot L y ≠ []) (h : Sm L a b) : a.length = b.length := by
  refine (List.perm_iff_count.mpr fun x => ?_).length_eq
  by_cases hx : lot L x = []
  · rw [List.count_eq_zero.mpr fun hm => ha x hm hx, List.count_eq_zero.mpr fun hm => hb x hm hx]
  · obtain ⟨g, gs, e⟩ := List.exists_cons_of_ne_nil hx
    have hg : inn g (lot L x) = true := inn_mem.mpr (by rw [e]; simp)
    have h1 := h g
    unfold hd at h1
    have e1 : (a.filter fun y => inn g (lot L y)).count x = a.count x := List.count_filter hg
    have e2 : (b.filter fun y => inn g (lot L y)).count x = b.count x := List.count_filter hg
    rw [← e1, ← e2, h1]
/-- two rows of one weaving have one least form -/
theorem Rch.sm {r1 f l : List Int} (h : Rch L r1 f l) : ∀ {r2 f' l' : List Int}, (∀ y ∈ r1, lot L y ≠ []) → (∀ y ∈ r2, lot L y ≠ []) → Sm L r1 r2 → Rch L r2 f' l' → f.length = f'.length → f = f' ∧ Sm L l l' := by
  induction h with
  | nil =>
    intro r2 f' l' _ _ hs k e
    cases k with
    | nil => exact ⟨rfl, hs⟩
    | snoc k m => simp at e
  | snoc h m ih =>
    intro r2 f' l' n1 n2 hs k e
    cases k with
    | nil => simp at e
    | snoc k m2 =>
      obtain ⟨rfl, hl⟩ := ih n1 n2 hs k (by simpa using e)
      have m3 := hl.isMin (fun y hy => n1 y (h.sub.2 y hy)) (fun y hy => n2 y (k.sub.2 y hy)) m
      rw [m3.uniq m2]
      have := m3.uniq m2
      subst this
      exact ⟨rfl, hl.erase m.2.1⟩
theorem Rch.hds {row f l : List Int} (h : Rch L row f l) : Sm L row (f ++ l) := by
  induction h with
  | nil => exact Sm.refl
  | snoc h m ih =>
    intro g
    rw [ih g, hd_append, hd_append, hd_append]
    rename_i f l x
    have e1 := hd_erase (L := L) (g := g) (x := x) (l := l)
    by_cases hg : inn g (lot L x) = true
    · have h2 := m.2.1 g (inn_mem.mp hg)
      rw [e1.1 hg h2, List.append_assoc]
      congr 1
      cases hc : hd L g l with
      | nil => rw [hc] at h2; simp at h2
      | cons z zs =>
        rw [hc] at h2
        have : z = x := by simpa using h2
        subst this
        unfold hd
        rw [List.filter_cons, if_pos hg]
        rfl
    · have hg2 : inn g (lot L x) = false := by simpa using hg
      rw [e1.2 hg2]
      unfold hd
      rw [List.filter_cons, if_neg hg]
      simp
theorem Lst.sm {row f : List Int} (h : Lst L row f) : Sm L row f := by
  obtain ⟨e, l, k⟩ := h
  have := k.len
  have : l = [] := List.eq_nil_of_length_eq_zero (by omega)
  subst this
  have := k.hds
  rw [List.append_nil] at this
  exact this
theorem Lst.iff {r1 r2 f1 f2 : List Int} (n1 : ∀ y ∈ r1, lot L y ≠ []) (n2 : ∀ y ∈ r2, lot L y ≠ []) (h1 : Lst L r1 f1) (h2 : Lst L r2 f2) : f1 = f2 ↔ Sm L r1 r2 := by
  constructor
  · rintro rfl
    exact h1.sm.trans h2.sm.symm
  · intro hs
    have hl := hs.len n1 n2
    obtain ⟨e1, l1, k1⟩ := h1
    obtain ⟨e2, l2, k2⟩ := h2
    exact (k1.sm n1 n2 hs k2 (by omega)).1
/-! what is seen -/
def mkd (L : List (List Int)) (eye ks : List Int) (y : Int) : Bool := inn y eye || share (lot L y) ks
def vw (L : List (List Int)) (eye : List Int) : List Int → List Int → List Int
  | _, [] => []
  | ks, y :: q => if mkd L eye ks y then vw L eye ((lot L y).foldl addK ks) q ++ [y] else vw L eye ks q
theorem part_vw0 (eye : List Int) : ∀ (q ks : List Int) (ms : List Bool), ∃ m : List Bool, (q.foldl (mk L eye) (ks, ms)).2 = ms ++ m ∧ m.length = q.length ∧ ((q.reverse.zip m.reverse).filter (·.2)).map (·.1) = vw L eye ks q
  | [], ks, ms => ⟨[], by simp, rfl, rfl⟩
  | y :: q, ks, ms => by
    obtain ⟨m, e, hl, hv⟩ := part_vw0 eye q (mk L eye (ks, ms) y).1 (mk L eye (ks, ms) y).2
    refine ⟨mkd L eye ks y :: m, ?_, by simp [hl], ?_⟩
    · rw [List.foldl_cons, show mk L eye (ks, ms) y = ((mk L eye (ks, ms) y).1, (mk L eye (ks, ms) y).2) from rfl, e]
      show (ms ++ [mkd L eye ks y]) ++ m = _
      simp
    · rw [List.reverse_cons, List.reverse_cons, List.zip_append (by simp [hl]), List.filter_append, List.map_append, hv]
      show vw L eye (if mkd L eye ks y then (lot L y).foldl addK ks else ks) q ++ _ = if mkd L eye ks y then _ else _
      cases mkd L eye ks y <;> simp
theorem part_vw (row eye : List Int) : partOf L row eye = vw L eye [] row.reverse := by
  obtain ⟨m, e, _, h⟩ := part_vw0 (L := L) eye row.reverse [] []
  unfold partOf marksOf mks
  rw [e, List.nil_append, ← h, List.reverse_reverse]
theorem share_congr {a ks ks' : List Int} (h : ∀ g, g ∈ ks ↔ g ∈ ks') : share a ks = share a ks' := by
  rw [Bool.eq_iff_iff, share_iff, share_iff]
  exact ⟨fun ⟨x, h1, h2⟩ => ⟨x, h1, (h x).mp h2⟩, fun ⟨x, h1, h2⟩ => ⟨x, h1, (h x).mpr h2⟩⟩
theorem vw_congr (eye : List Int) : ∀ (q : List Int) {ks ks' : List Int}, (∀ g, g ∈ ks ↔ g ∈ ks') → vw L eye ks q = vw L eye ks' q
  | [], _, _, _ => rfl
  | y :: q, ks, ks', h => by
    unfold vw mkd
    rw [share_congr h, vw_congr eye q h, vw_congr eye q (ks := (lot L y).foldl addK ks) (ks' := (lot L y).foldl addK ks') fun g => by rw [addL_mem, addL_mem, h g]]
theorem share_add {a b ks : List Int} (h : share a b = false) : share a (b.foldl addK ks) = share a ks := by
  rw [Bool.eq_iff_iff, share_iff, share_iff]
  refine ⟨fun ⟨x, h1, h2⟩ => ⟨x, h1, ?_⟩, fun ⟨x, h1, h2⟩ => ⟨x, h1, addL_mem.mpr (.inl h2)⟩⟩
  rcases addL_mem.mp h2 with h2 | h2
  · exact h2
  · have : share a b = true := share_iff.mpr ⟨x, h1, h2⟩
    rw [h] at this
    cases this
theorem share_comm' {a b : List Int} (h : share a b = false) : share b a = false := by
  rw [Bool.eq_false_iff] at h ⊢
  intro e
  obtain ⟨x, h1, h2⟩ := share_iff.mp e
  exact h (share_iff.mpr ⟨x, h2, h1⟩)
theorem sm_two {y z : Int} (h : share (lot L y) (lot L z) = false) : Sm L [y, z] [z, y] := fun g => by
  unfold hd
  rw [List.filter_cons, List.filter_cons, List.filter_cons, List.filter_cons, List.filter_nil]
  by_cases h1 : inn g (lot L y) = true
  · have h2 : ¬ inn g (lot L z) = true := fun h2 => by
      have : share (lot L y) (lot L z) = true := share_iff.mpr ⟨g, inn_mem.mp h1, inn_mem.mp h2⟩
      rw [h] at this
      cases this
    simp [h1, h2]
  · simp [h1]
theorem vw_swap (eye : List Int) {y z : Int} {ks t : List Int} (h : share (lot L y) (lot L z) = false) : Sm L (vw L eye ks (z :: y :: t)) (vw L eye ks (y :: z :: t)) := by
  have h' := share_comm' h
  unfold vw
  unfold vw
  unfold mkd
  rw [share_add h, share_add h']
  have hc : vw L eye ((lot L y).foldl addK ((lot L z).foldl addK ks)) t = vw L eye ((lot L z).foldl addK ((lot L y).foldl addK ks)) t := vw_congr eye t fun g => by
    rw [addL_mem, addL_mem, addL_mem, addL_mem]
    exact ⟨fun h => by rcases h with (h | h) | h <;> simp [h], fun h => by rcases h with (h | h) | h <;> simp [h]⟩
  cases inn z eye || share (lot L z) ks <;> cases inn y eye || share (lot L y) ks <;> simp
  · exact Sm.refl
  · exact Sm.refl
  · exact Sm.refl
  · rw [hc]
    exact Sm.app Sm.refl (sm_two h)
theorem vw_cons (eye : List Int) {y : Int} {ks q q' : List Int} (h : ∀ ks, Sm L (vw L eye ks q) (vw L eye ks q')) : Sm L (vw L eye ks (y :: q)) (vw L eye ks (y :: q')) := by
  unfold vw
  cases mkd L eye ks y with
  | true => exact Sm.app (h _) Sm.refl
  | false => exact h _
theorem vw_front (eye : List Int) : ∀ (p : Nat) (q : List Int) {y : Int}, Fst L q p → q[p]? = some y → ∀ ks, Sm L (vw L eye ks q) (vw L eye ks (y :: q.eraseIdx p))
  | 0, q, y, _, hy, ks => by
    cases q with
    | nil => cases hy
    | cons z q =>
      have : z = y := by simpa using hy
      subst this
      exact Sm.refl
  | p + 1, q, y, hf, hy, ks => by
    cases q with
    | nil => cases hy
    | cons z q =>
      have hy' : q[p]? = some y := by simpa using hy
      obtain ⟨x, hx, hn⟩ := hf
      rw [hy] at hx
      cases hx
      have ih := vw_front eye p q ⟨y, hy', fun w hw => hn w (by rw [List.take_succ_cons]; exact List.mem_cons_of_mem _ hw)⟩ hy'
      have hz : share (lot L z) (lot L y) = false := hn z (by simp)
      exact (vw_cons eye ih).trans (vw_swap eye (share_comm' hz))
theorem vw_sm (eye : List Int) : ∀ (q1 q2 : List Int), (∀ y ∈ q1, lot L y ≠ []) → (∀ y ∈ q2, lot L y ≠ []) → Sm L q1 q2 → ∀ ks, Sm L (vw L eye ks q1) (vw L eye ks q2)
  | [], q2, n1, n2, hs, ks => by
    have : q2 = [] := List.eq_nil_of_length_eq_zero (hs.len n1 n2).symm
    subst this
    exact Sm.refl
  | y :: q1, q2, n1, n2, hs, ks => by
    have hf : Fst L (y :: q1) 0 := ⟨y, rfl, by simp⟩
    have hfr : Fre L (y :: q1) y := hf.free rfl
    have hy2 : y ∈ q2 := (hs.mem (n1 y (by simp))).mp (by simp)
    obtain ⟨p, hp, hpf⟩ := (hs.fre hfr).place hy2
    have he := hpf.erase hp (n1 y (by simp))
    have h1 : Sm L q1 (q2.erase y) := by
      have := hs.erase hfr
      rw [List.erase_cons_head] at this
      exact this
    have ih := vw_sm eye q1 (q2.erase y) (fun z hz => n1 z (by simp [hz])) (fun z hz => n2 z (List.mem_of_mem_erase hz)) h1
    have h2 := vw_front eye p q2 hpf hp ks
    rw [he] at h2
    exact (vw_cons eye ih).trans h2.symm
theorem part_sm {r1 r2 : List Int} (eye : List Int) (n1 : ∀ y ∈ r1, lot L y ≠ []) (n2 : ∀ y ∈ r2, lot L y ≠ []) (h : Sm L r1 r2) : Sm L (partOf L r1 eye) (partOf L r2 eye) := by
  rw [part_vw, part_vw]
  exact vw_sm eye _ _ (fun y hy => n1 y (List.mem_reverse.mp hy)) (fun y hy => n2 y (List.mem_reverse.mp hy)) h.rev []
theorem vw_idem (eye : List Int) : ∀ (q ks : List Int), vw L eye ks (vw L eye ks q).reverse = vw L eye ks q
  | [], _ => rfl
  | y :: q, ks => by
    conv => rhs; unfold vw
    conv => lhs; arg 4; unfold vw
    by_cases h : mkd L eye ks y = true
    · rw [if_pos h, List.reverse_append]
      show vw L eye ks (y :: (vw L eye _ q).reverse) = _
      conv => lhs; unfold vw
      rw [if_pos h, vw_idem eye q]
    · rw [if_neg h, vw_idem eye q]
theorem part_idem (row eye : List Int) : partOf L (partOf L row eye) eye = partOf L row eye := by
  rw [part_vw, part_vw]
  exact vw_idem eye _ _
theorem vw_free (eye : List Int) {q : List Int} : ∀ {f : List Int}, (∀ y ∈ f, inn y eye = false) → vw L eye [] (f ++ q) = vw L eye [] q
  | [], _ => rfl
  | y :: f, h => by
    show (if mkd L eye [] y then _ else vw L eye [] (f ++ q)) = _
    rw [if_neg (by unfold mkd; rw [h y (by simp)]; simp [share]), vw_free eye fun z hz => h z (by simp [hz])]
theorem part_free {v f : List Int} (eye : List Int) (h : ∀ y ∈ f, inn y eye = false) : partOf L (v ++ f) eye = partOf L v eye := by
  rw [part_vw, part_vw, List.reverse_append]
  exact vw_free eye fun y hy => h y (List.mem_reverse.mp hy)
end

/-! ### cuts, one eye after another -/
section
variable {L : List (List Int)}
theorem vw_len (eye : List Int) : ∀ (q ks : List Int), (vw L eye ks q).length ≤ q.length
  | [], _ => Nat.le_refl _
  | y :: q, ks => by
    unfold vw
    split
    · have := vw_len eye q ((lot L y).foldl addK ks)
      simp
      omega
    · have := vw_len eye q ks
      simp
      omega
/-- all is seen, by each eye: so by what they share -/
theorem vw_all {eyes : List (List Int)} {s : List Int} : ∀ (q : List Int) (ks : List Int), (∀ y ∈ q, (∀ e ∈ eyes, inn y e = true) → inn y s = true) → (∀ e ∈ eyes, vw L e ks q = q.reverse) → vw L s ks q = q.reverse
  | [], _, _, _ => rfl
  | y :: q, ks, hs, h => by
    have step : ∀ e ∈ eyes, mkd L e ks y = true ∧ vw L e ((lot L y).foldl addK ks) q = q.reverse := fun e he => by
      have h1 := h e he
      unfold vw at h1
      by_cases hm : mkd L e ks y = true
      · rw [if_pos hm, List.reverse_cons] at h1
        exact ⟨hm, List.append_cancel_right h1⟩
      · rw [if_neg hm] at h1
        have h2 := vw_len (L := L) e q ks
        rw [h1] at h2
        simp at h2
        omega
    have hm : mkd L s ks y = true := by
      unfold mkd
      cases hk : share (lot L y) ks with
      | true => simp
      | false =>
        rw [hs y (by simp) fun e he => by
          have := (step e he).1
          unfold mkd at this
          rw [hk] at this
          simpa using this]
        rfl
    unfold vw
    rw [if_pos hm, List.reverse_cons, vw_all q _ (fun z hz => hs z (by simp [hz])) fun e he => (step e he).2]
/-- what a smaller eye sees of what a greater one has seen -/
theorem vw_vw {s e : List Int} (hse : ∀ y, inn y s = true → inn y e = true) : ∀ (q ks ks' : List Int), (∀ g ∈ ks, g ∈ ks') → vw L s ks (vw L e ks' q).reverse = vw L s ks q
  | [], _, _, _ => rfl
  | y :: q, ks, ks', hk => by
    have hm : mkd L s ks y = true → mkd L e ks' y = true := fun h => by
      unfold mkd at h ⊢
      rcases Bool.or_eq_true_iff.mp h with h | h
      · rw [hse y h]; rfl
      · obtain ⟨g, g1, g2⟩ := share_iff.mp h
        rw [share_iff.mpr ⟨g, g1, hk g g2⟩, Bool.or_true]
    conv => rhs; unfold vw
    conv => lhs; arg 4; unfold vw
    by_cases h1 : mkd L e ks' y = true
    · rw [if_pos h1, List.reverse_append]
      show vw L s ks (y :: (vw L e _ q).reverse) = _
      conv => lhs; unfold vw
      by_cases h2 : mkd L s ks y = true
      · rw [if_pos h2, if_pos h2, vw_vw hse q _ _ fun g hg => by
          rcases addL_mem.mp hg with hg | hg
          · exact addL_mem.mpr (.inl (hk g hg))
          · exact addL_mem.mpr (.inr hg)]
      · rw [if_neg h2, if_neg h2, vw_vw hse q _ _ fun g hg => addL_mem.mpr (.inl (hk g hg))]
    · rw [if_neg h1, if_neg (fun h => h1 (hm h)), vw_vw hse q _ _ hk]
theorem part_part {row s e : List Int} (hse : ∀ y, inn y s = true → inn y e = true) : partOf L (partOf L row e) s = partOf L row s := by
  rw [part_vw, part_vw, part_vw]
  exact vw_vw hse _ _ _ fun _ h => h
theorem part_all {eyes : List (List Int)} {s row : List Int} (hs : ∀ y ∈ row, (∀ e ∈ eyes, inn y e = true) → inn y s = true) (h : ∀ e ∈ eyes, partOf L row e = row) : partOf L row s = row := by
  rw [part_vw]
  conv => rhs; rw [← List.reverse_reverse row]
  refine vw_all (eyes := eyes) _ _ (fun y hy => hs y (List.mem_reverse.mp hy)) fun e he => ?_
  rw [List.reverse_reverse, ← part_vw]
  exact h e he
/-- all seen, or fewer -/
theorem zip_fst : ∀ (a : List Int) (m : List Bool), m.length = a.length → ((a.zip m).filter (·.2)).map (·.1) = a ∧ (false ∉ m) ∨ (((a.zip m).filter (·.2)).map (·.1)).length < a.length ∧ false ∈ m
  | [], [], _ => .inl ⟨rfl, by simp⟩
  | [], _ :: _, h => by cases h
  | _ :: _, [], h => by cases h
  | x :: a, k :: m, h => by
    have hl : m.length = a.length := by simpa using h
    have h2 : (((a.zip m).filter (·.2)).map (·.1)).length ≤ a.length := by
      rw [List.length_map]
      have := List.length_filter_le (fun p : Int × Bool => p.2) (a.zip m)
      rw [List.length_zip] at this
      omega
    cases k with
    | true =>
      rcases zip_fst a m hl with ⟨h1, hn⟩ | ⟨h1, hn⟩
      · exact .inl ⟨by rw [List.zip_cons_cons, List.filter_cons, if_pos rfl, List.map_cons, h1], by simp [hn]⟩
      · exact .inr ⟨by rw [List.zip_cons_cons, List.filter_cons, if_pos rfl, List.map_cons]; simp at h1 ⊢; omega, by simp [hn]⟩
    | false => exact .inr ⟨by rw [List.zip_cons_cons, List.filter_cons, if_neg (by simp)]; simp at h2 ⊢; omega, by simp⟩
theorem part_or {h : Int} (w : Web h L) {row eye : List Int} (hr : Rng L row) : (partOf L row eye = row ∧ false ∉ marksOf L row eye) ∨ ((partOf L row eye).length < row.length ∧ false ∈ marksOf L row eye) := zip_fst row _ (marks_len w hr)
/-- a least form is its own one -/
theorem Lst.self {h : Int} (w : Web h L) {p f g : List Int} (hp : Rng L p) (l : Lst L p f) (k : Lst L f g) : g = f := by
  have hf : Rng L f := fun x hx => by
    obtain ⟨_, l', r⟩ := l
    exact hp x (r.sub.1 x hx)
  exact ((Lst.iff (lots_ne w hp) (lots_ne w hf) l k).mpr l.sm).symm
/-- where the cuts have come to behind so many turns -/
inductive Run (L : List (List Int)) (row : List Int) (eyes : List (List Int)) : Nat → List Int → Nat → List (Nat × List Int) → Prop
  | start {f : List Int} : Lst L row f → Run L row eyes 0 f 0 []
  | same {t c : Nat} {f : List Int} {cs : List (Nat × List Int)} : Run L row eyes t f c cs → c < eyes.length → partOf L f (eyes.getD (t % eyes.length) []) = f → Run L row eyes (t + 1) f (c + 1) cs
  | cut {t c : Nat} {f g : List Int} {cs : List (Nat × List Int)} : Run L row eyes t f c cs → c < eyes.length → (partOf L f (eyes.getD (t % eyes.length) [])).length < f.length → Lst L (partOf L f (eyes.getD (t % eyes.length) [])) g → Run L row eyes (t + 1) g 0 (cs ++ [(t % eyes.length, g)])
theorem Run.uniq {row : List Int} {eyes : List (List Int)} {t c : Nat} {f : List Int} {cs : List (Nat × List Int)} (r : Run L row eyes t f c cs) : ∀ {c' : Nat} {f' : List Int} {cs' : List (Nat × List Int)}, Run L row eyes t f' c' cs' → f = f' ∧ c = c' ∧ cs = cs' := by
  induction r with
  | start l =>
    intro c' f' cs' k
    cases k with
    | start l' => exact ⟨l.uniq l', rfl, rfl⟩
  | same r hc hp ih =>
    intro c' f' cs' k
    cases k with
    | same k hc' hp' =>
      obtain ⟨rfl, rfl, rfl⟩ := ih k
      exact ⟨rfl, rfl, rfl⟩
    | cut k hc' hp' l' =>
      obtain ⟨rfl, rfl, rfl⟩ := ih k
      rw [hp] at hp'
      omega
  | cut r hc hp l ih =>
    intro c' f' cs' k
    cases k with
    | same k hc' hp' =>
      obtain ⟨rfl, rfl, rfl⟩ := ih k
      rw [hp'] at hp
      omega
    | cut k hc' hp' l' =>
      obtain ⟨rfl, rfl, rfl⟩ := ih k
      obtain rfl := l.uniq l'
      exact ⟨rfl, rfl, rfl⟩
theorem Run.back {row : List Int} {eyes : List (List Int)} {t c : Nat} {f : List Int} {cs : List (Nat × List Int)} (r : Run L row eyes t f c cs) : ∀ s, s < t → ∃ f' c' cs', Run L row eyes s f' c' cs' ∧ c' < eyes.length := by
  induction r with
  | start l => intro s hs; omega
  | same r hc hp ih =>
    intro s hs
    rename_i t _ _ _
    by_cases e : s = t
    · subst e
      exact ⟨_, _, _, r, hc⟩
    · exact ih s (by omega)
  | cut r hc hp l ih =>
    intro s hs
    rename_i t _ _ _ _
    by_cases e : s = t
    · subst e
      exact ⟨_, _, _, r, hc⟩
    · exact ih s (by omega)
/-- at rest in one place alone -/
theorem Run.rest {row : List Int} {eyes : List (List Int)} {t t' : Nat} {f f' : List Int} {cs cs' : List (Nat × List Int)} (r : Run L row eyes t f eyes.length cs) (k : Run L row eyes t' f' eyes.length cs') : f = f' ∧ cs = cs' := by
  rcases Nat.lt_trichotomy t t' with h | h | h
  · obtain ⟨_, c, _, r2, hc⟩ := k.back t h
    have := (r.uniq r2).2.1
    omega
  · subst h
    have := r.uniq k
    exact ⟨this.1, this.2.2⟩
  · obtain ⟨_, c, _, r2, hc⟩ := r.back t' h
    have := (k.uniq r2).2.1
    omega
theorem Run.fin {row : List Int} {eyes : List (List Int)} {t c : Nat} {f : List Int} {cs : List (Nat × List Int)} (r : Run L row eyes t f c cs) : c ≤ eyes.length ∧ t + f.length * eyes.length + (eyes.length - c) ≤ row.length * eyes.length + eyes.length := by
  induction r with
  | start l => rw [l.1]; omega
  | same r hc hp ih => omega
  | cut r hc hp l ih =>
    rename_i t c f g cs
    have h1 := l.1
    have h2 : g.length + 1 ≤ f.length := by omega
    have h3 := Nat.mul_le_mul_right eyes.length h2
    rw [Nat.add_mul, Nat.one_mul] at h3
    omega
/-- what holds along the way -/
theorem Run.inv {h : Int} (w : Web h L) {row : List Int} {eyes : List (List Int)} (hr : Rng L row) {t c : Nat} {f : List Int} {cs : List (Nat × List Int)} (r : Run L row eyes t f c cs) : Rng L f ∧ f.length ≤ row.length ∧ (∃ p, Rng L p ∧ Lst L p f) ∧ c ≤ t ∧ (∀ i, i < c → partOf L f (eyes.getD ((t - 1 - i) % eyes.length) []) = f) ∧ (∀ p ∈ cs, Rng L p.2 ∧ p.2.length ≤ row.length) ∧ cs.length ≤ t := by
  induction r with
  | start l =>
    have hf : Rng L _ := fun x hx => by
      obtain ⟨_, l', k⟩ := l
      exact hr x (k.sub.1 x hx)
    exact ⟨hf, Nat.le_of_eq l.1, ⟨row, hr, l⟩, Nat.le_refl _, fun i hi => by omega, by simp, by simp⟩
  | same r hc hp ih =>
    rename_i t c f cs
    obtain ⟨h1, h2, h3, h4, h5, h6, h7⟩ := ih
    refine ⟨h1, h2, h3, by omega, fun i hi => ?_, h6, by omega⟩
    cases i with
    | zero => exact hp
    | succ i =>
      have := h5 i (by omega)
      rw [show t + 1 - 1 - (i + 1) = t - 1 - i by omega]
      exact this
  | cut r hc hp l ih =>
    rename_i t c f g cs
    obtain ⟨h1, h2, h3, h4, h5, h6, h7⟩ := ih
    have hpr := (part_rng (eye := eyes.getD (t % eyes.length) []) h1).1
    have hg : Rng L g := fun x hx => by
      obtain ⟨_, l', k⟩ := l
      exact hpr x (k.sub.1 x hx)
    have hgl : g.length ≤ row.length := by have := l.1; omega
    refine ⟨hg, hgl, ⟨_, hpr, l⟩, by omega, fun i hi => by omega, fun p hp => ?_, by simp; omega⟩
    rcases List.mem_append.mp hp with hp | hp
    · exact h6 p hp
    · rw [List.mem_singleton.mp hp]
      exact ⟨hg, hgl⟩
theorem mod_cover {t n j : Nat} (ht : n ≤ t) (hj : j < n) : ∃ i, i < n ∧ (t - 1 - i) % n = j := by
  -- t - 1 = a n + b; from b down to 0, then from n - 1 on
  have hn : 0 < n := by omega
  have e := Nat.div_add_mod (t - 1) n
  have hb := Nat.mod_lt (t - 1) hn
  by_cases h : j ≤ (t - 1) % n
  · refine ⟨(t - 1) % n - j, by omega, ?_⟩
    have : t - 1 - ((t - 1) % n - j) = n * ((t - 1) / n) + j := by omega
    rw [this, Nat.mul_add_mod, Nat.mod_eq_of_lt hj]
  · have ha : 1 ≤ (t - 1) / n := by
      rcases Nat.eq_zero_or_pos ((t - 1) / n) with z | z
      · rw [z, Nat.mul_zero] at e
        omega
      · exact z
    obtain ⟨a, ha'⟩ : ∃ a, (t - 1) / n = a + 1 := ⟨(t - 1) / n - 1, by omega⟩
    rw [ha', Nat.mul_add, Nat.mul_one] at e
    refine ⟨(t - 1) % n + (n - j), by omega, ?_⟩
    have : t - 1 - ((t - 1) % n + (n - j)) = n * a + j := by omega
    rw [this, Nat.mul_add_mod, Nat.mod_eq_of_lt hj]
theorem Run.seen {h : Int} (w : Web h L) {row s : List Int} {eyes : List (List Int)} (hr : Rng L row) (hs : ∀ y, inn y s = true → ∀ e ∈ eyes, inn y e = true) {t c : Nat} {f : List Int} {cs : List (Nat × List Int)} (h0 : 0 < eyes.length) (r : Run L row eyes t f c cs) : Sm L (partOf L row s) (partOf L f s) := by
  induction r with
  | start l =>
    have hf : Rng L _ := fun x hx => by
      obtain ⟨_, l', k⟩ := l
      exact hr x (k.sub.1 x hx)
    exact part_sm s (lots_ne w hr) (lots_ne w hf) l.sm
  | same r hc hp ih => exact ih
  | cut r hc hp l ih =>
    rename_i t c f g cs
    obtain ⟨h1, _⟩ := r.inv w hr
    have hpr := (part_rng (eye := eyes.getD (t % eyes.length) []) h1).1
    have hg : Rng L g := fun x hx => by
      obtain ⟨_, l', k⟩ := l
      exact hpr x (k.sub.1 x hx)
    have e1 := part_sm s (lots_ne w hpr) (lots_ne w hg) l.sm
    have hm : eyes.getD (t % eyes.length) [] ∈ eyes := by
      have hk := Nat.mod_lt t h0
      simp [List.getD, hk]
    rw [part_part fun y hy => hs y hy _ hm] at e1
    exact ih.trans e1
/-- at rest: the view by what the eyes share -/
theorem Run.last {h : Int} (w : Web h L) {row s v : List Int} {eyes : List (List Int)} (hr : Rng L row) (h0 : 0 < eyes.length) (hs : ∀ y, inn y s = true → ∀ e ∈ eyes, inn y e = true) (hs2 : ∀ y : Int, 0 ≤ y → y < L.length → (∀ e ∈ eyes, inn y e = true) → inn y s = true) {t : Nat} {f g : List Int} {cs : List (Nat × List Int)} (r : Run L row eyes t f eyes.length cs) (hv : Lst L (partOf L row s) v) (hg : Lst L (partOf L f s) g) : v = f := by
  obtain ⟨h1, h2, ⟨p, hp, hl⟩, h4, h5, h6, h7⟩ := r.inv w hr
  have hall : ∀ e ∈ eyes, partOf L f e = f := fun e he => by
    obtain ⟨j, hj, e1⟩ := List.getElem_of_mem he
    obtain ⟨i, hi, e2⟩ := mod_cover h4 hj
    have := h5 i hi
    rw [e2] at this
    have e3 : eyes.getD j [] = e := by simp [List.getD, hj, e1]
    rw [e3] at this
    exact this
  have hfs : partOf L f s = f := part_all (eyes := eyes) (fun y hy => hs2 y (h1 y hy).1 (h1 y hy).2) hall
  have sm := r.seen w hr hs h0
  rw [hfs] at sm hg
  obtain rfl : g = f := Lst.self w hp hl hg
  exact (Lst.iff (lots_ne w (part_rng hr).1) (lots_ne w h1) hv hg).mpr sm
end

end K24
set_option linter.all false
set_option autoImplicit false
set_option maxRecDepth 100000
namespace K24
open Pv
theorem ok_sameI {n : Nat} {S : Sto} {i : Int} : Ok (callN T (n + 1) 10 [.int i, .int i] S) fun r => r = (.d (.bl true), S) := by
  refine ok_fn (d := ⟨"_law_same", 2, 4, b__law_same⟩) rfl rfl ?_
  dsimp only [b__law_same]
  rw [show env0 4 [.int i, .int i] = [some (.int i), some (.int i), none, none] from rfl]
  refine ok_ite ?_
  conv => arg 1; simp
  refine Ok.ok ?_
  try dsimp only [settle, List.set]
  refine ⟨fun h => (by cases h), fun _ => ?_⟩
  refine ok_nil (Then.nx ?_)
  refine ok_ite ?_
  conv => arg 1; simp
  refine Ok.ok ?_
  try dsimp only [settle, List.set]
  refine ⟨fun h => (by cases h), fun _ => ?_⟩
  refine ok_nil (Then.nx ?_)
  refine ok_ite ?_
  conv => arg 1; simp
  refine Ok.ok ?_
  try dsimp only [settle, List.set]
  refine ⟨fun h => (by cases h), fun _ => ?_⟩
  refine ok_nil (Then.nx ?_)
  refine ok_ite ?_
  conv => arg 1; simp
  refine Ok.ok ?_
  try dsimp only [settle, List.set]
  refine ⟨fun _ => ?_, fun h => (by cases h)⟩
  refine ok_ret ?_
  conv => arg 1; simp [truthD]
  refine Ok.ok ?_
  try dsimp only [settle, List.set]
  refine Then.rt ⟨_, rfl, ?_⟩
  simp
theorem ok_sameB {n : Nat} {S : Sto} {i : Bool} : Ok (callN T (n + 1) 10 [.bl i, .bl i] S) fun r => r = (.d (.bl true), S) := by
  refine ok_fn (d := ⟨"_law_same", 2, 4, b__law_same⟩) rfl rfl ?_
  dsimp only [b__law_same]
  rw [show env0 4 [.bl i, .bl i] = [some (.bl i), some (.bl i), none, none] from rfl]
  refine ok_ite ?_
  conv => arg 1; simp
  refine Ok.ok ?_
  try dsimp only [settle, List.set]
  refine ⟨fun h => (by cases h), fun _ => ?_⟩
  refine ok_nil (Then.nx ?_)
  refine ok_ite ?_
  conv => arg 1; simp
  refine Ok.ok ?_
  try dsimp only [settle, List.set]
  refine ⟨fun h => (by cases h), fun _ => ?_⟩
  refine ok_nil (Then.nx ?_)
  refine ok_ite ?_
  cases i
  · conv => arg 1; simp [isD]
    refine Ok.ok ?_
    try dsimp only [settle, List.set]
    refine ⟨fun _ => ?_, fun h => (by cases h)⟩
    refine ok_ret ?_
    conv => arg 1; simp [truthD, scalEq]
    refine Ok.ok ?_
    try dsimp only [settle, List.set]
    refine Then.rt ⟨_, rfl, ?_⟩
    simp
  · conv => arg 1; simp [isD]
    refine Ok.ok ?_
    try dsimp only [settle, List.set]
    refine ⟨fun _ => ?_, fun h => (by cases h)⟩
    refine ok_ret ?_
    conv => arg 1; simp [truthD, scalEq]
    refine Ok.ok ?_
    try dsimp only [settle, List.set]
    refine Then.rt ⟨_, rfl, ?_⟩
    simp
theorem zip_get {xs ys : List D} {k : Nat} {x : D} (h : (zipD xs ys)[k]? = some x) : ∃ a b, x = .tup [a, b] ∧ xs[k]? = some a ∧ ys[k]? = some b := by
  unfold zipD at h
  rw [List.getElem?_zipWith] at h
  cases h1 : xs[k]? with
  | none => rw [h1] at h; cases h
  | some a => cases h2 : ys[k]? with
    | none => rw [h1, h2] at h; cases h
    | some b => rw [h1, h2] at h; cases h; exact ⟨a, b, rfl, rfl, rfl⟩
/-- _law_same of a tuple and itself -/
theorem ok_sameX {n : Nat} {S : Sto} {xs : List D} (h : ∀ x ∈ xs, Ok (callN T n 10 [x, x] S) fun r => r = (.d (.bl true), S)) : Ok (callN T (n + 1) 10 [.tup xs, .tup xs] S) fun r => r = (.d (.bl true), S) := by
  refine fn_pure (d := ⟨"_law_same", 2, 4, b__law_same⟩) rfl rfl rfl ?_
  dsimp only [b__law_same]
  rw [show env0 4 [.tup xs, .tup xs] = [some (.tup xs), some (.tup xs), none, none] from rfl]
  refine st_yes (pt_of (pv_isi (pv_var rfl) rfl) rfl rfl) ?_
  have hn : PT (callN T n) [some (.tup xs), some (.tup xs), none, none] S (.or (.not (.isi (.var 0) .tuple)) (.cmp .ne (.f1 .len (.var 0)) (.f1 .len (.var 1)))) false := by
    have h := pt_or (rc := callN T n) (e := [some (.tup xs), some (.tup xs), none, none]) (S := S) (pt_not (pt_of (pv_isi (t := .tuple) (pv_var (i := 0) rfl) rfl) rfl rfl)) (fun _ => pt_of (pv_cmp (o := .ne) (k := !((xs.length : Int) == xs.length)) (pv_f1 (o := .len) (pv_var (i := 0) rfl) rfl) (pv_f1 (o := .len) (pv_var (i := 1) rfl) rfl) rfl) rfl rfl)
    have e : ((!(Ty.tuple == Ty.tuple)) || !((xs.length : Int) == xs.length)) = false := by
      simp
    exact e ▸ h
  refine st_skip hn ?_
  refine st_for (pi_zipT (pv_var rfl) (pv_var rfl)) ?_
  refine ok_cnt (fun _ e S' => ∃ o2 o3, e = [some (.tup xs), some (.tup xs), o2, o3] ∧ S = S') (fun _ _ _ _ => chk_nil _) ?_ ?_ ⟨_, _, rfl, rfl⟩
  · rintro k x e S' hx ⟨o2, o3, rfl, rfl⟩
    obtain ⟨a, b, rfl, ha, hb⟩ := zip_get hx
    rw [ha] at hb
    cases hb
    refine Ok.bind (Ok.ok ?_)
    refine st_skip (pt_not (k := true) (pt_of (pv_call0 (v := .bl true) (pes_cons (pv_var rfl) (pes_cons (pv_var rfl) pes_nil)) (h a (List.mem_of_getElem? ha)) rfl rfl) rfl rfl)) ?_
    exact ok_nil ⟨_, _, rfl, rfl⟩
  · rintro e S' ⟨o2, o3, rfl, rfl⟩
    exact Then.nx (st_ret (pv_cn _) ⟨rfl, take_self _⟩)
theorem ok_sameT {n : Nat} {S : Sto} {ns : List Int} : Ok (callN T (n + 2) 10 [lotD ns, lotD ns] S) fun r => r = (.d (.bl true), S) := ok_sameX fun x hx => by
  obtain ⟨z, _, rfl⟩ := List.mem_map.mp hx
  exact ok_sameI
theorem ok_sameTT {n : Nat} {S : Sto} {L : List (List Int)} : Ok (callN T (n + 3) 10 [.tup (L.map lotD), .tup (L.map lotD)] S) fun r => r = (.d (.bl true), S) := ok_sameX fun x hx => by
  obtain ⟨z, _, rfl⟩ := List.mem_map.mp hx
  exact ok_sameT
section
variable {n b : Nat} {e : Env} {S : Sto} {Q : Fl × Env × Sto → Prop} {A B : E} {x r : Ss}
theorem sameT_pv {ns : List Int} (hA : PV (callN T (n + 2)) e S A (.d (lotD ns))) (hB : PV (callN T (n + 2)) e S B (.d (lotD ns))) : PV (callN T (n + 2)) e S (.call 10 (.cons A (.cons B .nil)) .nil [0, 1]) (.d (.bl true)) := pv_call0 (v := .bl true) (pes_cons hA (pes_cons hB pes_nil)) ok_sameT rfl rfl
theorem sameT_pt {ns : List Int} (hA : PV (callN T (n + 2)) e S A (.d (lotD ns))) (hB : PV (callN T (n + 2)) e S B (.d (lotD ns))) : PT (callN T (n + 2)) e S (.not (.call 10 (.cons A (.cons B .nil)) .nil [0, 1])) false := pt_not (k := true) (pt_of (sameT_pv hA hB) rfl rfl)
theorem skipT {ns : List Int} (hA : PV (callN T (n + 2)) e S A (.d (lotD ns))) (hB : PV (callN T (n + 2)) e S B (.d (lotD ns))) (h : Ok (evSs (callN T (n + 2)) r b e S) Q) : Ok (evSs (callN T (n + 2)) (.cons (.ite (.not (.call 10 (.cons A (.cons B .nil)) .nil [0, 1])) x .nil) r) b e S) Q := st_skip (sameT_pt hA hB) h
theorem skipTT {ns ms : List Int} {C D : E} (hA : PV (callN T (n + 2)) e S A (.d (lotD ns))) (hB : PV (callN T (n + 2)) e S B (.d (lotD ns))) (hC : PV (callN T (n + 2)) e S C (.d (lotD ms))) (hD : PV (callN T (n + 2)) e S D (.d (lotD ms))) (h : Ok (evSs (callN T (n + 2)) r b e S) Q) : Ok (evSs (callN T (n + 2)) (.cons (.ite (.or (.not (.call 10 (.cons A (.cons B .nil)) .nil [0, 1])) (.not (.call 10 (.cons C (.cons D .nil)) .nil [0, 1]))) x .nil) r) b e S) Q := st_skip (pt_or (k := false) (l := false) (sameT_pt hA hB) fun _ => sameT_pt hC hD) h
theorem skipB {k : Bool} (hA : PV (callN T (n + 2)) e S A (.d (.bl k))) (hB : PV (callN T (n + 2)) e S B (.d (.bl k))) (h : Ok (evSs (callN T (n + 2)) r b e S) Q) : Ok (evSs (callN T (n + 2)) (.cons (.ite (.not (.call 10 (.cons A (.cons B .nil)) .nil [0, 1])) x .nil) r) b e S) Q :=
  st_skip (pt_not (k := true) (pt_of (pv_call0 (v := .bl true) (pes_cons hA (pes_cons hB pes_nil)) (ok_sameB (n := n + 1)) rfl rfl) rfl rfl)) h
end

/-! ### the cuts, walked -/
abbrev eyesD (eyes : List (List Int)) : D := .tup (eyes.map lotD)
def cutD (p : Nat × List Int) : D := .tup [.int p.1, lotD p.2]
theorem pure_cut (p : Nat × List Int) : (cutD p).pure = true := pureL_of (by
  intro x hx
  simp at hx
  rcases hx with rfl | rfl
  · rfl
  · exact pure_ints _)
theorem turn_mod (t n : Nat) : (((t % n : Nat) : Int) + 1) % (n : Int) = ((t + 1) % n : Nat) := by
  rw [← Nat.mod_add_mod t n 1]
  simp
theorem eye_get {eyes : List (List Int)} {t : Nat} (h0 : 0 < eyes.length) : atI (eyes.map lotD) ((t % eyes.length : Nat) : Int) = some (lotD (eyes.getD (t % eyes.length) [])) := by
  have hk := Nat.mod_lt t h0
  refine atI_nat ?_
  rw [List.getElem?_map, List.getElem?_eq_getElem hk]
  simp [List.getD, hk]
theorem ne_tups (a c : List Int) (S : Sto) : cmpV .ne (.d (.tup (a.map .int))) (.d (.tup (c.map .int))) S = some (!decide (a = c)) := by
  show (cmpV .eq (.d (.tup (a.map .int))) (.d (.tup (c.map .int))) S).map not = _
  rw [eq_tups]
  rfl
theorem in_bools {ms : List Bool} {S : Sto} {p : Nat} (h : S[p]? = some (.lst (ms.map .bl))) : cmpV .inn (.d (.bl false)) (.d (.loc p)) S = some (ms.any fun k => k == false) := by
  show orE ((items (.d (.loc p)) S).bind fun xs => if flat (.bl false) && xs.all flat then some (inF (.bl false) xs) else none) _ = _
  rw [items_loc h]
  have hf : (ms.map D.bl).all flat = true := by
    rw [List.all_map]
    exact List.all_eq_true.mpr fun _ _ => rfl
  show orE (if (ms.map D.bl).all flat = true then some (inF (.bl false) (ms.map .bl)) else none) _ = _
  rw [if_pos hf]
  show some (inF (.bl false) (ms.map .bl)) = _
  unfold inF
  rw [List.any_map]
  rfl
section
variable {n b : Nat} {S : Sto} {h : Int} {L : List (List Int)} {row : List Int} {eyes : List (List Int)}
theorem ok_rc1 {cp t c : Nat} {f : List Int} {cs : List (Nat × List Int)} {o7 : Option D} {rowD : D} (w : Web h L) (hr : Rng L row) (hl : row.length < 900) (h0 : 0 < eyes.length) (hn : eyes.length < 100) (r : Run L row eyes t f c cs) (hc : c < eyes.length) (hcs : cs.length < 1000000) (hp : S[cp]? = some (.lst (cs.map cutD))) :
    Ok (evSs (callN T (n + 4)) b_row_cuts_1 b [some (webD h L), some rowD, some (eyesD eyes), some (lotD f), some (.loc cp), some (.int c), some (.int (t % eyes.length : Nat)), o7] S) fun q => ∃ (f' : List Int) (c' : Nat) (cs' : List (Nat × List Int)) (o7 : Option D), q = (.nx, [some (webD h L), some rowD, some (eyesD eyes), some (lotD f'), some (.loc cp), some (.int c'), some (.int ((t + 1) % eyes.length : Nat)), o7], S.set cp (.lst (cs'.map cutD))) ∧ Run L row eyes (t + 1) f' c' cs' ∧ f'.length * eyes.length + (eyes.length - c') < f.length * eyes.length + (eyes.length - c) := by
  obtain ⟨hf, hfl, ⟨p, hpr, lp⟩, _⟩ := r.inv w hr
  dsimp only [b_row_cuts_1]
  generalize he : eyes.getD (t % eyes.length) [] = eye
  obtain ⟨r1, e1, g, rfl, lg⟩ := ok_view (n := n) (S := S) (eye := eye) w hf (by omega)
  refine st_asg (pv_call0 (v := lotD g) (pes_cons (pv_var rfl) (pes_cons (pv_var rfl) (pes_cons (pv_idx (pv_var rfl) (pv_var rfl) rfl (by rw [← he]; exact eye_get h0)) pes_nil))) ⟨_, e1, rfl⟩ (pure_ints _) rfl) ?_
  dsimp only [List.set]
  refine st_aug rfl (pv_cn _) rfl ?_
  dsimp only [List.set]
  have hpl : S.set cp (.lst (cs.map cutD)) = S := by
    obtain ⟨_, e⟩ := List.getElem?_eq_some_iff.mp hp
    rw [← e]
    simp
  have fin : ∀ (f' : List Int) (c' : Nat) (cs' : List (Nat × List Int)) (S1 : Sto), S1 = S.set cp (.lst (cs'.map cutD)) → Run L row eyes (t + 1) f' c' cs' → f'.length * eyes.length + (eyes.length - c') < f.length * eyes.length + (eyes.length - c) → Ok (evSs (callN T (n + 4)) (.cons (.asg (.var 6) (.bin .mod (.bin .add (.var 6) (.cn (.int 1))) (.f1 .len (.var 2)))) .nil) b [some (webD h L), some rowD, some (eyesD eyes), some (lotD f'), some (.loc cp), some (.int c'), some (.int (t % eyes.length : Nat)), some (lotD g)] S1) fun q => ∃ (f' : List Int) (c' : Nat) (cs' : List (Nat × List Int)) (o7 : Option D), q = (.nx, [some (webD h L), some rowD, some (eyesD eyes), some (lotD f'), some (.loc cp), some (.int c'), some (.int ((t + 1) % eyes.length : Nat)), o7], S.set cp (.lst (cs'.map cutD))) ∧ Run L row eyes (t + 1) f' c' cs' ∧ f'.length * eyes.length + (eyes.length - c') < f.length * eyes.length + (eyes.length - c) := by
    rintro f' c' cs' S1 rfl r' hm
    refine st_asg (v := .int ((t + 1) % eyes.length : Nat)) (pv_bini (pv_bini (pv_var rfl) (pv_cn _) rfl) (pv_lenM (f := lotD) (pv_var rfl)) ?_) (ok_nil ⟨f', c', cs', _, rfl, r', hm⟩)
    rw [binI_mod (by omega), turn_mod]
  have lg' : Lst L (partOf L f eye) g := lg
  have hsame : g = f ∧ partOf L f eye = f ∨ g ≠ f ∧ (partOf L f eye).length < f.length := by
    rcases part_or w (eye := eye) hf with ⟨h1, _⟩ | ⟨h1, _⟩
    · rw [h1] at lg
      exact .inl ⟨Lst.self w hpr lp lg, h1⟩
    · refine .inr ⟨?_, h1⟩
      rintro rfl
      have := lg.1
      omega
  refine st_if (k := !decide (g = f)) (pt_of (pv_cmp (pv_var rfl) (pv_var rfl) (ne_tups g f S)) rfl rfl) (fun hk => ?_) (fun hk => ?_)
  · have hgf : g ≠ f := by simpa using hk
    have hlt : (partOf L f eye).length < f.length := by
      rcases hsame with ⟨e, _⟩ | ⟨_, e⟩
      · exact absurd e hgf
      · exact e
    refine st_app (v := cutD (t % eyes.length, g)) (pv_var rfl) hp (by simp; omega) (pv_tup (pes_cons (pv_var rfl) (pes_cons (pv_var rfl) pes_nil)) (by simp)) (.inl (pure_cut _)) ?_
    refine ok_swap (es_pv (pv_var rfl) (es_pv (pv_cn _) (es_nil ⟨rfl, ?_⟩)))
    dsimp only [setAll, List.set]
    refine ok_nil (Then.nx (fin g 0 (cs ++ [(t % eyes.length, g)]) _ ?_ (r.cut hc (by rw [he]; exact hlt) (by rw [he]; exact lg')) ?_))
    · rw [List.map_append]
      rfl
    · have h1 := lg'.1
      have h2 : g.length + 1 ≤ f.length := by omega
      have h3 := Nat.mul_le_mul_right eyes.length h2
      rw [Nat.add_mul, Nat.one_mul] at h3
      omega
  · have hgf : g = f := by simpa using hk
    have heq : partOf L f eye = f := by
      rcases hsame with ⟨_, e⟩ | ⟨e, _⟩
      · exact e
      · exact absurd hgf e
    exact fin f (c + 1) cs S hpl.symm (r.same hc (by rw [he]; exact heq)) (by omega)
theorem ok_rcuts (w : Web h L) (hr : Rng L row) (hl : row.length < 900) (h0 : 0 < eyes.length) (hn : eyes.length < 100) : Ok (callN T (n + 5) 5 [webD h L, lotD row, eyesD eyes] S) fun r => ∃ t f cs, r = (.fr (cs.map cutD), S) ∧ Run L row eyes t f eyes.length cs := by
  refine ok_fn (d := ⟨"row_cuts", 3, 8, b_row_cuts⟩) rfl rfl ?_
  dsimp only [b_row_cuts]
  rw [show env0 8 [webD h L, lotD row, eyesD eyes] = [some (webD h L), some (lotD row), some (eyesD eyes), none, none, none, none, none] from rfl]
  obtain ⟨r1, e1, f0, rfl, l0⟩ := ok_leastf (n := n + 1) (S := S) w hr hl
  refine ok_asgG (ev_tup (es_pv (pv_call0 (v := lotD f0) (pes_cons (pv_var rfl) (pes_cons (pv_var rfl) pes_nil)) ⟨_, e1, rfl⟩ (pure_ints _) rfl) (es_cons (ev_pv (pv_lst pes_nil (by simp)) (es_pv (pv_cn _) (es_pv (pv_cn _) (es_nil ⟨by simp, Ok.ok ?_⟩)))))))
  dsimp only [settle, List.set]
  have hp0 : (S ++ [O.lst []])[S.length]? = some (.lst (([] : List (Nat × List Int)).map cutD)) := push_at
  have ht0 : (S ++ [O.lst []]).take S.length = S := take_push (take_self _)
  refine st_while (fun m e S' => ∃ (t : Nat) (f : List Int) (c : Nat) (cs : List (Nat × List Int)) (o7 : Option D), e = [some (webD h L), some (lotD row), some (eyesD eyes), some (lotD f), some (.loc S.length), some (.int c), some (.int (t % eyes.length : Nat)), o7] ∧ Run L row eyes t f c cs ∧ S'[S.length]? = some (.lst (cs.map cutD)) ∧ S'.take S.length = S ∧ m = f.length * eyes.length + (eyes.length - c)) (m := f0.length * eyes.length + (eyes.length - 0)) ?_ ⟨0, f0, 0, [], none, by rw [Nat.zero_mod]; rfl, .start l0, hp0, ht0, rfl⟩ ?_
  · have h1 := l0.1
    have h2 : f0.length * eyes.length ≤ 900 * 100 := Nat.mul_le_mul (by omega) (by omega)
    omega
  · rintro m e S' ⟨t, f, c, cs, o7, rfl, r, hp, ht, rfl⟩
    refine et_pt (k := decide ((c : Int) < eyes.length)) (pt_of (pv_cmp (pv_var rfl) (pv_lenM (f := lotD) (pv_var rfl)) rfl) rfl rfl) ⟨fun hk => ?_, fun hk => ?_⟩
    · have hc : c = eyes.length := by
        have := r.fin.1
        simp at hk
        omega
      subst hc
      refine st_ret (pv_var rfl) ⟨_, rfl, t, f, cs, ?_, r⟩
      show leave S.length (.d (.loc S.length)) S' = _
      rw [leave_own hp (Nat.le_refl _) (fun y hy => by
        obtain ⟨z, _, rfl⟩ := List.mem_map.mp hy
        exact pure_cut z), ht]
    · have hc : c < eyes.length := by
        simp at hk
        omega
      have hfin := r.fin
      have hcs : cs.length < 1000000 := by
        have := (r.inv w hr).2.2.2.2.2.2
        have h2 : row.length * eyes.length ≤ 900 * 100 := Nat.mul_le_mul (by omega) (by omega)
        omega
      refine Ok.mono (ok_rc1 (n := n) w hr hl h0 hn r hc hcs hp) fun q ⟨f', c', cs', o7, er, r', hm⟩ => ?_
      subst er
      exact ⟨_, hm, t + 1, f', c', cs', o7, rfl, r', set_at hp, take_setG ht (Nat.le_refl _), rfl⟩
theorem ok_cutrows (w : Web h L) (hr : Rng L row) (hl : row.length < 900) (h0 : 0 < eyes.length) (hn : eyes.length < 100) : Ok (callN T (n + 6) 6 [webD h L, lotD row, eyesD eyes] S) fun r => ∃ t f f0 cs, r = (.d (.tup ((f0 :: cs.map (·.2)).map lotD)), S) ∧ Lst L row f0 ∧ Run L row eyes t f eyes.length cs := by
  refine ok_fn (d := ⟨"cut_rows", 3, 5, b_cut_rows⟩) rfl rfl ?_
  dsimp only [b_cut_rows]
  rw [show env0 5 [webD h L, lotD row, eyesD eyes] = [some (webD h L), some (lotD row), some (eyesD eyes), none, none] from rfl]
  obtain ⟨r1, e1, f0, rfl, l0⟩ := ok_leastf (n := n + 2) (S := S) w hr hl
  obtain ⟨r2, e2, t, f, cs, rfl, r⟩ := ok_rcuts (n := n) (S := S) w hr hl h0 hn
  have hcl : cs.length < 1000000 := by
    have := (r.inv w hr).2.2.2.2.2.2
    have h1 := r.fin
    have h2 : row.length * eyes.length ≤ 900 * 100 := Nat.mul_le_mul (by omega) (by omega)
    omega
  have hcomp := pv_compM (rc := callN T (n + 5)) (e := [some (webD h L), some (lotD row), some (eyesD eyes), none, none]) (S := S) (x := .var 4) (t := .tup (.cons (.var 3) (.cons (.var 4) .nil))) (it := .e (.call 5 (.cons (.var 0) (.cons (.var 1) (.cons (.var 2) .nil))) .nil [0, 1, 2])) (ifs := .nil) (vs := [3, 4]) (c := []) (f := cutD) (ns := cs) (fun _ => true) (fun p => lotD p.2) (pi_e (pv_callF (pes_cons (pv_var rfl) (pes_cons (pv_var rfl) (pes_cons (pv_var rfl) pes_nil))) pes_nil ⟨_, e2, rfl⟩ rfl) rfl rfl) (chk_nil _) fun p _ => ⟨_, fun b => rfl, pts_nil, fun _ => pv_var rfl⟩
  rw [filter_yes] at hcomp
  refine st_ret (pv_bin (v := .d (.tup [lotD f0])) (w := .d (.tup (cs.map fun p => lotD p.2))) (pv_tup (pes_cons (pv_call0 (v := lotD f0) (pes_cons (pv_var rfl) (pes_cons (pv_var rfl) pes_nil)) ⟨_, e1, rfl⟩ (pure_ints _) rfl) pes_nil) (by simp)) (pv_f1 hcomp (by rw [app_tuple, items_fr]; rfl)) (binV_catT _ _ (by simp; omega))) ⟨_, rfl, t, f, f0, cs, ?_, l0, r⟩
  have e : [lotD f0] ++ (cs.map fun p => lotD p.2) = (f0 :: cs.map (·.2)).map lotD := by
    rw [List.map_cons, List.map_map]
    rfl
  rw [e]
  show leave S.length (.d (.tup ((f0 :: cs.map (·.2)).map lotD))) S = _
  rw [leave_pure (pure_lots _), take_self]
/-! the law's own -/
theorem ok_lc1 {fp T0 c : Nat} {f : List Int} {cs : List (Nat × List Int)} {hd : D} {o6 o7 : Option D} {rowD : D} (w : Web h L) (hr : Rng L row) (hl : row.length < 900) (h0 : 0 < eyes.length) (hn : eyes.length < 100) (r : Run L row eyes T0 f c cs) (hc : c < eyes.length) (hcs : cs.length < 1000000) (hp : S[fp]? = some (.lst (hd :: cs.map cutD))) :
    Ok (evTg (callN T (n + 3)) (.var 6) b (.int T0) [some (webD h L), some rowD, some (eyesD eyes), some (lotD f), some (.int c), some (.loc fp), o6, o7] S >>= fun q => evSs (callN T (n + 3)) b__law_cuts_1 b q.1 q.2) fun q => ∃ (f' : List Int) (c' : Nat) (cs' : List (Nat × List Int)) (o6 o7 : Option D) (S1 : Sto), q.2 = ([some (webD h L), some rowD, some (eyesD eyes), some (lotD f'), some (.int c'), some (.loc fp), o6, o7], S1) ∧ (q.1 = .nx ∧ c' < eyes.length ∨ q.1 = .br ∧ c' = eyes.length) ∧ Run L row eyes (T0 + 1) f' c' cs' ∧ S1[fp]? = some (.lst (hd :: cs'.map cutD)) ∧ (∀ B : Nat, B ≤ fp → B ≤ S.length → S1.take B = S.take B) ∧ S.length ≤ S1.length := by
  obtain ⟨hf, hfl, _⟩ := r.inv w hr
  refine Ok.bind (Ok.ok ?_)
  dsimp only [b__law_cuts_1, List.set]
  generalize he : eyes.getD (T0 % eyes.length) [] = eye
  have hmod : ∀ (e : Env) (S : Sto), e[2]? = some (some (eyesD eyes)) → e[6]? = some (some (.int T0)) → PV (callN T (n + 3)) e S (.bin .mod (.var 6) (.f1 .len (.var 2))) (.d (.int (T0 % eyes.length : Nat))) := fun e S h2 h6 => pv_bini (pv_var h6) (pv_lenM (f := lotD) (pv_var h2)) (by rw [binI_mod (by omega)]; rfl)
  refine st_asgF (xs := (marksOf L f eye).map .bl) (pv_callF (pes_cons (pv_var rfl) (pes_cons (pv_var rfl) (pes_cons (pv_idx (pv_var rfl) (hmod _ _ rfl rfl) rfl (by rw [← he]; exact eye_get h0)) pes_nil))) pes_nil (ok_marks (n := n + 2) w hf (by omega)) rfl) ?_
  dsimp only [List.set]
  have hfS := at_lt hp
  have hm : (S ++ [O.lst ((marksOf L f eye).map D.bl)])[S.length]? = some (.lst ((marksOf L f eye).map .bl)) := push_at
  have hp1 : (S ++ [O.lst ((marksOf L f eye).map D.bl)])[fp]? = some (.lst (hd :: cs.map cutD)) := push_lt hp
  have ht : ∀ B : Nat, B ≤ S.length → (S ++ [O.lst ((marksOf L f eye).map D.bl)]).take B = S.take B := fun B hB => List.take_append_of_le_length hB
  have hlen : S.length ≤ (S ++ [O.lst ((marksOf L f eye).map D.bl)]).length := by simp
  generalize S ++ [O.lst ((marksOf L f eye).map D.bl)] = S1 at *
  generalize S.length = mp at *
  refine st_aug rfl (pv_cn _) rfl ?_
  dsimp only [List.set]
  have fin : ∀ (f' : List Int) (c' : Nat) (cs' : List (Nat × List Int)) (S2 : Sto), Run L row eyes (T0 + 1) f' c' cs' → S2[fp]? = some (.lst (hd :: cs'.map cutD)) → (∀ B : Nat, B ≤ fp → S2.take B = S1.take B) → S1.length ≤ S2.length → Ok (evSs (callN T (n + 3)) (.cons (.ite (.cmp .eq (.var 4) (.f1 .len (.var 2))) (.cons .brk .nil) .nil) .nil) b [some (webD h L), some rowD, some (eyesD eyes), some (lotD f'), some (.int c'), some (.loc fp), some (.int T0), some (.loc mp)] S2) fun q => ∃ (f' : List Int) (c' : Nat) (cs' : List (Nat × List Int)) (o6 o7 : Option D) (S1 : Sto), q.2 = ([some (webD h L), some rowD, some (eyesD eyes), some (lotD f'), some (.int c'), some (.loc fp), o6, o7], S1) ∧ (q.1 = .nx ∧ c' < eyes.length ∨ q.1 = .br ∧ c' = eyes.length) ∧ Run L row eyes (T0 + 1) f' c' cs' ∧ S1[fp]? = some (.lst (hd :: cs'.map cutD)) ∧ (∀ B : Nat, B ≤ fp → B ≤ mp → S1.take B = S.take B) ∧ mp ≤ S1.length := by
    intro f' c' cs' S2 r' hp2 ht2 hl2
    have hcl := r'.fin.1
    refine st_if (k := (c' : Int) == eyes.length) (pt_of (pv_cmp (pv_var rfl) (pv_lenM (f := lotD) (pv_var rfl)) rfl) rfl rfl) (fun hk => ?_) (fun hk => ?_)
    · exact ok_brk (Then.br ⟨f', c', cs', _, _, S2, rfl, .inr ⟨rfl, by simp at hk; omega⟩, r', hp2, fun B h1 h2 => by rw [ht2 B h1, ht B h2], by omega⟩)
    · exact ok_nil ⟨f', c', cs', _, _, S2, rfl, .inl ⟨rfl, by simp at hk; omega⟩, r', hp2, fun B h1 h2 => by rw [ht2 B h1, ht B h2], by omega⟩
  refine st_if (k := (marksOf L f eye).any fun k => k == false) (pt_of (pv_cmp (pv_cn _) (pv_var rfl) (in_bools hm)) rfl rfl) (fun hk => ?_) (fun hk => ?_)
  · have hin : false ∈ marksOf L f eye := by
      obtain ⟨k, h1, h2⟩ := List.any_eq_true.mp hk
      have : k = false := by simpa using h2
      rw [← this]; exact h1
    have hlt : (partOf L f eye).length < f.length := by
      rcases part_or w (eye := eye) hf with ⟨_, h1⟩ | ⟨h1, _⟩
      · exact absurd hin h1
      · exact h1
    obtain ⟨pr, pl⟩ := part_rng (eye := eye) hf
    obtain ⟨r1, e1, g, rfl, lg⟩ := ok_lleast (n := n + 1) (S := S1) w pr (by omega)
    have hpart : PV (callN T (n + 3)) [some (webD h L), some rowD, some (eyesD eyes), some (lotD f), some (.int (c + 1 : Nat)), some (.loc fp), some (.int T0), some (.loc mp)] S1 (.call 22 (.cons (.var 3) (.cons (.var 7) (.cons (.cn (.bl true)) .nil))) .nil [0, 1, 2]) (.d (lotD (partOf L f eye))) := pv_call0 (v := lotD (partOf L f eye)) (pes_cons (pv_var rfl) (pes_cons (pv_var rfl) (pes_cons (pv_cn _) pes_nil))) (ok_part (n := n + 2) hm) (pure_ints _) rfl
    refine ok_swap (es_pv (pv_call0 (v := lotD g) (pes_cons (pv_var rfl) (pes_cons hpart pes_nil)) ⟨_, e1, rfl⟩ (pure_ints _) rfl) (es_pv (pv_cn _) (es_nil ⟨rfl, ?_⟩)))
    dsimp only [setAll, List.set]
    refine st_app (v := cutD (T0 % eyes.length, g)) (pv_var rfl) hp1 (by simp; omega) (pv_tup (pes_cons (hmod _ _ rfl rfl) (pes_cons (pv_var rfl) pes_nil)) (by simp)) (.inl (pure_cut _)) ?_
    refine ok_nil (Then.nx (fin g 0 (cs ++ [(T0 % eyes.length, g)]) _ (r.cut hc (by rw [he]; exact hlt) (by rw [he]; exact lg)) ?_ (fun B hB => ?_) (by simp)))
    · rw [set_at hp1, List.map_append]
      rfl
    · rw [List.take_set, List.set_eq_of_length_le]
      rw [List.length_take]
      omega
  · have hin : false ∉ marksOf L f eye := fun hin => by
      have : (marksOf L f eye).any (fun k => k == false) = true := List.any_eq_true.mpr ⟨false, hin, rfl⟩
      rw [this] at hk
      cases hk
    have heq : partOf L f eye = f := by
      rcases part_or w (eye := eye) hf with ⟨h1, _⟩ | ⟨_, h1⟩
      · exact h1
      · exact absurd h1 hin
    exact fin f (c + 1) cs S1 (r.same hc (by rw [he]; exact heq)) hp1 (fun _ _ => rfl) (Nat.le_refl _)
theorem ok_lcuts (w : Web h L) (hr : Rng L row) (hl : row.length < 900) (h0 : 0 < eyes.length) (hn : eyes.length < 100) : Ok (callN T (n + 4) 28 [webD h L, lotD row, eyesD eyes] S) fun r => ∃ t f f0 cs, r = (.fr (.tup [.int (-1), lotD f0] :: cs.map cutD), S) ∧ Lst L row f0 ∧ Run L row eyes t f eyes.length cs := by
  refine ok_fn (d := ⟨"_law_cuts", 3, 8, b__law_cuts⟩) rfl rfl ?_
  dsimp only [b__law_cuts]
  rw [show env0 8 [webD h L, lotD row, eyesD eyes] = [some (webD h L), some (lotD row), some (eyesD eyes), none, none, none, none, none] from rfl]
  obtain ⟨r1, e1, f0, rfl, l0⟩ := ok_lleast (n := n + 1) (S := S) w hr hl
  refine ok_swap (es_pv (pv_call0 (v := lotD f0) (pes_cons (pv_var rfl) (pes_cons (pv_var rfl) pes_nil)) ⟨_, e1, rfl⟩ (pure_ints _) rfl) (es_pv (pv_cn _) (es_nil ⟨rfl, ?_⟩)))
  dsimp only [setAll, List.set]
  refine st_asgF (xs := [.tup [.int (-1), lotD f0]]) (pv_lst (pes_cons (pv_tup (pes_cons (pv_neg (pv_cn _)) (pes_cons (pv_var rfl) pes_nil)) (by simp)) pes_nil) (by simp)) ?_
  dsimp only [List.set]
  have hp0 : (S ++ [O.lst [.tup [.int (-1), lotD f0]]])[S.length]? = some (.lst (.tup [.int (-1), lotD f0] :: ([] : List (Nat × List Int)).map cutD)) := push_at
  have ht0 : (S ++ [O.lst [.tup [.int (-1), lotD f0]]]).take S.length = S := take_push (take_self _)
  have hm : row.length * eyes.length ≤ 900 * 100 := Nat.mul_le_mul (by omega) (by omega)
  have hrng : binI .mul (eyes.length : Int) ((row.length : Int) + 2) = some ((eyes.length * (row.length + 2) : Nat) : Int) := by
    rw [binI_mul (.inl (by omega))]
    congr 1
  have hb1 : eyes.length * (row.length + 2) = row.length * eyes.length + 2 * eyes.length := by rw [Nat.mul_add, Nat.mul_comm, Nat.mul_comm eyes.length 2]
  have pure_all : ∀ (cs : List (Nat × List Int)), ∀ y ∈ D.tup [.int (-1), lotD f0] :: cs.map cutD, y.pure = true := fun cs y hy => by
    rcases List.mem_cons.mp hy with rfl | hy
    · exact pureL_of (by
        intro x hx
        simp at hx
        rcases hx with rfl | rfl
        · rfl
        · exact pure_ints _)
    · obtain ⟨z, _, rfl⟩ := List.mem_map.mp hy
      exact pure_cut z
  refine st_for (pi_rng0 (pv_bini (pv_lenM (f := lotD) (pv_var rfl)) (pv_bini (pv_lenM (f := D.int) (pv_var rfl)) (pv_cn _) rfl) hrng) (by omega) (by omega)) ?_
  refine ok_rng (fun k e S' => ∃ (t : Nat) (f : List Int) (c : Nat) (cs : List (Nat × List Int)) (o6 o7 : Option D), (t : Int) = k ∧ e = [some (webD h L), some (lotD row), some (eyesD eyes), some (lotD f), some (.int c), some (.loc S.length), o6, o7] ∧ c < eyes.length ∧ Run L row eyes t f c cs ∧ S'[S.length]? = some (.lst (.tup [.int (-1), lotD f0] :: cs.map cutD)) ∧ S'.take S.length = S) (by omega) ?_ ?_ ⟨0, f0, 0, [], _, _, rfl, rfl, h0, .start l0, hp0, ht0⟩
  · rintro k e S' k0 k1 ⟨t, f, c, cs, o6, o7, rfl, rfl, hc, r, hp, ht⟩
    have hcs : cs.length < 1000000 := by
      have := (r.inv w hr).2.2.2.2.2.2
      have h1 := r.fin
      omega
    refine Ok.mono (ok_lc1 (n := n) w hr hl h0 hn r hc hcs hp) fun q ⟨f', c', cs', o6, o7, S1, eq2, hq, r', hp', ht', hl'⟩ => ?_
    obtain ⟨fl, q⟩ := q
    dsimp only at eq2 hq
    subst eq2
    have ht2 : S1.take S.length = S := by rw [ht' S.length (Nat.le_refl _) (take_len ht), ht]
    rcases hq with ⟨rfl, hc'⟩ | ⟨rfl, rfl⟩
    · exact ⟨t + 1, f', c', cs', o6, o7, by omega, rfl, hc', r', hp', ht2⟩
    · refine Then.nx (st_ret (pv_var rfl) ⟨_, rfl, t + 1, f', f0, cs', ?_, l0, r'⟩)
      show leave S.length (.d (.loc S.length)) S1 = _
      rw [leave_own hp' (Nat.le_refl _) (pure_all cs'), ht2]
  · rintro e S' ⟨t, f, c, cs, o6, o7, ht, rfl, hc, r, hp, _⟩
    have h1 := r.fin
    omega
/-- the letters that are in all eyes -/
def sharedOf (L : List (List Int)) (eyes : List (List Int)) : List Int := (rngI L.length).filter fun y => (((eyes.filter fun e => inn y e).length : Nat) : Int) == eyes.length
theorem shared_in {y : Int} (hy : inn y (sharedOf L eyes) = true) : ∀ e ∈ eyes, inn y e = true := by
  obtain ⟨_, h2⟩ := List.mem_filter.mp (inn_mem.mp hy)
  have : (eyes.filter fun e => inn y e).length = eyes.length := by
    have := of_decide_eq_true (p := _ = _) h2
    omega
  exact List.length_filter_eq_length_iff.mp this
theorem in_shared {y : Int} (y0 : 0 ≤ y) (y1 : y < L.length) (h : ∀ e ∈ eyes, inn y e = true) : inn y (sharedOf L eyes) = true := by
  refine inn_mem.mpr (List.mem_filter.mpr ⟨rngI_mem.mpr ⟨y0, y1⟩, ?_⟩)
  have : (eyes.filter fun e => inn y e).length = eyes.length := List.length_filter_eq_length_iff.mpr h
  rw [this]
  simp
theorem ok_shared (hl : L.length < 1000) : Ok (callN T (n + 1) 24 [webD h L, eyesD eyes] S) fun r => r = (.d (lotD (sharedOf L eyes)), S) := by
  refine ok_fn (d := ⟨"_law_shared", 2, 4, b__law_shared⟩) rfl rfl ?_
  dsimp only [b__law_shared]
  rw [show env0 4 [webD h L, eyesD eyes] = [some (webD h L), some (eyesD eyes), none, none] from rfl]
  have hi : PI (callN T n) [some (webD h L), some (eyesD eyes), none, none] S (.rng .none (.f1 .len (.idx (.var 0) (.cn (.int 1))))) [] ((rngI L.length).map .int) := by
    have := pi_rngI (rc := callN T n) (e := [some (webD h L), some (eyesD eyes), none, none]) (S := S) (pv_lenM (f := lotD) (pv_lots (i := 0) rfl)) (by omega) (by omega)
    rw [show ((L.length : Nat) : Int).toNat = L.length by omega] at this
    exact this
  refine st_ret (pv_f1 (w := .d (lotD (sharedOf L eyes))) (pv_compI (fun y => (((eyes.filter fun e => inn y e).length : Nat) : Int) == eyes.length) .int hi (chk_nil _) fun y _ => ⟨pts_one (pt_of (pv_cmp (pv_lenF (f := lotD) (l := eyes.filter fun e => inn y e) ?_) (pv_lenM (f := lotD) (pv_var rfl)) rfl) rfl rfl), fun _ => pv_var rfl⟩) (by rw [app_tuple, items_fr]; rfl)) ⟨_, rfl, ?_⟩
  · exact pv_compM (c := []) (f := lotD) (ns := eyes) (fun e => inn y e) lotD (pi_e (pv_var rfl) rfl rfl) (chk_nil _) fun e _ => ⟨_, fun b => rfl, pts_one (pt_of (pv_cmp (pv_var rfl) (pv_var rfl) (in_cmp _ _ _)) rfl rfl), fun _ => pv_var rfl⟩
  · show leave S.length (.d (lotD (sharedOf L eyes))) S = _
    rw [leave_pure (pure_ints _), take_self]
/-- the rows of the law's cuts -/
theorem lcuts_pv {e : Env} {i j k p q : Nat} (hi : e[i]? = some (some (webD h L))) (hj : e[j]? = some (some (lotD row))) (hk : e[k]? = some (some (eyesD eyes))) (hq : ∀ x y : D, (((wipeE e [p, q]).set p (some x)).set q (some y))[q]? = some (some y)) (w : Web h L) (hr : Rng L row) (hl : row.length < 900) (h0 : 0 < eyes.length) (hn : eyes.length < 100) : ∃ t f f0 cs, PV (callN T (n + 4)) e S (.f1 .tuple (.comp (.var q) (.tup (.cons (.var p) (.cons (.var q) .nil))) (.e (.call 28 (.cons (.var i) (.cons (.var j) (.cons (.var k) .nil))) .nil [0, 1, 2])) .nil [p, q])) (.d (.tup ((f0 :: cs.map (·.2)).map lotD))) ∧ Lst L row f0 ∧ Run L row eyes t f eyes.length cs := by
  obtain ⟨r2, e2, t, f, f0, cs, rfl, l0, r⟩ := ok_lcuts (n := n) (S := S) w hr hl h0 hn
  have hmap : D.tup [.int (-1), lotD f0] :: cs.map cutD = (((-1 : Int), f0) :: cs.map fun p => ((p.1 : Int), p.2)).map fun p : Int × List Int => D.tup [.int p.1, lotD p.2] := by
    rw [List.map_cons, List.map_map]
    rfl
  have hcall := pv_callF (rc := callN T (n + 4)) (e := e) (S := S) (f := 28) (perm := [0, 1, 2]) (pes_cons (pv_var hi) (pes_cons (pv_var hj) (pes_cons (pv_var hk) pes_nil))) pes_nil ⟨_, e2, rfl⟩ rfl
  rw [hmap] at hcall
  have hcomp := pv_compM (x := .var q) (t := .tup (.cons (.var p) (.cons (.var q) .nil))) (ifs := .nil) (vs := [p, q]) (c := []) (f := fun p : Int × List Int => D.tup [.int p.1, lotD p.2]) (ns := ((-1 : Int), f0) :: cs.map fun p => ((p.1 : Int), p.2)) (fun _ => true) (fun p => lotD p.2) (pi_e hcall rfl rfl) (chk_nil _) fun d _ => ⟨_, fun b => rfl, pts_nil, fun _ => pv_var (hq _ _)⟩
  rw [filter_yes] at hcomp
  refine ⟨t, f, f0, cs, pv_f1 hcomp ?_, l0, r⟩
  rw [app_tuple, items_fr, List.map_cons, List.map_map, List.map_cons, List.map_map]
  rfl
theorem lastI {F : List (List Int)} {x : List Int} (h : F.getLast? = some x) : atI (F.map lotD) (-1) = some (lotD x) := by
  have hne : F ≠ [] := by rintro rfl; simp at h
  have hl := List.length_pos_iff.mpr hne
  unfold atI ixN
  rw [if_neg (by omega), List.length_map, if_pos (by omega)]
  show (F.map lotD)[((-1 : Int) + F.length).toNat]? = _
  rw [show ((-1 : Int) + F.length).toNat = F.length - 1 by omega, List.getElem?_map, ← List.getLast?_eq_getElem?, h]
  rfl
theorem Run.lastOf {t c : Nat} {f f0 : List Int} {cs : List (Nat × List Int)} (l0 : Lst L row f0) (r : Run L row eyes t f c cs) : (f0 :: cs.map (·.2)).getLast? = some f := by
  induction r with
  | start l => rw [l0.uniq l]; rfl
  | same r hc hp ih => exact ih
  | cut r hc hp l ih =>
    rw [List.map_append, ← List.cons_append]
    exact List.getLast?_concat ..
theorem ok_askedc (w : Web h L) (hr : Rng L row) (hl : row.length < 900) (h0 : 0 < eyes.length) (hn : eyes.length < 100) : Ok (callN T (n + 7) 29 [webD h L, lotD row, eyesD eyes] S) fun r => r = (.d (.bl true), S) := by
  have hl8 := w.l8
  refine ok_fn (d := ⟨"_law_asked_cuts", 3, 7, b__law_asked_cuts⟩) rfl rfl ?_
  dsimp only [b__law_asked_cuts]
  rw [show env0 7 [webD h L, lotD row, eyesD eyes] = [some (webD h L), some (lotD row), some (eyesD eyes), none, none, none, none] from rfl]
  obtain ⟨t, f, f0, cs, pd, l0, r⟩ := lcuts_pv (n := n + 2) (S := S) (e := [some (webD h L), some (lotD row), some (eyesD eyes), none, none, none, none]) (i := 0) (j := 1) (k := 2) (p := 4) (q := 5) (row := row) (eyes := eyes) rfl rfl rfl (fun _ _ => rfl) w hr hl h0 hn
  refine st_asg pd ?_
  dsimp only [List.set]
  obtain ⟨r2, e2, t', f', f0', cs', rfl, l0', r'⟩ := ok_cutrows (n := n) (S := S) (eyes := eyes) w hr hl h0 hn
  obtain rfl : f0 = f0' := l0.uniq l0'
  obtain ⟨rfl, rfl⟩ := r.rest r'
  refine st_asg (pv_call0 (v := .tup ((f0 :: cs.map (·.2)).map lotD)) (pes_cons (pv_var rfl) (pes_cons (pv_var rfl) (pes_cons (pv_var rfl) pes_nil))) ⟨_, e2, rfl⟩ (pure_lots _) rfl) ?_
  dsimp only [List.set]
  obtain ⟨r3, e3, v, rfl, lv⟩ := ok_lview (n := n + 3) (S := S) (eye := sharedOf L eyes) w hr hl
  obtain ⟨hf, hfl, _⟩ := r.inv w hr
  obtain ⟨r4, e4, g, rfl, lg⟩ := ok_lview (n := n + 3) (S := S) (eye := sharedOf L eyes) w hf (by omega)
  obtain rfl : v = f := r.last w hr h0 (fun y hy => shared_in hy) (fun y y0 y1 hy => in_shared y0 y1 hy) lv lg
  have hsh : PV (callN T (n + 6)) [some (webD h L), some (lotD row), some (eyesD eyes), some (.tup ((f0 :: cs.map (·.2)).map lotD)), none, none, some (.tup ((f0 :: cs.map (·.2)).map lotD))] S (.call 24 (.cons (.var 0) (.cons (.var 2) .nil)) .nil [0, 1]) (.d (lotD (sharedOf L eyes))) := pv_call0 (v := lotD (sharedOf L eyes)) (pes_cons (pv_var rfl) (pes_cons (pv_var rfl) pes_nil)) (ok_shared (n := n + 5) (by omega)) (pure_ints _) rfl
  refine st_ret (pv_andb (k := true) (l := true) (pv_call0 (v := .bl true) (pes_cons (pv_var rfl) (pes_cons (pv_var rfl) pes_nil)) (ok_sameTT (n := n + 3)) rfl rfl) fun _ => sameT_pv (n := n + 4) (pv_idx (pv_var rfl) (pv_neg (pv_cn _)) rfl (lastI (r.lastOf l0))) (pv_call0 (v := lotD v) (pes_cons (pv_var rfl) (pes_cons (pv_var rfl) (pes_cons hsh pes_nil))) ⟨_, e3, rfl⟩ (pure_ints _) rfl)) ⟨_, rfl, ?_⟩
  show leave S.length (.d (.bl true)) S = _
  rw [leave_pure rfl, take_self]
end

end K24
set_option linter.all false
set_option autoImplicit false
set_option maxRecDepth 100000
namespace K24
open Pv
theorem pv_slL {rc : Rc} {e : Env} {S : Sto} {x : E} {lo hi : Oe} {p : Nat} {xs : List D} {i j : Option Int} (hx : PV rc e S x (.d (.loc p))) (hp : S[p]? = some (.lst xs)) (hl : PO rc e S lo i) (hh : PO rc e S hi j) : PV rc e S (.sl x lo hi) (.fr (cut xs i j)) := pv_sl hx hl hh (slice_loc hp)
/-! ### two hands that tell a third one by turns -/
theorem WebW.web {h : Int} {L : List (List Int)} (w : WebW h L) : Web h L := ⟨w.h0, w.h4, w.l0, w.l8, fun x hx => ⟨(w.ok x hx).ne, asc_nodup (w.ok x hx).asc, (w.ok x hx).rng⟩⟩
theorem lotW_two {h a c : Int} (ha : 0 ≤ a ∧ a < h) (hc : 0 ≤ c ∧ c < h) (hne : a ≠ c) : LotW h (sortI [a, c]) := by
  have hp := sortI_perm [a, c]
  refine ⟨fun e => ?_, asc_of (sortI_sorted _) (hp.nodup_iff.mpr (by simp [hne])), fun g hg => ?_⟩
  · have := hp.length_eq
    rw [e] at this
    simp at this
  · have := hp.subset hg
    simp at this
    rcases this with rfl | rfl
    · exact ha
    · exact hc
theorem lotW_one {h a : Int} (ha : 0 ≤ a ∧ a < h) : LotW h [a] := ⟨by simp, by simp, fun g hg => by rw [List.mem_singleton.mp hg]; exact ha⟩
section
variable {n b l : Nat} {S : Sto}
theorem ok_tw1 {hp sp mp : Nat} {so mo : List (List Int)} {t : Int} {x1 o4 o5 o6 o7 : Option D} (hb : Bx S l) (hs : S[sp]? = some (.lst (so.map lotD))) (hm : S[mp]? = some (.lst (mo.map lotD))) (hsl : sp ≠ l) (hml : mp ≠ l) (h0 : mo ≠ []) (hmol : mo.length < 1000) (hsol : so.length < 1000) :
    Ok (evTg (callN T (n + 2)) (.var 4) b (.int t) [some (.loc l), x1, some (.loc sp), some (.loc mp), o4, o5, o6, o7] S >>= fun q => evSs (callN T (n + 2)) b__law_turns_web_1 b q.1 q.2) fun r => ∃ (x : List Int) (S1 : Sto), r = (.nx, [some (.loc l), x1, some (.loc sp), some (.loc mp), some (.int t), o5, o6, o7], S1.set sp (.lst ((so ++ [x]).map lotD))) ∧ x ∈ mo ∧ Fr l S S1 := by
  refine Ok.bind (Ok.ok ?_)
  dsimp only [b__law_turns_web_1, List.set]
  have hit : itemsD (.loc mp) S = some (mo.map lotD) := items_loc hm
  refine st_app2 (pv_var rfl) hs (by simp; omega) (Ok.mono (pick_at (n := n) (y := .loc mp) rfl (pv_var rfl _) hb hit (by simp; exact hml) (by simpa using h0) (by simp; omega) (fun x hx => by
    obtain ⟨z, _, rfl⟩ := List.mem_map.mp hx
    exact pure_ints z)) fun r ⟨y, S1, er, hy, fr⟩ => ?_)
  subst er
  obtain ⟨x, hx, rfl⟩ := List.mem_map.mp hy
  refine ⟨lotD x, S1, rfl, fr.at hs hsl, .inl (pure_ints _), ok_nil ⟨x, S1, ?_, hx, fr⟩⟩
  rw [List.map_append]
  rfl
theorem ok_tweb (hb : Bx S l) : Ok (callN T (n + 3) 25 [.loc l] S) fun r => ∃ (h : Int) (L : List (List Int)) (i0 i1 : Int) (hs : List Int) (a c : Nat), r.1 = .d (.tup [webD h L, .loc a, .loc c]) ∧ WebW h L ∧ 2 ≤ L.length ∧ r.2[a]? = some (.lst ([i0, i1].map .int)) ∧ (0 ≤ i0 ∧ i0 < L.length) ∧ (0 ≤ i1 ∧ i1 < L.length) ∧ r.2[c]? = some (.lst (hs.map .int)) ∧ (∀ g ∈ hs, 0 ≤ g ∧ g < h) ∧ hs.length = 2 ∧ Gr l S r.2 ∧ S.length ≤ a ∧ S.length ≤ c := by
  have hlt := hb.lt
  refine ok_fn (d := ⟨"_law_turns_web", 1, 8, b__law_turns_web⟩) rfl rfl ?_
  dsimp only [b__law_turns_web]
  rw [show env0 8 [.loc l] = [some (.loc l), none, none, none, none, none, none, none] from rfl]
  -- the hands
  have hh : Ok ((evE (callN T (n + 2)) (.call 11 (.cons (.var 0) (.cons (.mkr .list .none (.call 9 (.cons (.var 0) (.cons (.lst (.cons (.cn (.int 3)) (.cons (.cn (.int 3)) (.cons (.cn (.int 4)) .nil)))) .nil)) .nil [0, 1])) .nil)) .nil [0, 1])).v S.length [some (.loc l), none, none, none, none, none, none, none] S) fun r => ∃ (h : Int) (ms : List Int) (S1 : Sto), r = (.fr (ms.map .int), S1) ∧ (h = 3 ∨ h = 4) ∧ ms.Perm (rngI h.toNat) ∧ Fr l S S1 := by
    refine ok_call (es_pv (pv_var rfl) (es_cons (ev_mkr (Ok.mono (pickF_at (n := n) (xs := [.int 3, .int 3, .int 4]) rfl (pv_lst (pes_cons (pv_cn _) (pes_cons (pv_cn _) (pes_cons (pv_cn _) pes_nil))) (by simp) _) rfl hb (by simp) (by simp) (by simp; decide)) fun r ⟨y, S1, er, hy, fr⟩ => ?_))))
    subst er
    have hk : ∃ k : Int, y = .int k ∧ (k = 3 ∨ k = 4) := by
      simp at hy
      rcases hy with rfl | rfl
      · exact ⟨3, rfl, .inl rfl⟩
      · exact ⟨4, rfl, .inr rfl⟩
    obtain ⟨k, rfl, hk⟩ := hk
    refine ⟨k, S1, rfl, by omega, by omega, es_nil (Ok.ok ?_)⟩
    have g := (Gr.refl fr.bx).push [O.lst ((rngI k.toNat).map .int)]
    have hl1 := fr.bx.lt
    refine Ok.mono (ok_mixD (n := n) (xs := (rngI k.toNat).map .int) g.bx push_at (show S1.length ≠ l by omega) (by simp [rngI]; omega) (fun x hx => by
      obtain ⟨z, _, rfl⟩ := List.mem_map.mp hx
      rfl)) fun r ⟨ys, e1, hpm, fr2⟩ => ?_
    obtain ⟨ms, rfl, hm⟩ := map_of hpm
    refine ⟨k, ms, r.2.take S1.length, ?_, hk, hm, fr.trans ((g.fr fr2).leave hl1)⟩
    rw [e1, leave_frP (fun y hy => by
      obtain ⟨z, _, rfl⟩ := List.mem_map.mp hy
      rfl), ← fr.len]
  refine ok_asg (Ok.mono hh fun r ⟨h, ms, S1, er, hh34, hpm, fr1⟩ => ?_)
  subst er
  dsimp only [settle, List.set]
  have hml : ms.length = h.toNat := by rw [hpm.length_eq]; simp [rngI]
  have hnd : ms.Nodup := hpm.nodup_iff.mpr (rngI_nodup _)
  have hat : ∀ k : Nat, k < 3 → 0 ≤ ati ms (k : Nat) ∧ ati ms (k : Nat) < h := fun k hk => by
    have hk2 : k < ms.length := by omega
    have e : ati ms (k : Nat) = ms[k] := by
      unfold ati
      simp [List.getD, hk2]
    have := rngI_mem.mp (hpm.subset (List.getElem_mem hk2))
    rw [e]
    omega
  have hne : ∀ i j : Nat, i < j → j < 3 → ati ms (i : Nat) ≠ ati ms (j : Nat) := fun i j hij hj e => by
    have hi2 : i < ms.length := by omega
    have hj2 : j < ms.length := by omega
    have e1 : ati ms (i : Nat) = ms[i] := by unfold ati; simp [List.getD, hi2]
    have e2 : ati ms (j : Nat) = ms[j] := by unfold ati; simp [List.getD, hj2]
    rw [e1, e2] at e
    exact (List.pairwise_iff_getElem.mp (List.nodup_iff_pairwise_ne.mp hnd)) _ _ hi2 hj2 hij e
  have g1 : Gr l S (S1 ++ [O.lst (ms.map .int)]) := ((Gr.refl hb).fr fr1).push _
  have hp1 : (S1 ++ [O.lst (ms.map .int)])[S1.length]? = some (.lst (ms.map .int)) := push_at
  have hhS : S.length = S1.length := fr1.len.symm
  generalize S1 ++ [O.lst (ms.map .int)] = S2 at *
  generalize S1.length = hp at *
  have pvh : ∀ (e : Env) (S : Sto) (k : Nat), e[1]? = some (some (.loc hp)) → S[hp]? = some (.lst (ms.map .int)) → k < 3 → PV (callN T (n + 2)) e S (.idx (.var 1) (.cn (.int (k : Nat)))) (.d (.int (ati ms (k : Nat)))) := fun e S k h1 h2 hk => pv_idxL (pv_var h1) h2 (pv_cn _) (atI_ints (by omega) (by omega))
  generalize ha0 : ati ms ((0 : Nat) : Int) = a0
  generalize ha1 : ati ms ((1 : Nat) : Int) = a1
  generalize ha2 : ati ms ((2 : Nat) : Int) = a2
  have r0 := hat 0 (by omega)
  have r1 := hat 1 (by omega)
  have r2 := hat 2 (by omega)
  have n02 := hne 0 2 (by omega) (by omega)
  have n12 := hne 1 2 (by omega) (by omega)
  rw [ha0] at r0 n02
  rw [ha1] at r1 n12
  rw [ha2] at r2 n02 n12
  have p0 : ∀ (e : Env) (S : Sto), e[1]? = some (some (.loc hp)) → S[hp]? = some (.lst (ms.map .int)) → PV (callN T (n + 2)) e S (.idx (.var 1) (.cn (.int 0))) (.d (.int a0)) := fun e S h1 h2 => by rw [← ha0]; exact pvh e S 0 h1 h2 (by omega)
  have p1 : ∀ (e : Env) (S : Sto), e[1]? = some (some (.loc hp)) → S[hp]? = some (.lst (ms.map .int)) → PV (callN T (n + 2)) e S (.idx (.var 1) (.cn (.int 1))) (.d (.int a1)) := fun e S h1 h2 => by rw [← ha1]; exact pvh e S 1 h1 h2 (by omega)
  have p2 : ∀ (e : Env) (S : Sto), e[1]? = some (some (.loc hp)) → S[hp]? = some (.lst (ms.map .int)) → PV (callN T (n + 2)) e S (.idx (.var 1) (.cn (.int 2))) (.d (.int a2)) := fun e S h1 h2 => by rw [← ha2]; exact pvh e S 2 h1 h2 (by omega)
  have sorted2 : ∀ (e : Env) (S : Sto) (X Y : E) (x y : Int), PV (callN T (n + 2)) e S X (.d (.int x)) → PV (callN T (n + 2)) e S Y (.d (.int y)) → PV (callN T (n + 2)) e S (.f1 .tuple (.f1 .sorted (.lst (.cons X (.cons Y .nil))))) (.d (lotD (sortI [x, y]))) := fun e S X Y x y hx hy => pv_f1 (pv_f1 (pv_lst (pes_cons hx (pes_cons hy pes_nil)) (by simp)) (app_sortF [x, y] S)) (by rw [app_tuple, items_fr]; rfl)
  have w0 : LotW h (sortI [a0, a2]) := lotW_two r0 r2 n02
  have w1 : LotW h (sortI [a1, a2]) := lotW_two r1 r2 n12
  refine st_asgF (xs := [sortI [a0, a2], sortI [a1, a2]].map lotD) (pv_lst (pes_cons (sorted2 _ _ _ _ _ _ (p0 _ _ rfl hp1) (p2 _ _ rfl hp1)) (pes_cons (sorted2 _ _ _ _ _ _ (p1 _ _ rfl hp1) (p2 _ _ rfl hp1)) pes_nil)) (by simp)) ?_
  dsimp only [List.set]
  generalize sortI [a0, a2] = s0 at *
  generalize sortI [a1, a2] = s1 at *
  have g2 := g1.push [O.lst ([s0, s1].map lotD)]
  have hp2 : (S2 ++ [O.lst ([s0, s1].map lotD)])[hp]? = some (.lst (ms.map .int)) := push_lt hp1
  have hs2 : (S2 ++ [O.lst ([s0, s1].map lotD)])[S2.length]? = some (.lst ([s0, s1].map lotD)) := push_at
  have hsh : hp < S2.length := at_lt hp1
  generalize S2 ++ [O.lst ([s0, s1].map lotD)] = S3 at *
  generalize S2.length = sp at *
  have q0 : PV (callN T (n + 2)) [some (.loc l), some (.loc hp), some (.loc sp), none, none, none, none, none] S3 (.idx (.var 2) (.cn (.int 0))) (.d (lotD s0)) := pv_idxL (pv_var rfl) hs2 (pv_cn _) rfl
  have q1 : PV (callN T (n + 2)) [some (.loc l), some (.loc hp), some (.loc sp), none, none, none, none, none] S3 (.idx (.var 2) (.cn (.int 1))) (.d (lotD s1)) := pv_idxL (pv_var rfl) hs2 (pv_cn _) rfl
  have one : ∀ (X : E) (x : Int), PV (callN T (n + 2)) [some (.loc l), some (.loc hp), some (.loc sp), none, none, none, none, none] S3 X (.d (.int x)) → PV (callN T (n + 2)) [some (.loc l), some (.loc hp), some (.loc sp), none, none, none, none, none] S3 (.tup (.cons X .nil)) (.d (lotD [x])) := fun X x hx => pv_tup (pes_cons hx pes_nil) (by simp)
  refine st_asgF (xs := [[a0], [a1], [a2], [a2], s0, s1].map lotD) (pv_lst (pes_cons (one _ _ (p0 _ _ rfl hp2)) (pes_cons (one _ _ (p1 _ _ rfl hp2)) (pes_cons (one _ _ (p2 _ _ rfl hp2)) (pes_cons (one _ _ (p2 _ _ rfl hp2)) (pes_cons q0 (pes_cons q1 pes_nil)))))) (by simp)) ?_
  dsimp only [List.set]
  have hmo : ∀ x ∈ [[a0], [a1], [a2], [a2], s0, s1], LotW h x := fun x hx => by
    simp at hx
    rcases hx with rfl | rfl | rfl | rfl | rfl
    · exact lotW_one r0
    · exact lotW_one r1
    · exact lotW_one r2
    · exact w0
    · exact w1
  generalize hmm : [[a0], [a1], [a2], [a2], s0, s1] = mo at *
  have hmo0 : mo ≠ [] := by rw [← hmm]; simp
  have hmol : mo.length < 1000 := by rw [← hmm]; simp
  have g3 := g2.push [O.lst (mo.map lotD)]
  have hp3 : (S3 ++ [O.lst (mo.map lotD)])[hp]? = some (.lst (ms.map .int)) := push_lt hp2
  have hs3 : (S3 ++ [O.lst (mo.map lotD)])[sp]? = some (.lst ([s0, s1].map lotD)) := push_lt hs2
  have hm3 : (S3 ++ [O.lst (mo.map lotD)])[S3.length]? = some (.lst (mo.map lotD)) := push_at
  have hmh : sp < S3.length := at_lt hs2
  generalize S3 ++ [O.lst (mo.map lotD)] = S4 at *
  generalize S3.length = mp at *
  refine ok_for (ei_rng0 (Ok.mono (take_at (n := n + 1) (m := 7) rfl rfl g3.bx (by omega) (by omega)) fun r ⟨q, S5, er, q0', q1', fr5⟩ => ?_))
  subst er
  refine ⟨q, S5, rfl, q0', by omega, ?_⟩
  have g5 := g3.fr fr5
  have hp5 := fr5.at hp3 (by omega)
  have hs5 := fr5.at hs3 (by omega)
  have hm5 := fr5.at hm3 (by omega)
  have hql : ((rngI q.toNat).map D.int).length = q.toNat := by simp [rngI]
  have hso0 : ∀ x ∈ [s0, s1], LotW h x := fun x hx => by
    simp at hx
    rcases hx with rfl | rfl
    · exact w0
    · exact w1
  refine ok_cnt (fun k e S' => ∃ (o4 : Option D) (so : List (List Int)), e = [some (.loc l), some (.loc hp), some (.loc sp), some (.loc mp), o4, none, none, none] ∧ S'[sp]? = some (.lst (so.map lotD)) ∧ S'[mp]? = some (.lst (mo.map lotD)) ∧ S'[hp]? = some (.lst (ms.map .int)) ∧ (∀ x ∈ so, LotW h x) ∧ so.length = 2 + k ∧ Gr l S S') (fun _ _ _ _ => chk_nil _) ?_ ?_ ⟨_, [s0, s1], rfl, hs5, hm5, hp5, hso0, rfl, g5⟩
  · rintro k x e S' hx ⟨o4, so, rfl, hs', hm', hp', hso, hsl, g⟩
    have hk := (List.getElem?_eq_some_iff.mp hx).1
    rw [hql] at hk
    rw [List.getElem?_map] at hx
    obtain ⟨t, _, rfl⟩ := Option.map_eq_some_iff.mp hx
    refine Ok.mono (ok_tw1 (n := n) (hp := hp) g.bx hs' hm' (by omega) (by omega) hmo0 hmol (by omega)) fun r ⟨x, S6, er, hx, fr6⟩ => ?_
    subst er
    have hs6 := fr6.at hs' (show sp ≠ l by omega)
    refine ⟨_, so ++ [x], rfl, set_at hs6, set_ne (fr6.at hm' (by omega)) (by omega), set_ne (fr6.at hp' (by omega)) (by omega), ?_, by simp; omega, (g.fr fr6).set _ (by omega) (by omega)⟩
    intro y hy
    rcases List.mem_append.mp hy with hy | hy
    · exact hso y hy
    · rw [List.mem_singleton.mp hy]; exact hmo x hx
  rintro e S' ⟨o4, so, rfl, hs', hm', hp', hso, hsl, g⟩
  rw [hql] at hsl
  refine Then.nx ?_
  refine ok_asg (Ok.mono (mixR_at (n := n) (k := so.length) rfl (by
    have := pv_lenL (rc := callN T (n + 2)) (e := [some (.loc l), some (.loc hp), some (.loc sp), some (.loc mp), o4, none, none, none]) (x := .var 2) (pv_var rfl) hs'
    rw [List.length_map] at this
    exact this) g.bx (by omega) (by omega)) fun r ⟨os, S7, er, hpo, fr7⟩ => ?_)
  subst er
  dsimp only [settle, List.set]
  rw [show ((so.length : Nat) : Int).toNat = so.length by omega] at hpo
  have hol : os.length = so.length := by rw [hpo.length_eq]; simp [rngI]
  have hor : ∀ o ∈ os, 0 ≤ o ∧ o < so.length := fun o ho => rngI_mem.mp (hpo.subset ho)
  have hs7 := fr7.at hs' (show sp ≠ l by omega)
  have hp7 := fr7.at hp' (show hp ≠ l by omega)
  have g7 := (g.fr fr7).push [O.lst (os.map .int)]
  have hs8 : (S7 ++ [O.lst (os.map .int)])[sp]? = some (.lst (so.map lotD)) := push_lt hs7
  have hp8 : (S7 ++ [O.lst (os.map .int)])[hp]? = some (.lst (ms.map .int)) := push_lt hp7
  have ho8 : (S7 ++ [O.lst (os.map .int)])[S7.length]? = some (.lst (os.map .int)) := push_at
  generalize S7 ++ [O.lst (os.map .int)] = S8 at *
  generalize S7.length = op at *
  have hcomp := pv_compI (rc := callN T (n + 2)) (e := [some (.loc l), some (.loc hp), some (.loc sp), some (.loc mp), o4, some (.loc op), none, none]) (S := S8) (x := .idx (.var 2) (.var 7)) (i := 7) (it := .e (.var 5)) (ifs := .nil) (vs := [7]) (c := [(op, .lst (os.map .int))]) (ns := os) (fun _ => true) (fun o => lotD (lot so o)) (pi_loc (pv_var rfl) ho8) (chk_one ho8) fun o ho => ⟨pts_nil, fun _ => pv_idxL (pv_var rfl) hs8 (pv_var rfl) (lot_at (hor o ho).1 (hor o ho).2)⟩
  rw [filter_yes] at hcomp
  have hlen : PV (callN T (n + 2)) [some (.loc l), some (.loc hp), some (.loc sp), some (.loc mp), o4, some (.loc op), none, none] S8 (.f1 .len (.var 1)) (.d (.int h)) := by
    have := pv_lenL (rc := callN T (n + 2)) (e := [some (.loc l), some (.loc hp), some (.loc sp), some (.loc mp), o4, some (.loc op), none, none]) (x := .var 1) (pv_var rfl) hp8
    rw [List.length_map, hml, show ((h.toNat : Nat) : Int) = h by omega] at this
    exact this
  refine st_asg (v := webD h (os.map (lot so))) (pv_tup (pes_cons hlen (pes_cons (pv_f1 (w := .d (.tup ((os.map (lot so)).map lotD))) hcomp (by rw [app_tuple, items_fr, List.map_map]; rfl)) pes_nil)) (by simp)) ?_
  dsimp only [List.set]
  obtain ⟨j0, f0, l0⟩ := find_mem (hpo.mem_iff.mpr (rngI_mem.mpr ⟨Int.le_refl 0, by omega⟩))
  obtain ⟨j1, f1, l1⟩ := find_mem (hpo.mem_iff.mpr (rngI_mem.mpr ⟨(by omega : (0 : Int) ≤ 1), by omega⟩))
  refine ok_ret (ev_tup (es_pv (pv_var rfl) (es_cons (ev_pv (pv_lst (pes_cons (pv_index (pv_var rfl) ho8 (pv_cn _) f0) (pes_cons (pv_index (pv_var rfl) ho8 (pv_cn _) f1) pes_nil)) (by simp)) ?_))))
  dsimp only [settle]
  have hp9 : (S8 ++ [O.lst [D.int (j0 : Nat), .int (j1 : Nat)]])[hp]? = some (.lst (ms.map .int)) := push_lt hp8
  refine es_cons (ev_pv (pv_slL (pv_var rfl) hp9 po_none (po_some (pv_cn _))) (es_nil ⟨by simp, _, rfl, h, os.map (lot so), (j0 : Nat), (j1 : Nat), ms.take 2, S8.length, (S8 ++ [O.lst [D.int (j0 : Nat), .int (j1 : Nat)]]).length, ?_⟩))
  rw [cut_take (by omega), ← List.map_take]
  have g9 := (g7.push [O.lst [D.int (j0 : Nat), .int (j1 : Nat)]]).push [O.lst ((ms.take 2).map .int)]
  have hSl : S.length ≤ S8.length := g7.len
  show (leave S.length (.d (.tup [webD h (os.map (lot so)), .loc S8.length, .loc (S8 ++ [O.lst [D.int (j0 : Nat), .int (j1 : Nat)]]).length])) ((S8 ++ [O.lst [D.int (j0 : Nat), .int (j1 : Nat)]]) ++ [O.lst ((ms.take 2).map .int)])).1 = _ ∧ _
  have hlv : leave S.length (.d (.tup [webD h (os.map (lot so)), .loc S8.length, .loc (S8 ++ [O.lst [D.int (j0 : Nat), .int (j1 : Nat)]]).length])) ((S8 ++ [O.lst [D.int (j0 : Nat), .int (j1 : Nat)]]) ++ [O.lst ((ms.take 2).map .int)]) = _ := leave_tup (a := S8.length) (by simp) hSl
  refine ⟨by rw [hlv], ⟨by omega, by omega, by simp; omega, by simp; omega, fun x hx => ?_⟩, by simp; omega, ?_⟩
  · obtain ⟨o, ho, rfl⟩ := List.mem_map.mp hx
    exact hso _ (lot_mem (hor o ho).1 (hor o ho).2)
  have e2 : ∀ (P : Sto → Prop), P ((S8 ++ [O.lst [D.int (j0 : Nat), .int (j1 : Nat)]]) ++ [O.lst ((ms.take 2).map .int)]) → P (leave S.length (.d (.tup [webD h (os.map (lot so)), .loc S8.length, .loc (S8 ++ [O.lst [D.int (j0 : Nat), .int (j1 : Nat)]]).length])) ((S8 ++ [O.lst [D.int (j0 : Nat), .int (j1 : Nat)]]) ++ [O.lst ((ms.take 2).map .int)])).2 := fun P hP => by rw [hlv]; exact hP
  refine e2 (fun S' => S'[S8.length]? = _ ∧ _ ∧ _ ∧ S'[(S8 ++ [O.lst [D.int (j0 : Nat), .int (j1 : Nat)]]).length]? = _ ∧ _ ∧ _ ∧ Gr l S S' ∧ _ ∧ _) ⟨push_lt push_at, ⟨by omega, by rw [List.length_map]; omega⟩, ⟨by omega, by rw [List.length_map]; omega⟩, push_at, fun g hg => ?_, by rw [List.length_take]; omega, g9, hSl, by simp; omega⟩
  have := rngI_mem.mp (hpm.subset (List.mem_of_mem_take hg))
  omega
end

end K24
set_option linter.all false
set_option autoImplicit false
set_option maxRecDepth 100000
namespace K24
open Pv
section
variable {n b l : Nat} {S : Sto} {h m i0 i1 : Int} {L : List (List Int)}
theorem ok_tr1 {B : Sto} {tp rp : Nat} {k : Int} {row : List Int} {o5 o6 : Option D} (g : Gr l B S) (hBr : B.length ≤ rp) (ht : S[tp]? = some (.lst ([i0, i1].map .int))) (hr : S[rp]? = some (.lst (row.map .int))) (htl : tp ≠ l) (hrl : rp ≠ l) (htr : tp ≠ rp) (l0 : 0 < L.length) (l8 : L.length ≤ 8) (h0 : 0 ≤ i0 ∧ i0 < L.length) (h1 : 0 ≤ i1 ∧ i1 < L.length) (k0 : 0 ≤ k) (hrow : ∀ x ∈ row, 0 ≤ x ∧ x < L.length) (hlen : row.length < 1000) :
    Ok (evTg (callN T (n + 1)) (.var 5) b (.int k) [some (.loc l), some (webD h L), some (.loc tp), some (.int m), some (.loc rp), o5, o6] S >>= fun q => evSs (callN T (n + 1)) b__law_turns_1 b q.1 q.2) fun r => ∃ (o5 o6 : Option D) (x : Int) (S1 : Sto), r = (.nx, [some (.loc l), some (webD h L), some (.loc tp), some (.int m), some (.loc rp), o5, o6], S1) ∧ S1[rp]? = some (.lst ((row ++ [x]).map .int)) ∧ S1[tp]? = some (.lst ([i0, i1].map .int)) ∧ (0 ≤ x ∧ x < L.length) ∧ Gr l B S1 := by
  refine Ok.bind (Ok.ok ?_)
  dsimp only [b__law_turns_1, List.set]
  have two : ∀ (x : Int) (S1 : Sto), Fr l S S1 → (0 ≤ x ∧ x < L.length) → Ok (evSs (callN T (n + 1)) (.cons (.expr (.m1 .append (.var 4) (.var 6))) .nil) b [some (.loc l), some (webD h L), some (.loc tp), some (.int m), some (.loc rp), some (.int k), some (.int x)] S1) fun r => ∃ (o5 o6 : Option D) (x : Int) (S1 : Sto), r = (.nx, [some (.loc l), some (webD h L), some (.loc tp), some (.int m), some (.loc rp), o5, o6], S1) ∧ S1[rp]? = some (.lst ((row ++ [x]).map .int)) ∧ S1[tp]? = some (.lst ([i0, i1].map .int)) ∧ (0 ≤ x ∧ x < L.length) ∧ Gr l B S1 := by
    intro x S1 fr hx
    have hr1 := fr.at hr hrl
    refine st_app (v := .int x) (pv_var rfl) hr1 (by simp; omega) (pv_var rfl) (.inl rfl) (ok_nil ⟨_, _, x, _, rfl, ?_, set_ne (fr.at ht htl) (fun e => htr e.symm), hx, (g.fr fr).set _ hBr hrl⟩)
    rw [set_at hr1, List.map_append]
    rfl
  refine ok_asg (ev_ite (et_of rfl (ev_cmp (Ok.mono (take_at (n := n) (m := 5) rfl rfl g.bx (by omega) (by omega)) fun r ⟨q, S1, er, q0, q1, fr⟩ => ?_))))
  subst er
  refine ev_pv (pv_cn _) ⟨decide (0 < q), rfl, _, rfl, fun _ => ?_, fun _ => ?_⟩
  · have hm : 0 ≤ k % 2 ∧ k % 2 < 2 := ⟨by omega, by omega⟩
    have hmem : 0 ≤ ati [i0, i1] (k % 2) ∧ ati [i0, i1] (k % 2) < L.length := by
      have : k % 2 = 0 ∨ k % 2 = 1 := by omega
      rcases this with e | e <;> rw [e]
      · exact h0
      · exact h1
    exact ev_pv (pv_idxL (pv_var rfl) (fr.at ht htl) (pv_bini (pv_var rfl) (pv_cn _) (binI_mod (by omega))) (atI_ints hm.1 (by simp; omega))) (two _ S1 fr hmem)
  · refine Ok.mono (take_at (n := n) (m := L.length) rfl (pv_lenM (f := lotD) (pv_lots rfl) _) fr.bx (by omega) (by omega)) fun r ⟨x, S2, er, x0, x1, fr2⟩ => ?_
    subst er
    exact two x S2 (fr.trans fr2) ⟨x0, x1⟩
theorem ok_turns {tp : Nat} (hb : Bx S l) (ht : S[tp]? = some (.lst ([i0, i1].map .int))) (htl : tp ≠ l) (l0 : 0 < L.length) (l8 : L.length ≤ 8) (h0 : 0 ≤ i0 ∧ i0 < L.length) (h1 : 0 ≤ i1 ∧ i1 < L.length) (m0 : 0 ≤ m) (m1 : m < 900) : Ok (callN T (n + 2) 26 [.loc l, webD h L, .loc tp, .int m] S) fun r => ∃ row : List Int, r.1 = .d (lotD row) ∧ (∀ x ∈ row, 0 ≤ x ∧ x < L.length) ∧ (row.length : Int) = m ∧ Fr l S r.2 := by
  have hlt := hb.lt
  have htS := at_lt ht
  refine ok_fn (d := ⟨"_law_turns", 4, 7, b__law_turns⟩) rfl rfl ?_
  dsimp only [b__law_turns]
  rw [show env0 7 [.loc l, webD h L, .loc tp, .int m] = [some (.loc l), some (webD h L), some (.loc tp), some (.int m), none, none, none] from rfl]
  refine st_asgF (xs := []) (pv_lst pes_nil (by simp)) ?_
  dsimp only [List.set]
  have hp0 : (S ++ [O.lst []])[S.length]? = some (.lst (([] : List Int).map .int)) := push_at
  have ht0 : (S ++ [O.lst []])[tp]? = some (.lst ([i0, i1].map .int)) := push_lt ht
  have g0 : Gr l S (S ++ [O.lst []]) := (Gr.refl hb).push _
  generalize S ++ [O.lst []] = S0 at *
  refine st_for (pi_rng0 (pv_var rfl) (by omega) (by omega)) ?_
  refine ok_rng (fun k e S' => ∃ (o5 o6 : Option D) (row : List Int), e = [some (.loc l), some (webD h L), some (.loc tp), some (.int m), some (.loc S.length), o5, o6] ∧ S'[S.length]? = some (.lst (row.map .int)) ∧ S'[tp]? = some (.lst ([i0, i1].map .int)) ∧ (∀ x ∈ row, 0 ≤ x ∧ x < L.length) ∧ (row.length : Int) = k ∧ Gr l S S') m0 ?_ ?_ ⟨_, _, [], rfl, hp0, ht0, by simp, rfl, g0⟩
  · rintro k e S' k0 k1 ⟨o5, o6, row, rfl, hr, ht', hrow, hk, g⟩
    refine Ok.mono (ok_tr1 (n := n) g (Nat.le_refl _) ht' hr htl (by omega) (by omega) l0 l8 h0 h1 k0 hrow (by omega)) fun r ⟨o5, o6, x, S1, er, hr1, ht1, hx, g1⟩ => ?_
    subst er
    refine ⟨o5, o6, row ++ [x], rfl, hr1, ht1, fun y hy => ?_, by simp; omega, g1⟩
    rcases List.mem_append.mp hy with hy | hy
    · exact hrow y hy
    · rw [List.mem_singleton.mp hy]; exact hx
  · rintro e S' ⟨o5, o6, row, rfl, hr, ht', hrow, hk, g⟩
    refine Then.nx (st_ret (pv_f1 (w := .d (lotD row)) (pv_var rfl) (by rw [app_tuple, items_loc hr]; rfl)) ⟨_, rfl, row, ?_, hrow, hk, ?_⟩)
    · show (leave S.length (.d (lotD row)) S').1 = _
      rw [leave_pure (pure_ints _)]
    · show Fr l S (leave S.length (.d (lotD row)) S').2
      rw [leave_pure (pure_ints _)]
      exact g.leave hlt
/-- a hand's letters -/
def handEye (L : List (List Int)) (g : Int) : List Int := (rngI L.length).filter fun o => inn g (lot L o)
theorem ok_heye {g : Int} (hl : L.length < 1000) : Ok (callN T (n + 1) 27 [webD h L, .int g] S) fun r => r = (.d (lotD (handEye L g)), S) := by
  refine ok_fn (d := ⟨"_law_hand_eye", 2, 3, b__law_hand_eye⟩) rfl rfl ?_
  dsimp only [b__law_hand_eye]
  rw [show env0 3 [webD h L, .int g] = [some (webD h L), some (.int g), none] from rfl]
  have hi : PI (callN T n) [some (webD h L), some (.int g), none] S (.rng .none (.f1 .len (.idx (.var 0) (.cn (.int 1))))) [] ((rngI L.length).map .int) := by
    have := pi_rngI (rc := callN T n) (e := [some (webD h L), some (.int g), none]) (S := S) (pv_lenM (f := lotD) (pv_lots (i := 0) rfl)) (by omega) (by omega)
    rw [show ((L.length : Nat) : Int).toNat = L.length by omega] at this
    exact this
  refine st_ret (pv_f1 (w := .d (lotD (handEye L g))) (pv_compI (fun o => inn g (lot L o)) .int hi (chk_nil _) fun o ho => ⟨pts_one (pt_of (pv_cmp (pv_var rfl) (pv_idx (pv_lots rfl) (pv_var rfl) rfl (lot_at (rngI_mem.mp ho).1 (rngI_mem.mp ho).2)) (in_cmp _ _ _)) rfl rfl), fun _ => pv_var rfl⟩) (by rw [app_tuple, items_fr]; rfl)) ⟨_, rfl, ?_⟩
  show leave S.length (.d (lotD (handEye L g))) S = _
  rw [leave_pure (pure_ints _), take_self]
end
/-- what was asked: web, row, eyes -/
structure Ask where
  h : Int
  L : List (List Int)
  row : List Int
  eyes : List (List Int)
def askD (a : Ask) : D := .tup [webD a.h a.L, lotD a.row, eyesD a.eyes]
structure Ask.Ok (a : Ask) : Prop where
  w : Web a.h a.L
  r : Rng a.L a.row
  l : a.row.length < 900
  e0 : 0 < a.eyes.length
  e1 : a.eyes.length < 100
theorem pure_ask (a : Ask) : (askD a).pure = true := pureL_of (by
  intro x hx
  simp at hx
  rcases hx with rfl | rfl | rfl
  · exact pure_webW _ _
  · exact pure_ints _
  · exact pure_lots _)
section
variable {n b l pa : Nat} {S : Sto} {ns : List Int} {k t h : Int} {L : List (List Int)} {row : List Int} {as : List Ask} {o2 o3 o4 o5 o6 o7 o8 o9 o10 o11 o12 o13 : Option D}
theorem ok_l1 (hb : Bx S l) (hpl : pa ≠ l) (w : WebW h L) (hr : Rng L row) (hl : row.length < 900) (hp : S[pa]? = some (.lst (as.map askD))) (ha : ∀ a ∈ as, a.Ok) (hal : as.length < 1000) :
    Ok (evTg (callN T (n + 7)) (.var 6) b (.int t) [some (.scr ns), some (.loc pa), some (.int k), some (.loc l), some (webD h L), some (lotD row), o6, o7, o8, o9, o10, o11, o12, o13] S >>= fun q => evSs (callN T (n + 7)) b_law_1 b q.1 q.2) fun r => ∃ (o6 o7 : Option D) (a : Ask) (S1 : Sto), r = (.nx, [some (.scr ns), some (.loc pa), some (.int k), some (.loc l), some (webD h L), some (lotD row), o6, o7, o8, o9, o10, o11, o12, o13], S1) ∧ S1[pa]? = some (.lst ((as ++ [a]).map askD)) ∧ a.Ok ∧ Bx S1 l := by
  refine Ok.bind (Ok.ok ?_)
  dsimp only [b_law_1, List.set]
  refine ok_asg (ev_f1 (ok_comp (ei_rng0 (ev_bin (ev_pv (pv_cn _) (Ok.mono (take_at (n := n + 6) (m := 4) rfl rfl hb (by omega) (by omega)) fun r ⟨q, S1, er, q0, q1, fr1⟩ => ?_))))))
  subst er
  refine ⟨_, rfl, 1 + q, S1, rfl, by omega, by omega, ?_⟩
  refine ok_ccnt (fun k ys S' => ∃ es : List (List Int), ys = es.map lotD ∧ es.length = k ∧ Fr l S1 S') (fun _ _ _ _ => chk_nil _) ?_ ?_ ⟨[], rfl, rfl, Fr.refl fr1.bx⟩
  · rintro k x ys S' hx ⟨es, rfl, hz, fr⟩
    rw [List.getElem?_map] at hx
    obtain ⟨t, ht, rfl⟩ := Option.map_eq_some_iff.mp hx
    refine Ok.bind (Ok.ok (Ok.bind (Ok.ok (Ok.bind (Ok.bind (Ok.mono (eye_at (n := n + 4) rfl (pv_var rfl) fr.bx w.h0 w.h4 w.l0 w.l8) fun r ⟨eye, S3, er, _, fr3⟩ => ?_))))))
    subst er
    exact Ok.ok (Ok.ok ⟨es ++ [eye], by simp [settle], by simp; omega, fr.trans fr3⟩)
  · rintro ys S' ⟨es, rfl, hz, fr⟩
    rw [List.length_map] at hz
    have hq : (rngI (1 + q).toNat).length = (1 + q).toNat := by simp [rngI]
    refine ⟨.d (eyesD es), rfl, ?_⟩
    dsimp only [settle, List.set]
    have hp1 := (fr1.trans fr).at hp hpl
    refine st_app (v := askD ⟨h, L, row, es⟩) (pv_var rfl) hp1 (by simp; omega) (pv_tup (pes_cons (pv_var rfl) (pes_cons (pv_var rfl) (pes_cons (pv_var rfl) pes_nil))) (by simp)) (.inl (pure_ask _)) ?_
    refine ok_nil ⟨_, _, ⟨h, L, row, es⟩, _, rfl, ?_, ⟨w.web, hr, hl, by show 0 < es.length; omega, by show es.length < 100; omega⟩, ?_⟩
    · rw [set_at hp1, List.map_append]
      rfl
    · obtain ⟨u, v, e⟩ := fr.bx
      exact ⟨u, v, set_ne e hpl⟩
theorem ok_l2 (hns : ns.length ≤ 63) (k0 : 0 ≤ k) (hk : k < 100) (hp : S[pa]? = some (.lst (as.map askD))) (ha : ∀ a ∈ as, a.Ok) (hal : (as.length : Int) = 3 * k) :
    Ok (evTg (callN T (n + 7)) (.var 2) b (.int k) [some (.scr ns), some (.loc pa), o2, o3, o4, o5, o6, o7, o8, o9, o10, o11, o12, o13] S >>= fun q => evSs (callN T (n + 7)) b_law_2 b q.1 q.2) fun r => ∃ (o2 o3 o4 o5 o6 o7 o8 o9 : Option D) (as' : List Ask) (S1 : Sto), r = (.nx, [some (.scr ns), some (.loc pa), o2, o3, o4, o5, o6, o7, o8, o9, o10, o11, o12, o13], S1) ∧ S1[pa]? = some (.lst (as'.map askD)) ∧ (∀ a ∈ as', a.Ok) ∧ (as'.length : Int) = 3 * (k + 1) := by
  refine Ok.bind (Ok.ok ?_)
  dsimp only [b_law_2, List.set]
  refine ok_asg (Ok.mono (box_at (n := n + 6) hns k0 rfl rfl) fun r ⟨u, v, er⟩ => ?_)
  subst er
  dsimp only [settle, List.set]
  have hb : Bx (S ++ [.lst [.int u, .int v]]) S.length := ⟨u, v, push_at⟩
  have hp1 : (S ++ [.lst [.int u, .int v]])[pa]? = some (.lst (as.map askD)) := push_lt hp
  have hpl : pa < S.length := at_lt hp
  generalize S ++ [O.lst [.int u, .int v]] = S1 at *
  generalize S.length = l at *
  refine ok_asg (Ok.mono (anyweb_at (n := n + 3) rfl rfl hb) fun r ⟨h, L, S2, er, w, fr2⟩ => ?_)
  subst er
  dsimp only [settle, List.set]
  refine ok_asg (Ok.mono (row_at (n := n + 3) (l := l) (P := fun m => m ≤ 60) rfl (pv_var rfl) ?_ w.l0 w.l8) fun r ⟨row, S3, er, hr, hm, hl, fr3⟩ => ?_)
  · refine Ok.mono (pickF_at (n := n + 5) (l := l) (xs := [.int 0, .int 1, .int 6, .int 24, .int 40, .int 60]) rfl (pv_lst (pes_cons (pv_cn _) (pes_cons (pv_cn _) (pes_cons (pv_cn _) (pes_cons (pv_cn _) (pes_cons (pv_cn _) (pes_cons (pv_cn _) pes_nil)))))) (by simp) _) rfl fr2.bx (by simp) (by simp) (by simp; decide)) fun r ⟨x, S7, er, hx, fr7⟩ => ?_
    simp at hx
    rcases hx with rfl | rfl | rfl | rfl | rfl | rfl <;> exact ⟨_, S7, er, by omega, by omega, by omega, fr7⟩
  subst er
  dsimp only [settle, List.set]
  have frB := fr2.trans fr3
  have hp3 := frB.at hp1 (by omega)
  have hb3 := frB.bx
  refine st_for (pi_rng0 (pv_cn _) (by omega) (by omega)) ?_
  refine ok_rng (fun t e S' => ∃ (o6 o7 : Option D) (as' : List Ask), e = [some (.scr ns), some (.loc pa), some (.int k), some (.loc l), some (webD h L), some (lotD row), o6, o7, o8, o9, o10, o11, o12, o13] ∧ S'[pa]? = some (.lst (as'.map askD)) ∧ (∀ a ∈ as', a.Ok) ∧ (as'.length : Int) = 3 * k + t ∧ Bx S' l) (by omega) ?_ ?_ ⟨_, _, as, rfl, hp3, ha, by omega, hb3⟩
  · rintro t e S' t0 t1 ⟨o6, o7, as', rfl, hp', ha', hl', hb'⟩
    refine Ok.mono (ok_l1 (n := n) hb' (by omega) w hr (by omega) hp' ha' (by omega)) fun r ⟨o6, o7, a, S4, er, hp4, hao, hb4⟩ => ?_
    subst er
    refine ⟨o6, o7, as' ++ [a], rfl, hp4, ?_, by simp; omega, hb4⟩
    intro x hx
    rcases List.mem_append.mp hx with hx | hx
    · exact ha' x hx
    · rw [List.mem_singleton.mp hx]; exact hao
  rintro e S' ⟨o6, o7, as', rfl, hp', ha', hl', hb'⟩
  refine Then.nx ?_
  clear fr2 fr3 frB hp1 hp3 hb hb3 w hr hl hm
  -- turns
  refine ok_asgG (ok_call (es_pv (pv_var rfl) (es_nil (Ok.ok ?_))))
  refine Ok.mono (ok_tweb (n := n + 4) hb') fun r ⟨h, L, i0, i1, hs, a, c, e1, w, hL2, ha5, h0, h1, hc5, hhs, hh2, g5, hSa, hSc⟩ => ?_
  obtain ⟨r, S5⟩ := r
  dsimp only at e1 ha5 hc5 g5
  subst e1
  have hSa : S'.length ≤ a := hSa
  have hSc : S'.length ≤ c := hSc
  have g5 : Gr l S' S5 := g5
  have hlS : l < S'.length := hb'.lt
  have hpS := at_lt hp'
  rw [leave_tup (a := a) (by simp) hSa]
  refine Ok.ok ?_
  dsimp only [settle, List.set]
  have hp5 : S5[pa]? = some (.lst (as'.map askD)) := g5.at hp' (by omega)
  have hl0 := w.l0
  have hl8 := w.l8
  refine ok_asg (ok_call (es_pv (pv_var rfl) (es_pv (pv_var rfl) (es_pv (pv_var rfl) (es_cons ?_)))))
  have hmany : Ok ((evE (callN T (n + 7)) (.ite (.cmp .gt (.var 2) (.cn (.int 0))) (.call 9 (.cons (.var 3) (.cons (.lst (.cons (.cn (.int 2)) (.cons (.cn (.int 9)) (.cons (.cn (.int 16)) (.cons (.cn (.int 24)) .nil))))) .nil)) .nil [0, 1]) (.bin .add (.cn (.int 50)) (.call 8 (.cons (.var 3) (.cons (.cn (.int 11)) .nil)) .nil [0, 1])))).v S5.length [some (.scr ns), some (.loc pa), some (.int k), some (.loc l), some (webD h L), some (lotD row), o6, o7, some (.loc a), some (.loc c), o10, o11, o12, o13] S5) fun r => ∃ (m : Int) (S6 : Sto), r = (.d (.int m), S6) ∧ 0 ≤ m ∧ m < 900 ∧ Fr l S5 S6 := by
    refine ev_ite (et_pt (k := decide (0 < k)) (pt_of (pv_cmp (pv_var rfl) (pv_cn _) rfl) rfl rfl) ⟨fun _ => ?_, fun _ => ?_⟩)
    · refine Ok.mono (pickF_at (n := n + 5) (l := l) (xs := [.int 2, .int 9, .int 16, .int 24]) rfl (pv_lst (pes_cons (pv_cn _) (pes_cons (pv_cn _) (pes_cons (pv_cn _) (pes_cons (pv_cn _) pes_nil)))) (by simp) _) rfl g5.bx (by simp) (by simp) (by simp; decide)) fun r ⟨x, S7, er, hx, fr7⟩ => ?_
      simp at hx
      rcases hx with rfl | rfl | rfl | rfl <;> exact ⟨_, S7, er, by omega, by omega, fr7⟩
    · refine ev_bin (ev_pv (pv_cn _) (Ok.mono (take_at (n := n + 6) (m := 11) rfl rfl g5.bx (by omega) (by omega)) fun r ⟨q, S7, er, q0, q1, fr7⟩ => ?_))
      subst er
      exact ⟨_, rfl, 50 + q, S7, rfl, by omega, by omega, fr7⟩
  refine Ok.mono hmany fun r ⟨m, S6, er, m0, m1, fr6⟩ => ?_
  subst er
  have ha6 := fr6.at ha5 (by omega)
  refine es_nil (Ok.ok (Ok.mono (ok_turns (n := n + 5) fr6.bx ha6 (by omega) hl0 hl8 h0 h1 m0 m1) fun r ⟨row, e1, hr, hrl, fr7⟩ => ?_))
  obtain ⟨r, S7⟩ := r
  dsimp only at e1 fr7
  subst e1
  have fr67 := fr6.trans fr7
  rw [leave_pure (pure_ints _), take_le (by rw [fr67.len]; exact Nat.le_refl _)]
  dsimp only [settle, List.set]
  have hp7 := fr67.at hp5 (by omega)
  have hc7 := fr67.at hc5 (by omega)
  -- the eyes
  refine ok_asg (ok_comp (ei_e (Ok.mono (mix_at (n := n + 5) (f := D.int) rfl (pv_var rfl) hc7 (by omega) fr67.bx (by omega) fun _ _ => rfl) fun r ⟨ms, S8, er, hpm, fr8⟩ => ?_)))
  subst er
  refine ⟨_, rfl, ?_⟩
  refine ok_ccnt (fun k ys S' => S8 = S' ∧ ys = ((ms.take k).map (handEye L)).map lotD) (fun _ _ _ _ => chk_nil _) ?_ ?_ ⟨rfl, rfl⟩
  · rintro k x ys S' hx ⟨rfl, rfl⟩
    rw [List.getElem?_map] at hx
    obtain ⟨g, hg, rfl⟩ := Option.map_eq_some_iff.mp hx
    refine Ok.bind (Ok.ok (Ok.bind (Ok.ok (Ok.bind (Ok.bind (ev_pv (pv_call0 (v := lotD (handEye L g)) (pes_cons (pv_var rfl) (pes_cons (pv_var rfl) pes_nil)) (ok_heye (n := n + 6) (by omega)) (pure_ints _) rfl) (Ok.ok (Ok.ok ⟨rfl, ?_⟩))))))))
    rw [take_succ' hg, List.map_append, List.map_append]
    rfl
  rintro ys S' ⟨rfl, rfl⟩
  rw [List.length_map, List.take_length]
  dsimp only [settle, List.set]
  have hml : ms.length = 2 := by rw [hpm.length_eq]; exact hh2
  generalize hes : ms.map (handEye L) = es
  have hel : es.length = 2 := by rw [← hes, List.length_map]; exact hml
  have hp8 := fr8.at hp7 (by omega)
  have hlen8 : S8.length = S5.length := by rw [fr8.len, fr67.len]
  have hbig : S'.length ≤ S8.length := by have := g5.len; omega
  have hp9 : (S8 ++ [O.lst (es.map lotD)])[pa]? = some (.lst (as'.map askD)) := push_lt hp8
  have he9 : (S8 ++ [O.lst (es.map lotD)])[S8.length]? = some (.lst (es.map lotD)) := push_at
  have hb9 : Bx (S8 ++ [O.lst (es.map lotD)]) l := by
    obtain ⟨u, z, e⟩ := fr8.bx
    exact ⟨u, z, push_lt e⟩
  generalize S8 ++ [O.lst (es.map lotD)] = S9 at *
  generalize S8.length = ep at *
  have fin : ∀ (es : List (List Int)) (S9 : Sto), S9[pa]? = some (.lst (as'.map askD)) → S9[ep]? = some (.lst (es.map lotD)) → 0 < es.length → es.length < 100 → Ok (evSs (callN T (n + 7)) (.cons (.expr (.m1 .append (.var 1) (.tup (.cons (.var 4) (.cons (.var 5) (.cons (.f1 .tuple (.var 7)) .nil)))))) .nil) b [some (.scr ns), some (.loc pa), some (.int k), some (.loc l), some (webD h L), some (lotD row), o6, some (.loc ep), some (.loc a), some (.loc c), o10, o11, o12, o13] S9) fun r => ∃ (o2 o3 o4 o5 o6 o7 o8 o9 : Option D) (as' : List Ask) (S1 : Sto), r = (.nx, [some (.scr ns), some (.loc pa), o2, o3, o4, o5, o6, o7, o8, o9, o10, o11, o12, o13], S1) ∧ S1[pa]? = some (.lst (as'.map askD)) ∧ (∀ a ∈ as', a.Ok) ∧ (as'.length : Int) = 3 * (k + 1) := by
    intro es S9 hp9 he9 e0 e1
    refine st_app (v := askD ⟨h, L, row, es⟩) (pv_var rfl) hp9 (by simp; omega) (pv_tup (pes_cons (pv_var rfl) (pes_cons (pv_var rfl) (pes_cons (pv_f1 (w := .d (eyesD es)) (pv_var rfl) (by rw [app_tuple, items_loc he9]; rfl)) pes_nil))) (by simp)) (.inl (pure_ask _)) ?_
    refine ok_nil ⟨_, _, _, _, _, _, _, _, as' ++ [⟨h, L, row, es⟩], _, rfl, ?_, ?_, by simp; omega⟩
    · rw [set_at hp9, List.map_append]
      rfl
    · intro x hx
      rcases List.mem_append.mp hx with hx | hx
      · exact ha' x hx
      · rw [List.mem_singleton.mp hx]
        exact ⟨w.web, hr, by show row.length < 900; omega, e0, e1⟩
  refine ok_ite (et_of rfl (ev_cmp (Ok.mono (take_at (n := n + 6) (m := 2) rfl rfl hb9 (by omega) (by omega)) fun r ⟨q, S10, er, q0, q1, fr10⟩ => ?_)))
  subst er
  have hp10 := fr10.at hp9 (by omega)
  have he10 := fr10.at he9 (by omega)
  refine ev_pv (pv_cn _) ⟨q == 0, rfl, _, rfl, fun _ => ?_, fun _ => ok_nil (Then.nx (fin es S10 hp10 he10 (by omega) (by omega)))⟩
  refine st_ins (pv_var rfl) he10 (by simp; omega) (Ok.mono (take_at (n := n + 6) (m := 3) rfl rfl fr10.bx (by omega) (by omega)) fun r ⟨i, S11, er, i0', i1', fr11⟩ => ?_)
  subst er
  have hp11 := fr11.at hp10 (by omega)
  have he11 := fr11.at he10 (by omega)
  refine ⟨i, S11, rfl, i0', by omega, he11, ev_pv (v := .d (lotD (rngI L.length))) ?_ ⟨_, rfl, .inl (pure_ints _), ok_nil (Then.nx (fin (es.take i.toNat ++ [rngI L.length] ++ es.drop i.toNat) _ (set_ne hp11 (by omega)) ?_ (by simp; omega) (by simp; omega)))⟩⟩
  · have := pv_tuple (rc := callN T (n + 7)) (e := [some (.scr ns), some (.loc pa), some (.int k), some (.loc l), some (webD h L), some (lotD row), o6, some (.loc ep), some (.loc a), some (.loc c), o10, o11, o12, o13]) (S := S11) (pv_lenM (f := lotD) (pv_lots (i := 4) rfl)) (by omega) (by omega)
    rw [rngD_int] at this
    exact this
  · rw [set_at he11, List.map_append, List.map_append, List.map_take, List.map_drop]
    rfl
theorem ok_l3 {a : Ask} (ha : a.Ok) :
    Ok (evTg (callN T (n + 7)) (.tup (.cons (.var 4) (.cons (.var 5) (.cons (.var 7) .nil)))) b (askD a) [some (.scr ns), some (.loc pa), o2, o3, o4, o5, o6, o7, o8, o9, o10, o11, o12, o13] S >>= fun q => evSs (callN T (n + 7)) b_law_3 b q.1 q.2) fun r => ∃ o4 o5 o7, r = (.nx, [some (.scr ns), some (.loc pa), o2, o3, o4, o5, o6, o7, o8, o9, o10, o11, o12, o13], S) := by
  refine Ok.bind (Ok.ok ?_)
  dsimp only [b_law_3, List.set]
  refine st_skip (pt_not (k := true) (pt_of (pv_call0 (v := .bl true) (pes_cons (pv_var rfl) (pes_cons (pv_var rfl) (pes_cons (pv_var rfl) pes_nil))) (ok_askedc (n := n) ha.w ha.r ha.l ha.e0 ha.e1) rfl rfl) rfl rfl)) (ok_nil ⟨_, _, _, rfl⟩)
end
theorem ok_law {n : Nat} {ns : List Int} (hns : ns.length ≤ 63) : Ok (callN T (n + 8) 30 [.scr ns] []) fun r => r.1 = .d (.bl true) := by
  refine ok_fn (d := ⟨"law", 1, 14, b_law⟩) rfl rfl ?_
  dsimp only [b_law]
  rw [show env0 14 [.scr ns] = [some (.scr ns), none, none, none, none, none, none, none, none, none, none, none, none, none] from rfl]
  refine st_asgF (xs := []) (pv_lst pes_nil (by simp)) ?_
  dsimp only [List.set, List.length_nil, List.nil_append]
  refine st_for (pi_rng0 (pv_cn _) (by omega) (by omega)) ?_
  refine ok_rng (fun k e S' => ∃ (o2 o3 o4 o5 o6 o7 o8 o9 : Option D) (as : List Ask), e = [some (.scr ns), some (.loc 0), o2, o3, o4, o5, o6, o7, o8, o9, none, none, none, none] ∧ S'[0]? = some (.lst (as.map askD)) ∧ (∀ a ∈ as, a.Ok) ∧ (as.length : Int) = 3 * k) (by omega) ?_ ?_ ⟨_, _, _, _, _, _, _, _, [], rfl, rfl, by simp, rfl⟩
  · rintro k e S2 k0 k1 ⟨o2, o3, o4, o5, o6, o7, o8, o9, as, rfl, hp, ha, hl⟩
    refine Ok.mono (ok_l2 (n := n) hns k0 (by omega) hp ha hl) fun r ⟨o2, o3, o4, o5, o6, o7, o8, o9, as', S1, er, hp', ha', hl'⟩ => ?_
    subst er
    exact ⟨_, _, _, _, _, _, _, _, as', rfl, hp', ha', hl'⟩
  · rintro e S2 ⟨o2, o3, o4, o5, o6, o7, o8, o9, as, rfl, hp, ha, hl⟩
    refine Then.nx (st_for (pi_loc (pv_var rfl) hp) ?_)
    refine ok_cnt (fun _ e S' => ∃ o4 o5 o7, e = [some (.scr ns), some (.loc 0), o2, o3, o4, o5, o6, o7, o8, o9, none, none, none, none] ∧ S2 = S') ?_ ?_ ?_ ⟨_, _, _, rfl, rfl⟩
    · rintro _ _ S' ⟨_, _, _, _, rfl⟩
      exact chk_one hp
    · rintro j z e S' hz ⟨o4, o5, o7, rfl, rfl⟩
      rw [List.getElem?_map] at hz
      obtain ⟨a, ham, rfl⟩ := Option.map_eq_some_iff.mp hz
      refine Ok.mono (ok_l3 (n := n) (ha a (nth_mem ham))) fun r ⟨o4, o5, o7, er⟩ => ?_
      subst er
      exact ⟨_, _, _, rfl, rfl⟩
    · rintro e S' ⟨o4, o5, o7, rfl, rfl⟩
      have hne : 0 < as.length := by omega
      obtain ⟨a, as', rfl⟩ := List.exists_cons_of_ne_nil (List.length_pos_iff.mp hne)
      have hao := ha a (by simp)
      refine Then.nx (st_asgG (v := askD a) (pv_idxL (pv_var rfl) hp (pv_cn _) (by rw [List.map_cons]; exact atI_0 _ _)) rfl ?_)
      dsimp only [List.set]
      obtain ⟨t, f, f0, cs, pd, l0, r⟩ := lcuts_pv (n := n + 3) (S := S2) (e := [some (.scr ns), some (.loc 0), o2, o3, some (webD a.h a.L), some (lotD a.row), o6, some (eyesD a.eyes), o8, o9, none, none, none, none]) (i := 4) (j := 5) (k := 7) (p := 12) (q := 13) (row := a.row) (eyes := a.eyes) rfl rfl rfl (fun _ _ => rfl) hao.w hao.r hao.l hao.e0 hao.e1
      obtain ⟨r2, e2, t', f', f0', cs', rfl, l0', r'⟩ := ok_cutrows (n := n + 1) (S := S2) (eyes := a.eyes) hao.w hao.r hao.l hao.e0 hao.e1
      obtain rfl : f0 = f0' := l0.uniq l0'
      obtain ⟨rfl, rfl⟩ := r.rest r'
      refine st_ret (pv_call0 (v := .bl true) (pes_cons (pv_callk (v := .tup ((f0 :: cs.map (·.2)).map lotD)) (pes_cons (pv_var rfl) (pes_cons (pv_var rfl) (pes_cons (pv_var rfl) pes_nil))) ⟨_, e2, rfl⟩ (pure_lots _) rfl) (pes_cons pd pes_nil)) (ok_sameTT (n := n + 4)) rfl rfl) ⟨_, rfl, rfl⟩
end K24
theorem PySem.Challenge.cw_oneactmore_k24_cuts_that_come_to_rest_holds : PySem.Challenge.rw_oneactmore_k24_cuts_that_come_to_rest.Holds :=
  K24.holds 20 ⟨rfl, by decide, by decide⟩ fun ns h => by
  obtain ⟨⟨v, S'⟩, e, rfl⟩ := K24.ok_law (n := 13) h
  exact ⟨S', e⟩
