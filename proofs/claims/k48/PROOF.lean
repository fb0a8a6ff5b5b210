import PyProof.Rows.All
import Wide.All
import OpenK.AllK
import Wide.FinOn
import PySem.Str
import PyProof.EqAt
import PyProof.EqKinds
import PyProof.TupleCall
import HandS.ForMost
import HandS.ForExc
import HandS.TryMany
import HandS.CallSlots
import HandS.IsInst
import HandS.TupAny
import HandS.Deep
import HandS.Style
import HandS.Flow
import HandS.HeadHook2
import HandS.Iter
import PyProof.EnumMake
import PyProof.Draws
import KE.GoesMore
import PyProof.StrOps2
import KE.DatumOrd
import HandS.SortKw
import HandS.SortInts
import KE.DataMinMax
import HandS.Conv
import HandS.HeadWalk
import HandS.Comp
import HandS.TryOnly
import KE.KAsSuite
import HandS.Dict
import HandS.TupSets
import KE.KCallOwn
import HandS.Property
import HandS.Defaults
import HandS.ExcInit
import HandS.ExcSuper
import HandS.ExcField
import HandS.ExcIs
import KE.KExcSuper
import KE.KSuper
import HandS.ClsMeth
import HandS.HeadEnd
import HandS.Head2
import HandS.Codes
import HandS.Head1
import PySem.Challenge.RW_ladderreach_k48_readers_go_to_the_greate
section
set_option linter.all false
/-! LiCore: the small language: values, cells, slots, expressions, statements and their interpreter. -/
namespace LI
open PySem

/-! ### values -/
inductive W where
  | non | bl (b : Bool) | int (i : Int) | str (s : Str)
  | lst (xs : List W) | tup (xs : List W) | scr (xs : List Int)
  | obj (c : Nat) (ks : List Nat) (fs : List W)
  | dct (ks : List W) (vs : List W)
  | cls (c : Nat) | ty (n : String) | cell (n : Nat)
  deriving Inhabited

/-- a cell of the store: what may be changed -/
inductive Cl where
  | lst (xs : List W) | obj (c : Nat) (ks : List Nat) (fs : List W) | dK (kvs : List ((Int ⊕ Str) × W)) | dT (kvs : List (List Int × W)) | dead
/-- a local name: unset, a value, a list that this name alone knows, the object that is being made, a caught exception -/
inductive Sl where
  | un | v (w : W) | own (xs : List W) | self (c : Nat) (ks : List Nat) (fs : List W) | exn (c : Nat) (ks : List Nat) (fs : List W)
  deriving Inhabited
abbrev Env := List Sl
abbrev Sto := List Cl

/-- an exception: its class, its own fields -/
structure Xn where
  c : Nat
  ks : List Nat
  fs : List W

inductive R (α : Type) where
  | ok (a : α) (s : Sto) | ex (x : Xn) (s : Sto) | no
def R.bind {α β : Type} (r : R α) (f : α → Sto → R β) : R β :=
  match r with
  | .ok a s => f a s
  | .ex x s => .ex x s
  | .no => .no
@[simp] theorem R.bind_ok {α β : Type} (a : α) (s : Sto) (f : α → Sto → R β) : (R.ok a s).bind f = f a s := rfl
@[simp] theorem R.bind_ex {α β : Type} (x : Xn) (s : Sto) (f : α → Sto → R β) : (R.ex x s : R α).bind f = .ex x s := rfl
@[simp] theorem R.bind_no {α β : Type} (f : α → Sto → R β) : (R.no : R α).bind f = .no := rfl

/-! ### expressions -/
inductive BO where | add | sub | mul | fdiv | mod | pow
  deriving DecidableEq
inductive CO where | eq | ne | lt | le | gt | ge | isin | notin
  deriving DecidableEq
/-- built-ins called with values -/
inductive Bi where | len | abs | int | max2 | min2 | max1 | min1 | maxD | minD | any | all | sum | list | tuple | sorted
  deriving DecidableEq
/-- what isinstance asks for -/
inductive Ty where | cls (c : Nat) | ty (n : String)
  deriving DecidableEq
inductive Tg where | nm (i : Nat) | tup (is : List Nat)
  deriving DecidableEq

mutual
inductive Ex where
  | var (i : Nat) | own (i : Nat)
  | non | bl (b : Bool) | int (i : Int) | str (s : Str) | glob (i : Nat)
  | bin (op : BO) (a b : Ex) | neg (a : Ex)
  | cmp (op : CO) (a b : Ex) | chain (op op' : CO) (a b c : Ex)
  | isN (a : Ex) | notN (a : Ex)
  | not (a : Ex) | and (a b : Ex) | or (a b : Ex) | ite (c a b : Ex)
  | ix (a b : Ex) | sl (a : Ex) (lo hi : Ex) | rev (a : Ex)
  | lst (es : Exs) | tup (es : Exs)
  | call (f : Nat) (es : Exs)
  | bi (b : Bi) (es : Exs)
  | isi (a : Ex) (ts : List Ty)
  | mk (c : Nat) (es : Exs)
  | mkC (c : Nat) (es : Exs)
  | meth (m : Nat) (o : Ex) (es : Exs)
  | fld (a : Ex) (f : Nat) | slf (f : Nat) | con (c f : Nat) | xfld (i : Nat) (f : Nat) | xisi (i : Nat) (ts : List Ty)
  | comp (t : Tg) (s : Sr) (ifs : Exs) (e : Ex)
  | cell (e : Ex)
  | mx (mn : Bool) (a d : Ex) | rl (a : Ex)
  | dnew (t : Bool) | dn1 (k e : Ex) | dget (d k : Ex) | din (neg : Bool) (k d : Ex) | dget1 (d k : Ex)
  | idx (a b : Ex)
  | kcall (f : Nat) (es : Exs) (e : Ex) | kmkC (c : Nat) (es : Exs) (e : Ex) | prp (m : Nat) (o : Ex) | cal (o : Ex) (es : Exs)
inductive Exs where
  | nil | cons (e : Ex) (es : Exs)
/-- what a for walks -/
inductive Sr where
  | seq (e : Ex) | rng1 (a : Ex) | rng2 (a b : Ex) | rng3 (a b c : Ex) | enum (e : Ex)
end

/-! ### statements -/
mutual
inductive St where
  | expr (e : Ex) | set (i : Nat) (e : Ex) | setOwn (i : Nat) (e : Ex) | frz (i : Nat)
  | app (i : Nat) (e : Ex) | setIx (i : Nat) (k e : Ex)
  | unpk (is : List Nat) (e : Ex) | par (is : List Nat) (es : Exs)
  | aug (i : Nat) (op : BO) (e : Ex)
  | sfld (f : Nat) (e : Ex)
  | cApp (o e : Ex) | cSet (o k e : Ex) | cFld (o : Ex) (f : Nat) (e : Ex) | dput (o k e : Ex)
  | ife (c : Ex) (a b : Sts) | whl (c : Ex) (b : Sts) | for_ (t : Tg) (s : Sr) (b : Sts)
  | ret (e : Ex) | retN | pass | brk | cnt
  | raise (c : Nat) (ks : List Nat) (es : Exs)
  | try_ (b : Sts) (hs : Hds)
inductive Sts where
  | nil | cons (s : St) (r : Sts)
/-- handlers: the class, the name's slot, the suite -/
inductive Hds where
  | nil | cons (c : Nat) (i : Nat) (b : Sts) (r : Hds)
end

/-! ### the program's tables -/
structure FD where
  np : Nat                -- parameters
  ns : Nat                -- slots
  body : Sts
structure Tab where
  fn : Nat → Option FD
  meth : Nat → Nat → Option Nat      -- class, name: the function
  init : Nat → Option Nat
  con : Nat → Nat → Option W         -- class, name: a constant
  gl : Nat → Option W                -- a constant of the module
  sub : Nat → Nat → Bool             -- class below class (reflexive)
  exb : Nat → String → Bool          -- exception class below built-in class
  fo : Nat → Nat → Bool              -- class, attribute of its objects
  oc : Nat → Bool                    -- a class of objects, for isinstance
  xc : Nat → Bool                    -- an exception class
  x0 : Nat → Bool                    -- .. without own __init__
  x1 : Nat → Nat → Bool              -- .. with this one attribute
  sz : Nat                            -- while fuel

/-! ### looks at values -/
def okN (n : Nat) : Bool := decide (n ≤ 16777216)
def seqOf (s : Sto) : W → Option (List W)
  | .lst xs => some xs
  | .tup xs => some xs
  | .cell n => match s[n]? with
    | some (.lst xs) => some xs
    | _ => none
  | _ => none
def lstOf (s : Sto) : W → Option (List W)
  | .lst xs => some xs
  | .cell n => match s[n]? with
    | some (.lst xs) => some xs
    | _ => none
  | _ => none
def ixN (n : Nat) (i : Int) : Option Nat :=
  if 0 ≤ i then (if i < n then some i.toNat else none) else if -(n : Int) ≤ i then some (i + n).toNat else none
def atI {α : Type} (xs : List α) (i : Int) : Option α := (ixN xs.length i).bind fun j => xs[j]?
/-- a slice's bound -/
def sIx (n : Nat) (d : Nat) : Option Int → Nat
  | none => d
  | some i => if i < 0 then (i + n).toNat else min i.toNat n
def cut {α : Type} (xs : List α) (lo hi : Option Int) : List α := (xs.drop (sIx xs.length 0 lo)).take (sIx xs.length xs.length hi - sIx xs.length 0 lo)
/-- a value's truth -/
def tru (s : Sto) : W → Option Bool
  | .non => some false
  | .bl b => some b
  | .int i => some (i != 0)
  | .lst xs => some (!xs.isEmpty)
  | .tup xs => some (!xs.isEmpty)
  | .cell n => match s[n]? with
    | some (.lst xs) => some (!xs.isEmpty)
    | _ => none
  | _ => none
def isNon : W → Bool
  | .non => true
  | _ => false
/-- flat values and their == -/
def flatW : W → Bool
  | .non => true | .bl _ => true | .int _ => true | .str _ => true | _ => false
def eqF : W → W → Bool
  | .non, .non => true
  | .bl a, .bl b => a == b
  | .bl a, .int b => (if a then 1 else 0) == b
  | .int a, .bl b => a == (if b then 1 else 0)
  | .int a, .int b => a == b
  | .str a, .str b => a == b
  | _, _ => false
mutual
/-- data of a depth below n: nothing but none, bools, ints, texts, lists, tuples -/
def dataW : Nat → W → Bool
  | 0, _ => false
  | _ + 1, .non => true | _ + 1, .bl _ => true | _ + 1, .int _ => true | _ + 1, .str s => decide (s.length ≤ 1000) && s.cps.all (fun c => decide (c < 128))
  | n + 1, .lst xs => datas n xs
  | n + 1, .tup xs => datas n xs
  | _, _ => false
def datas : Nat → List W → Bool
  | _, [] => true
  | n, x :: xs => dataW n x && datas n xs
end
mutual
def eqW : W → W → Bool
  | .lst xs, w => match w with
    | .lst ys => eqWs xs ys
    | _ => false
  | .tup xs, w => match w with
    | .tup ys => eqWs xs ys
    | _ => false
  | v, w => eqF v w
def eqWs : List W → List W → Bool
  | [], [] => true
  | x :: xs, y :: ys => eqW x y && eqWs xs ys
  | _, _ => false
end
/-- a cell that holds a list, as the list -/
def drf (s : Sto) : W → W
  | .cell n => match s[n]? with
    | some (.lst xs) => .lst xs
    | _ => .cell n
  | w => w
def mulOk (i j : Int) : Bool := (decide (-(2 ^ 64) < i) && decide (i < 2 ^ 64)) || (decide (-(2 ^ 64) < j) && decide (j < 2 ^ 64))

def evAdd (a b : W) (s : Sto) : R W :=
  match a, b with
  | .int i, .int j => .ok (.int (i + j)) s
  | .lst xs, .lst ys => if okN (xs.length + ys.length) then .ok (.lst (xs ++ ys)) s else .no
  | .tup xs, .tup ys => if okN (xs.length + ys.length) then .ok (.tup (xs ++ ys)) s else .no
  | .str x, .str y => if okN (x.length + y.length) then .ok (.str (x ++ y)) s else .no
  | _, _ => .no
def evSub (a b : W) (s : Sto) : R W :=
  match a, b with
  | .int i, .int j => .ok (.int (i - j)) s
  | _, _ => .no
def strRep (z : Str) (k : Nat) : Str := ⟨(List.replicate k z.cps).foldl (· ++ ·) #[]⟩
def evMul (a b : W) (s : Sto) : R W :=
  match a, b with
  | .int i, .int j => if mulOk i j then .ok (.int (i * j)) s else .no
  | .lst xs, .int k => if k < 2 ^ 62 ∧ -(2 ^ 62) < k ∧ okN (xs.length * k.toNat) then .ok (.lst (List.replicate k.toNat xs).flatten) s else .no
  | .str z, .int k => if (k < 2 ^ 62 ∧ -(2 ^ 62) < k) ∧ okN (z.length * k.toNat) then .ok (.str (strRep z k.toNat)) s else .no
  | _, _ => .no
def evFdiv (a b : W) (s : Sto) : R W :=
  match a, b with
  | .int i, .int j => if 0 < j ∧ j < 1073741824 then .ok (.int (i / j)) s else .no
  | _, _ => .no
def evMod (a b : W) (s : Sto) : R W :=
  match a, b with
  | .int i, .int j => if 0 < j then .ok (.int (i % j)) s else .no
  | _, _ => .no
def evPow (a b : W) (s : Sto) : R W :=
  match a, b with
  | .int i, .int j => if 0 ≤ j ∧ j ≤ 1000000 ∧ i.natAbs < 2 ^ 64 then .ok (.int (i ^ j.toNat)) s else .no
  | _, _ => .no
def evBin (op : BO) (a b : W) (s : Sto) : R W :=
  match op with
  | .add => evAdd a b s
  | .sub => evSub a b s
  | .mul => evMul a b s
  | .fdiv => evFdiv a b s
  | .mod => evMod a b s
  | .pow => evPow a b s
/-- the pairs of scalars that == tells apart -/
def scal : W → W → Bool
  | .non, .non => true | .non, .int _ => true | .int _, .non => true | .non, .bl _ => true | .bl _, .non => true | .non, .str _ => true | .str _, .non => true
  | .int _, .int _ => true | .bl _, .bl _ => true | .str _, .str _ => true
  | .int _, .str _ => true | .str _, .int _ => true | .bl _, .str _ => true | .str _, .bl _ => true
  | _, _ => false
def evEq (a b : W) (s : Sto) : Option Bool :=
  if scal a b then some (eqF a b) else if dataW 20 (drf s a) && dataW 20 (drf s b) then some (eqW (drf s a) (drf s b)) else none
def evIn (a b : W) (s : Sto) : Option Bool :=
  match seqOf s b with
  | some xs => if flatW a && xs.all flatW then some (xs.any fun y => eqF y a) else
    if dataW 20 a && datas 19 xs then some (xs.any fun y => eqW y a) else none
  | none => none
def cmpI (f : Int → Int → Bool) : W → W → Option Bool
  | .int i, .int j => some (f i j)
  | _, _ => none
def evCmp (op : CO) (a b : W) (s : Sto) : Option Bool :=
  match op with
  | .eq => evEq a b s
  | .ne => (evEq a b s).map (!·)
  | .isin => evIn a b s
  | .notin => (evIn a b s).map (!·)
  | .lt => cmpI (fun i j => decide (i < j)) a b
  | .le => cmpI (fun i j => decide (i ≤ j)) a b
  | .gt => cmpI (fun i j => decide (j < i)) a b
  | .ge => cmpI (fun i j => decide (j ≤ i)) a b
def retO {α : Type} (o : Option α) (s : Sto) : R α :=
  match o with
  | some a => .ok a s
  | none => .no
@[simp] theorem retO_some {α : Type} (a : α) (s : Sto) : retO (some a) s = .ok a s := rfl
@[simp] theorem retO_none {α : Type} (s : Sto) : retO (none : Option α) s = .no := rfl

def intsOf : List W → Option (List Int)
  | [] => some []
  | .int i :: r => (intsOf r).map (i :: ·)
  | _ => none
def blsOf : List W → Option (List Bool)
  | [] => some []
  | .bl b :: r => (blsOf r).map (b :: ·)
  | _ => none
def maxL : Int → List Int → Int
  | m, [] => m
  | m, x :: r => maxL (if x > m then x else m) r
def minL : Int → List Int → Int
  | m, [] => m
  | m, x :: r => minL (if x < m then x else m) r
def insI (x : Int) : List Int → List Int
  | [] => [x]
  | y :: r => if x ≤ y then x :: y :: r else y :: insI x r
def sortI : List Int → List Int
  | [] => []
  | x :: r => insI x (sortI r)
def biLen (ws : List W) (s : Sto) : R W :=
  match ws with
  | [.str x] => if okN x.length then .ok (.int x.length) s else .no
  | [.scr xs] => .ok (.int xs.length) s
  | [w] => retO ((seqOf s w).map fun xs => .int xs.length) s
  | _ => .no
def biAbs (ws : List W) (s : Sto) : R W :=
  match ws with
  | [.int i] => .ok (.int (if i < 0 then -i else i)) s
  | _ => .no
def biInt (ws : List W) (s : Sto) : R W :=
  match ws with
  | [.int i] => .ok (.int i) s
  | [.bl k] => .ok (.int (if k then 1 else 0)) s
  | _ => .no
def biMax2 (ws : List W) (s : Sto) : R W :=
  match ws with
  | [.int i, .int j] => .ok (.int (if j > i then j else i)) s
  | _ => .no
def biMin2 (ws : List W) (s : Sto) : R W :=
  match ws with
  | [.int i, .int j] => .ok (.int (if j < i then j else i)) s
  | _ => .no
/-- max, min of a list or tuple of ints; d: what is given for an empty one -/
def biExt (f : Int → List Int → Int) (w : W) (d : Option W) (s : Sto) : R W :=
  match (seqOf s w).bind intsOf with
  | some (x :: r) => .ok (.int (f x r)) s
  | some [] => retO d s
  | none => .no
def biExt1 (f : Int → List Int → Int) (ws : List W) (s : Sto) : R W :=
  match ws with
  | [w] => biExt f w none s
  | _ => .no
def biExtD (f : Int → List Int → Int) (ws : List W) (s : Sto) : R W :=
  match ws with
  | [w, .int d] => biExt f w (some (.int d)) s
  | _ => .no
def biAny (ws : List W) (s : Sto) : R W :=
  match ws with
  | [w] => retO (((lstOf s w).bind blsOf).map fun bs => .bl (bs.any id)) s
  | _ => .no
def biAll (ws : List W) (s : Sto) : R W :=
  match ws with
  | [w] => retO (((lstOf s w).bind blsOf).map fun bs => .bl (bs.all id)) s
  | _ => .no
def sumI (ns : List Int) : Int := ns.foldl (· + ·) 0
def biSum (ws : List W) (s : Sto) : R W :=
  match ws with
  | [w] => retO (((lstOf s w).bind intsOf).map fun ns => .int (sumI ns)) s
  | _ => .no
def biList (ws : List W) (s : Sto) : R W :=
  match ws with
  | [w] => retO ((seqOf s w).map .lst) s
  | _ => .no
def biTuple (ws : List W) (s : Sto) : R W :=
  match ws with
  | [w] => retO ((seqOf s w).map .tup) s
  | _ => .no
/-- tuples of ints -/
def tupsOf : List W → Option (List (List Int))
  | [] => some []
  | .tup ws :: r => (intsOf ws).bind fun ks => (tupsOf r).map (ks :: ·)
  | _ => none
def lexL : List Int → List Int → Bool
  | [], _ => true
  | _ :: _, [] => false
  | a :: r, b :: q => decide (a < b) || (decide (a = b) && lexL r q)
def insT (x : List Int) : List (List Int) → List (List Int)
  | [] => [x]
  | y :: r => if lexL x y then x :: y :: r else y :: insT x r
def sortT : List (List Int) → List (List Int)
  | [] => []
  | x :: r => insT x (sortT r)
/-- few, as long as one another, of small numbers -/
def okT : List (List Int) → Bool
  | [] => true
  | k :: r => decide (r.length < 63) && (decide (1 ≤ k.length) && (k :: r).all fun q => decide (q.length = k.length) && q.all fun x => decide (0 ≤ x) && decide (x < 1000))
def vSort (xs : List W) : Option (List W) :=
  match intsOf xs with
  | some ns => some ((sortI ns).map .int)
  | none => match tupsOf xs with
    | some ks => if okT ks then some ((sortT ks).map fun k => .tup (k.map .int)) else none
    | none => none
def biSorted (ws : List W) (s : Sto) : R W :=
  match ws with
  | [w] => retO (((lstOf s w).bind vSort).map .lst) s
  | _ => .no
def evBi (b : Bi) (ws : List W) (s : Sto) : R W :=
  match b with
  | .len => biLen ws s
  | .abs => biAbs ws s
  | .int => biInt ws s
  | .max2 => biMax2 ws s
  | .min2 => biMin2 ws s
  | .max1 => biExt1 maxL ws s
  | .min1 => biExt1 minL ws s
  | .maxD => biExtD maxL ws s
  | .minD => biExtD minL ws s
  | .any => biAny ws s
  | .all => biAll ws s
  | .sum => biSum ws s
  | .list => biList ws s
  | .tuple => biTuple ws s
  | .sorted => biSorted ws s

def evIx (x y : W) (s : Sto) : R W :=
  match y with
  | .int i => (match x with
    | .scr ns => retO ((atI ns i).map .int) s
    | .str z => if okN z.length then retO ((atI z.cps.toList i).map fun c => .str ⟨#[c]⟩) s else .no
    | x => retO ((seqOf s x).bind fun xs => atI xs i) s)
  | _ => .no
def evSl (x : W) (l h : Option Int) (s : Sto) : R W :=
  match x with
  | .lst xs => .ok (.lst (cut xs l h)) s
  | .tup xs => .ok (.tup (cut xs l h)) s
  | .str z => if okN z.length then .ok (.str ⟨(cut z.cps.toList l h).toArray⟩) s else .no
  | _ => .no
def evRev (x : W) (s : Sto) : R W :=
  match x with
  | .lst xs => .ok (.lst xs.reverse) s
  | .tup xs => .ok (.tup xs.reverse) s
  | _ => .no
/-- a value's type -/
def tnOf (s : Sto) : W → Option Ty
  | .non => some (.ty "NoneType")
  | .bl _ => some (.ty "bool")
  | .int _ => some (.ty "int")
  | .str _ => some (.ty "str")
  | .lst _ => some (.ty "list")
  | .tup _ => some (.ty "tuple")
  | .obj c _ _ => some (.cls c)
  | .cell n => match s[n]? with
    | some (.lst _) => some (.ty "list")
    | some (.obj c _ _) => some (.cls c)
    | _ => none
  | _ => none
def fiveT (n : String) : Bool := n == "int" || (n == "bool" || (n == "str" || (n == "list" || n == "tuple")))
/-- is a type below another -/
def isTy1 (T : Tab) : Ty → Ty → Option Bool
  | .ty a, .ty b => if fiveT b then some (a == b || (a == "bool" && b == "int")) else none
  | .ty _, .cls d => if T.oc d then some false else none
  | .cls c, .ty b => if T.oc c && fiveT b then some false else none
  | .cls c, .cls d => if T.oc c && T.oc d then some (T.sub c d) else none
def anyTy (T : Tab) (t : Ty) : List Ty → Option Bool
  | [] => some false
  | q :: r => match isTy1 T t q with
    | some true => some true
    | some false => anyTy T t r
    | none => none
def isTys (T : Tab) (s : Sto) (w : W) (ts : List Ty) : Option Bool := (tnOf s w).bind fun t => anyTy T t ts
/-- isinstance of a caught exception -/
def isXTy (T : Tab) (c : Nat) : Ty → Bool
  | .cls d => T.sub c d
  | .ty n => T.exb c n
def okXTy (T : Tab) : Ty → Bool
  | .cls d => T.xc d
  | .ty n => decide (n = "ValueError")
def getF : List Nat → List W → Nat → Option W
  | k :: ks, v :: vs, f => if k = f then some v else getF ks vs f
  | _, _, _ => none
def putFK : List Nat → Nat → List Nat
  | [], f => [f]
  | k :: ks, f => if k = f then k :: ks else k :: putFK ks f
def putFV : List Nat → List W → Nat → W → List W
  | k :: ks, v :: vs, f, w => if k = f then w :: vs else v :: putFV ks vs f w
  | _, _, _, w => [w]

/-- an attribute read -/
def fldOf (T : Tab) (c : Nat) (ks : List Nat) (fs : List W) (f : Nat) : Option W :=
  match getF ks fs f with
  | some v => if T.fo c f then some v else none
  | none => T.con c f
def objOf (s : Sto) : W → Option (Nat × List Nat × List W)
  | .obj c ks fs => some (c, ks, fs)
  | .cell n => match s[n]? with
    | some (.obj c ks fs) => some (c, ks, fs)
    | _ => none
  | _ => none
def evFld (T : Tab) (w : W) (f : Nat) (s : Sto) : R W := retO ((objOf s w).bind fun o => fldOf T o.1 o.2.1 o.2.2 f) s
abbrev Call := Nat → List W → Sto → R W
/-- a made object's call: the function, the class, the arguments: its fields -/
abbrev CallI := Nat → Nat → List W → Sto → R (List Nat × List W)

/-- targets -/
def setAll : Env → List Nat → List W → Env
  | env, i :: is, x :: xs => setAll (env.set i (.v x)) is xs
  | env, _, _ => env
def putT (env : Env) (s : Sto) : Tg → W → Option Env
  | .nm i, w => some (env.set i (.v w))
  | .tup is, w => match seqOf s w with
    | some xs => if xs.length = is.length then some (setAll env is xs) else none
    | none => none
def iotaN (lo : Int) : Nat → List W
  | 0 => []
  | n + 1 => .int lo :: iotaN (lo + 1) n
def rngC (lo c : Int) : Nat → List W
  | 0 => []
  | n + 1 => .int lo :: rngC (lo + c) c n
def rngLen (a b c : Int) : Nat := if 0 < c then (if a < b then ((b - a - 1) / c + 1).toNat else 0) else if b < a then ((a - b - 1) / (-c) + 1).toNat else 0
def enumL (i : Int) : List W → List W
  | [] => []
  | x :: r => .tup [.int i, x] :: enumL (i + 1) r
def rOk (i : Int) : Bool := decide (-(2 ^ 61) < i) && decide (i < 2 ^ 61)
/-- what a for walks: items that stand, or a cell's list as it stands at each turn (with its places: enumerate) -/
inductive It where | lst (xs : List W) | cel (n : Nat) (en : Bool)
def itAt (s : Sto) (n : Nat) (en : Bool) (i : Nat) : Option (Option W) :=
  match s[n]? with
  | some (.lst xs) => some ((xs[i]?).map fun x => if en then .tup [.int i, x] else x)
  | _ => none
def evRng (a b c : Int) (s : Sto) : R It :=
  if rOk a && rOk b && decide (c ≠ 0) && decide (c.natAbs < 1073741824) && okN (rngLen a b c) then .ok (.lst (rngC a c (rngLen a b c))) s else .no

/-- no exception passes -/
def R.nox {α : Type} : R α → R α
  | .ex _ _ => .no
  | r => r
@[simp] theorem R.nox_ok {α : Type} (a : α) (s : Sto) : (R.ok a s).nox = .ok a s := rfl
@[simp] theorem R.nox_ex {α : Type} (x : Xn) (s : Sto) : (R.ex x s : R α).nox = .no := rfl
@[simp] theorem R.nox_no {α : Type} : (R.no : R α).nox = .no := rfl
/-- the items of a comprehension, one after another -/
def compL (f : W → Sto → R (Option W)) : List W → Sto → R (List W)
  | [], s => .ok [] s
  | x :: r, s => (f x s).bind fun o s1 => (compL f r s1).bind fun ys s2 => .ok (match o with
    | some y => y :: ys
    | none => ys) s2
def compC (f : W → Sto → R (Option W)) (n : Nat) (en : Bool) : Nat → Nat → Sto → R (List W)
  | 0, _, _ => .no
  | k + 1, i, s => match itAt s n en i with
    | none => .no
    | some none => .ok [] s
    | some (some x) => (f x s).bind fun o s1 => (compC f n en k (i + 1) s1).bind fun ys s2 => .ok (match o with
      | some y => y :: ys
      | none => ys) s2
def compI (f : W → Sto → R (Option W)) (sz : Nat) : It → Sto → R (List W)
  | .lst xs, s => if okN xs.length then compL f xs s else .no
  | .cel n en, s => if okN sz then compC f n en sz 0 s else .no
def itOf (s : Sto) (en : Bool) : W → Option It
  | .lst xs => some (.lst (if en then enumL 0 xs else xs))
  | .tup xs => some (.lst (if en then enumL 0 xs else xs))
  | .cell n => match s[n]? with
    | some (.lst _) => some (.cel n en)
    | _ => none
  | _ => none

/-- a value's truth, where a test is asked -/
def tst (m : Bool) (r : R W) : R W :=
  match m with
  | true => r.bind fun x s => retO ((tru s x).map W.bl) s
  | false => r
@[simp] theorem tst_false (r : R W) : tst false r = r := rfl
def isNonE : Ex → Bool
  | .non => true
  | _ => false
def ifB (x : W) (s : Sto) (a b : Sto → R W) : R W :=
  match x with
  | .bl true => a s
  | .bl false => b s
  | _ => .no
@[simp] theorem ifB_true (s : Sto) (a b : Sto → R W) : ifB (.bl true) s a b = a s := rfl
@[simp] theorem ifB_false (s : Sto) (a b : Sto → R W) : ifB (.bl false) s a b = b s := rfl
def toInt (x : W) (s : Sto) : R (Option Int) :=
  match x with
  | .int i => .ok (some i) s
  | _ => .no
@[simp] theorem toInt_int (i : Int) (s : Sto) : toInt (.int i) s = .ok (some i) s := rfl
def toB (x : W) (s : Sto) : R Bool :=
  match x with
  | .bl b => .ok b s
  | _ => .no
@[simp] theorem toB_bl (b : Bool) (s : Sto) : toB (.bl b) s = .ok b s := rfl
def negI (x : W) (s : Sto) : R W :=
  match x with
  | .int i => .ok (.int (-i)) s
  | _ => .no
@[simp] theorem negI_int (i : Int) (s : Sto) : negI (.int i) s = .ok (.int (-i)) s := rfl
def rng1 (x : W) (s : Sto) : R It :=
  match x with
  | .int b => evRng 0 b 1 s
  | _ => .no
def rng2 (x y : W) (s : Sto) : R It :=
  match x, y with
  | .int a, .int b => evRng a b 1 s
  | _, _ => .no
def rng3 (x y z : W) (s : Sto) : R It :=
  match x, y, z with
  | .int a, .int b, .int c => evRng a b c s
  | _, _, _ => .no
@[simp] theorem rng1_int (b : Int) (s : Sto) : rng1 (.int b) s = evRng 0 b 1 s := rfl
@[simp] theorem rng2_int (a b : Int) (s : Sto) : rng2 (.int a) (.int b) s = evRng a b 1 s := rfl
@[simp] theorem rng3_int (a b c : Int) (s : Sto) : rng3 (.int a) (.int b) (.int c) s = evRng a b c s := rfl
/-! dicts -/
def keyK : W → Option (Int ⊕ Str)
  | .int i => some (.inl i)
  | .str s => some (.inr s)
  | _ => none
def keyT : W → Option (List Int)
  | .tup ws => intsOf ws
  | _ => none
def lkD {κ : Type} [DecidableEq κ] (kvs : List (κ × W)) (k : κ) : Option W := (kvs.find? fun kv => decide (kv.1 = k)).map (·.2)
def ptD {κ : Type} [DecidableEq κ] (kvs : List (κ × W)) (k : κ) (w : W) : List (κ × W) :=
  if (kvs.any fun kv => decide (kv.1 = k)) = true then kvs.map (fun kv => if kv.1 = k then (kv.1, w) else kv) else kvs ++ [(k, w)]
/-- what a dict holds at a key: none where this is no dict, or no key of it -/
def dGet (s : Sto) (x y : W) : Option (Option W) :=
  match x with
  | .cell n => (match s[n]? with
    | some (.dK kvs) => (keyK y).map (lkD kvs)
    | some (.dT kvs) => (keyT y).map (lkD kvs)
    | _ => none)
  | _ => none
/-- the cell behind x[y] = w -/
def dPut (c : Cl) (y w : W) : Option Cl :=
  match c with
  | .dK kvs => if okN (kvs.length + 1) then (keyK y).map (fun k => .dK (ptD kvs k w)) else none
  | .dT kvs => if okN (kvs.length + 1) then (keyT y).map (fun k => .dT (ptD kvs k w)) else none
  | _ => none
def vDn1 (y w : W) (s : Sto) : R W :=
  match keyT y with
  | some k => .ok (.cell s.length) (s ++ [.dT [(k, w)]])
  | none => .no
/-- max(x, default=y), min(x, default=y) -/
def mxD (f : Int → List Int → Int) (x y : W) (s : Sto) : R W := biExt f x (match y with
  | .int i => some (.int i)
  | .non => some .non
  | _ => none) s
/-- list(range(x)) -/
def rlst (x : W) (s : Sto) : R W :=
  match x with
  | .int b => if decide (-(2 ^ 61) < b) && (decide (b < 2 ^ 61) && decide (b ≤ 16777216)) then .ok (.lst (rngC 0 1 (rngLen 0 b 1))) s else .no
  | _ => .no
/-- xs.index(x), flat items -/
def idxO (xs : List W) (y : W) : Option Nat := if flatW y && xs.all flatW then xs.findIdx? (fun z => eqF z y) else none
def vIdx (x y : W) (s : Sto) : R W :=
  match lstOf s x with
  | some xs => retO ((idxO xs y).map fun j => W.int (j : Nat)) s
  | none => .no
def lstG (x : W) (s : Sto) (r : R W) : R W :=
  match lstOf s x with
  | some _ => r
  | none => .no
def vVar (env : Env) (i : Nat) (s : Sto) : R W :=
  match env[i]? with
  | some (.v w) => .ok w s
  | _ => .no
def vOwn (env : Env) (i : Nat) (s : Sto) : R W :=
  match env[i]? with
  | some (.own xs) => .ok (.lst xs) s
  | _ => .no
def vSlf (T : Tab) (env : Env) (f : Nat) (s : Sto) : R W :=
  match env[(0 : Nat)]? with
  | some (.self c ks fs) => retO (fldOf T c ks fs f) s
  | _ => .no
def vXfld (T : Tab) (env : Env) (i f : Nat) (s : Sto) : R W :=
  match env[i]? with
  | some (.exn c ks fs) => if T.x1 c f then retO (getF ks fs f) s else .no
  | _ => .no
def vXisi (T : Tab) (env : Env) (i : Nat) (ts : List Ty) (s : Sto) : R W :=
  match env[i]? with
  | some (.exn c _ _) => if T.xc c && ts.all (okXTy T) then .ok (.bl (ts.any (isXTy T c))) s else .no
  | _ => .no
def vLst (ws : List W) (s : Sto) : R W := if okN ws.length then .ok (.lst ws) s else .no
def vTup (ws : List W) (s : Sto) : R W := if okN ws.length then .ok (.tup ws) s else .no
def vMk (T : Tab) (ci : CallI) (c : Nat) (ws : List W) (s : Sto) : R W :=
  match T.init c with
  | some f => (ci f c ws s).bind fun o s2 => .ok (.obj c o.1 o.2) s2
  | none => .no
def isNonR (n : Nat) (r : W) (s : Sto) : R W :=
  match r with
  | .non => .ok (.cell n) s
  | _ => .no
def vMkC (T : Tab) (cf : Call) (c : Nat) (ws : List W) (s : Sto) : R W :=
  match T.init c with
  | some f => (cf f (.cell s.length :: ws) (s ++ [.obj c [] []])).bind (isNonR s.length)
  | none => .no
def vMeth (T : Tab) (s : Sto) (x : W) (m : Nat) : Option Nat := (objOf s x).bind fun o => if (getF o.2.1 o.2.2 m).isNone then T.meth o.1 m else none
def withF (o : Option Nat) (k : Nat → R W) : R W :=
  match o with
  | some f => k f
  | none => .no
@[simp] theorem withF_some (f : Nat) (k : Nat → R W) : withF (some f) k = k f := rfl
/-- an object -/
def refG (y : W) (r : R W) : R W :=
  match y with
  | .obj _ _ _ => r
  | .cell _ => r
  | _ => .no
def vCell (x : W) (s : Sto) : R W :=
  match x with
  | .lst xs => .ok (.cell s.length) (s ++ [.lst xs])
  | _ => .no
def withE {α : Type} (o : Option Env) (k : Env → R α) : R α :=
  match o with
  | some e => k e
  | none => .no
@[simp] theorem withE_some {α : Type} (e : Env) (k : Env → R α) : withE (some e) k = k e := rfl
def chainB (o : Option Bool) (s : Sto) (k : Sto → R W) : R W :=
  match o with
  | some true => k s
  | some false => .ok (.bl false) s
  | none => .no
@[simp] theorem chainB_true (s : Sto) (k : Sto → R W) : chainB (some true) s k = k s := rfl
@[simp] theorem chainB_false (s : Sto) (k : Sto → R W) : chainB (some false) s k = .ok (.bl false) s := rfl

mutual
/-- m: as a test (True or False), else as a value -/
def ev (T : Tab) (cf : Call) (ci : CallI) : Ex → Bool → Env → Sto → R W
  | .var i, m, env, s => tst m (vVar env i s)
  | .own i, m, env, s => tst m (vOwn env i s)
  | .non, m, _, s => tst m (.ok .non s)
  | .bl b, m, _, s => tst m (.ok (.bl b) s)
  | .int i, m, _, s => tst m (.ok (.int i) s)
  | .str x, m, _, s => tst m (.ok (.str x) s)
  | .glob i, m, _, s => tst m (retO (T.gl i) s)
  | .bin op a b, m, env, s => tst m ((ev T cf ci a false env s).bind fun x s1 => (ev T cf ci b false env s1).bind fun y s2 => evBin op (drf s2 x) (drf s2 y) s2)
  | .neg a, m, env, s => tst m ((ev T cf ci a false env s).bind negI)
  | .cmp op a b, m, env, s => tst m ((ev T cf ci a false env s).bind fun x s1 => (ev T cf ci b false env s1).bind fun y s2 => retO ((evCmp op x y s2).map .bl) s2)
  | .chain op op' a b c, m, env, s => tst m ((ev T cf ci a false env s).bind fun x s1 => (ev T cf ci b false env s1).bind fun y s2 => chainB (evCmp op x y s2) s2 fun s2 =>
      (ev T cf ci c false env s2).bind fun z s3 => retO ((evCmp op' y z s3).map .bl) s3)
  | .isN a, m, env, s => tst m ((ev T cf ci a false env s).bind fun x s1 => .ok (.bl (isNon x)) s1)
  | .notN a, m, env, s => tst m ((ev T cf ci a false env s).bind fun x s1 => .ok (.bl (!isNon x)) s1)
  | .not a, m, env, s => match m with
    | false => (ev T cf ci a false env s).bind fun x s1 => retO ((tru s1 x).map fun b => .bl (!b)) s1
    | true => (ev T cf ci a true env s).bind fun x s1 => (toB x s1).bind fun b s2 => .ok (.bl (!b)) s2
  | .and a b, m, env, s => (ev T cf ci a m env s).bind fun x s1 => ifB x s1 (fun s2 => ev T cf ci b m env s2) fun s2 => .ok (.bl false) s2
  | .or a b, m, env, s => (ev T cf ci a m env s).bind fun x s1 => ifB x s1 (fun s2 => .ok (.bl true) s2) fun s2 => ev T cf ci b m env s2
  | .ite c a b, m, env, s => tst m ((ev T cf ci c true env s).bind fun x s1 => ifB x s1 (fun s2 => ev T cf ci a false env s2) fun s2 => ev T cf ci b false env s2)
  | .ix a b, m, env, s => tst m ((ev T cf ci a false env s).bind fun x s1 => (ev T cf ci b false env s1).bind fun y s2 => evIx x y s2)
  | .sl a lo hi, m, env, s => tst m ((ev T cf ci a false env s).bind fun x s1 => (if isNonE lo then .ok none s1 else (ev T cf ci lo false env s1).bind toInt).bind fun l s2 =>
      (if isNonE hi then .ok none s2 else (ev T cf ci hi false env s2).bind toInt).bind fun h s3 => evSl (drf s3 x) l h s3)
  | .rev a, m, env, s => tst m ((ev T cf ci a false env s).bind fun x s1 => evRev (drf s1 x) s1)
  | .lst es, m, env, s => tst m ((evEs T cf ci es env s).bind vLst)
  | .tup es, m, env, s => tst m ((evEs T cf ci es env s).bind vTup)
  | .call f es, m, env, s => tst m ((evEs T cf ci es env s).bind fun ws s1 => cf f ws s1)
  | .bi b es, m, env, s => tst m ((evEs T cf ci es env s).bind fun ws s1 => evBi b ws s1)
  | .isi a ts, m, env, s => tst m ((ev T cf ci a false env s).bind fun x s1 => retO ((isTys T s1 x ts).map .bl) s1)
  | .mk c es, m, env, s => tst m ((evEs T cf ci es env s).bind fun ws s1 => vMk T ci c ws s1)
  | .mkC c es, m, env, s => tst m ((evEs T cf ci es env s).bind fun ws s1 => vMkC T cf c ws s1)
  | .meth n o es, m, env, s => tst m ((ev T cf ci o false env s).bind fun x s1 => withF (vMeth T s1 x n) fun f => (evEs T cf ci es env s1).bind fun ws s2 => cf f (x :: ws) s2)
  | .fld a f, m, env, s => tst m ((ev T cf ci a false env s).bind fun x s1 => evFld T x f s1)
  | .slf f, m, env, s => tst m (vSlf T env f s)
  | .con c f, m, _, s => tst m (retO (T.con c f) s)
  | .xfld i f, m, env, s => tst m (vXfld T env i f s)
  | .xisi i ts, m, env, s => tst m (vXisi T env i ts s)
  | .comp t sr ifs e, m, env, s => tst m ((evS T cf ci sr env s).bind fun it s1 => (compI (fun x s2 => withE (putT env s2 t x) fun env2 =>
      (evIfs T cf ci ifs env2 s2).bind fun b s3 => if b then (ev T cf ci e false env2 s3).bind fun y s4 => .ok (some y) s4 else .ok none s3) T.sz it s1).bind fun ys s2 => .ok (.lst ys) s2)
  | .cell e, m, env, s => tst m ((ev T cf ci e false env s).bind vCell)
  | .mx mn a d, m, env, s => tst m ((ev T cf ci a false env s).bind fun x s1 => (ev T cf ci d false env s1).bind fun y s2 => mxD (if mn then minL else maxL) x y s2)
  | .rl a, m, env, s => tst m ((ev T cf ci a false env s).bind rlst)
  | .dnew t, m, env, s => tst m (.ok (.cell s.length) (s ++ [match t with | true => .dT [] | false => .dK []]))
  | .dn1 k e, m, env, s => tst m ((ev T cf ci k false env s).bind fun y s1 => (ev T cf ci e false env s1).bind fun w s2 => vDn1 y w s2)
  | .dget d k, m, env, s => tst m ((ev T cf ci d false env s).bind fun x s1 => (ev T cf ci k false env s1).bind fun y s2 => retO ((dGet s2 x y).bind id) s2)
  | .din neg k d, m, env, s => tst m ((ev T cf ci k false env s).bind fun y s1 => (ev T cf ci d false env s1).bind fun x s2 => retO ((dGet s2 x y).map fun o => .bl (xor neg o.isSome)) s2)
  | .dget1 d k, m, env, s => tst m ((ev T cf ci d false env s).bind fun x s1 => (ev T cf ci k false env s1).bind fun y s2 => retO ((dGet s2 x y).map fun o => o.getD .non) s2)
  | .idx a b, m, env, s => tst m ((ev T cf ci a false env s).bind fun x s1 => lstG x s1 ((ev T cf ci b false env s1).bind fun y s2 => vIdx x y s2))
  | .kcall f es e, m, env, s => tst m ((evEs T cf ci es env s).bind fun ws s1 => (ev T cf ci e false env s1).bind fun w s2 => cf f (ws ++ [w]) s2)
  | .kmkC c es e, m, env, s => tst m ((evEs T cf ci es env s).bind fun ws s1 => (ev T cf ci e false env s1).bind fun w s2 => vMkC T cf c (ws ++ [w]) s2)
  | .prp m o, md, env, s => tst md ((ev T cf ci o false env s).bind fun y s1 => withF (vMeth T s1 y (m + 1000)) fun f => (cf f [y] s1).nox)
  | .cal o es, m, env, s => tst m ((ev T cf ci o false env s).bind fun y s1 => refG y ((evEs T cf ci es env s1).bind fun ws s2 => withF (vMeth T s2 y 5000) fun f => cf f (y :: ws) s2))
def evEs (T : Tab) (cf : Call) (ci : CallI) : Exs → Env → Sto → R (List W)
  | .nil, _, s => .ok [] s
  | .cons e es, env, s => (ev T cf ci e false env s).bind fun x s1 => (evEs T cf ci es env s1).bind fun xs s2 => .ok (x :: xs) s2
/-- a comprehension's tests -/
def evIfs (T : Tab) (cf : Call) (ci : CallI) : Exs → Env → Sto → R Bool
  | .nil, _, s => .ok true s
  | .cons e r, env, s => (ev T cf ci e true env s).bind fun x s1 => (toB x s1).bind fun b s2 => match r with
    | .nil => .ok b s2
    | _ => .no
def evS (T : Tab) (cf : Call) (ci : CallI) : Sr → Env → Sto → R It
  | .seq e, env, s => (ev T cf ci e false env s).bind fun x s1 => retO (itOf s1 false x) s1
  | .rng1 a, env, s => (ev T cf ci a false env s).bind rng1
  | .rng2 a b, env, s => (ev T cf ci a false env s).bind fun x s1 => (ev T cf ci b false env s1).bind fun y s2 => rng2 x y s2
  | .rng3 a b c, env, s => (ev T cf ci a false env s).bind fun x s1 => (ev T cf ci b false env s1).bind fun y s2 => (ev T cf ci c false env s2).bind fun z s3 => rng3 x y z s3
  | .enum e, env, s => (ev T cf ci e false env s).bind fun x s1 => retO (itOf s1 true x) s1
end
abbrev evE (T : Tab) (cf : Call) (ci : CallI) (e : Ex) (env : Env) (s : Sto) : R W := ev T cf ci e false env s
def evT (T : Tab) (cf : Call) (ci : CallI) (e : Ex) (env : Env) (s : Sto) : R Bool := (ev T cf ci e true env s).bind toB

/-! ### statements -/
/-- how a statement ends -/
inductive O where | nx | bk | ct | rt (w : W)
inductive RS where
  | ok (o : O) (env : Env) (s : Sto) | ex (x : Xn) (env : Env) (s : Sto) | no
def RS.next (r : RS) (f : Env → Sto → RS) : RS :=
  match r with
  | .ok .nx env s => f env s
  | r => r
@[simp] theorem RS.next_nx (env : Env) (s : Sto) (f : Env → Sto → RS) : (RS.ok .nx env s).next f = f env s := rfl
@[simp] theorem RS.next_bk (env : Env) (s : Sto) (f : Env → Sto → RS) : (RS.ok .bk env s).next f = .ok .bk env s := rfl
@[simp] theorem RS.next_ct (env : Env) (s : Sto) (f : Env → Sto → RS) : (RS.ok .ct env s).next f = .ok .ct env s := rfl
@[simp] theorem RS.next_rt (w : W) (env : Env) (s : Sto) (f : Env → Sto → RS) : (RS.ok (.rt w) env s).next f = .ok (.rt w) env s := rfl
@[simp] theorem RS.next_ex (x : Xn) (env : Env) (s : Sto) (f : Env → Sto → RS) : (RS.ex x env s).next f = .ex x env s := rfl
@[simp] theorem RS.next_no (f : Env → Sto → RS) : RS.no.next f = .no := rfl
/-- an expression's result, then a statement -/
def R.stm {α : Type} (r : R α) (env : Env) (f : α → Sto → RS) : RS :=
  match r with
  | .ok a s => f a s
  | .ex x s => .ex x env s
  | .no => .no
@[simp] theorem R.stm_ok {α : Type} (a : α) (s : Sto) (env : Env) (f : α → Sto → RS) : (R.ok a s).stm env f = f a s := rfl
@[simp] theorem R.stm_ex {α : Type} (x : Xn) (s : Sto) (env : Env) (f : α → Sto → RS) : (R.ex x s : R α).stm env f = .ex x env s := rfl
@[simp] theorem R.stm_no {α : Type} (env : Env) (f : α → Sto → RS) : (R.no : R α).stm env f = .no := rfl

/-- a for's turns -/
def forL (t : Tg) (f : Env → Sto → RS) : List W → Env → Sto → RS
  | [], env, s => .ok .nx env s
  | x :: r, env, s => match putT env s t x with
    | none => .no
    | some env1 => match f env1 s with
      | .ok .nx env2 s2 => forL t f r env2 s2
      | .ok .ct env2 s2 => forL t f r env2 s2
      | .ok .bk env2 s2 => .ok .nx env2 s2
      | r => r
def forC (t : Tg) (f : Env → Sto → RS) (n : Nat) (en : Bool) : Nat → Nat → Env → Sto → RS
  | 0, _, _, _ => .no
  | k + 1, i, env, s => match itAt s n en i with
    | none => .no
    | some none => .ok .nx env s
    | some (some x) => match putT env s t x with
      | none => .no
      | some env1 => match f env1 s with
        | .ok .nx env2 s2 => forC t f n en k (i + 1) env2 s2
        | .ok .ct env2 s2 => forC t f n en k (i + 1) env2 s2
        | .ok .bk env2 s2 => .ok .nx env2 s2
        | r => r
def forI (t : Tg) (f : Env → Sto → RS) (sz : Nat) : It → Env → Sto → RS
  | .lst xs, env, s => forL t f xs env s
  | .cel n en, env, s => forC t f n en sz 0 env s
def whlL (c : Env → Sto → R Bool) (f : Env → Sto → RS) : Nat → Env → Sto → RS
  | 0, _, _ => .no
  | n + 1, env, s => match c env s with
    | .ok true s1 => (match f env s1 with
      | .ok .nx env2 s2 => whlL c f n env2 s2
      | .ok .ct env2 s2 => whlL c f n env2 s2
      | .ok .bk env2 s2 => .ok .nx env2 s2
      | r => r)
    | .ok false s1 => .ok .nx env s1
    | .ex x s1 => .ex x env s1
    | .no => .no
/-- a raised exception is not below the frozen part: its fields -/
def setsOk (env : Env) (i : Nat) : Bool := decide (i < env.length)

def noX : Env → Bool
  | [] => true
  | .exn _ _ _ :: _ => false
  | _ :: r => noX r
mutual
def exS (T : Tab) (cf : Call) (ci : CallI) : St → Env → Sto → RS
  | .expr e, env, s => (ev T cf ci e false env s).stm env fun _ s1 => .ok .nx env s1
  | .set i e, env, s => (ev T cf ci e false env s).stm env fun x s1 => .ok .nx (env.set i (.v x)) s1
  | .setOwn i e, env, s => (ev T cf ci e false env s).stm env fun x s1 => match x with
    | .lst xs => .ok .nx (env.set i (.own xs)) s1
    | _ => .no
  | .frz i, env, s => match env[i]? with
    | some (.own xs) => .ok .nx (env.set i (.v (.lst xs))) s
    | _ => .no
  | .app i e, env, s => match env[i]? with
    | some (.own _) => (ev T cf ci e false env s).stm env fun x s1 => (match env[i]? with
      | some (.own xs) => if okN (xs.length + 1) then .ok .nx (env.set i (.own (xs ++ [x]))) s1 else .no
      | _ => .no)
    | _ => .no
  | .setIx i k e, env, s => (ev T cf ci e false env s).stm env fun x s1 => (match env[i]? with
      | some (.own xs) => (ev T cf ci k false env s1).stm env fun y s2 => (match y with
        | .int j => (match ixN xs.length j with
          | some n => .ok .nx (env.set i (.own (xs.set n x))) s2
          | none => .no)
        | _ => .no)
      | _ => .no)
  | .unpk is e, env, s => (ev T cf ci e false env s).stm env fun x s1 => match seqOf s1 x with
    | some xs => if xs.length = is.length then .ok .nx (setAll env is xs) s1 else .no
    | none => .no
  | .par is es, env, s => (evEs T cf ci es env s).stm env fun ws s1 => if ws.length = is.length then .ok .nx (setAll env is ws) s1 else .no
  | .aug i op e, env, s => match env[i]? with
    | some (.v (.int a)) => (ev T cf ci e false env s).stm env fun x s1 => (match op, x with
      | .add, .int b => .ok .nx (env.set i (.v (.int (a + b)))) s1
      | .sub, .int b => .ok .nx (env.set i (.v (.int (a - b)))) s1
      | _, _ => .no)
    | _ => .no
  | .sfld f e, env, s => (ev T cf ci e false env s).stm env fun x s1 => match env[(0 : Nat)]? with
    | some (.self c ks fs) => if T.fo c f && decide (ks.length < 900) then .ok .nx (env.set 0 (.self c (putFK ks f) (putFV ks fs f x))) s1 else .no
    | _ => .no
  | .cApp o e, env, s => (ev T cf ci o false env s).stm env fun y s1 => match y with
    | .cell n => (match s1[n]? with
      | some (.lst _) => (ev T cf ci e false env s1).stm env fun x s2 => (match s2[n]? with
        | some (.lst xs) => if okN (xs.length + 1) then .ok .nx env (s2.set n (.lst (xs ++ [x]))) else .no
        | _ => .no)
      | _ => .no)
    | _ => .no
  | .cSet o k e, env, s => (ev T cf ci e false env s).stm env fun x s1 => (ev T cf ci o false env s1).stm env fun y s2 => (ev T cf ci k false env s2).stm env fun z s3 => match y, z with
    | .cell n, .int j => (match s3[n]? with
      | some (.lst xs) => (match ixN xs.length j with
        | some m => .ok .nx env (s3.set n (.lst (xs.set m x)))
        | none => .no)
      | _ => .no)
    | _, _ => .no
  | .dput o k e, env, s => (ev T cf ci e false env s).stm env fun x s1 => (ev T cf ci o false env s1).stm env fun y s2 => (ev T cf ci k false env s2).stm env fun z s3 => match y with
    | .cell n => (match (s3[n]?).bind fun c => dPut c z x with
      | some c => .ok .nx env (s3.set n c)
      | none => .no)
    | _ => .no
  | .cFld o f e, env, s => (ev T cf ci e false env s).stm env fun x s1 => (ev T cf ci o false env s1).stm env fun y s2 => match y with
    | .cell n => (match s2[n]? with
      | some (.obj c ks fs) => if T.fo c f && decide (ks.length < 900) then .ok .nx env (s2.set n (.obj c (putFK ks f) (putFV ks fs f x))) else .no
      | _ => .no)
    | _ => .no
  | .ife c a b, env, s => (evT T cf ci c env s).stm env fun k s1 => if k then exSs T cf ci a env s1 else exSs T cf ci b env s1
  | .whl c b, env, s => whlL (fun env s => evT T cf ci c env s) (fun env s => exSs T cf ci b env s) T.sz env s
  | .for_ t sr b, env, s => (evS T cf ci sr env s).stm env fun it s1 => forI t (fun env s => exSs T cf ci b env s) T.sz it env s1
  | .ret e, env, s => (ev T cf ci e false env s).stm env fun x s1 => .ok (.rt x) env s1
  | .retN, env, s => .ok (.rt .non) env s
  | .pass, env, s => .ok .nx env s
  | .brk, env, s => .ok .bk env s
  | .cnt, env, s => .ok .ct env s
  | .raise c ks es, env, s => (evEs T cf ci es env s).stm env fun ws s1 => if ks.length = ws.length then .ex ⟨c, ks, ws⟩ env s1 else .no
  | .try_ b hs, env, s => match exSs T cf ci b env s with
    | .ex x env1 s1 => exH T cf ci hs x env1 s1
    | r => r
def exSs (T : Tab) (cf : Call) (ci : CallI) : Sts → Env → Sto → RS
  | .nil, env, s => .ok .nx env s
  | .cons a r, env, s => (exS T cf ci a env s).next fun env1 s1 => exSs T cf ci r env1 s1
def exH (T : Tab) (cf : Call) (ci : CallI) : Hds → Xn → Env → Sto → RS
  | .nil, x, env, s => .ex x env s
  | .cons c i b r, x, env, s => if T.xc x.c && T.xc c then if T.sub x.c c then (match exSs T cf ci b (env.set i (.exn x.c x.ks x.fs)) s with
    | .ok o env1 s1 => if noX (env1.set i .un) then .ok o (env1.set i .un) s1 else .no
    | _ => .no) else exH T cf ci r x env s else .no
end

/-! ### calls -/
def envOf (n : Nat) (ws : List W) : Env := ws.map .v ++ List.replicate (n - ws.length) .un
/-- the k-th level of calls: a def, and a maker -/
def callF (T : Tab) : Nat → Call × CallI
  | 0 => (fun _ _ _ => .no, fun _ _ _ _ => .no)
  | k + 1 =>
    (fun f ws s => match T.fn f with
      | some d => if ws.length = d.np then (match exSs T (callF T k).1 (callF T k).2 d.body (envOf d.ns ws) s with
        | .ok (.rt w) _ s1 => .ok w s1
        | .ok .nx _ s1 => .ok .non s1
        | .ex x _ s1 => .ex x s1
        | _ => .no) else .no
      | none => .no,
     fun f c ws s => match T.fn f with
      | some d => if ws.length + 1 = d.np then (match exSs T (callF T k).1 (callF T k).2 d.body (Sl.self c [] [] :: envOf (d.ns - 1) ws) s with
        | .ok .nx (Sl.self c' ks fs :: _) s1 => if c' = c then .ok (ks, fs) s1 else .no
        | .ex x _ s1 => .ex x s1
        | _ => .no) else .no
      | none => .no)
/-! ### look-ups in lists -/
def lk2 {α : Type} (l : List ((Nat × Nat) × α)) (a b : Nat) : Option α := match l with
  | [] => none
  | ((x, y), v) :: r => if x = a ∧ y = b then some v else lk2 r a b
def lk1 (l : List (Nat × Nat)) (a : Nat) : Option Nat := match l with
  | [] => none
  | (x, v) :: r => if x = a then some v else lk1 r a
end LI
end
section
set_option Elab.async false
set_option linter.all false
set_option maxRecDepth 100000
set_option maxHeartbeats 2000000
/-! LiRep: how the small language's values stand in the abstract heap. -/
namespace LI
open PySem PySem.Spec PyProof.Rows L2

/-- what is fixed through a law -/
structure Ctx where
  P : Program
  w : World
  K : PySem.W.Frag
  mg : Str → Option Value
  base : Heap
  T : Tab
  ca : Nat → Addr
  nm : Nat → Str

/-- the frozen part of the heap, where the cells stand, the store -/
structure Sn where
  F : Hp
  φ : Nat → Addr
  S : Sto
def liveC : Cl → Bool
  | .dead => false
  | _ => true
def Sn.live (S : Sn) (n : Nat) : Prop := ∃ c, S.S[n]? = some c ∧ liveC c = true

/-- a tuple with a text in it: no key of a dict here -/
def hasStr : List W → Bool
  | [] => false
  | .str _ :: _ => true
  | _ :: r => hasStr r
section
variable (Γ : Ctx)
mutual
def Rep (F : Hp) (φ : Nat → Addr) (N : Nat) : W → V → Prop
  | .non, v => v = .non
  | .bl b, v => v = .bl b
  | .int i, v => v = .int i
  | .str s, v => v = .str s
  | .lst xs, v => ∃ a vs, v = .ref a ∧ F a = some (.lst vs) ∧ Reps F φ N xs vs
  | .tup xs, v => ∃ a vs, v = .ref a ∧ (SqT Γ.K F a vs ∧ (F a = some (.tup vs) ∨ hasStr xs = true)) ∧ Reps F φ N xs vs
  | .scr ns, v => ∃ a, v = .ref a ∧ SqL Γ.K F a (ns.map V.int)
  | .obj c ks fs, v => ∃ a dx vs, v = .ref a ∧ F a = some (.ins (Γ.ca c) dx ((ks.map Γ.nm).zip vs)) ∧ Reps F φ N fs vs ∧ ks.length = fs.length
  | .dct _ _, _ => False
  | .cls c, v => v = .ref (Γ.ca c)
  | .ty n, v => v = .ty n
  | .cell n, v => n < N ∧ v = .ref (φ n)
def Reps (F : Hp) (φ : Nat → Addr) (N : Nat) : List W → List V → Prop
  | [], vs => vs = []
  | x :: xs, vs => ∃ v r, vs = v :: r ∧ Rep F φ N x v ∧ Reps F φ N xs r
end
abbrev RepS (S : Sn) (w : W) (v : V) : Prop := Rep Γ S.F S.φ S.S.length w v
abbrev RepsS (S : Sn) (ws : List W) (vs : List V) : Prop := Reps Γ S.F S.φ S.S.length ws vs

/-- all that stands in H stands in H' -/
def Sub (H H' : Hp) : Prop := ∀ a o, H a = some o → H' a = some o

theorem Sub.refl (H : Hp) : Sub H H := fun _ _ h => h
theorem Sub.trans {H H1 H2 : Hp} (a : Sub H H1) (b : Sub H1 H2) : Sub H H2 := fun x o h => b x o (a x o h)
theorem Sub.rd {H H' : Hp} (e : Sub H H') {a : Addr} {u : HO} (h : Rd H a u) : Rd H' a u := by
  rcases h with h | ⟨o, h⟩
  · exact .inl (e a _ h)
  · exact .inr ⟨o, e a _ h⟩
theorem Sub.sql {K : PySem.W.Frag} {H H' : Hp} (e : Sub H H') {a : Addr} {xs : List V} (h : SqL K H a xs) : SqL K H' a xs := h.imp (e.rd ·) id
theorem Sub.sqt {K : PySem.W.Frag} {H H' : Hp} (e : Sub H H') {a : Addr} {xs : List V} (h : SqT K H a xs) : SqT K H' a xs := h.imp (e.rd ·) id
theorem Sub.upd {H H' : Hp} (e : Sub H H') {p : Addr} {o : HO} : Sub (upd H p o) (upd H' p o) := fun a u h => by
  by_cases q : a = p
  · subst q; rw [upd_same] at h ⊢; exact h
  · rw [upd_ne q] at h ⊢; exact e a u h
theorem Sub.new {H : Hp} {p : Addr} {o : HO} (h : H p = none) : Sub H (L2.upd H p o) := fun a u e => by
  rw [upd_ne (ne_of_none e h)]; exact e
theorem Sub.none {H H' : Hp} (e : Sub H H') {p : Addr} (h : H' p = Option.none) : H p = Option.none := by
  cases q : H p with
  | none => rfl
  | some o => rw [e p o q] at h; cases h

section
variable {Γ} {F F' : Hp} {φ φ' : Nat → Addr} {N N' : Nat}
mutual
theorem Rep.mono (hF : Sub F F') (hN : N ≤ N') (hφ : ∀ n, n < N → φ' n = φ n) : ∀ (w : W) (v : V), Rep Γ F φ N w v → Rep Γ F' φ' N' w v
  | .non, _, h => h
  | .bl _, _, h => h
  | .int _, _, h => h
  | .str _, _, h => h
  | .lst xs, v, ⟨a, vs, e, h1, h2⟩ => ⟨a, vs, e, hF _ _ h1, Reps.mono hF hN hφ xs vs h2⟩
  | .tup xs, v, ⟨a, vs, e, h1, h2⟩ => ⟨a, vs, e, ⟨hF.sqt h1.1, h1.2.imp (hF _ _) id⟩, Reps.mono hF hN hφ xs vs h2⟩
  | .scr ns, v, ⟨a, e, h1⟩ => ⟨a, e, hF.sql h1⟩
  | .obj c ks fs, v, ⟨a, dx, vs, e, h1, h2, h3⟩ => ⟨a, dx, vs, e, hF _ _ h1, Reps.mono hF hN hφ fs vs h2, h3⟩
  | .dct _ _, _, h => h
  | .cls _, _, h => h
  | .ty _, _, h => h
  | .cell n, v, ⟨h1, h2⟩ => ⟨Nat.lt_of_lt_of_le h1 hN, by rw [h2, hφ n h1]⟩
theorem Reps.mono (hF : Sub F F') (hN : N ≤ N') (hφ : ∀ n, n < N → φ' n = φ n) : ∀ (ws : List W) (vs : List V), Reps Γ F φ N ws vs → Reps Γ F' φ' N' ws vs
  | [], _, h => h
  | x :: xs, _, ⟨v, r, e, h1, h2⟩ => ⟨v, r, e, Rep.mono hF hN hφ x v h1, Reps.mono hF hN hφ xs r h2⟩
end

theorem Reps.length : ∀ {ws : List W} {vs : List V}, Reps Γ F φ N ws vs → vs.length = ws.length
  | [], _, h => by cases (show _ = [] from h); rfl
  | x :: xs, _, ⟨v, r, e, _, h2⟩ => by subst e; simp [h2.length]
theorem Reps.nil : Reps Γ F φ N [] [] := rfl
theorem Reps.cons {x : W} {xs : List W} {v : V} {vs : List V} (h1 : Rep Γ F φ N x v) (h2 : Reps Γ F φ N xs vs) : Reps Γ F φ N (x :: xs) (v :: vs) := ⟨v, vs, rfl, h1, h2⟩
theorem Reps.inv {x : W} {xs : List W} {v : V} {vs : List V} (h : Reps Γ F φ N (x :: xs) (v :: vs)) : Rep Γ F φ N x v ∧ Reps Γ F φ N xs vs := by
  obtain ⟨v', r, e, h1, h2⟩ := h
  cases e
  exact ⟨h1, h2⟩
theorem Reps.get : ∀ {ws : List W} {vs : List V} {i : Nat} {x : W}, Reps Γ F φ N ws vs → ws[i]? = some x → ∃ v, vs[i]? = some v ∧ Rep Γ F φ N x v
  | y :: xs, _, 0, x, ⟨v, r, e, h1, _⟩, h => by
    subst e
    simp at h; subst h
    exact ⟨v, rfl, h1⟩
  | y :: xs, _, i + 1, x, ⟨v, r, e, _, h2⟩, h => by
    subst e
    obtain ⟨v', h3, h4⟩ := Reps.get (i := i) h2 (by simpa using h)
    exact ⟨v', by simpa using h3, h4⟩
theorem Reps.getV : ∀ {ws : List W} {vs : List V} {i : Nat} {v : V}, Reps Γ F φ N ws vs → vs[i]? = some v → ∃ x, ws[i]? = some x ∧ Rep Γ F φ N x v
  | [], _, i, v, h, e => by cases (show _ = [] from h); simp at e
  | y :: xs, _, 0, x, ⟨v, r, e, h1, _⟩, h => by
    subst e
    simp at h; subst h
    exact ⟨y, rfl, h1⟩
  | y :: xs, _, i + 1, x, ⟨v, r, e, _, h2⟩, h => by
    subst e
    obtain ⟨v', h3, h4⟩ := Reps.getV (i := i) h2 (by simpa using h)
    exact ⟨v', by simpa using h3, h4⟩
theorem Reps.append : ∀ {ws ws' : List W} {vs vs' : List V}, Reps Γ F φ N ws vs → Reps Γ F φ N ws' vs' → Reps Γ F φ N (ws ++ ws') (vs ++ vs')
  | [], _, _, _, h, h' => by cases (show _ = [] from h); exact h'
  | x :: xs, _, _, _, ⟨v, r, e, h1, h2⟩, h' => by subst e; exact ⟨v, _, rfl, h1, Reps.append h2 h'⟩
theorem Reps.take : ∀ (n : Nat) {ws : List W} {vs : List V}, Reps Γ F φ N ws vs → Reps Γ F φ N (ws.take n) (vs.take n)
  | 0, _, _, _ => by simpa using Reps.nil
  | n + 1, [], _, h => by cases (show _ = [] from h); exact Reps.nil
  | n + 1, x :: xs, _, ⟨v, r, e, h1, h2⟩ => by subst e; exact ⟨v, _, rfl, h1, Reps.take n h2⟩
theorem Reps.drop : ∀ (n : Nat) {ws : List W} {vs : List V}, Reps Γ F φ N ws vs → Reps Γ F φ N (ws.drop n) (vs.drop n)
  | 0, _, _, h => by simpa using h
  | n + 1, [], _, h => by cases (show _ = [] from h); exact Reps.nil
  | n + 1, x :: xs, _, ⟨v, r, e, h1, h2⟩ => by subst e; simpa using Reps.drop n h2
theorem Reps.set {x : W} {v : V} (hx : Rep Γ F φ N x v) : ∀ (n : Nat) {ws : List W} {vs : List V}, Reps Γ F φ N ws vs → Reps Γ F φ N (ws.set n x) (vs.set n v)
  | _, [], _, h => by cases (show _ = [] from h); exact Reps.nil
  | 0, y :: xs, _, ⟨v', r, e, h1, h2⟩ => by subst e; exact ⟨v, _, rfl, hx, h2⟩
  | n + 1, y :: xs, _, ⟨v', r, e, h1, h2⟩ => by subst e; exact ⟨v', _, rfl, h1, Reps.set hx n h2⟩
theorem Reps.reverse : ∀ {ws : List W} {vs : List V}, Reps Γ F φ N ws vs → Reps Γ F φ N ws.reverse vs.reverse
  | [], _, h => by cases (show _ = [] from h); exact Reps.nil
  | x :: xs, _, ⟨v, r, e, h1, h2⟩ => by
    subst e
    rw [List.reverse_cons, List.reverse_cons]
    exact Reps.append (Reps.reverse h2) (Reps.cons h1 Reps.nil)
theorem Reps.ints : ∀ {ns : List Int}, Reps Γ F φ N (ns.map W.int) (ns.map V.int)
  | [] => rfl
  | n :: ns => ⟨_, _, rfl, rfl, Reps.ints⟩
theorem Reps.ints_inv : ∀ {ns : List Int} {vs : List V}, Reps Γ F φ N (ns.map W.int) vs → vs = ns.map V.int
  | [], _, h => h
  | n :: ns, _, ⟨v, r, e, h1, h2⟩ => by
    subst e
    rw [(show v = V.int n from h1), Reps.ints_inv h2]
    rfl
theorem Reps.rep {ws : List W} {vs : List V} (h : Reps Γ F φ N ws vs) : ∀ k : Nat, Reps Γ F φ N (List.replicate k ws).flatten (List.replicate k vs).flatten
  | 0 => Reps.nil
  | k + 1 => by
    rw [List.replicate_succ, List.replicate_succ, List.flatten_cons, List.flatten_cons]
    exact h.append (Reps.rep h k)
end

/-! ### the state -/
/-- a cell at its place -/
def ClR (S : Sn) (H : Hp) (a : Addr) : Cl → Prop
  | .lst xs => S.F a = none ∧ ∃ vs, H a = some (.lst vs) ∧ RepsS Γ S xs vs
  | .obj c ks fs => S.F a = none ∧ ∃ dx vs, H a = some (.ins (Γ.ca c) dx ((ks.map Γ.nm).zip vs)) ∧ RepsS Γ S fs vs ∧ ks.length = fs.length
  | .dK kvs => S.F a = none ∧ ∃ vs, H a = some (.dK ((kvs.map (·.1)).zip vs)) ∧ RepsS Γ S (kvs.map (·.2)) vs
  | .dT kvs => S.F a = none ∧ ∃ vs, H a = some (.dT ((kvs.map fun p => p.1.map Sum.inl).zip vs)) ∧ RepsS Γ S (kvs.map (·.2)) vs
  | .dead => ∃ o, H a = some o
structure HR (S : Sn) (H : Hp) : Prop where
  sub : Sub S.F H
  cel : ∀ n c, S.S[n]? = some c → ClR Γ S H (S.φ n) c
  inj : ∀ n m, S.live n → S.live m → S.φ n = S.φ m → n = m
/-- no live cell stands at a -/
def Sn.off (S : Sn) (a : Addr) : Prop := ∀ n, S.live n → S.φ n ≠ a
/-- from one state to a later one -/
structure Fr (S : Sn) (H : Hp) (S' : Sn) (H' : Hp) : Prop where
  f : Sub S.F S'.F
  n : S.S.length ≤ S'.S.length
  φ : ∀ n, n < S.S.length → S'.φ n = S.φ n
  keep : ∀ a o, H a = some o → S.off a → H' a = some o
  own : ∀ a o, H a = some o → S.F a = none → S.off a → S'.F a = none
  new : ∀ n, S.S.length ≤ n → n < S'.S.length → H (S'.φ n) = none
  live : ∀ n, n < S.S.length → S'.live n → S.live n
  there : ∀ a o, H a = some o → ∃ o', H' a = some o'
end

section
variable {Γ : Ctx} {S S1 S2 : Sn} {H H1 H2 : Hp}
theorem Sn.live.lt {n : Nat} (h : S.live n) : n < S.S.length := by
  obtain ⟨c, e, _⟩ := h
  exact (List.getElem?_eq_some_iff.mp e).1
theorem HR.liveF {n : Nat} (hr : HR Γ S H) (h : S.live n) : S.F (S.φ n) = none ∧ ∃ o, H (S.φ n) = some o := by
  obtain ⟨c, e, l⟩ := h
  have := hr.cel n c e
  cases c with
  | lst xs => obtain ⟨h1, vs, h2, _⟩ := this; exact ⟨h1, _, h2⟩
  | dK xs => obtain ⟨h1, vs, h2, _⟩ := this; exact ⟨h1, _, h2⟩
  | dT xs => obtain ⟨h1, vs, h2, _⟩ := this; exact ⟨h1, _, h2⟩
  | obj c ks fs => obtain ⟨h1, dx, vs, h2, _⟩ := this; exact ⟨h1, _, h2⟩
  | dead => cases l
theorem HR.offF {a : Addr} {o : HO} (hr : HR Γ S H) (h : S.F a = some o) : S.off a := fun n l e => by
  rw [← e, (hr.liveF l).1] at h; cases h
theorem HR.offN {a : Addr} (hr : HR Γ S H) (h : H a = none) : S.off a := fun n l e => by
  obtain ⟨o, q⟩ := (hr.liveF l).2
  rw [e, h] at q; cases q
theorem Fr.refl : Fr S H S H :=
  ⟨Sub.refl _, Nat.le_refl _, fun _ _ => rfl, fun _ _ h _ => h, fun _ _ _ h _ => h, fun n h1 h2 => absurd (Nat.lt_of_lt_of_le h2 h1) (Nat.lt_irrefl _), fun _ _ h => h, fun _ o h => ⟨o, h⟩⟩
theorem Fr.off (a : Fr S H S1 H1) {x : Addr} {o : HO} (h : H x = some o) (f : S.off x) : S1.off x := fun n l e => by
  by_cases hn : n < S.S.length
  · exact f n (a.live n hn l) ((a.φ n hn).symm.trans e)
  · have := a.new n (by omega) l.lt
    rw [e, h] at this; cases this
theorem Fr.trans (a : Fr S H S1 H1) (b : Fr S1 H1 S2 H2) : Fr S H S2 H2 where
  f := a.f.trans b.f
  n := Nat.le_trans a.n b.n
  φ := fun n h => (b.φ n (Nat.lt_of_lt_of_le h a.n)).trans (a.φ n h)
  keep := fun x o h f => b.keep x o (a.keep x o h f) (a.off h f)
  own := fun x o h hf f => b.own x o (a.keep x o h f) (a.own x o h hf f) (a.off h f)
  new := fun n h1 h2 => by
    by_cases hn : n < S1.S.length
    · rw [b.φ n hn]; exact a.new n h1 hn
    · have q := b.new n (by omega) h2
      cases e : H (S2.φ n) with
      | none => rfl
      | some o =>
        obtain ⟨o', e'⟩ := a.there _ o e
        rw [e'] at q; cases q
  live := fun n h l => a.live n h (b.live n (Nat.lt_of_lt_of_le h a.n) l)
  there := fun x o h => let ⟨o1, h1⟩ := a.there x o h; b.there x o1 h1
theorem Fr.rep (a : Fr S H S1 H1) {w : W} {v : V} (h : RepS Γ S w v) : RepS Γ S1 w v := Rep.mono a.f a.n a.φ w v h
theorem Fr.reps (a : Fr S H S1 H1) {ws : List W} {vs : List V} (h : RepsS Γ S ws vs) : RepsS Γ S1 ws vs := Reps.mono a.f a.n a.φ ws vs h

/-- a new object, frozen at once -/
def Sn.frz (S : Sn) (p : Addr) (o : HO) : Sn := { S with F := upd S.F p o }
theorem live_frz {p : Addr} {o : HO} {n : Nat} : (S.frz p o).live n ↔ S.live n := Iff.rfl
theorem ClR.mono {S S' : Sn} {H H' : Hp} {a : Addr} {c : Cl} (h : ClR Γ S H a c) (hF : Sub S.F S'.F) (hN : S.S.length ≤ S'.S.length) (hφ : ∀ n, n < S.S.length → S'.φ n = S.φ n)
    (hn : liveC c = true → S'.F a = none) (hk : ∀ o, H a = some o → H' a = some o) : ClR Γ S' H' a c := by
  cases c with
  | lst xs => obtain ⟨_, vs, h2, h3⟩ := h; exact ⟨hn rfl, vs, hk _ h2, Reps.mono hF hN hφ _ _ h3⟩
  | dK xs => obtain ⟨_, vs, h2, h3⟩ := h; exact ⟨hn rfl, vs, hk _ h2, Reps.mono hF hN hφ _ _ h3⟩
  | dT xs => obtain ⟨_, vs, h2, h3⟩ := h; exact ⟨hn rfl, vs, hk _ h2, Reps.mono hF hN hφ _ _ h3⟩
  | obj c ks fs => obtain ⟨_, dx, vs, h2, h3, h4⟩ := h; exact ⟨hn rfl, dx, vs, hk _ h2, Reps.mono hF hN hφ _ _ h3, h4⟩
  | dead => obtain ⟨o, h⟩ := h; exact ⟨o, hk _ h⟩
theorem HR.newF (hr : HR Γ S H) {p : Addr} {o : HO} (hp : H p = none) : HR Γ (S.frz p o) (upd H p o) := by
  have hF : S.F p = none := hr.sub.none hp
  refine ⟨hr.sub.upd, fun n c e => ?_, fun n m l1 l2 e => hr.inj n m l1 l2 e⟩
  have h := hr.cel n c e
  have hne : (∃ o, H (S.φ n) = some o) → S.φ n ≠ p := fun ⟨o, h⟩ z => by rw [z, hp] at h; cases h
  have hs : ∃ o, H (S.φ n) = some o := by
    cases c with
    | lst xs => obtain ⟨_, vs, h2, _⟩ := h; exact ⟨_, h2⟩
    | dK xs => obtain ⟨_, vs, h2, _⟩ := h; exact ⟨_, h2⟩
    | dT xs => obtain ⟨_, vs, h2, _⟩ := h; exact ⟨_, h2⟩
    | obj c ks fs => obtain ⟨_, dx, vs, h2, _⟩ := h; exact ⟨_, h2⟩
    | dead => exact h
  have hne' := hne hs
  refine h.mono (S' := S.frz p o) (Sub.new hF) (Nat.le_refl _) (fun _ _ => rfl) (fun l => ?_) fun o' z => by rw [upd_ne hne']; exact z
  show upd S.F p o (S.φ n) = none
  rw [upd_ne hne']
  exact (hr.liveF ⟨c, e, l⟩).1
theorem HR.frNewF (hr : HR Γ S H) {p : Addr} {o : HO} (hp : H p = none) : Fr S H (S.frz p o) (upd H p o) := by
  have hF : S.F p = none := hr.sub.none hp
  refine ⟨Sub.new hF, Nat.le_refl _, fun _ _ => rfl, fun a u h _ => by rw [upd_ne (ne_of_none h hp)]; exact h, fun a u h hf _ => ?_, fun n h1 h2 => absurd (Nat.lt_of_lt_of_le h2 h1) (Nat.lt_irrefl _), fun _ _ h => h, fun a u h => ⟨u, by rw [upd_ne (ne_of_none h hp)]; exact h⟩⟩
  show upd S.F p o a = none
  rw [upd_ne (ne_of_none h hp)]
  exact hf
/-- a new object, not frozen -/
theorem HR.newO (hr : HR Γ S H) {p : Addr} {o : HO} (hp : H p = none) : HR Γ S (upd H p o) := by
  refine ⟨fun a u h => by rw [upd_ne (ne_of_none (hr.sub a u h) hp)]; exact hr.sub a u h, fun n c e => ?_, hr.inj⟩
  have h := hr.cel n c e
  refine h.mono (S' := S) (Sub.refl _) (Nat.le_refl _) (fun _ _ => rfl) (fun l => (hr.liveF ⟨c, e, l⟩).1) fun o' z => by rw [upd_ne (ne_of_none z hp)]; exact z
theorem HR.frNewO (hr : HR Γ S H) {p : Addr} {o : HO} (hp : H p = none) : Fr S H S (upd H p o) :=
  ⟨Sub.refl _, Nat.le_refl _, fun _ _ => rfl, fun a u h _ => by rw [upd_ne (ne_of_none h hp)]; exact h, fun a u h hf _ => hf, fun n h1 h2 => absurd (Nat.lt_of_lt_of_le h2 h1) (Nat.lt_irrefl _), fun _ _ h => h, fun a u h => ⟨u, by rw [upd_ne (ne_of_none h hp)]; exact h⟩⟩
/-- an object that stands off the frozen part and the cells is frozen -/
theorem HR.freeze (hr : HR Γ S H) {p : Addr} {o : HO} (hp : H p = some o) (hF : S.F p = none) (ho : S.off p) : HR Γ (S.frz p o) H := by
  refine ⟨fun a u h => ?_, fun n c e => ?_, hr.inj⟩
  · have h' : upd S.F p o a = some u := h
    by_cases q : a = p
    · subst q; rw [upd_same] at h'; cases h'; exact hp
    · rw [upd_ne q] at h'; exact hr.sub a u h'
  · refine (hr.cel n c e).mono (S' := S.frz p o) (Sub.new hF) (Nat.le_refl _) (fun _ _ => rfl) (fun l => ?_) fun _ z => z
    show upd S.F p o (S.φ n) = none
    rw [upd_ne (ho n ⟨c, e, l⟩)]
    exact (hr.liveF ⟨c, e, l⟩).1
end
end LI
end
section
set_option Elab.async false
set_option linter.all false
set_option maxRecDepth 100000
set_option maxHeartbeats 2000000
/-! LiRead: the readings: what an expression of the small language leaves. -/
namespace LI
open PySem PySem.Spec PyProof.Rows L2

/-- what stands through a def's body: the heap at its entry, the object that is made, the exception that is handled -/
structure En where
  eS : Sn
  eH : Hp
  sf : Addr
  xr : Option (Addr × Value × Option Addr)

section
variable (Γ : Ctx)
def Own (S : Sn) (en : En) (a : Addr) : Prop := S.F a = none ∧ en.eH a = none ∧ S.off a
/-- an exception as it lies -/
structure XR (S : Sn) (H : Hp) (x : Xn) (cls : Value) (d : Option Addr) : Prop where
  cls : cls = .ref (Γ.ca x.c)
  len : x.ks.length = x.fs.length
  none : x.ks = [] → d = none
  some : x.ks ≠ [] → ∃ dd vs, d = some dd ∧ H dd = some (.xd ((x.ks.map Γ.nm).zip vs)) ∧ RepsS Γ S x.fs vs
def SlR1 (en : En) (S : Sn) (H : Hp) : Sl → Option V → Prop
  | .un, _ => True
  | .v w, o => ∃ v, o = some v ∧ RepS Γ S w v
  | .own xs, o => ∃ a vs, o = some (.ref a) ∧ Own S en a ∧ H a = some (.lst vs) ∧ RepsS Γ S xs vs
  | .self c ks fs, o => o = some (.ref en.sf) ∧ Own S en en.sf ∧ ∃ dx vs, H en.sf = some (.ins (Γ.ca c) dx ((ks.map Γ.nm).zip vs)) ∧ RepsS Γ S fs vs ∧ ks.length = fs.length
  | .exn c ks fs, o => ∃ a cls d, en.xr = some (a, cls, d) ∧ o = some (.ref a) ∧ XR Γ S H ⟨c, ks, fs⟩ cls d
structure SlR (en : En) (S : Sn) (H : Hp) (env : LI.Env) (σ : L2.St) : Prop where
  len : env.length = σ.length
  at_ : ∀ (i : Nat) (s : Sl) (o : Option V), env[i]? = some s → σ[i]? = some o → SlR1 Γ en S H s o
  dis : ∀ (i j : Nat) (xs ys : List W) (a : Addr), env[i]? = some (.own xs) → env[j]? = some (.own ys) → σ[i]? = some (some (.ref a)) → σ[j]? = some (some (.ref a)) → i = j
  one : ∀ (i : Nat) (c : Nat) (ks : List Nat) (fs : List W), env[i]? = some (.self c ks fs) → i = 0
/-- a result, then what is wanted of it -/
def RP {α : Type} (Wx : WX) (σ : L2.St) (S : Sn) (H : Hp) (r : R α) (k : α → Sn → Hp → Prop) : Prop :=
  match r with
  | .ok a s => ∀ S' H', S'.S = s → Fr S H S' H' → HR Γ S' H' → k a S' H'
  | .ex x s => ∀ S' H' cls d, S'.S = s → Fr S H S' H' → HR Γ S' H' → XR Γ S' H' x cls d → Wx cls d σ H'
  | .no => False
/-- the reading of something that is worth rd -/
def tR {α β : Type} (Wx : WX) (en : En) (env : LI.Env) (rd : Sto → R α) (P : Sn → Hp → α → β → Sn → Hp → Prop) : L2.St → Hp → (β → Hp → Prop) → Prop := fun σ H Q =>
  ∃ S, HR Γ S H ∧ SlR Γ en S H env σ ∧ RP Γ Wx σ S H (rd S.S) fun w S' H' => ∀ v, P S H w v S' H' → Q v H'
/-- frozen; to be looked at; new and not frozen yet -/
def pRep : Sn → Hp → W → V → Sn → Hp → Prop := fun _ _ w v S' _ => RepS Γ S' w v
def RepX (S : Sn) (H : Hp) (w : W) (v : V) : Prop :=
  RepS Γ S w v ∨ ∃ xs a vs, w = .lst xs ∧ v = .ref a ∧ S.off a ∧ H a = some (.lst vs) ∧ RepsS Γ S xs vs
def pRepX : Sn → Hp → W → V → Sn → Hp → Prop := fun _ _ w v S' H' => RepX Γ S' H' w v
def pNew : Sn → Hp → W → V → Sn → Hp → Prop := fun _ H w v S' H' => ∃ xs a vs, w = .lst xs ∧ v = .ref a ∧ H a = none ∧ H' a = some (.lst vs) ∧ S'.F a = none ∧ S'.off a ∧ RepsS Γ S' xs vs
def pEq {α : Type} : Sn → Hp → α → α → Sn → Hp → Prop := fun _ _ a b _ _ => a = b
/-- a test's result -/
def pB : Sn → Hp → W → Bool → Sn → Hp → Prop := fun _ _ w b _ _ => w = .bl b
def pReps : Sn → Hp → List W → List V → Sn → Hp → Prop := fun _ _ ws vs S' _ => RepsS Γ S' ws vs
def pRepsX : Sn → Hp → List W → List V → Sn → Hp → Prop := fun _ _ ws vs S' H' => Paired (fun w v => RepX Γ S' H' w v) ws vs
end

theorem PE.mono {X : Cx} {e : Expr} {t t' : TE} (h : PE X e t) (hm : ∀ σ H Q, t' σ H Q → t σ H Q) : PE X e t' := ⟨fun pins s σ H Q I hw => h.run pins s σ H Q I (hm _ _ _ hw)⟩
theorem PT.mono {X : Cx} {e : Expr} {t t' : TT} (h : PT X e t) (hm : ∀ σ H Q, t' σ H Q → t σ H Q) : PT X e t' := ⟨fun pins s σ H Q I hw => h.run pins s σ H Q I (hm _ _ _ hw)⟩
theorem PW.mono {X : Cx} {e : Expr} {t t' : TT} (h : PW X e t) (hm : ∀ σ H Q, t' σ H Q → t σ H Q) : PW X e t' := ⟨fun wh pins s σ H Q I hw => h.run wh pins s σ H Q I (hm _ _ _ hw)⟩
theorem PA.mono {X : Cx} {es : List Expr} {t t' : TA} (h : PA X es t) (hm : ∀ σ H Q, t' σ H Q → t σ H Q) : PA X es t' := ⟨fun pos pins s σ H Q I hw => h.run pos pins s σ H Q I (hm _ _ _ hw)⟩
theorem PS.mono {X : Cx} {st : Stmt} {t t' : TS} (h : PS X st t) (hm : ∀ D σ H, t' D σ H → t D σ H) : PS X st t' := ⟨fun pins s σ H D I hw => h.run pins s σ H D I (hm _ _ _ hw)⟩
theorem PSs.mono {X : Cx} {st : List Stmt} {t t' : TS} (h : PSs X st t) (hm : ∀ D σ H, t' D σ H → t D σ H) : PSs X st t' := ⟨fun pins s σ H D I hw => h.run pins s σ H D I (hm _ _ _ hw)⟩

section
variable {Γ : Ctx} {en : En} {S S1 : Sn} {H H1 : Hp} {env : LI.Env} {σ : L2.St} {Wx : WX}
/-- an exception's dict is off the cells -/
theorem HR.offXd (hr : HR Γ S H) {a : Addr} {fs : List (Str × V)} (h : H a = some (.xd fs)) : S.off a := fun n l e => by
  obtain ⟨c, ec, lc⟩ := l
  have := hr.cel n c ec
  cases c with
  | lst xs => obtain ⟨_, vs, h2, _⟩ := this; rw [e, h] at h2; cases h2
  | dK xs => obtain ⟨_, vs, h2, _⟩ := this; rw [e, h] at h2; cases h2
  | dT xs => obtain ⟨_, vs, h2, _⟩ := this; rw [e, h] at h2; cases h2
  | obj c ks fs => obtain ⟨_, dx, vs, h2, _⟩ := this; rw [e, h] at h2; cases h2
  | dead => cases lc
theorem XR.mono {x : Xn} {cls : Value} {d : Option Addr} (h : XR Γ S H x cls d) (hr : HR Γ S H) (fr : Fr S H S1 H1) : XR Γ S1 H1 x cls d :=
  ⟨h.cls, h.len, h.none, fun z => by
    obtain ⟨dd, vs, h1, h2, h3⟩ := h.some z
    exact ⟨dd, vs, h1, fr.keep _ _ h2 (hr.offXd h2), fr.reps h3⟩⟩
theorem Own.mono {a : Addr} {o : HO} (h : Own S en a) (fr : Fr S H S1 H1) (ha : H a = some o) : Own S1 en a :=
  ⟨fr.own a o ha h.1 h.2.2, h.2.1, fr.off ha h.2.2⟩
theorem SlR1.mono {s : Sl} {o : Option V} (h : SlR1 Γ en S H s o) (hr : HR Γ S H) (fr : Fr S H S1 H1) : SlR1 Γ en S1 H1 s o := by
  cases s with
  | un => exact h
  | v w => obtain ⟨v, e, r⟩ := h; exact ⟨v, e, fr.rep r⟩
  | own xs => obtain ⟨a, vs, e, ow, ha, r⟩ := h; exact ⟨a, vs, e, ow.mono fr ha, fr.keep _ _ ha ow.2.2, fr.reps r⟩
  | self c ks fs => obtain ⟨e, ow, dx, vs, ha, r, l⟩ := h; exact ⟨e, ow.mono fr ha, dx, vs, fr.keep _ _ ha ow.2.2, fr.reps r, l⟩
  | exn c ks fs => obtain ⟨a, cls, d, e1, e2, x⟩ := h; exact ⟨a, cls, d, e1, e2, x.mono hr fr⟩
theorem one_set {i : Nat} {s : Sl} (h : ∀ (i : Nat) (c : Nat) (ks : List Nat) (fs : List W), env[i]? = some (.self c ks fs) → i = 0) (hs : ∀ c ks fs, s = .self c ks fs → i = 0) : ∀ (j : Nat) (c : Nat) (ks : List Nat) (fs : List W), (env.set i s)[j]? = some (.self c ks fs) → j = 0 := fun j c ks fs e => by
  by_cases q : i = j
  · subst q
    have h1 : i < env.length := by have := (List.getElem?_eq_some_iff.mp e).1; rwa [List.length_set] at this
    rw [List.getElem?_set_self h1] at e
    exact hs c ks fs (Option.some.inj e)
  · rw [List.getElem?_set_ne q] at e
    exact h j c ks fs e
theorem SlR.mono (h : SlR Γ en S H env σ) (hr : HR Γ S H) (fr : Fr S H S1 H1) : SlR Γ en S1 H1 env σ :=
  ⟨h.len, fun i s o e1 e2 => (h.at_ i s o e1 e2).mono hr fr, h.dis, h.one⟩

/-! ### results -/
variable {α β : Type}
theorem RP.shift {r : R α} {k : α → Sn → Hp → Prop} (h : RP Γ Wx σ S H r k) (fr : Fr S H S1 H1) : RP Γ Wx σ S1 H1 r k := by
  cases r with
  | ok a s => exact fun S' H' e f hr => h S' H' e (fr.trans f) hr
  | ex x s => exact fun S' H' cls d e f hr => h S' H' cls d e (fr.trans f) hr
  | no => exact h
theorem RP.seq {r : R α} {f : α → Sto → R β} {k : β → Sn → Hp → Prop} (h : RP Γ Wx σ S H (r.bind f) k) :
    RP Γ Wx σ S H r fun a S' H' => RP Γ Wx σ S' H' (f a S'.S) k := by
  cases r with
  | ok a s => exact fun S' H' e fr hr => by subst e; exact RP.shift (r := f a S'.S) h fr
  | ex x s => exact h
  | no => exact h
theorem RP.mono {r : R α} {k k' : α → Sn → Hp → Prop} (h : RP Γ Wx σ S H r k) (hk : ∀ a S' H', Fr S H S' H' → HR Γ S' H' → k a S' H' → k' a S' H') : RP Γ Wx σ S H r k' := by
  cases r with
  | ok a s => exact fun S' H' e fr hr => hk a S' H' fr hr (h S' H' e fr hr)
  | ex x s => exact h
  | no => exact h
theorem RP.done {a : α} {k : α → Sn → Hp → Prop} (h : RP Γ Wx σ S H (.ok a S.S) k) (hr : HR Γ S H) : k a S H := h S H rfl Fr.refl hr
/-- the result is there: a new state -/
theorem RP.at_ {a : α} {s : Sto} {k : α → Sn → Hp → Prop} (h : RP Γ Wx σ S H (.ok a s) k) (e : S1.S = s) (fr : Fr S H S1 H1) (hr : HR Γ S1 H1) : k a S1 H1 := h S1 H1 e fr hr
theorem RP.retO {o : Option α} {k : α → Sn → Hp → Prop} (h : RP Γ Wx σ S H (LI.retO o S.S) k) (hr : HR Γ S H) : ∃ a, o = some a ∧ k a S H := by
  cases o with
  | none => exact (show False from h).elim
  | some a => exact ⟨a, rfl, RP.done h hr⟩

/-! ### looking at values -/
theorem RepX.of {w : W} {v : V} (h : RepS Γ S w v) : RepX Γ S H w v := .inl h
theorem drf_lst {s : Sto} {w : W} {xs : List W} (h : drf s w = .lst xs) : w = .lst xs ∨ ∃ n, w = .cell n ∧ s[n]? = some (.lst xs) := by
  unfold drf at h
  split at h
  · split at h
    · rename_i n _ xs' e
      cases h
      exact .inr ⟨n, rfl, e⟩
    · cases h
  · exact .inl h
theorem drf_tup {s : Sto} {w : W} {xs : List W} (h : drf s w = .tup xs) : w = .tup xs := by
  unfold drf at h
  split at h
  · split at h <;> cases h
  · exact h
theorem lst_view {w : W} {v : V} {xs : List W} (hr : HR Γ S H) (r : RepX Γ S H w v) (h : drf S.S w = .lst xs) : ∃ a vs, v = .ref a ∧ H a = some (.lst vs) ∧ RepsS Γ S xs vs := by
  rcases drf_lst h with e | ⟨n, e, en⟩
  · subst e
    rcases r with ⟨a, vs, e, h1, h2⟩ | ⟨xs', a, vs, e0, e, _, h1, h2⟩
    · exact ⟨a, vs, e, hr.sub _ _ h1, h2⟩
    · cases e0; exact ⟨a, vs, e, h1, h2⟩
  · subst e
    rcases r with ⟨_, e⟩ | ⟨xs', a, vs, e0, _⟩
    · obtain ⟨_, vs, h1, h2⟩ := hr.cel n _ en
      exact ⟨_, vs, e, h1, h2⟩
    · cases e0
theorem tup_view {w : W} {v : V} {xs : List W} (hr : HR Γ S H) (r : RepX Γ S H w v) (h : drf S.S w = .tup xs) : ∃ a vs, v = .ref a ∧ SqT Γ.K H a vs ∧ RepsS Γ S xs vs := by
  have e := drf_tup h
  subst e
  rcases r with ⟨a, vs, e, h1, h2⟩ | ⟨xs', a, vs, e0, _⟩
  · exact ⟨a, vs, e, hr.sub.sqt h1.1, h2⟩
  · cases e0
theorem seqOf_drf {s : Sto} {w : W} {xs : List W} (h : seqOf s w = some xs) : drf s w = .lst xs ∨ drf s w = .tup xs := by
  cases w with
  | lst ys => cases h; exact .inl rfl
  | tup ys => cases h; exact .inr rfl
  | cell n =>
    have h' : (match s[n]? with | some (Cl.lst xs) => some xs | _ => none) = some xs := h
    left
    show (match s[n]? with | some (Cl.lst xs) => W.lst xs | _ => W.cell n) = W.lst xs
    split at h'
    · rename_i e
      cases h'
      rfl
    · cases h'
  | _ => cases h
theorem lstOf_drf {s : Sto} {w : W} {xs : List W} (h : lstOf s w = some xs) : drf s w = .lst xs := by
  cases w with
  | lst ys => cases h; exact rfl
  | cell n =>
    have h' : (match s[n]? with | some (Cl.lst xs) => some xs | _ => none) = some xs := h
    show (match s[n]? with | some (Cl.lst xs) => W.lst xs | _ => W.cell n) = W.lst xs
    split at h'
    · rename_i e
      cases h'
      rfl
    · cases h'
  | _ => cases h
theorem seq_view {w : W} {v : V} {xs : List W} (hr : HR Γ S H) (r : RepX Γ S H w v) (h : seqOf S.S w = some xs) : ∃ a vs, v = .ref a ∧ (SqL Γ.K H a vs ∨ SqT Γ.K H a vs) ∧ RepsS Γ S xs vs := by
  rcases seqOf_drf h with e | e
  · obtain ⟨a, vs, e, h1, h2⟩ := lst_view hr r e
    exact ⟨a, vs, e, .inl (SqL.of h1), h2⟩
  · obtain ⟨a, vs, e, h1, h2⟩ := tup_view hr r e
    exact ⟨a, vs, e, .inr h1, h2⟩
/-- flat values -/
theorem RepX.int {i : Int} {v : V} (r : RepX Γ S H (.int i) v) : v = .int i := by
  rcases r with r | ⟨_, _, _, e, _⟩
  · exact r
  · cases e
theorem RepX.bl {b : Bool} {v : V} (r : RepX Γ S H (.bl b) v) : v = .bl b := by
  rcases r with r | ⟨_, _, _, e, _⟩
  · exact r
  · cases e
theorem RepX.str {x : Str} {v : V} (r : RepX Γ S H (.str x) v) : v = .str x := by
  rcases r with r | ⟨_, _, _, e, _⟩
  · exact r
  · cases e
theorem RepX.non {v : V} (r : RepX Γ S H .non v) : v = .non := by
  rcases r with r | ⟨_, _, _, e, _⟩
  · exact r
  · cases e
theorem RepX.rep {w : W} {v : V} (r : RepX Γ S H w v) (h : ∀ xs, w ≠ .lst xs) : RepS Γ S w v := by
  rcases r with r | ⟨xs, _, _, e, _⟩
  · exact r
  · exact absurd e (h xs)
/-- RepX moves on -/
theorem RepX.mono {w : W} {v : V} (r : RepX Γ S H w v) (fr : Fr S H S1 H1) : RepX Γ S1 H1 w v := by
  rcases r with r | ⟨xs, a, vs, e1, e2, ho, h1, h2⟩
  · exact .inl (fr.rep r)
  · exact .inr ⟨xs, a, vs, e1, e2, fr.off h1 ho, fr.keep _ _ h1 ho, fr.reps h2⟩

/-! ### from one reading to another -/
theorem tR_imp {rd : Sto → R α} {P P' : Sn → Hp → α → β → Sn → Hp → Prop} {Q : β → Hp → Prop} (h : tR Γ Wx en env rd P σ H Q) (hp : ∀ S S' H' a v, HR Γ S H → Fr S H S' H' → HR Γ S' H' → P' S H a v S' H' → P S H a v S' H') : tR Γ Wx en env rd P' σ H Q := by
  obtain ⟨S, hr, sl, h⟩ := h
  exact ⟨S, hr, sl, h.mono fun a S' H' fr hr' k v p => k v (hp S S' H' a v hr fr hr' p)⟩
/-- a new list may be taken as a frozen one -/
theorem pNew_rep {rd : Sto → R W} {Q : V → Hp → Prop} (h : tR Γ Wx en env rd (pRep Γ) σ H Q) : tR Γ Wx en env rd (pNew Γ) σ H Q := by
  obtain ⟨S, hr, sl, h⟩ := h
  refine ⟨S, hr, sl, ?_⟩
  cases e : rd S.S with
  | no => rw [e] at h; exact h
  | ex x s => rw [e] at h; exact h
  | ok w s =>
    rw [e] at h
    rintro S' H' e1 fr hr' v ⟨xs, a, vs, rfl, rfl, hn, ha, hf, ho, rs⟩
    have fz := hr'.freeze ha hf ho
    have nh : ∀ u, H u ≠ none → u ≠ a := fun u hu z => by subst z; exact hu hn
    have fr2 : Fr S H (S'.frz a (.lst vs)) H' := {
      f := fr.f.trans (Sub.new hf)
      n := fr.n
      φ := fr.φ
      keep := fr.keep
      own := fun u o hu hf' hof => by
        show upd S'.F a (.lst vs) u = none
        rw [upd_ne (nh u (by rw [hu]; simp))]
        exact fr.own u o hu hf' hof
      new := fr.new
      live := fr.live
      there := fr.there }
    refine h (S'.frz a (.lst vs)) H' e1 fr2 fz _ ⟨a, vs, rfl, upd_same, Reps.mono (Sub.new hf) (Nat.le_refl _) (fun _ _ => rfl) _ _ rs⟩
theorem pRep_repX {rd : Sto → R W} {Q : V → Hp → Prop} (h : tR Γ Wx en env rd (pRepX Γ) σ H Q) : tR Γ Wx en env rd (pRep Γ) σ H Q :=
  tR_imp h fun _ _ _ _ _ _ _ _ p => .inl p
end

/-! ### the context of a piece of code -/
structure XC (Γ : Ctx) (Wx : WX) (N : List Str) (sc : Scope) (k : Nat) (X : Cx) : Prop where
  eP : X.prog = Γ.P
  ew : X.w = Γ.w
  eK : X.K = Γ.K
  eM : X.mg = Γ.mg
  eB : X.base = Γ.base
  eN : X.N = N
  eS : X.env.scope = sc
  nd : N.Nodup
  tk : Takes X Wx
  un : X.A.units + 200 < cLine
  rm : X.calm = true → Room k X.A
end LI
end
section
set_option Elab.async false
set_option linter.all false
set_option maxRecDepth 100000
set_option maxHeartbeats 4000000
/-! LiEnT: enumerate over a tuple. -/
namespace PySem
open Sem (wp)
open AutoSeq1 (wpAny_loadPart')
theorem meets_enumerate_newT (l : Addr) (items : Array Value) (n : Nat) (dct : Option Addr) (sl : Array (Option Value)) :
    Meets (Builtin.«enumerate.__new__» ⟨[.type "enumerate", .ref l], []⟩) (fun _ R s => s.heap.get? l = some { cls := .type "tuple", dict := dct, data := .seq items n, slots := sl } ∧
      R (.ok (.ret (.ref (s.heap.push { cls := .type "tuple_iterator", data := .fields #[.ref l, .int 0 0] }).objs.size)))
        { s with heap := (s.heap.push { cls := .type "tuple_iterator", data := .fields #[.ref l, .int 0 0] }).push { cls := .type "enumerate", data := .fields #[.none, .bool false, .ref s.heap.objs.size, rawInt 0, .none, .none] } }) :=
  .of_wp fun prog w A R s h => by
    obtain ⟨hp, g, d, tk, os⟩ := s; obtain ⟨hl, h⟩ := h
    have hsub := sub_enumerate
    have hL : Heap.IsTuple (Shared.heap ⟨hp, g, d, tk, os⟩) l items := ⟨_, hl, rfl, n, rfl⟩
    wp_walk using wpAny_loadPart' hl
    refine wpAny_stack_any fun st => wpAny_pure ?_
    split
    · rename_i c _ _ _ _ _
      cases (c == Value.type "enumerate")
      · wp_walk using wpAny_loadPart' hl, wpAny_pyIter_tuple hL
        exact ⟨_, rfl, h⟩
      · wp_walk using wpAny_loadPart' hl, wpAny_pyIter_tuple hL
        exact ⟨_, rfl, h⟩
    · wp_walk using wpAny_loadPart' hl, wpAny_pyIter_tuple hL
      exact ⟨_, rfl, h⟩
section
variable {prog : Program} {w : World} {A : Around} {E : Value → Shared → Prop} {s : Shared}
theorem call_enumerate_tuple {l : Addr} {items : Array Value} {Q : Value → Shared → Prop} (hL : s.heap.IsTuple l items)
    (h : ∀ h', IsEnum h' (s.heap.objs.size + 1) s.heap.objs.size 0 .none → h'.IsTupleIter s.heap.objs.size l 0 → h'.objs.size = s.heap.objs.size + 2 →
      (∀ b o, s.heap.get? b = some o → h'.get? b = some o) → Q (.ref (s.heap.objs.size + 1)) { s with heap := h' }) :
    wpAny (model prog w) A (call (.type "enumerate") [.ref l]) Q E s := by
  obtain ⟨⟨c, dct, dt, sl⟩, hl, hc, n, hd⟩ := hL
  replace hc : c = .type "tuple" := hc
  replace hd : dt = .seq items n := hd
  subst hc hd
  refine callType_new F.called_enumerate (by decide) (F.typeCall_enumerate_1 _) (F.newCall_enumerate_1 _) (fun obj => F.args_object_init_2 obj _) F.entry_enumerate_new
    (meets_enumerate_newT l items n dct sl) ⟨hl, ?_⟩
  have hz : (s.heap.push { cls := .type "tuple_iterator", data := .fields #[.ref l, .int 0 0] }).objs.size = s.heap.objs.size + 1 := Heap.size_push ..
  show _ ∧ _
  rw [hz]
  have he : IsEnum ((s.heap.push { cls := .type "tuple_iterator", data := .fields #[.ref l, .int 0 0] }).push
      { cls := .type "enumerate", data := .fields #[.none, .bool false, .ref s.heap.objs.size, rawInt 0, .none, .none] }) (s.heap.objs.size + 1) s.heap.objs.size 0 .none := by
    have := Heap.get?_push_size (s.heap.push { cls := .type "tuple_iterator", data := .fields #[.ref l, .int 0 0] })
      (o := { cls := .type "enumerate", data := .fields #[.none, .bool false, .ref s.heap.objs.size, rawInt 0, .none, .none] }) rfl
    rw [hz] at this; exact this
  refine ⟨⟨_, he, rfl⟩, h _ he ⟨_, Heap.get?_push_of_some _ (Heap.get?_push_size _ rfl), rfl, rfl⟩ (by rw [Heap.size_push, hz]) fun b o x => Heap.get?_push_of_some _ (Heap.get?_push_of_some _ x)⟩
end
end PySem
namespace LI
open PySem PySem.Spec PyProof.Rows L2
def IteT (K : PySem.W.Frag) (a : Addr) : L2.It :=
  ⟨fun i H => ∃ (xs : List V) (x : V), SqT K H a xs ∧ xs[i]? = some x, fun i H v H' => ∃ T x, v = .ref T ∧ H T = none ∧ H' = upd H T (.tup [.int (i : Nat), x]) ∧ ∀ xs, SqT K H a xs → xs[i]? = some x, fun i H => ∃ xs : List V, SqT K H a xs ∧ xs.length ≤ i⟩
theorem turn_enumT {P : Program} {w : World} {K : PySem.W.Frag} {elts : List Expr} {kk : Nat} {tpos : Pos} (a e it : Addr) :
    Turn P w K (.Tuple elts kk tpos) (IteT K a) [e, it] e (fun i h => (∃ old, IsEnum h e it ((i : Nat) : Int) old) ∧ h.IsTupleIter it a i ∧ e ≠ it ∧ a ≠ it ∧ e ≠ a) where
  mem := by simp
  obj := fun i h st b hb => by
    obtain ⟨⟨old, he⟩, ⟨o, ho, hc, hd⟩, _⟩ := st
    have e' : b = e ∨ b = it := by simpa using hb
    rcases e' with z | z
    · rw [z]; exact ⟨_, he, fun v q => nomatch q⟩
    · rw [z]; exact ⟨o, ho, fun v q => by rw [hd] at q; cases q⟩
  keep := fun i h h' st k => let ⟨⟨old, he⟩, hi, hne⟩ := st; ⟨⟨old, k e (by simp) _ he⟩, hi.at fun o q => k it (by simp) o q, hne⟩
  item := by
    intro X hP hw hK hc i pins s σ H E I hf st hg
    subst hP hw hK
    obtain ⟨⟨old, he⟩, hit, hne, hai, hea⟩ := st
    obtain ⟨xs, x, hq, hx⟩ := hg
    obtain ⟨its, rv, p, hz⟩ := I.tuple hq
    obtain ⟨u, hu, ru⟩ := rv.get hx
    have hel : e < s.heap.objs.size := Heap.lt_size he
    have hil : it < s.heap.objs.size := by obtain ⟨_, q, _⟩ := hit; exact Heap.lt_size q
    have hil2 : i < its.length := (List.getElem?_eq_some_iff.mp hu).1
    refine wpAny_pyNext_enum_itemD (n := its.toArray.size) (Draws.tuple (A := X.A.in1) (I.ok.hd hc) it a hai its.toArray) he ⟨hit, p⟩ (by simpa using hil2) hne (by simp [hne, hea]) fun x2 h' tk hP ho hst' hT hsz hk => ?_
    have hxu : x2 = u := by
      have e1 : its[i]? = some x2 := by simpa using hP
      rw [hu] at e1
      cases e1
      rfl
    subst hxu
    refine ⟨_, rfl, wpAny_letOwnedTupleGo_enum (s := { s with heap := h', toks := tk + 1 }) ho fun h'' he' sb => ?_⟩
    have hT2 : h''.get? s.heap.objs.size = some { cls := .type "tuple", data := .seq #[.int i tk, x2] } := (sb.2 _ (Nat.ne_of_gt hel)).trans hT
    have new : ObjOk X.prog X.w (upd H s.heap.objs.size (.tup [.int (i : Nat), x])) h'' s.heap.objs.size (.tup [.int (i : Nat), x]) :=
      ⟨by show 2 ≤ sizeLine; decide, [.int i tk, x2], .cons ⟨_, rfl⟩ (.cons ru .nil), ⟨_, hT2, rfl, _, rfl⟩⟩
    have I1 : Inv X pins σ (upd H s.heap.objs.size (.tup [.int (i : Nat), x])) { s with heap := h'', toks := tk + 1 } :=
      I.turnedNew (ch := [e, it]) (fun b ob hb q => (sb.2 b (fun z => hb (by simp [z]))).trans (hk b ob (fun z => hb (by simp [z])) (fun z => hb (by simp [z])) q)) hf (Nat.le_refl _) new
    refine ⟨.ref s.heap.objs.size, _, I1, rfl, ⟨_, x, rfl, I.hok.fresh (Nat.le_refl _), rfl, fun ys hy => by rw [I.tuple_inj hy hq]; exact hx⟩, ⟨⟨x2, ?_⟩, hst'.1.at fun o q => (sb.2 it (Ne.symm hne)).trans q, hne, hai, hea⟩, fun b hb => ?_⟩
    · have e1 : ((i + 1 : Nat) : Int) = (i : Int) + 1 := by omega
      rw [e1]; exact he'
    · have hb' : b < s.heap.objs.size := by
        have e' : b = e ∨ b = it := by simpa using hb
        rcases e' with z | z
        · rw [z]; exact hel
        · rw [z]; exact hil
      rw [upd_ne (Nat.ne_of_lt hb')]
      exact (hf b hb).1
  done := by
    intro X hP hw hK hc i pins s σ H E I hf st hg
    subst hP hw hK
    obtain ⟨⟨old, he⟩, hit, hne, hai, hea⟩ := st
    obtain ⟨xs, hq, hx⟩ := hg
    obtain ⟨its, rv, p, hz⟩ := I.tuple hq
    obtain ⟨f0, f1, f2, f3, f4, f5⟩ := hf it (by simp)
    have hl := rv.length
    have hi2 : its.toArray[i]? = none := by simp; omega
    have D : Draws X.prog X.w X.A.in1 it [it, a] i (fun _ _ => False) (fun j h => h.IsTupleIter it a j ∧ h.IsTuple a its.toArray ∧ i ≤ j) :=
      { live := fun _ _ st => let ⟨o, ho, _⟩ := st.1; ⟨o, ho⟩
        frame := fun _ _ _ st hk => ⟨st.1.at fun o e => hk it (by simp) o e, st.2.1.at fun o e => hk a (by simp) o e, st.2.2⟩
        item := fun j s Q E hj st hQ => absurd hj (by have := st.2.2; omega)
        done := fun s Q E st hE => wpAny_nextOf_tuple_end (I.ok.hd hc) st.1 st.2.1 hi2 hE }
    exact wpAny_pyNext_enum_endD D he ⟨hit, p, Nat.le_refl _⟩ fun h' eb => ⟨rfl, I.turned (t' := s.toks) (fun b o hb q => eb b o hb q) f0 f1 f3 f4 f5⟩
  self := fun A i s Q E st h => let ⟨⟨_, he⟩, _⟩ := st; wpAny_pyIter_enum he h
/-- enumerate over a list or a tuple -/
def iEnumB (K : PySem.W.Frag) (ta : TA) : TI := fun σ H R => ta σ H fun vs H1 => ∃ a, vs = [.ref a] ∧ ((∃ xs, SqL K H1 a xs ∧ R (Ite K a) H1) ∨ ∃ xs, SqT K H1 a xs ∧ R (IteT K a) H1)
theorem pi_enumB {X : Cx} {e : Expr} {ta : TA} {p pos tpos : Pos} {elts : List Expr} {kk : Nat} (hg : Gl X "enumerate") (hm : X.mg "enumerate" = none) (ha : PA X [e] ta) (hs : starEach [e] X.env = [(false, eval e X.env)] := by rfl) :
    PI X (.Tuple elts kk tpos) (.Call (.Name "enumerate" p) [e] [] pos) (iEnumB X.K ta) := by
  refine ⟨fun pins s σ H R I h => ?_⟩
  refine Call_ (ld_blt I hg hm boot_enumerate (PyProof.Rows.callWith_type1 (thn (ha.run pos pins s σ H _ I h) fun us s1 ⟨vs, H1, I1, r1, q1⟩ => ?_) hs rfl))
  obtain ⟨a, ex, hq⟩ := q1
  subst ex
  cases r1 with
  | cons r rr =>
    cases rr
    cases r
    rcases hq with ⟨xs, hq, q⟩ | ⟨xs, hq, q⟩
    · obtain ⟨its, rv, p', hz⟩ := I1.list hq
      refine call_enumerate_list p'.isList fun h' he hit hsz hk => wpAny_pyIter_enum he ?_
      have I2 : Inv X pins σ H1 { s1 with heap := h' } := I1.kept (t' := s1.toks) hk
      refine ⟨s1.heap.objs.size + 1, [s1.heap.objs.size + 1, s1.heap.objs.size], _, _, H1, rfl, I2, turn_enum a (s1.heap.objs.size + 1) s1.heap.objs.size, ⟨⟨.none, he⟩, hit, Nat.succ_ne_self _⟩, fun b hb => ?_, q⟩
      have e' : b = s1.heap.objs.size + 1 ∨ b = s1.heap.objs.size := by simpa using hb
      have hle : s1.heap.objs.size ≤ b := by
        rcases e' with z | z
        · rw [z]; exact Nat.le_add_right _ _
        · rw [z]; exact Nat.le_refl _
      exact I1.fpOk hle (I1.hok.fresh hle)
    · obtain ⟨its, rv, p', hz⟩ := I1.tuple hq
      have hal : a < s1.heap.objs.size := by obtain ⟨_, q, _⟩ := p'; exact Heap.lt_size q
      refine call_enumerate_tuple p' fun h' he hit hsz hk => wpAny_pyIter_enum he ?_
      have I2 : Inv X pins σ H1 { s1 with heap := h' } := I1.kept (t' := s1.toks) hk
      refine ⟨s1.heap.objs.size + 1, [s1.heap.objs.size + 1, s1.heap.objs.size], _, _, H1, rfl, I2, turn_enumT a (s1.heap.objs.size + 1) s1.heap.objs.size, ⟨⟨.none, he⟩, hit, Nat.succ_ne_self _, Nat.ne_of_lt hal, Ne.symm (Nat.ne_of_lt (Nat.lt_succ_of_lt hal))⟩, fun b hb => ?_, q⟩
      have e' : b = s1.heap.objs.size + 1 ∨ b = s1.heap.objs.size := by simpa using hb
      have hle : s1.heap.objs.size ≤ b := by
        rcases e' with z | z
        · rw [z]; exact Nat.le_add_right _ _
        · rw [z]; exact Nat.le_refl _
      exact I1.fpOk hle (I1.hok.fresh hle)
end LI
end
section
set_option Elab.async false
set_option linter.all false
set_option maxRecDepth 100000
set_option maxHeartbeats 4000000
/-! LiOps: expressions of the small language, one construct after another. -/
namespace LI
open PySem PySem.Spec PyProof.Rows L2

/-! ### data -/
mutual
def toD : W → PyData
  | .bl b => .bool b
  | .int i => .int i
  | .str s => .str s
  | .lst xs => .list (toDs xs)
  | .tup xs => .tuple (toDs xs)
  | _ => .none
def toDs : List W → List PyData
  | [] => []
  | x :: xs => toD x :: toDs xs
end
theorem toDs_map : ∀ xs : List W, toDs xs = xs.map toD
  | [] => rfl
  | x :: xs => by rw [toDs, toDs_map xs]; rfl
theorem strOk_of {s : Str} (h : s.cps.all (fun c => decide (c < 128)) = true) : PyData.strOk s = true := by
  unfold PyData.strOk
  rw [Array.all_eq_true] at h ⊢
  intro i hi
  have := of_decide_eq_true (h i hi)
  exact decide_eq_true (by omega)
mutual
theorem data_lay : ∀ (n : Nat) (w : W), dataW n w = true → (toD w).canLay0 = true ∧ (toD w).depth ≤ n
  | 0, w, h => by cases w <;> simp [dataW] at h
  | n + 1, w, h => by
    cases w with
    | non => exact ⟨rfl, by simp [toD, PyData.depth]⟩
    | bl b => exact ⟨rfl, by simp [toD, PyData.depth]⟩
    | int i => exact ⟨rfl, by simp [toD, PyData.depth]⟩
    | str s =>
      simp only [dataW, Bool.and_eq_true] at h
      refine ⟨?_, by simp [toD, PyData.depth]⟩
      simp only [toD, PyData.canLay0]
      exact strOk_of h.2
    | lst xs =>
      simp only [dataW] at h
      obtain ⟨h1, h2⟩ := datas_lay n xs h
      exact ⟨by simpa [toD, PyData.canLay0] using h1, by simp only [toD, PyData.depth]; omega⟩
    | tup xs =>
      simp only [dataW] at h
      obtain ⟨h1, h2⟩ := datas_lay n xs h
      exact ⟨by simpa [toD, PyData.canLay0] using h1, by simp only [toD, PyData.depth]; omega⟩
    | _ => simp [dataW] at h
theorem datas_lay : ∀ (n : Nat) (xs : List W), datas n xs = true → PyData.canLayAll0 (toDs xs) = true ∧ PyData.depthAll (toDs xs) ≤ n
  | n, [], _ => ⟨by simp [toDs, PyData.canLayAll0], by simp [toDs, PyData.depthAll]⟩
  | n, x :: xs, h => by
    simp only [datas, Bool.and_eq_true] at h
    obtain ⟨h1, h2⟩ := data_lay n x h.1
    obtain ⟨h3, h4⟩ := datas_lay n xs h.2
    exact ⟨by simp [toDs, PyData.canLayAll0, h1, h3], by simp only [toDs, PyData.depthAll]; omega⟩
end
theorem shaped_of {w : W} (h : dataW 20 w = true) : SeqAt.shaped (toD w) = true := by
  obtain ⟨h1, h2⟩ := data_lay 20 w h
  show ((toD w).canLay0 && decide ((toD w).depth ≤ 64)) = true
  rw [h1, decide_eq_true (by omega)]
  rfl
theorem eqF_toD {v w : W} (hv : ∀ n, dataW n v = true → True) : True := trivial
mutual
theorem eqW_toD : ∀ (n m : Nat) (v w : W), dataW n v = true → dataW m w = true → eqW v w = PyData.eqv (toD v) (toD w)
  | 0, _, v, _, h, _ => by cases v <;> simp [dataW] at h
  | _, 0, _, w, _, h => by cases w <;> simp [dataW] at h
  | n + 1, m + 1, .lst xs, w, hv, hw => by
    cases w with
    | lst ys =>
      simp only [dataW] at hv hw
      simp only [eqW, toD, PyData.eqv]
      exact eqWs_toD n m xs ys hv hw
    | _ => first | (simp [dataW] at hw; done) | simp [eqW, toD, PyData.eqv]
  | n + 1, m + 1, .tup xs, w, hv, hw => by
    cases w with
    | tup ys =>
      simp only [dataW] at hv hw
      simp only [eqW, toD, PyData.eqv]
      exact eqWs_toD n m xs ys hv hw
    | _ => first | (simp [dataW] at hw; done) | simp [eqW, toD, PyData.eqv]
  | n + 1, m + 1, .non, w, hv, hw => by cases w <;> first | (simp [dataW] at hw; done) | simp [eqW, eqF, toD, PyData.eqv]
  | n + 1, m + 1, .bl b, w, hv, hw => by cases w <;> first | (simp [dataW] at hw; done) | simp [eqW, eqF, toD, PyData.eqv]
  | n + 1, m + 1, .int b, w, hv, hw => by cases w <;> first | (simp [dataW] at hw; done) | simp [eqW, eqF, toD, PyData.eqv]
  | n + 1, m + 1, .str b, w, hv, hw => by cases w <;> first | simp [eqW, eqF, toD, PyData.eqv] | (simp [dataW] at hw; done)
  | n + 1, m + 1, .scr b, w, hv, hw => by simp [dataW] at hv
  | n + 1, m + 1, .obj _ _ _, w, hv, hw => by simp [dataW] at hv
  | n + 1, m + 1, .dct _ _, w, hv, hw => by simp [dataW] at hv
  | n + 1, m + 1, .cls _, w, hv, hw => by simp [dataW] at hv
  | n + 1, m + 1, .ty _, w, hv, hw => by simp [dataW] at hv
  | n + 1, m + 1, .cell _, w, hv, hw => by simp [dataW] at hv
theorem eqWs_toD : ∀ (n m : Nat) (xs ys : List W), datas n xs = true → datas m ys = true → eqWs xs ys = PyData.eqvAll (toDs xs) (toDs ys)
  | _, _, [], [], _, _ => by simp [eqWs, toDs, PyData.eqvAll]
  | _, _, [], y :: ys, _, _ => by simp [eqWs, toDs, PyData.eqvAll]
  | _, _, x :: xs, [], _, _ => by simp [eqWs, toDs, PyData.eqvAll]
  | n, m, x :: xs, y :: ys, hx, hy => by
    simp only [datas, Bool.and_eq_true] at hx hy
    simp only [eqWs, toDs, PyData.eqvAll]
    rw [eqW_toD n m x y hx.1 hy.1, eqWs_toD n m xs ys hx.2 hy.2]
end
section
variable {Γ : Ctx} {S : Sn} {H : Hp}
mutual
theorem data_dp (hr : HR Γ S H) : ∀ (n : Nat) (w : W) (v : V), dataW n w = true → RepS Γ S w v → Dp Γ.K H v (toD w)
  | 0, w, v, h, _ => by cases w <;> simp [dataW] at h
  | n + 1, .non, v, h, r => by cases (show v = .non from r); exact .non
  | n + 1, .bl b, v, h, r => by cases (show v = .bl b from r); exact .bl b
  | n + 1, .int b, v, h, r => by cases (show v = .int b from r); exact .int b
  | n + 1, .str b, v, h, r => by cases (show v = .str b from r); exact .str b
  | n + 1, .lst xs, v, h, ⟨a, vs, e, h1, h2⟩ => by
    subst e
    simp only [dataW] at h
    simp only [toD]
    exact .lst (SqL.of (hr.sub _ _ h1)) (datas_dp hr n xs vs h h2)
  | n + 1, .tup xs, v, h, ⟨a, vs, e, h1, h2⟩ => by
    subst e
    simp only [dataW] at h
    simp only [toD]
    exact .tup (hr.sub.sqt h1.1) (datas_dp hr n xs vs h h2)
  | n + 1, .scr b, v, h, _ => by simp [dataW] at h
  | n + 1, .obj _ _ _, v, h, _ => by simp [dataW] at h
  | n + 1, .dct _ _, v, h, _ => by simp [dataW] at h
  | n + 1, .cls _, v, h, _ => by simp [dataW] at h
  | n + 1, .ty _, v, h, _ => by simp [dataW] at h
  | n + 1, .cell _, v, h, _ => by simp [dataW] at h
theorem datas_dp (hr : HR Γ S H) : ∀ (n : Nat) (xs : List W) (vs : List V), datas n xs = true → RepsS Γ S xs vs → DpAll Γ.K H vs (toDs xs)
  | n, [], vs, h, r => by cases (show vs = [] from r); simp only [toDs]; exact .nil
  | n, x :: xs, vs, h, ⟨v, r, e, h1, h2⟩ => by
    subst e
    simp only [datas, Bool.and_eq_true] at h
    simp only [toDs]
    exact .cons (data_dp hr n x v h.1 h1) (datas_dp hr n xs r h.2 h2)
end
/-- at the top a list of the name's own, or a cell's -/
theorem data_dpX (hr : HR Γ S H) {w : W} {v : V} (r : RepX Γ S H w v) (h : dataW 20 (drf S.S w) = true) : Dp Γ.K H v (toD (drf S.S w)) := by
  cases e : drf S.S w with
  | lst xs =>
    rw [e] at h
    obtain ⟨a, vs, ev, h1, h2⟩ := lst_view hr r e
    subst ev
    simp only [dataW] at h
    simp only [toD]
    exact .lst (SqL.of h1) (datas_dp hr 19 xs vs h h2)
  | tup xs =>
    rw [e] at h
    obtain ⟨a, vs, ev, h1, h2⟩ := tup_view hr r e
    subst ev
    simp only [dataW] at h
    simp only [toD]
    exact .tup h1 (datas_dp hr 19 xs vs h h2)
  | _ =>
    have e' : w = drf S.S w := by
      unfold drf at e ⊢
      split
      · split
        · rename_i q
          simp only [q] at e
          cases e
        · rfl
      · rfl
    have hne : ∀ xs, w ≠ .lst xs := fun xs z => by rw [← e', z] at e; cases e
    have q := r.rep hne
    rw [← e'] at h
    rw [← e, ← e']
    exact data_dp hr 20 w v h q
end

/-! ### flat values -/
theorem flat_rel {Γ : Ctx} {S : Sn} {w : W} {v : V} (r : RepS Γ S w v) (h : flatW w = true) : flatV v = true := by
  cases w with
  | non => cases (show v = .non from r); rfl
  | bl b => cases (show v = .bl b from r); rfl
  | int b => cases (show v = .int b from r); rfl
  | str b => cases (show v = .str b from r); rfl
  | _ => cases h
theorem flats_rel {Γ : Ctx} {S : Sn} : ∀ {ws : List W} {vs : List V}, RepsS Γ S ws vs → ws.all flatW = true → vs.all flatV = true
  | [], _, r, _ => by cases (show _ = [] from r); rfl
  | w :: ws, _, ⟨v, vs, e, h1, h2⟩, h => by
    subst e
    rw [List.all_cons, Bool.and_eq_true] at h ⊢
    exact ⟨flat_rel h1 h.1, flats_rel h2 h.2⟩
theorem eqF_eqV {Γ : Ctx} {S : Sn} {a b : W} {x y : V} (ra : RepS Γ S a x) (rb : RepS Γ S b y) (ha : flatW a = true) (hb : flatW b = true) : eqV x y = eqF a b := by
  cases a <;> first | (cases ha; done) | skip
  all_goals (cases b <;> first | (cases hb; done) | skip)
  all_goals (first | (cases (show x = .non from ra)) | (cases (show x = .bl _ from ra)) | (cases (show x = .int _ from ra)) | (cases (show x = .str _ from ra)))
  all_goals (first | (cases (show y = .non from rb)) | (cases (show y = .bl _ from rb)) | (cases (show y = .int _ from rb)) | (cases (show y = .str _ from rb)))
  all_goals rfl
theorem inV_eq {Γ : Ctx} {S : Sn} {a : W} {x : V} (ra : RepS Γ S a x) (ha : flatW a = true) : ∀ {ws : List W} {vs : List V}, RepsS Γ S ws vs → ws.all flatW = true → inV x vs = ws.any fun y => eqF y a
  | [], _, r, _ => by cases (show _ = [] from r); rfl
  | w :: ws, _, ⟨v, vs, e, h1, h2⟩, h => by
    subst e
    rw [List.all_cons, Bool.and_eq_true] at h
    have ih := inV_eq ra ha h2 h.2
    unfold inV at ih ⊢
    rw [List.any_cons, List.any_cons, ih, eqF_eqV h1 ra h.1 ha]
/-- scalars -/
theorem scal_rel {Γ : Ctx} {S : Sn} {a b : W} {x y : V} (ra : RepS Γ S a x) (rb : RepS Γ S b y) (h : scal a b = true) : L2.scal x y = true ∧ decide (x = y) = eqF a b := by
  cases a <;> first | (cases b <;> cases h; done) | skip
  all_goals (cases b <;> first | (cases h; done) | skip)
  all_goals (first | (cases (show x = .non from ra)) | (cases (show x = .bl _ from ra)) | (cases (show x = .int _ from ra)) | (cases (show x = .str _ from ra)))
  all_goals (first | (cases (show y = .non from rb)) | (cases (show y = .bl _ from rb)) | (cases (show y = .int _ from rb)) | (cases (show y = .str _ from rb)))
  all_goals (refine ⟨rfl, ?_⟩)
  all_goals first | rfl | (simp [eqF]; done) | (first | exact dec_int | exact dec_bl | exact dec_str)
theorem scal_notLst {a b : W} (h : scal a b = true) : (∀ xs, a ≠ .lst xs) ∧ ∀ xs, b ≠ .lst xs := by
  constructor <;> intro xs e <;> subst e
  · cases b <;> cases h
  · cases a <;> cases h
end LI
end
section
set_option Elab.async false
set_option linter.all false
set_option maxRecDepth 100000
set_option maxHeartbeats 4000000
/-! LiEx1: names, constants, operators. -/
namespace LI
open PySem PySem.Spec PyProof.Rows L2

section
variable {Γ : Ctx} {en : En} {S S1 S2 : Sn} {H H1 H2 : Hp} {env : LI.Env} {σ : L2.St} {Wx : WX}
theorem Fr.none {p : Addr} (fr : Fr S H S1 H1) (h : H1 p = none) : H p = none := by
  cases e : H p with
  | none => rfl
  | some o =>
    obtain ⟨o', q⟩ := fr.there p o e
    rw [q] at h; cases h
/-- a result: a list is new, all else is frozen -/
def pN (Γ : Ctx) : Sn → Hp → W → V → Sn → Hp → Prop := fun S H w v S' H' => pNew Γ S H w v S' H' ∨ ((∀ xs, w ≠ .lst xs) ∧ RepS Γ S' w v)
theorem frz_new {S' : Sn} {H' : Hp} {a : Addr} {vs : List V} (fr : Fr S H S' H') (hn : H a = none) (hf : S'.F a = none) : Fr S H (S'.frz a (.lst vs)) H' where
  f := fr.f.trans (Sub.new hf)
  n := fr.n
  φ := fr.φ
  keep := fr.keep
  own := fun u o hu hf' hof => by
    show upd S'.F a (.lst vs) u = none
    have hne : u ≠ a := fun z => by subst z; rw [hn] at hu; cases hu
    rw [upd_ne hne]
    exact fr.own u o hu hf' hof
  new := fr.new
  live := fr.live
  there := fr.there
theorem pN_rep {rd : Sto → R W} {Q : V → Hp → Prop} (h : tR Γ Wx en env rd (pRep Γ) σ H Q) : tR Γ Wx en env rd (pN Γ) σ H Q := by
  obtain ⟨S, hr, sl, h⟩ := h
  refine ⟨S, hr, sl, ?_⟩
  cases e : rd S.S with
  | no => rw [e] at h; exact h
  | ex x s => rw [e] at h; exact h
  | ok w s =>
    rw [e] at h
    rintro S' H' e1 fr hr' v (⟨xs, a, vs, rfl, rfl, hn, ha, hf, ho, rs⟩ | ⟨_, r⟩)
    · exact h (S'.frz a (.lst vs)) H' e1 (frz_new fr hn hf) (hr'.freeze ha hf ho) _ ⟨a, vs, rfl, upd_same, Reps.mono (Sub.new hf) (Nat.le_refl _) (fun _ _ => rfl) _ _ rs⟩
    · exact h S' H' e1 fr hr' v r
/-- a new list at hand -/
theorem pN_lst {H0 : Hp} {S0 : Sn} {p : Addr} {xs : List W} {vs : List V} (fr : Fr S0 H0 S H) (hr : HR Γ S H) (hp : H p = none) (rs : RepsS Γ S xs vs) : pN Γ S0 H0 (.lst xs) (.ref p) S (upd H p (.lst vs)) :=
  .inl ⟨xs, p, vs, rfl, rfl, fr.none hp, upd_same, hr.sub.none hp, hr.offN hp, rs⟩
/-- the end of an operation that lays a new list -/
theorem lay_lst {H0 : Hp} {S0 : Sn} {xs : List W} {vs : List V} {Q : V → Hp → Prop} (fr : Fr S0 H0 S H) (hr : HR Γ S H) (rs : RepsS Γ S xs vs)
    (h : RP Γ Wx σ S H (.ok (.lst xs) S.S) fun w S' H' => ∀ v, pN Γ S0 H0 w v S' H' → Q v H') : ∀ p, H p = none → Q (.ref p) (upd H p (.lst vs)) := fun p hp =>
  h S (upd H p (.lst vs)) rfl (hr.frNewO hp) (hr.newO hp) _ (.inl ⟨xs, p, vs, rfl, rfl, fr.none hp, upd_same, hr.sub.none hp, hr.offN hp, rs⟩)
/-- .. a new tuple -/
theorem lay_tup {H0 : Hp} {S0 : Sn} {xs : List W} {vs : List V} {Q : V → Hp → Prop} (hr : HR Γ S H) (rs : RepsS Γ S xs vs)
    (h : RP Γ Wx σ S H (.ok (.tup xs) S.S) fun w S' H' => ∀ v, pN Γ S0 H0 w v S' H' → Q v H') : ∀ p, H p = none → Q (.ref p) (upd H p (.tup vs)) := fun p hp => by
  have fr1 := hr.frNewF (o := .tup vs) hp
  refine h (S.frz p (.tup vs)) (upd H p (.tup vs)) rfl fr1 (hr.newF hp) _ (.inr ⟨fun _ z => (by cases z), p, vs, rfl, ⟨.inl (.inl upd_same), .inl upd_same⟩, fr1.reps rs⟩)
/-- .. a value that is no list -/
theorem give {H0 : Hp} {S0 : Sn} {w : W} {v : V} {Q : V → Hp → Prop} (hr : HR Γ S H) (hw : ∀ xs, w ≠ .lst xs) (r : RepS Γ S w v)
    (h : RP Γ Wx σ S H (.ok w S.S) fun w S' H' => ∀ v, pN Γ S0 H0 w v S' H' → Q v H') : Q v H := (RP.done h hr) v (.inr ⟨hw, r⟩)

theorem giveI {H0 : Hp} {S0 : Sn} {i : Int} {Q : V → Hp → Prop} (hr : HR Γ S H) (h : RP Γ Wx σ S H (.ok (.int i) S.S) fun w S' H' => ∀ v, pN Γ S0 H0 w v S' H' → Q v H') : Q (.int i) H :=
  give (w := .int i) hr (fun _ z => by cases z) (show V.int i = V.int i from rfl) h
theorem giveS {H0 : Hp} {S0 : Sn} {i : Str} {Q : V → Hp → Prop} (hr : HR Γ S H) (h : RP Γ Wx σ S H (.ok (.str i) S.S) fun w S' H' => ∀ v, pN Γ S0 H0 w v S' H' → Q v H') : Q (.str i) H :=
  give (w := .str i) hr (fun _ z => by cases z) (show V.str i = V.str i from rfl) h
theorem giveB {H0 : Hp} {S0 : Sn} {i : Bool} {Q : V → Hp → Prop} (hr : HR Γ S H) (h : RP Γ Wx σ S H (.ok (.bl i) S.S) fun w S' H' => ∀ v, pN Γ S0 H0 w v S' H' → Q v H') : Q (.bl i) H :=
  give (w := .bl i) hr (fun _ z => by cases z) (show V.bl i = V.bl i from rfl) h

/-! ### names, constants -/
variable {N : List Str} {sc : Scope} {k : Nat} {X : Cx}
theorem SlR.slot {i : Nat} {s : Sl} (sl : SlR Γ en S H env σ) (e : env[i]? = some s) : ∃ o, σ[i]? = some o ∧ SlR1 Γ en S H s o := by
  have hi : i < σ.length := by rw [← sl.len]; exact (List.getElem?_eq_some_iff.mp e).1
  exact ⟨σ[i], by simp [hi], sl.at_ i s _ e (by simp [hi])⟩
theorem se_var {i : Nat} {x : Str} {pos : Pos} (C : XC Γ Wx N sc k X) (hN : N[i]? = some x) (hv : Vis sc x) (hd : (x == ("__debug__" : Str)) = false) (hcd : (x == ("__classdict__" : Str)) = false) :
    PE X (.Name x pos) (tR Γ Wx en env (vVar env i) (pRep Γ)) := by
  refine PE.mono (pe_var (i := i) (by rw [C.eN]; exact hN) (by rw [C.eS]; exact hv) hd hcd) ?_
  rintro σ H Q ⟨S, hr, sl, h⟩
  unfold vVar at h
  split at h
  · rename_i w e
    obtain ⟨o, eo, v, ev, r⟩ := sl.slot e
    subst ev
    exact ⟨v, eo, RP.done h hr v r⟩
  · exact h.elim
theorem se_own {i : Nat} {x : Str} {pos : Pos} (C : XC Γ Wx N sc k X) (hN : N[i]? = some x) (hv : Vis sc x) (hd : (x == ("__debug__" : Str)) = false) (hcd : (x == ("__classdict__" : Str)) = false) :
    PE X (.Name x pos) (tR Γ Wx en env (vOwn env i) (pRepX Γ)) := by
  refine PE.mono (pe_var (i := i) (by rw [C.eN]; exact hN) (by rw [C.eS]; exact hv) hd hcd) ?_
  rintro σ H Q ⟨S, hr, sl, h⟩
  unfold vOwn at h
  split at h
  · rename_i xs e
    obtain ⟨o, eo, a, vs, ev, ow, ha, rs⟩ := sl.slot e
    subst ev
    exact ⟨_, eo, RP.done h hr _ (.inr ⟨xs, a, vs, rfl, rfl, ow.2.2, ha, rs⟩)⟩
  · exact h.elim
theorem se_const {e : Expr} {w : W} {v : V} (h : PE X e (tC v)) (hr : ∀ F φ n, Rep Γ F φ n w v) : PE X e (tR Γ Wx en env (fun s => .ok w s) (pRep Γ)) := by
  refine PE.mono h ?_
  rintro σ H Q ⟨S, hr0, sl, h⟩
  exact RP.done h hr0 v (hr _ _ _)

/-! ### two operands -/
variable {ea eb : Expr} {pos : Pos} {ra rb : Sto → R W}
/-- the common step of an operation on two values -/
theorem se_two {op : R2} {rd : W → W → Sto → R W} {P : Sn → Hp → W → V → Sn → Hp → Prop} {e : Expr} (he : ∀ {ta tb : TE}, PE X ea ta → PE X eb tb → PE X e (tOp op ta tb))
    (ha : PE X ea (tR Γ Wx en env ra (pRepX Γ))) (hb : PE X eb (tR Γ Wx en env rb (pRepX Γ)))
    (hop : ∀ (S0 S : Sn) (H0 H : Hp) (σ : L2.St) (x y : W) (v u : V) (Q : VK), Fr S0 H0 S H → HR Γ S H → RepX Γ S H x v → RepX Γ S H y u → RP Γ Wx σ S H (rd x y S.S) (fun w S' H' => ∀ v, P S0 H0 w v S' H' → Q v H') → op v u H Q) :
    PE X e (tR Γ Wx en env (fun s => (ra s).bind fun x s1 => (rb s1).bind fun y s2 => rd x y s2) P) := by
  refine PE.mono (he ha hb) ?_
  rintro σ H Q ⟨S, hr, sl, h⟩
  refine ⟨S, hr, sl, RP.mono h.seq fun x S1 H1 fr1 hr1 h1 v r1 => ⟨S1, hr1, sl.mono hr fr1, RP.mono h1.seq fun y S2 H2 fr2 hr2 h2 u r2 => ?_⟩⟩
  exact hop S S2 H H2 σ x y v u Q (fr1.trans fr2) hr2 (r1.mono fr2) r2 h2
theorem drf_int {s : Sto} {w : W} {i : Int} (h : drf s w = .int i) : w = .int i := by
  unfold drf at h
  split at h
  · split at h <;> cases h
  · exact h
theorem drf_str {s : Sto} {w : W} {i : Str} (h : drf s w = .str i) : w = .str i := by
  unfold drf at h
  split at h
  · split at h <;> cases h
  · exact h
theorem okN_le {n : Nat} (h : okN n = true) : n ≤ sizeLine := by rw [sizeLine_eq]; exact of_decide_eq_true h

def rAddAll (K : PySem.W.Frag) : R2 := fun x y H Q => (rI0 (fun i j => .int (i + j)) x y H Q ∨ ∃ i j, x = .str i ∧ y = .str j ∧ i.length + j.length ≤ sizeLine ∧ Q (.str (i ++ j)) H) ∨ (rCat x y H Q ∨ rCatA K x y H Q)
theorem opAddAll : OpR X (binaryOp .Add) (rAddAll X.K) := (op_add.or op_add_str).or (op_cat.or op_catA)
theorem bin_add {S0 S : Sn} {H0 H : Hp} {σ : L2.St} {x y : W} {v u : V} {Q : VK} (fr : Fr S0 H0 S H) (hr : HR Γ S H) (rx : RepX Γ S H x v) (ry : RepX Γ S H y u)
    (h : RP Γ Wx σ S H (evAdd (drf S.S x) (drf S.S y) S.S) (fun w S' H' => ∀ v, pN Γ S0 H0 w v S' H' → Q v H')) : rAddAll Γ.K v u H Q := by
  generalize ex : drf S.S x = x' at h
  generalize ey : drf S.S y = y' at h
  unfold evAdd at h
  split at h
  · rename_i i j
    have e1 := drf_int ex; have e2 := drf_int ey
    subst e1 e2
    exact .inl (.inl ⟨i, j, rx.int, ry.int, giveI hr h⟩)
  · rename_i xs ys
    split at h
    · rename_i hn
      obtain ⟨a, vs, rfl, h1, r1⟩ := lst_view hr rx ex
      obtain ⟨b, us, rfl, h2, r2⟩ := lst_view hr ry ey
      exact .inr (.inl ⟨a, b, vs, us, rfl, rfl, h1, h2, by rw [r1.length, r2.length]; exact okN_le hn, lay_lst fr hr (r1.append r2) h⟩)
    · exact h.elim
  · rename_i xs ys
    split at h
    · rename_i hn
      obtain ⟨a, vs, rfl, h1, r1⟩ := tup_view hr rx ex
      obtain ⟨b, us, rfl, h2, r2⟩ := tup_view hr ry ey
      have e1 := drf_tup ex; have e2 := drf_tup ey
      subst e1 e2
      refine .inr (.inr ⟨a, b, vs, us, rfl, rfl, h1, h2, by rw [r1.length, r2.length]; exact okN_le hn, fun z => ?_, fun _ z => ?_, fun _ _ => lay_tup hr (r1.append r2) h⟩)
      · subst z
        have : xs = [] := List.length_eq_zero_iff.mp (by rw [← r1.length]; rfl)
        subst this
        exact give hr (fun _ z => by cases z) (ry.rep fun _ z => by cases z) h
      · subst z
        have : ys = [] := List.length_eq_zero_iff.mp (by rw [← r2.length]; rfl)
        subst this
        rw [List.append_nil] at h
        exact give hr (fun _ z => by cases z) (rx.rep fun _ z => by cases z) h
    · exact h.elim
  · rename_i xs ys
    split at h
    · rename_i hn
      have e1 := drf_str ex; have e2 := drf_str ey
      subst e1 e2
      exact .inl (.inr ⟨xs, ys, rx.str, ry.str, okN_le hn, giveS hr h⟩)
    · exact h.elim
  · exact h.elim
theorem bin_sub {S0 S : Sn} {H0 H : Hp} {σ : L2.St} {x y : W} {v u : V} {Q : VK} (fr : Fr S0 H0 S H) (hr : HR Γ S H) (rx : RepX Γ S H x v) (ry : RepX Γ S H y u)
    (h : RP Γ Wx σ S H (evSub (drf S.S x) (drf S.S y) S.S) (fun w S' H' => ∀ v, pN Γ S0 H0 w v S' H' → Q v H')) : rI0 (fun i j => .int (i - j)) v u H Q := by
  generalize ex : drf S.S x = x' at h
  generalize ey : drf S.S y = y' at h
  unfold evSub at h
  split at h
  · rename_i i j
    have e1 := drf_int ex; have e2 := drf_int ey
    subst e1 e2
    exact ⟨i, j, rx.int, ry.int, giveI hr h⟩
  · exact h.elim
theorem mulOk_c {i j : Int} (h : mulOk i j = true) : CMul i j := by
  unfold mulOk at h
  simp only [Bool.or_eq_true, Bool.and_eq_true, decide_eq_true_eq] at h
  exact h
def rRepS : R2 := fun x y H Q => ∃ (z : Str) (k : Int), x = .str z ∧ y = .int k ∧ -(2 ^ 62) < k ∧ k < 2 ^ 62 ∧ z.length * k.toNat ≤ 16777216 ∧ Q (.str (strRep z k.toNat)) H
theorem rep_nil : ∀ k : Nat, (List.replicate k (#[] : Array Nat)).foldl (· ++ ·) #[] = #[]
  | 0 => rfl
  | k + 1 => by
    rw [List.replicate_succ, List.foldl_cons]
    exact rep_nil k
theorem rep_size {a : Array Nat} : ∀ (k : Nat) (acc : Array Nat), ((List.replicate k a).foldl (· ++ ·) acc).size = acc.size + k * a.size
  | 0, acc => by simp
  | k + 1, acc => by
    rw [List.replicate_succ, List.foldl_cons, rep_size k, Array.size_append, Nat.succ_mul]
    omega
theorem op_repS {X : Cx} : OpR X (binaryOp .Mult) rRepS := by
  intro pins s σ H x y v u Q I rx ry h
  obtain ⟨z, k, rfl, rfl, h1, h2, hz, q⟩ := h
  obtain ⟨t, rfl⟩ := rx
  obtain ⟨t2, rfl⟩ := ry
  have fin : ∀ (z' : Str) (tk : Nat) (t3 : Tok), z' = strRep z k.toNat → EP X pins σ Q (.str z' t3) { s with toks := tk } := by
    intro z' tk t3 e
    subst e
    exact ⟨.str (strRep z k.toNat), H, I.tok _, ⟨_, rfl⟩, q⟩
  refine PySem.P.mul_str ?_ ?_ ?_ ?_
  · rw [decide_eq_false (by omega), decide_eq_false (by omega)]; rfl
  · intro h3 h4 h5
    obtain ⟨n, rfl⟩ : ∃ n : Nat, k = (n : Int) := ⟨k.toNat, by omega⟩
    rw [Int.toNat_natCast] at hz
    have : (z.length : Int) ≤ (2 ^ 63 - 1) / (n : Int) := by
      refine Int.le_ediv_of_mul_le (by omega) ?_
      have : ((z.length * n : Nat) : Int) ≤ 16777216 := Int.ofNat_le.mpr hz
      rw [Int.natCast_mul] at this
      omega
    omega
  · intro h3 h4
    unfold Builtin.Str.tooLong
    rw [decide_eq_false]
    rw [sizeLine_eq]
    omega
  · by_cases h3 : k < 1
    · rw [if_pos h3]
      refine ⟨by decide, fin _ _ _ ?_⟩
      have : k.toNat = 0 := by omega
      rw [this]; rfl
    · rw [if_neg h3]
      by_cases h4 : (k == 1 || z.length == 0) = true
      · rw [if_pos h4]
        have := fin z s.toks t ?_
        · exact this
        · rw [Bool.or_eq_true, beq_iff_eq, beq_iff_eq] at h4
          obtain ⟨cps⟩ := z
          rcases h4 with h4 | h4
          · subst h4
            show Str.mk cps = ⟨#[] ++ cps⟩
            simp
          · have e : cps = #[] := Array.eq_empty_of_size_eq_zero h4
            subst e
            show Str.mk #[] = ⟨_⟩
            rw [rep_nil]
      · rw [if_neg h4]
        refine ⟨?_, fin _ _ _ rfl⟩
        show (List.foldl (· ++ ·) #[] (List.replicate k.toNat z.cps)).size ≤ sizeLine
        rw [rep_size, sizeLine_eq]
        have : k.toNat * z.cps.size = z.length * k.toNat := Nat.mul_comm _ _
        simp only [Array.size_empty, Nat.zero_add]
        omega
def rMulAll : R2 := fun x y H Q => rI CMul (fun i j => .int (i * j)) x y H Q ∨ (rRep x y H Q ∨ rRepS x y H Q)
theorem opMulAll : OpR X (binaryOp .Mult) rMulAll := op_mul.or (op_rep.or op_repS)
theorem bin_mul {S0 S : Sn} {H0 H : Hp} {σ : L2.St} {x y : W} {v u : V} {Q : VK} (fr : Fr S0 H0 S H) (hr : HR Γ S H) (rx : RepX Γ S H x v) (ry : RepX Γ S H y u)
    (h : RP Γ Wx σ S H (evMul (drf S.S x) (drf S.S y) S.S) (fun w S' H' => ∀ v, pN Γ S0 H0 w v S' H' → Q v H')) : rMulAll v u H Q := by
  generalize ex : drf S.S x = x' at h
  generalize ey : drf S.S y = y' at h
  unfold evMul at h
  split at h
  · rename_i i j
    split at h
    · rename_i hm
      have e1 := drf_int ex; have e2 := drf_int ey
      subst e1 e2
      exact .inl ⟨i, j, rx.int, ry.int, mulOk_c hm, giveI hr h⟩
    · exact h.elim
  · rename_i xs j
    split at h
    · rename_i hm
      have e2 := drf_int ey
      subst e2
      obtain ⟨a, vs, rfl, h1, r1⟩ := lst_view hr rx ex
      exact .inr (.inl ⟨a, j, vs, rfl, ry.int, h1, by omega, by omega, by rw [r1.length]; exact okN_le hm.2.2, lay_lst fr hr (r1.rep _) h⟩)
    · exact h.elim
  · rename_i z j
    split at h
    · rename_i hm
      have e1 := drf_str ex; have e2 := drf_int ey
      subst e1 e2
      exact .inr (.inr ⟨z, j, rx.str, ry.int, by omega, by omega, okN_le hm.2, giveS hr h⟩)
    · exact h.elim
  · exact h.elim
theorem bin_fdiv {S0 S : Sn} {H0 H : Hp} {σ : L2.St} {x y : W} {v u : V} {Q : VK} (fr : Fr S0 H0 S H) (hr : HR Γ S H) (rx : RepX Γ S H x v) (ry : RepX Γ S H y u)
    (h : RP Γ Wx σ S H (evFdiv (drf S.S x) (drf S.S y) S.S) (fun w S' H' => ∀ v, pN Γ S0 H0 w v S' H' → Q v H')) : rI CDiv (fun i j => .int (i / j)) v u H Q := by
  generalize ex : drf S.S x = x' at h
  generalize ey : drf S.S y = y' at h
  unfold evFdiv at h
  split at h
  · rename_i i j
    split at h
    · rename_i hm
      have e1 := drf_int ex; have e2 := drf_int ey
      subst e1 e2
      exact ⟨i, j, rx.int, ry.int, hm, giveI hr h⟩
    · exact h.elim
  · exact h.elim
theorem bin_mod {S0 S : Sn} {H0 H : Hp} {σ : L2.St} {x y : W} {v u : V} {Q : VK} (fr : Fr S0 H0 S H) (hr : HR Γ S H) (rx : RepX Γ S H x v) (ry : RepX Γ S H y u)
    (h : RP Γ Wx σ S H (evMod (drf S.S x) (drf S.S y) S.S) (fun w S' H' => ∀ v, pN Γ S0 H0 w v S' H' → Q v H')) : rI (fun _ j => 0 < j) (fun i j => .int (i % j)) v u H Q := by
  generalize ex : drf S.S x = x' at h
  generalize ey : drf S.S y = y' at h
  unfold evMod at h
  split at h
  · rename_i i j
    split at h
    · rename_i hm
      have e1 := drf_int ex; have e2 := drf_int ey
      subst e1 e2
      exact ⟨i, j, rx.int, ry.int, hm, giveI hr h⟩
    · exact h.elim
  · exact h.elim
theorem bin_pow {S0 S : Sn} {H0 H : Hp} {σ : L2.St} {x y : W} {v u : V} {Q : VK} (fr : Fr S0 H0 S H) (hr : HR Γ S H) (rx : RepX Γ S H x v) (ry : RepX Γ S H y u)
    (h : RP Γ Wx σ S H (evPow (drf S.S x) (drf S.S y) S.S) (fun w S' H' => ∀ v, pN Γ S0 H0 w v S' H' → Q v H')) : rI CPow (fun i j => .int (i ^ j.toNat)) v u H Q := by
  generalize ex : drf S.S x = x' at h
  generalize ey : drf S.S y = y' at h
  unfold evPow at h
  split at h
  · rename_i i j
    split at h
    · rename_i hm
      have e1 := drf_int ex; have e2 := drf_int ey
      subst e1 e2
      exact ⟨i, j, rx.int, ry.int, hm, giveI hr h⟩
    · exact h.elim
  · exact h.elim
def opA : BO → Operator
  | .add => .Add | .sub => .Sub | .mul => .Mult | .fdiv => .FloorDiv | .mod => .Mod | .pow => .Pow
theorem se_bin {op : BO} (C : XC Γ Wx N sc k X) (ha : PE X ea (tR Γ Wx en env ra (pRepX Γ))) (hb : PE X eb (tR Γ Wx en env rb (pRepX Γ))) :
    PE X (.BinOp ea (opA op) eb pos) (tR Γ Wx en env (fun s => (ra s).bind fun x s1 => (rb s1).bind fun y s2 => evBin op (drf s2 x) (drf s2 y) s2) (pN Γ)) := by
  cases op with
  | add => exact se_two (op := rAddAll Γ.K) (rd := fun x y s => evBin .add (drf s x) (drf s y) s) (fun h1 h2 => by have := pe_op (opAddAll (X := X)) h1 h2 (pos := pos); rw [C.eK] at this; exact this) ha hb fun _ _ _ _ _ _ _ _ _ _ fr hr rx ry h => bin_add fr hr rx ry h
  | sub => exact se_two (rd := fun x y s => evBin .sub (drf s x) (drf s y) s) (fun h1 h2 => pe_op op_sub h1 h2) ha hb fun _ _ _ _ _ _ _ _ _ _ fr hr rx ry h => bin_sub fr hr rx ry h
  | mul => exact se_two (rd := fun x y s => evBin .mul (drf s x) (drf s y) s) (fun h1 h2 => pe_op opMulAll h1 h2) ha hb fun _ _ _ _ _ _ _ _ _ _ fr hr rx ry h => bin_mul fr hr rx ry h
  | fdiv => exact se_two (rd := fun x y s => evBin .fdiv (drf s x) (drf s y) s) (fun h1 h2 => pe_op op_fdiv h1 h2) ha hb fun _ _ _ _ _ _ _ _ _ _ fr hr rx ry h => bin_fdiv fr hr rx ry h
  | mod => exact se_two (rd := fun x y s => evBin .mod (drf s x) (drf s y) s) (fun h1 h2 => pe_op op_mod h1 h2) ha hb fun _ _ _ _ _ _ _ _ _ _ fr hr rx ry h => bin_mod fr hr rx ry h
  | pow => exact se_two (rd := fun x y s => evBin .pow (drf s x) (drf s y) s) (fun h1 h2 => pe_op op_pow h1 h2) ha hb fun _ _ _ _ _ _ _ _ _ _ fr hr rx ry h => bin_pow fr hr rx ry h
theorem se_neg (ha : PE X ea (tR Γ Wx en env ra (pRepX Γ))) :
    PE X (.UnaryOp .USub ea pos) (tR Γ Wx en env (fun s => (ra s).bind negI) (pRep Γ)) := by
  refine PE.mono (pe_un un_neg ha) ?_
  rintro σ H Q ⟨S, hr, sl, h⟩
  refine ⟨S, hr, sl, RP.mono h.seq fun x S1 H1 fr1 hr1 h1 v r1 => ?_⟩
  unfold negI at h1
  split at h1
  · rename_i i
    exact ⟨i, r1.int, RP.done h1 hr1 _ rfl⟩
  · exact h1.elim

/-! ### comparisons -/
def opC : CO → CmpOp
  | .eq => .Eq | .ne => .NotEq | .lt => .Lt | .le => .LtE | .gt => .Gt | .ge => .GtE | .isin => .In | .notin => .NotIn
/-- what a comparison by values asks, whatever the operator -/
def rCmp (Γ : Ctx) (op : CO) : R2 := fun x y H Q => ∃ S a b k, HR Γ S H ∧ RepX Γ S H a x ∧ RepX Γ S H b y ∧ evCmp op a b S.S = some k ∧ Q (.bl k) H
theorem OpR.imp {f : Value → Value → Sem Value} {r r' : R2} (h : OpR X f r) (hi : ∀ x y H Q, r' x y H Q → r x y H Q) : OpR X f r' := fun pins s σ H x y v u Q I rx ry q => h pins s σ H x y v u Q I rx ry (hi _ _ _ _ q)
theorem notLst_drf {s : Sto} {w : W} (h1 : ∀ xs, w ≠ .lst xs) : True := trivial
theorem cmp_eq {x y : V} {a b : W} {H : Hp} {S : Sn} {kk : Bool} {Q : VK} (hr : HR Γ S H) (ra : RepX Γ S H a x) (rb : RepX Γ S H b y) (h : evEq a b S.S = some kk) (q : Q (.bl kk) H) : rEq x y H Q ∨ rEqD Γ.K x y H Q := by
  unfold evEq at h
  split at h
  · rename_i hs
    cases h
    obtain ⟨n1, n2⟩ := scal_notLst hs
    obtain ⟨e1, e2⟩ := scal_rel (ra.rep n1) (rb.rep n2) hs
    exact .inl ⟨e1, by rw [e2]; exact q⟩
  · split at h
    · rename_i hd
      cases h
      rw [Bool.and_eq_true] at hd
      exact .inr ⟨_, _, data_dpX hr ra hd.1, data_dpX hr rb hd.2, shaped_of hd.1, shaped_of hd.2, by rw [← eqW_toD 20 20 _ _ hd.1 hd.2]; exact q⟩
    · cases h
theorem cmp_ne {x y : V} {a b : W} {H : Hp} {S : Sn} {kk : Bool} {Q : VK} (hr : HR Γ S H) (ra : RepX Γ S H a x) (rb : RepX Γ S H b y) (h : evEq a b S.S = some kk) (q : Q (.bl (!kk)) H) : rNe x y H Q ∨ rNeD Γ.K x y H Q := by
  unfold evEq at h
  split at h
  · rename_i hs
    cases h
    obtain ⟨n1, n2⟩ := scal_notLst hs
    obtain ⟨e1, e2⟩ := scal_rel (ra.rep n1) (rb.rep n2) hs
    exact .inl ⟨e1, by rw [e2]; exact q⟩
  · split at h
    · rename_i hd
      cases h
      rw [Bool.and_eq_true] at hd
      exact .inr ⟨_, _, data_dpX hr ra hd.1, data_dpX hr rb hd.2, shaped_of hd.1, shaped_of hd.2, by rw [← eqW_toD 20 20 _ _ hd.1 hd.2]; exact q⟩
    · cases h
theorem toDs_any (a : W) (ha : dataW 20 a = true) : ∀ (n : Nat) (xs : List W), datas n xs = true → ((toDs xs).any fun z => PyData.eqv z (toD a)) = xs.any fun y => eqW y a
  | _, [], _ => by simp [toDs]
  | n, x :: xs, h => by
    simp only [datas, Bool.and_eq_true] at h
    rw [toDs, List.any_cons, List.any_cons, toDs_any a ha n xs h.2, eqW_toD n 20 x a h.1 ha]
theorem datas_data {n : Nat} {xs : List W} (h : datas n xs = true) : dataW (n + 1) (.lst xs) = true := by simp only [dataW]; exact h
def rInT (K : PySem.W.Frag) : R2 := fun x y H Q => ∃ d ds, Dp K H x d ∧ Dp K H y (.tuple ds) ∧ SeqAt.shaped d = true ∧ SeqAt.shaped (.tuple ds) = true ∧ Q (.bl (ds.any fun z => PyData.eqv z d)) H
def rNotInT (K : PySem.W.Frag) : R2 := fun x y H Q => ∃ d ds, Dp K H x d ∧ Dp K H y (.tuple ds) ∧ SeqAt.shaped d = true ∧ SeqAt.shaped (.tuple ds) = true ∧ Q (.bl (!ds.any fun z => PyData.eqv z d)) H
theorem op_inT (hu : X.A.units + 65 < cLine) : OpR X (compareOp .In) (rInT X.K) := by
  intro pins s σ H x y v u Q I rx ry h
  obtain ⟨d, ds, hd, he, sd, se, q⟩ := h
  obtain ⟨as, r1⟩ := Dp.reads I d x v hd rx
  obtain ⟨bs, r2⟩ := Dp.reads I (.tuple ds) y u he ry
  have hdep : d.depth ≤ 64 := of_decide_eq_true (Bool.and_eq_true_iff.mp sd).2
  exact SeqAt.in_tuple_reads r2 r1 (Bool.and_eq_true_iff.mp se).1 (Bool.and_eq_true_iff.mp sd).1 (by omega) ⟨.bl _, H, I, rfl, q⟩
theorem op_notInT (hu : X.A.units + 65 < cLine) : OpR X (compareOp .NotIn) (rNotInT X.K) := by
  intro pins s σ H x y v u Q I rx ry h
  obtain ⟨d, ds, hd, he, sd, se, q⟩ := h
  obtain ⟨as, r1⟩ := Dp.reads I d x v hd rx
  obtain ⟨bs, r2⟩ := Dp.reads I (.tuple ds) y u he ry
  have hdep : d.depth ≤ 64 := of_decide_eq_true (Bool.and_eq_true_iff.mp sd).2
  exact SeqAt.notIn_tuple_reads r2 r1 (Bool.and_eq_true_iff.mp se).1 (Bool.and_eq_true_iff.mp sd).1 (by omega) ⟨.bl _, H, I, rfl, q⟩
theorem datas_dataT {n : Nat} {xs : List W} (h : datas n xs = true) : dataW (n + 1) (.tup xs) = true := by simp only [dataW]; exact h
theorem cmp_in {x y : V} {a b : W} {H : Hp} {S : Sn} {kk : Bool} {Q : VK} (hr : HR Γ S H) (ra : RepX Γ S H a x) (rb : RepX Γ S H b y) (h : evIn a b S.S = some kk) :
    (Q (.bl kk) H → rIn Γ.K false x y H Q ∨ (rInD Γ.K x y H Q ∨ rInT Γ.K x y H Q)) ∧ (Q (.bl (!kk)) H → rIn Γ.K true x y H Q ∨ (rNotInD Γ.K x y H Q ∨ rNotInT Γ.K x y H Q)) := by
  unfold evIn at h
  split at h
  · rename_i xs e
    split at h
    · rename_i hs
      cases h
      rw [Bool.and_eq_true] at hs
      obtain ⟨p, vs, rfl, h1, rs⟩ := seq_view hr rb e
      have ra' : RepS Γ S a x := ra.rep fun xs z => by rw [z] at hs; cases hs.1
      have e1 := inV_eq ra' hs.1 rs hs.2
      refine ⟨fun q => .inl ⟨p, vs, rfl, h1, flat_rel ra' hs.1, flats_rel rs hs.2, ?_⟩, fun q => .inl ⟨p, vs, rfl, h1, flat_rel ra' hs.1, flats_rel rs hs.2, ?_⟩⟩
      · rw [e1]; exact q
      · rw [e1]; exact q
    · split at h
      · rename_i hd
        cases h
        rw [Bool.and_eq_true] at hd
        have ra' : Dp Γ.K H x (toD a) := by
          have hd1 := hd.1
          have e3 : drf S.S a = a := by cases a <;> first | rfl | (simp [dataW] at hd1)
          have := data_dpX hr ra (by rw [e3]; exact hd.1)
          rw [e3] at this
          exact this
        rcases seqOf_drf e with e2 | e2
        · have hl : dataW 20 (W.lst xs) = true := datas_data hd.2
          have rb' := data_dpX hr rb (by rw [e2]; exact hl)
          rw [e2] at rb'
          have sb := shaped_of hl
          simp only [toD] at rb' sb
          refine ⟨fun q => .inr (.inl ⟨_, _, ra', rb', shaped_of hd.1, sb, ?_⟩), fun q => .inr (.inl ⟨_, _, ra', rb', shaped_of hd.1, sb, ?_⟩)⟩
          · rw [toDs_any a hd.1 19 xs hd.2]; exact q
          · rw [toDs_any a hd.1 19 xs hd.2]; exact q
        · have hl : dataW 20 (W.tup xs) = true := datas_dataT hd.2
          have rb' := data_dpX hr rb (by rw [e2]; exact hl)
          rw [e2] at rb'
          have sb := shaped_of hl
          simp only [toD] at rb' sb
          refine ⟨fun q => .inr (.inr ⟨_, _, ra', rb', shaped_of hd.1, sb, ?_⟩), fun q => .inr (.inr ⟨_, _, ra', rb', shaped_of hd.1, sb, ?_⟩)⟩
          · rw [toDs_any a hd.1 19 xs hd.2]; exact q
          · rw [toDs_any a hd.1 19 xs hd.2]; exact q
      · cases h
  · cases h
/-- a comparison's rule -/
theorem opCmp (op : CO) (hu : X.A.units + 65 < cLine) : OpR X (compareOp (opC op)) (fun x y H Q => ∃ S a b kk, X.K = Γ.K ∧ HR Γ S H ∧ RepX Γ S H a x ∧ RepX Γ S H b y ∧ evCmp op a b S.S = some kk ∧ Q (.bl kk) H) := by
  have hu1 : X.A.units + 64 < cLine := by omega
  have hI : ∀ {f : Int → Int → Bool} {op' : CmpOp}, OpR X (compareOp op') (rI0 fun i j => .bl (f i j)) →
      OpR X (compareOp op') (fun x y H Q => ∃ S a b kk, X.K = Γ.K ∧ HR Γ S H ∧ RepX Γ S H a x ∧ RepX Γ S H b y ∧ cmpI f a b = some kk ∧ Q (.bl kk) H) := fun {f op'} h => by
    refine OpR.imp h ?_
    rintro x y H Q ⟨S, a, b, kk, eK, hr, ra, rb, e, q⟩
    unfold cmpI at e
    split at e
    · cases e
      exact ⟨_, _, ra.int, rb.int, q⟩
    · cases e
  cases op with
  | eq =>
    refine OpR.imp (op_eq.or (op_eqD hu1)) ?_
    rintro x y H Q ⟨S, a, b, kk, eK, hr, ra, rb, e, q⟩
    rw [eK]
    exact cmp_eq hr ra rb e q
  | ne =>
    refine OpR.imp (op_ne.or (op_neD hu1)) ?_
    rintro x y H Q ⟨S, a, b, kk, eK, hr, ra, rb, e, q⟩
    rw [eK]
    obtain ⟨k2, e2, rfl⟩ := Option.map_eq_some_iff.mp e
    exact cmp_ne hr ra rb e2 q
  | lt => exact hI op_lt
  | le => exact hI op_le
  | gt => exact hI op_gt
  | ge => exact hI op_ge
  | isin =>
    refine OpR.imp (op_in_seq.or ((op_inD hu).or (op_inT hu))) ?_
    rintro x y H Q ⟨S, a, b, kk, eK, hr, ra, rb, e, q⟩
    rw [eK]
    exact (cmp_in hr ra rb e).1 q
  | notin =>
    refine OpR.imp (op_notIn_seq.or ((op_notInD hu).or (op_notInT hu))) ?_
    rintro x y H Q ⟨S, a, b, kk, eK, hr, ra, rb, e, q⟩
    rw [eK]
    obtain ⟨k2, e2, rfl⟩ := Option.map_eq_some_iff.mp e
    exact (cmp_in hr ra rb e2).2 q
theorem se_cmp {op : CO} (C : XC Γ Wx N sc k X) (hm : behindInMarks (opC op) eb = false) (ha : PE X ea (tR Γ Wx en env ra (pRepX Γ))) (hb : PE X eb (tR Γ Wx en env rb (pRepX Γ))) :
    PE X (.Compare ea [opC op] [eb] pos) (tR Γ Wx en env (fun s => (ra s).bind fun x s1 => (rb s1).bind fun y s2 => retO ((evCmp op x y s2).map W.bl) s2) (pRep Γ)) := by
  have hu : X.A.units + 65 < cLine := by have := C.un; omega
  refine se_two (rd := fun x y s => retO ((evCmp op x y s).map W.bl) s) (fun h1 h2 => pe_cmpR (opCmp (Γ := Γ) op hu) h1 h2 hm) ha hb ?_
  intro S0 S H0 H σ x y v u Q fr hr rx ry h
  obtain ⟨w, e, q⟩ := h.retO hr
  obtain ⟨kk, e2, rfl⟩ := Option.map_eq_some_iff.mp e
  exact ⟨S, x, y, kk, C.eK, hr, rx, ry, e2, q _ rfl⟩
/-- a test of a True or False -/
theorem tst_bl {kk : Bool} {σ : L2.St} {Q : Bool → Hp → Prop} (hr : HR Γ S H) (h : RP Γ Wx σ S H (LI.retO ((tru S.S (.bl kk)).map W.bl) S.S) (fun w S' H' => ∀ b, w = .bl b → Q b H')) : Q kk H := RP.done (a := W.bl kk) h hr kk rfl
theorem st_cmp {op : CO} (C : XC Γ Wx N sc k X) (hm : behindInMarks (opC op) eb = false) (ha : PE X ea (tR Γ Wx en env ra (pRepX Γ))) (hb : PE X eb (tR Γ Wx en env rb (pRepX Γ))) :
    PT X (.Compare ea [opC op] [eb] pos) (tR Γ Wx en env (fun s => tst true ((ra s).bind fun x s1 => (rb s1).bind fun y s2 => retO ((evCmp op x y s2).map W.bl) s2)) pB) := by
  have hu : X.A.units + 65 < cLine := by have := C.un; omega
  refine PT.mono (pt_cmpR (opCmp (Γ := Γ) op hu) ha hb hm) ?_
  rintro σ H Q ⟨S, hr, sl, h⟩
  refine ⟨S, hr, sl, RP.mono h.seq.seq fun x S1 H1 fr1 hr1 h1 v r1 => ⟨S1, hr1, sl.mono hr fr1, RP.mono h1.seq fun y S2 H2 fr2 hr2 h2 u r2 => ?_⟩⟩
  obtain ⟨w, e, q⟩ := h2.retO hr2
  obtain ⟨kk, e2, rfl⟩ := Option.map_eq_some_iff.mp e
  exact ⟨S2, x, y, kk, C.eK, hr2, r1.mono fr2, r2, e2, kk, rfl, tst_bl hr2 q⟩
/-- a op b op' c -/
theorem se_chain {op op' : CO} {ec : Expr} {rc : Sto → R W} (C : XC Γ Wx N sc k X) (hm : lastMarks [opC op, opC op'] [eb, ec] = false) (ha : PE X ea (tR Γ Wx en env ra (pRepX Γ))) (hb : PE X eb (tR Γ Wx en env rb (pRepX Γ))) (hc : PE X ec (tR Γ Wx en env rc (pRepX Γ))) :
    PE X (.Compare ea [opC op, opC op'] [eb, ec] pos) (tR Γ Wx en env (fun s => (ra s).bind fun x s1 => (rb s1).bind fun y s2 => chainB (evCmp op x y s2) s2 fun s2 =>
      (rc s2).bind fun z s3 => retO ((evCmp op' y z s3).map W.bl) s3) (pRep Γ)) := by
  have hu : X.A.units + 65 < cLine := by have := C.un; omega
  refine PE.mono (pe_chain (opCmp (Γ := Γ) op hu) (opCmp (Γ := Γ) op' hu) ha hb hc hm) ?_
  rintro σ H Q ⟨S, hr, sl, h⟩
  refine ⟨S, hr, sl, RP.mono h.seq fun x S1 H1 fr1 hr1 h1 v r1 => ⟨S1, hr1, sl.mono hr fr1, RP.mono h1.seq fun y S2 H2 fr2 hr2 h2 u r2 => ?_⟩⟩
  cases e : evCmp op x y S2.S with
  | none => rw [e] at h2; exact h2.elim
  | some kk =>
    rw [e] at h2
    refine ⟨S2, x, y, kk, C.eK, hr2, r1.mono fr2, r2, e, kk, rfl, ?_⟩
    cases kk with
    | false => exact RP.done h2 hr2 _ rfl
    | true =>
      refine ⟨S2, hr2, (sl.mono hr fr1).mono hr1 fr2, RP.mono (RP.seq (r := rc S2.S) h2) fun z S3 H3 fr3 hr3 h3 w r3 => ?_⟩
      obtain ⟨w', e3, q⟩ := h3.retO hr3
      obtain ⟨k3, e4, rfl⟩ := Option.map_eq_some_iff.mp e3
      exact ⟨S3, y, z, k3, C.eK, hr3, r2.mono fr3, r3, e4, q _ rfl⟩
theorem st_chain {op op' : CO} {ec : Expr} {rc : Sto → R W} (C : XC Γ Wx N sc k X) (hm : lastMarks [opC op, opC op'] [eb, ec] = false) (ha : PE X ea (tR Γ Wx en env ra (pRepX Γ))) (hb : PE X eb (tR Γ Wx en env rb (pRepX Γ))) (hc : PE X ec (tR Γ Wx en env rc (pRepX Γ))) :
    PT X (.Compare ea [opC op, opC op'] [eb, ec] pos) (tR Γ Wx en env (fun s => tst true ((ra s).bind fun x s1 => (rb s1).bind fun y s2 => chainB (evCmp op x y s2) s2 fun s2 =>
      (rc s2).bind fun z s3 => retO ((evCmp op' y z s3).map W.bl) s3)) pB) := by
  have hu : X.A.units + 65 < cLine := by have := C.un; omega
  refine PT.mono (pt_chain (opCmp (Γ := Γ) op hu) (opCmp (Γ := Γ) op' hu) ha hb hc hm) ?_
  rintro σ H Q ⟨S, hr, sl, h⟩
  refine ⟨S, hr, sl, RP.mono h.seq.seq fun x S1 H1 fr1 hr1 h1 v r1 => ⟨S1, hr1, sl.mono hr fr1, RP.mono h1.seq fun y S2 H2 fr2 hr2 h2 u r2 => ?_⟩⟩
  cases e : evCmp op x y S2.S with
  | none => rw [e] at h2; exact h2.elim
  | some kk =>
    rw [e] at h2
    refine ⟨S2, x, y, kk, C.eK, hr2, r1.mono fr2, r2, e, kk, rfl, ?_⟩
    cases kk with
    | false =>
      exact ⟨false, rfl, tst_bl hr2 (RP.done (a := W.bl false) h2 hr2)⟩
    | true =>
      refine ⟨S2, hr2, (sl.mono hr fr1).mono hr1 fr2, RP.mono (RP.seq (r := rc S2.S) h2) fun z S3 H3 fr3 hr3 h3 w r3 => ?_⟩
      obtain ⟨w', e3, q⟩ := h3.retO hr3
      obtain ⟨k3, e4, rfl⟩ := Option.map_eq_some_iff.mp e3
      exact ⟨S3, y, z, k3, C.eK, hr3, r2.mono fr3, r3, e4, k3, rfl, tst_bl hr3 q⟩
theorem isNon_iff {S : Sn} {H : Hp} {x : W} {v : V} (r : RepX Γ S H x v) : decide (v = .non) = isNon x := by
  cases x with
  | non => cases r.non; rfl
  | lst xs =>
    have : ∃ a, v = .ref a := by
      rcases r with ⟨a, _, e, _⟩ | ⟨_, a, _, _, e, _⟩
      · exact ⟨a, e⟩
      · exact ⟨a, e⟩
    obtain ⟨a, rfl⟩ := this
    rfl
  | bl b => cases r.bl; rfl
  | int b => cases r.int; rfl
  | str b => cases r.str; rfl
  | tup xs => obtain ⟨a, _, rfl, _⟩ := r.rep (fun _ z => by cases z); rfl
  | scr xs => obtain ⟨a, rfl, _⟩ := r.rep (fun _ z => by cases z); rfl
  | obj c ks fs => obtain ⟨a, _, _, rfl, _⟩ := r.rep (fun _ z => by cases z); rfl
  | dct _ _ => exact (r.rep (fun _ z => by cases z)).elim
  | cls c => cases (show v = .ref (Γ.ca c) from r.rep (fun _ z => by cases z)); rfl
  | ty n => cases (show v = .ty n from r.rep (fun _ z => by cases z)); rfl
  | cell n => obtain ⟨_, rfl⟩ := r.rep (fun _ z => by cases z); rfl
/-- is None -/
theorem se_isN (ha : PE X ea (tR Γ Wx en env ra (pRepX Γ))) {j : Nat} {p2 : Pos} :
    PE X (.Compare ea [.Is] [.Constant .none j p2] pos) (tR Γ Wx en env (fun s => (ra s).bind fun x s1 => .ok (.bl (isNon x)) s1) (pRep Γ)) := by
  refine PE.mono (pe_cmp (pc_isN ha) (nobehind _ (by decide) (by decide))) ?_
  rintro σ H Q ⟨S, hr, sl, h⟩
  refine ⟨S, hr, sl, RP.mono h.seq fun x S1 H1 fr1 hr1 h1 v r1 => ?_⟩
  show Q (.bl (decide (v = .non))) H1
  rw [isNon_iff r1]
  exact RP.done h1 hr1 _ rfl
theorem se_notN (ha : PE X ea (tR Γ Wx en env ra (pRepX Γ))) {j : Nat} {p2 : Pos} :
    PE X (.Compare ea [.IsNot] [.Constant .none j p2] pos) (tR Γ Wx en env (fun s => (ra s).bind fun x s1 => .ok (.bl (!isNon x)) s1) (pRep Γ)) := by
  refine PE.mono (pe_cmp (pc_notN ha) (nobehind _ (by decide) (by decide))) ?_
  rintro σ H Q ⟨S, hr, sl, h⟩
  refine ⟨S, hr, sl, RP.mono h.seq fun x S1 H1 fr1 hr1 h1 v r1 => ?_⟩
  show Q (.bl (!decide (v = .non))) H1
  rw [isNon_iff r1]
  exact RP.done h1 hr1 _ rfl
theorem st_isN (ha : PE X ea (tR Γ Wx en env ra (pRepX Γ))) {j : Nat} {p2 : Pos} :
    PT X (.Compare ea [.Is] [.Constant .none j p2] pos) (tR Γ Wx en env (fun s => tst true ((ra s).bind fun x s1 => .ok (.bl (isNon x)) s1)) pB) := by
  refine PT.mono (pt_cmp (pc_isN ha) (nobehind _ (by decide) (by decide))) ?_
  rintro σ H Q ⟨S, hr, sl, h⟩
  refine ⟨S, hr, sl, RP.mono h.seq.seq fun x S1 H1 fr1 hr1 h1 v r1 => ?_⟩
  refine ⟨_, rfl, ?_⟩
  rw [isNon_iff r1]
  exact tst_bl hr1 (RP.done h1 hr1)
theorem st_notN (ha : PE X ea (tR Γ Wx en env ra (pRepX Γ))) {j : Nat} {p2 : Pos} :
    PT X (.Compare ea [.IsNot] [.Constant .none j p2] pos) (tR Γ Wx en env (fun s => tst true ((ra s).bind fun x s1 => .ok (.bl (!isNon x)) s1)) pB) := by
  refine PT.mono (pt_cmp (pc_notN ha) (nobehind _ (by decide) (by decide))) ?_
  rintro σ H Q ⟨S, hr, sl, h⟩
  refine ⟨S, hr, sl, RP.mono h.seq.seq fun x S1 H1 fr1 hr1 h1 v r1 => ?_⟩
  refine ⟨_, rfl, ?_⟩
  rw [isNon_iff r1]
  exact tst_bl hr1 (RP.done h1 hr1)
end
end LI
end
section
set_option Elab.async false
set_option linter.all false
set_option maxRecDepth 100000
set_option maxHeartbeats 4000000
/-! LiEx2: tests, subscripts, displays, argument lists. -/
namespace LI
open PySem PySem.Spec PyProof.Rows L2

section
variable {Γ : Ctx} {en : En} {S S1 S2 : Sn} {H H1 H2 : Hp} {env : LI.Env} {σ : L2.St} {Wx : WX}
variable {N : List Str} {sc : Scope} {k : Nat} {X : Cx} {ea eb : Expr} {pos : Pos} {ra rb : Sto → R W} {qa qb : Sto → R Bool}

/-! ### truth -/
theorem tru_rel {K : PySem.W.Frag} {x : W} {v : V} {b : Bool} (eK : K = Γ.K) (hr : HR Γ S H) (r : RepX Γ S H x v) (h : tru S.S x = some b) : TruV K v H b := by
  subst eK
  have hd : ∀ {xs : List W} {vs : List V}, RepsS Γ S xs vs → (!vs.isEmpty) = !xs.isEmpty := fun {xs vs} rs => by
    have e := rs.length
    cases xs with
    | nil => cases vs with
      | nil => rfl
      | cons _ _ => simp at e
    | cons _ _ => cases vs with
      | nil => simp at e
      | cons _ _ => rfl
  cases x with
  | non => cases r.non; cases h; exact rfl
  | bl b => cases r.bl; cases h; exact rfl
  | int i => cases r.int; cases h; exact rfl
  | lst xs =>
    cases h
    obtain ⟨a, vs, rfl, h1, rs⟩ := lst_view hr r (show drf S.S (.lst xs) = .lst xs from rfl)
    exact .inl ⟨vs, SqL.of h1, (hd rs).symm⟩
  | tup xs =>
    cases h
    obtain ⟨a, vs, rfl, h1, rs⟩ := tup_view hr r (show drf S.S (.tup xs) = .tup xs from rfl)
    exact .inr (.inl ⟨vs, h1, (hd rs).symm⟩)
  | cell n =>
    have h' : (match S.S[n]? with | some (.lst xs) => some (!xs.isEmpty) | _ => none) = some b := h
    split at h'
    · rename_i xs e
      cases h'
      have e2 : drf S.S (.cell n) = .lst xs := by show (match S.S[n]? with | some (Cl.lst xs) => W.lst xs | _ => W.cell n) = W.lst xs; rw [e]
      obtain ⟨a, vs, rfl, h1, rs⟩ := lst_view hr r e2
      exact .inl ⟨vs, SqL.of h1, (hd rs).symm⟩
    · cases h'
  | _ => cases h
/-- expressions whose test is their value's truth -/
def plainT : Expr → Bool
  | .Name .. => true | .Call .. => true | .Attribute .. => true | .Subscript .. => true | .Constant .. => true
  | _ => false
theorem plainT_ok {e : Expr} {env : PySem.Env} (h : plainT e = true) : ∀ whole, isTrue e env whole = (do let v ← whole; standAt e.pos; holding [v] (truthy v)) := by
  cases e <;> first | (cases h; done) | (intro _; rfl)
theorem st_val (C : XC Γ Wx N sc k X) (hp : plainT ea = true) (ha : PE X ea (tR Γ Wx en env ra (pRepX Γ))) :
    PT X ea (tR Γ Wx en env (fun s => tst true (ra s)) pB) := by
  refine PT.mono (pt_truth ha (plainT_ok hp)) ?_
  rintro σ H Q ⟨S, hr, sl, h⟩
  refine ⟨S, hr, sl, RP.mono (RP.seq (r := ra S.S) h) fun x S1 H1 fr1 hr1 h1 v r1 => ?_⟩
  obtain ⟨w, e, q⟩ := h1.retO hr1
  obtain ⟨b, e2, rfl⟩ := Option.map_eq_some_iff.mp e
  exact ⟨b, tru_rel C.eK hr1 r1 e2, q b rfl⟩
theorem st_not {qa : Sto → R W} (ha : PT X ea (tR Γ Wx en env qa pB)) : PT X (.UnaryOp .Not ea pos) (tR Γ Wx en env (fun s => (qa s).bind fun x s1 => (toB x s1).bind fun b s2 => .ok (.bl (!b)) s2) pB) := by
  refine PT.mono (pt_not ha) ?_
  rintro σ H Q ⟨S, hr, sl, h⟩
  refine ⟨S, hr, sl, RP.mono h.seq fun x S1 H1 fr1 hr1 h1 v r1 => ?_⟩
  cases r1
  exact RP.done (a := W.bl (!v)) h1 hr1 _ rfl
variable {rest : List Expr} {qa qb : Sto → R W}
theorem sw_one {op : BoolOp} (ha : PT X ea (tR Γ Wx en env qa pB)) : PW X (.BoolOp op [ea] pos) (tR Γ Wx en env qa pB) := by
  cases op with
  | And => exact pw_and1 ha
  | Or => exact pw_or1 ha
theorem sw_and (ha : PT X ea (tR Γ Wx en env qa pB)) (hb : PW X (.BoolOp .And (eb :: rest) pos) (tR Γ Wx en env qb pB)) :
    PW X (.BoolOp .And (ea :: eb :: rest) pos) (tR Γ Wx en env (fun s => (qa s).bind fun x s1 => ifB x s1 (fun s2 => qb s2) fun s2 => .ok (.bl false) s2) pB) := by
  refine PW.mono (pw_and ha hb) ?_
  rintro σ H Q ⟨S, hr, sl, h⟩
  refine ⟨S, hr, sl, RP.mono h.seq fun x S1 H1 fr1 hr1 h1 b r1 => ?_⟩
  cases r1
  cases b with
  | true => exact ⟨S1, hr1, sl.mono hr fr1, h1⟩
  | false => exact RP.done (a := W.bl false) h1 hr1 _ rfl
theorem sw_or (ha : PT X ea (tR Γ Wx en env qa pB)) (hb : PW X (.BoolOp .Or (eb :: rest) pos) (tR Γ Wx en env qb pB)) :
    PW X (.BoolOp .Or (ea :: eb :: rest) pos) (tR Γ Wx en env (fun s => (qa s).bind fun x s1 => ifB x s1 (fun s2 => .ok (.bl true) s2) fun s2 => qb s2) pB) := by
  refine PW.mono (pw_or ha hb) ?_
  rintro σ H Q ⟨S, hr, sl, h⟩
  refine ⟨S, hr, sl, RP.mono h.seq fun x S1 H1 fr1 hr1 h1 b r1 => ?_⟩
  cases r1
  cases b with
  | false => exact ⟨S1, hr1, sl.mono hr fr1, h1⟩
  | true => exact RP.done (a := W.bl true) h1 hr1 _ rfl
/-! ### as values -/
theorem se_not (C : XC Γ Wx N sc k X) (ha : PE X ea (tR Γ Wx en env ra (pRepX Γ))) : PE X (.UnaryOp .Not ea pos) (tR Γ Wx en env (fun s => (ra s).bind fun x s1 => retO ((tru s1 x).map fun b => W.bl (!b)) s1) (pRep Γ)) := by
  refine PE.mono (pe_notT ha) ?_
  rintro σ H Q ⟨S, hr, sl, h⟩
  refine ⟨S, hr, sl, RP.mono h.seq fun x S1 H1 fr1 hr1 h1 v r1 => ?_⟩
  obtain ⟨w, e, q⟩ := h1.retO hr1
  obtain ⟨b, e2, rfl⟩ := Option.map_eq_some_iff.mp e
  exact ⟨b, tru_rel C.eK hr1 r1 e2, q _ rfl⟩
theorem se_one {op : BoolOp} {P : Sn → Hp → W → V → Sn → Hp → Prop} (ha : PE X ea (tR Γ Wx en env ra P)) : PE X (.BoolOp op [ea] pos) (tR Γ Wx en env ra P) := pe_one ha
theorem se_and (ha : PE X ea (tR Γ Wx en env ra (pRep Γ))) (hb : PE X (.BoolOp .And (eb :: rest) pos) (tR Γ Wx en env rb (pRep Γ))) :
    PE X (.BoolOp .And (ea :: eb :: rest) pos) (tR Γ Wx en env (fun s => (ra s).bind fun x s1 => ifB x s1 (fun s2 => rb s2) fun s2 => .ok (.bl false) s2) (pRep Γ)) := by
  refine PE.mono (pe_and ha hb) ?_
  rintro σ H Q ⟨S, hr, sl, h⟩
  refine ⟨S, hr, sl, RP.mono h.seq fun x S1 H1 fr1 hr1 h1 v r1 => ?_⟩
  unfold ifB at h1
  split at h1
  · refine ⟨true, r1, ?_⟩
    rw [if_pos rfl]
    exact ⟨S1, hr1, sl.mono hr fr1, h1⟩
  · exact ⟨false, r1, RP.done h1 hr1 _ rfl⟩
  · exact h1.elim
theorem se_or (ha : PE X ea (tR Γ Wx en env ra (pRep Γ))) (hb : PE X (.BoolOp .Or (eb :: rest) pos) (tR Γ Wx en env rb (pRep Γ))) :
    PE X (.BoolOp .Or (ea :: eb :: rest) pos) (tR Γ Wx en env (fun s => (ra s).bind fun x s1 => ifB x s1 (fun s2 => .ok (.bl true) s2) fun s2 => rb s2) (pRep Γ)) := by
  refine PE.mono (pe_or ha hb) ?_
  rintro σ H Q ⟨S, hr, sl, h⟩
  refine ⟨S, hr, sl, RP.mono h.seq fun x S1 H1 fr1 hr1 h1 v r1 => ?_⟩
  unfold ifB at h1
  split at h1
  · exact ⟨true, r1, RP.done h1 hr1 _ rfl⟩
  · refine ⟨false, r1, ?_⟩
    rw [if_neg Bool.false_ne_true]
    exact ⟨S1, hr1, sl.mono hr fr1, h1⟩
  · exact h1.elim
theorem se_ite {ec : Expr} (hc : PT X ec (tR Γ Wx en env qa pB)) (ha : PE X ea (tR Γ Wx en env ra (pRep Γ))) (hb : PE X eb (tR Γ Wx en env rb (pRep Γ))) :
    PE X (.IfExp ec ea eb pos) (tR Γ Wx en env (fun s => (qa s).bind fun x s1 => ifB x s1 (fun s2 => ra s2) fun s2 => rb s2) (pRep Γ)) := by
  refine PE.mono (pe_ifExp hc ha hb) ?_
  rintro σ H Q ⟨S, hr, sl, h⟩
  refine ⟨S, hr, sl, RP.mono h.seq fun x S1 H1 fr1 hr1 h1 b r1 => ?_⟩
  cases r1
  cases b with
  | true => exact ⟨S1, hr1, sl.mono hr fr1, h1⟩
  | false => exact ⟨S1, hr1, sl.mono hr fr1, h1⟩

/-! ### subscripts -/
theorem Reps.atI {F : Hp} {φ : Nat → Addr} {n : Nat} {ws : List W} {vs : List V} {i : Int} {x : W} (r : Reps Γ F φ n ws vs) (h : LI.atI ws i = some x) : ∃ v, L2.atI vs i = some v ∧ Rep Γ F φ n x v := by
  have e : L2.ixN vs.length i = LI.ixN ws.length i := by rw [r.length]; rfl
  unfold LI.atI at h
  unfold L2.atI
  rw [e]
  cases q : LI.ixN ws.length i with
  | none => rw [q] at h; cases h
  | some j =>
    rw [q] at h
    exact r.get h
def plainIx : Expr → Bool
  | .Slice .. => false
  | _ => true
theorem plainIx_ok {b : Expr} (h : plainIx b = true) : PlainIx b := by
  intro o i
  cases b <;> first | (cases h; done) | rfl
theorem se_ix (C : XC Γ Wx N sc k X) (hp : plainIx eb = true) (ha : PE X ea (tR Γ Wx en env ra (pRepX Γ))) (hb : PE X eb (tR Γ Wx en env rb (pRepX Γ))) :
    PE X (.Subscript ea eb pos) (tR Γ Wx en env (fun s => (ra s).bind fun x s1 => (rb s1).bind fun y s2 => evIx x y s2) (pRep Γ)) := by
  refine se_two (op := rIx Γ.K) (rd := evIx) (fun h1 h2 => by have := pe_ix (ix_seq (X := X)) h1 h2 (plainIx_ok hp) (pos := pos); rw [C.eK] at this; exact this) ha hb ?_
  intro S0 S H0 H σ x y v u Q fr hr rx ry h
  unfold evIx at h
  split at h
  · rename_i i
    split at h
    · rename_i ns
      obtain ⟨w, e, q⟩ := h.retO hr
      obtain ⟨j, e2, rfl⟩ := Option.map_eq_some_iff.mp e
      obtain ⟨a, rfl, h1⟩ := rx.rep (fun _ z => by cases z)
      refine .inl ⟨a, ns.map V.int, i, .int j, rfl, ry.int, hr.sub.sql h1, ?_, q _ rfl⟩
      show (L2.ixN (ns.map V.int).length i).bind _ = _
      rw [List.length_map]
      have e3 : (L2.ixN ns.length i).bind (fun j => ns[j]?) = some j := e2
      cases q2 : L2.ixN ns.length i with
      | none => rw [q2] at e3; cases e3
      | some m =>
        rw [q2] at e3
        show (ns.map V.int)[m]? = _
        rw [List.getElem?_map, (show ns[m]? = some j from e3)]
        rfl
    · rename_i z
      split at h
      · rename_i hz
        obtain ⟨w, e, q⟩ := h.retO hr
        obtain ⟨c, e2, rfl⟩ := Option.map_eq_some_iff.mp e
        exact .inr (.inr ⟨z, i, c, rx.str, ry.int, okN_le hz, e2, q _ rfl⟩)
      · exact h.elim
    · obtain ⟨w, e, q⟩ := h.retO hr
      obtain ⟨xs, e1, e2⟩ := Option.bind_eq_some_iff.mp e
      obtain ⟨a, vs, rfl, h1, rs⟩ := seq_view hr rx e1
      obtain ⟨z, e3, r3⟩ := rs.atI e2
      rcases h1 with h1 | h1
      · exact .inl ⟨a, vs, i, z, rfl, ry.int, h1, e3, q _ r3⟩
      · exact .inr (.inl ⟨a, vs, i, z, rfl, ry.int, h1, e3, q _ r3⟩)
  · exact h.elim
/-- a slice's part -/
theorem so_none {Q : Option Int → Hp → Prop} : PO X none tNoPart := po_none
def rSlAll (K : PySem.W.Frag) : V → Option Int → Option Int → Hp → VK → Prop := fun x lo hi H Q => rSlL K x lo hi H Q ∨ (rSlA K x lo hi H Q ∨ rSlS x lo hi H Q)
theorem slAll : L2.SlR X (rSlAll X.K) := sl_list.or (sl_tupA.or sl_str)
theorem Reps.cut {F : Hp} {φ : Nat → Addr} {n : Nat} {ws : List W} {vs : List V} (r : Reps Γ F φ n ws vs) (l h : Option Int) : Reps Γ F φ n (LI.cut ws l h) (cutV vs l h) := by
  unfold LI.cut cutV
  rw [r.length]
  exact (r.drop _).take _
/-- a slice's part -/
def evPt (lo : Ex) (r : Sto → R W) (s : Sto) : R (Option Int) := if isNonE lo then .ok none s else (r s).bind toInt
inductive PtOk (Γ : Ctx) (Wx : WX) (en : En) (env : LI.Env) (X : Cx) : Option Expr → Ex → (Sto → R W) → Prop
  | none {r : Sto → R W} : PtOk Γ Wx en env X none .non r
  | some {e : Expr} {lo : Ex} {r : Sto → R W} (h : PE X e (tR Γ Wx en env r (pRepX Γ))) (hn : isNonE lo = false) : PtOk Γ Wx en env X (some e) lo r
theorem PtOk.po {o : Option Expr} {lo : Ex} {r : Sto → R W} (h : PtOk Γ Wx en env X o lo r) : PO X o (tR Γ Wx en env (evPt lo r) pEq) := by
  cases h with
  | none =>
    refine ⟨fun pins s σ H Q I hw => po_none.run pins s σ H Q I ?_⟩
    obtain ⟨S, hr, sl, h⟩ := hw
    exact RP.done (a := (Option.none : Option Int)) h hr _ rfl
  | some h hn =>
    refine ⟨fun pins s σ H Q I hw => (po_some h).run pins s σ H Q I ?_⟩
    obtain ⟨S, hr, sl, h⟩ := hw
    refine ⟨S, hr, sl, ?_⟩
    unfold evPt at h
    rw [hn, if_neg Bool.false_ne_true] at h
    refine RP.mono h.seq fun x S1 H1 fr1 hr1 h1 v r1 => ?_
    unfold toInt at h1
    split at h1
    · rename_i i
      exact ⟨i, r1.int, RP.done h1 hr1 _ rfl⟩
    · exact h1.elim
theorem se_sl {lo hi : Ex} {rl rh : Sto → R W} {el eh : Option Expr} {p2 : Pos} (C : XC Γ Wx N sc k X) (ha : PE X ea (tR Γ Wx en env ra (pRepX Γ))) (hl : PtOk Γ Wx en env X el lo rl) (hh : PtOk Γ Wx en env X eh hi rh) :
    PE X (.Subscript ea (.Slice el eh none p2) pos) (tR Γ Wx en env (fun s => (ra s).bind fun x s1 => (evPt lo rl s1).bind fun l s2 => (evPt hi rh s2).bind fun h s3 => evSl (drf s3 x) l h s3) (pN Γ)) := by
  refine PE.mono (pe_slice (slAll (X := X)) ha hl.po hh.po) ?_
  rintro σ H Q ⟨S, hr, sl, h⟩
  refine ⟨S, hr, sl, RP.mono h.seq fun x S1 H1 fr1 hr1 h1 v r1 => ⟨S1, hr1, sl.mono hr fr1, RP.mono h1.seq fun l S2 H2 fr2 hr2 h2 l' e1 => ⟨S2, hr2, (sl.mono hr fr1).mono hr1 fr2, RP.mono h2.seq fun u S3 H3 fr3 hr3 h3 u' e2 => ?_⟩⟩⟩
  cases e1; cases e2
  have r3 := (r1.mono fr2).mono fr3
  have fr := (fr1.trans fr2).trans fr3
  generalize ex : drf S3.S x = x' at h3
  unfold evSl at h3
  rw [C.eK]
  split at h3
  · rename_i xs
    obtain ⟨a, vs, rfl, hv, rs⟩ := lst_view hr3 r3 ex
    exact .inl ⟨a, vs, rfl, SqL.of hv, lay_lst fr hr3 (rs.cut l u) h3⟩
  · rename_i xs
    obtain ⟨a, vs, rfl, hv, rs⟩ := tup_view hr3 r3 ex
    have e := drf_tup ex
    subst e
    refine .inr (.inl ⟨a, vs, rfl, hv, fun z => ?_, fun _ => lay_tup hr3 (rs.cut l u) h3⟩)
    have e : LI.cut xs l u = xs := by
      rw [rs.length] at z
      show (xs.drop (HT.sIx xs.length 0 l)).take (HT.sIx xs.length xs.length u - HT.sIx xs.length 0 l) = xs
      rw [z.1, z.2, List.drop_zero, Nat.sub_zero, List.take_length]
    rw [e] at h3
    exact give hr3 (fun _ z => by cases z) (r3.rep fun _ z => by cases z) h3
  · rename_i z
    split at h3
    · rename_i hz
      have e := drf_str ex
      subst e
      exact .inr (.inr ⟨z, r3.str, okN_le hz, giveS hr3 (by
        have : (⟨(LI.cut z.cps.toList l u).toArray⟩ : Str) = cutS z l u := by
          have hl : z.cps.toList.length = z.length := by simp [Str.length]
          show (⟨((z.cps.toList.drop (HT.sIx z.cps.toList.length 0 l)).take (HT.sIx z.cps.toList.length z.cps.toList.length u - HT.sIx z.cps.toList.length 0 l)).toArray⟩ : Str) = _
          rw [hl]; rfl
        rw [this] at h3
        exact h3)⟩)
    · exact h3.elim
  · exact h3.elim
/-! ### argument lists, displays -/
variable {es : List Expr} {rs : Sto → R (List W)}
def plainA : Expr → Bool
  | .Starred .. => false
  | _ => true
theorem starEach_ok {e : Expr} {es : List Expr} {env : PySem.Env} (h : plainA e = true) : starEach (e :: es) env = (false, eval e env) :: starEach es env := by
  cases e <;> first | (cases h; done) | rfl
theorem sa_nil : PA X [] (tR Γ Wx en env (fun s => .ok [] s) (pReps Γ)) := by
  refine PA.mono pa_nil ?_
  rintro σ H Q ⟨S, hr, sl, h⟩
  exact RP.done (a := ([] : List W)) h hr _ (show RepsS Γ S [] [] from rfl)
theorem sa_cons (hp : plainA ea = true) (ha : PE X ea (tR Γ Wx en env ra (pRep Γ))) (hs : PA X es (tR Γ Wx en env rs (pReps Γ))) :
    PA X (ea :: es) (tR Γ Wx en env (fun s => (ra s).bind fun x s1 => (rs s1).bind fun xs s2 => .ok (x :: xs) s2) (pReps Γ)) := by
  refine PA.mono (pa_cons ha hs (starEach_ok hp)) ?_
  rintro σ H Q ⟨S, hr, sl, h⟩
  refine ⟨S, hr, sl, RP.mono h.seq fun x S1 H1 fr1 hr1 h1 v r1 => ⟨S1, hr1, sl.mono hr fr1, RP.mono h1.seq fun y S2 H2 fr2 hr2 h2 u r2 => ?_⟩⟩
  exact RP.done h2 hr2 _ (Reps.cons (fr2.rep r1) r2)
/-- .. whose own lists are looked at -/
theorem sx_nil : PA X [] (tR Γ Wx en env (fun s => .ok [] s) (pRepsX Γ)) := by
  refine PA.mono pa_nil ?_
  rintro σ H Q ⟨S, hr, sl, h⟩
  exact RP.done h hr _ .nil
theorem Paired.mapL {α β : Type} {F G : α → β → Prop} (h : ∀ a b, F a b → G a b) : ∀ {xs : List α} {ys : List β}, Paired F xs ys → Paired G xs ys
  | _, _, .nil => .nil
  | _, _, .cons r t => .cons (h _ _ r) (Paired.mapL h t)
theorem sx_cons (hp : plainA ea = true) (ha : PE X ea (tR Γ Wx en env ra (pRepX Γ))) (hs : PA X es (tR Γ Wx en env rs (pRepsX Γ))) :
    PA X (ea :: es) (tR Γ Wx en env (fun s => (ra s).bind fun x s1 => (rs s1).bind fun xs s2 => .ok (x :: xs) s2) (pRepsX Γ)) := by
  refine PA.mono (pa_cons ha hs (starEach_ok hp)) ?_
  rintro σ H Q ⟨S, hr, sl, h⟩
  refine ⟨S, hr, sl, RP.mono h.seq fun x S1 H1 fr1 hr1 h1 v r1 => ⟨S1, hr1, sl.mono hr fr1, RP.mono h1.seq fun y S2 H2 fr2 hr2 h2 u r2 => ?_⟩⟩
  exact RP.done h2 hr2 _ (.cons (r1.mono fr2) r2)
theorem se_lst (hs : PA X es (tR Γ Wx en env rs (pReps Γ))) : PE X (.List es pos) (tR Γ Wx en env (fun s => (rs s).bind vLst) (pN Γ)) := by
  refine PE.mono (pe_lst hs) ?_
  rintro σ H Q ⟨S, hr, sl, h⟩
  refine ⟨S, hr, sl, RP.mono h.seq fun ws S1 H1 fr1 hr1 h1 vs r1 => ?_⟩
  unfold vLst at h1
  split at h1
  · rename_i hz
    exact ⟨by rw [Reps.length r1]; exact okN_le hz, lay_lst fr1 hr1 r1 h1⟩
  · exact h1.elim
theorem se_tup {x1 : Nat} (hs : PA X es (tR Γ Wx en env rs (pReps Γ))) : PE X (.Tuple es x1 pos) (tR Γ Wx en env (fun s => (rs s).bind vTup) (pN Γ)) := by
  refine PE.mono (pe_tup hs) ?_
  rintro σ H Q ⟨S, hr, sl, h⟩
  refine ⟨S, hr, sl, RP.mono h.seq fun ws S1 H1 fr1 hr1 h1 vs r1 => ?_⟩
  unfold vTup at h1
  split at h1
  · rename_i hz
    exact ⟨by rw [Reps.length r1]; exact okN_le hz, lay_tup hr1 r1 h1⟩
  · exact h1.elim
end
end LI
end
section
set_option Elab.async false
set_option linter.all false
set_option maxRecDepth 100000
set_option maxHeartbeats 4000000
/-! LiEx3: built-ins. -/
namespace LI
open PySem PySem.Spec PyProof.Rows L2

section
variable {Γ : Ctx} {en : En} {S S1 S2 : Sn} {H H1 H2 : Hp} {env : LI.Env} {σ : L2.St} {Wx : WX}
variable {N : List Str} {sc : Scope} {k : Nat} {X : Cx} {e : Expr} {es : List Expr} {pos p : Pos} {rs : Sto → R (List W)}

/-- what stands between a built-in's name and its call: no name of the module, no local -/
def Free (Γ : Ctx) (sc : Scope) (x : Str) : Prop := sc.names.lookup x = some .globalImplicit ∧ Γ.mg x = none
theorem Free.gl {x : Str} (C : XC Γ Wx N sc k X) (h : Free Γ sc x) : Gl X x := by
  show X.env.scope.names.lookup x = some .globalImplicit
  rw [C.eS]; exact h.1
theorem Free.mg {x : Str} (C : XC Γ Wx N sc k X) (h : Free Γ sc x) : X.mg x = none := by rw [C.eM]; exact h.2

theorem CallR.imp {f : Value} {r r' : List V → Hp → VK → Prop} (h : CallR X f r) (hi : ∀ xs H Q, r' xs H Q → r xs H Q) : CallR X f r' := fun pins s σ H xs us Q I rx q => h pins s σ H xs us Q I rx (hi _ _ _ q)
theorem CallR.or {f : Value} {r r' : List V → Hp → VK → Prop} (h : CallR X f r) (h' : CallR X f r') : CallR X f (fun xs H Q => r xs H Q ∨ r' xs H Q) := fun pins s σ H xs us Q I rx q => by
  rcases q with q | q
  · exact h pins s σ H xs us Q I rx q
  · exact h' pins s σ H xs us Q I rx q
/-- a built-in by values: what the small language says of it -/
def rBi (Γ : Ctx) (b : Bi) : List V → Hp → VK → Prop := fun vs H Q => ∃ (Wx : WX) (σ : L2.St) (S0 S : Sn) (H0 : Hp) (ws : List W), Fr S0 H0 S H ∧ HR Γ S H ∧ Paired (fun w v => RepX Γ S H w v) ws vs ∧
  RP Γ Wx σ S H (evBi b ws S.S) (fun w S' H' => ∀ v, pN Γ S0 H0 w v S' H' → Q v H')
theorem pairX1 {w : W} {vs : List V} (h : Paired (fun w v => RepX Γ S H w v) [w] vs) : ∃ v, vs = [v] ∧ RepX Γ S H w v := by
  cases h with
  | cons r t => cases t; exact ⟨_, rfl, r⟩
theorem pairX2 {w u : W} {vs : List V} (h : Paired (fun w v => RepX Γ S H w v) [w, u] vs) : ∃ v z, vs = [v, z] ∧ RepX Γ S H w v ∧ RepX Γ S H u z := by
  cases h with
  | cons r t =>
    cases t with
    | cons r' t => cases t; exact ⟨_, _, rfl, r, r'⟩
theorem bi_len (eK : X.K = Γ.K) : CallR X (.builtin "len") (rBi Γ .len) := by
  refine CallR.imp call_len ?_
  rintro vs H Q ⟨Wx, σ, S0, S, H0, ws, fr, hr, pr, h⟩
  rw [eK]
  change RP Γ Wx σ S H (biLen ws S.S) _ at h
  unfold biLen at h
  split at h
  · split at h
    · rename_i hz
      obtain ⟨v, rfl, r⟩ := pairX1 pr
      cases r.str
      exact ⟨_, _, rfl, ⟨okN_le hz, rfl⟩, giveI hr h⟩
    · exact h.elim
  · rename_i ns
    obtain ⟨v, rfl, r⟩ := pairX1 pr
    obtain ⟨a, rfl, h1⟩ := r.rep (fun _ z => by cases z)
    exact ⟨_, ns.length, rfl, .inl ⟨_, hr.sub.sql h1, by rw [List.length_map]⟩, giveI hr h⟩
  · rename_i w _ _
    obtain ⟨v, rfl, r⟩ := pairX1 pr
    obtain ⟨w', e, q⟩ := h.retO hr
    obtain ⟨xs, e2, rfl⟩ := Option.map_eq_some_iff.mp e
    obtain ⟨a, vs, rfl, h1, rs⟩ := seq_view hr r e2
    refine ⟨_, xs.length, rfl, ?_, q _ (.inr ⟨(fun _ z => by cases z), rfl⟩)⟩
    rcases h1 with h1 | h1
    · exact .inl ⟨vs, h1, rs.length.symm⟩
    · exact .inr ⟨vs, h1, rs.length.symm⟩
  · exact h.elim
theorem bi_abs : CallR X (.builtin "abs") (rBi Γ .abs) := by
  refine CallR.imp call_abs ?_
  rintro vs H Q ⟨Wx, σ, S0, S, H0, ws, fr, hr, pr, h⟩
  change RP Γ Wx σ S H (biAbs ws S.S) _ at h
  unfold biAbs at h
  split at h
  · obtain ⟨v, rfl, r⟩ := pairX1 pr
    cases r.int
    exact ⟨_, rfl, giveI hr h⟩
  · exact h.elim
theorem bi_int : CallR X (.type "int") (rBi Γ .int) := by
  refine CallR.imp call_int1 ?_
  rintro vs H Q ⟨Wx, σ, S0, S, H0, ws, fr, hr, pr, h⟩
  change RP Γ Wx σ S H (biInt ws S.S) _ at h
  unfold biInt at h
  split at h
  · obtain ⟨v, rfl, r⟩ := pairX1 pr
    cases r.int
    exact .inl ⟨_, rfl, giveI hr h⟩
  · obtain ⟨v, rfl, r⟩ := pairX1 pr
    cases r.bl
    exact .inr ⟨_, rfl, giveI hr h⟩
  · exact h.elim
theorem bi_max2 (hc : X.calm = true) : CallR X (.builtin "max") (rBi Γ .max2) := by
  refine CallR.imp (call_max2 hc) ?_
  rintro vs H Q ⟨Wx, σ, S0, S, H0, ws, fr, hr, pr, h⟩
  change RP Γ Wx σ S H (biMax2 ws S.S) _ at h
  unfold biMax2 at h
  split at h
  · obtain ⟨v, u, rfl, r, r'⟩ := pairX2 pr
    cases r.int; cases r'.int
    exact ⟨_, _, rfl, giveI hr h⟩
  · exact h.elim
theorem bi_min2 (hc : X.calm = true) : CallR X (.builtin "min") (rBi Γ .min2) := by
  refine CallR.imp (call_min2 hc) ?_
  rintro vs H Q ⟨Wx, σ, S0, S, H0, ws, fr, hr, pr, h⟩
  change RP Γ Wx σ S H (biMin2 ws S.S) _ at h
  unfold biMin2 at h
  split at h
  · obtain ⟨v, u, rfl, r, r'⟩ := pairX2 pr
    cases r.int; cases r'.int
    exact ⟨_, _, rfl, giveI hr h⟩
  · exact h.elim
theorem blsOf_eq : ∀ {ws : List W} {bs : List Bool}, blsOf ws = some bs → ws = bs.map W.bl
  | [], _, h => by cases h; rfl
  | .bl b :: r, _, h => by
    have h' : (blsOf r).map (b :: ·) = some _ := h
    obtain ⟨bs, e, rfl⟩ := Option.map_eq_some_iff.mp h'
    rw [blsOf_eq e]; rfl
  | .non :: _, _, h => by cases h
  | .int _ :: _, _, h => by cases h
  | .str _ :: _, _, h => by cases h
  | .lst _ :: _, _, h => by cases h
  | .tup _ :: _, _, h => by cases h
  | .scr _ :: _, _, h => by cases h
  | .obj _ _ _ :: _, _, h => by cases h
  | .dct _ _ :: _, _, h => by cases h
  | .cls _ :: _, _, h => by cases h
  | .ty _ :: _, _, h => by cases h
  | .cell _ :: _, _, h => by cases h
theorem intsOf_eq : ∀ {ws : List W} {ns : List Int}, intsOf ws = some ns → ws = ns.map W.int
  | [], _, h => by cases h; rfl
  | .int b :: r, _, h => by
    have h' : (intsOf r).map (b :: ·) = some _ := h
    obtain ⟨bs, e, rfl⟩ := Option.map_eq_some_iff.mp h'
    rw [intsOf_eq e]; rfl
  | .non :: _, _, h => by cases h
  | .bl _ :: _, _, h => by cases h
  | .str _ :: _, _, h => by cases h
  | .lst _ :: _, _, h => by cases h
  | .tup _ :: _, _, h => by cases h
  | .scr _ :: _, _, h => by cases h
  | .obj _ _ _ :: _, _, h => by cases h
  | .dct _ _ :: _, _, h => by cases h
  | .cls _ :: _, _, h => by cases h
  | .ty _ :: _, _, h => by cases h
  | .cell _ :: _, _, h => by cases h
theorem Reps.bls {F : Hp} {φ : Nat → Addr} {n : Nat} : ∀ {bs : List Bool} {vs : List V}, Reps Γ F φ n (bs.map W.bl) vs → vs = bs.map V.bl
  | [], _, h => h
  | b :: bs, _, ⟨v, r, e, h1, h2⟩ => by
    subst e
    rw [(show v = V.bl b from h1), Reps.bls h2]
    rfl
theorem bi_any (eK : X.K = Γ.K) (hc : X.calm = true) : CallR X (.builtin "any") (rBi Γ .any) := by
  refine CallR.imp (cr_any hc) ?_
  rintro vs H Q ⟨Wx, σ, S0, S, H0, ws, fr, hr, pr, h⟩
  rw [eK]
  change RP Γ Wx σ S H (biAny ws S.S) _ at h
  unfold biAny at h
  split at h
  · obtain ⟨v, rfl, r⟩ := pairX1 pr
    obtain ⟨w', e, q⟩ := h.retO hr
    obtain ⟨bs, e2, rfl⟩ := Option.map_eq_some_iff.mp e
    obtain ⟨xs, e3, e4⟩ := Option.bind_eq_some_iff.mp e2
    obtain ⟨a, vs, rfl, h1, rs⟩ := lst_view hr r (lstOf_drf e3)
    rw [blsOf_eq e4] at rs
    rw [Reps.bls rs] at h1
    exact ⟨a, bs, rfl, SqL.of h1, q _ (.inr ⟨(fun _ z => by cases z), rfl⟩)⟩
  · exact h.elim
theorem bi_all (eK : X.K = Γ.K) (hc : X.calm = true) : CallR X (.builtin "all") (rBi Γ .all) := by
  refine CallR.imp (cr_all hc) ?_
  rintro vs H Q ⟨Wx, σ, S0, S, H0, ws, fr, hr, pr, h⟩
  rw [eK]
  change RP Γ Wx σ S H (biAll ws S.S) _ at h
  unfold biAll at h
  split at h
  · obtain ⟨v, rfl, r⟩ := pairX1 pr
    obtain ⟨w', e, q⟩ := h.retO hr
    obtain ⟨bs, e2, rfl⟩ := Option.map_eq_some_iff.mp e
    obtain ⟨xs, e3, e4⟩ := Option.bind_eq_some_iff.mp e2
    obtain ⟨a, vs, rfl, h1, rs⟩ := lst_view hr r (lstOf_drf e3)
    rw [blsOf_eq e4] at rs
    rw [Reps.bls rs] at h1
    exact ⟨a, bs, rfl, SqL.of h1, q _ (.inr ⟨(fun _ z => by cases z), rfl⟩)⟩
  · exact h.elim
theorem bi_list (eK : X.K = Γ.K) : CallR X (.type "list") (rBi Γ .list) := by
  refine CallR.imp call_list_of ?_
  rintro vs H Q ⟨Wx, σ, S0, S, H0, ws, fr, hr, pr, h⟩
  rw [eK]
  change RP Γ Wx σ S H (biList ws S.S) _ at h
  unfold biList at h
  split at h
  · rename_i w
    obtain ⟨v, rfl, r⟩ := pairX1 pr
    cases e : seqOf S.S w with
    | none => rw [e] at h; exact h.elim
    | some xs =>
      rw [e] at h
      obtain ⟨a, vs, rfl, h1, rs⟩ := seq_view hr r e
      exact ⟨a, vs, rfl, h1, lay_lst fr hr rs h⟩
  · exact h.elim
theorem bi_tuple (eK : X.K = Γ.K) : CallR X (.type "tuple") (rBi Γ .tuple) := by
  refine CallR.imp call_tuple_of ?_
  rintro vs H Q ⟨Wx, σ, S0, S, H0, ws, fr, hr, pr, h⟩
  rw [eK]
  change RP Γ Wx σ S H (biTuple ws S.S) _ at h
  unfold biTuple at h
  split at h
  · rename_i w
    obtain ⟨v, rfl, r⟩ := pairX1 pr
    cases e : seqOf S.S w with
    | none => rw [e] at h; exact h.elim
    | some xs =>
      rw [e] at h
      rcases seqOf_drf e with e2 | e2
      · obtain ⟨a, vs, rfl, h1, rs⟩ := lst_view hr r e2
        exact ⟨a, vs, rfl, .inl ⟨SqL.of h1, lay_tup hr rs h⟩⟩
      · obtain ⟨a, vs, rfl, h1, rs⟩ := tup_view hr r e2
        have e3 := drf_tup e2
        subst e3
        exact ⟨a, vs, rfl, .inr ⟨h1, give hr (fun _ z => by cases z) (r.rep fun _ z => by cases z) h⟩⟩
  · exact h.elim

/-! ### the call -/
/-- the built-ins that are called by their name alone: the value that the name stands for -/
def biV : Bi → Option (Str × Value)
  | .len => some ("len", .builtin "len") | .abs => some ("abs", .builtin "abs") | .int => some ("int", .type "int") | .max2 => some ("max", .builtin "max") | .min2 => some ("min", .builtin "min")
  | .any => some ("any", .builtin "any") | .all => some ("all", .builtin "all") | .list => some ("list", .type "list") | .tuple => some ("tuple", .type "tuple")
  | _ => none
theorem bi_step {b : Bi} {f : Value} (hf : CallR X f (rBi Γ b)) {he : ∀ {t : TA}, PA X es t → PE X e (tCB (rBi Γ b) t)} (hs : PA X es (tR Γ Wx en env rs (pRepsX Γ))) :
    PE X e (tR Γ Wx en env (fun s => (rs s).bind fun ws s1 => evBi b ws s1) (pN Γ)) := by
  refine PE.mono (he hs) ?_
  rintro σ H Q ⟨S, hr, sl, h⟩
  exact ⟨S, hr, sl, RP.mono h.seq fun ws S1 H1 fr1 hr1 h1 vs r1 => ⟨Wx, σ, S, S1, H, ws, fr1, hr1, r1, h1⟩⟩
theorem backTo_plain {pos : Pos} {env : PySem.Env} : ∀ {es : List Expr}, es.all plainA = true → (backTo pos (starEach es env)).any (·.1) = false
  | [], _ => rfl
  | e :: es, h => by
    rw [List.all_cons, Bool.and_eq_true] at h
    rw [starEach_ok h.1]
    show (false || (backTo pos (starEach es env)).any (·.1)) = false
    rw [backTo_plain h.2]
    rfl
theorem se_bi {b : Bi} {x : Str} {f : Value} (C : XC Γ Wx N sc k X) (hc : X.calm = true) (hv : biV b = some (x, f)) (hx : Free Γ sc x) (hp : (e :: es).all plainA = true) (hs : PA X (e :: es) (tR Γ Wx en env rs (pRepsX Γ))) :
    PE X (.Call (.Name x p) (e :: es) [] pos) (tR Γ Wx en env (fun s => (rs s).bind fun ws s1 => evBi b ws s1) (pN Γ)) := by
  have hp' := hp
  rw [List.all_cons, Bool.and_eq_true] at hp'
  have bB : ∀ {id : String} {nm : Str} (hf : CallR X (.builtin id) (rBi Γ b)), bootBuiltins nm = some (.builtin id) → nm ≠ "__name__" → (nm == ("__debug__" : Str)) = false → Free Γ sc nm →
      PE X (.Call (.Name nm p) (e :: es) [] pos) (tR Γ Wx en env (fun s => (rs s).bind fun ws s1 => evBi b ws s1) (pN Γ)) := fun {id nm} hf hb hn hd hx =>
    bi_step (f := .builtin id) hf (he := fun h => pe_callB hf (hx.gl C) (hx.mg C) hb h hn hd (starEach_ok hp'.1) (backTo_plain hp'.2)) hs
  have bT : ∀ {id : String} {nm : Str} (hf : CallR X (.type id) (rBi Γ b)), bootBuiltins nm = some (.type id) → nm ≠ "__name__" → (nm == ("__debug__" : Str)) = false → Free Γ sc nm →
      PE X (.Call (.Name nm p) (e :: es) [] pos) (tR Γ Wx en env (fun s => (rs s).bind fun ws s1 => evBi b ws s1) (pN Γ)) := fun {id nm} hf hb hn hd hx =>
    bi_step (f := .type id) hf (he := fun h => pe_callTy hf (hx.gl C) (hx.mg C) hb h hn hd (starEach_ok hp'.1) (backTo_plain hp'.2)) hs
  cases b <;> first | (cases hv; done) | skip
  all_goals cases hv
  · exact bB (bi_len C.eK) (by decide +kernel) (by decide) (by decide) hx
  · exact bB bi_abs (by decide +kernel) (by decide) (by decide) hx
  · exact bT bi_int (by decide +kernel) (by decide) (by decide) hx
  · exact bB (bi_max2 hc) (by decide +kernel) (by decide) (by decide) hx
  · exact bB (bi_min2 hc) (by decide +kernel) (by decide) (by decide) hx
  · exact bB (bi_any C.eK hc) (by decide +kernel) (by decide) (by decide) hx
  · exact bB (bi_all C.eK hc) (by decide +kernel) (by decide) (by decide) hx
  · exact bT (bi_list C.eK) (by decide +kernel) (by decide) (by decide) hx
  · exact bT (bi_tuple C.eK) (by decide +kernel) (by decide) (by decide) hx
end
end LI
end
section
set_option Elab.async false
set_option linter.all false
set_option maxRecDepth 100000
set_option maxHeartbeats 4000000
/-! LiTr: t[::-1], text * int. -/
namespace LI
open PySem PySem.Spec PyProof.Rows L2 HT
section
variable {prog : Program} {w : World} {A : Around} {E : Value → Shared → Prop} {s : Shared}
theorem sl_rev {sl : Addr} {vl vu vs : Value} {n : Nat} {Q : Int × Int × Nat → Shared → Prop} (hs : s.heap.IsSliceOf sl vl vu vs) (pl : IsPart vl none) (pu : IsPart vu none) (ps : IsPart vs (some (-1)))
    (h : Q ((n : Int) - 1, -1, n) s) : wpAny (model prog w) A (Builtin.Slice.sliceApplied (.ref sl) (pure (n : Int))) Q E s := by
  obtain ⟨os, hos, hcs, hds⟩ := id hs
  unfold Builtin.Slice.sliceApplied Builtin.Slice.sliceFields
  refine wpAny_bind (wpAny_bind (wpAny_field hos hds (x := vl) rfl (wpAny_bind (wpAny_field hos hds (x := vu) rfl (wpAny_bind (wpAny_field hos hds (x := vs) rfl (wpAny_pure ?_)))))))
  refine wpAny_bind (slicePart_ ps ?_)
  show wpAny _ _ (if ((-1 : Int) == 0) = true then _ else _) _ _ s
  rw [if_neg (by decide)]
  refine wpAny_bind (slicePart_ pl (wpAny_bind (slicePart_ pu (wpAny_bind (wpAny_pure ?_)))))
  show wpAny _ _ (match Builtin.Slice.sliceAdjust none none (-1) (n : Int) with | (lo, hi) => pure (lo, (-1 : Int), Builtin.Slice.slicePlaces lo hi (-1))) _ _ s
  have e1 : Builtin.Slice.sliceAdjust none none (-1) (n : Int) = ((n : Int) - 1, -1) := by
    unfold Builtin.Slice.sliceAdjust
    have h1 : (-1 : Int) < 0 := by omega
    simp only [h1, if_true]
  have e2 : Builtin.Slice.slicePlaces ((n : Int) - 1) (-1) (-1) = n := by
    unfold Builtin.Slice.slicePlaces
    have h1 : ¬ ((-1 : Int) > 0) := by omega
    simp only [h1, if_false, Int.neg_neg, Int.ediv_one]
    split <;> omega
  rw [e1]
  show wpAny _ _ (pure ((n : Int) - 1, (-1 : Int), Builtin.Slice.slicePlaces ((n : Int) - 1) (-1) (-1))) _ _ s
  rw [e2]
  exact wpAny_pure h
theorem pick_rev (xs : Array Value) : ((List.range xs.size).filterMap fun (m : Nat) => xs[(((xs.size : Int) - 1) + (m : Int) * (-1)).toNat]?).toArray = xs.toList.reverse.toArray := by
  congr 1
  have key : ∀ k, k ≤ xs.size → (List.range k).filterMap (fun (m : Nat) => xs[(((xs.size : Int) - 1) + (m : Int) * (-1)).toNat]?) = (xs.toList.drop (xs.size - k)).reverse := by
    intro k
    induction k with
    | zero => intro _; simp
    | succ k ih =>
      intro hk
      rw [List.range_succ, List.filterMap_append, ih (by omega)]
      have e : (((xs.size : Int) - 1) + (k : Int) * (-1)).toNat = xs.size - (k + 1) := by omega
      have e2 : xs[xs.size - (k + 1)]? = some (xs.toList[xs.size - (k + 1)]'(by simp; omega)) := by
        rw [Array.getElem?_eq_getElem (by omega)]; rfl
      have e3 : xs.toList.drop (xs.size - (k + 1)) = xs.toList[xs.size - (k + 1)]'(by simp; omega) :: xs.toList.drop (xs.size - k) := by
        rw [List.drop_eq_getElem_cons (by simp; omega)]
        congr 2
        omega
      rw [e3, List.reverse_cons]
      congr 1
      simp only [List.filterMap_cons, List.filterMap_nil, e, e2]
  have := key xs.size (Nat.le_refl _)
  rw [Nat.sub_self, List.drop_zero] at this
  exact this
theorem getItem_tuple_rev {t sl : Addr} {items : Array Value} {vl vu vs : Value} {Q : Value → Shared → Prop} (ht : IsTup s.heap t items) (hs : s.heap.IsSliceOf sl vl vu vs) (pl : IsPart vl none) (pu : IsPart vu none) (ps : IsPart vs (some (-1)))
    (h : Q (.ref s.heap.objs.size) { s with heap := s.heap.push { cls := .type "tuple", data := .seq items.toList.reverse.toArray } })
    (hsz : items.size ≤ sizeLine) : wpAny (model prog w) A (getItem (.ref t) (.ref sl)) Q E s := by
  have htake : sizeOk (.seq items.toList.reverse.toArray) := by
    show items.toList.reverse.toArray.size ≤ sizeLine
    rw [List.size_toArray, List.length_reverse, Array.length_toList]
    exact hsz
  obtain ⟨os, hos, hcs, hds⟩ := id hs
  have hTs : s.TypeIs (.ref sl) "slice" := ⟨os, hos, hcs⟩
  unfold getItem
  try with_reducible refine wpAny_holding ?_
  first | refine wpAny_bind (wpAny_pure ?_) | skip
  refine wpAny_bind (wpAny_sequenceKey ht.typeIs (by decide) ?_)
  refine wpAny_bind (wpAny_callSpecial?_slot (name := Str.ofString "__getitem__") ht.typeIs PyProof.Rows.slot_tuple_getitem
    (wpAny_call_entry PyProof.Rows.slot_tuple_getitem ht.typeIs entry_tuple_getitem ?_ (args_tuple_getitem _ _)))
  show wpAny _ _ (Builtin.Tuple.tupleItemsOf (.ref t) >>= _) _ _ s
  refine wpAny_bind (tupleItemsOf_ ht ?_)
  refine wpAny_bind (wpAny_typeOf hTs ?_)
  rw [if_pos (by decide)]
  refine wpAny_bind (sl_rev hs pl pu ps ?_)
  have hno : ¬ ((((items.size : Int) - 1) == 0 && (-1 : Int) == 1 && items.size == items.size) = true) := by
    intro q
    rw [Bool.and_eq_true, Bool.and_eq_true] at q
    have q1 : (-1 : Int) = 1 := eq_of_beq q.1.2
    omega
  show wpAny _ _ (if (((items.size : Int) - 1) == 0 && (-1 : Int) == 1 && items.size == items.size) = true then _ else _) _ _ s
  rw [if_neg hno, pick_rev]
  first
    | exact wpAny_bind (m := Builtin.Tuple.tupleExact _) (wpAny_newObj_type (wpAny_pure ⟨_, rfl, wpAny_pure h⟩) htake)
    | exact wpAny_bind (m := Builtin.Tuple.tupleExact _) (wpAny_newObj_type (wpAny_bind (wpAny_pure (wpAny_pure ⟨_, rfl, wpAny_pure h⟩))) htake)
    | exact wpAny_bind (wpAny_bind (m := Builtin.Tuple.tupleExact _) (wpAny_newObj_type (wpAny_pure (wpAny_pure ⟨_, rfl, wpAny_pure h⟩)) htake))
    | exact wpAny_bind (wpAny_bind (m := Builtin.Tuple.tupleExact _) (wpAny_newObj_type (wpAny_pure ⟨_, rfl, wpAny_pure h⟩) htake))
end
section
variable {X : Cx}
/-- a list's or a tuple's [::-1] -/
def tRevX (K : PySem.W.Frag) (te : TE) : TE := fun σ H Q => te σ H fun x H1 => ∃ a xs, x = .ref a ∧ ((SqL K H1 a xs ∧ ∀ p, H1 p = none → Q (.ref p) (upd H1 p (.lst xs.reverse))) ∨ (SqT K H1 a xs ∧ ∀ p, H1 p = none → Q (.ref p) (upd H1 p (.tup xs.reverse))))
theorem pe_revX {e : Expr} {te : TE} {k : Nat} {p1 p2 p3 pos : Pos} (he : PE X e te) : PE X (.Subscript e (.Slice none none (some (.UnaryOp .USub (.Constant (.int 1) k p1) p2)) p3) pos) (tRevX X.K te) := by
  refine ⟨fun pins s σ H Q I h => ?_⟩
  refine Subscript_ (thn (he.run pins s σ H _ I h) fun v s1 ⟨x, H1, I1, r1, q1⟩ => ?_)
  obtain ⟨a, xs, ex, q⟩ := q1
  subst ex
  cases r1
  have hst : PO X (some (.UnaryOp .USub (.Constant (.int 1) k p1) p2)) (tPart (tUn (rU fun i => .int (-i)) (tC (.int 1)))) := po_some (pe_un un_neg pe_int)
  refine wpAny_Slice (thn (po_none.run pins s1 σ H1 (fun o H2 => o = none ∧ H2 = H1) I1 ⟨rfl, rfl⟩) fun vl s2 ⟨l, H2, I2, pl, el, e2⟩ => ?_)
  subst el e2
  refine thn (po_none.run pins s2 σ H2 (fun o H3 => o = none ∧ H3 = H2) I2 ⟨rfl, rfl⟩) fun vu s3 ⟨u, H3, I3, pu, eu, e3⟩ => ?_
  subst eu e3
  refine thn (hst.run pins s3 σ H3 (fun o H4 => o = some (-1) ∧ H4 = H3) I3 ⟨1, rfl, -1, rfl, rfl, rfl⟩) fun vs s4 ⟨o, H4, I4, ps, eo, e4⟩ => ?_
  subst eo e4
  have I5 : Inv X pins σ H4 { s4 with heap := s4.heap.push { cls := .type "slice", data := .fields #[vl, vu, vs] } } := I4.kept (t' := s4.toks) fun b ob q => Heap.get?_push_of_some _ q
  show wpAny (model X.prog X.w) X.A (subscriptTail e (.Slice none none (some (.UnaryOp .USub (.Constant (.int 1) k p1) p2)) p3) (.ref a) (.ref s4.heap.objs.size)) (EP X pins σ Q) X.xe { s4 with heap := s4.heap.push { cls := .type "slice", data := .fields #[vl, vu, vs] } }
  rcases q with ⟨hx, q⟩ | ⟨hx, q⟩
  · obtain ⟨its, r, ht, hz⟩ := I5.list hx
    have hlen := r.length
    refine tail_any (ops := [.ref a, .ref s4.heap.objs.size]) ht.isList.typeIs (PySem.slot_list_getitem.lookup) ?_ (by with_unfolding_all rfl)
    refine wpAny_getItem_list_slice ht.isList (Heap.IsSliceOf.new _ vl vu vs) pl pu ps (by decide) ?_ (by rw [List.size_toArray]; omega)
    rw [PySem.W.krv_pick]
    refine ⟨.ref _, _, I5.laid (t' := s4.toks) (o := .lst xs.reverse) (fun b ob q => Heap.get?_push_of_some _ q) (Nat.le_refl _) ?_, rfl, q _ (I5.hok.fresh (Nat.le_refl _))⟩
    exact ⟨by rw [List.length_reverse]; exact hz, _, 0, r.reverse, Heap.get?_push_size _ rfl⟩
  · obtain ⟨its, r, ht, hz⟩ := I5.tuple hx
    have hlen := r.length
    refine tail_any (ops := [.ref a, .ref s4.heap.objs.size]) ht.typeIs (PyProof.Rows.slot_tuple_getitem.lookup) ?_ (by with_unfolding_all rfl)
    refine getItem_tuple_rev ht (Heap.IsSliceOf.new _ vl vu vs) pl pu ps ?_ (by rw [List.size_toArray]; omega)
    refine ⟨.ref _, _, I5.laid (t' := s4.toks) (o := .tup xs.reverse) (fun b ob q => Heap.get?_push_of_some _ q) (Nat.le_refl _) ?_, rfl, q _ (I5.hok.fresh (Nat.le_refl _))⟩
    exact ⟨by rw [List.length_reverse]; exact hz, _, r.reverse, IsTup.new _ _⟩
end
section
variable {Γ : Ctx} {Wx : WX} {N : List Str} {sc : Scope} {k : Nat} {X : Cx} {en : En} {env : LI.Env} {ea : Expr} {pos : Pos} {ra : Sto → R W}
theorem se_rev {kk : Nat} {p1 p2 p3 : Pos} (C : XC Γ Wx N sc k X) (ha : PE X ea (tR Γ Wx en env ra (pRepX Γ))) :
    PE X (.Subscript ea (.Slice none none (some (.UnaryOp .USub (.Constant (.int 1) kk p1) p2)) p3) pos) (tR Γ Wx en env (fun s => (ra s).bind fun x s1 => evRev (drf s1 x) s1) (pN Γ)) := by
  refine PE.mono (pe_revX ha) ?_
  rintro σ H Q ⟨S, hr, sl, h⟩
  refine ⟨S, hr, sl, RP.mono h.seq fun x S1 H1 fr1 hr1 h1 v r1 => ?_⟩
  generalize ex : drf S1.S x = x' at h1
  unfold evRev at h1
  split at h1
  · rename_i xs
    obtain ⟨a, vs, rfl, h2, rs⟩ := lst_view hr1 r1 ex
    exact ⟨a, vs, rfl, .inl ⟨SqL.of h2, lay_lst fr1 hr1 rs.reverse h1⟩⟩
  · rename_i xs
    obtain ⟨a, vs, rfl, h2, rs⟩ := tup_view hr1 r1 ex
    exact ⟨a, vs, rfl, .inr ⟨C.eK ▸ h2, lay_tup hr1 rs.reverse h1⟩⟩
  · exact h1.elim
end
end LI
end
section
set_option Elab.async false
set_option linter.all false
set_option maxRecDepth 100000
set_option maxHeartbeats 4000000
/-! LiMx: max(xs, default=d), min(xs, default=d) of ints; list(range(..)). -/
namespace LI
open PySem PySem.Spec PyProof.Rows L2 PySem.W

theorem ints_reads {h : Heap} : ∀ {vs : List Value} {ns : List Int}, IntsAre vs ns → ReadsAll h vs (ns.map PyData.int) []
  | _, _, .nil => .nil
  | _, _, .cons n t r => by
    have := ReadsAll.cons (as := []) (bs := []) (Reads.int (h := h) n t) (ints_reads r)
    exact this
theorem alike_ints {ns : List Int} : AlikeAll (ns.map PyData.int) := by
  refine ⟨fun x hx y hy => ?_, fun x hx => ?_⟩
  · obtain ⟨n, _, rfl⟩ := List.mem_map.mp hx
    obtain ⟨m, _, rfl⟩ := List.mem_map.mp hy
    rfl
  · obtain ⟨n, _, rfl⟩ := List.mem_map.mp hx
    exact fun z => by cases z
theorem depth_ints : ∀ {ns : List Int}, PyData.depthAll (ns.map PyData.int) ≤ 100
  | [] => by rw [List.map_nil]; unfold PyData.depthAll; omega
  | n :: ns => by
    rw [List.map_cons]
    unfold PyData.depthAll
    have := depth_ints (ns := ns)
    unfold PyData.depth
    omega
theorem maxL_fold : ∀ (ns : List Int) (n : Int), ns.foldl max n = maxL n ns
  | [], _ => rfl
  | k :: r, n => by
    rw [List.foldl_cons, maxL_fold r]
    show _ = maxL (if k > n then k else n) r
    congr 1
    by_cases h : k > n
    · rw [if_pos h]; omega
    · rw [if_neg h]; omega
theorem minL_fold : ∀ (ns : List Int) (n : Int), ns.foldl min n = minL n ns
  | [], _ => rfl
  | k :: r, n => by
    rw [List.foldl_cons, minL_fold r]
    show _ = minL (if k < n then k else n) r
    congr 1
    by_cases h : k < n
    · rw [if_pos h]; omega
    · rw [if_neg h]; omega
theorem ba' {a b : Bool} (h : (a && b) = true) : a = true ∧ b = true := Bool.and_eq_true_iff.mp h
/-- the greatest or the least, or what is given -/
def extV (f : Int → List Int → Int) (ns : List Int) (d : V) : V := match ns with
  | [] => d
  | x :: r => .int (f x r)
def rExt (K : PySem.W.Frag) (f : Int → List Int → Int) : List V → List V → Hp → VK → Prop := fun vs zs H Q => ∃ (a : Addr) (ns : List Int) (d : V), vs = [.ref a] ∧ zs = [d] ∧ (SqL K H a (ns.map V.int) ∨ SqT K H a (ns.map V.int)) ∧ Q (extV f ns d) H
section
variable {X : Cx}
theorem maps_inj : ∀ {ns : List Int} {y : PyData} {ys : List PyData}, ns.map PyData.int = y :: ys → ∃ n ms, ns = n :: ms ∧ y = .int n ∧ ys = ms.map .int
  | n :: ms, _, _, h => by cases h; exact ⟨n, ms, rfl, rfl, rfl⟩
theorem reads_int {h : Heap} {v : Value} {n : Int} {bs : List Addr} (r : Reads h v (.int n) bs) : ∃ t, v = .int n t := by cases r; exact ⟨_, rfl⟩
theorem cr_maxDf (hc : X.calm = true) (hu : X.A.units + 200 < cLine) : CallRK X (.builtin "max") [Str.ofString "default"] (rExt X.K LI.maxL) := by
  intro pins s σ H vs zs us ws Q I r rz h
  obtain ⟨a, ns, d, rfl, rfl, hs, q⟩ := h
  obtain rfl := Vals.ref1 r
  obtain ⟨w1, rfl, e1⟩ := vals1 rz
  have dd := depth_ints (ns := ns)
  rcases hs with hs | hs
  · obtain ⟨its, rv, hl, _⟩ := I.list hs
    refine max_list_default (I.ok.hd hc) hl.isList (ints_reads rv.ints) alike_ints (by omega) (fun e h' tk hk => ?_) (fun y ys i v h' tk bs e _ rd hk => ?_)
    · cases ns with
      | nil => exact ⟨d, H, I.kept hk, e1, q⟩
      | cons _ _ => cases e
    · obtain ⟨n, ms, rfl, rfl, rfl⟩ := maps_inj e
      rw [maxD_ints, maxL_fold] at rd
      obtain ⟨t, rfl⟩ := reads_int rd
      exact ⟨.int _, H, I.kept hk, ⟨t, rfl⟩, q⟩
  · obtain ⟨its, rv, hl, _⟩ := I.tuple hs
    refine max_tuple_default (I.ok.hd hc) hl (ints_reads rv.ints) alike_ints (by omega) (fun e h' tk hk => ?_) (fun y ys i v h' tk bs e _ rd hk => ?_)
    · cases ns with
      | nil => exact ⟨d, H, I.kept hk, e1, q⟩
      | cons _ _ => cases e
    · obtain ⟨n, ms, rfl, rfl, rfl⟩ := maps_inj e
      rw [maxD_ints, maxL_fold] at rd
      obtain ⟨t, rfl⟩ := reads_int rd
      exact ⟨.int _, H, I.kept hk, ⟨t, rfl⟩, q⟩
theorem cr_minDf (hc : X.calm = true) (hu : X.A.units + 200 < cLine) : CallRK X (.builtin "min") [Str.ofString "default"] (rExt X.K LI.minL) := by
  intro pins s σ H vs zs us ws Q I r rz h
  obtain ⟨a, ns, d, rfl, rfl, hs, q⟩ := h
  obtain rfl := Vals.ref1 r
  obtain ⟨w1, rfl, e1⟩ := vals1 rz
  have dd := depth_ints (ns := ns)
  rcases hs with hs | hs
  · obtain ⟨its, rv, hl, _⟩ := I.list hs
    refine min_list_default (I.ok.hd hc) hl.isList (ints_reads rv.ints) alike_ints (by omega) (fun e h' tk hk => ?_) (fun y ys i v h' tk bs e _ rd hk => ?_)
    · cases ns with
      | nil => exact ⟨d, H, I.kept hk, e1, q⟩
      | cons _ _ => cases e
    · obtain ⟨n, ms, rfl, rfl, rfl⟩ := maps_inj e
      rw [minD_ints, minL_fold] at rd
      obtain ⟨t, rfl⟩ := reads_int rd
      exact ⟨.int _, H, I.kept hk, ⟨t, rfl⟩, q⟩
  · obtain ⟨its, rv, hl, _⟩ := I.tuple hs
    refine min_tuple_default (I.ok.hd hc) hl (ints_reads rv.ints) alike_ints (by omega) (fun e h' tk hk => ?_) (fun y ys i v h' tk bs e _ rd hk => ?_)
    · cases ns with
      | nil => exact ⟨d, H, I.kept hk, e1, q⟩
      | cons _ _ => cases e
    · obtain ⟨n, ms, rfl, rfl, rfl⟩ := maps_inj e
      rw [minD_ints, minL_fold] at rd
      obtain ⟨t, rfl⟩ := reads_int rd
      exact ⟨.int _, H, I.kept hk, ⟨t, rfl⟩, q⟩
end
section
variable {Γ : Ctx} {en : En} {S S1 S2 : Sn} {H H1 H2 : Hp} {env : LI.Env} {σ : L2.St} {Wx : WX}
variable {N : List Str} {sc : Scope} {k : Nat} {X : Cx} {ea ed : Expr} {pos p kp : Pos} {ra rd : Sto → R W}
theorem mx_hop {f : Int → List Int → Int} {S0 S : Sn} {H0 H : Hp} {σ : L2.St} {x y : W} {v u : V} {Q : VK} (fr : Fr S0 H0 S H) (hr : HR Γ S H) (rx : RepX Γ S H x v) (ry : RepX Γ S H y u)
    (h : RP Γ Wx σ S H (mxD f x y S.S) (fun w S' H' => ∀ v, pRep Γ S0 H0 w v S' H' → Q v H')) : rExt Γ.K f [v] [u] H Q := by
  unfold mxD biExt at h
  split at h
  · rename_i z r e
    obtain ⟨xs, e1, e2⟩ := Option.bind_eq_some_iff.mp e
    obtain ⟨a, vs, rfl, h1, rs⟩ := seq_view hr rx e1
    rw [intsOf_eq e2] at rs
    rw [Reps.ints_inv rs] at h1
    exact ⟨a, z :: r, u, rfl, rfl, h1, RP.done h hr _ rfl⟩
  · rename_i e
    obtain ⟨xs, e1, e2⟩ := Option.bind_eq_some_iff.mp e
    obtain ⟨a, vs, rfl, h1, rs⟩ := seq_view hr rx e1
    rw [intsOf_eq e2] at rs
    rw [Reps.ints_inv rs] at h1
    obtain ⟨w, e3, q⟩ := h.retO hr
    cases y with
    | int i =>
      cases e3
      exact ⟨a, [], u, rfl, rfl, h1, q _ (ry.rep fun _ z => by cases z)⟩
    | non =>
      cases e3
      exact ⟨a, [], u, rfl, rfl, h1, q _ (ry.rep fun _ z => by cases z)⟩
    | _ => cases e3
  · exact h.elim
theorem backTo1 {pos : Pos} {env : PySem.Env} (h : plainA ea = true) : backTo pos (starEach [ea] env) = (false, eval ea env) :: backTo pos (starEach [] env) := by
  rw [starEach_ok h]
  rfl
theorem se_mx {mn : Bool} {x : Str} (C : XC Γ Wx N sc k X) (hc : X.calm = true) (hx : Free Γ sc x) (hn : x = if mn then ("min" : Str) else "max") (hp : plainA ea = true)
    (ha : PE X ea (tR Γ Wx en env ra (pRepX Γ))) (hd : PE X ed (tR Γ Wx en env rd (pRepX Γ))) :
    PE X (.Call (.Name x p) [ea] [⟨some "default", ed, kp⟩] pos) (tR Γ Wx en env (fun s => (ra s).bind fun x s1 => (rd s1).bind fun y s2 => mxD (if mn then LI.minL else LI.maxL) x y s2) (pRep Γ)) := by
  have hp' : ([ea] : List Expr).all plainA = true := by simp [hp]
  cases mn with
  | true =>
    obtain rfl : x = ("min" : Str) := hn
    refine se_two (op := fun x y H Q => rExt X.K LI.minL [x] [y] H Q) (fun {ta tb} ha hb => PE.mono (pe_callBK (ks := [Str.ofString "default"]) (cr_minDf hc C.un) (hx.gl C) (hx.mg C) (by decide +kernel) (pa_cons ha pa_nil (starEach_ok hp)) (pk_cons hb pk_nil) (he := backTo1 hp) (hpl := backTo_plain hp')) fun σ H Q h => h) ha hd ?_
    intro S0 S H0 H σ x y v u Q fr hr rx ry h
    rw [C.eK]
    exact mx_hop fr hr rx ry h
  | false =>
    obtain rfl : x = ("max" : Str) := hn
    refine se_two (op := fun x y H Q => rExt X.K LI.maxL [x] [y] H Q) (fun {ta tb} ha hb => PE.mono (pe_callBK (ks := [Str.ofString "default"]) (cr_maxDf hc C.un) (hx.gl C) (hx.mg C) (by decide +kernel) (pa_cons ha pa_nil (starEach_ok hp)) (pk_cons hb pk_nil) (he := backTo1 hp) (hpl := backTo_plain hp')) fun σ H Q h => h) ha hd ?_
    intro S0 S H0 H σ x y v u Q fr hr rx ry h
    rw [C.eK]
    exact mx_hop fr hr rx ry h
/-! ### list(range(n)) -/
theorem rg_reps {F : Hp} {φ : Nat → Addr} {M : Nat} {n : Int} : Reps Γ F φ M (rngC 0 1 (rngLen 0 n 1)) (rgV 0 n) := by
  have len : rngLen 0 n 1 = n.toNat := by
    unfold rngLen
    rw [if_pos (by decide)]
    by_cases h : 0 < n
    · rw [if_pos h]
      have : (n - 0 - 1) / 1 + 1 = n := by omega
      rw [this]
    · rw [if_neg h]; omega
  have gen : ∀ (m : Nat) (a : Int), Reps Γ F φ M (rngC a 1 m) ((List.range m).map fun i => V.int (a + (i : Nat))) := by
    intro m
    induction m with
    | zero => intro a; exact Reps.nil
    | succ m ih =>
      intro a
      rw [List.range_succ_eq_map, List.map_cons, List.map_map]
      refine Reps.cons (show V.int (a + ((0 : Nat) : Int)) = V.int a by simp) ?_
      have := ih (a + 1)
      have e : (fun i : Nat => V.int (a + 1 + (i : Int))) = (fun i : Nat => V.int (a + (i : Int))) ∘ Nat.succ := by
        funext i
        show V.int _ = V.int _
        congr 1
        have : ((i.succ : Nat) : Int) = (i : Int) + 1 := by omega
        rw [this]; omega
      rw [← e]
      exact this
  rw [len]
  unfold rgV
  rw [Int.sub_zero]
  exact gen n.toNat 0
theorem se_rl {x y : Str} {p2 pos2 : Pos} (C : XC Γ Wx N sc k X) (hc : X.calm = true) (hx : Free Γ sc x) (hn : x = ("list" : Str)) (hy : Free Γ sc y) (hm : y = ("range" : Str)) (hp : plainA ea = true)
    (ha : PE X ea (tR Γ Wx en env ra (pRepX Γ))) :
    PE X (.Call (.Name x p) [.Call (.Name y p2) [ea] [] pos2] [] pos) (tR Γ Wx en env (fun s => (ra s).bind rlst) (pN Γ)) := by
  subst hn hm
  refine PE.mono (pe_listRg hc (hx.gl C) (hx.mg C) (prg_1 (hy.gl C) (hy.mg C) ha (starEach_ok hp)) (starEach_ok rfl)) ?_
  rintro σ H Q ⟨S, hr, sl, h⟩
  refine ⟨S, hr, sl, RP.mono h.seq fun w S1 H1 fr1 hr1 h1 v r1 => ?_⟩
  unfold rlst at h1
  split at h1
  · rename_i b
    split at h1
    · rename_i q
      obtain ⟨q1, q⟩ := ba' q
      obtain ⟨q2, q3⟩ := ba' q
      have z1 := of_decide_eq_true q1
      have z2 := of_decide_eq_true q2
      have z3 := of_decide_eq_true q3
      refine ⟨b, r1.int, ⟨by omega, by omega, by omega, by omega, by omega⟩, ?_⟩
      exact lay_lst fr1 hr1 rg_reps h1
    · exact h1.elim
  · exact h1.elim
/-! ### a constant of the module -/
theorem se_glob {x : Str} {w : W} {v : V} {u : Value} (C : XC Γ Wx N sc k X) (hg : sc.names.lookup x = some .globalImplicit) (hm : Γ.mg x = some u) (hv : RelV v u) (hr : ∀ F φ n, Rep Γ F φ n w v) (hd : (x == ("__debug__" : Str)) = false) :
    PE X (.Name x p) (tR Γ Wx en env (fun s => .ok w s) (pRep Γ)) := by
  refine se_const (pe_glob ?_ (by rw [C.eM]; exact hm) hv hd) hr
  show X.env.scope.names.lookup x = some .globalImplicit
  rw [C.eS]; exact hg
end
end LI
end
section
set_option Elab.async false
set_option linter.all false
set_option maxRecDepth 100000
set_option maxHeartbeats 4000000
/-! LiCall: attributes; calls of defs, methods, classes. -/
namespace LI
open PySem PySem.Spec PyProof.Rows L2

/-- what the program's text gives: where its defs stand, their parameters, .. -/
structure Pd where
  fa : Nat → Addr
  fd : Nat → FuncData
  ps : Nat → List Str
  kn : Nat → Option Str := fun _ => none     -- a keyword-only parameter
  kd : Nat → Bool := fun _ => false          -- .. whose default is None
structure Fx (Γ : Ctx) (D : Pd) : Prop where
  nmI : ∀ i j, Γ.nm i = Γ.nm j → i = j
  fo : ∀ c f, Γ.T.fo c f = true → Cls Γ.K (Γ.ca c) ∧ NoAttr Γ.K (Γ.ca c) (Γ.nm f)
  con : ∀ c f w, Γ.T.con c f = some w → Cls Γ.K (Γ.ca c) ∧ ∃ v u, Con Γ.K (Γ.ca c) (Γ.nm f) v u ∧ ∀ F φ N, Rep Γ F φ N w v
  meth : ∀ c m f, m < 1000 → Γ.T.meth c m = some f → Cls Γ.K (Γ.ca c) ∧ Meth Γ.K (Γ.ca c) (Γ.nm m) (D.fa f) ∧ D.kn f = none ∧ ∃ d, Γ.T.fn f = some d
  init : ∀ c f, Γ.T.init c = some f → Mk Γ.K (Γ.ca c) (D.fa f) ∧ ∃ d, Γ.T.fn f = some d
  binds : ∀ f d, Γ.T.fn f = some d → D.kn f = none → Binds Γ.K (D.fd f) (D.ps f) []
  pl : ∀ f d, Γ.T.fn f = some d → (D.ps f).length = d.np

section
variable {Γ : Ctx} {D : Pd} {en : En} {S S1 S2 : Sn} {H H1 H2 : Hp} {env : LI.Env} {σ : L2.St} {Wx : WX}
variable {N : List Str} {sc : Scope} {k : Nat} {X : Cx} {ea eb : Expr} {pos p apos : Pos} {ra rb : Sto → R W} {e : Expr} {es : List Expr} {rs : Sto → R (List W)}

/-! ### attributes -/
theorem lookup_fld {nm : Nat → Str} (hi : ∀ i j, nm i = nm j → i = j) {Fr : Hp} {φ : Nat → Addr} {n : Nat} (f : Nat) : ∀ {ks : List Nat} {fs : List W} {vs : List V}, Reps Γ Fr φ n fs vs → ks.length = fs.length →
    (∀ w, getF ks fs f = some w → ∃ v, ((ks.map nm).zip vs).lookup (nm f) = some v ∧ Rep Γ Fr φ n w v) ∧ (getF ks fs f = none → ((ks.map nm).zip vs).lookup (nm f) = none)
  | [], _, _, _, _ => ⟨fun w h => (by cases h), fun _ => rfl⟩
  | k :: ks, [], _, _, h => by cases h
  | k :: ks, w :: fs, _, ⟨v, vs, e, r1, r2⟩, h => by
    subst e
    have ih := lookup_fld hi f r2 (Nat.succ.inj h)
    by_cases q : k = f
    · subst q
      refine ⟨fun w' h' => ?_, fun h' => ?_⟩
      · have : getF (k :: ks) (w :: fs) k = some w := by simp [getF]
        rw [this] at h'
        cases h'
        exact ⟨v, by simp [List.lookup], r1⟩
      · simp [getF] at h'
    · have e1 : getF (k :: ks) (w :: fs) f = getF ks fs f := by simp [getF, q]
      have ne : (nm f == nm k) = false := by
        rw [beq_eq_false_iff_ne]
        exact fun z => q (hi _ _ z).symm
      have e2 : (((k :: ks).map nm).zip (v :: vs)).lookup (nm f) = ((ks.map nm).zip vs).lookup (nm f) := by
        show (((nm k), v) :: (ks.map nm).zip vs).lookup (nm f) = _
        rw [List.lookup, ne]
      rw [e1, e2]
      exact ih
/-- an object as it lies -/
theorem obj_view {w : W} {v : V} {o : Nat × List Nat × List W} (hr : HR Γ S H) (r : RepX Γ S H w v) (h : objOf S.S w = some o) :
    ∃ a dx vs, v = .ref a ∧ H a = some (.ins (Γ.ca o.1) dx ((o.2.1.map Γ.nm).zip vs)) ∧ RepsS Γ S o.2.2 vs ∧ o.2.1.length = o.2.2.length := by
  cases w with
  | obj c ks fs =>
    cases h
    obtain ⟨a, dx, vs, rfl, h1, h2, h3⟩ := r.rep fun _ z => by cases z
    exact ⟨a, dx, vs, rfl, hr.sub _ _ h1, h2, h3⟩
  | cell n =>
    have h' : (match S.S[n]? with | some (Cl.obj c ks fs) => some (c, ks, fs) | _ => none) = some o := h
    split at h'
    · rename_i c ks fs e
      cases h'
      obtain ⟨_, rfl⟩ := r.rep fun _ z => by cases z
      obtain ⟨_, dx, vs, h1, h2, h3⟩ := hr.cel n _ e
      exact ⟨_, dx, vs, rfl, h1, h2, h3⟩
    · cases h'
  | _ => cases h
theorem pe_or2 {t t' : TE} (h : PE X e t) (h' : PE X e t') : PE X e (fun σ H Q => t σ H Q ∨ t' σ H Q) := ⟨fun pins s σ H Q I hw => hw.elim (h.run pins s σ H Q I) (h'.run pins s σ H Q I)⟩
/-- an attribute or a class's constant, found by the value -/
def tFC (K : PySem.W.Frag) (ta : TE) (f : Str) : TE := fun σ H Q => ta σ H fun x H1 => ∃ a C dx fs, x = .ref a ∧ H1 a = some (.ins C dx fs) ∧ Cls K C ∧
  ((∃ v, NoAttr K C f ∧ fs.lookup f = some v ∧ Q v H1) ∨ (∃ v u, Con K C f v u ∧ fs.lookup f = none ∧ Q v H1))
theorem pe_fc {ta : TE} {f : Str} (he : PE X e ta) (hb : attributeBase e f X.env (eval e X.env) = eval e X.env) : PE X (.Attribute e f pos) (tFC X.K ta f) := by
  refine ⟨fun pins s σ H Q I h => ?_⟩
  refine attr_of hb (thn (he.run pins s σ H _ I h) fun u s1 ⟨x, H1, I1, rx, a, C, dx, fs, ex, ea, c, q⟩ => ?_)
  subst ex
  obtain rfl : u = Value.ref a := rx
  rcases q with ⟨v, n, l, q⟩ | ⟨v, u0, k, l, q⟩
  · exact getattr_ok I1 ea c n l fun u' s2 I2 ru => ⟨v, H1, I2, ru, q⟩
  · exact getcon_ok I1 ea c k l fun s2 I2 => ⟨v, H1, I2, k.rel, q⟩
theorem fc_at (F : Fx Γ D) {a : Addr} {c f : Nat} {dx : Addr} {ks : List Nat} {fs : List W} {vs : List V} {w : W} {Q : VK} (ha : H a = some (.ins (Γ.ca c) dx ((ks.map Γ.nm).zip vs))) (rs : RepsS Γ S fs vs) (hl : ks.length = fs.length)
    (h : fldOf Γ.T c ks fs f = some w) (q : ∀ v, RepS Γ S w v → Q v H) : ∃ a' C dx fs, V.ref a = .ref a' ∧ H a' = some (.ins C dx fs) ∧ Cls Γ.K C ∧
      ((∃ v, NoAttr Γ.K C (Γ.nm f) ∧ fs.lookup (Γ.nm f) = some v ∧ Q v H) ∨ (∃ v u, Con Γ.K C (Γ.nm f) v u ∧ fs.lookup (Γ.nm f) = none ∧ Q v H)) := by
  obtain ⟨l1, l2⟩ := lookup_fld F.nmI f rs hl
  unfold fldOf at h
  split at h
  · rename_i v e
    split at h
    · rename_i ho
      cases h
      obtain ⟨v, e2, r⟩ := l1 _ e
      obtain ⟨c1, c2⟩ := F.fo _ _ ho
      exact ⟨a, _, dx, _, rfl, ha, c1, .inl ⟨v, c2, e2, q v r⟩⟩
    · cases h
  · rename_i e
    obtain ⟨c1, v, u, c2, r⟩ := F.con _ _ _ h
    exact ⟨a, _, dx, _, rfl, ha, c1, .inr ⟨v, u, c2, l2 e, q v (r _ _ _)⟩⟩
theorem se_fld {f : Nat} {x : Str} (C : XC Γ Wx N sc k X) (F : Fx Γ D) (hx : Γ.nm f = x) (ha : PE X ea (tR Γ Wx en env ra (pRepX Γ))) (hb : attributeBase ea x X.env (eval ea X.env) = eval ea X.env) :
    PE X (.Attribute ea x pos) (tR Γ Wx en env (fun s => (ra s).bind fun y s1 => evFld Γ.T y f s1) (pRep Γ)) := by
  subst hx
  refine PE.mono (pe_fc ha hb) ?_
  rintro σ H Q ⟨S, hr, sl, h⟩
  refine ⟨S, hr, sl, RP.mono h.seq fun y S1 H1 fr1 hr1 h1 v r1 => ?_⟩
  obtain ⟨w, e, q⟩ := h1.retO hr1
  obtain ⟨o, e1, e2⟩ := Option.bind_eq_some_iff.mp e
  obtain ⟨a, dx, vs, rfl, h2, h3, h4⟩ := obj_view hr1 r1 e1
  rw [C.eK]
  exact fc_at F h2 h3 h4 e2 q
/-- self.x in __init__ -/
theorem se_slf {f : Nat} {x y : Str} (C : XC Γ Wx N sc k X) (F : Fx Γ D) (hx : Γ.nm f = x) (hN : N[0]? = some y) (hv : Vis sc y) (hd : (y == ("__debug__" : Str)) = false) (hcd : (y == ("__classdict__" : Str)) = false)
    (hb : attributeBase (.Name y p) x X.env (eval (.Name y p) X.env) = eval (.Name y p) X.env) :
    PE X (.Attribute (.Name y p) x pos) (tR Γ Wx en env (vSlf Γ.T env f) (pRep Γ)) := by
  subst hx
  refine PE.mono (pe_fc (pe_var (i := 0) (by rw [C.eN]; exact hN) (by rw [C.eS]; exact hv) hd hcd) hb) ?_
  rintro σ H Q ⟨S, hr, sl, h⟩
  unfold vSlf at h
  split at h
  · rename_i c ks fs e
    obtain ⟨o, eo, e1, ow, dx, vs, h2, h3, h4⟩ := sl.slot e
    obtain ⟨w, e2, q⟩ := h.retO hr
    subst e1
    refine ⟨_, eo, ?_⟩
    rw [C.eK]
    exact fc_at F h2 h3 h4 e2 q
  · exact h.elim

/-! ### what a call keeps -/
def WXE (E : XK) : WX := fun cls d _ H' => E cls d H'
/-- a def's promise: what the small language says of it -/
def spF (Γ : Ctx) (rd : List W → Sto → R W) : Sp := fun vs H Q E => ∃ S ws, HR Γ S H ∧ RepsS Γ S ws vs ∧ RP Γ (WXE E) [] S H (rd ws S.S) fun w S' H' => ∀ v, RepS Γ S' w v → Q v H'
/-- .. of an __init__ that makes an object of class c -/
def spI (Γ : Ctx) (c : Nat) (rd : List W → Sto → R (List Nat × List W)) : Sp := fun vs H Q E => ∃ S H0 ws x dx vs', vs = .ref x :: vs' ∧ H0 x = none ∧ H0 dx = none ∧ dx ≠ x ∧ H = upd (upd H0 dx (.own x)) x (.ins (Γ.ca c) dx []) ∧
  HR Γ S H0 ∧ RepsS Γ S ws vs' ∧ RP Γ (WXE E) [] S H0 (rd ws S.S) fun o S' H' => ∀ dx' us, H' x = some (.ins (Γ.ca c) dx' ((o.1.map Γ.nm).zip us)) → RepsS Γ S' o.2 us → o.1.length = o.2.length → S'.F x = none → S'.off x → Q .non H'
theorem RP.to {α : Type} {r : R α} {kk : α → Sn → Hp → Prop} (h : RP Γ Wx σ S H r kk) : RP Γ (WXE fun cls d H' => Wx cls d σ H') [] S H r kk := by
  cases r with
  | ok a s => exact h
  | ex x s => exact h
  | no => exact h
theorem RP.from {α : Type} {r : R α} {kk : α → Sn → Hp → Prop} {E : XK} (h : RP Γ (WXE E) [] S H r kk) (hW : ∀ cls d H', E cls d H' → Wx cls d σ H') : RP Γ Wx σ S H r kk := by
  cases r with
  | ok a s => exact h
  | ex x s => exact fun S' H' cls d e fr hr xr => hW _ _ _ (h S' H' cls d e fr hr xr)
  | no => exact h
/-- all defs at a level: what they keep -/
structure Lv (Γ : Ctx) (D : Pd) (k : Nat) (cf : Call) (ci : CallI) : Prop where
  fn : ∀ f d, Γ.T.fn f = some d → FnOk Γ.P Γ.w Γ.K Γ.mg Γ.base (L2.CX Γ.P Γ.w) k (D.fa f) (D.fd f) (D.ps f) (spF Γ (cf f))
  ini : ∀ f d c, Γ.T.fn f = some d → FnOk Γ.P Γ.w Γ.K Γ.mg Γ.base (L2.CX Γ.P Γ.w) k (D.fa f) (D.fd f) (D.ps f) (spI Γ c (ci f c))
  fnN : ∀ f, Γ.T.fn f = none → ∀ ws s, cf f ws s = .no
  inN : ∀ f c, Γ.T.fn f = none → ∀ ws s, ci f c ws s = .no
theorem XC.fn (C : XC Γ Wx N sc k X) {f : Addr} {fd : FuncData} {ps : List Str} {sp : Sp} {j : Nat} (h : FnOk Γ.P Γ.w Γ.K Γ.mg Γ.base (L2.CX Γ.P Γ.w) j f fd ps sp) : FnOk X.prog X.w X.K X.mg X.base (L2.CX X.prog X.w) j f fd ps sp := by
  rw [C.eP, C.ew, C.eK, C.eM, C.eB]
  exact h

/-! ### calls -/
variable {cf : Call} {ci : CallI} {j : Nat}
/-- a def runs: from the reading to the callee's promise -/
theorem call_sp {f : Nat} {d : FD} {ws : List W} {vs : List V} {Q : VK} (hr : HR Γ S H) (r : RepsS Γ S ws vs) (h : RP Γ Wx σ S H (cf f ws S.S) fun w S' H' => ∀ v, RepS Γ S' w v → Q v H') : spF Γ (cf f) vs H Q (WE Wx σ) := ⟨S, ws, hr, r, h.to⟩

theorem XC.gl {x : Str} (C : XC Γ Wx N sc k X) (hg : sc.names.lookup x = some .globalImplicit) : Gl X x := by show X.env.scope.names.lookup x = _; rw [C.eS]; exact hg
theorem call_key {f : Nat} {d : FD} {σ : L2.St} {H : Hp} {Q : VK} (h : tR Γ Wx en env (fun s => (rs s).bind fun ws s1 => cf f ws s1) (pRep Γ) σ H Q) : tR Γ Wx en env rs (pReps Γ) σ H fun vs H1 => spF Γ (cf f) vs H1 Q (WE Wx σ) := by
  obtain ⟨S, hr, sl, h⟩ := h
  exact ⟨S, hr, sl, RP.mono h.seq fun ws S1 H1 fr1 hr1 h1 vs r1 => call_sp (d := d) hr1 r1 h1⟩
/-- the node of a call behind the callee: the written arguments, then the call itself -/
def AC (X : Cx) (pos : Pos) (es : List Expr) (t : TA) : Prop := ∀ (pins : List (Addr × Obj)) (s : Shared) (σ : L2.St) (H : Hp) (P : List V → Hp → Prop) (g : Value) (first : List Value) (Q : Value → Shared → Prop), Inv X pins σ H s → PySem.W.keepIn X.K g = true → t σ H P →
  (∀ us s2 vs H2, Inv X pins σ H2 s2 → Vals vs us → P vs H2 → wpAny (model X.prog X.w) X.A (call g (first ++ us)) Q X.xe s2) →
  wpAny (model X.prog X.w) X.A (callWith pos g first (backTo pos (starEach es X.env)) []) Q X.xe s
theorem ac_of {t : TA} (hp : es.all plainA = true) (hs : PA X es t) (h0 : es = [] → ∀ σ H P, t σ H P → P [] H) : AC X pos es t := by
  intro pins s σ H P g first Q I hk h hc
  cases es with
  | nil => exact PySem.W.callWith_K0 I.kIn hk (hc [] s [] H I .nil (h0 rfl _ _ _ h))
  | cons b es =>
    rw [List.all_cons, Bool.and_eq_true] at hp
    exact PySem.W.callWith_K (first := first) (h₀ := X.base) I.ok.mod.kin hk (thn (hs.run pos pins s σ H P I h) fun us s2 ⟨vs, H2, I2, r, q2⟩ => ⟨I2.kIn, hc us s2 vs H2 I2 r q2⟩) (starEach_ok hp.1) (backTo_plain hp.2)
theorem se_call {f : Nat} {d : FD} {x : Str} (C : XC Γ Wx N sc k X) (hc : X.calm = true) (F : Fx Γ D) (L : Lv Γ D j cf ci) (hj : j ≤ k) (e : Γ.T.fn f = some d) (hk0 : D.kn f = none) (hg : sc.names.lookup x = some .globalImplicit) (hm : Γ.mg x = some (.ref (D.fa f))) (hk : PySem.W.keepIn Γ.K (.ref (D.fa f)) = true)
    (hd : (x == ("__debug__" : Str)) = false) (hs : AC X pos es (tR Γ Wx en env rs (pReps Γ))) :
    PE X (.Call (.Name x p) es [] pos) (tR Γ Wx en env (fun s => (rs s).bind fun ws s1 => cf f ws s1) (pRep Γ)) := by
  refine ⟨fun pins s σ H Q I h => ?_⟩
  refine wpAny_Call_Name_kw (ld_glob I (C.gl hg) (by rw [C.eM]; exact hm) ?_ hd)
  refine hs pins s σ H _ _ [] _ I (by rw [C.eK]; exact hk) (call_key (d := d) h) fun us s2 vs H2 I2 r q => ?_
  exact run_fnS (C.fn (L.fn f d e)) ((C.rm hc).mono hj) (by rw [C.eK]; exact F.binds f d e hk0) (passAt C.tk σ) I2 r q

/-! ### methods -/
def plainO : Expr → Bool
  | .Call _ [] [] _ => false
  | _ => true
theorem plainO_ok {e : Expr} {m : Str} {env : PySem.Env} {w : Sem Value} (h : plainO e = true) : attributeBase e m env w = w := by
  cases e with
  | Call f es ks ps =>
    cases es with
    | cons a es => cases f <;> rfl
    | nil =>
      cases ks with
      | nil => cases h
      | cons a ks => cases f <;> rfl
  | _ => rfl
theorem form_all {env : PySem.Env} : ∀ {es : List Expr}, es.all plainA = true → (backTo pos (starEach es env)).all (!·.1) = true
  | [], _ => rfl
  | e :: es, h => by
    rw [List.all_cons, Bool.and_eq_true] at h
    rw [starEach_ok h.1]
    show (true && (backTo pos (starEach es env)).all (!·.1)) = true
    rw [form_all h.2]
    rfl
theorem form_ok {es : List Expr} {env : PySem.Env} (hp : es.all plainA = true) (hn : es.length < 30) : methodCallForm (es.length + ([] : List Keyword).length) (backTo pos (starEach es env)) (backToKw pos (keywordEach [] env)) = true := by
  have h2 : backToKw pos (keywordEach [] env) = [] := rfl
  unfold methodCallForm
  rw [form_all hp, h2]
  simp
  exact hn
theorem meth_ht {o : Expr} {m : Str} {es : List Expr} {env : PySem.Env} (ho : plainO o = true) (hp : es.all plainA = true) (hn : es.length < 30) (hl : (apos.endLine == pos.line) = true) :
    eval (.Call (.Attribute o m apos) es [] pos) env = (do
      let ov ← eval o env
      standAt apos.atName
      let (f, first) ← holding [ov] (getMethod ov m (plainOf o env))
      callWith pos f first (backTo pos (starEach es env)) (backToKw pos (keywordEach [] env))) := by
  rw [arm_eval_Call, plainO_ok ho]
  congr 1
  funext ov
  congr 1
  funext _
  exact mcall_line (form_ok hp hn) hl
theorem se_meth {m : Nat} {x : Str} (hm : m < 1000) (C : XC Γ Wx N sc k X) (hc : X.calm = true) (F : Fx Γ D) (L : Lv Γ D j cf ci) (hj : j ≤ k) (hx : Γ.nm m = x) (ho : plainO ea = true) (hp : es.all plainA = true) (hn : es.length < 30) (hl : (apos.endLine == pos.line) = true)
    (ha : PE X ea (tR Γ Wx en env ra (pRepX Γ))) (hs : AC X pos es (tR Γ Wx en env rs (pReps Γ))) :
    PE X (.Call (.Attribute ea x apos) es [] pos) (tR Γ Wx en env (fun s => (ra s).bind fun y s1 => withF (vMeth Γ.T s1 y m) fun f => (rs s1).bind fun ws s2 => cf f (y :: ws) s2) (pRep Γ)) := by
  subst hx
  refine ⟨fun pins s σ H Q I h => ?_⟩
  obtain ⟨S, hr, sl, h⟩ := h
  refine PySem.W.methodCall_KW (pl := plainOf ea X.env) (thn (ha.run pins s σ H (fun v H1 => ∃ S1 y, HR Γ S1 H1 ∧ SlR Γ en S1 H1 env σ ∧ RepX Γ S1 H1 y v ∧ RP Γ Wx σ S1 H1 (withF (vMeth Γ.T S1.S y m) fun f => (rs S1.S).bind fun ws s2 => cf f (y :: ws) s2) fun w S' H' => ∀ v, pRep Γ S H w v S' H' → Q v H') I
    ⟨S, hr, sl, RP.mono h.seq fun y S1 H1 fr1 hr1 h1 v r1 => ⟨S1, y, hr1, sl.mono hr fr1, r1, h1⟩⟩) fun u s1 ⟨v, H1, I1, rv, S1, y, hr1, sl1, r1, h1⟩ => ?_) (meth_ht ho hp hn hl)
  cases e : vMeth Γ.T S1.S y m with
  | none => rw [e] at h1; exact h1.elim
  | some f =>
    rw [e, withF_some] at h1
    obtain ⟨o, e1, e2⟩ := Option.bind_eq_some_iff.mp e
    have e3 : (getF o.2.1 o.2.2 m) = none ∧ Γ.T.meth o.1 m = some f := by
      split at e2
      · rename_i q
        exact ⟨Option.isNone_iff_eq_none.mp q, e2⟩
      · cases e2
    obtain ⟨a, dx, vs, rfl, h2, h3, h4⟩ := obj_view hr1 r1 e1
    obtain rfl : u = Value.ref a := rv
    obtain ⟨c1, c2, hk0, d, ed⟩ := F.meth _ _ _ hm e3.2
    have hl2 := (lookup_fld F.nmI m h3 h4).2 e3.1
    have ry : RepS Γ S1 y (.ref a) := r1.rep fun xs z => by rw [z] at e1; cases e1
    refine getmeth_ok I1 h2 (by rw [C.eK]; exact c1) (by rw [C.eK]; exact c2) hl2 ?_
    refine hs pins s1 σ H1 (fun vs H2 => spF Γ (cf f) (.ref a :: vs) H2 Q (WE Wx σ)) _ [.ref a] _ I1 (by rw [C.eK]; exact c2.kp) ⟨S1, hr1, sl1, RP.mono h1.seq fun ws S2 H2 fr2 hr2 q vs r2 => call_sp (d := d) hr2 (Reps.cons (fr2.rep ry) r2) q⟩ fun us s2 vs H2 I2 r q => ?_
    exact run_fnS (us := .ref a :: us) (vs := .ref a :: vs) (C.fn (L.fn f d ed)) ((C.rm hc).mono hj) (by rw [C.eK]; exact F.binds f d ed hk0) (passAt C.tk σ) I2 (.cons rfl r) q

/-! ### making -/
theorem run_makeS {C f : Addr} {fd : FuncData} {ps : List Str} {sp : Sp} {CX : CXT} {E : XK} {pins : List (Addr × Obj)} {s : Shared} {Q : VK} {us : List Value} {vs : List V} (M : Mk X.K C f) (Fo : FnOk X.prog X.w X.K X.mg X.base CX k f fd ps sp) (hr : Room (k + 1) X.A) (hb : Binds X.K fd ps [])
    (hx : PassesAt CX X σ E) (I : Inv X pins σ H s) (r : Vals vs us)
    (h : ∀ x dx, H x = none → H dx = none → dx ≠ x → sp (.ref x :: vs) (upd (upd H dx (.own x)) x (.ins C dx [])) (fun v H2 => v = .non ∧ Q (.ref x) H2) E) :
    wpAny (model X.prog X.w) X.A (call (.ref C) us) (EP X pins σ Q) X.xe s := by
  have hq := h (s.heap.objs.size + 1) s.heap.objs.size (I.hok.fresh (Nat.le_succ _)) (I.hok.fresh (Nat.le_refl _)) (Nat.ne_of_lt (Nat.lt_succ_self _))
  have I2 := Inv.made (C := C) I
  have r2 : Vals (V.ref (s.heap.objs.size + 1) :: vs) (Value.ref (s.heap.objs.size + 1) :: us) := .cons rfl r
  have hl : (Value.ref (s.heap.objs.size + 1) :: us).length = ps.length := by
    have e := r2.length
    rw [Fo.len _ _ _ _ hq] at e
    exact e.symm
  have b := hb _ (Value.ref (s.heap.objs.size + 1) :: us) I2.kIn (by rw [List.append_nil]; exact hl)
  rw [List.append_nil] at b
  refine wpAny_call (make_map (f := f) I.kIn M.makes M.init (beq_iff_eq.mp M.fn) (codeAny_mono (Fo.run _ X.stack _ _ ⟨Value.ref (s.heap.objs.size + 1) :: us, []⟩ (Value.ref (s.heap.objs.size + 1) :: us) _ _ E (hr.make C us [])
    (I2.env0.make C us []) b r2 hq) fun r s' hq' => ?_))
  cases r with
  | error e => exact hx pins _ _ e s' I2 hq'
  | ok fl =>
    cases fl with
    | ret u =>
      obtain ⟨v, H', I3, rv, ev, q3⟩ := I2.after hq'
      subst ev
      exact ⟨rv, ⟨V.ref (s.heap.objs.size + 1), H', I3, rfl, q3⟩⟩
    | next => exact False.elim hq'
    | brk => exact False.elim hq'
    | cont => exact False.elim hq'
theorem frz_newO' {S' : Sn} {H' : Hp} {a : Addr} {o : HO} (fr : Fr S H S' H') (hn : H a = none) (hf : S'.F a = none) : Fr S H (S'.frz a o) H' where
  f := fr.f.trans (Sub.new hf)
  n := fr.n
  φ := fr.φ
  keep := fr.keep
  own := fun u o' hu hf' hof => by
    show upd S'.F a o u = none
    have hne : u ≠ a := fun z => by subst z; rw [hn] at hu; cases hu
    rw [upd_ne hne]
    exact fr.own u o' hu hf' hof
  new := fr.new
  live := fr.live
  there := fr.there
theorem se_mk {c f : Nat} {x : Str} (C : XC Γ Wx N sc k X) (hc : X.calm = true) (F : Fx Γ D) (L : Lv Γ D j cf ci) (hj : j + 1 ≤ k) (e : Γ.T.init c = some f) (hk0 : D.kn f = none) (hg : sc.names.lookup x = some .globalImplicit) (hm : Γ.mg x = some (.ref (Γ.ca c)))
    (hd : (x == ("__debug__" : Str)) = false) (hs : AC X pos es (tR Γ Wx en env rs (pReps Γ))) :
    PE X (.Call (.Name x p) es [] pos) (tR Γ Wx en env (fun s => (rs s).bind fun ws s1 => vMk Γ.T ci c ws s1) (pRep Γ)) := by
  obtain ⟨M, d, ed⟩ := F.init c f e
  refine ⟨fun pins s σ H Q I h => ?_⟩
  obtain ⟨S, hr, sl, h⟩ := h
  refine wpAny_Call_Name_kw (ld_glob I (C.gl hg) (by rw [C.eM]; exact hm) ?_ hd)
  refine hs pins s σ H (fun vs H1 => ∃ S1 ws, HR Γ S1 H1 ∧ RepsS Γ S1 ws vs ∧ RP Γ Wx σ S1 H1 ((ci f c ws S1.S).bind fun o s2 => .ok (.obj c o.1 o.2) s2) fun w S' H' => ∀ v, pRep Γ S H w v S' H' → Q v H') _ [] _ I (by rw [C.eK]; exact M.kp)
    ⟨S, hr, sl, RP.mono h.seq fun ws S1 H1 fr1 hr1 h1 vs r1 => ⟨S1, ws, hr1, r1, by unfold vMk at h1; rw [e] at h1; exact h1⟩⟩ fun us s2 vs H2 I2 r ⟨S1, ws, hr1, r1, h1⟩ => ?_
  refine run_makeS (by rw [C.eK]; exact M) (C.fn (L.ini f d c ed)) ((C.rm hc).mono hj) (by rw [C.eK]; exact F.binds f d ed hk0) (passAt C.tk σ) I2 r fun x dx hx hdx hne => ?_
  refine ⟨S1, H2, ws, x, dx, vs, rfl, hx, hdx, hne, rfl, hr1, r1, RP.to ?_⟩
  cases er : ci f c ws S1.S with
  | no => rw [er] at h1; exact h1
  | ex y s => rw [er] at h1; exact h1
  | ok o s =>
    rw [er] at h1
    rintro S3 H3 es3 fr3 hr3 dx' us' e1 e2 e3 e4 e5
    exact ⟨rfl, h1 (S3.frz x (.ins (Γ.ca c) dx' ((o.1.map Γ.nm).zip us'))) H3 es3 (frz_newO' fr3 hx e4) (hr3.freeze e1 e4 e5) _ ⟨x, dx', us', rfl, upd_same, Reps.mono (Sub.new e4) (Nat.le_refl _) (fun _ _ => rfl) _ _ e2, e3⟩⟩
/-! ### new cells -/
/-- a cell more, at a -/
def Sn.add (S : Sn) (a : Addr) (c : Cl) : Sn := ⟨S.F, fun n => if n = S.S.length then a else S.φ n, S.S ++ [c]⟩
theorem add_φ {a : Addr} {c : Cl} {n : Nat} (h : n < S.S.length) : (S.add a c).φ n = S.φ n := if_neg (Nat.ne_of_lt h)
theorem add_live {a : Addr} {c : Cl} {n : Nat} (h : (S.add a c).live n) : S.live n ∨ n = S.S.length := by
  obtain ⟨c', e, l⟩ := h
  have e' : (S.S ++ [c])[n]? = some c' := e
  by_cases q : n < S.S.length
  · rw [List.getElem?_append_left q] at e'
    exact .inl ⟨c', e', l⟩
  · have := (List.getElem?_eq_some_iff.mp e').1
    rw [List.length_append] at this
    simp at this
    exact .inr (by omega)
theorem HR.addC {a : Addr} {c : Cl} (hr : HR Γ S H) (hf : S.F a = none) (ho : S.off a) (hc : ClR Γ (S.add a c) H a c) : HR Γ (S.add a c) H := by
  refine ⟨hr.sub, fun n c' e => ?_, fun n m l1 l2 e => ?_⟩
  · have e' : (S.S ++ [c])[n]? = some c' := e
    by_cases q : n < S.S.length
    · rw [List.getElem?_append_left q] at e'
      rw [add_φ q]
      exact (hr.cel n c' e').mono (S' := S.add a c) (Sub.refl _) (by show _ ≤ (S.S ++ [c]).length; rw [List.length_append]; omega) (fun _ h => add_φ h) (fun l => (hr.liveF ⟨c', e', l⟩).1) fun _ z => z
    · have := (List.getElem?_eq_some_iff.mp e').1
      rw [List.length_append] at this
      simp at this
      have en : n = S.S.length := by omega
      subst en
      rw [List.getElem?_append_right (Nat.le_refl _)] at e'
      simp at e'
      subst e'
      rw [show (S.add a c).φ S.S.length = a from if_pos rfl]
      exact hc
  · rcases add_live l1 with l1 | rfl
    · rcases add_live l2 with l2 | rfl
      · rw [add_φ l1.lt, add_φ l2.lt] at e
        exact hr.inj n m l1 l2 e
      · rw [add_φ l1.lt, show (S.add a c).φ S.S.length = a from if_pos rfl] at e
        exact absurd e (ho n l1)
    · rcases add_live l2 with l2 | rfl
      · rw [add_φ l2.lt, show (S.add a c).φ S.S.length = a from if_pos rfl] at e
        exact absurd e.symm (ho m l2)
      · rfl
theorem Fr.addC {S0 : Sn} {H0 : Hp} {a : Addr} {c : Cl} (fr : Fr S0 H0 S H) (hn : H0 a = Option.none) : Fr S0 H0 (S.add a c) H where
  f := fr.f
  n := by have := fr.n; show _ ≤ (S.S ++ [c]).length; rw [List.length_append]; omega
  φ := fun n h => (add_φ (Nat.lt_of_lt_of_le h fr.n)).trans (fr.φ n h)
  keep := fr.keep
  own := fr.own
  new := fun n h1 h2 => by
    by_cases q : n < S.S.length
    · rw [add_φ q]; exact fr.new n h1 q
    · have : n = S.S.length := by
        have h2' : n < (S.S ++ [c]).length := h2
        rw [List.length_append] at h2'
        simp at h2'
        omega
      subst this
      rw [show (S.add a c).φ S.S.length = a from if_pos rfl]
      exact hn
  live := fun n h l => by
    rcases add_live l with l | rfl
    · exact fr.live n h l
    · exact absurd fr.n (by omega)
  there := fr.there
theorem se_mkC {c f : Nat} {x : Str} (C : XC Γ Wx N sc k X) (hc : X.calm = true) (F : Fx Γ D) (L : Lv Γ D j cf ci) (hj : j + 1 ≤ k) (e : Γ.T.init c = some f) (hk0 : D.kn f = none) (hg : sc.names.lookup x = some .globalImplicit) (hm : Γ.mg x = some (.ref (Γ.ca c)))
    (hd : (x == ("__debug__" : Str)) = false) (hs : AC X pos es (tR Γ Wx en env rs (pReps Γ))) :
    PE X (.Call (.Name x p) es [] pos) (tR Γ Wx en env (fun s => (rs s).bind fun ws s1 => vMkC Γ.T cf c ws s1) (pRep Γ)) := by
  obtain ⟨M, d, ed⟩ := F.init c f e
  refine ⟨fun pins s σ H Q I h => ?_⟩
  obtain ⟨S, hr, sl, h⟩ := h
  refine wpAny_Call_Name_kw (ld_glob I (C.gl hg) (by rw [C.eM]; exact hm) ?_ hd)
  refine hs pins s σ H (fun vs H1 => ∃ S1 ws, HR Γ S1 H1 ∧ RepsS Γ S1 ws vs ∧ RP Γ Wx σ S1 H1 ((cf f (.cell S1.S.length :: ws) (S1.S ++ [.obj c [] []])).bind (isNonR S1.S.length)) fun w S' H' => ∀ v, pRep Γ S H w v S' H' → Q v H') _ [] _ I (by rw [C.eK]; exact M.kp)
    ⟨S, hr, sl, RP.mono h.seq fun ws S1 H1 fr1 hr1 h1 vs r1 => ⟨S1, ws, hr1, r1, by unfold vMkC at h1; rw [e] at h1; exact h1⟩⟩ fun us s2 vs H2 I2 r ⟨S1, ws, hr1, r1, h1⟩ => ?_
  refine run_makeS (by rw [C.eK]; exact M) (C.fn (L.fn f d ed)) ((C.rm hc).mono hj) (by rw [C.eK]; exact F.binds f d ed hk0) (passAt C.tk σ) I2 r fun x dx hx hdx hne => ?_
  have hx2 : upd H2 dx (.own x) x = none := by rw [upd_ne (Ne.symm hne)]; exact hx
  have hr2 := (hr1.newO (o := .own x) hdx).newO (o := .ins (Γ.ca c) dx []) hx2
  have fr2 : Fr S1 H2 S1 (upd (upd H2 dx (.own x)) x (.ins (Γ.ca c) dx [])) := (hr1.frNewO (o := .own x) hdx).trans ((hr1.newO (o := .own x) hdx).frNewO (o := .ins (Γ.ca c) dx []) hx2)
  have hr3 : HR Γ (S1.add x (.obj c [] [])) (upd (upd H2 dx (.own x)) x (.ins (Γ.ca c) dx [])) := hr2.addC (hr1.sub.none hx) (hr1.offN hx) ⟨hr1.sub.none hx, dx, [], upd_same, Reps.nil, rfl⟩
  have fr3 := fr2.addC (c := .obj c [] []) hx
  refine ⟨S1.add x (.obj c [] []), .cell S1.S.length :: ws, hr3, Reps.cons ⟨?_, ?_⟩ (fr3.reps r1), ?_⟩
  · show S1.S.length < (S1.S ++ [Cl.obj c [] []]).length
    rw [List.length_append]; simp
  · rw [show (S1.add x (.obj c [] [])).φ S1.S.length = x from if_pos rfl]
  · refine RP.to (RP.mono (RP.shift h1.seq fr3) fun w S4 H4 fr4 hr4 h4 v rv => ?_)
    unfold isNonR at h4
    split at h4
    · refine ⟨rv, RP.done h4 hr4 _ ⟨?_, ?_⟩⟩
      · have := fr4.n
        have h5 : (S1.add x (.obj c [] [])).S.length = S1.S.length + 1 := by show (S1.S ++ [Cl.obj c [] []]).length = _; rw [List.length_append]; rfl
        omega
      · rw [fr4.φ S1.S.length (by show S1.S.length < (S1.S ++ [Cl.obj c [] []]).length; rw [List.length_append]; simp), show (S1.add x (.obj c [] [])).φ S1.S.length = x from if_pos rfl]
    · exact h4.elim
/-- a cell made of a list at hand -/
theorem se_cell (ha : PE X ea (tR Γ Wx en env ra (pN Γ))) : PE X ea (tR Γ Wx en env (fun s => (ra s).bind vCell) (pRep Γ)) := by
  refine PE.mono ha ?_
  rintro σ H Q ⟨S, hr, sl, h⟩
  refine ⟨S, hr, sl, ?_⟩
  dsimp only at h
  cases er : ra S.S with
  | no => rw [er] at h; exact h
  | ex y s => rw [er] at h; exact h
  | ok w s =>
    rw [er] at h
    rintro S1 H1 es1 fr1 hr1 v (⟨xs, a, vs, rfl, rfl, hn, ha, hf, ho, rs⟩ | ⟨hnl, r⟩)
    · subst es1
      rw [show (R.bind (R.ok (W.lst xs) S1.S) vCell) = R.ok (.cell S1.S.length) (S1.S ++ [.lst xs]) from rfl] at h
      have rs' : RepsS Γ (S1.add a (.lst xs)) xs vs := Reps.mono (Sub.refl _) (by show _ ≤ (S1.S ++ [Cl.lst xs]).length; rw [List.length_append]; omega) (fun _ h => add_φ h) _ _ rs
      refine h (S1.add a (.lst xs)) H1 rfl (fr1.addC hn) (hr1.addC hf ho ⟨hf, vs, ha, rs'⟩) _ ⟨?_, ?_⟩
      · show S1.S.length < (S1.S ++ [Cl.lst xs]).length
        rw [List.length_append]; simp
      · rw [show (S1.add a (.lst xs)).φ S1.S.length = a from if_pos rfl]
    · have : vCell w s = .no := by
        unfold vCell
        split
        · exact absurd rfl (hnl _)
        · rfl
      rw [show (R.bind (R.ok w s) vCell) = vCell w s from rfl, this] at h
      exact h.elim
end
end LI
end
section
set_option Elab.async false
set_option linter.all false
set_option maxRecDepth 100000
set_option maxHeartbeats 4000000
/-! LiIdx: xs.index(x), flat items.  -/
namespace LI
open PySem PySem.Spec PyProof.Rows L2
section
variable {Γ : Ctx} {Wx : WX} {N : List Str} {sc : Scope} {k : Nat} {X : Cx} {en : En} {env : LI.Env} {ea eb : Expr} {apos cpos : Pos} {ra rb : Sto → R W} {S : Sn}
theorem Reps.at : ∀ {ws : List W} {vs : List V}, RepsS Γ S ws vs → ∀ {j : Nat} {w : W}, ws[j]? = some w → ∃ v, vs[j]? = some v ∧ RepS Γ S w v
  | [], _, _, j, w, h => by simp at h
  | x :: xs, _, ⟨v, r, e, h1, h2⟩, 0, w, h => by subst e; cases h; exact ⟨v, rfl, h1⟩
  | x :: xs, _, ⟨v, r, e, h1, h2⟩, j + 1, w, h => by
    subst e
    obtain ⟨u, q1, q2⟩ := Reps.at h2 (j := j) (w := w) h
    exact ⟨u, q1, q2⟩
theorem se_idx (C : XC Γ Wx N sc k X) (ho : plainO ea = true) (hp : plainA eb = true) (hline : (apos.endLine == cpos.line) = true)
    (ha : PE X ea (tR Γ Wx en env ra (pRepX Γ))) (hb : PE X eb (tR Γ Wx en env rb (pRepX Γ))) :
    PE X (.Call (.Attribute ea "index" apos) [eb] [] cpos) (tR Γ Wx en env (fun s => (ra s).bind fun x s1 => lstG x s1 ((rb s1).bind fun y s2 => vIdx x y s2)) (pRep Γ)) := by
  refine PE.mono (pe_bm F.plainAttrs_list F.slot_list_index F.type_list_index mt_index ha (pa_cons hb pa_nil (starEach_ok hp)) (plainO_ok ho) (by rw [starEach_ok hp]; rfl) hline (starEach_ok hp) rfl) ?_
  rintro σ H Q ⟨S, hr, sl, h⟩
  refine ⟨S, hr, sl, RP.mono h.seq fun x S1 H1 fr1 hr1 h1 v r1 => ?_⟩
  unfold lstG at h1
  cases e : lstOf S1.S x with
  | none => rw [e] at h1; exact h1.elim
  | some ys =>
    rw [e] at h1
    obtain ⟨a, vs, rfl, q1, rs⟩ := lst_view hr1 r1 (lstOf_drf e)
    refine ⟨.inl ⟨rfl, vs, SqL.of q1⟩, ⟨S1, hr1, sl.mono hr fr1, RP.mono h1.seq fun y S2 H2 fr2 hr2 h2 u r2 => ?_⟩⟩
    have r1' := r1.mono fr2
    unfold vIdx at h2
    cases e2 : lstOf S2.S x with
    | none => rw [e2] at h2; exact h2.elim
    | some xs =>
      rw [e2] at h2
      obtain ⟨w, e3, q⟩ := h2.retO hr2
      obtain ⟨j, e4, rfl⟩ := Option.map_eq_some_iff.mp e3
      unfold idxO at e4
      split at e4
      · rename_i hf
        rw [Bool.and_eq_true] at hf
        obtain ⟨hj, g1, g2⟩ := List.findIdx?_eq_some_iff_getElem.mp e4
        obtain ⟨a', vs', ea', q1', rs'⟩ := lst_view hr2 r1' (lstOf_drf e2)
        cases ea'
        have ry : RepS Γ S2 y u := r2.rep fun xs z => by rw [z] at hf; cases hf.1
        obtain ⟨z, z1, z2⟩ := Reps.at rs' (List.getElem?_eq_getElem hj)
        have fl : ∀ w ∈ xs, flatW w = true := fun w hw => List.all_eq_true.mp hf.2 w hw
        refine ⟨a, vs', u, j, z, rfl, rfl, SqL.of q1', flat_rel ry hf.1, flats_rel rs' hf.2, z1, ?_, fun m z' hm hz' => ?_, q _ rfl⟩
        · rw [eqF_eqV z2 ry (fl _ (List.getElem_mem hj)) hf.1]; exact g1
        · have hml : m < xs.length := by omega
          obtain ⟨z3, z4, z5⟩ := Reps.at rs' (List.getElem?_eq_getElem hml)
          rw [hz'] at z4
          cases z4
          rw [eqF_eqV z5 ry (fl _ (List.getElem_mem hml)) hf.1]
          simpa using g2 m hm
      · cases e4
end
end LI
end
section
set_option Elab.async false
set_option linter.all false
set_option maxRecDepth 100000
set_option maxHeartbeats 4000000
/-! LiIt: what a for or a comprehension walks. -/
namespace LI
open PySem PySem.Spec PyProof.Rows L2

/-- a later state, whatever has been frozen meanwhile -/
structure Gr (S S' : Sn) : Prop where
  f : Sub S.F S'.F
  n : S.S.length ≤ S'.S.length
  φ : ∀ n, n < S.S.length → S'.φ n = S.φ n
section
variable {Γ : Ctx} {D : Pd} {en : En} {S S1 S2 : Sn} {H H1 H2 : Hp} {env : LI.Env} {σ : L2.St} {Wx : WX}
variable {N : List Str} {sc : Scope} {k : Nat} {X : Cx} {ea eb ec : Expr} {pos p apos : Pos} {ra rb rc : Sto → R W} {e tg : Expr} {es : List Expr} {rs : Sto → R (List W)}
theorem Gr.refl : Gr S S := ⟨Sub.refl _, Nat.le_refl _, fun _ _ => rfl⟩
theorem Gr.trans (a : Gr S S1) (b : Gr S1 S2) : Gr S S2 := ⟨a.f.trans b.f, Nat.le_trans a.n b.n, fun n h => (b.φ n (Nat.lt_of_lt_of_le h a.n)).trans (a.φ n h)⟩
theorem Fr.gr (fr : Fr S H S1 H1) : Gr S S1 := ⟨fr.f, fr.n, fr.φ⟩
theorem Gr.rep (a : Gr S S1) {w : W} {v : V} (h : RepS Γ S w v) : RepS Γ S1 w v := Rep.mono a.f a.n a.φ w v h
theorem Gr.reps (a : Gr S S1) {w : List W} {v : List V} (h : RepsS Γ S w v) : RepsS Γ S1 w v := Reps.mono a.f a.n a.φ w v h
/-- the i-th item -/
def itemAt : LI.It → Sto → Nat → Option (Option W)
  | .lst xs, _, i => some xs[i]?
  | .cel n en, s, i => itAt s n en i
/-- an item as it comes -/
def YR (Γ : Ctx) (S : Sn) (H : Hp) (x : W) (v : V) (H' : Hp) : Prop := ∃ S', S'.S = S.S ∧ Fr S H S' H' ∧ HR Γ S' H' ∧ RepS Γ S' x v
/-- an iterator walks these items -/
def ItR (Γ : Ctx) (it : LI.It) (S : Sn) (J : L2.It) : Prop := ∀ S' H' i, Gr S S' → HR Γ S' H' →
  (itemAt it S'.S i = some none → J.stop i H') ∧ ∀ x, itemAt it S'.S i = some (some x) → J.go i H' ∧ ∀ v H'', J.yld i H' v H'' → YR Γ S' H' x v H''
/-- a source's reading -/
def tI (Γ : Ctx) (Wx : WX) (en : En) (env : LI.Env) (rd : Sto → R LI.It) : TI := fun σ H Q => ∃ S, HR Γ S H ∧ SlR Γ en S H env σ ∧ RP Γ Wx σ S H (rd S.S) fun it S' H' => ∀ J, ItR Γ it S' J → Q J H'
theorem PI.mono {t t' : TI} (h : PI X tg e t) (hm : ∀ σ H Q, t' σ H Q → t σ H Q) : PI X tg e t' := ⟨fun pins s σ H Q I hw => h.run pins s σ H Q I (hm _ _ _ hw)⟩

/-! ### lists and tuples -/
def iSeq (K : PySem.W.Frag) (tl : TE) : TI := fun σ H R => tl σ H fun x H1 => ∃ a, x = .ref a ∧ (((∃ xs, SqL K H1 a xs) ∧ R (Itl K a) H1) ∨ ((∃ xs, SqT K H1 a xs) ∧ R (Itt K a) H1))
theorem pi_seq {tl : TE} (hl : PE X e tl) : PI X tg e (iSeq X.K tl) := by
  refine ⟨fun pins s σ H R I h => ?_⟩
  refine thn (hl.run pins s σ H _ I h) fun v s1 ⟨x, H1, I1, r1, q1⟩ => ?_
  obtain ⟨a, e, q1⟩ := q1
  subst e
  cases r1
  rcases q1 with ⟨⟨xs, hq⟩, q⟩ | ⟨⟨xs, hq⟩, q⟩
  · obtain ⟨its, rv, p, hz⟩ := I1.list hq
    refine wpAny_pyIter_list p.isList ?_
    refine ⟨s1.heap.objs.size, [s1.heap.objs.size], _, _, H1, rfl, I1.kept (t' := s1.toks) fun b o e => Heap.get?_push_of_some _ e, turn_list a _, ⟨_, Heap.get?_push_size _ rfl, rfl, rfl⟩, fun b hb => ?_, q⟩
    have e : b = s1.heap.objs.size := by simpa using hb
    subst e
    exact I1.fpOk (Nat.le_refl _) (I1.hok.fresh (Nat.le_refl _))
  · obtain ⟨its, rv, p, hz⟩ := I1.tuple hq
    refine wpAny_pyIter_tuple (show s1.heap.IsTuple a its.toArray from p) ?_
    refine ⟨s1.heap.objs.size, [s1.heap.objs.size], _, _, H1, rfl, I1.kept (t' := s1.toks) fun b o e => Heap.get?_push_of_some _ e, turn_tuple a _, ⟨_, Heap.get?_push_size _ rfl, rfl, rfl⟩, fun b hb => ?_, q⟩
    have e : b = s1.heap.objs.size := by simpa using hb
    subst e
    exact I1.fpOk (Nat.le_refl _) (I1.hok.fresh (Nat.le_refl _))
/-- a look at what stands -/
theorem YR.here {x : W} {v : V} (hr : HR Γ S H) (r : RepS Γ S x v) : YR Γ S H x v H := ⟨S, rfl, Fr.refl, hr, r⟩
theorem itr_list {a : Addr} {xs : List W} {vs : List V} (h : S.F a = some (.lst vs)) (r : RepsS Γ S xs vs) : ItR Γ (.lst xs) S (Itl Γ.K a) := by
  intro S' H' i g hr
  have ha : H' a = some (.lst vs) := hr.sub _ _ (g.f _ _ h)
  refine ⟨fun e => ?_, fun x e => ?_⟩
  · have e' : xs[i]? = none := Option.some.inj e
    exact ⟨vs, SqL.of ha, by rw [r.length]; simpa using e'⟩
  · have e' : xs[i]? = some x := Option.some.inj e
    obtain ⟨v, e2, r2⟩ := r.get e'
    refine ⟨⟨vs, v, SqL.of ha, e2⟩, fun u H'' ⟨z, hy⟩ => ?_⟩
    subst z
    have := hy vs (SqL.of ha)
    rw [e2] at this
    cases this
    exact YR.here hr (g.rep r2)
theorem itr_tup {a : Addr} {xs : List W} {vs : List V} (h : SqT Γ.K S.F a vs) (r : RepsS Γ S xs vs) : ItR Γ (.lst xs) S (Itt Γ.K a) := by
  intro S' H' i g hr
  have ha : SqT Γ.K H' a vs := hr.sub.sqt (g.f.sqt h)
  refine ⟨fun e => ?_, fun x e => ?_⟩
  · have e' : xs[i]? = none := Option.some.inj e
    exact ⟨vs, ha, by rw [r.length]; simpa using e'⟩
  · have e' : xs[i]? = some x := Option.some.inj e
    obtain ⟨v, e2, r2⟩ := r.get e'
    refine ⟨⟨vs, v, ha, e2⟩, fun u H'' ⟨z, hy⟩ => ?_⟩
    subst z
    have := hy vs ha
    rw [e2] at this
    cases this
    exact YR.here hr (g.rep r2)
theorem itr_cel {n : Nat} (hn : n < S.S.length) : ItR Γ (.cel n false) S (Itl Γ.K (S.φ n)) := by
  intro S' H' i g hr
  have hv : ∀ {xs : List W}, S'.S[n]? = some (.lst xs) → ∃ vs, SqL Γ.K H' (S.φ n) vs ∧ RepsS Γ S' xs vs := fun {xs} e => by
    obtain ⟨_, vs, h1, h2⟩ := hr.cel n _ e
    rw [g.φ n hn] at h1
    exact ⟨vs, SqL.of h1, h2⟩
  refine ⟨fun e => ?_, fun x e => ?_⟩
  · have e' : itAt S'.S n false i = some none := e
    unfold itAt at e'
    split at e'
    · rename_i xs q
      obtain ⟨vs, h1, r⟩ := hv q
      have e2 := Option.some.inj e'
      rw [Option.map_eq_none_iff] at e2
      exact ⟨vs, h1, by rw [r.length]; simpa using e2⟩
    · cases e'
  · have e' : itAt S'.S n false i = some (some x) := e
    unfold itAt at e'
    split at e'
    · rename_i xs q
      obtain ⟨vs, h1, r⟩ := hv q
      obtain ⟨y, e2, e3⟩ := Option.map_eq_some_iff.mp (Option.some.inj e')
      have e4 : y = x := e3
      subst e4
      obtain ⟨v, e5, r5⟩ := r.get e2
      refine ⟨⟨vs, v, h1, e5⟩, fun u H'' ⟨z, hy⟩ => ?_⟩
      subst z
      have := hy vs h1
      rw [e5] at this
      cases this
      exact YR.here hr r5
    · cases e'
theorem si_seq (C : XC Γ Wx N sc k X) (ha : PE X ea (tR Γ Wx en env ra (pRep Γ))) : PI X tg ea (tI Γ Wx en env fun s => (ra s).bind fun x s1 => retO (itOf s1 false x) s1) := by
  refine PI.mono (pi_seq ha) ?_
  rintro σ H Q ⟨S, hr, sl, h⟩
  refine ⟨S, hr, sl, RP.mono h.seq fun x S1 H1 fr1 hr1 h1 v r1 => ?_⟩
  obtain ⟨it, e, q⟩ := h1.retO hr1
  rw [C.eK]
  cases x with
  | lst xs =>
    cases e
    obtain ⟨a, vs, rfl, h2, h3⟩ := r1
    exact ⟨a, rfl, .inl ⟨⟨vs, SqL.of (hr1.sub _ _ h2)⟩, q _ (itr_list h2 h3)⟩⟩
  | tup xs =>
    cases e
    obtain ⟨a, vs, rfl, h2, h3⟩ := r1
    exact ⟨a, rfl, .inr ⟨⟨vs, hr1.sub.sqt h2.1⟩, q _ (itr_tup h2.1 h3)⟩⟩
  | cell n =>
    have e' : (match S1.S[n]? with | some (Cl.lst _) => some (LI.It.cel n false) | _ => none) = some it := e
    split at e'
    · rename_i xs q1
      cases e'
      obtain ⟨h2, rfl⟩ := r1
      obtain ⟨_, vs, h3, _⟩ := hr1.cel n _ q1
      exact ⟨_, rfl, .inl ⟨⟨vs, SqL.of h3⟩, q _ (itr_cel h2)⟩⟩
    · cases e'
  | _ => cases e

/-! ### ranges -/
theorem rngC_len (lo c : Int) : ∀ n, (rngC lo c n).length = n
  | 0 => rfl
  | n + 1 => by rw [rngC, List.length_cons, rngC_len _ c n]
theorem rngC_get (c : Int) : ∀ (n : Nat) (lo : Int) (i : Nat), (rngC lo c n)[i]? = if i < n then some (.int (lo + i * c)) else none
  | 0, lo, i => by simp [rngC]
  | n + 1, lo, 0 => by simp [rngC]
  | n + 1, lo, i + 1 => by
    rw [rngC, List.getElem?_cons_succ, rngC_get c n (lo + c) i]
    by_cases h : i < n
    · rw [if_pos h, if_pos (by omega)]
      have : lo + c + i * c = lo + ((i + 1 : Nat) : Int) * c := by
        rw [Int.natCast_add, Int.add_mul, Int.natCast_one, Int.one_mul]; omega
      rw [this]
    · rw [if_neg h, if_neg (by omega)]
theorem itr_rng1 {lo : Int} {n : Nat} : ItR Γ (.lst (rngC lo 1 n)) S (Itr lo n) := by
  intro S' H' i g hr
  refine ⟨fun e => ?_, fun x e => ?_⟩
  · have e' : (rngC lo 1 n)[i]? = none := Option.some.inj e
    rw [rngC_get] at e'
    show n ≤ i
    split at e'
    · cases e'
    · omega
  · have e' : (rngC lo 1 n)[i]? = some x := Option.some.inj e
    rw [rngC_get] at e'
    split at e'
    · rename_i hi
      cases e'
      refine ⟨hi, fun u H'' ⟨z, hy⟩ => ?_⟩
      subst z
      have e2 : u = .int (lo + i) := hy
      subst e2
      rw [Int.mul_one]
      exact YR.here hr rfl
    · cases e'
theorem itr_rngC {lo c : Int} {n : Nat} : ItR Γ (.lst (rngC lo c n)) S (Itc lo c n) := by
  intro S' H' i g hr
  refine ⟨fun e => ?_, fun x e => ?_⟩
  · have e' : (rngC lo c n)[i]? = none := Option.some.inj e
    rw [rngC_get] at e'
    show n ≤ i
    split at e'
    · cases e'
    · omega
  · have e' : (rngC lo c n)[i]? = some x := Option.some.inj e
    rw [rngC_get] at e'
    split at e'
    · rename_i hi
      cases e'
      refine ⟨hi, fun u H'' ⟨z, hy⟩ => ?_⟩
      subst z
      have e2 : u = .int (lo + i * c) := hy
      subst e2
      exact YR.here hr rfl
    · cases e'
theorem rngLen1 (a b : Int) : rngLen a b 1 = (b - a).toNat := by
  unfold rngLen
  rw [if_pos (by decide)]
  split
  · rw [Int.ediv_one]; congr 1; omega
  · omega
theorem rOk_b {i : Int} (h : rOk i = true) : -(2 ^ 61) < i ∧ i < 2 ^ 61 := by
  unfold rOk at h
  rw [Bool.and_eq_true, decide_eq_true_eq, decide_eq_true_eq] at h
  exact h
theorem evRng_ok {a b c : Int} {s : Sto} {P : LI.It → Prop} {kk : LI.It → Sn → Hp → Prop} (h : RP Γ Wx σ S H (evRng a b c S.S) kk) (hr : HR Γ S H) :
    (-(2 ^ 61) < a ∧ a < 2 ^ 61) ∧ (-(2 ^ 61) < b ∧ b < 2 ^ 61) ∧ c ≠ 0 ∧ c.natAbs < 1073741824 ∧ rngLen a b c ≤ 16777216 ∧ kk (.lst (rngC a c (rngLen a b c))) S H := by
  unfold evRng at h
  split at h
  · rename_i q
    simp only [Bool.and_eq_true, decide_eq_true_eq] at q
    obtain ⟨⟨⟨⟨q1, q2⟩, q3⟩, q4⟩, q5⟩ := q
    exact ⟨rOk_b q1, rOk_b q2, q3, q4, of_decide_eq_true q5, RP.done h hr⟩
  · exact h.elim
theorem si_rng1 (C : XC Γ Wx N sc k X) (hx : Free Γ sc "range") (hp : plainA ea = true) (ha : PE X ea (tR Γ Wx en env ra (pRep Γ))) : PI X tg (.Call (.Name "range" p) [ea] [] pos) (tI Γ Wx en env fun s => (ra s).bind rng1) := by
  refine PI.mono (pi_range1 (hx.gl C) (hx.mg C) (pa_cons ha pa_nil (starEach_ok hp)) (by rw [starEach_ok hp]; rfl)) ?_
  rintro σ H Q ⟨S, hr, sl, h⟩
  refine ⟨S, hr, sl, RP.mono h.seq fun x S1 H1 fr1 hr1 h1 v r1 => ?_⟩
  unfold rng1 at h1
  split at h1
  · rename_i b
    cases (show v = .int b from r1)
    obtain ⟨ha, hb, hc, hd, hl, q⟩ := evRng_ok (s := S1.S) (P := fun _ => True) h1 hr1
    refine ⟨b, rfl, by omega, by omega, q _ ?_⟩
    have e := rngLen1 0 b
    rw [e]
    rw [Int.sub_zero]
    exact itr_rng1
  · exact h1.elim
theorem si_rng2 (C : XC Γ Wx N sc k X) (hx : Free Γ sc "range") (hp : plainA ea = true) (hp2 : plainA eb = true) (ha : PE X ea (tR Γ Wx en env ra (pRep Γ))) (hb : PE X eb (tR Γ Wx en env rb (pRep Γ))) :
    PI X tg (.Call (.Name "range" p) [ea, eb] [] pos) (tI Γ Wx en env fun s => (ra s).bind fun x s1 => (rb s1).bind fun y s2 => rng2 x y s2) := by
  refine PI.mono (pi_range2 (hx.gl C) (hx.mg C) (pa_cons ha (pa_cons hb pa_nil (starEach_ok hp2)) (starEach_ok hp)) (by rw [starEach_ok hp, starEach_ok hp2]; rfl) (by rw [starEach_ok hp2]; rfl)) ?_
  rintro σ H Q ⟨S, hr, sl, h⟩
  refine ⟨S, hr, sl, RP.mono h.seq fun x S1 H1 fr1 hr1 h1 v r1 => ⟨S1, hr1, sl.mono hr fr1, RP.mono h1.seq fun y S2 H2 fr2 hr2 h2 u r2 => ?_⟩⟩
  unfold rng2 at h2
  split at h2
  · rename_i a b
    cases (show v = .int a from r1)
    cases (show u = .int b from r2)
    obtain ⟨ha, hb, hc, hd, hl, q⟩ := evRng_ok (s := S2.S) (P := fun _ => True) h2 hr2
    refine ⟨a, b, rfl, ⟨by omega, by omega, by omega, by omega⟩, q _ ?_⟩
    rw [rngLen1]
    exact itr_rng1
  · exact h2.elim

theorem rgC_ok {a b c : Int} (ha : -(2 ^ 61) < a ∧ a < 2 ^ 61) (hb : -(2 ^ 61) < b ∧ b < 2 ^ 61) (hc : c ≠ 0) (hd : c.natAbs < 1073741824) (hl : rngLen a b c ≤ 16777216) : RgC a b c (rngLen a b c) := by
  have e : Builtin.Range.rangeSize a b c = (rngLen a b c : Int) := by
    unfold Builtin.Range.rangeSize rngLen
    by_cases h1 : 0 < c
    · rw [if_pos h1, if_pos h1]
      split
      · rename_i h2
        have : 0 ≤ (b - a - 1) / c := Int.ediv_nonneg (by omega) (by omega)
        omega
      · rfl
    · rw [if_neg h1, if_neg h1]
      by_cases h2 : b < a
      · rw [if_pos h2, if_pos h2]
        have : 0 ≤ (a - b - 1) / (-c) := Int.ediv_nonneg (by omega) (by omega)
        omega
      · rw [if_neg h2, if_neg h2]; rfl
  refine ⟨hc, hd, ?_, e⟩
  unfold Builtin.Range.small
  rw [e]
  simp only [Builtin.Range.rangeFitsLong, Bool.and_eq_true, Bool.or_eq_true, decide_eq_true_eq, beq_iff_eq]
  refine ⟨⟨⟨⟨⟨by omega, by omega⟩, by omega, by omega⟩, by omega, by omega⟩, by omega, by omega⟩, .inr ?_⟩
  split <;> simp only [Bool.and_eq_true, decide_eq_true_eq] <;> omega
theorem si_rng3 (C : XC Γ Wx N sc k X) (hx : Free Γ sc "range") (hp : plainA ea = true) (hp2 : plainA eb = true) (hp3 : plainA ec = true) (ha : PE X ea (tR Γ Wx en env ra (pRep Γ))) (hb : PE X eb (tR Γ Wx en env rb (pRep Γ))) (hc : PE X ec (tR Γ Wx en env rc (pRep Γ))) :
    PI X tg (.Call (.Name "range" p) [ea, eb, ec] [] pos) (tI Γ Wx en env fun s => (ra s).bind fun x s1 => (rb s1).bind fun y s2 => (rc s2).bind fun z s3 => rng3 x y z s3) := by
  refine PI.mono (pi_range3 (hx.gl C) (hx.mg C) (pa_cons ha (pa_cons hb (pa_cons hc pa_nil (starEach_ok hp3)) (starEach_ok hp2)) (starEach_ok hp)) (by rw [starEach_ok hp]) (by rw [starEach_ok hp2, starEach_ok hp3]; rfl)) ?_
  rintro σ H Q ⟨S, hr, sl, h⟩
  refine ⟨S, hr, sl, RP.mono h.seq fun x S1 H1 fr1 hr1 h1 v r1 => ⟨S1, hr1, sl.mono hr fr1, RP.mono h1.seq fun y S2 H2 fr2 hr2 h2 u r2 => ⟨S2, hr2, (sl.mono hr fr1).mono hr1 fr2, RP.mono h2.seq fun z S3 H3 fr3 hr3 h3 t r3 => ?_⟩⟩⟩
  unfold rng3 at h3
  split at h3
  · rename_i a b c
    cases (show v = .int a from r1)
    cases (show u = .int b from r2)
    cases (show t = .int c from r3)
    obtain ⟨ha, hb, hc, hd, hl, q⟩ := evRng_ok (s := S3.S) (P := fun _ => True) h3 hr3
    exact ⟨a, b, c, _, rfl, rgC_ok ha hb hc hd hl, q _ itr_rngC⟩
  · exact h3.elim

/-! ### enumerate -/
theorem enumL_get : ∀ (xs : List W) (lo : Int) (i : Nat), (enumL lo xs)[i]? = (xs[i]?).map fun x => .tup [.int (lo + i), x]
  | [], lo, i => by simp [enumL]
  | x :: xs, lo, 0 => by simp [enumL]
  | x :: xs, lo, i + 1 => by
    rw [enumL, List.getElem?_cons_succ, List.getElem?_cons_succ, enumL_get xs (lo + 1) i]
    have : lo + 1 + i = lo + ((i + 1 : Nat) : Int) := by omega
    rw [this]
theorem yr_tup {x : W} {v : V} {i : Nat} {T : Addr} (hr : HR Γ S H) (hT : H T = none) (r : RepS Γ S x v) : YR Γ S H (.tup [.int i, x]) (.ref T) (upd H T (.tup [.int i, v])) := by
  have fr := hr.frNewF (o := .tup [.int i, v]) hT
  exact ⟨S.frz T (.tup [.int i, v]), rfl, fr, hr.newF hT, T, _, rfl, ⟨.inl (.inl upd_same), .inl upd_same⟩, Reps.cons (x := .int i) rfl (Reps.cons (fr.rep r) Reps.nil)⟩
theorem itr_enum {a : Addr} {xs : List W} {vs : List V} (h : S.F a = some (.lst vs)) (r : RepsS Γ S xs vs) : ItR Γ (.lst (enumL 0 xs)) S (Ite Γ.K a) := by
  intro S' H' i g hr
  have ha : H' a = some (.lst vs) := hr.sub _ _ (g.f _ _ h)
  refine ⟨fun e => ?_, fun x e => ?_⟩
  · have e' : (enumL 0 xs)[i]? = none := Option.some.inj e
    rw [enumL_get, Option.map_eq_none_iff] at e'
    exact ⟨vs, SqL.of ha, by rw [r.length]; simpa using e'⟩
  · have e' : (enumL 0 xs)[i]? = some x := Option.some.inj e
    rw [enumL_get] at e'
    obtain ⟨y, e1, rfl⟩ := Option.map_eq_some_iff.mp e'
    obtain ⟨v, e2, r2⟩ := r.get e1
    refine ⟨⟨vs, v, SqL.of ha, e2⟩, fun u H'' ⟨T, z, e3, hT, e4, hy⟩ => ?_⟩
    subst e3 e4
    have := hy vs (SqL.of ha)
    rw [e2] at this
    cases this
    rw [Int.zero_add]
    exact yr_tup hr hT (g.rep r2)
theorem itr_enumT {a : Addr} {xs : List W} {vs : List V} (h : SqT Γ.K S.F a vs) (r : RepsS Γ S xs vs) : ItR Γ (.lst (enumL 0 xs)) S (IteT Γ.K a) := by
  intro S' H' i g hr
  have ha : SqT Γ.K H' a vs := hr.sub.sqt (g.f.sqt h)
  refine ⟨fun e => ?_, fun x e => ?_⟩
  · have e' : (enumL 0 xs)[i]? = none := Option.some.inj e
    rw [enumL_get, Option.map_eq_none_iff] at e'
    exact ⟨vs, ha, by rw [r.length]; simpa using e'⟩
  · have e' : (enumL 0 xs)[i]? = some x := Option.some.inj e
    rw [enumL_get] at e'
    obtain ⟨y, e1, rfl⟩ := Option.map_eq_some_iff.mp e'
    obtain ⟨v, e2, r2⟩ := r.get e1
    refine ⟨⟨vs, v, ha, e2⟩, fun u H'' ⟨T, z, e3, hT, e4, hy⟩ => ?_⟩
    subst e3 e4
    have := hy vs ha
    rw [e2] at this
    cases this
    rw [Int.zero_add]
    exact yr_tup hr hT (g.rep r2)
theorem itr_enumC {n : Nat} (hn : n < S.S.length) : ItR Γ (.cel n true) S (Ite Γ.K (S.φ n)) := by
  intro S' H' i g hr
  have hv : ∀ {xs : List W}, S'.S[n]? = some (.lst xs) → ∃ vs, SqL Γ.K H' (S.φ n) vs ∧ RepsS Γ S' xs vs := fun {xs} e => by
    obtain ⟨_, vs, h1, h2⟩ := hr.cel n _ e
    rw [g.φ n hn] at h1
    exact ⟨vs, SqL.of h1, h2⟩
  refine ⟨fun e => ?_, fun x e => ?_⟩
  · have e' : itAt S'.S n true i = some none := e
    unfold itAt at e'
    split at e'
    · rename_i xs q
      obtain ⟨vs, h1, r⟩ := hv q
      have e2 := Option.some.inj e'
      rw [Option.map_eq_none_iff] at e2
      exact ⟨vs, h1, by rw [r.length]; simpa using e2⟩
    · cases e'
  · have e' : itAt S'.S n true i = some (some x) := e
    unfold itAt at e'
    split at e'
    · rename_i xs q
      obtain ⟨vs, h1, r⟩ := hv q
      obtain ⟨y, e2, e3⟩ := Option.map_eq_some_iff.mp (Option.some.inj e')
      have e4 : W.tup [.int i, y] = x := e3
      subst e4
      obtain ⟨v, e5, r5⟩ := r.get e2
      refine ⟨⟨vs, v, h1, e5⟩, fun u H'' ⟨T, z, e6, hT, e7, hy⟩ => ?_⟩
      subst e6 e7
      have := hy vs h1
      rw [e5] at this
      cases this
      exact yr_tup hr hT r5
    · cases e'
theorem si_enum {ts : List Expr} {kk : Nat} {tp : Pos} (C : XC Γ Wx N sc k X) (hx : Free Γ sc "enumerate") (hp : plainA ea = true) (ha : PE X ea (tR Γ Wx en env ra (pRep Γ))) :
    PI X (.Tuple ts kk tp) (.Call (.Name "enumerate" p) [ea] [] pos) (tI Γ Wx en env fun s => (ra s).bind fun x s1 => retO (itOf s1 true x) s1) := by
  refine PI.mono (pi_enumB (hx.gl C) (hx.mg C) (pa_cons ha pa_nil (starEach_ok hp)) (by rw [starEach_ok hp]; rfl)) ?_
  rintro σ H Q ⟨S, hr, sl, h⟩
  refine ⟨S, hr, sl, RP.mono h.seq fun x S1 H1 fr1 hr1 h1 v r1 => ?_⟩
  obtain ⟨it, e, q⟩ := h1.retO hr1
  rw [C.eK]
  cases x with
  | lst xs =>
    cases e
    obtain ⟨a, vs, rfl, h2, h3⟩ := r1
    exact ⟨a, rfl, .inl ⟨vs, SqL.of (hr1.sub _ _ h2), q _ (itr_enum h2 h3)⟩⟩
  | tup xs =>
    cases e
    obtain ⟨a, vs, rfl, h2, h3⟩ := r1
    exact ⟨a, rfl, .inr ⟨vs, hr1.sub.sqt h2.1, q _ (itr_enumT h2.1 h3)⟩⟩
  | cell n =>
    have e' : (match S1.S[n]? with | some (Cl.lst _) => some (LI.It.cel n true) | _ => none) = some it := e
    split at e'
    · rename_i xs q1
      cases e'
      obtain ⟨h2, rfl⟩ := r1
      obtain ⟨_, vs, h3, _⟩ := hr1.cel n _ q1
      exact ⟨_, rfl, .inl ⟨vs, SqL.of h3, q _ (itr_enumC h2)⟩⟩
    · cases e'
  | _ => cases e
end
end LI
end
section
set_option Elab.async false
set_option linter.all false
set_option maxRecDepth 100000
set_option maxHeartbeats 2000000
/-! LiCmx: comprehensions that an exception may leave. -/
namespace LI
open PySem PySem.Spec PyProof.Rows L2

def compPostE (M : Model) (A : Around) (E : Value → Shared → Prop) (use : Option (Value → Sem Unit)) (Q : Value → Shared → Prop) (acc : Value) (ce : PySem.Env) (r : Result) (s' : Shared) : Prop :=
  match r, use with
  | .ok _, none => ∃ m, s'.heap.Ns ce.locals m ∧ ∀ h', Heap.SameBut ce.locals s'.heap h' → Q acc { s' with heap := h' }
  | .ok _, some u => wpAny M A (u acc) (fun _ s'' => ∃ m, s''.heap.Ns ce.locals m ∧ ∀ h', Heap.SameBut ce.locals s''.heap h' → Q .none { s'' with heap := h' }) E s'
  | .error x, _ => ∃ m, s'.heap.Ns ce.locals m ∧ ∀ h' m', h'.Ns ce.locals m' → Heap.SameBut ce.locals s'.heap h' → wpAny M A (passOn "comprehension.variables-let-go" x ce : Sem Value) (fun _ _ => False) E { s' with heap := h' }

section
variable {M : Model} {A : Around} {E : Value → Shared → Prop} {s : Shared} {env : PySem.Env}
theorem wpAny_comprehension_E {e : Expr} {scope : Scope} {pos : Pos} {newAcc first : Sem Value} {g : Comprehension} {gs : List Comprehension} {cl : List (Str × Addr)} {use : Option (Value → Sem Unit)}
    {Q : Value → Shared → Prop}
    (hcl : clausesOf e = g :: gs) (hs : ∀ x, foldedSetIterable g.iter env x = pure x) (hclos : closureFor scope env = pure cl)
    (hkind : scope.kind = .function) (hnames : ∀ x ∈ scope.names, x.2 = .local → scope.names.lookup x.1 = some .local)
    (h : wpAny M A first (fun x s₁ => wpAny M A (pyIter x) (fun it s₂ => wpAny M A newAcc (fun acc s₃ =>
      wpAny M A (newFunctionEnv scope env.globals cl [] env.qual none .none (some env)) (fun cenv s₄ =>
        codeAny M A (.compStart e 0 it acc { cenv with scope := relabel scope env }) (compPostE M A E use Q acc { cenv with scope := relabel scope env }) s₄) E s₃) E s₂) E s₁) E s) :
    wpAny M A (comprehension e scope env pos newAcc false first use) Q E s := by
  unfold comprehension
  rw [hclos, hcl]
  refine wpAny_bind (wpAny_mono h (fun x s₁ h₁ => wpAny_bind (wpAny_standAt (wpAny_bind (wpAny_of_eq (hs x) (wpAny_bind (wpAny_holding (wpAny_mono h₁ (fun it s₂ h₂ =>
    wpAny_standIf (wpAny_bind (wpAny_mono h₂ (fun acc s₃ h₃ => wpAny_bind (wpAny_pure (wpAny_bind (wpAny_mono h₃ (fun cenv s₄ h₄ => ?_) fun _ _ h' => h')))) fun _ _ h' => h')))
      fun _ _ h' => h'))))))) fun _ _ h' => h')
  dsimp only
  have hv : ∀ x ∈ (scope.names.filter fun x => (x.2 == .local || x.2 == .cell) && x.1 != (".0" : Str)).reverse, x.2 = .local →
      Env.kindOf { cenv with scope := relabel scope env } x.1 = some .local := fun x hx hl => lookup_relabel_local (hnames x (List.mem_filter.mp (List.mem_reverse.mp hx)).1 hl)
  have hv' : ∀ x ∈ (scope.names.filter fun x => (x.2 == .local || x.2 == .cell) && x.1 != (".0" : Str)).reverse.drop 1 ++ (scope.names.filter fun x => (x.2 == .local || x.2 == .cell) && x.1 != (".0" : Str)).reverse.take 1,
      x.2 = .local → Env.kindOf { cenv with scope := relabel scope env } x.1 = some .local := fun x hx hl => by
    rcases List.mem_append.mp hx with h1 | h1
    · exact hv x (List.mem_of_mem_drop h1) hl
    · exact hv x (List.mem_of_mem_take h1) hl
  refine wpAny_holding (wpAny_bind (wpAny_attempt (wpAny_holding (wpAny_run (codeAny_mono h₄ fun r s' hr => ?_)))))
  cases r with
  | ok f =>
    cases use with
    | none =>
      obtain ⟨m, hn, hr⟩ := hr
      exact wpAny_bind (wpAny_holding (wpAny_comp_letGo (cenv := { cenv with scope := relabel scope env }) hkind _ s' m hv hn fun h' m' _ hs' => wpAny_pure (hr h' hs')))
    | some u =>
      refine wpAny_bind (wpAny_rule (wpAny_bind (wpAny_holding (wpAny_mono hr (fun _ s'' hr' => ?_) fun _ _ h' => h'))))
      obtain ⟨m, hn, hr'⟩ := hr'
      exact wpAny_bind (wpAny_comp_letGo (cenv := { cenv with scope := relabel scope env }) hkind _ s'' m hv' hn fun h' m' _ hs' => wpAny_pure (hr' h' hs'))
  | error x =>
    have hr' : ∃ m, s'.heap.Ns cenv.locals m ∧ ∀ h' m', h'.Ns cenv.locals m' → Heap.SameBut cenv.locals s'.heap h' → wpAny M A (passOn "comprehension.variables-let-go" x { cenv with scope := relabel scope env } : Sem Value) (fun _ _ => False) E { s' with heap := h' } := by cases use <;> exact hr
    obtain ⟨m, hn, hr⟩ := hr'
    exact wpAny_bind (wpAny_holding (wpAny_comp_letGo (cenv := { cenv with scope := relabel scope env }) hkind _ s' m hv hn fun h' m' hn' hs' => wpAny_mono (hr h' m' hn' hs') (fun _ _ f => f.elim) fun _ _ y => y))
end

/-! ### the exception of a turn, in the def's air -/
section
variable {M : Model} {A : Around} {E : Value → Shared → Prop} {s : Shared} {base : Heap} {env : PySem.Env} {outer : List PySem.Env} {L C e : Addr} {Z : Obj → Prop}
/-- a frame that another place has noted -/
theorem looks_heldZ {Q : Unit → Shared → Prop} (hZ : HandSPX.Steady Z) (hfr : A.frames = some (env :: outer)) (hf : env.frame = some L) (hfl : HandSPX.HeldZ base (env :: outer) e Z C s.heap)
    (hQ : ∀ h', HandSPX.HeldZ base (env :: outer) e Z L h' → s.heap.UpToSlots h' → Q () { s with heap := h' }) : wpAny M A (noteFrame (.ref e) env) Q E s := by
  by_cases hCL : rawInt C = rawInt L
  · refine HandSPX.againZ (base := base) (Z := Z) hf (by rw [← hCL]; exact hfl.2.2.2) ?_
    exact hQ s.heap (by unfold HandSPX.HeldZ; rw [← hCL]; exact hfl) (Heap.UpToSlots.refl _)
  obtain ⟨hkb, hen, hl, oe, vs, T, oT, ts, he, hz, hd, h1, hnT, hTe, hT, hdT, h3⟩ := hfl
  unfold noteFrame
  simp only [hf]
  refine wpAny_bind (wpAny_field he hd h1 ?_)
  rw [if_pos (show (Value.ref T != Value.none) = true from by simp)]
  refine wpAny_bind (wpAny_field hT hdT h3 ?_)
  rw [if_neg (show ¬ ((rawInt C == rawInt L) = true) from fun z => hCL (eq_of_beq z))]
  refine wpAny_bind (wpAny_setField hT hdT (Array.getElem?_eq_some_iff.mp h3).1 ?_)
  have other : ∀ b, b ≠ T → (s.heap.update T (Obj.mapFields (·.setIfInBounds 3 Value.none))).get? b = s.heap.get? b := fun b hb => Heap.get?_update_other _ _ (Ne.symm hb)
  have noRecord : ∀ b o, s.heap.get? b = some o → (∀ vs, o.data ≠ .fields vs) → b ≠ T := fun b o hb hnf q => by
    rw [q, hT] at hb; injection hb with hb; subst hb; exact hnf ts hdT
  refine HandSPX.wpAny_entryZ hZ hfr (hl.of_keeps fun b o hb hnf => ⟨o, (other b (noRecord b o hb hnf)).trans hb, rfl⟩) hf ((other e (Ne.symm hTe)).trans he)
    (fun b o hbo => (other b fun q => by rw [q, hnT] at hbo; cases hbo).trans (hkb b o hbo)) hen hd (Array.getElem?_eq_some_iff.mp h1).1 hz fun h' hN => ?_
  obtain ⟨x1, x2, x3, x4⟩ := hN
  exact hQ h' ⟨x1, hen, x2, x3⟩ fun b o hb hnf => x4 b o ((other b (noRecord b o hb hnf)).trans hb) hnf
end

theorem noteFrame_eq {a b : PySem.Env} (h : a.frame = b.frame) (u : Value) : noteFrame u a = noteFrame u b := by
  unfold noteFrame PySem.frameOf
  rw [h]
/-- an exception in the air of X, noted at L if at all -/
def XEL (X : Cx) (W : WX) (L : Addr) (u : Value) (s' : Shared) : Prop :=
  ∃ (a : Addr) (B : Heap) (sI : Shared) (pins : List (Addr × Obj)) (σ : L2.St) (H : Hp) (cls : Value) (d : Option Addr),
    u = .ref a ∧ Inv X pins σ H sI ∧ (∀ b o, sI.heap.get? b = some o → b ∉ frs X.stack → B.get? b = some o) ∧ sI.heap.UpToSlots s'.heap ∧
      Sky B X.stack a (Zc cls d) L s'.heap ∧ H a = none ∧ s'.os = sI.os ∧ AllBare s'.gens ∧ W cls d σ H
def TakesL (X : Cx) (W : WX) (L : Addr) : Prop := ∀ u s', XEL X W L u s' → X.xe u s'
/-- the frame that runs stands on top; an exception that it has noted is taken -/
def TopW (X : Cx) (W : WX) : Prop := ∃ e0 o0 L0, X.stack = e0 :: o0 ∧ X.env.frame = some L0 ∧ e0.frame = some L0 ∧ TakesL X W L0
theorem topW_of {X : Cx} {W : WX} (st : X.stack = X.env :: X.outer) (ef : X.env.frame = some X.env.locals) (tk : Takes X W) : TopW X W := ⟨X.env, X.outer, X.env.locals, st, ef, ef, tk⟩
/-- the block's context with a wish about exceptions -/
abbrev blkX (X : Cx) (s : Shared) (H : Hp) (scope : Scope) (cenv : PySem.Env) (fp : List Addr) (xe : Value → Shared → Prop) : Cx := { X.blk s H scope cenv fp with xe := xe }
/-- a wish at these slots -/
def WAt (W : WX) (σ0 : L2.St) : WX := fun cls d _ H => W cls d σ0 H
section
variable {X : Cx} {pins : List (Addr × Obj)} {σ : L2.St} {H H3 : Hp} {s s3 : Shared} {W : WX}
theorem Inv.reX {pb : List (Addr × Obj)} {scope : Scope} {ce : PySem.Env} {fp : List Addr} {xe : Value → Shared → Prop} (I : Inv (X.blk s3 H3 scope ce fp) pb σ H s) : Inv (blkX X s3 H3 scope ce fp xe) pb σ H s :=
  ⟨⟨I.ok.mod, I.ok.kind, I.ok.glob, I.ok.blt, I.ok.above, I.ok.inj, I.ok.has, I.ok.cab, I.ok.hd, I.ok.frames, I.ok.stk, I.ok.exf, I.ok.bs, I.ok.bsz, I.ok.noex, I.ok.exfs, I.ok.funs, I.ok.frf⟩, I.os, I.bare, I.base, I.loc, I.cell, I.free, I.freeC, I.pin, I.hok, I.len⟩
/-- what is raised in the block is wished for outside -/
theorem takes_blk {scope : Scope} {ce : PySem.Env} {fp : List Addr} {use : Option (Value → Sem Unit)} {Qf : Value → Shared → Prop} {acc : Value} (top : TopW X W)
    (I3 : Inv X pins σ H3 s3) (f3 : ∀ b ∈ fp, FpOk X pins H3 b) (cF : ce.frame = X.env.frame) (cL : ce.locals = s3.heap.objs.size) (Lq : Addr) :
    TakesL (blkX X s3 H3 scope ce fp (notedBy (model X.prog X.w) X.A ce (fun e s' => compPostE (model X.prog X.w) X.A X.xe use Qf acc ce (.error e) s'))) (WAt W σ) Lq := by
  rintro u s' ⟨a, B, sI, pb, σb, H, cls, d, rfl, I, nb, up, sky, na, os, ag, w⟩
  obtain ⟨e0, o0, L0, st, ef, ef0, tk⟩ := top
  show wpAny _ _ (noteFrame (.ref a) ce) _ _ s'
  rw [noteFrame_eq (cF.trans (ef.trans ef0.symm))]
  have hfr : X.A.frames = some (e0 :: o0) := by rw [I3.ok.frames, st]
  have sky' : Sky B (e0 :: o0) a (Zc cls d) Lq s'.heap := by rw [← st]; exact sky
  obtain ⟨m, ⟨oC, es, ep, hoC, hdC, hkC⟩, _⟩ := I.loc
  have hoC : sI.heap.get? ce.locals = some oC := hoC
  have frlt : ∀ b ∈ frs X.stack, b < s3.heap.objs.size := fun b hb => by
    obtain ⟨_, o, ho, _⟩ := I3.stack.mem hb
    exact Heap.lt_size ho
  have nCf : ce.locals ∉ frs X.stack := fun hm => by
    have := frlt _ hm
    rw [cL] at this
    exact absurd this (Nat.lt_irrefl _)
  have hBC : B.get? ce.locals = some oC := nb _ _ hoC nCf
  have key : ∀ h1, HandSPX.HeldZ B (e0 :: o0) a (Zc cls d) L0 h1 → s'.heap.UpToSlots h1 → compPostE (model X.prog X.w) X.A X.xe use Qf acc ce (.error (.ref a)) { s' with heap := h1 } := by
    intro h1 hh up1
    obtain ⟨k1, k2, k3, k4⟩ := id hh
    have hC1 : h1.get? ce.locals = some oC := k1 _ _ hBC
    have main : ∃ m, ({ s' with heap := h1 } : Shared).heap.Ns ce.locals m ∧ ∀ h' m', h'.Ns ce.locals m' → Heap.SameBut ce.locals ({ s' with heap := h1 } : Shared).heap h' → wpAny (model X.prog X.w) X.A (passOn "comprehension.variables-let-go" (.ref a) ce : Sem Value) (fun _ _ => False) X.xe { ({ s' with heap := h1 } : Shared) with heap := h' } := by
      refine ⟨m, ⟨oC, es, ep, hC1, hdC, hkC⟩, fun h' m' hn' hsb => ?_⟩
      have hsb : Heap.SameBut ce.locals h1 h' := hsb
      obtain ⟨oe, vs, T, oT, ts, he, hz, hd, q1, hnT, hTe, hT, hdT, h3⟩ := id k4
      have naC : a ≠ ce.locals := fun z => by rw [← z, k2] at hBC; cases hBC
      have nTC : T ≠ ce.locals := fun z => by rw [← z, hnT] at hBC; cases hBC
      have he' := (hsb.2 a naC).trans he
      have hT' := (hsb.2 T nTC).trans hT
      have hB' : ∀ b o, (PySem.W.hideAll B [ce.locals]).get? b = some o → B.get? b = some o ∧ b ≠ ce.locals := fun b o q => ⟨PySem.W.of_hideAll _ q, fun z => by
        rw [PySem.W.hideAll_none [ce.locals] (by rw [z]; exact List.mem_singleton.mpr rfl)] at q; cases q⟩
      have hBn : ∀ b, B.get? b = none → (PySem.W.hideAll B [ce.locals]).get? b = none := fun b q => by
        cases e : (PySem.W.hideAll B [ce.locals]).get? b with
        | none => rfl
        | some o => rw [(hB' b o e).1] at q; cases q
      have held : HandSPX.HeldZ (PySem.W.hideAll B [ce.locals]) (e0 :: o0) a (Zc cls d) L0 h' :=
        ⟨fun b o q => by
            obtain ⟨q1, q2⟩ := hB' b o q
            exact (hsb.2 b q2).trans (k1 b o q1),
          hBn _ k2, funFrames_none (Heap.FunFrames.sameBut hsb hn' k3) fun b hb => hBn b (k3.mem hb).1,
          oe, vs, T, oT, ts, he', hz, hd, q1, hBn _ hnT, hTe, hT', hdT, h3⟩
      unfold PySem.passOn
      refine wpAny_bind (wpAny_field he' hd q1 ?_)
      rw [if_neg (show ¬ ((Value.ref T == Value.none) = true) from by simp)]
      rw [cF, ef]
      refine wpAny_bind (HandSPX.setFlight_onZ held fun h2 hh2 up2 => wpAny_throw ?_)
      -- the state without the exception and the block's names
      have sI' : Inv X pins σ H { sI with heap := PySem.W.hideAll sI.heap [ce.locals] } := by
        have hs : ∀ b o, (PySem.W.hideAll sI.heap [ce.locals]).get? b = some o → sI.heap.get? b = some o := fun b o q => PySem.W.of_hideAll _ q
        have hk : ∀ b o, sI.heap.get? b = some o → b ≠ ce.locals → (PySem.W.hideAll sI.heap [ce.locals]).get? b = some o := fun b o q hb => PySem.W.hideAll_get _ q fun hm => hb (List.mem_singleton.mp hm)
        have old : ∀ b o, s3.heap.get? b = some o → b ≠ ce.locals := fun b o q z => by
          have := Heap.lt_size q
          rw [z, cL] at this
          exact absurd this (Nat.lt_irrefl _)
        have fC : H ce.locals = none := I.free
        refine I3.call' (ch := fp) I.os ⟨fun b o e n hb hx => hk b o (I.base.keep b o e n hb hx) (old b o e), fun b o e n hb hx => ?_, I.base.free, fun b o e hx => ?_, I.base.tups, I.base.frzs, I.base.tbls⟩ (fun b o q => (I.hok b o q).stay (fun c u hc r => hk c u r fun z => ?_) (fun _ r => r) fun _ _ r => r) I.bare fun b hb => ⟨(f3 b hb).2.2.2.1, (f3 b hb).2.1, (f3 b hb).2.2.2.2.1, (f3 b hb).2.2.2.2.2⟩
        · obtain ⟨sl, q⟩ := I.base.slot b o e n hb hx
          exact ⟨sl, hk b _ q (old b o e)⟩
        · obtain ⟨o', q⟩ := I.base.there b o e hx
          exact ⟨o', hk b _ q (old b o e)⟩
        · rcases hc with hc | hc
          · rw [← hc, z, fC] at q; cases q
          · rw [z, fC] at hc; cases hc
      refine tk _ _ ⟨a, PySem.W.hideAll B [ce.locals], _, pins, σ, H, cls, d, rfl, sI', fun b o q hb => ?_, fun b o q hnf => ?_, .inr (.inr (by rw [st]; exact hh2)), na, os, ag, w⟩
      · have q' : sI.heap.get? b = some o := PySem.W.of_hideAll _ q
        have hbC : b ≠ ce.locals := fun z => by
          have q2 : (PySem.W.hideAll sI.heap [ce.locals]).get? b = some o := q
          rw [PySem.W.hideAll_none [ce.locals] (by rw [z]; exact List.mem_singleton.mpr rfl)] at q2; cases q2
        exact PySem.W.hideAll_get _ (nb b o q' hb) fun hm => hbC (List.mem_singleton.mp hm)
      · have q' : sI.heap.get? b = some o := PySem.W.of_hideAll _ q
        have hbC : b ≠ ce.locals := fun z => by
          have q2 : (PySem.W.hideAll sI.heap [ce.locals]).get? b = some o := q
          rw [PySem.W.hideAll_none [ce.locals] (by rw [z]; exact List.mem_singleton.mpr rfl)] at q2; cases q2
        obtain ⟨s1, e1⟩ := up b o q' hnf
        obtain ⟨s2, e2⟩ := up1 b _ e1 hnf
        obtain ⟨s3, e3⟩ := up2 b _ ((hsb.2 b hbC).trans e2) hnf
        exact ⟨s3, e3⟩
    cases use <;> exact main
  rcases sky' with ⟨hB, hn, hl, oe, vs, he, hz, hd, h1⟩ | fl | hd
  · exact HandSPX.look_newZ Zc.steady hfr hl ef0 he hB hn hd h1 hz key
  · exact HandSPX.looks_onZ Zc.steady hfr ef0 fl key
  · exact looks_heldZ Zc.steady hfr ef0 hd key
end

section
variable {X : Cx}
theorem lc_coreX {W : WX} {pins : List (Addr × Obj)} {s : Shared} {σ : L2.St} {H : Hp} {Q : VK} {elt tg iter : Expr} {ifs : List Expr} {scope : Scope} {own : List (Str × Nat)} {pos pos' : Pos} {wi : TI} {g : TG} {tt : L2.St → TT} {te : L2.St → TE} {use : Option (Value → Sem Unit)} {Qf : Value → Shared → Prop}
    (top : TopW X W)
    (hc : X.calm = true) (hN : X.N.Nodup) (I : Inv X pins σ H s) (hi : PI X tg iter wi) (ok : BlkOk X.N X.env.scope scope own)
    (hg : ∀ (σ0 : L2.St) (s : Shared) (H : Hp) (C : Addr) (cl : List (Str × Addr)) (fp : List Addr) (xe : Value → Shared → Prop), (∀ Lq, TakesL (blkX X s H scope (compEnvC scope cl C X.env) fp xe) (WAt W σ0) Lq) → PG (blkX X s H scope (compEnvC scope cl C X.env) fp xe) tg g)
    (ht : ∀ (σ0 : L2.St) (s : Shared) (H : Hp) (C : Addr) (cl : List (Str × Addr)) (fp : List Addr) (xe : Value → Shared → Prop), (∀ Lq, TakesL (blkX X s H scope (compEnvC scope cl C X.env) fp xe) (WAt W σ0) Lq) → PTs (blkX X s H scope (compEnvC scope cl C X.env) fp xe) ifs (tt σ0))
    (he : ∀ (σ0 : L2.St) (s : Shared) (H : Hp) (C : Addr) (cl : List (Str × Addr)) (fp : List Addr) (xe : Value → Shared → Prop), (∀ Lq, TakesL (blkX X s H scope (compEnvC scope cl C X.env) fp xe) (WAt W σ0) Lq) → PE (blkX X s H scope (compEnvC scope cl C X.env) fp xe) elt (te σ0)) (hs : ∀ x, foldedSetIterable iter X.env x = pure x)
    (h : tLc wi g (tt σ) (te σ) (own.map (·.2)) σ H Q)
    (hRR : ∀ D ce s' m H', Inv X pins σ H' s' → Q (.ref D) H' → s'.heap.Ns ce.locals m → FpOk X pins H' ce.locals → compPostE (model X.prog X.w) X.A X.xe use Qf (.ref D) ce (.ok .next) s') :
    wpAny (model X.prog X.w) X.A (comprehension (.ListComp elt [⟨tg, iter, ifs, 0⟩] scope pos) scope X.env pos' (newList []) false (eval iter X.env) use) Qf X.xe s := by
  have hfree : ∀ y ∈ scope.names, y.2 = .free → ∃ c, X.env.cells.lookup y.1 = some c := fun y hy e => by
    rcases ok.free y hy e with k | k
    · exact I.ok.has _ (.inl k)
    · exact I.ok.has _ (.inr k)
  refine wpAny_comprehension_E (use := use) rfl hs (closure_ok hfree) ok.kind (fun y hy e => by rw [ok.uniq y hy, e])
    (thn (hi.run pins s σ H _ I h) fun xv s1 hx => thn hx fun itv s2 h2 => ?_)
  obtain ⟨it, fp, tn, J, H2, e, I2, T, st2, f2, q⟩ := h2
  subst e
  refine wpAny_newObj_type (newEnv_comp ?_) (by show 0 ≤ sizeLine; decide)
  generalize hD : s2.heap.objs.size = D
  have hDn : H2 D = none := I2.hok.fresh (Nat.le_of_eq hD)
  obtain ⟨Wt, ⟨m0, w0⟩, turn⟩ := q D hDn
  generalize hs3 : ({ s2 with heap := s2.heap.push { cls := .type "list", data := .seq ([] : List Value).toArray } } : Shared) = s3
  have I3 : Inv X pins σ (upd H2 D (.lst [])) s3 := by
    rw [← hs3]
    refine I2.laid (t' := s2.toks) (fun b o e => Heap.get?_push_of_some _ e) (Nat.le_of_eq hD) ⟨Nat.zero_le _, [], 0, .nil, ?_⟩
    rw [← hD]
    exact Heap.get?_push_size _ rfl
  have h3 : s3.heap = s2.heap.push { cls := .type "list", data := .seq ([] : List Value).toArray } := by rw [← hs3]
  have sz : ∀ b ∈ fp, b < s2.heap.objs.size := fun b hb => by
    obtain ⟨o, e, _⟩ := T.obj _ _ st2 b hb
    exact Heap.lt_size e
  have f3 : ∀ b ∈ fp, FpOk X pins (upd H2 D (.lst [])) b ∧ b < s3.heap.objs.size := fun b hb => by
    have hlt := sz b hb
    refine ⟨⟨?_, (f2 b hb).2⟩, by rw [h3, Heap.size_push]; exact Nat.lt_succ_of_lt hlt⟩
    rw [upd_ne (by rw [← hD]; exact Nat.ne_of_lt hlt)]
    exact (f2 b hb).1
  have st3 : tn 0 s3.heap := T.keep _ _ _ st2 fun b _ o e => by rw [h3]; exact Heap.get?_push_of_some _ e
  have I4 := block_start I3 ok hN f3
  have pg := hg σ s3 (upd H2 D (.lst [])) s3.heap.objs.size (cellsFrom (s3.heap.objs.size + 1) scope.names (cloFrom X.env.cells scope.names [])) fp
  have pt := ht σ s3 (upd H2 D (.lst [])) s3.heap.objs.size (cellsFrom (s3.heap.objs.size + 1) scope.names (cloFrom X.env.cells scope.names [])) fp
  have pe := he σ s3 (upd H2 D (.lst [])) s3.heap.objs.size (cellsFrom (s3.heap.objs.size + 1) scope.names (cloFrom X.env.cells scope.names [])) fp
  have cF : (compEnvC scope (cellsFrom (s3.heap.objs.size + 1) scope.names (cloFrom X.env.cells scope.names [])) s3.heap.objs.size X.env).frame = X.env.frame := rfl
  show codeAny _ _ (.compStart (.ListComp elt [⟨tg, iter, ifs, 0⟩] scope pos) 0 (.ref it) (.ref D) (compEnvC scope (cellsFrom (s3.heap.objs.size + 1) scope.names (cloFrom X.env.cells scope.names [])) s3.heap.objs.size X.env))
    (compPostE (model X.prog X.w) X.A X.xe use Qf (.ref D) (compEnvC scope (cellsFrom (s3.heap.objs.size + 1) scope.names (cloFrom X.env.cells scope.names [])) s3.heap.objs.size X.env)) { s3 with heap := pushCells (s3.heap.push { cls := .type "dict", data := .dict #[] }) scope.names }
  have nfp : ∀ b ∈ fp, (upd H2 D (.lst [])) b = none := fun b hb => (f3 b hb).1.1
  generalize hce : compEnvC scope (cellsFrom (s3.heap.objs.size + 1) scope.names (cloFrom X.env.cells scope.names [])) s3.heap.objs.size X.env = ce at I4 pg pt pe cF ⊢
  have cL : ce.locals = s3.heap.objs.size := by subst hce; rfl
  generalize hH3 : upd H2 D (.lst []) = H3 at I3 I4 pg pt pe w0 nfp f3
  generalize hs4 : ({ s3 with heap := pushCells (s3.heap.push { cls := .type "dict", data := .dict #[] }) scope.names } : Shared) = s4 at I4 ⊢
  have st4 : tn 0 s4.heap := T.keep _ _ _ st3 fun b _ o e => by rw [← hs4]; exact pushCells_keeps _ _ _ _ (Heap.get?_push_of_some _ e)
  have tkb := takes_blk (use := use) (Qf := Qf) (acc := .ref D) (scope := scope) (fp := fp) top I3 (fun b hb => (f3 b hb).1) cF cL
  generalize hxe : notedBy (model X.prog X.w) X.A ce (fun e s' => compPostE (model X.prog X.w) X.A X.xe use Qf (.ref D) ce (.error e) s') = xeb at tkb
  replace pg := pg xeb tkb
  replace pt := pt xeb tkb
  replace pe := pe xeb tkb
  replace I4 := Inv.reX (xe := xeb) I4
  have stat : ∀ {σ' : L2.St} {H' : Hp} {s' : Shared}, Inv (blkX X s3 H3 scope ce fp xeb) [] σ' H' s' → (∀ b ∈ fp, H' b = none) → ∀ b ∈ fp, FpOk (blkX X s3 H3 scope ce fp xeb) [] H' b := fun {σ' H' s'} I' hn b hb =>
    ⟨hn b hb, (I'.ok.exf b hb).1, I'.ok.exfs b hb, .inl hb, fun x c e => (I'.ok.exf b hb).2 x c e, fun p hp => absurd (show p ∈ ([] : List (Addr × Obj)) ++ [] from hp) (by simp)⟩
  have loop : codeAny (model X.prog X.w) X.A (.compLoop (.ListComp elt [⟨tg, iter, ifs, 0⟩] scope pos) 0 (.ref it) (.ref D) ce) (compPostE (model X.prog X.w) X.A X.xe use Qf (.ref D) ce) s4 := by
    refine compLoop_any (fun n s' => ∃ i H', Inv (blkX X s3 H3 scope ce fp xeb) [] (wipe σ (own.map (·.2))) H' s' ∧ tn i s'.heap ∧ (∀ b ∈ fp, H' b = none) ∧ Wt i n H') ?_ m0 ⟨0, H3, I4, st4, nfp, w0⟩
    rw [hxe]
    rintro n s5 ⟨i, H5, I5, st5, n5, w5⟩
    rcases turn i n H5 w5 with ⟨stop, qq⟩ | ⟨go, Nx, hNx, step⟩
    · have td := T.done (blkX X s3 H3 scope ce fp xeb) rfl rfl rfl hc i [] s5 _ H5 xeb I5 (stat I5 n5) st5 stop
      refine thn td fun r s6 ⟨hr, I6⟩ => ?_
      subst hr
      have I7 : Inv X pins σ H5 s6 := I3.call' (ch := fp) I6.os I6.base I6.hok I6.bare fun b hb => ⟨(f3 b hb).1.2.2.2.1, (f3 b hb).1.2.1, (f3 b hb).1.2.2.2.2.1, (f3 b hb).1.2.2.2.2.2⟩
      have nC : H5 ce.locals = none := I6.free
      obtain ⟨m, hn, _⟩ := I6.loc
      exact hRR D ce s6 m H5 I7 qq hn (I3.fpOk (Nat.le_of_eq cL.symm) nC)
    · have ti := T.item (blkX X s3 H3 scope ce fp xeb) rfl rfl rfl hc i [] s5 _ H5 xeb I5 (stat I5 n5) st5 go
      refine thn ti fun r s6 ⟨u, hr, h6⟩ => ?_
      subst hr
      refine thn h6 fun _ s7 ⟨x, H7, I7, r7, y7, st7, n7⟩ => ?_
      have I7' := I7.pinned (stat I7 n7) (T.obj _ _ st7)
      refine thn (pg.run _ s7 _ H7 x u _ I7' r7 (step x H7 y7)) fun _ s8 ⟨σ8, H8, I8, hw8, q8⟩ => ?_
      refine thn (pt.run _ s8 σ8 H8 _ I8 q8) fun b s9 ⟨H9, I9, q9⟩ => ?_
      have fin : ∀ {s' : Shared} {H' : Hp}, Inv (blkX X s3 H3 scope ce fp xeb) ([] ++ pinsAt fp s7.heap) σ8 H' s' → Nx H' → ∃ m, m < n ∧ ∃ i H', Inv (blkX X s3 H3 scope ce fp xeb) [] (wipe σ (own.map (·.2))) H' s' ∧ tn i s'.heap ∧ (∀ b ∈ fp, H' b = none) ∧ Wt i m H' := fun {s' H'} I' nx => by
        obtain ⟨m', hm, w'⟩ := hNx H' nx
        have pin' : ∀ b ∈ fp, ∀ o, s7.heap.get? b = some o → s'.heap.get? b = some o ∧ H' b = none := fun b hb o e =>
          let z := I'.pin (b, o) (List.mem_append_right _ (List.mem_append_right _ (mem_pinsAt hb e)))
          ⟨z.1, z.2.1⟩
        have hl : (wipe σ (own.map (·.2))).length = σ8.length := by rw [← hw8, wipe_length]
        refine ⟨m', hm, i + 1, H', (I'.unpinned (pins := [])).weak hl (fun j v e => ?_), T.keep _ _ _ st7 fun b hb o e => (pin' b hb o e).1, fun b hb => ?_, w'⟩
        · rw [← hw8] at e
          exact (wipe_some e).1
        · obtain ⟨o, e, _⟩ := T.obj _ _ st7 b hb
          exact (pin' b hb o e).2
      cases b with
      | false =>
        simp only [Bool.false_eq_true, if_false] at q9 ⊢
        exact fin I9 q9
      | true =>
        simp only [if_true] at q9 ⊢
        refine thn (pe.run _ s9 σ8 H9 _ I9 q9) fun z s10 ⟨yv, H10, I10, r10, acc, hD10, hz10, nx⟩ => ?_
        exact app_ok (X := blkX X s3 H3 scope ce fp xeb) I10 hD10 hz10 r10 fun s11 I11 => fin I11 nx
  exact codeAny_compStart_list loop (T.self X.A 0 _ _ _ st4 loop)
/-- as a value -/
theorem pe_lcX {W : WX} {elt tg iter : Expr} {ifs : List Expr} {scope : Scope} {own : List (Str × Nat)} {pos : Pos} {wi : TI} {g : TG} {tt : L2.St → TT} {te : L2.St → TE}
    (top : TopW X W) (hc : X.calm = true) (hN : X.N.Nodup) (hi : PI X tg iter wi) (ok : BlkOk X.N X.env.scope scope own)
    (hg : ∀ (σ0 : L2.St) (s : Shared) (H : Hp) (C : Addr) (cl : List (Str × Addr)) (fp : List Addr) (xe : Value → Shared → Prop), (∀ Lq, TakesL (blkX X s H scope (compEnvC scope cl C X.env) fp xe) (WAt W σ0) Lq) → PG (blkX X s H scope (compEnvC scope cl C X.env) fp xe) tg g)
    (ht : ∀ (σ0 : L2.St) (s : Shared) (H : Hp) (C : Addr) (cl : List (Str × Addr)) (fp : List Addr) (xe : Value → Shared → Prop), (∀ Lq, TakesL (blkX X s H scope (compEnvC scope cl C X.env) fp xe) (WAt W σ0) Lq) → PTs (blkX X s H scope (compEnvC scope cl C X.env) fp xe) ifs (tt σ0))
    (he : ∀ (σ0 : L2.St) (s : Shared) (H : Hp) (C : Addr) (cl : List (Str × Addr)) (fp : List Addr) (xe : Value → Shared → Prop), (∀ Lq, TakesL (blkX X s H scope (compEnvC scope cl C X.env) fp xe) (WAt W σ0) Lq) → PE (blkX X s H scope (compEnvC scope cl C X.env) fp xe) elt (te σ0)) (hs : ∀ x, foldedSetIterable iter X.env x = pure x) :
    PE X (.ListComp elt [⟨tg, iter, ifs, 0⟩] scope pos) (fun σ H Q => tLc wi g (tt σ) (te σ) (own.map (·.2)) σ H Q) := by
  refine ⟨fun pins s σ H Q I h => ?_⟩
  rw [eval_ListComp]
  refine lc_coreX top hc hN I hi ok hg ht he hs h fun D ce s' m H' I' q hn f => ⟨m, hn, fun h'' sb => ?_⟩
  obtain ⟨f0, f1, f2, f3, f4, f5⟩ := f
  exact ⟨.ref D, H', I'.turned (t' := s'.toks) (fun b o hb e => (sb.2 b hb).trans e) f0 f1 f3 f4 f5, rfl, q⟩
/-- name = [..] on one line, the name a local -/
theorem ps_setLcX {W : WX} {i : Nat} {y : Str} {py : Pos} {elt tg iter : Expr} {ifs : List Expr} {scope : Scope} {own : List (Str × Nat)} {pos spos : Pos} {wi : TI} {g : TG} {tt : L2.St → TT} {te : L2.St → TE}
    (top : TopW X W) (hc : X.calm = true) (hN : X.N.Nodup) (hy : X.N[i]? = some y) (hyl : X.env.scope.names.lookup y = some .local)
    (hsw : swapsWith (.ListComp elt [⟨tg, iter, ifs, 0⟩] scope pos) (some (.Name y py)) spos.line X.env = pure true) (hi : PI X tg iter wi) (ok : BlkOk X.N X.env.scope scope own)
    (hg : ∀ (σ0 : L2.St) (s : Shared) (H : Hp) (C : Addr) (cl : List (Str × Addr)) (fp : List Addr) (xe : Value → Shared → Prop), (∀ Lq, TakesL (blkX X s H scope (compEnvC scope cl C X.env) fp xe) (WAt W σ0) Lq) → PG (blkX X s H scope (compEnvC scope cl C X.env) fp xe) tg g)
    (ht : ∀ (σ0 : L2.St) (s : Shared) (H : Hp) (C : Addr) (cl : List (Str × Addr)) (fp : List Addr) (xe : Value → Shared → Prop), (∀ Lq, TakesL (blkX X s H scope (compEnvC scope cl C X.env) fp xe) (WAt W σ0) Lq) → PTs (blkX X s H scope (compEnvC scope cl C X.env) fp xe) ifs (tt σ0))
    (he : ∀ (σ0 : L2.St) (s : Shared) (H : Hp) (C : Addr) (cl : List (Str × Addr)) (fp : List Addr) (xe : Value → Shared → Prop), (∀ Lq, TakesL (blkX X s H scope (compEnvC scope cl C X.env) fp xe) (WAt W σ0) Lq) → PE (blkX X s H scope (compEnvC scope cl C X.env) fp xe) elt (te σ0)) (hs : ∀ x, foldedSetIterable iter X.env x = pure x) :
    PS X (.Assign [.Name y py] (.ListComp elt [⟨tg, iter, ifs, 0⟩] scope pos) spos) (tAsg (fun σ H Q => tLc wi g (tt σ) (te σ) (own.map (·.2)) σ H Q) (gName i)) := by
  refine ⟨fun pins s σ H D I h => ?_⟩
  rw [exec_Assign_Name_used _ _ _ _ hsw]
  refine wpAny_bind (wpAny_standAt (wpAny_bind ?_))
  show wpAny _ X.A (do let _ ← comprehension (.ListComp elt [⟨tg, iter, ifs, 0⟩] scope pos) scope X.env (firstIterPos [⟨tg, iter, ifs, 0⟩] pos) (newList []) false (eval iter X.env) (some (assign (.Name y py) X.env))) _ _ s
  have h : tLc wi g (tt σ) (te σ) (own.map (·.2)) σ H (fun x H1 => gName i x σ H1 D.nx) := h
  refine wpAny_bind (thn (lc_coreX (Qf := fun _ s' => SP X pins D .next s') top hc hN I hi ok hg ht he hs h fun L ce s' m H' I' q hn f => ?_) fun _ s' hq => wpAny_pure (wpAny_pure hq))
  show wpAny _ _ (assign (.Name y py) X.env (.ref L)) _ _ _
  refine wpAny_assign_Name (store_ok2 (v := V.ref L) I' hN hy (.inl hyl) rfl (fun s2 I2 ⟨a, sb, ha⟩ => ?_) (.inr hyl))
  obtain ⟨f0, f1, f2, f3, f4, f5⟩ := f
  have haC : ce.locals ≠ a := by
    rcases ha with z | z
    · rw [z]; exact f1
    · exact fun e => f4 y a z e.symm
  refine ⟨m, hn.sameBut sb haC, fun h3 sb3 => ?_⟩
  exact ⟨_, H', I2.turned (t' := s2.toks) (fun b o hb e => (sb3.2 b hb).trans e) f0 f1 f3 f4 f5, q⟩
end
end LI
end
section
set_option Elab.async false
set_option linter.all false
set_option maxRecDepth 100000
set_option maxHeartbeats 4000000
/-! LiTg: targets; comprehensions. -/
namespace LI
open PySem PySem.Spec PyProof.Rows L2

section
variable {Γ : Ctx} {D : Pd} {en : En} {S S1 S2 : Sn} {H H1 H2 : Hp} {env : LI.Env} {σ : L2.St} {Wx : WX}
variable {N : List Str} {sc : Scope} {k : Nat} {X : Cx} {ea eb ec : Expr} {pos p apos : Pos} {ra rb rc : Sto → R W} {e tg : Expr} {es : List Expr} {rs : Sto → R (List W)}

/-! ### slots -/
theorem SlR.setV {i : Nat} {w : W} {v : V} (sl : SlR Γ en S H env σ) (r : RepS Γ S w v) : SlR Γ en S H (env.set i (.v w)) (σ.set i (some v)) := by
  refine ⟨by rw [List.length_set, List.length_set]; exact sl.len, fun j s o e1 e2 => ?_, fun j l xs ys a e1 e2 e3 e4 => ?_, one_set sl.one fun _ _ _ z => by cases z⟩
  · by_cases q : i = j
    · subst q
      have h1 : i < env.length := by have := (List.getElem?_eq_some_iff.mp e1).1; rwa [List.length_set] at this
      rw [List.getElem?_set_self h1] at e1
      rw [List.getElem?_set_self (by rw [← sl.len]; exact h1)] at e2
      cases e1; cases e2
      exact ⟨v, rfl, r⟩
    · rw [List.getElem?_set_ne q] at e1 e2
      exact sl.at_ j s o e1 e2
  · have n1 : i ≠ j := fun q => by
      subst q
      have h1 : i < env.length := by have := (List.getElem?_eq_some_iff.mp e1).1; rwa [List.length_set] at this
      rw [List.getElem?_set_self h1] at e1; cases e1
    have n2 : i ≠ l := fun q => by
      subst q
      have h1 : i < env.length := by have := (List.getElem?_eq_some_iff.mp e2).1; rwa [List.length_set] at this
      rw [List.getElem?_set_self h1] at e2; cases e2
    rw [List.getElem?_set_ne n1] at e1 e3
    rw [List.getElem?_set_ne n2] at e2 e4
    exact sl.dis j l xs ys a e1 e2 e3 e4
theorem SlR.setUn {i : Nat} {o : Option V} (sl : SlR Γ en S H env σ) : SlR Γ en S H (env.set i .un) (σ.set i o) := by
  refine ⟨by rw [List.length_set, List.length_set]; exact sl.len, fun j s o e1 e2 => ?_, fun j l xs ys a e1 e2 e3 e4 => ?_, one_set sl.one fun _ _ _ z => by cases z⟩
  · by_cases q : i = j
    · subst q
      have h1 : i < env.length := by have := (List.getElem?_eq_some_iff.mp e1).1; rwa [List.length_set] at this
      rw [List.getElem?_set_self h1] at e1
      cases e1
      exact True.intro
    · rw [List.getElem?_set_ne q] at e1 e2
      exact sl.at_ j s o e1 e2
  · have n1 : i ≠ j := fun q => by
      subst q
      have h1 : i < env.length := by have := (List.getElem?_eq_some_iff.mp e1).1; rwa [List.length_set] at this
      rw [List.getElem?_set_self h1] at e1; cases e1
    have n2 : i ≠ l := fun q => by
      subst q
      have h1 : i < env.length := by have := (List.getElem?_eq_some_iff.mp e2).1; rwa [List.length_set] at this
      rw [List.getElem?_set_self h1] at e2; cases e2
    rw [List.getElem?_set_ne n1] at e1 e3
    rw [List.getElem?_set_ne n2] at e2 e4
    exact sl.dis j l xs ys a e1 e2 e3 e4
/-- a list that no other name knows -/
theorem SlR.setOwn {i : Nat} {xs : List W} {vs : List V} {a : Addr} (sl : SlR Γ en S H env σ) (ow : Own S en a) (ha : H a = some (.lst vs)) (r : RepsS Γ S xs vs)
    (hn : ∀ j ys, j ≠ i → env[j]? = some (.own ys) → σ[j]? ≠ some (some (.ref a))) : SlR Γ en S H (env.set i (.own xs)) (σ.set i (some (.ref a))) := by
  refine ⟨by rw [List.length_set, List.length_set]; exact sl.len, fun j s o e1 e2 => ?_, fun j l xs' ys a' e1 e2 e3 e4 => ?_, one_set sl.one fun _ _ _ z => by cases z⟩
  · by_cases q : i = j
    · subst q
      have h1 : i < env.length := by have := (List.getElem?_eq_some_iff.mp e1).1; rwa [List.length_set] at this
      rw [List.getElem?_set_self h1] at e1
      rw [List.getElem?_set_self (by rw [← sl.len]; exact h1)] at e2
      cases e1; cases e2
      exact ⟨a, vs, rfl, ow, ha, r⟩
    · rw [List.getElem?_set_ne q] at e1 e2
      exact sl.at_ j s o e1 e2
  · have at1 : ∀ j zs, (env.set i (.own xs))[j]? = some (Sl.own zs) → (σ.set i (some (.ref a)))[j]? = some (some (.ref a')) → (i = j ∧ a = a') ∨ (i ≠ j ∧ env[j]? = some (.own zs) ∧ σ[j]? = some (some (.ref a'))) := fun j zs e1 e3 => by
      by_cases q : i = j
      · subst q
        have h1 : i < env.length := by have := (List.getElem?_eq_some_iff.mp e1).1; rwa [List.length_set] at this
        rw [List.getElem?_set_self (by rw [← sl.len]; exact h1)] at e3
        cases e3
        exact .inl ⟨rfl, rfl⟩
      · rw [List.getElem?_set_ne q] at e1 e3
        exact .inr ⟨q, e1, e3⟩
    rcases at1 j xs' e1 e3 with ⟨q1, z1⟩ | ⟨q1, f1, g1⟩
    · rcases at1 l ys e2 e4 with ⟨q2, z2⟩ | ⟨q2, f2, g2⟩
      · exact q1.symm.trans q2
      · subst z1
        exact absurd g2 (hn l ys (Ne.symm q2) f2)
    · rcases at1 l ys e2 e4 with ⟨q2, z2⟩ | ⟨q2, f2, g2⟩
      · subst z2
        exact absurd g1 (hn j xs' (Ne.symm q1) f1)
      · exact sl.dis j l xs' ys a' f1 f2 g1 g2
theorem wipe_in {i : Nat} : ∀ {vs : List Nat}, i ∈ vs → i < σ.length → (wipe σ vs)[i]? = some none
  | [], h, _ => by simp at h
  | v :: vs, h, hl => by
    unfold wipe
    by_cases q : v = i
    · subst q
      exact List.getElem?_set_self (by rw [wipe_length]; exact hl)
    · rw [List.getElem?_set_ne q]
      exact wipe_in ((List.mem_cons.mp h).resolve_left fun z => q z.symm) hl
theorem wipe_get {i : Nat} {vs : List Nat} : (wipe σ vs)[i]? = if i ∈ vs ∧ i < σ.length then some none else σ[i]? := by
  split
  · rename_i h; exact wipe_in h.1 h.2
  · rename_i h
    by_cases q : i ∈ vs
    · have hl : ¬ i < σ.length := fun z => h ⟨q, z⟩
      rw [List.getElem?_eq_none (by rw [wipe_length]; omega), List.getElem?_eq_none (by omega)]
    · exact wipe_out q
theorem wipe_set {i : Nat} {o : Option V} {vs : List Nat} (h : i ∈ vs) : wipe (σ.set i o) vs = wipe σ vs := by
  apply List.ext_getElem?
  intro j
  rw [wipe_get, wipe_get, List.length_set]
  by_cases q : j ∈ vs ∧ j < σ.length
  · rw [if_pos q, if_pos q]
  · rw [if_neg q, if_neg q]
    by_cases z : i = j
    · subst z
      have hl : ¬ i < σ.length := fun z => q ⟨h, z⟩
      rw [List.getElem?_eq_none (by rw [List.length_set]; omega), List.getElem?_eq_none (by omega)]
    · rw [List.getElem?_set_ne z]
theorem wipe_wipe {vs : List Nat} : wipe (wipe σ vs) vs = wipe σ vs := by
  apply List.ext_getElem?
  intro j
  rw [wipe_get, wipe_get, wipe_length]
  split <;> rfl
/-- slots forgotten -/
def wipeE (env : LI.Env) : List Nat → LI.Env
  | [] => env
  | v :: vs => (wipeE env vs).set v .un
theorem SlR.wipe (sl : SlR Γ en S H env σ) : ∀ vs : List Nat, SlR Γ en S H (wipeE env vs) (L2.wipe σ vs)
  | [] => sl
  | v :: vs => (SlR.wipe sl vs).setUn
theorem wipeE_len : ∀ vs : List Nat, (wipeE env vs).length = env.length
  | [] => rfl
  | v :: vs => by unfold wipeE; rw [List.length_set, wipeE_len vs]
theorem wipeE_out {i : Nat} : ∀ {vs : List Nat}, i ∉ vs → (wipeE env vs)[i]? = env[i]?
  | [], _ => rfl
  | v :: vs, h => by
    unfold wipeE
    rw [List.getElem?_set_ne fun e => h (by rw [e]; exact List.mem_cons_self)]
    exact wipeE_out fun m => h (List.mem_cons_of_mem _ m)

/-! ### targets -/
def tgIx : Tg → List Nat
  | .nm i => [i]
  | .tup is => is
theorem setAll_len : ∀ (is : List Nat) (xs : List W) (env : LI.Env), (setAll env is xs).length = env.length
  | [], _, env => by cases ‹List W› <;> rfl
  | i :: is, [], env => rfl
  | i :: is, x :: xs, env => by rw [setAll, setAll_len is xs, List.length_set]
theorem setAll_get : ∀ (is : List Nat) (xs : List W) (e1 e2 : LI.Env), e1.length = e2.length → is.length = xs.length → (∀ j, j ∉ is → e1[j]? = e2[j]?) → setAll e1 is xs = setAll e2 is xs
  | [], xs, e1, e2, _, h, hj => by
    have : e1 = e2 := List.ext_getElem? fun j => hj j (by simp)
    rw [this]
  | i :: is, [], e1, e2, _, h, _ => by simp at h
  | i :: is, x :: xs, e1, e2, hl, h, hj => by
    rw [setAll, setAll]
    refine setAll_get is xs _ _ (by rw [List.length_set, List.length_set, hl]) (Nat.succ.inj h) fun j hn => ?_
    by_cases q : i = j
    · subst q
      by_cases hi : i < e1.length
      · rw [List.getElem?_set_self hi, List.getElem?_set_self (by omega)]
      · rw [List.getElem?_eq_none (by rw [List.length_set]; omega), List.getElem?_eq_none (by rw [List.length_set]; omega)]
    · rw [List.getElem?_set_ne q, List.getElem?_set_ne q]
      exact hj j fun z => by
        rcases List.mem_cons.mp z with z | z
        · exact q z.symm
        · exact hn z
theorem set_ext {i : Nat} {s : Sl} {e1 e2 : LI.Env} (hl : e1.length = e2.length) (hj : ∀ j, j ≠ i → e1[j]? = e2[j]?) : e1.set i s = e2.set i s := by
  apply List.ext_getElem?
  intro j
  by_cases q : i = j
  · subst q
    by_cases hi : i < e1.length
    · rw [List.getElem?_set_self hi, List.getElem?_set_self (by omega)]
    · rw [List.getElem?_eq_none (by rw [List.length_set]; omega), List.getElem?_eq_none (by rw [List.length_set]; omega)]
  · rw [List.getElem?_set_ne q, List.getElem?_set_ne q]
    exact hj j (Ne.symm q)
theorem putT_wipe {s : Sto} {t : Tg} {w : W} {vs : List Nat} (h : ∀ i ∈ vs, i ∈ tgIx t) : putT (wipeE env vs) s t w = putT env s t w := by
  cases t with
  | nm i =>
    have e : (wipeE env vs).set i (.v w) = env.set i (.v w) := set_ext (wipeE_len vs) fun j hj => wipeE_out fun m => hj (by simpa [tgIx] using h j m)
    show some _ = some _
    rw [e]
  | tup is =>
    show (match seqOf s w with | some xs => if xs.length = is.length then some (setAll (wipeE env vs) is xs) else none | none => none) = (match seqOf s w with | some xs => if xs.length = is.length then some (setAll env is xs) else none | none => none)
    split
    · rename_i xs _
      split
      · rename_i hl
        rw [setAll_get is xs (wipeE env vs) env (wipeE_len vs) hl.symm fun j hj => wipeE_out fun m => hj (h j m)]
      · rfl
    · rfl
/-- a target takes a value -/
def gTg (Γ : Ctx) (en : En) (t : Tg) : TG := fun v σ H Q => ∃ S env w env', HR Γ S H ∧ SlR Γ en S H env σ ∧ RepS Γ S w v ∧ putT env S.S t w = some env' ∧
  ∀ σ', SlR Γ en S H env' σ' → (∀ vs, (∀ i ∈ tgIx t, i ∈ vs) → wipe σ' vs = wipe σ vs) → Q σ' H
theorem PG.mono {t t' : TG} (h : PG X tg t) (hm : ∀ v σ H Q, t' v σ H Q → t v σ H Q) : PG X tg t' := ⟨fun pins s σ H v u Q I r hw => h.run pins s σ H v u Q I r (hm _ _ _ _ hw)⟩
/-- names one behind another -/
def LocOk (X : Cx) (N : List Str) (i : Nat) (x : Str) : Prop := N[i]? = some x ∧ Loc X.env.scope x ∧ (X.fn x = true ∨ X.env.scope.names.lookup x = some .local)
theorem sg_nm {i : Nat} {x : Str} (C : XC Γ Wx N sc k X) (hl : LocOk X N i x) : PG X (.Name x p) (gTg Γ en (.nm i)) := by
  refine PG.mono (pg_name (i := i) (by rw [C.eN]; exact C.nd) (by rw [C.eN]; exact hl.1) hl.2.1 hl.2.2) ?_
  rintro v σ H Q ⟨S, env, w, env', hr, sl, r, e, q⟩
  cases e
  refine q _ (sl.setV r) fun vs hv => wipe_set (hv i (by simp [tgIx]))
inductive LocsOk (X : Cx) (N : List Str) : List Expr → List Nat → Prop
  | nil : LocsOk X N [] []
  | cons {x : Str} {p : Pos} {i : Nat} {es : List Expr} {is : List Nat} (h : LocOk X N i x) (t : LocsOk X N es is) : LocsOk X N (.Name x p :: es) (i :: is)
def gAll (is : List Nat) : TGs := fun vs σ H Q => vs.length = is.length ∧ Q ((is.zip vs).foldl (fun s p => s.set p.1 (some p.2)) σ) H
theorem PGs.mono {t t' : TGs} (h : PGs X es t) (hm : ∀ v σ H Q, t' v σ H Q → t v σ H Q) : PGs X es t' := ⟨fun pins s σ H v u Q I r hw => h.run pins s σ H v u Q I r (hm _ _ _ _ hw)⟩
theorem sgs_all (C : XC Γ Wx N sc k X) : ∀ {es : List Expr} {is : List Nat}, LocsOk X N es is → PGs X es (gAll is)
  | _, _, .nil => PGs.mono pgs_nil fun v σ H Q ⟨h, q⟩ => by
    cases v with
    | nil => exact ⟨rfl, q⟩
    | cons _ _ => cases h
  | _, _, .cons (i := i) h t => PGs.mono (pgs_cons (pg_name (i := i) (by rw [C.eN]; exact C.nd) (by rw [C.eN]; exact h.1) h.2.1 h.2.2) (sgs_all C t)) fun vs σ H Q ⟨h, q⟩ => by
    cases vs with
    | nil => cases h
    | cons v vs => exact ⟨v, vs, rfl, Nat.succ.inj h, q⟩
theorem locs_each {env : PySem.Env} : ∀ {es : List Expr} {is : List Nat}, LocsOk X N es is → (assignEach es env).length = is.length ∧ (assignEach es env).findIdx? (·.1) = none
  | _, _, .nil => ⟨rfl, rfl⟩
  | _, _, .cons h t => by
    obtain ⟨h1, h2⟩ := locs_each (env := env) t
    refine ⟨congrArg (· + 1) h1, ?_⟩
    rename_i x p i es is
    have e : assignEach (.Name x p :: es) env = (false, assign (.Name x p) env) :: assignEach es env := rfl
    rw [e, List.findIdx?_cons, h2]
    rfl
theorem SlR.setMany : ∀ {is : List Nat} {xs : List W} {vs : List V} {env : LI.Env} {σ : L2.St}, SlR Γ en S H env σ → RepsS Γ S xs vs → xs.length = is.length → SlR Γ en S H (LI.setAll env is xs) ((is.zip vs).foldl (fun s p => s.set p.1 (some p.2)) σ)
  | [], [], _, _, _, sl, r, _ => by cases (show _ = [] from r); exact sl
  | [], _ :: _, _, _, _, _, _, h => by cases h
  | _ :: _, [], _, _, _, _, _, h => by cases h
  | i :: is, x :: xs, _, env, σ, sl, ⟨v, vs, e, r1, r2⟩, h => by
    subst e
    exact SlR.setMany (is := is) (xs := xs) (env := env.set i (.v x)) (σ := σ.set i (some v)) (sl.setV r1) r2 (Nat.succ.inj h)
theorem wipe_fold {ws : List Nat} : ∀ (is : List Nat) (vs : List V) (σ : L2.St), (∀ i ∈ is, i ∈ ws) → wipe ((is.zip vs).foldl (fun s p => s.set p.1 (some p.2)) σ) ws = wipe σ ws
  | [], _, _, _ => rfl
  | i :: is, [], _, _ => rfl
  | i :: is, v :: vs, σ, h => by
    show wipe ((is.zip vs).foldl (fun s p => s.set p.1 (some p.2)) (σ.set i (some v))) ws = _
    rw [wipe_fold is vs _ fun j hj => h j (List.mem_cons_of_mem _ hj)]
    exact wipe_set (h i List.mem_cons_self)
/-- a list or tuple of that length -/
def gSeq (K : PySem.W.Frag) (n : Nat) (t : TGs) : TG := fun v σ H Q => ∃ a xs, v = .ref a ∧ (SqL K H a xs ∨ SqT K H a xs) ∧ xs.length = n ∧ t xs σ H Q
theorem pg_seq {kk n : Nat} {t : TGs} (hc : X.calm = true) (h : PGs X es t) (hn : (assignEach es X.env).length = n) (hst : (assignEach es X.env).findIdx? (·.1) = none) : PG X (.Tuple es kk pos) (gSeq X.K n t) := by
  refine ⟨fun pins s σ H v u Q I r hw => ?_⟩
  obtain ⟨a, xs, e1, hq, hl, hw⟩ := hw
  rcases hq with hq | hq
  · exact (pg_lst hc h hn hst).run pins s σ H v u Q I r ⟨a, xs, e1, hq, hl, hw⟩
  · exact (pg_tup hc h hn hst).run pins s σ H v u Q I r ⟨a, xs, e1, hq, hl, hw⟩
theorem sg_tup {is : List Nat} {kk : Nat} (C : XC Γ Wx N sc k X) (hc : X.calm = true) (hl : LocsOk X N es is) : PG X (.Tuple es kk pos) (gTg Γ en (.tup is)) := by
  obtain ⟨h1, h2⟩ := locs_each (env := X.env) hl
  refine PG.mono (pg_seq hc (sgs_all C hl) h1 h2) ?_
  rintro v σ H Q ⟨S, env, w, env', hr, sl, r, e, q⟩
  have e' : (match seqOf S.S w with | some xs => if xs.length = is.length then some (LI.setAll env is xs) else none | none => none) = some env' := e
  split at e'
  · rename_i xs e1
    split at e'
    · rename_i h3
      cases e'
      obtain ⟨a, vs, rfl, h4, r4⟩ := seq_view hr (RepX.of (H := H) r) e1
      rw [C.eK]
      refine ⟨a, vs, rfl, h4, by rw [r4.length]; exact h3, by rw [r4.length]; exact h3, ?_⟩
      exact q _ (sl.setMany r4 h3) fun ws hw => wipe_fold is vs σ hw
    · cases e'
  · cases e'

/-! ### comprehensions -/
/-- a reading at some slots -/
def tX {α β : Type} (Γ : Ctx) (Wx : WX) (en : En) (rd : LI.Env → Sto → R α) (P : Sn → Hp → α → β → Sn → Hp → Prop) : L2.St → Hp → (β → Hp → Prop) → Prop := fun σ H Q => ∃ env, tR Γ Wx en env (rd env) P σ H Q
def WF : WX := fun _ _ _ _ => False
theorem pe_X {rd : LI.Env → Sto → R W} {P : Sn → Hp → W → V → Sn → Hp → Prop} (h : ∀ env, PE X e (tR Γ Wx en env (rd env) P)) : PE X e (tX Γ Wx en rd P) := ⟨fun pins s σ H Q I ⟨env, hw⟩ => (h env).run pins s σ H Q I hw⟩
theorem RP.wf {α : Type} {r : R α} {kk : α → Sn → Hp → Prop} {σ' : L2.St} (h : RP Γ WF σ S H r kk) : RP Γ WF σ' S H r kk := by
  cases r with
  | ok a s => exact h
  | ex x s => exact h
  | no => exact h
/-- one behind another, told from where it began -/
theorem RP.seqB {α β : Type} {r : R α} {f : α → Sto → R β} {kk : β → Sn → Hp → Prop} (h : RP Γ Wx σ S H (r.bind f) kk) : RP Γ Wx σ S H r fun a S' H' => RP Γ Wx σ S H (f a S'.S) kk := by
  cases r with
  | ok a s => exact fun S' H' e fr hr => by subst e; exact h
  | ex x s => exact h
  | no => exact h
theorem RP.at0 {α : Type} {a : α} {kk : α → Sn → Hp → Prop} (h : RP Γ Wx σ S H (.ok a S1.S) kk) (fr : Fr S H S1 H1) (hr : HR Γ S1 H1) : kk a S1 H1 := h S1 H1 rfl fr hr
/-- how the items are gone through -/
structure Walks (it : LI.It) (f : W → Sto → R (Option W)) (B : Nat) (Rem : Nat → Nat → Sto → R (List W)) (ok : Nat → Nat → Prop) : Prop where
  ini : ok B 0
  le : B ≤ 16777216
  step : ∀ m i s, ok m i → (itemAt it s i = some none ∧ Rem m i s = .ok [] s) ∨ Rem m i s = .no ∨
    ∃ x m', itemAt it s i = some (some x) ∧ m' < m ∧ ok m' (i + 1) ∧ Rem m i s = (f x s).bind fun o s1 => (Rem m' (i + 1) s1).bind fun ys s2 => .ok (match o with
      | some y => y :: ys
      | none => ys) s2
theorem walks_lst {xs : List W} {f : W → Sto → R (Option W)} (h : okN xs.length = true) : Walks (.lst xs) f xs.length (fun _ i s => compL f (xs.drop i) s) (fun m i => xs.length ≤ m + i) := by
  refine ⟨by omega, of_decide_eq_true h, fun m i s hk => ?_⟩
  by_cases hi : i < xs.length
  · refine .inr (.inr ⟨xs[i], m - 1, by show some xs[i]? = _; rw [List.getElem?_eq_getElem hi], by omega, by omega, ?_⟩)
    rw [List.drop_eq_getElem_cons hi]
    rfl
  · refine .inl ⟨by show some xs[i]? = _; rw [List.getElem?_eq_none (by omega)], ?_⟩
    rw [List.drop_eq_nil_of_le (by omega)]
    rfl
theorem walks_cel {n sz : Nat} {en : Bool} {f : W → Sto → R (Option W)} (h : okN sz = true) : Walks (.cel n en) f sz (fun m i s => compC f n en m i s) (fun _ _ => True) := by
  refine ⟨trivial, of_decide_eq_true h, fun m i s _ => ?_⟩
  cases m with
  | zero => exact .inr (.inl rfl)
  | succ m =>
    show (itAt s n en i = some none ∧ _) ∨ _ ∨ ∃ x m', itAt s n en i = some (some x) ∧ _
    show (itAt s n en i = some none ∧ (match itAt s n en i with
      | none => R.no
      | some none => R.ok [] s
      | some (some x) => (f x s).bind fun o s1 => (compC f n en m (i + 1) s1).bind fun ys s2 => .ok (match o with
        | some y => y :: ys
        | none => ys) s2) = .ok [] s) ∨ (match itAt s n en i with
      | none => R.no
      | some none => R.ok [] s
      | some (some x) => (f x s).bind fun o s1 => (compC f n en m (i + 1) s1).bind fun ys s2 => .ok (match o with
        | some y => y :: ys
        | none => ys) s2) = .no ∨ ∃ x m', itAt s n en i = some (some x) ∧ m' < m + 1 ∧ True ∧ (match itAt s n en i with
      | none => R.no
      | some none => R.ok [] s
      | some (some x) => (f x s).bind fun o s1 => (compC f n en m (i + 1) s1).bind fun ys s2 => .ok (match o with
        | some y => y :: ys
        | none => ys) s2) = _
    cases itAt s n en i with
    | none => exact .inr (.inl rfl)
    | some o =>
      cases o with
      | none => exact .inl ⟨rfl, rfl⟩
      | some x => exact .inr (.inr ⟨x, m, rfl, by omega, trivial, rfl⟩)
/-- one item of a comprehension -/
def compF (t : Tg) (fs : LI.Env → Sto → R Bool) (el : LI.Env → Sto → R W) (env : LI.Env) : W → Sto → R (Option W) := fun x s2 => withE (putT env s2 t x) fun env2 =>
  (fs env2 s2).bind fun b s3 => if b then (el env2 s3).bind fun y s4 => .ok (some y) s4 else .ok none s3
theorem RP.wat {α : Type} {r : R α} {kk : α → Sn → Hp → Prop} {σ0 σ' : L2.St} (h : RP Γ (WAt Wx σ0) σ S H r kk) : RP Γ (WAt Wx σ0) σ' S H r kk := by
  cases r with
  | ok a s => exact h
  | ex x s => exact h
  | no => exact h
theorem RP.toAt {α : Type} {r : R α} {kk : α → Sn → Hp → Prop} (h : RP Γ Wx σ S H r kk) : RP Γ (WAt Wx σ) σ S H r kk := by
  cases r with
  | ok a s => exact h
  | ex x s => exact h
  | no => exact h
theorem se_comp {own : List (Str × Nat)} {t : Tg} {sz : Nat} {src : Sto → R LI.It} {fs : LI.Env → Sto → R Bool} {el : LI.Env → Sto → R W}
    (hv1 : ∀ i ∈ own.map (·.2), i ∈ tgIx t) (hv2 : ∀ i ∈ tgIx t, i ∈ own.map (·.2)) :
    (∀ σ H Q, tR Γ Wx en env (fun s => (src s).bind fun it s1 => (compI (compF t fs el env) sz it s1).bind fun ys s2 => .ok (W.lst ys) s2) (pN Γ) σ H Q →
      tLc (tI Γ Wx en env src) (gTg Γ en t) (tX Γ (WAt Wx σ) en fs pEq) (tX Γ (WAt Wx σ) en el (pRep Γ)) (own.map (·.2)) σ H Q) := by
  rintro σ H Q ⟨S, hr, sl, h⟩
  refine ⟨S, hr, sl, RP.mono h.seq fun it S1 H1 fr1 hr1 h1 J hJ D hD => ?_⟩
  have key : ∀ {B : Nat} {Rem : Nat → Nat → Sto → R (List W)} {okk : Nat → Nat → Prop}, Walks it (compF t fs el env) B Rem okk →
      RP Γ (WAt Wx σ) σ S1 H1 (Rem B 0 S1.S) (fun ys S' H' => RP Γ Wx σ S' H' (R.ok (W.lst ys) S'.S) fun w S' H' => ∀ v, pN Γ S H w v S' H' → Q v H') →
      ∃ W : Nat → Nat → Hp → Prop, (∃ m, W 0 m (upd H1 D (.lst []))) ∧ ∀ i m H, W i m H →
        (J.stop i H ∧ Q (.ref D) H) ∨ (J.go i H ∧ ∃ Nx : Hp → Prop, (∀ H', Nx H' → ∃ m', m' < m ∧ W (i + 1) m' H') ∧ ∀ x H', J.yld i H x H' → gTg Γ en t x (wipe σ (own.map (·.2))) H' fun σ2 H2 => wipe σ2 (own.map (·.2)) = wipe σ (own.map (·.2)) ∧ tX Γ (WAt Wx σ) en fs pEq σ2 H2 fun b H3 =>
          if b = true then tX Γ (WAt Wx σ) en el (pRep Γ) σ2 H3 fun y H4 => ∃ acc, H4 D = some (.lst acc) ∧ acc.length < sizeLine ∧ Nx (upd H4 D (.lst (acc ++ [y]))) else Nx H3) := by
    intro B Rem okk wk h2
    refine ⟨fun i m H' => ∃ S' acc accv, okk m i ∧ acc.length + m ≤ B ∧ Fr S1 H1 S' H' ∧ HR Γ S' H' ∧ H' D = some (.lst accv) ∧ RepsS Γ S' acc accv ∧ S'.F D = none ∧ S'.off D ∧
      RP Γ (WAt Wx σ) σ S1 H1 (Rem m i S'.S) (fun ys S'' H'' => RP Γ Wx σ S'' H'' (R.ok (W.lst (acc ++ ys)) S''.S) fun w S' H' => ∀ v, pN Γ S H w v S' H' → Q v H'), ⟨B, S1, [], [], wk.ini, by simp, hr1.frNewO hD, hr1.newO hD, upd_same, Reps.nil, hr1.sub.none hD, hr1.offN hD, h2⟩, ?_⟩
    rintro i m H' ⟨S', acc, accv, hk, hB, fr', hr', hd, ra, hf, ho, h3⟩
    rcases wk.step m i S'.S hk with ⟨e1, e2⟩ | e2 | ⟨x, m', e1, hm, hk', e2⟩
    · rw [e2] at h3
      refine .inl ⟨((hJ S' H' i fr'.gr hr').1 e1), ?_⟩
      have h4 := RP.done (RP.at0 h3 fr' hr') hr'
      rw [List.append_nil] at h4
      exact h4 _ (.inl ⟨acc, D, accv, rfl, rfl, fr1.none hD, hd, hf, ho, ra⟩)
    · rw [e2] at h3; exact h3.elim
    · obtain ⟨g1, g2⟩ := (hJ S' H' i fr'.gr hr').2 x e1
      refine .inr ⟨g1, fun H'' => ∃ m', m' < m ∧ ∃ S' acc accv, okk m' (i + 1) ∧ acc.length + m' ≤ B ∧ Fr S1 H1 S' H'' ∧ HR Γ S' H'' ∧ H'' D = some (.lst accv) ∧ RepsS Γ S' acc accv ∧ S'.F D = none ∧ S'.off D ∧
        RP Γ (WAt Wx σ) σ S1 H1 (Rem m' (i + 1) S'.S) (fun ys S'' H'' => RP Γ Wx σ S'' H'' (R.ok (W.lst (acc ++ ys)) S''.S) fun w S' H' => ∀ v, pN Γ S H w v S' H' → Q v H'), fun H'' h => h, fun v H2 hy => ?_⟩
      obtain ⟨S2, e3, fr2, hr2, rx⟩ := g2 v H2 hy
      rw [e2] at h3
      have h4 := h3.seqB
      rw [← e3] at h4
      unfold compF at h4
      cases ep : putT env S2.S t x with
      | none => rw [ep] at h4; exact h4.elim
      | some env2 =>
        rw [ep, withE_some] at h4
        have sl2 : SlR Γ en S2 H2 env σ := ((sl.mono hr fr1).mono hr1 fr').mono hr' fr2
        refine ⟨S2, wipeE env (own.map (·.2)), x, env2, hr2, sl2.wipe _, rx, by rw [putT_wipe hv1]; exact ep, fun σ2 sl3 hw => ⟨(hw _ hv2).trans wipe_wipe, env2, S2, hr2, sl3, ?_⟩⟩
        refine RP.wat (RP.mono (RP.shift h4.seqB (fr'.trans fr2)) fun b S3 H3 fr3 hr3 h5 b' eb => ?_)
        cases (show b = b' from eb)
        have hd3 := fr3.keep _ _ (fr2.keep _ _ hd ho) (fr2.off hd ho)
        have ho3 := fr3.off (fr2.keep _ _ hd ho) (fr2.off hd ho)
        have hf3 := fr3.own _ _ (fr2.keep _ _ hd ho) (fr2.own _ _ hd hf ho) (fr2.off hd ho)
        have frr := (fr'.trans fr2).trans fr3
        have ra3 := fr3.reps (fr2.reps ra)
        cases b with
        | false =>
          rw [if_neg Bool.false_ne_true] at h5 ⊢
          refine ⟨m', hm, S3, acc, accv, hk', by omega, frr, hr3, hd3, ra3, hf3, ho3, ?_⟩
          exact RP.mono (RP.at0 h5 frr hr3).seqB fun ys S4 H4 fr4 hr4 h6 => RP.at0 h6 fr4 hr4
        | true =>
          rw [if_pos rfl] at h5 ⊢
          refine ⟨env2, S3, hr3, sl3.mono hr2 fr3, RP.wat (RP.mono (RP.shift h5.seqB frr) fun y S4 H4 fr4 hr4 h6 yv ry => ?_)⟩
          have hd4 := fr4.keep _ _ hd3 ho3
          have ho4 := fr4.off hd3 ho3
          have hf4 := fr4.own _ _ hd3 hf3 ho3
          have ra4 := fr4.reps ra3
          have hl := ra4.length
          have hz : accv.length < sizeLine := by have := wk.le; rw [sizeLine_eq]; omega
          have h7 := RP.at0 h6 (frr.trans fr4) hr4
          -- the appended list
          have hr5 : HR Γ S4 (upd H4 D (.lst (accv ++ [yv]))) := by
            refine ⟨fun a u e => ?_, fun n c e => ?_, hr4.inj⟩
            · have : a ≠ D := fun z => by subst z; rw [hf4] at e; cases e
              rw [upd_ne this]; exact hr4.sub a u e
            · have q := hr4.cel n c e
              cases c with
              | lst xs =>
                obtain ⟨q1, us, q2, q3⟩ := q
                exact ⟨q1, us, by rw [upd_ne (ho4 n ⟨_, e, rfl⟩)]; exact q2, q3⟩
              | dK xs =>
                obtain ⟨q1, us, q2, q3⟩ := q
                exact ⟨q1, us, by rw [upd_ne (ho4 n ⟨_, e, rfl⟩)]; exact q2, q3⟩
              | dT xs =>
                obtain ⟨q1, us, q2, q3⟩ := q
                exact ⟨q1, us, by rw [upd_ne (ho4 n ⟨_, e, rfl⟩)]; exact q2, q3⟩
              | obj c ks fs =>
                obtain ⟨q1, dx, us, q2, q3⟩ := q
                exact ⟨q1, dx, us, by rw [upd_ne (ho4 n ⟨_, e, rfl⟩)]; exact q2, q3⟩
              | dead =>
                obtain ⟨o, q⟩ := q
                by_cases z : S4.φ n = D
                · exact ⟨_, by rw [z]; exact upd_same⟩
                · exact ⟨o, by rw [upd_ne z]; exact q⟩
          have hDn : H1 D = none := hD
          have fr5 : Fr S1 H1 S4 (upd H4 D (.lst (accv ++ [yv]))) := by
            have f := frr.trans fr4
            have ne : ∀ {a : Addr} {o : HO}, H1 a = some o → a ≠ D := fun {a o} e z => by subst z; rw [hDn] at e; cases e
            exact ⟨f.f, f.n, f.φ, fun a o e ho => by rw [upd_ne (ne e)]; exact f.keep a o e ho, f.own, f.new, f.live, fun a o e => by
              obtain ⟨o', q⟩ := f.there a o e
              exact ⟨o', by rw [upd_ne (ne e)]; exact q⟩⟩
          refine ⟨accv, hd4, hz, m', hm, S4, acc ++ [y], accv ++ [yv], hk', by rw [List.length_append]; simp; omega, fr5, hr5, upd_same, ra4.append (Reps.cons ry Reps.nil), hf4, ho4, ?_⟩
          -- the rest
          refine RP.mono h7.seqB fun ys S5 H5 fr6 hr6 h8 => ?_
          have h9 := RP.at0 h8 fr6 hr6
          rw [List.append_assoc]
          exact h9
  cases it with
  | lst xs =>
    show ∃ W : Nat → Nat → Hp → Prop, _
    have h1' : RP Γ Wx σ S1 H1 ((if okN xs.length then compL (compF t fs el env) xs S1.S else .no).bind fun ys s2 => .ok (W.lst ys) s2) (fun w S' H' => ∀ v, pN Γ S H w v S' H' → Q v H') := h1
    split at h1'
    · rename_i hz
      exact key (walks_lst hz) h1'.seq.toAt
    · exact h1'.elim
  | cel n en' =>
    have h1' : RP Γ Wx σ S1 H1 ((if okN sz then compC (compF t fs el env) n en' sz 0 S1.S else .no).bind fun ys s2 => .ok (W.lst ys) s2) (fun w S' H' => ∀ v, pN Γ S H w v S' H' → Q v H') := h1
    split at h1'
    · rename_i hz
      exact key (walks_cel hz) h1'.seq.toAt
    · exact h1'.elim

theorem xc_blk (C : XC Γ Wx N sc k X) {s : Shared} {H : Hp} {scope : Scope} {cl : List (Str × Addr)} {c : Addr} {fp : List Addr} {xe : Value → Shared → Prop} {Wb : WX} (tk : ∀ Lq, TakesL (blkX X s H scope (compEnvC scope cl c X.env) fp xe) Wb Lq) : XC Γ Wb N (relS scope sc) k (blkX X s H scope (compEnvC scope cl c X.env) fp xe) where
  eP := C.eP
  ew := C.ew
  eK := C.eK
  eM := C.eM
  eB := C.eB
  eN := C.eN
  eS := by
    have : (compEnvC scope cl c X.env).scope = relS scope X.env.scope := rfl
    show (compEnvC scope cl c X.env).scope = _
    rw [this, C.eS]
  nd := C.nd
  tk := tk _
  un := C.un
  rm := C.rm
theorem topW_blk {W Wb : WX} (top : TopW X W) {s : Shared} {H : Hp} {scope : Scope} {cl : List (Str × Addr)} {c : Addr} {fp : List Addr} {xe : Value → Shared → Prop} (tk : ∀ Lq, TakesL (blkX X s H scope (compEnvC scope cl c X.env) fp xe) Wb Lq) : TopW (blkX X s H scope (compEnvC scope cl c X.env) fp xe) Wb := by
  obtain ⟨e0, o0, L0, st, ef, ef0, _⟩ := top
  exact ⟨e0, o0, L0, st, ef, ef0, tk _⟩
end
end LI
end
section
set_option Elab.async false
set_option linter.all false
set_option maxRecDepth 100000
set_option maxHeartbeats 4000000
/-! LiSt: statements. -/
namespace LI
open PySem PySem.Spec PyProof.Rows L2

section
variable {Γ : Ctx} {D : Pd} {en : En} {S S1 S2 : Sn} {H H1 H2 : Hp} {env : LI.Env} {σ : L2.St} {Wx : WX}
variable {N : List Str} {sc : Scope} {k : Nat} {X : Cx} {ea eb ec : Expr} {pos p apos : Pos} {ra rb rc : Sto → R W} {e tg : Expr} {es : List Expr} {rs : Sto → R (List W)} {rd re rk : LI.Env → Sto → R W}

/-- from the entry -/
abbrev FrE (en : En) (S : Sn) (H : Hp) : Prop := Fr en.eS en.eH S H
def endO (Γ : Ctx) (D : Ends) (o : O) (S' : Sn) (H' : Hp) (σ' : L2.St) : Prop :=
  match o with
  | .nx => D.nx σ' H'
  | .bk => D.bk σ' H'
  | .ct => D.ct σ' H'
  | .rt w => ∀ v, RepS Γ S' w v → D.rt v H'
def RPS (Γ : Ctx) (Wx : WX) (en : En) (S : Sn) (r : RS) (D : Ends) : Prop :=
  match r with
  | .ok o env' s' => ∀ S' H' σ', S'.S = s' → Gr S S' → FrE en S' H' → HR Γ S' H' → SlR Γ en S' H' env' σ' → endO Γ D o S' H' σ'
  | .ex x env' s' => ∀ S' H' σ' cls d, S'.S = s' → Gr S S' → FrE en S' H' → HR Γ S' H' → SlR Γ en S' H' env' σ' → XR Γ S' H' x cls d → Wx cls d σ' H'
  | .no => False
theorem RPS.shiftG {r : RS} {D : Ends} (h : RPS Γ Wx en S r D) (g : Gr S S1) : RPS Γ Wx en S1 r D := by
  cases r with
  | ok o env s => exact fun S' H' σ' e g' => h S' H' σ' e (g.trans g')
  | ex x env s => exact fun S' H' σ' cls d e g' => h S' H' σ' cls d e (g.trans g')
  | no => exact h
/-- a statement's reading -/
def tS (Γ : Ctx) (Wx : WX) (en : En) (rd : LI.Env → Sto → RS) : TS := fun D σ H => ∃ S env, FrE en S H ∧ HR Γ S H ∧ SlR Γ en S H env σ ∧ RPS Γ Wx en S (rd env S.S) D
theorem stm_seq {α : Type} {r : R α} {f : α → Sto → RS} {D : Ends} (sl : SlR Γ en S H env σ) (hr : HR Γ S H) (fr : FrE en S H) (h : RPS Γ Wx en S (r.stm env f) D) :
    RP Γ Wx σ S H r fun a S' H' => FrE en S' H' ∧ SlR Γ en S' H' env σ ∧ RPS Γ Wx en S' (f a S'.S) D := by
  cases r with
  | ok a s => exact fun S' H' e fr' hr' => ⟨fr.trans fr', sl.mono hr fr', by subst e; exact RPS.shiftG (r := f a S'.S) h fr'.gr⟩
  | ex x s => exact fun S' H' cls d e fr' hr' xr => h S' H' σ cls d e fr'.gr (fr.trans fr') hr' (sl.mono hr fr') xr
  | no => exact h
/-- from a statement's reading to its expression's -/
theorem ts_expr {α β : Type} {rdE : LI.Env → Sto → R α} {f : LI.Env → α → Sto → RS} {P : Sn → Hp → α → β → Sn → Hp → Prop} {D : Ends} {Q : β → Hp → Prop} (h : tS Γ Wx en (fun env s => (rdE env s).stm env (f env)) D σ H)
    (hQ : ∀ S env a S' H' b, FrE en S H → HR Γ S H → SlR Γ en S H env σ → FrE en S' H' → HR Γ S' H' → SlR Γ en S' H' env σ → Fr S H S' H' → P S H a b S' H' → RPS Γ Wx en S' (f env a S'.S) D → Q b H') :
    tX Γ Wx en rdE P σ H Q := by
  obtain ⟨S, env, fr, hr, sl, h⟩ := h
  refine ⟨env, S, hr, sl, RP.mono (stm_seq sl hr fr h) fun a S' H' fr' hr' ⟨f1, sl1, h1⟩ b hp => hQ S env a S' H' b fr hr sl f1 hr' sl1 fr' hp h1⟩
theorem RPS.nx {D : Ends} (h : RPS Γ Wx en S (.ok .nx env S.S) D) (fr : FrE en S H) (hr : HR Γ S H) (sl : SlR Γ en S H env σ) : D.nx σ H := h S H σ rfl Gr.refl fr hr sl
theorem ss_expr (he : PE X e (tX Γ Wx en rd (pRepX Γ))) (hs : swapsWith e none pos.line X.env = pure false) : PS X (.Expr e pos) (tS Γ Wx en fun env s => (rd env s).stm env fun _ s1 => .ok .nx env s1) :=
  PS.mono (ps_expr he hs) fun D σ H h => ts_expr h fun S env a S' H' b f1 h1 s1 f2 h2 s2 f p q => q.nx f2 h2 s2
theorem ss_set {i : Nat} {x : Str} {pos' : Pos} (C : XC Γ Wx N sc k X) (hl : LocOk X N i x) (he : PE X e (tX Γ Wx en rd (pRep Γ))) (hs : swapsWith e (some (.Name x pos')) pos.line X.env = pure false) :
    PS X (.Assign [.Name x pos'] e pos) (tS Γ Wx en fun env s => (rd env s).stm env fun x s1 => .ok .nx (env.set i (.v x)) s1) :=
  PS.mono (ps_set (i := i) (by rw [C.eN]; exact C.nd) (by rw [C.eN]; exact hl.1) hl.2.1 he hs hl.2.2) fun D σ H h => ts_expr h fun S env a S' H' b f1 h1 s1 f2 h2 s2 f p q => q.nx f2 h2 (s2.setV p)
theorem none_own {a : Addr} (fr : FrE en S H) (hn : H a = none) : en.eH a = none := fr.none hn
/-- a new list, this name's own -/
theorem own_new {a : Addr} {S' : Sn} {H' : Hp} {xs : List W} {vs : List V} {i : Nat} (fr : FrE en S H) (sl0 : SlR Γ en S H env σ) (sl : SlR Γ en S' H' env σ) (hn : H a = none) (ha : H' a = some (.lst vs)) (hf : S'.F a = none) (ho : S'.off a) (r : RepsS Γ S' xs vs) :
    SlR Γ en S' H' (env.set i (.own xs)) (σ.set i (some (.ref a))) :=
  sl.setOwn ⟨hf, fr.none hn, ho⟩ ha r fun j ys hj e1 e2 => by
    obtain ⟨a', vs', e3, _, h4, _⟩ := sl0.at_ j _ _ e1 e2
    cases e3
    rw [hn] at h4; cases h4
def fOwn (i : Nat) : LI.Env → W → Sto → RS := fun env x s1 => match x with
  | .lst xs => .ok .nx (env.set i (.own xs)) s1
  | _ => .no
theorem own_end {D : Ends} {i : Nat} {a : W} {b : V} {S' : Sn} {H' : Hp} (f1 : FrE en S H) (s1 : SlR Γ en S H env σ) (f2 : FrE en S' H') (h2 : HR Γ S' H') (s2 : SlR Γ en S' H' env σ) (p : pN Γ S H a b S' H') (q : RPS Γ Wx en S' (fOwn i env a S'.S) D) : D.nx (σ.set i (some b)) H' := by
  unfold fOwn at q
  rcases p with ⟨xs, a', vs, rfl, rfl, hn, ha, hf, ho, r⟩ | ⟨hnl, _⟩
  · exact RPS.nx q f2 h2 (own_new f1 s1 s2 hn ha hf ho r)
  · split at q
    · exact absurd rfl (hnl _)
    · exact q.elim
theorem ss_setOwn {i : Nat} {x : Str} {pos' : Pos} (C : XC Γ Wx N sc k X) (hl : LocOk X N i x) (he : PE X e (tX Γ Wx en rd (pN Γ))) (hs : swapsWith e (some (.Name x pos')) pos.line X.env = pure false) :
    PS X (.Assign [.Name x pos'] e pos) (tS Γ Wx en fun env s => (rd env s).stm env (fOwn i env)) :=
  PS.mono (ps_set (i := i) (by rw [C.eN]; exact C.nd) (by rw [C.eN]; exact hl.1) hl.2.1 he hs hl.2.2) fun D σ H h => ts_expr h fun S env a S' H' b f1 h1 s1 f2 h2 s2 f p q => own_end f1 s1 f2 h2 s2 p q
/-- an own list is frozen: no code -/
theorem ts_frz {i : Nat} {f : LI.Env → Sto → RS} {D : Ends} (h : tS Γ Wx en (fun env s => (match env[i]? with
    | some (.own xs) => RS.ok .nx (env.set i (.v (.lst xs))) s
    | _ => .no).next f) D σ H) : tS Γ Wx en f D σ H := by
  obtain ⟨S, env, fr, hr, sl, h⟩ := h
  dsimp only at h
  split at h
  · rename_i xs e
    obtain ⟨o, eo, a, vs, rfl, ow, ha, r⟩ := sl.slot e
    have g : Gr S (S.frz a (.lst vs)) := ⟨Sub.new ow.1, Nat.le_refl _, fun _ _ => rfl⟩
    have hr' := hr.freeze ha ow.1 ow.2.2
    refine ⟨S.frz a (.lst vs), env.set i (.v (.lst xs)), frz_newO' fr ow.2.1 ow.1, hr', ?_, RPS.shiftG (r := f _ _) h g⟩
    refine ⟨by rw [List.length_set]; exact sl.len, fun j s o e1 e2 => ?_, fun j l ys zs b e1 e2 e3 e4 => ?_, one_set sl.one fun _ _ _ z => by cases z⟩
    · by_cases q : i = j
      · subst q
        have h1 : i < env.length := by have := (List.getElem?_eq_some_iff.mp e1).1; rwa [List.length_set] at this
        rw [List.getElem?_set_self h1] at e1
        cases e1
        rw [eo] at e2
        cases e2
        exact ⟨_, rfl, a, vs, rfl, upd_same, g.reps r⟩
      · rw [List.getElem?_set_ne q] at e1
        have z := sl.at_ j s o e1 e2
        have own' : ∀ {b : Addr}, Own S en b → b ≠ a → Own (S.frz a (.lst vs)) en b := fun {b} w hb => ⟨by show upd S.F a _ b = none; rw [upd_ne hb]; exact w.1, w.2⟩
        cases s with
        | un => exact z
        | v w => obtain ⟨v, e3, r3⟩ := z; exact ⟨v, e3, g.rep r3⟩
        | own ys =>
          obtain ⟨b, us, rfl, ow', hb, r3⟩ := z
          refine ⟨b, us, rfl, own' ow' fun z => ?_, hb, g.reps r3⟩
          subst z
          exact q (sl.dis i j xs ys b e e1 eo e2)
        | self c ks fs =>
          obtain ⟨rfl, ow', dx, us, hb, r3, l3⟩ := z
          refine ⟨rfl, own' ow' fun z => ?_, dx, us, hb, g.reps r3, l3⟩
          rw [z, ha] at hb; cases hb
        | exn c ks fs =>
          obtain ⟨b, cls, d, e3, e4, x⟩ := z
          exact ⟨b, cls, d, e3, e4, x.cls, x.len, x.none, fun z => let ⟨dd, us, h1, h2, h3⟩ := x.some z; ⟨dd, us, h1, h2, g.reps h3⟩⟩
    · have n1 : i ≠ j := fun q => by
        subst q
        have h1 : i < env.length := by have := (List.getElem?_eq_some_iff.mp e1).1; rwa [List.length_set] at this
        rw [List.getElem?_set_self h1] at e1; cases e1
      have n2 : i ≠ l := fun q => by
        subst q
        have h1 : i < env.length := by have := (List.getElem?_eq_some_iff.mp e2).1; rwa [List.length_set] at this
        rw [List.getElem?_set_self h1] at e2; cases e2
      rw [List.getElem?_set_ne n1] at e1
      rw [List.getElem?_set_ne n2] at e2
      exact sl.dis j l ys zs b e1 e2 e3 e4
  · exact h.elim
/-! ### own lists written -/
/-- the list at a is written: a stands off all else -/
theorem HR.wrt (hr : HR Γ S H) {a : Addr} {o : HO} (hf : S.F a = none) (ho : S.off a) : HR Γ S (upd H a o) := by
  refine ⟨fun b u e => ?_, fun n c e => ?_, hr.inj⟩
  · have : b ≠ a := fun z => by subst z; rw [hf] at e; cases e
    rw [upd_ne this]; exact hr.sub b u e
  · have q := hr.cel n c e
    cases c with
    | lst xs => obtain ⟨q1, us, q2, q3⟩ := q; exact ⟨q1, us, by rw [upd_ne (ho n ⟨_, e, rfl⟩)]; exact q2, q3⟩
    | dK xs => obtain ⟨q1, us, q2, q3⟩ := q; exact ⟨q1, us, by rw [upd_ne (ho n ⟨_, e, rfl⟩)]; exact q2, q3⟩
    | dT xs => obtain ⟨q1, us, q2, q3⟩ := q; exact ⟨q1, us, by rw [upd_ne (ho n ⟨_, e, rfl⟩)]; exact q2, q3⟩
    | obj c ks fs => obtain ⟨q1, dx, us, q2, q3⟩ := q; exact ⟨q1, dx, us, by rw [upd_ne (ho n ⟨_, e, rfl⟩)]; exact q2, q3⟩
    | dead =>
      obtain ⟨u, q⟩ := q
      by_cases z : S.φ n = a
      · exact ⟨_, by rw [z]; exact upd_same⟩
      · exact ⟨u, by rw [upd_ne z]; exact q⟩
theorem Fr.wrt (fr : Fr S H S1 H1) {a : Addr} {o : HO} (hn : H a = Option.none) : Fr S H S1 (upd H1 a o) := by
  have ne : ∀ {b : Addr} {u : HO}, H b = some u → b ≠ a := fun {b u} e z => by subst z; rw [hn] at e; cases e
  exact ⟨fr.f, fr.n, fr.φ, fun b u e ho => by rw [upd_ne (ne e)]; exact fr.keep b u e ho, fr.own, fr.new, fr.live, fun b u e => by
    obtain ⟨o', q⟩ := fr.there b u e
    exact ⟨o', by rw [upd_ne (ne e)]; exact q⟩⟩
/-- the own list at slot i is written -/
theorem SlR.wrt {i : Nat} {a : Addr} {xs ys : List W} {us : List V} (sl : SlR Γ en S H env σ) (e : env[i]? = some (.own xs)) (eo : σ[i]? = some (some (.ref a))) (ow : Own S en a) (hd : ∃ vs, H a = some (.lst vs)) (r : RepsS Γ S ys us) :
    SlR Γ en S (upd H a (.lst us)) (env.set i (.own ys)) σ := by
  obtain ⟨vs, hd⟩ := hd
  refine ⟨by rw [List.length_set]; exact sl.len, fun j s o e1 e2 => ?_, fun j l xs' zs b e1 e2 e3 e4 => ?_, one_set sl.one fun _ _ _ z => by cases z⟩
  · by_cases q : i = j
    · subst q
      have h1 : i < env.length := by have := (List.getElem?_eq_some_iff.mp e1).1; rwa [List.length_set] at this
      rw [List.getElem?_set_self h1] at e1
      cases e1
      rw [eo] at e2
      cases e2
      exact ⟨a, us, rfl, ow, upd_same, r⟩
    · rw [List.getElem?_set_ne q] at e1
      have z := sl.at_ j s o e1 e2
      cases s with
      | un => exact z
      | v w => exact z
      | own ys' =>
        obtain ⟨b, ws, rfl, ow', hb, r3⟩ := z
        refine ⟨b, ws, rfl, ow', ?_, r3⟩
        rw [upd_ne fun z => by subst z; exact q (sl.dis i j xs ys' b e e1 eo e2)]
        exact hb
      | self c ks fs =>
        obtain ⟨rfl, ow', dx, ws, hb, r3, l3⟩ := z
        refine ⟨rfl, ow', dx, ws, ?_, r3, l3⟩
        rw [upd_ne fun z => by rw [z, hd] at hb; cases hb]
        exact hb
      | exn c ks fs =>
        obtain ⟨b, cls, d, e3, e4, x⟩ := z
        refine ⟨b, cls, d, e3, e4, x.cls, x.len, x.none, fun z => ?_⟩
        obtain ⟨dd, ws, h1, h2, h3⟩ := x.some z
        refine ⟨dd, ws, h1, ?_, h3⟩
        rw [upd_ne fun z => by rw [z, hd] at h2; cases h2]
        exact h2
  · have at1 : ∀ m zs, (env.set i (.own ys))[m]? = some (Sl.own zs) → ∃ zs', env[m]? = some (Sl.own zs') := fun m zs e1 => by
      by_cases q : i = m
      · subst q; exact ⟨xs, e⟩
      · rw [List.getElem?_set_ne q] at e1; exact ⟨zs, e1⟩
    obtain ⟨x1, f1⟩ := at1 j xs' e1
    obtain ⟨x2, f2⟩ := at1 l zs e2
    exact sl.dis j l x1 x2 b f1 f2 e3 e4
def fApp (i : Nat) : LI.Env → W → Sto → RS := fun env x s1 => match env[i]? with
  | some (.own xs) => if okN (xs.length + 1) then .ok .nx (env.set i (.own (xs ++ [x]))) s1 else .no
  | _ => .no
/-- name.append(e) -/
theorem ss_app {i : Nat} {x : Str} {cpos pos2 : Pos} (C : XC Γ Wx N sc k X) (hl : LocOk X N i x) (hv : Vis sc x) (hd : (x == ("__debug__" : Str)) = false) (hcd : (x == ("__classdict__" : Str)) = false) (hp : plainA e = true) (hline : (apos.endLine == cpos.line) = true)
    (he : PE X e (tX Γ Wx en rd (pRep Γ))) :
    PS X (.Expr (.Call (.Attribute (.Name x p) "append" apos) [e] [] cpos) pos2) (tS Γ Wx en fun env s => match env[i]? with
      | some (.own _) => (rd env s).stm env (fApp i env)
      | _ => .no) := by
  refine PS.mono (ps_expr (pe_bm F.plainAttrs_list F.slot_list_append F.type_list_append mt_append (pe_var (i := i) (by rw [C.eN]; exact hl.1) (by rw [C.eS]; exact hv) hd hcd) (pa_cons he pa_nil (starEach_ok hp)) rfl (by rw [starEach_ok hp]; rfl) hline (starEach_ok hp) rfl) rfl) ?_
  rintro D σ H ⟨S, env, fr, hr, sl, h⟩
  dsimp only at h
  split at h
  · rename_i ys e0
    obtain ⟨o, eo, a, vs, rfl, ow, ha, r⟩ := sl.slot e0
    refine ⟨_, eo, .inl ⟨rfl, vs, SqL.of ha⟩, env, S, hr, sl, RP.mono (stm_seq sl hr fr h) fun y S1 H1 fr1 hr1 ⟨f1, sl1, h1⟩ v rv => ?_⟩
    have ow1 := ow.mono fr1 ha
    have ha1 := fr1.keep _ _ ha ow.2.2
    unfold fApp at h1
    rw [e0] at h1
    dsimp only at h1
    split at h1
    · rename_i hz
      have r1 := fr1.reps r
      have hl := r.length
      have hz' : ys.length + 1 ≤ sizeLine := okN_le hz
      exact ⟨a, vs, v, rfl, rfl, ha1, by omega, RPS.nx h1 (f1.wrt ow.2.1) (hr1.wrt ow1.1 ow1.2.2) (sl1.wrt e0 eo ow1 ⟨_, ha1⟩ (r1.append (Reps.cons rv Reps.nil)))⟩
    · exact h1.elim
  · exact h.elim
theorem plainIx_assign {o i : Expr} {env : PySem.Env} {pos : Pos} (h : plainIx i = true) : ∀ v, assign (.Subscript o i pos) env v = (do
      let ov ← holding [v] (eval o env)
      let iv ← holding [v, ov] (eval i env)
      standAt pos
      holding [v, ov, iv] (setItem ov iv v)
      release [v, ov, iv] []) := by
  intro v
  cases i <;> first | (cases h; done) | rfl
def fSet (i : Nat) : LI.Env → W → List W → W → Sto → RS := fun env y xs x s2 => match y with
  | .int j => (match ixN xs.length j with
    | some n => .ok .nx (env.set i (.own (xs.set n x))) s2
    | none => .no)
  | _ => .no
/-- name[k] = e -/
theorem ss_setIx {i : Nat} {x : Str} {pos2 : Pos} (C : XC Γ Wx N sc k X) (hl : LocOk X N i x) (hv : Vis sc x) (hd : (x == ("__debug__" : Str)) = false) (hcd : (x == ("__classdict__" : Str)) = false) (hp : plainIx ea = true)
    (he : PE X e (tX Γ Wx en rd (pRep Γ))) (hk : PE X ea (tX Γ Wx en rk (pRep Γ))) (hs : swapsWith e (some (.Subscript (.Name x p) ea pos)) pos2.line X.env = pure false) :
    PS X (.Assign [.Subscript (.Name x p) ea pos] e pos2) (tS Γ Wx en fun env s => (rd env s).stm env fun x s1 => (match env[i]? with
      | some (.own xs) => (rk env s1).stm env fun y s2 => fSet i env y xs x s2
      | _ => .no)) := by
  refine PS.mono (ps_asg he (pg_sub (pe_var (i := i) (by rw [C.eN]; exact hl.1) (by rw [C.eS]; exact hv) hd hcd) hk set_list (plainIx_assign hp)) hs rfl rfl) ?_
  rintro D σ H ⟨S, env, fr, hr, sl, h⟩
  refine ⟨env, S, hr, sl, RP.mono (stm_seq sl hr fr h) fun y S1 H1 fr1 hr1 ⟨f1, sl1, h1⟩ v rv => ?_⟩
  split at h1
  · rename_i ys e0
    obtain ⟨o, eo, a, vs, rfl, ow, ha, r⟩ := sl1.slot e0
    refine ⟨_, eo, env, S1, hr1, sl1, RP.mono (stm_seq sl1 hr1 f1 h1) fun z S2 H2 fr2 hr2 ⟨f2, sl2, h2⟩ u ru => ?_⟩
    unfold fSet at h2
    split at h2
    · split at h2
      · rename_i n hn
        have ow2 := ow.mono fr2 ha
        have ha2 := fr2.keep _ _ ha ow.2.2
        have r2 := fr2.reps r
        cases (show u = .int _ from ru)
        refine ⟨a, vs, _, n, rfl, rfl, ha2, by rw [r.length]; exact hn, RPS.nx h2 (f2.wrt ow.2.1) (hr2.wrt ow2.1 ow2.2.2) (sl2.wrt e0 eo ow2 ⟨_, ha2⟩ (r2.set (fr2.rep rv) n))⟩
      · exact h2.elim
    · exact h2.elim
  · exact h1.elim
def fUnp (is : List Nat) : LI.Env → W → Sto → RS := fun env x s1 => match seqOf s1 x with
  | some xs => if xs.length = is.length then .ok .nx (LI.setAll env is xs) s1 else .no
  | none => .no
/-- a, b = e -/
theorem ss_unpk {is : List Nat} {kk : Nat} {pos2 : Pos} (C : XC Γ Wx N sc k X) (hc : X.calm = true) (hl : LocsOk X N es is) (he : PE X e (tX Γ Wx en rd (pRep Γ))) (hs : swapsWithSole [.Tuple es kk pos] e pos2.line X.env = pure false) (hw : swappedStores [.Tuple es kk pos] e X.env = pure none) :
    PS X (.Assign [.Tuple es kk pos] e pos2) (tS Γ Wx en fun env s => (rd env s).stm env fun x s1 => fUnp is env x s1) := by
  obtain ⟨h1, h2⟩ := locs_each (env := X.env) hl
  refine PS.mono (ps_asg he (pg_seq hc (sgs_all C hl) h1 h2) hs hw rfl) fun D σ H h => ts_expr h fun S env a S' H' b f1 hr1 s1 f2 hr2 s2 f p q => ?_
  unfold fUnp at q
  split at q
  · rename_i xs e1
    split at q
    · rename_i h3
      obtain ⟨a, vs, rfl, h4, r4⟩ := seq_view hr2 (RepX.of (H := H') p) e1
      rw [C.eK]
      exact ⟨a, vs, rfl, h4, by rw [r4.length]; exact h3, by rw [r4.length]; exact h3, RPS.nx q f2 hr2 (s2.setMany r4 h3)⟩
    · exact q.elim
  · exact q.elim
/-- a, b = x, y: names stored from the right -/
theorem ss_par {i j kt k2 : Nat} {x y : Str} {px py pt pt2 pos2 : Pos} {rs : LI.Env → Sto → R (List W)} (C : XC Γ Wx N sc k X) (hc : X.calm = true) (hi : N[i]? = some x) (hj : N[j]? = some y) (hij : i ≠ j) (hx : sc.names.lookup x = some .local) (hy : sc.names.lookup y = some .local)
    (ha : PA X [ea, eb] (tX Γ Wx en rs (pReps Γ))) (hw : swappedStores [.Tuple [.Name x px, .Name y py] kt pt] (.Tuple [ea, eb] k2 pt2) X.env = pure (some [x, y])) :
    PS X (.Assign [.Tuple [.Name x px, .Name y py] kt pt] (.Tuple [ea, eb] k2 pt2) pos2) (tS Γ Wx en fun env s => ((rs env s).bind vTup).stm env fun x s1 => fUnp [i, j] env x s1) := by
  refine PS.mono (ps_par (i := i) (j := j) hc (by rw [C.eN]; exact C.nd) (by rw [C.eN]; exact hi) (by rw [C.eN]; exact hj) hij (by rw [C.eS]; exact hx) (by rw [C.eS]; exact hy) ha hw rfl) ?_
  rintro D σ H ⟨S, env, fr, hr, sl, h⟩
  have h' : RPS Γ Wx en S ((rs env S.S).stm env fun ws s1 => (vTup ws s1).stm env fun x s1 => fUnp [i, j] env x s1) D := by
    have h0 : RPS Γ Wx en S (((rs env S.S).bind vTup).stm env fun x s1 => fUnp [i, j] env x s1) D := h
    cases e : rs env S.S with
    | ok a s => rw [e] at h0; exact h0
    | ex x s => rw [e] at h0; exact h0
    | no => rw [e] at h0; exact h0
  refine ⟨env, S, hr, sl, RP.mono (stm_seq sl hr fr h') fun ws S1 H1 fr1 hr1 ⟨f1, sl1, h1⟩ vs rv => ?_⟩
  unfold vTup at h1
  split at h1
  · rename_i hz
    have h2 : RPS Γ Wx en S1 (fUnp [i, j] env (.tup ws) S1.S) D := h1
    unfold fUnp at h2
    dsimp only [seqOf] at h2
    split at h2
    · rename_i hl
      obtain ⟨a, b, rfl⟩ : ∃ a b, ws = [a, b] := by
        match ws, hl with
        | [a, b], _ => exact ⟨a, b, rfl⟩
      obtain ⟨v, r, rfl, h3, u, r', rfl, h4, h5⟩ := rv
      cases (show r' = [] from h5)
      exact ⟨v, u, rfl, RPS.nx h2 f1 hr1 ((sl1.setV h3).setV h4)⟩
    · exact h2.elim
  · exact h1.elim
/-- name += e, name -= e -/
def fAug (i : Nat) (op : BO) (a : Int) : LI.Env → W → Sto → RS := fun env x s1 => match op, x with
  | .add, .int b => .ok .nx (env.set i (.v (.int (a + b)))) s1
  | .sub, .int b => .ok .nx (env.set i (.v (.int (a - b)))) s1
  | _, _ => .no
theorem ss_aug {i : Nat} {x : Str} {op : BO} {o : Operator} {pos' : Pos} (C : XC Γ Wx N sc k X) (ho : (op = .add ∧ o = .Add) ∨ (op = .sub ∧ o = .Sub)) (hl : LocOk X N i x) (he : PE X e (tX Γ Wx en rd (pRep Γ))) :
    PS X (.AugAssign (.Name x pos') o e pos) (tS Γ Wx en fun env s => match env[i]? with
      | some (.v (.int a)) => (rd env s).stm env (fAug i op a env)
      | _ => .no) := by
  rcases ho with ⟨rfl, rfl⟩ | ⟨rfl, rfl⟩
  · refine PS.mono (ps_aug (i := i) (by rw [C.eN]; exact C.nd) (by rw [C.eN]; exact hl.1) hl.2.1 he ip_add hl.2.2) ?_
    rintro D σ H ⟨S, env, fr, hr, sl, h⟩
    dsimp only at h
    split at h
    · rename_i a e0
      obtain ⟨o, eo, v, rfl, r⟩ := sl.slot e0
      cases (show v = .int a from r)
      refine ⟨_, eo, env, S, hr, sl, RP.mono (stm_seq sl hr fr h) fun y S1 H1 fr1 hr1 ⟨f1, sl1, h1⟩ v rv => ?_⟩
      unfold fAug at h1
      split at h1
      · rename_i b
        cases (show v = .int _ from rv)
        exact ⟨a, _, rfl, rfl, RPS.nx h1 f1 hr1 (sl1.setV rfl)⟩
      · rename_i z _; cases z
      · exact h1.elim
    · exact h.elim
  · refine PS.mono (ps_aug (i := i) (by rw [C.eN]; exact C.nd) (by rw [C.eN]; exact hl.1) hl.2.1 he ip_sub hl.2.2) ?_
    rintro D σ H ⟨S, env, fr, hr, sl, h⟩
    dsimp only at h
    split at h
    · rename_i a e0
      obtain ⟨o, eo, v, rfl, r⟩ := sl.slot e0
      cases (show v = .int a from r)
      refine ⟨_, eo, env, S, hr, sl, RP.mono (stm_seq sl hr fr h) fun y S1 H1 fr1 hr1 ⟨f1, sl1, h1⟩ v rv => ?_⟩
      unfold fAug at h1
      split at h1
      · rename_i z _; cases z
      · rename_i b
        cases (show v = .int _ from rv)
        exact ⟨a, _, rfl, rfl, RPS.nx h1 f1 hr1 (sl1.setV rfl)⟩
      · exact h1.elim
    · exact h.elim
end
end LI
end
section
set_option Elab.async false
set_option linter.all false
set_option maxRecDepth 100000
set_option maxHeartbeats 4000000
/-! LiSt2: sequences, branches, loops, returns. -/
namespace LI
open PySem PySem.Spec PyProof.Rows L2

section
variable {Γ : Ctx} {D : Pd} {en : En} {S S1 S2 : Sn} {H H1 H2 : Hp} {env : LI.Env} {σ : L2.St} {Wx : WX}
variable {N : List Str} {sc : Scope} {k : Nat} {X : Cx} {ea eb ec : Expr} {pos p apos : Pos} {ra rb rc : Sto → R W} {e tg : Expr} {es : List Expr} {rs : Sto → R (List W)} {rd re rk : LI.Env → Sto → R W}
variable {st : Stmt} {sts body orelse : List Stmt} {fa fb f : LI.Env → Sto → RS}

theorem sss_nil : PSs X [] (tS Γ Wx en fun env s => .ok .nx env s) := PSs.mono pss_nil fun D σ H ⟨S, env, fr, hr, sl, h⟩ => RPS.nx h fr hr sl
theorem RPS.seq {r : RS} {D : Ends} (h : RPS Γ Wx en S (r.next f) D) : RPS Γ Wx en S r { D with nx := tS Γ Wx en f D } := by
  cases r with
  | ok o env s =>
    cases o with
    | nx => exact fun S' H' σ' e g fr hr sl => ⟨S', env, fr, hr, sl, by subst e; exact RPS.shiftG (r := f env S'.S) h g⟩
    | bk => exact h
    | ct => exact h
    | rt w => exact h
  | ex x env s => exact h
  | no => exact h
theorem sss_cons (h1 : PS X st (tS Γ Wx en fa)) (h2 : PSs X sts (tS Γ Wx en fb)) : PSs X (st :: sts) (tS Γ Wx en fun env s => (fa env s).next fb) :=
  PSs.mono (pss_cons h1 h2) fun D σ H ⟨S, env, fr, hr, sl, h⟩ => ⟨S, env, fr, hr, sl, RPS.seq h⟩
theorem sss_frz {i : Nat} (h : PSs X sts (tS Γ Wx en fb)) : PSs X sts (tS Γ Wx en fun env s => (match env[i]? with
    | some (.own xs) => RS.ok .nx (env.set i (.v (.lst xs))) s
    | _ => .no).next fb) := PSs.mono h fun D σ H h => ts_frz h
/-- a test -/
theorem pt_X {rd : LI.Env → Sto → R W} (h : ∀ env, PT X e (tR Γ Wx en env (rd env) pB)) : PT X e (tX Γ Wx en (fun env s => (rd env s).bind toB) pEq) := ⟨fun pins s σ H Q I ⟨env, S, hr, sl, hw⟩ => (h env).run pins s σ H Q I ⟨S, hr, sl, by
  dsimp only at hw
  refine RP.mono hw.seq fun w S1 H1 fr1 hr1 h1 b eb => ?_
  cases (show w = .bl b from eb)
  exact RP.done (a := b) h1 hr1 b rfl⟩⟩
theorem ss_if {q : LI.Env → Sto → R Bool} (hc : PT X ec (tX Γ Wx en q pEq)) (ha : PSs X body (tS Γ Wx en fa)) (hb : PSs X orelse (tS Γ Wx en fb)) :
    PS X (.If ec body orelse pos) (tS Γ Wx en fun env s => (q env s).stm env fun b s1 => if b then fa env s1 else fb env s1) :=
  PS.mono (ps_if hc ha hb) fun D σ H h => ts_expr h fun S env a S' H' b f1 h1 s1 f2 h2 s2 f p q => by
    cases (show a = b from p)
    cases a with
    | true => exact ⟨S', env, f2, h2, s2, q⟩
    | false => exact ⟨S', env, f2, h2, s2, q⟩
theorem whl_eq {c : LI.Env → Sto → R Bool} {n : Nat} {s : Sto} : whlL c f (n + 1) env s = (c env s).stm env fun b s1 => if b then (match f env s1 with
      | .ok .nx env2 s2 => whlL c f n env2 s2
      | .ok .ct env2 s2 => whlL c f n env2 s2
      | .ok .bk env2 s2 => .ok .nx env2 s2
      | r => r) else .ok .nx env s1 := by
  rw [whlL]
  cases c env s with
  | ok b s1 => cases b <;> rfl
  | ex x s1 => rfl
  | no => rfl
/-- a loop's body -/
theorem RPS.loop {r : RS} {g : LI.Env → Sto → RS} {D : Ends} {Nx : L2.St → Hp → Prop} (h : RPS Γ Wx en S (match r with
      | .ok .nx env2 s2 => g env2 s2
      | .ok .ct env2 s2 => g env2 s2
      | .ok .bk env2 s2 => .ok .nx env2 s2
      | r => r) D) (hN : ∀ S' H' env' σ', Gr S S' → FrE en S' H' → HR Γ S' H' → SlR Γ en S' H' env' σ' → RPS Γ Wx en S' (g env' S'.S) D → Nx σ' H') : RPS Γ Wx en S r { D with nx := Nx, ct := Nx, bk := D.nx } := by
  cases r with
  | ok o env s =>
    cases o with
    | nx => exact fun S' H' σ' e gr fr hr sl => hN S' H' env σ' gr fr hr sl (by subst e; exact RPS.shiftG (r := g env S'.S) h gr)
    | ct => exact fun S' H' σ' e gr fr hr sl => hN S' H' env σ' gr fr hr sl (by subst e; exact RPS.shiftG (r := g env S'.S) h gr)
    | bk => exact h
    | rt w => exact h
  | ex x env s => exact h
  | no => exact h
theorem ss_whl {c : LI.Env → Sto → R Bool} {n : Nat} (hp : PassesOwn (model X.prog X.w) X.A X.env X.xe) (hc : PT X ec (tX Γ Wx en c pEq)) (hb : PSs X body (tS Γ Wx en f)) :
    PS X (.While ec body [] pos) (tS Γ Wx en fun env s => whlL c f n env s) := by
  refine PS.mono (ps_while hp hc hb) ?_
  rintro D σ H ⟨S, env, fr, hr, sl, h⟩
  refine ⟨fun m σ H => ∃ S env, FrE en S H ∧ HR Γ S H ∧ SlR Γ en S H env σ ∧ RPS Γ Wx en S (whlL c f m env S.S) D, ⟨n, S, env, fr, hr, sl, h⟩, ?_⟩
  rintro m σ H ⟨S, env, fr, hr, sl, h⟩
  cases m with
  | zero => exact h.elim
  | succ m =>
    rw [whl_eq] at h
    refine ⟨env, S, hr, sl, RP.mono (stm_seq sl hr fr h) fun b S1 H1 fr1 hr1 ⟨f1, sl1, h1⟩ b' eb => ?_⟩
    cases (show b = b' from eb)
    cases b with
    | true =>
      refine ⟨fun σ' H' => ∃ S env, FrE en S H' ∧ HR Γ S H' ∧ SlR Γ en S H' env σ' ∧ RPS Γ Wx en S (whlL c f m env S.S) D, fun σ' H' h => ⟨m, Nat.lt_succ_self _, h⟩, S1, env, f1, hr1, sl1, ?_⟩
      exact RPS.loop (g := whlL c f m) h1 fun S' H' env' σ' gr fr hr sl h => ⟨S', env', fr, hr, sl, h⟩
    | false => exact RPS.nx h1 f1 hr1 sl1
/-- how a for's turns go -/
structure Turns (it : LI.It) (t : Tg) (f : LI.Env → Sto → RS) (B : Nat) (Rem : Nat → Nat → LI.Env → Sto → RS) (ok : Nat → Nat → Prop) : Prop where
  ini : ok B 0
  step : ∀ m i env s, ok m i → (itemAt it s i = some none ∧ Rem m i env s = .ok .nx env s) ∨ Rem m i env s = .no ∨
    ∃ x m' env1, itemAt it s i = some (some x) ∧ m' < m ∧ ok m' (i + 1) ∧ putT env s t x = some env1 ∧ Rem m i env s = (match f env1 s with
      | .ok .nx env2 s2 => Rem m' (i + 1) env2 s2
      | .ok .ct env2 s2 => Rem m' (i + 1) env2 s2
      | .ok .bk env2 s2 => .ok .nx env2 s2
      | r => r)
theorem turns_lst {xs : List W} {t : Tg} : Turns (.lst xs) t f xs.length (fun _ i env s => forL t f (xs.drop i) env s) (fun m i => xs.length ≤ m + i) := by
  refine ⟨by omega, fun m i env s hk => ?_⟩
  by_cases hi : i < xs.length
  · skip
    rw [List.drop_eq_getElem_cons hi]
    rw [forL]
    cases e : putT env s t xs[i] with
    | none => exact .inr (.inl rfl)
    | some env1 => exact .inr (.inr ⟨xs[i], m - 1, env1, by show some xs[i]? = _; rw [List.getElem?_eq_getElem hi], by omega, by omega, e, rfl⟩)
  · refine .inl ⟨by show some xs[i]? = _; rw [List.getElem?_eq_none (by omega)], ?_⟩
    rw [List.drop_eq_nil_of_le (by omega)]
    rfl
theorem turns_cel {n sz : Nat} {en : Bool} {t : Tg} : Turns (.cel n en) t f sz (fun m i env s => forC t f n en m i env s) (fun _ _ => True) := by
  refine ⟨trivial, fun m i env s _ => ?_⟩
  cases m with
  | zero => exact .inr (.inl rfl)
  | succ m =>
    rw [forC]
    cases e : itAt s n en i with
    | none => exact .inr (.inl rfl)
    | some o =>
      cases o with
      | none => exact .inl ⟨e, rfl⟩
      | some x =>
        dsimp only
        cases e2 : putT env s t x with
        | none => exact .inr (.inl rfl)
        | some env1 => exact .inr (.inr ⟨x, m, env1, e, by omega, trivial, e2, rfl⟩)
theorem ss_for {t : Tg} {src : LI.Env → Sto → R LI.It} {sz : Nat} {iter : Expr} (hp : PassesOwn (model X.prog X.w) X.A X.env X.xe) (hc : X.calm = true) (hi : ∀ env, PI X tg iter (tI Γ Wx en env (src env))) (hg : PG X tg (gTg Γ en t)) (hb : PSs X body (tS Γ Wx en f))
    (hs : ∀ x, foldedSetIterable iter X.env x = pure x) :
    PS X (.For tg iter body [] pos) (tS Γ Wx en fun env s => (src env s).stm env fun it s1 => forI t f sz it env s1) := by
  refine PS.mono (ps_for (wi := fun σ H Q => ∃ env, tI Γ Wx en env (src env) σ H Q) hp hc ⟨fun pins s σ H R I ⟨env, h⟩ => (hi env).run pins s σ H R I h⟩ hg hb hs) ?_
  rintro D σ H ⟨S, env, fr, hr, sl, h⟩
  refine ⟨env, S, hr, sl, RP.mono (stm_seq sl hr fr h) fun it S1 H1 fr1 hr1 ⟨f1, sl1, h1⟩ J hJ => ?_⟩
  have key : ∀ {B : Nat} {Rem : Nat → Nat → LI.Env → Sto → RS} {okk : Nat → Nat → Prop}, Turns it t f B Rem okk → RPS Γ Wx en S1 (Rem B 0 env S1.S) D →
      ∃ W : Nat → Nat → L2.St → Hp → Prop, (∃ m, W 0 m σ H1) ∧ ∀ i m σ H, W i m σ H →
        (J.stop i H ∧ D.nx σ H) ∨ (J.go i H ∧ ∃ N : L2.St → Hp → Prop, (∀ σ' H', N σ' H' → ∃ m', m' < m ∧ W (i + 1) m' σ' H') ∧ ∀ x H', J.yld i H x H' → gTg Γ en t x σ H' fun σ2 H2 => tS Γ Wx en f { D with nx := N, ct := N, bk := D.nx } σ2 H2) := by
    intro B Rem okk wk h2
    refine ⟨fun i m σ H => ∃ S env, okk m i ∧ Gr S1 S ∧ FrE en S H ∧ HR Γ S H ∧ SlR Γ en S H env σ ∧ RPS Γ Wx en S (Rem m i env S.S) D, ⟨B, S1, env, wk.ini, Gr.refl, f1, hr1, sl1, h2⟩, ?_⟩
    rintro i m σ' H' ⟨S', env', hk, gr, fr', hr', sl', h3⟩
    rcases wk.step m i env' S'.S hk with ⟨e1, e2⟩ | e2 | ⟨x, m', env1, e1, hm, hk', ep, e2⟩
    · rw [e2] at h3
      exact .inl ⟨(hJ S' H' i gr hr').1 e1, RPS.nx h3 fr' hr' sl'⟩
    · rw [e2] at h3; exact h3.elim
    · rw [e2] at h3
      obtain ⟨g1, g2⟩ := (hJ S' H' i gr hr').2 x e1
      refine .inr ⟨g1, fun σ'' H'' => ∃ m', m' < m ∧ ∃ S env, okk m' (i + 1) ∧ Gr S1 S ∧ FrE en S H'' ∧ HR Γ S H'' ∧ SlR Γ en S H'' env σ'' ∧ RPS Γ Wx en S (Rem m' (i + 1) env S.S) D, fun _ _ h => h, fun v H2 hy => ?_⟩
      obtain ⟨S2, e3, fr2, hr2, rx⟩ := g2 v H2 hy
      have sl2 := sl'.mono hr' fr2
      refine ⟨S2, env', x, env1, hr2, sl2, rx, by rw [e3]; exact ep, fun σ2 sl3 _ => ⟨S2, env1, fr'.trans fr2, hr2, sl3, ?_⟩⟩
      rw [e3]
      exact RPS.loop (g := Rem m' (i + 1)) (RPS.shiftG h3 fr2.gr) fun S4 H4 env4 σ4 gr4 fr4 hr4 sl4 h4 => ⟨m', hm, S4, env4, hk', (gr.trans fr2.gr).trans gr4, fr4, hr4, sl4, h4⟩
  cases it with
  | lst xs => exact key turns_lst h1
  | cel n en' => exact key turns_cel h1
theorem ss_ret (he : PE X e (tX Γ Wx en rd (pRep Γ))) : PS X (.Return (some e) pos) (tS Γ Wx en fun env s => (rd env s).stm env fun x s1 => .ok (.rt x) env s1) :=
  PS.mono (ps_ret he) fun D σ H h => ts_expr h fun S env a S' H' b f1 h1 s1 f2 h2 s2 f p q => q S' H' σ rfl Gr.refl f2 h2 s2 b p
theorem ss_retN : PS X (.Return none pos) (tS Γ Wx en fun env s => .ok (.rt .non) env s) := PS.mono ps_retN fun D σ H ⟨S, env, fr, hr, sl, h⟩ => h S H σ rfl Gr.refl fr hr sl .non rfl
theorem ss_pass : PS X (.Pass pos) (tS Γ Wx en fun env s => .ok .nx env s) := PS.mono ps_pass fun D σ H ⟨S, env, fr, hr, sl, h⟩ => RPS.nx h fr hr sl
theorem ss_doc {x : Str} {j : Nat} {pos'} : PS X (.Expr (.Constant (.str x) j pos) pos') (tS Γ Wx en fun env s => .ok .nx env s) := PS.mono ps_doc fun D σ H ⟨S, env, fr, hr, sl, h⟩ => RPS.nx h fr hr sl
theorem ss_brk : PS X (.Break pos) (tS Γ Wx en fun env s => .ok .bk env s) := PS.mono ps_break fun D σ H ⟨S, env, fr, hr, sl, h⟩ => h S H σ rfl Gr.refl fr hr sl
theorem ss_cnt : PS X (.Continue pos) (tS Γ Wx en fun env s => .ok .ct env s) := PS.mono ps_continue fun D σ H ⟨S, env, fr, hr, sl, h⟩ => h S H σ rfl Gr.refl fr hr sl
end
end LI
end
section
set_option Elab.async false
set_option linter.all false
set_option maxRecDepth 100000
set_option maxHeartbeats 4000000
/-! LiSt3: attributes and cells written; a name set to a comprehension. -/
namespace LI
open PySem PySem.Spec PyProof.Rows L2

section
variable {Γ : Ctx} {D : Pd} {en : En} {S S1 S2 : Sn} {H H1 H2 : Hp} {env : LI.Env} {σ : L2.St} {Wx : WX}
variable {N : List Str} {sc : Scope} {k : Nat} {X : Cx} {ea eb ec : Expr} {pos p apos : Pos} {ra rb rc : Sto → R W} {e tg : Expr} {es : List Expr} {rs : Sto → R (List W)} {rd re rk : LI.Env → Sto → R W}

/-! ### attributes written -/
theorem putF_ok {nm : Nat → Str} (hi : ∀ i j, nm i = nm j → i = j) {F : Hp} {φ : Nat → Addr} {n : Nat} {f : Nat} {w : W} {v : V} (rv : Rep Γ F φ n w v) : ∀ {ks : List Nat} {fs : List W} {vs : List V}, Reps Γ F φ n fs vs → ks.length = fs.length →
    ∃ us, putF (nm f) v ((ks.map nm).zip vs) = ((putFK ks f).map nm).zip us ∧ Reps Γ F φ n (putFV ks fs f w) us ∧ (putFK ks f).length = (putFV ks fs f w).length
  | [], [], _, r, _ => by
    cases (show _ = [] from r)
    exact ⟨[v], rfl, Reps.cons rv Reps.nil, rfl⟩
  | [], _ :: _, _, _, h => by cases h
  | _ :: _, [], _, _, h => by cases h
  | k :: ks, x :: fs, _, ⟨u, us, e, r1, r2⟩, h => by
    subst e
    by_cases q : k = f
    · subst q
      refine ⟨v :: us, ?_, ?_, ?_⟩
      · show putF (nm k) v ((nm k, u) :: (ks.map nm).zip us) = _
        rw [putF, if_pos rfl]
        simp [putFK]
      · simp only [putFV, if_true]; exact Reps.cons rv r2
      · simp only [putFK, putFV, if_true, List.length_cons] at h ⊢; exact h
    · obtain ⟨us', e1, e2, e3⟩ := putF_ok hi rv r2 (Nat.succ.inj h)
      refine ⟨u :: us', ?_, ?_, ?_⟩
      · show putF (nm f) v ((nm k, u) :: (ks.map nm).zip us) = _
        have ne : ¬ nm k = nm f := fun z => q (hi _ _ z)
        have ne' : ¬ nm f = nm k := fun z => ne z.symm
        have e4 : putFK (k :: ks) f = k :: putFK ks f := by simp [putFK, q]
        rw [e4]
        show putF (nm f) v ((nm k, u) :: (ks.map nm).zip us) = (nm k, u) :: ((putFK ks f).map nm).zip us'
        rw [← e1]
        first
          | rw [putF, if_neg ne]
          | rw [putF, if_neg ne']
      · have e4 : putFV (k :: ks) (x :: fs) f w = x :: putFV ks fs f w := by simp [putFV, q]
        rw [e4]; exact Reps.cons r1 e2
      · have e4 : putFK (k :: ks) f = k :: putFK ks f := by simp [putFK, q]
        have e5 : putFV (k :: ks) (x :: fs) f w = x :: putFV ks fs f w := by simp [putFV, q]
        rw [e4, e5, List.length_cons, List.length_cons, e3]
theorem zip_len {ks : List Nat} {fs : List W} {F : Hp} {φ : Nat → Addr} {n : Nat} {vs : List V} (r : Reps Γ F φ n fs vs) (h : ks.length = fs.length) : ((ks.map Γ.nm).zip vs).length = ks.length := by
  rw [List.length_zip, List.length_map, r.length, h, Nat.min_self]
def fSf (T : Tab) (f : Nat) : LI.Env → W → Sto → RS := fun env x s1 => match env[(0 : Nat)]? with
  | some (.self c ks fs) => if T.fo c f && decide (ks.length < 900) then .ok .nx (env.set 0 (.self c (putFK ks f) (putFV ks fs f x))) s1 else .no
  | _ => .no
/-- self.x = e in __init__ -/
theorem ss_sfld {f : Nat} {x y : Str} {pos' : Pos} (C : XC Γ Wx N sc k X) (F : Fx Γ D) (hx : Γ.nm f = x) (hN : N[0]? = some y) (hv : Vis sc y) (hd : (y == ("__debug__" : Str)) = false) (hcd : (y == ("__classdict__" : Str)) = false)
    (he : PE X e (tX Γ Wx en rd (pRep Γ))) (hs : swapsWith e (some (.Attribute (.Name y p) x pos')) pos.line X.env = pure false) :
    PS X (.Assign [.Attribute (.Name y p) x pos'] e pos) (tS Γ Wx en fun env s => (rd env s).stm env (fSf Γ.T f env)) := by
  subst hx
  refine PS.mono (ps_fld (pe_var (i := 0) (by rw [C.eN]; exact hN) (by rw [C.eS]; exact hv) hd hcd) he hs) ?_
  rintro D σ H ⟨S, env, fr, hr, sl, h⟩
  refine ⟨env, S, hr, sl, RP.mono (stm_seq sl hr fr h) fun w S1 H1 fr1 hr1 ⟨f1, sl1, h1⟩ v rv => ?_⟩
  unfold fSf at h1
  split at h1
  · rename_i c ks fs e0
    split at h1
    · rename_i hz
      rw [Bool.and_eq_true] at hz
      obtain ⟨o, eo, rfl, ow, dx, vs, ha, r, hl⟩ := sl1.slot e0
      obtain ⟨c1, c2⟩ := F.fo _ _ hz.1
      obtain ⟨us, e1, r2, l2⟩ := putF_ok F.nmI rv r hl
      rw [C.eK]
      refine ⟨_, eo, _, _, dx, _, rfl, ha, c1, c2, by rw [zip_len r hl]; have := of_decide_eq_true hz.2; omega, ?_⟩
      rw [e1]
      refine RPS.nx h1 (f1.wrt ow.2.1) (hr1.wrt ow.1 ow.2.2) ?_
      refine ⟨by rw [List.length_set]; exact sl1.len, fun j s o e2 e3 => ?_, fun j l xs' zs b e2 e3 e4 e5 => ?_, one_set sl1.one fun _ _ _ _ => rfl⟩
      · by_cases q : 0 = j
        · subst q
          have h2 : 0 < env.length := by have := (List.getElem?_eq_some_iff.mp e2).1; rwa [List.length_set] at this
          rw [List.getElem?_set_self h2] at e2
          cases e2
          rw [eo] at e3
          cases e3
          exact ⟨rfl, ow, dx, us, upd_same, r2, l2⟩
        · rw [List.getElem?_set_ne q] at e2
          have z := sl1.at_ j s o e2 e3
          cases s with
          | un => exact z
          | v w => exact z
          | own ys' =>
            obtain ⟨b, ws, rfl, ow', hb, r3⟩ := z
            refine ⟨b, ws, rfl, ow', ?_, r3⟩
            rw [upd_ne fun z => by rw [z, ha] at hb; cases hb]
            exact hb
          | self c ks fs => exact absurd (sl1.one j c ks fs e2).symm q
          | exn c ks fs =>
            obtain ⟨b, cls, d, e6, e7, x⟩ := z
            refine ⟨b, cls, d, e6, e7, x.cls, x.len, x.none, fun z => ?_⟩
            obtain ⟨dd, ws, h3, h4, h5⟩ := x.some z
            refine ⟨dd, ws, h3, ?_, h5⟩
            rw [upd_ne fun z => by rw [z, ha] at h4; cases h4]
            exact h4
      · have at1 : ∀ m zs, (env.set 0 (.self c (putFK ks f) (putFV ks fs f w)))[m]? = some (Sl.own zs) → env[m]? = some (Sl.own zs) := fun m zs e1 => by
          by_cases q : 0 = m
          · subst q
            have h2 : 0 < env.length := by have := (List.getElem?_eq_some_iff.mp e1).1; rwa [List.length_set] at this
            rw [List.getElem?_set_self h2] at e1; cases e1
          · rw [List.getElem?_set_ne q] at e1; exact e1
        exact sl1.dis j l _ _ b (at1 j _ e2) (at1 l _ e3) e4 e5
    · exact h1.elim
  · exact h1.elim

/-! ### cells written -/
/-- the store with a cell written -/
def Sn.put (S : Sn) (n : Nat) (c : Cl) : Sn := { S with S := S.S.set n c }
theorem put_live {n m : Nat} {c : Cl} (hc : liveC c = true) (hl : S.live n) : (S.put n c).live m ↔ S.live m := by
  have hn := hl.lt
  constructor
  · rintro ⟨c', e, l⟩
    have e' : (S.S.set n c)[m]? = some c' := e
    by_cases q : n = m
    · subst q; exact hl
    · rw [List.getElem?_set_ne q] at e'; exact ⟨c', e', l⟩
  · rintro ⟨c', e, l⟩
    by_cases q : n = m
    · subst q; exact ⟨c, by show (S.S.set n c)[n]? = _; exact List.getElem?_set_self hn, hc⟩
    · exact ⟨c', by show (S.S.set n c)[m]? = _; rw [List.getElem?_set_ne q]; exact e, l⟩
theorem put_gr {n : Nat} {c : Cl} : Gr S (S.put n c) := ⟨Sub.refl _, by show _ ≤ (S.S.set n c).length; rw [List.length_set]; exact Nat.le_refl _, fun _ _ => rfl⟩
theorem HR.putC (hr : HR Γ S H) {n : Nat} {c : Cl} {o : HO} (hl : S.live n) (hc : liveC c = true) (ho : ClR Γ (S.put n c) (upd H (S.φ n) o) (S.φ n) c) : HR Γ (S.put n c) (upd H (S.φ n) o) := by
  have hn := hl.lt
  refine ⟨fun a u e => ?_, fun m c' e => ?_, fun m l l1 l2 e => hr.inj m l ((put_live hc hl).mp l1) ((put_live hc hl).mp l2) e⟩
  · have : a ≠ S.φ n := fun z => by
      have e0 : S.F a = some u := e
      rw [z, (hr.liveF hl).1] at e0; cases e0
    rw [upd_ne this]; exact hr.sub a u e
  · have e' : (S.S.set n c)[m]? = some c' := e
    by_cases q : n = m
    · subst q
      rw [List.getElem?_set_self hn] at e'
      cases e'
      exact ho
    · rw [List.getElem?_set_ne q] at e'
      have z := hr.cel m c' e'
      have ne : liveC c' = true → S.φ m ≠ S.φ n := fun l y => q (hr.inj m n ⟨c', e', l⟩ hl y).symm
      cases c' with
      | lst xs => obtain ⟨h1, vs, h2, h3⟩ := z; exact ⟨h1, vs, by rw [show (S.put n c).φ m = S.φ m from rfl, upd_ne (ne rfl)]; exact h2, put_gr.reps h3⟩
      | dK xs => obtain ⟨h1, vs, h2, h3⟩ := z; exact ⟨h1, vs, by rw [show (S.put n c).φ m = S.φ m from rfl, upd_ne (ne rfl)]; exact h2, put_gr.reps h3⟩
      | dT xs => obtain ⟨h1, vs, h2, h3⟩ := z; exact ⟨h1, vs, by rw [show (S.put n c).φ m = S.φ m from rfl, upd_ne (ne rfl)]; exact h2, put_gr.reps h3⟩
      | obj c ks fs => obtain ⟨h1, dx, vs, h2, h3, h4⟩ := z; exact ⟨h1, dx, vs, by rw [show (S.put n _).φ m = S.φ m from rfl, upd_ne (ne rfl)]; exact h2, put_gr.reps h3, h4⟩
      | dead =>
        obtain ⟨u, h⟩ := z
        by_cases y : S.φ m = S.φ n
        · exact ⟨o, by rw [show (S.put n c).φ m = S.φ m from rfl, y]; exact upd_same⟩
        · exact ⟨u, by rw [show (S.put n c).φ m = S.φ m from rfl, upd_ne y]; exact h⟩
theorem Fr.putC {S0 : Sn} {H0 : Hp} (fr : Fr S0 H0 S H) {n : Nat} {c : Cl} {o : HO} (hl : S.live n) (hc : liveC c = true) : Fr S0 H0 (S.put n c) (upd H (S.φ n) o) := by
  have ne : ∀ {a : Addr} {u : HO}, H0 a = some u → S0.off a → a ≠ S.φ n := fun {a u} e ho z => by
    by_cases h : n < S0.S.length
    · exact ho n (fr.live n h hl) (by rw [← fr.φ n h]; exact z.symm)
    · have := fr.new n (by omega) hl.lt
      rw [← z, e] at this; cases this
  refine ⟨fr.f, Nat.le_trans fr.n put_gr.n, fr.φ, fun a u e ho => by rw [upd_ne (ne e ho)]; exact fr.keep a u e ho, fr.own, fun m h1 h2 => fr.new m h1 (by have h2' : m < (S.S.set n c).length := h2; rwa [List.length_set] at h2'), fun m h1 l => fr.live m h1 ((put_live hc hl).mp l), fun a u e => ?_⟩
  obtain ⟨o', q⟩ := fr.there a u e
  by_cases z : a = S.φ n
  · exact ⟨o, by rw [z]; exact upd_same⟩
  · exact ⟨o', by rw [upd_ne z]; exact q⟩
theorem SlR.putC (sl : SlR Γ en S H env σ) (hr : HR Γ S H) {n : Nat} {c : Cl} {o : HO} (hl : S.live n) (hc : liveC c = true) : SlR Γ en (S.put n c) (upd H (S.φ n) o) env σ := by
  have own' : ∀ {a : Addr}, Own S en a → Own (S.put n c) en a := fun {a} w => ⟨w.1, w.2.1, fun m l => w.2.2 m ((put_live hc hl).mp l)⟩
  refine ⟨sl.len, fun j s o' e2 e3 => ?_, sl.dis, sl.one⟩
  have z := sl.at_ j s o' e2 e3
  cases s with
  | un => exact z
  | v w => obtain ⟨v, e, r⟩ := z; exact ⟨v, e, put_gr.rep r⟩
  | own ys' =>
    obtain ⟨b, ws, rfl, ow', hb, r3⟩ := z
    exact ⟨b, ws, rfl, own' ow', by rw [upd_ne fun z => ow'.2.2 n hl z.symm]; exact hb, put_gr.reps r3⟩
  | self c ks fs =>
    obtain ⟨rfl, ow', dx, ws, hb, r3, l3⟩ := z
    exact ⟨rfl, own' ow', dx, ws, by rw [upd_ne fun z => ow'.2.2 n hl z.symm]; exact hb, put_gr.reps r3, l3⟩
  | exn c ks fs =>
    obtain ⟨b, cls, d, e6, e7, x⟩ := z
    refine ⟨b, cls, d, e6, e7, x.cls, x.len, x.none, fun z => ?_⟩
    obtain ⟨dd, ws, h3, h4, h5⟩ := x.some z
    exact ⟨dd, ws, h3, by rw [upd_ne fun z => hr.offXd h4 n hl z.symm]; exact h4, put_gr.reps h5⟩
def fcFld (T : Tab) (f : Nat) : LI.Env → W → W → Sto → RS := fun env x y s2 => match y with
  | .cell n => (match s2[n]? with
    | some (.obj c ks fs) => if T.fo c f && decide (ks.length < 900) then .ok .nx env (s2.set n (.obj c (putFK ks f) (putFV ks fs f x))) else .no
    | _ => .no)
  | _ => .no
/-- o.x = e -/
theorem ss_cFld {f : Nat} {x : Str} {pos' : Pos} (C : XC Γ Wx N sc k X) (F : Fx Γ D) (hx : Γ.nm f = x) (he : PE X e (tX Γ Wx en rd (pRep Γ))) (ho : PE X ea (tX Γ Wx en rk (pRep Γ))) (hs : swapsWith e (some (.Attribute ea x pos')) pos.line X.env = pure false) :
    PS X (.Assign [.Attribute ea x pos'] e pos) (tS Γ Wx en fun env s => (rd env s).stm env fun x s1 => (rk env s1).stm env fun y s2 => fcFld Γ.T f env x y s2) := by
  subst hx
  refine PS.mono (ps_fld ho he hs) ?_
  rintro D σ H ⟨S, env, fr, hr, sl, h⟩
  refine ⟨env, S, hr, sl, RP.mono (stm_seq sl hr fr h) fun w S1 H1 fr1 hr1 ⟨f1, sl1, h1⟩ v rv => ⟨env, S1, hr1, sl1, RP.mono (stm_seq sl1 hr1 f1 h1) fun y S2 H2 fr2 hr2 ⟨f2, sl2, h2⟩ u ru => ?_⟩⟩
  unfold fcFld at h2
  split at h2
  · rename_i n _
    split at h2
    · rename_i c ks fs e0
      split at h2
      · rename_i hz
        rw [Bool.and_eq_true] at hz
        obtain ⟨_, rfl⟩ := ru
        obtain ⟨z1, dx, vs, ha, r, hl⟩ := hr2.cel n _ e0
        have hlive : S2.live n := ⟨_, e0, rfl⟩
        obtain ⟨c1, c2⟩ := F.fo _ _ hz.1
        obtain ⟨us, e1, r2, l2⟩ := putF_ok F.nmI (fr2.rep rv) r hl
        rw [C.eK]
        refine ⟨_, _, dx, _, rfl, ha, c1, c2, by rw [zip_len r hl]; have := of_decide_eq_true hz.2; omega, ?_⟩
        rw [e1]
        have ho' : ClR Γ (S2.put n (.obj c (putFK ks f) (putFV ks fs f w))) (upd H2 (S2.φ n) (.ins (Γ.ca c) dx (((putFK ks f).map Γ.nm).zip us))) (S2.φ n) (.obj c (putFK ks f) (putFV ks fs f w)) := ⟨z1, dx, us, upd_same, put_gr.reps r2, l2⟩
        exact h2 (S2.put n (.obj c (putFK ks f) (putFV ks fs f w))) _ σ rfl put_gr (f2.putC hlive rfl) (hr2.putC hlive rfl ho') (sl2.putC hr2 hlive rfl)
      · exact h2.elim
    · exact h2.elim
  · exact h2.elim
def fcSet : LI.Env → W → W → W → Sto → RS := fun env x y z s3 => match y, z with
  | .cell n, .int j => (match s3[n]? with
    | some (.lst xs) => (match ixN xs.length j with
      | some m => .ok .nx env (s3.set n (.lst (xs.set m x)))
      | none => .no)
    | _ => .no)
  | _, _ => .no
/-- o[k] = e -/
theorem ss_cSet {pos2 : Pos} {ro : LI.Env → Sto → R W} (C : XC Γ Wx N sc k X) (hp : plainIx eb = true)
    (he : PE X e (tX Γ Wx en rd (pRep Γ))) (ho : PE X ea (tX Γ Wx en ro (pRep Γ))) (hk : PE X eb (tX Γ Wx en rk (pRep Γ))) (hs : swapsWith e (some (.Subscript ea eb pos)) pos2.line X.env = pure false) :
    PS X (.Assign [.Subscript ea eb pos] e pos2) (tS Γ Wx en fun env s => (rd env s).stm env fun x s1 => (ro env s1).stm env fun y s2 => (rk env s2).stm env fun z s3 => fcSet env x y z s3) := by
  refine PS.mono (ps_asg he (pg_sub ho hk set_list (plainIx_assign hp)) hs rfl rfl) ?_
  rintro D σ H ⟨S, env, fr, hr, sl, h⟩
  refine ⟨env, S, hr, sl, RP.mono (stm_seq sl hr fr h) fun w S1 H1 fr1 hr1 ⟨f1, sl1, h1⟩ v rv => ⟨env, S1, hr1, sl1, RP.mono (stm_seq sl1 hr1 f1 h1) fun y S2 H2 fr2 hr2 ⟨f2, sl2, h2⟩ u ru =>
    ⟨env, S2, hr2, sl2, RP.mono (stm_seq sl2 hr2 f2 h2) fun z S3 H3 fr3 hr3 ⟨f3, sl3, h3⟩ t rt => ?_⟩⟩⟩
  unfold fcSet at h3
  split at h3
  · rename_i n _ _ j
    split at h3
    · rename_i xs e0
      split at h3
      · rename_i m hm
        obtain ⟨_, rfl⟩ := fr3.rep ru
        cases (show t = .int _ from rt)
        obtain ⟨z1, vs, ha, r⟩ := hr3.cel n _ e0
        have hlive : S3.live n := ⟨_, e0, rfl⟩
        have r2 := r.set (fr3.rep (fr2.rep rv)) m
        refine ⟨_, vs, _, m, rfl, rfl, ha, by rw [r.length]; exact hm, ?_⟩
        have ho' : ClR Γ (S3.put n (.lst (xs.set m w))) (upd H3 (S3.φ n) (.lst (vs.set m v))) (S3.φ n) (.lst (xs.set m w)) := ⟨z1, _, upd_same, put_gr.reps r2⟩
        exact h3 (S3.put n (.lst (xs.set m w))) _ σ rfl put_gr (f3.putC hlive rfl) (hr3.putC hlive rfl ho') (sl3.putC hr3 hlive rfl)
      · exact h3.elim
    · exact h3.elim
  · exact h3.elim
def fcApp (n : Nat) : LI.Env → W → Sto → RS := fun env x s2 => match s2[n]? with
  | some (.lst xs) => if okN (xs.length + 1) then .ok .nx env (s2.set n (.lst (xs ++ [x]))) else .no
  | _ => .no
/-- o.append(e) -/
theorem ss_cApp {cpos pos2 : Pos} (C : XC Γ Wx N sc k X) (ho : plainO ea = true) (hp : plainA e = true) (hline : (apos.endLine == cpos.line) = true) (hk : PE X ea (tX Γ Wx en rk (pRep Γ))) (he : PE X e (tX Γ Wx en rd (pRep Γ))) :
    PS X (.Expr (.Call (.Attribute ea "append" apos) [e] [] cpos) pos2) (tS Γ Wx en fun env s => (rk env s).stm env fun y s1 => match y with
      | .cell n => (match s1[n]? with
        | some (.lst _) => (rd env s1).stm env (fcApp n env)
        | _ => .no)
      | _ => .no) := by
  refine PS.mono (ps_expr (pe_bm F.plainAttrs_list F.slot_list_append F.type_list_append mt_append hk (pa_cons he pa_nil (starEach_ok hp)) (plainO_ok ho) (by rw [starEach_ok hp]; rfl) hline (starEach_ok hp) rfl) rfl) ?_
  rintro D σ H ⟨S, env, fr, hr, sl, h⟩
  refine ⟨env, S, hr, sl, RP.mono (stm_seq sl hr fr h) fun y S1 H1 fr1 hr1 ⟨f1, sl1, h1⟩ u ru => ?_⟩
  split at h1
  · rename_i n _
    split at h1
    · rename_i ys e0
      obtain ⟨hn, rfl⟩ := ru
      obtain ⟨z1, vs, ha, r⟩ := hr1.cel n _ e0
      refine ⟨.inl ⟨rfl, vs, by rw [C.eK]; exact SqL.of ha⟩, env, S1, hr1, sl1, RP.mono (stm_seq sl1 hr1 f1 h1) fun w S2 H2 fr2 hr2 ⟨f2, sl2, h2⟩ v rv => ?_⟩
      unfold fcApp at h2
      split at h2
      · rename_i xs e1
        split at h2
        · rename_i hz
          obtain ⟨z2, vs2, ha2, r2⟩ := hr2.cel n _ e1
          have hlive : S2.live n := ⟨_, e1, rfl⟩
          have hl := r2.length
          have hz' : xs.length + 1 ≤ sizeLine := okN_le hz
          have eφ : S2.φ n = S1.φ n := fr2.φ n hn
          rw [← eφ]
          refine ⟨_, vs2, v, rfl, rfl, ha2, by omega, ?_⟩
          have ho' : ClR Γ (S2.put n (.lst (xs ++ [w]))) (upd H2 (S2.φ n) (.lst (vs2 ++ [v]))) (S2.φ n) (.lst (xs ++ [w])) := ⟨z2, _, upd_same, put_gr.reps (r2.append (Reps.cons rv Reps.nil))⟩
          exact h2 (S2.put n (.lst (xs ++ [w]))) _ σ rfl put_gr (f2.putC hlive rfl) (hr2.putC hlive rfl ho') (sl2.putC hr2 hlive rfl)
        · exact h2.elim
      · exact h2.elim
    · exact h1.elim
  · exact h1.elim
end
end LI
end
section
set_option Elab.async false
set_option linter.all false
set_option maxRecDepth 100000
set_option maxHeartbeats 4000000
/-! LiDic: dicts as cells. -/
namespace LI
open PySem PySem.Spec PyProof.Rows L2

section
variable {Γ : Ctx} {F : Hp} {φ : Nat → Addr} {M : Nat} {κ κ' : Type} [DecidableEq κ] [DecidableEq κ']
/-- what stands at a key -/
theorem dict_at {g : κ → κ'} (hg : ∀ a b, g a = g b → a = b) : ∀ {kvs : List (κ × W)} {vs : List V} (k : κ), Reps Γ F φ M (kvs.map (·.2)) vs →
    match lkD kvs k with
    | some w => ∃ v, valV ((kvs.map fun p => g p.1).zip vs) (g k) = some v ∧ Rep Γ F φ M w v
    | none => valV ((kvs.map fun p => g p.1).zip vs) (g k) = none
  | [], _, k, h => by cases (show _ = [] from h); rfl
  | (a, w) :: kvs, _, k, ⟨v, vs, e, r1, r2⟩ => by
    subst e
    have ih := dict_at hg k r2
    by_cases q : a = k
    · subst q
      have e1 : lkD ((a, w) :: kvs) a = some w := by simp [lkD]
      rw [e1]
      exact ⟨v, by simp [valV], r1⟩
    · have q' : ¬ g a = g k := fun z => q (hg _ _ z)
      have e1 : lkD ((a, w) :: kvs) k = lkD kvs k := by simp [lkD, q]
      have e2 : valV ((((a, w) :: kvs).map fun p => g p.1).zip (v :: vs)) (g k) = valV ((kvs.map fun p => g p.1).zip vs) (g k) := by simp [valV, q']
      rw [e1, e2]
      exact ih
theorem ptD_len {kvs : List (κ × W)} {k : κ} {w : W} : (ptD kvs k w).length ≤ kvs.length + 1 := by
  unfold ptD
  split
  · simp
  · simp
theorem reps_len {ws : List W} {vs : List V} (h : Reps Γ F φ M ws vs) : vs.length = ws.length := h.length
/-- the dict behind a store -/
theorem dict_put {g : κ → κ'} (hg : ∀ a b, g a = g b → a = b) {w : W} {v : V} (hv : Rep Γ F φ M w v) (k : κ) {kvs : List (κ × W)} {vs : List V} (r : Reps Γ F φ M (kvs.map (·.2)) vs) :
    ∃ us, putK ((kvs.map fun p => g p.1).zip vs) (g k) v = ((ptD kvs k w).map fun p => g p.1).zip us ∧ Reps Γ F φ M ((ptD kvs k w).map (·.2)) us := by
  have any : ∀ {kvs : List (κ × W)} {vs : List V}, vs.length = kvs.length → (((kvs.map fun p => g p.1).zip vs).any fun kv => decide (kv.1 = g k)) = kvs.any fun kv => decide (kv.1 = k) := by
    intro kvs
    induction kvs with
    | nil => intro vs _; rfl
    | cons p kvs ih =>
      intro vs hl
      cases vs with
      | nil => cases hl
      | cons v vs =>
        have := ih (vs := vs) (by simpa using hl)
        simp only [List.map_cons, List.zip_cons_cons, List.any_cons, this]
        congr 1
        exact decide_eq_decide.mpr ⟨fun z => hg _ _ z, fun z => by rw [z]⟩
  have hl : vs.length = kvs.length := by have := r.length; simpa using this
  unfold putK ptD
  rw [any hl]
  by_cases q : (kvs.any fun kv => decide (kv.1 = k)) = true
  · rw [if_pos q, if_pos q]
    clear q
    have key : ∀ {kvs : List (κ × W)} {vs : List V}, Reps Γ F φ M (kvs.map (·.2)) vs → ∃ us, ((kvs.map fun p => g p.1).zip vs).map (fun kv => if kv.1 = g k then (kv.1, v) else kv) = ((kvs.map fun kv => if kv.1 = k then (kv.1, w) else kv).map fun p => g p.1).zip us ∧
        Reps Γ F φ M ((kvs.map fun kv => if kv.1 = k then (kv.1, w) else kv).map (·.2)) us := by
      intro kvs
      induction kvs with
      | nil => intro vs r; cases (show _ = [] from r); exact ⟨[], rfl, rfl⟩
      | cons p kvs ih =>
        rintro _ ⟨u, vs, e, r1, r2⟩
        subst e
        obtain ⟨us, e1, r3⟩ := ih r2
        by_cases z : p.1 = k
        · refine ⟨v :: us, ?_, ?_⟩
          · simp only [List.map_cons, List.zip_cons_cons, z, if_true]
            rw [e1]
          · simp only [List.map_cons, z, if_true]
            exact Reps.cons hv r3
        · have z' : ¬ g p.1 = g k := fun y => z (hg _ _ y)
          refine ⟨u :: us, ?_, ?_⟩
          · simp only [List.map_cons, List.zip_cons_cons, z, z', if_false]
            rw [e1]
          · simp only [List.map_cons, z, if_false]
            exact Reps.cons r1 r3
    exact key r
  · rw [if_neg q, if_neg q]
    refine ⟨vs ++ [v], ?_, ?_⟩
    · rw [List.map_append, List.zip_append (by simp [hl])]
      rfl
    · rw [List.map_append]
      exact r.append (Reps.cons hv Reps.nil)
end

/-! ### {k: v} with a tuple as its key -/
section
variable {prog : Program} {w : World} {A : Around} {E : Value → Shared → Prop} {s : Shared}
theorem subDict_one {k v : Sem Value} {Q : Addr → Shared → Prop}
    (h : wpAny (model prog w) A k (fun kv s₁ => wpAny (model prog w) A v (fun vv s₂ => wpAny (model prog w) A (dictSet s.heap.objs.size kv vv) (fun _ s3 => Q s.heap.objs.size s3) E s₂) E s₁) E
      { s with heap := s.heap.push { cls := .type "dict", data := .dict #[] } }) :
    wpAny (model prog w) A (subDict [(k, v)]) Q E s := by
  unfold subDict
  refine wpAny_bind (wpAny_alloc ?_)
  refine wpAny_bind (wpAny_holding ?_)
  rw [if_pos (show ([(k, v)] : List (Sem Value × Sem Value)).length ≤ 15 by simp)]
  refine wpAny_bind (evalPairs_cons (wpAny_mono h (fun kv s₁ h₁ => wpAny_mono h₁ (fun vv s₂ h₂ => evalPairs_nil ?_) fun _ _ e => e) fun _ _ e => e))
  refine wpAny_holding ?_
  show wpAny _ _ (forIn [(kv, vv)] PUnit.unit _ >>= _) _ _ _
  rw [List.forIn_cons]
  refine wpAny_bind (wpAny_bind (wpAny_bind (wpAny_mono h₂ (fun _ s₃ h₃ => wpAny_pure ?_) fun _ _ e => e)))
  dsimp only
  rw [List.forIn_nil]
  exact wpAny_pure (wpAny_pure (wpAny_pure h₃))
end
def tDisp1 (tk tv : TE) : TE := fun σ H Q => ∀ p, H p = none → tk σ (upd H p (.dT [])) fun x H1 => tv σ H1 fun y H2 => H2 p = some (.dT []) ∧ ∃ ks b, x = .ref b ∧ H2 b = some (.tup (ks.map kV)) ∧ Q (.ref p) (upd H2 p (.dT [(ks, y)]))
theorem pe_disp1 {X : Cx} {k v : Expr} {tk tv : TE} {pos : Pos} (hu : X.A.units + 1 < cLine) (hk : PE X k tk) (hv : PE X v tv) : PE X (.Dict [some k] [v] pos) (tDisp1 tk tv) := by
  refine ⟨fun pins s σ H Q I q => ?_⟩
  have hn := I.hok.fresh (Nat.le_refl s.heap.objs.size)
  have I1 := I.laid (a := s.heap.objs.size) (o := .dT []) (h' := s.heap.push { cls := .type "dict", data := .dict #[] }) (t' := s.toks) (fun _ _ q => Heap.get?_push_of_some _ q) (Nat.le_refl _) (dt_empty s.heap I.big)
  have hsh : (evalEachOpt [some k] X.env).zip ((evalEach [v] X.env).map fun v => do let x ← v; standAt pos; pure x) = ([(eval k X.env, do let x ← eval v X.env; standAt pos; pure x)] : List (Sem Value × Sem Value)).map fun p => (some p.1, p.2) := rfl
  rw [arm_eval_Dict, hsh, dictDisplay_pairs _ (by simp) (by simp)]
  refine wpAny_bind (wpAny_standAt (wpAny_bind (subDict_one ?_)))
  refine thn (hk.run pins _ σ _ _ I1 (q _ hn)) fun u s1 ⟨x, H1, I2, rx, q1⟩ => ?_
  refine wpAny_bind (thn (hv.run pins s1 σ H1 _ I2 q1) fun w2 s2 ⟨y, H2, I3, ry, e, ks, b, ex, eb, q2⟩ => wpAny_bind (wpAny_standAt (wpAny_pure ?_)))
  subst ex
  obtain rfl : u = Value.ref b := rx
  obtain ⟨z, hd, xs, rel, dd⟩ := dt_of I3.hok e
  cases rel
  refine wpAny_dictSet_heap (hsz := Nat.zero_le _) (show (tupleKind (mixKind X.prog X.w)).room X.A from Nat.lt_of_succ_lt hu) (key_of I3.hok eb) dd fun h' dd' hs => wpAny_pure ⟨.ref s.heap.objs.size, _, ?_, rfl, q2⟩
  obtain ⟨q, es, ep, hq, h2, h3, h4, _, h5⟩ := dd'
  refine d_write I3 (by rw [e]; exact True.intro) hs ⟨q, hq⟩ ⟨by rw [sizeLine_eq]; show 1 ≤ 16777216; decide, hd, _, (KT.put (.nil) ks eb ry).keeps fun c ys ec => ?_, q, es, ep, hq, h2, h3, h4, h5⟩
  rw [upd_ne (ne_of ec e (fun z => nomatch z))]
  exact ec

/-! ### the small language's dicts -/
section
variable {Γ : Ctx} {en : En} {S S1 S2 : Sn} {H H1 H2 : Hp} {env : LI.Env} {σ : L2.St} {Wx : WX}
variable {N : List Str} {sc : Scope} {k : Nat} {X : Cx} {e ea eb : Expr} {pos p apos : Pos} {ra rb : Sto → R W}
theorem hu_un (C : XC Γ Wx N sc k X) : X.A.units + 1 < cLine := by have := C.un; omega
theorem plain_nosl {b : Expr} (h : plainIx b = true) : NoSl b := by
  intro ov iv
  cases b <;> first | (cases h; done) | rfl
theorem inl_inj (a b : Int ⊕ Str) (h : id a = id b) : a = b := h
theorem tinl_inj (a b : List Int) (h : a.map (Sum.inl : Int → Key) = b.map Sum.inl) : a = b := by
  induction a generalizing b with
  | nil => cases b <;> first | rfl | cases h
  | cons x a ih =>
    cases b with
    | nil => cases h
    | cons y b =>
      rw [List.map_cons, List.map_cons] at h
      injection h with h1 h2
      injection h1 with h1
      rw [h1, ih b h2]
/-- a tuple of ints stands as a key -/
theorem tup_key {ws : List W} {ks : List Int} {v : V} (hr : HR Γ S H) (r : RepX Γ S H (.tup ws) v) (h : intsOf ws = some ks) : ∃ b, v = .ref b ∧ H b = some (.tup ((ks.map (Sum.inl : Int → Key)).map kV)) := by
  obtain ⟨a, vs, rfl, ⟨h1, h2⟩, h3⟩ := r.rep (fun _ z => by cases z)
  have e := intsOf_eq h
  have ns : ∀ ks : List Int, hasStr (ks.map W.int) = false := by
    intro ks
    induction ks with
    | nil => rfl
    | cons x r ih => exact ih
  rw [e] at h2 h3
  rcases h2 with h2 | h2
  · rw [Reps.ints_inv h3] at h2
    refine ⟨a, rfl, ?_⟩
    rw [hr.sub _ _ h2, List.map_map]
    rfl
  · rw [ns] at h2; cases h2
/-- a value, or none -/
def OptR (Γ : Ctx) (S : Sn) : Option W → Option V → Prop
  | some w, ov => ∃ z, ov = some z ∧ RepS Γ S w z
  | none, ov => ov = none
theorem dget_hop {x y : W} {v u : V} {o : Option W} (hr : HR Γ S H) (rx : RepX Γ S H x v) (ry : RepX Γ S H y u) (h : dGet S.S x y = some o) :
    ∃ a ov, v = .ref a ∧ DGet H a u ov ∧ OptR Γ S o ov := by
  cases x with
  | cell n =>
    obtain ⟨_, rfl⟩ := rx.rep (fun _ z => by cases z)
    have h' : (match S.S[n]? with
      | some (.dK kvs) => (keyK y).map (lkD kvs)
      | some (.dT kvs) => (keyT y).map (lkD kvs)
      | _ => none) = some o := h
    cases e : S.S[n]? with
    | none => rw [e] at h'; cases h'
    | some c =>
      rw [e] at h'
      cases c with
      | dK kvs =>
        obtain ⟨z1, vs, ha, r⟩ := hr.cel n _ e
        obtain ⟨kk, ek, rfl⟩ := Option.map_eq_some_iff.mp h'
        have key : u = kV kk := by
          unfold keyK at ek
          split at ek
          · cases ek; exact ry.int
          · cases ek; exact ry.str
          · cases ek
        subst key
        have d := dict_at (g := (id : Int ⊕ Str → Key)) inl_inj kk r
        have ha' : H (S.φ n) = some (.dK ((kvs.map fun p => id p.1).zip vs)) := ha
        refine ⟨_, _, rfl, DGet.k ha', ?_⟩
        cases q : lkD kvs kk with
        | none => rw [q] at d; exact d
        | some w => rw [q] at d; exact d
      | dT kvs =>
        obtain ⟨z1, vs, ha, r⟩ := hr.cel n _ e
        obtain ⟨kk, ek, rfl⟩ := Option.map_eq_some_iff.mp h'
        cases y with
        | tup ws =>
          obtain ⟨b, rfl, hb⟩ := tup_key hr ry (show intsOf ws = some kk from ek)
          have d := dict_at (g := fun ks : List Int => ks.map (Sum.inl : Int → Key)) tinl_inj kk r
          refine ⟨_, _, rfl, DGet.t ha hb, ?_⟩
          cases q : lkD kvs kk with
          | none => rw [q] at d; exact d
          | some w => rw [q] at d; exact d
        | _ => cases ek
      | _ => cases h'
  | _ => cases h
theorem se_dget (C : XC Γ Wx N sc k X) (hp : plainIx eb = true) (ha : PE X ea (tR Γ Wx en env ra (pRepX Γ))) (hb : PE X eb (tR Γ Wx en env rb (pRepX Γ))) :
    PE X (.Subscript ea eb pos) (tR Γ Wx en env (fun s => (ra s).bind fun x s1 => (rb s1).bind fun y s2 => retO ((dGet s2 x y).bind id) s2) (pRep Γ)) := by
  refine se_two (op := fun x y H Q => ∃ a v, x = .ref a ∧ DGet H a y (some v) ∧ Q v H) (rd := fun x y s2 => retO ((dGet s2 x y).bind id) s2) (fun h1 h2 => PE.mono (pe_dget (hu_un C) h1 h2 (plain_nosl hp)) fun _ _ _ h => h) ha hb ?_
  intro S0 S H0 H σ x y v u Q fr hr rx ry h
  obtain ⟨w, e, q⟩ := h.retO hr
  obtain ⟨o, e1, e2⟩ := Option.bind_eq_some_iff.mp e
  obtain rfl : o = some w := e2
  obtain ⟨a, ov, rfl, g, z, rfl, rz⟩ := dget_hop hr rx ry e1
  exact ⟨a, z, rfl, g, q z rz⟩
theorem din_hop {x y : W} {v u : V} {Q : VK} {neg : Bool} {S0 : Sn} {H0 : Hp} (hr : HR Γ S H) (rx : RepX Γ S H x v) (ry : RepX Γ S H y u)
    (h : RP Γ Wx σ S H (retO ((dGet S.S x y).map fun o => .bl (xor neg o.isSome)) S.S) (fun w S' H' => ∀ v, pRep Γ S0 H0 w v S' H' → Q v H')) : ∃ a o, v = .ref a ∧ DGet H a u o ∧ Q (.bl (xor neg o.isSome)) H := by
  obtain ⟨w, e, q⟩ := h.retO hr
  obtain ⟨o, e1, rfl⟩ := Option.map_eq_some_iff.mp e
  obtain ⟨a, ov, rfl, g, m⟩ := dget_hop hr rx ry e1
  refine ⟨a, ov, rfl, g, ?_⟩
  have : ov.isSome = o.isSome := by
    cases o with
    | none => rw [show ov = none from m]; rfl
    | some w => obtain ⟨z, rfl, _⟩ := m; rfl
  rw [this]
  exact q _ rfl
theorem se_din {neg : Bool} (C : XC Γ Wx N sc k X) (ha : PE X ea (tR Γ Wx en env ra (pRepX Γ))) (hb : PE X eb (tR Γ Wx en env rb (pRepX Γ))) (hm : behindInMarks (if neg then .NotIn else .In) eb = false) :
    PE X (.Compare ea [if neg then .NotIn else .In] [eb] pos) (tR Γ Wx en env (fun s => (ra s).bind fun y s1 => (rb s1).bind fun x s2 => retO ((dGet s2 x y).map fun o => .bl (xor neg o.isSome)) s2) (pRep Γ)) := by
  cases neg with
  | false =>
    refine se_two (op := fun y x H Q => ∃ a o, x = .ref a ∧ DGet H a y o ∧ Q (.bl o.isSome) H) (rd := fun y x s2 => retO ((dGet s2 x y).map fun o => .bl (xor false o.isSome)) s2) (fun h1 h2 => PE.mono (pe_cmp (pc_din (hu_un C) h1 h2) hm) fun _ _ _ h => h) ha hb ?_
    intro S0 S H0 H σ y x u v Q fr hr ry rx h
    have := din_hop hr rx ry h
    simpa using this
  | true =>
    refine se_two (op := fun y x H Q => ∃ a o, x = .ref a ∧ DGet H a y o ∧ Q (.bl (!o.isSome)) H) (rd := fun y x s2 => retO ((dGet s2 x y).map fun o => .bl (xor true o.isSome)) s2) (fun h1 h2 => PE.mono (pe_cmp (pc_dnotin (hu_un C) h1 h2) hm) fun _ _ _ h => h) ha hb ?_
    intro S0 S H0 H σ y x u v Q fr hr ry rx h
    have := din_hop hr rx ry h
    simpa using this
/-- .. as a test -/
theorem st_din {neg : Bool} (C : XC Γ Wx N sc k X) (ha : PE X ea (tR Γ Wx en env ra (pRepX Γ))) (hb : PE X eb (tR Γ Wx en env rb (pRepX Γ))) (hm : behindInMarks (if neg then .NotIn else .In) eb = false) :
    PT X (.Compare ea [if neg then .NotIn else .In] [eb] pos) (tR Γ Wx en env (fun s => tst true ((ra s).bind fun y s1 => (rb s1).bind fun x s2 => retO ((dGet s2 x y).map fun o => .bl (xor neg o.isSome)) s2)) pB) := by
  have key : ∀ {S : Sn} {H : Hp} {σ : L2.St} {x y : W} {v u : V} {Q : Bool → Hp → Prop}, HR Γ S H → RepX Γ S H x v → RepX Γ S H y u → RP Γ Wx σ S H (retO ((dGet S.S x y).map fun o => .bl (xor neg o.isSome)) S.S) (fun w S' H' => RP Γ Wx σ S' H' (retO ((tru S'.S w).map W.bl) S'.S) fun w S' H' => ∀ b, pB S H w b S' H' → Q b H') →
      ∃ a o, v = .ref a ∧ DGet H a u o ∧ Q (xor neg o.isSome) H := by
    intro S H σ x y v u Q hr rx ry h
    obtain ⟨w, e, q⟩ := h.retO hr
    obtain ⟨o, e1, rfl⟩ := Option.map_eq_some_iff.mp e
    obtain ⟨a, ov, rfl, g, m⟩ := dget_hop hr rx ry e1
    refine ⟨a, ov, rfl, g, ?_⟩
    have : ov.isSome = o.isSome := by
      cases o with
      | none => rw [show ov = none from m]; rfl
      | some w => obtain ⟨z, rfl, _⟩ := m; rfl
    rw [this]
    exact RP.done (a := W.bl _) q hr _ rfl
  cases neg with
  | false =>
    refine PT.mono (pt_cmp (pc_din (hu_un C) ha hb) hm) ?_
    rintro σ H Q ⟨S, hr, sl, h⟩
    refine ⟨S, hr, sl, RP.mono h.seq.seq fun y S1 H1 fr1 hr1 h1 u ru => ⟨S1, hr1, sl.mono hr fr1, RP.mono h1.seq fun x S2 H2 fr2 hr2 h2 v rv => ?_⟩⟩
    obtain ⟨a, o, e, g, q⟩ := key hr2 rv (ru.mono fr2) h2
    exact ⟨a, o, e, g, _, rfl, by simpa using q⟩
  | true =>
    refine PT.mono (pt_cmp (pc_dnotin (hu_un C) ha hb) hm) ?_
    rintro σ H Q ⟨S, hr, sl, h⟩
    refine ⟨S, hr, sl, RP.mono h.seq.seq fun y S1 H1 fr1 hr1 h1 u ru => ⟨S1, hr1, sl.mono hr fr1, RP.mono h1.seq fun x S2 H2 fr2 hr2 h2 v rv => ?_⟩⟩
    obtain ⟨a, o, e, g, q⟩ := key hr2 rv (ru.mono fr2) h2
    exact ⟨a, o, e, g, _, rfl, by simpa using q⟩
/-! ### made, stored -/
theorem se_dnew {t : Bool} : PE X (.Dict [] [] pos) (tR Γ Wx en env (fun s => .ok (.cell s.length) (s ++ [match t with | true => Cl.dT [] | false => Cl.dK []])) (pRep Γ)) := by
  have key : ∀ {c : Cl} {o : HO} {σ : L2.St} {H : Hp} {Q : VK} {S : Sn}, HR Γ S H → (∀ S' a H', S'.F a = none → H' a = some o → ClR Γ S' H' a c) →
      RP Γ Wx σ S H (R.ok (W.cell S.S.length) (S.S ++ [c])) (fun w S' H' => ∀ v, pRep Γ S H w v S' H' → Q v H') → ∀ p, H p = none → Q (.ref p) (upd H p o) := by
    intro c o σ H Q S hr hc h p hp
    have hr1 := hr.newO (o := o) hp
    have fr1 := hr.frNewO (o := o) hp
    have hf := hr.sub.none hp
    have ho := hr.offN hp
    refine h (S.add p c) (upd H p o) rfl (fr1.addC hp) (hr1.addC hf ho (hc _ _ _ hf upd_same)) _ ⟨?_, ?_⟩
    · show S.S.length < (S.S ++ [c]).length
      rw [List.length_append]; simp
    · rw [show (S.add p c).φ S.S.length = p from if_pos rfl]
  cases t with
  | true =>
    refine PE.mono pe_dnewT ?_
    rintro σ H Q ⟨S, hr, sl, h⟩
    exact key (c := .dT []) hr (fun S' a H' h1 h2 => ⟨h1, [], h2, rfl⟩) h
  | false =>
    refine PE.mono pe_dnewK ?_
    rintro σ H Q ⟨S, hr, sl, h⟩
    exact key (c := .dK []) hr (fun S' a H' h1 h2 => ⟨h1, [], h2, rfl⟩) h
theorem se_dn1 (C : XC Γ Wx N sc k X) (ha : PE X ea (tR Γ Wx en env ra (pRep Γ))) (hb : PE X eb (tR Γ Wx en env rb (pRep Γ))) :
    PE X (.Dict [some ea] [eb] pos) (tR Γ Wx en env (fun s => (ra s).bind fun y s1 => (rb s1).bind fun w s2 => vDn1 y w s2) (pRep Γ)) := by
  refine PE.mono (pe_disp1 (hu_un C) ha hb) ?_
  rintro σ H Q ⟨S, hr, sl, h⟩ p hp
  have hr0 := hr.newO (o := .dT []) hp
  have fr0 := hr.frNewO (o := .dT []) hp
  have hf0 := hr.sub.none hp
  have ho0 := hr.offN hp
  refine ⟨S, hr0, sl.mono hr fr0, RP.mono (h.seqB.shift fr0) fun y S1 H1 fr1 hr1 h1 u ru => ⟨S1, hr1, (sl.mono hr fr0).mono hr0 fr1, RP.mono (h1.seqB.shift (fr0.trans fr1)) fun w S2 H2 fr2 hr2 h2 v rv => ?_⟩⟩
  have f := fr1.trans fr2
  have hp2 := f.keep p _ upd_same ho0
  have hf2 := f.own p _ upd_same hf0 ho0
  have ho2 := f.off (x := p) upd_same ho0
  unfold vDn1 at h2
  cases q : keyT y with
  | none => rw [q] at h2; exact h2.elim
  | some ks =>
    rw [q] at h2
    cases y with
    | tup ws =>
      obtain ⟨b, rfl, hb⟩ := tup_key hr2 (RepX.of (fr2.rep ru)) (show intsOf ws = some ks from q)
      refine ⟨hp2, ks.map Sum.inl, b, rfl, hb, ?_⟩
      have hr3 : HR Γ S2 (upd H2 p (.dT [(ks.map Sum.inl, v)])) := hr2.wrt hf2 ho2
      have fr3 : Fr S H S2 (upd H2 p (.dT [(ks.map Sum.inl, v)])) := (fr0.trans f).wrt hp
      have rs : RepsS Γ (S2.add p (.dT [(ks, w)])) [w] [v] := Reps.mono (Sub.refl _) (by show _ ≤ (S2.S ++ [Cl.dT [(ks, w)]]).length; rw [List.length_append]; omega) (fun _ h => add_φ h) _ _ (Reps.cons rv Reps.nil)
      have hr4 := hr3.addC (c := .dT [(ks, w)]) hf2 ho2 ⟨hf2, [v], upd_same, rs⟩
      refine h2 (S2.add p (.dT [(ks, w)])) _ rfl (fr3.addC hp) hr4 _ ⟨?_, ?_⟩
      · show S2.S.length < (S2.S ++ [Cl.dT [(ks, w)]]).length
        rw [List.length_append]; simp
      · rw [show (S2.add p (.dT [(ks, w)])).φ S2.S.length = p from if_pos rfl]
    | _ => cases q
def fdPut : LI.Env → W → W → W → Sto → RS := fun env x y z s3 => match y with
    | .cell n => (match (s3[n]?).bind fun c => dPut c z x with
      | some c => .ok .nx env (s3.set n c)
      | none => .no)
    | _ => .no
variable {rd ro rk : LI.Env → Sto → R W}
/-- d[k] = e -/
theorem ss_dput {pos2 : Pos} (C : XC Γ Wx N sc k X) (hp : plainIx eb = true)
    (he : PE X e (tX Γ Wx en rd (pRep Γ))) (ho : PE X ea (tX Γ Wx en ro (pRep Γ))) (hk : PE X eb (tX Γ Wx en rk (pRep Γ))) (hs : swapsWith e (some (.Subscript ea eb pos)) pos2.line X.env = pure false) :
    PS X (.Assign [.Subscript ea eb pos] e pos2) (tS Γ Wx en fun env s => (rd env s).stm env fun x s1 => (ro env s1).stm env fun y s2 => (rk env s2).stm env fun z s3 => fdPut env x y z s3) := by
  refine PS.mono (ps_dput (hu_un C) ho hk he hs) ?_
  rintro D σ H ⟨S, env, fr, hr, sl, h⟩
  refine ⟨env, S, hr, sl, RP.mono (stm_seq sl hr fr h) fun w S1 H1 fr1 hr1 ⟨f1, sl1, h1⟩ v rv => ⟨env, S1, hr1, sl1, RP.mono (stm_seq sl1 hr1 f1 h1) fun y S2 H2 fr2 hr2 ⟨f2, sl2, h2⟩ u ru =>
    ⟨env, S2, hr2, sl2, RP.mono (stm_seq sl2 hr2 f2 h2) fun z S3 H3 fr3 hr3 ⟨f3, sl3, h3⟩ t rt => ?_⟩⟩⟩
  cases y with
  | cell n =>
    obtain ⟨_, rfl⟩ := fr3.rep ru
    have h3' : RPS Γ Wx en S3 (match (S3.S[n]?).bind fun c => dPut c z w with
      | some c => RS.ok .nx env (S3.S.set n c)
      | none => .no) D := h3
    cases e0 : S3.S[n]? with
    | none => rw [e0] at h3'; exact h3'.elim
    | some c =>
      rw [e0] at h3'
      change RPS Γ Wx en S3 (match dPut c z w with
        | some c => RS.ok .nx env (S3.S.set n c)
        | none => .no) D at h3'
      cases e1 : dPut c z w with
      | none => rw [e1] at h3'; exact h3'.elim
      | some c' =>
        rw [e1] at h3'
        have rv3 := fr3.rep (fr2.rep rv)
        cases c with
        | dK kvs =>
          obtain ⟨z1, vs, ha, r⟩ := hr3.cel n _ e0
          have hlive : S3.live n := ⟨_, e0, rfl⟩
          have e1' : (if okN (kvs.length + 1) then (keyK z).map (fun k => Cl.dK (ptD kvs k w)) else none) = some c' := e1
          split at e1'
          · rename_i hz
            obtain ⟨kk, ek, rfl⟩ := Option.map_eq_some_iff.mp e1'
            have key : t = kV kk := by
              unfold keyK at ek
              split at ek
              · cases ek; exact rt
              · cases ek; exact rt
              · cases ek
            subst key
            have hl := r.length
            rw [List.length_map] at hl
            obtain ⟨us, e2, r2⟩ := dict_put (g := (id : Int ⊕ Str → Key)) inl_inj rv3 kk r
            have ha' : H3 (S3.φ n) = some (.dK ((kvs.map fun p => id p.1).zip vs)) := ha
            have hz' := okN_le hz
            refine ⟨_, _, rfl, DPut.k ha' (by rw [List.length_zip, List.length_map]; omega), ?_⟩
            have ho' : ClR Γ (S3.put n (.dK (ptD kvs kk w))) (upd H3 (S3.φ n) (.dK (putK ((kvs.map fun p => id p.1).zip vs) kk v))) (S3.φ n) (.dK (ptD kvs kk w)) := ⟨z1, us, by rw [upd_same]; exact congrArg (fun l => some (HO.dK l)) e2, put_gr.reps r2⟩
            exact h3' (S3.put n (.dK (ptD kvs kk w))) _ σ rfl put_gr (f3.putC hlive rfl) (hr3.putC hlive rfl ho') (sl3.putC hr3 hlive rfl)
          · cases e1'
        | dT kvs =>
          obtain ⟨z1, vs, ha, r⟩ := hr3.cel n _ e0
          have hlive : S3.live n := ⟨_, e0, rfl⟩
          have e1' : (if okN (kvs.length + 1) then (keyT z).map (fun k => Cl.dT (ptD kvs k w)) else none) = some c' := e1
          split at e1'
          · rename_i hz
            obtain ⟨kk, ek, rfl⟩ := Option.map_eq_some_iff.mp e1'
            cases z with
            | tup ws =>
              obtain ⟨b, rfl, hb⟩ := tup_key hr3 (RepX.of rt) (show intsOf ws = some kk from ek)
              have hl := r.length
              rw [List.length_map] at hl
              obtain ⟨us, e2, r2⟩ := dict_put (g := fun ks : List Int => ks.map (Sum.inl : Int → Key)) tinl_inj rv3 kk r
              have hz' := okN_le hz
              refine ⟨_, _, rfl, DPut.t ha hb (by rw [List.length_zip, List.length_map]; omega), ?_⟩
              have ho' : ClR Γ (S3.put n (.dT (ptD kvs kk w))) (upd H3 (S3.φ n) (.dT (putK ((kvs.map fun p => p.1.map (Sum.inl : Int → Key)).zip vs) (kk.map Sum.inl) v))) (S3.φ n) (.dT (ptD kvs kk w)) := ⟨z1, us, by rw [upd_same]; exact congrArg (fun l => some (HO.dT l)) e2, put_gr.reps r2⟩
              exact h3' (S3.put n (.dT (ptD kvs kk w))) _ σ rfl put_gr (f3.putC hlive rfl) (hr3.putC hlive rfl ho') (sl3.putC hr3 hlive rfl)
            | _ => cases ek
          · cases e1'
        | _ => cases e1
  | _ => exact h3.elim
end
end LI
end
section
set_option Elab.async false
set_option linter.all false
set_option maxRecDepth 100000
set_option maxHeartbeats 4000000
/-! LiSrt: sorted of ints, of tuples of ints. -/
namespace LI
open PySem PySem.Spec PyProof.Rows L2
theorem lexL_refl : ∀ (a : List Int), lexL a a = true
  | [] => rfl
  | a :: r => by
    show (decide (a < a) || (decide (a = a) && lexL r r)) = true
    rw [lexL_refl r]; simp
theorem lexL_anti : ∀ {a b : List Int}, lexL a b = true → lexL b a = true → a = b
  | [], [], _, _ => rfl
  | [], _ :: _, _, h => by cases h
  | _ :: _, [], h, _ => by cases h
  | a :: r, b :: q, h, g => by
    unfold lexL at h g
    simp only [Bool.or_eq_true, Bool.and_eq_true, decide_eq_true_iff] at h g
    rcases h with h | ⟨rfl, h⟩
    · rcases g with g | ⟨e, g⟩ <;> omega
    · rcases g with g | ⟨_, g⟩
      · omega
      · rw [lexL_anti h g]
theorem lexL_tot : ∀ {a b : List Int}, lexL a b = false → lexL b a = true
  | [], _, h => by cases h
  | _ :: _, [], _ => rfl
  | a :: r, b :: q, h => by
    unfold lexL at h ⊢
    simp only [Bool.or_eq_false_iff, Bool.and_eq_false_iff, decide_eq_false_iff_not, Bool.or_eq_true, Bool.and_eq_true, decide_eq_true_iff] at h ⊢
    obtain ⟨h1, h2⟩ := h
    by_cases e : a = b
    · subst e
      rcases h2 with h2 | h2
      · exact absurd rfl h2
      · exact .inr ⟨rfl, lexL_tot h2⟩
    · exact .inl (by omega)
theorem lexL_trans : ∀ {a b c : List Int}, lexL a b = true → lexL b c = true → lexL a c = true
  | [], _, _, _, _ => rfl
  | _ :: _, [], _, h, _ => by cases h
  | _ :: _, _ :: _, [], _, h => by cases h
  | a :: r, b :: q, c :: p, h, g => by
    unfold lexL at h g ⊢
    simp only [Bool.or_eq_true, Bool.and_eq_true, decide_eq_true_iff] at h g ⊢
    rcases h with h | ⟨rfl, h⟩
    · rcases g with g | ⟨rfl, g⟩
      · exact .inl (by omega)
      · exact .inl h
    · rcases g with g | ⟨rfl, g⟩
      · exact .inl g
      · exact .inr ⟨rfl, lexL_trans h g⟩
theorem insT_perm {x : List Int} : ∀ {l : List (List Int)}, (insT x l).Perm (x :: l)
  | [] => List.Perm.refl _
  | y :: r => by
    unfold insT
    split
    · exact List.Perm.refl _
    · exact ((insT_perm (x := x) (l := r)).cons y).trans (List.Perm.swap x y r)
theorem sortT_perm : ∀ {l : List (List Int)}, (sortT l).Perm l
  | [] => List.Perm.refl _
  | x :: r => insT_perm.trans ((sortT_perm (l := r)).cons x)
theorem insT_srt {x : List Int} : ∀ {l : List (List Int)}, l.Pairwise (fun a b => lexL a b = true) → (insT x l).Pairwise (fun a b => lexL a b = true)
  | [], _ => List.pairwise_singleton _ _
  | y :: r, h => by
    obtain ⟨h1, h2⟩ := List.pairwise_cons.mp h
    unfold insT
    split
    · rename_i e
      refine List.pairwise_cons.mpr ⟨fun z hz => ?_, h⟩
      rcases List.mem_cons.mp hz with rfl | hz
      · exact e
      · exact lexL_trans e (h1 z hz)
    · rename_i e
      refine List.pairwise_cons.mpr ⟨fun z hz => ?_, insT_srt h2⟩
      rcases List.mem_cons.mp (insT_perm.mem_iff.mp hz) with rfl | hz
      · exact lexL_tot (by simpa using e)
      · exact h1 z hz
theorem sortT_srt : ∀ {l : List (List Int)}, (sortT l).Pairwise (fun a b => lexL a b = true)
  | [] => List.Pairwise.nil
  | x :: r => insT_srt sortT_srt
/-- sorted in one way only -/
theorem srt_uniq {α : Type} {le : α → α → Prop} (anti : ∀ a b, le a b → le b a → a = b) (rf : ∀ a, le a a) : ∀ {l m : List α}, l.Perm m → l.Pairwise le → m.Pairwise le → l = m
  | [], m, p, _, _ => by rw [List.nil_perm.mp p]
  | x :: l, [], p, _, _ => by have := p.length_eq; simp at this
  | x :: l, y :: m, p, h, g => by
    obtain ⟨h1, h2⟩ := List.pairwise_cons.mp h
    obtain ⟨g1, g2⟩ := List.pairwise_cons.mp g
    have e : x = y := by
      rcases List.mem_cons.mp (p.mem_iff.mp (List.mem_cons_self ..)) with e | hx
      · exact e
      · rcases List.mem_cons.mp (p.mem_iff.mpr (List.mem_cons_self ..)) with e | hy
        · exact e.symm
        · exact anti _ _ (h1 y hy) (g1 x hx)
    subst e
    rw [srt_uniq anti rf (List.Perm.cons_inv p) h2 g2]
theorem insI_perm {x : Int} : ∀ {l : List Int}, (insI x l).Perm (x :: l)
  | [] => List.Perm.refl _
  | y :: r => by
    unfold insI
    split
    · exact List.Perm.refl _
    · exact ((insI_perm (x := x) (l := r)).cons y).trans (List.Perm.swap x y r)
theorem sortI_perm : ∀ {l : List Int}, (sortI l).Perm l
  | [] => List.Perm.refl _
  | x :: r => insI_perm.trans ((sortI_perm (l := r)).cons x)
theorem insI_srt {x : Int} : ∀ {l : List Int}, l.Pairwise (· ≤ ·) → (insI x l).Pairwise (· ≤ ·)
  | [], _ => List.pairwise_singleton _ _
  | y :: r, h => by
    obtain ⟨h1, h2⟩ := List.pairwise_cons.mp h
    unfold insI
    split
    · rename_i e
      refine List.pairwise_cons.mpr ⟨fun z hz => ?_, h⟩
      rcases List.mem_cons.mp hz with rfl | hz
      · exact e
      · exact Int.le_trans e (h1 z hz)
    · rename_i e
      refine List.pairwise_cons.mpr ⟨fun z hz => ?_, insI_srt h2⟩
      rcases List.mem_cons.mp (insI_perm.mem_iff.mp hz) with rfl | hz
      · omega
      · exact h1 z hz
theorem sortI_srt : ∀ {l : List Int}, (sortI l).Pairwise (· ≤ ·)
  | [] => List.Pairwise.nil
  | x :: r => insI_srt sortI_srt
theorem code_lex {B : Int} : ∀ {a b : List Int}, a.length = b.length → TS.Bd B a → TS.Bd B b → TS.code B a ≤ TS.code B b → lexL a b = true
  | [], _, _, _, _, _ => rfl
  | _ :: _, [], h, _, _, _ => by simp at h
  | x :: a, y :: b, hl, ha, hb, h => by
    have hl' : a.length = b.length := by simpa using hl
    unfold lexL
    simp only [Bool.or_eq_true, Bool.and_eq_true, decide_eq_true_iff]
    rcases Int.lt_trichotomy x y with c | c | c
    · exact .inl c
    · subst c
      refine .inr ⟨rfl, code_lex hl' ha.tail hb.tail ?_⟩
      have := TS.code_same (B := B) (d := x) hl'.symm
      have := (TS.code_same (B := B) (d := x) hl'.symm).mpr
      refine Classical.byContradiction fun z => ?_
      have := this (by omega)
      omega
    · have := TS.code_lt hl'.symm hb.tail ha.tail c
      omega
/-! ### the built-in -/
def vInt : V → Int
  | .int i => i
  | _ => 0
/-- what a tuple of ints holds -/
def tupV (H : Hp) : V → List Int
  | .ref b => (match H b with
    | some (.tup l) => l.map vInt
    | _ => [])
  | _ => []
theorem tupsOf_eq : ∀ {ws : List W} {ks : List (List Int)}, tupsOf ws = some ks → ws = ks.map fun k => .tup (k.map .int)
  | [], _, h => by cases h; rfl
  | w :: r, ks, h => by
    cases w with
    | tup us =>
      have h' : ((intsOf us).bind fun k => (tupsOf r).map (k :: ·)) = some ks := h
      obtain ⟨k, e1, h'⟩ := Option.bind_eq_some_iff.mp h'
      obtain ⟨q, e2, rfl⟩ := Option.map_eq_some_iff.mp h'
      rw [intsOf_eq e1, tupsOf_eq e2]
      rfl
    | _ => cases h
section
variable {Γ : Ctx} {X : Cx} {S : Sn} {H : Hp}
theorem tup_one {k : List Int} {v : V} (hr : HR Γ S H) (r : RepS Γ S (.tup (k.map .int)) v) : (∃ b, v = .ref b ∧ H b = some (.tup (k.map V.int))) ∧ tupV H v = k := by
  obtain ⟨b, rfl, hb⟩ := tup_key hr (RepX.of r) (show intsOf (k.map W.int) = some k by
    induction k with
    | nil => rfl
    | cons x k ih =>
      show (intsOf (k.map W.int)).map (x :: ·) = _
      have : ∀ l : List Int, intsOf (l.map W.int) = some l := by
        intro l
        induction l with
        | nil => rfl
        | cons y l ih => show (intsOf (l.map W.int)).map (y :: ·) = _; rw [ih]; rfl
      rw [this]; rfl)
  have e : (k.map (Sum.inl : Int → Key)).map kV = k.map V.int := by rw [List.map_map]; rfl
  rw [e] at hb
  refine ⟨⟨b, rfl, hb⟩, ?_⟩
  show (match H b with
    | some (.tup l) => l.map vInt
    | _ => []) = k
  rw [hb]
  show (k.map V.int).map vInt = k
  rw [List.map_map]
  have : (vInt ∘ V.int) = id := rfl
  rw [this, List.map_id]
theorem tup_all (hr : HR Γ S H) : ∀ {ks : List (List Int)} {vs : List V}, RepsS Γ S (ks.map fun k => .tup (k.map .int)) vs → vs.map (tupV H) = ks ∧ ∀ v ∈ vs, tupV H v ∈ ks ∧ RepS Γ S (.tup ((tupV H v).map .int)) v ∧ ∃ b, v = .ref b ∧ H b = some (.tup ((tupV H v).map V.int))
  | [], vs, h => by
    cases (show vs = [] from h)
    exact ⟨rfl, fun v hv => by cases hv⟩
  | k :: ks, vs, ⟨v, r, e, h1, h2⟩ => by
    subst e
    obtain ⟨⟨b, e1, e2⟩, e3⟩ := tup_one hr h1
    obtain ⟨i1, i2⟩ := tup_all hr h2
    refine ⟨by rw [List.map_cons, e3, i1], fun u hu => ?_⟩
    rcases List.mem_cons.mp hu with rfl | hu
    · rw [e3]
      exact ⟨List.mem_cons_self .., h1, b, e1, e2⟩
    · obtain ⟨j1, j2⟩ := i2 u hu
      exact ⟨List.mem_cons_of_mem _ j1, j2⟩
theorem tup_reps : ∀ {ys : List V}, (∀ v ∈ ys, RepS Γ S (.tup ((tupV H v).map .int)) v) → RepsS Γ S ((ys.map (tupV H)).map fun k => .tup (k.map .int)) ys
  | [], _ => Reps.nil
  | y :: ys, h => Reps.cons (h y (List.mem_cons_self ..)) (tup_reps fun v hv => h v (List.mem_cons_of_mem _ hv))
theorem bi_sorted (eK : X.K = Γ.K) : CallR X (.builtin "sorted") (rBi Γ .sorted) := by
  rintro pins s σ H vs us Q I r ⟨Wx, σ2, S0, S, H0, ws, fr, hr, pr, h⟩
  change RP Γ Wx σ2 S H (biSorted ws S.S) _ at h
  unfold biSorted at h
  split at h
  · rename_i w
    obtain ⟨v, rfl, rx⟩ := pairX1 pr
    cases e : lstOf S.S w with
    | none => rw [e] at h; exact h.elim
    | some xs =>
      rw [e] at h
      have ed : drf S.S w = .lst xs := by
        cases w with
        | lst ys => cases e; rfl
        | cell n =>
          show (match S.S[n]? with | some (.lst xs) => W.lst xs | _ => .cell n) = _
          have e' : (match S.S[n]? with | some (.lst xs) => some xs | _ => none) = some xs := e
          cases q : S.S[n]? with
          | none => rw [q] at e'; cases e'
          | some c => rw [q] at e'; cases c <;> first | (cases e'; rfl) | cases e'
        | _ => cases e
      obtain ⟨a, vs, rfl, h1, rs⟩ := lst_view hr rx ed
      change RP Γ Wx σ2 S H (retO ((vSort xs).map W.lst) S.S) _ at h
      unfold vSort at h
      cases e1 : intsOf xs with
      | some ns =>
        rw [e1] at h
        rw [intsOf_eq e1] at rs
        have ev := Reps.ints_inv rs
        subst ev
        refine cr_sortedI pins s σ H _ us Q I r ⟨a, ns, rfl, eK ▸ SqL.of h1, fun ns' p hp hs hn => ?_⟩
        have en : ns' = sortI ns := srt_uniq (le := (· ≤ ·)) (fun a b h g => Int.le_antisymm h g) (fun a => Int.le_refl a) (hp.trans sortI_perm.symm) hs sortI_srt
        subst en
        exact lay_lst fr hr (Reps.ints ..) h p hn
      | none =>
        rw [e1] at h
        cases e2 : tupsOf xs with
        | none => rw [e2] at h; exact h.elim
        | some ks =>
          rw [e2] at h
          change RP Γ Wx σ2 S H (retO ((if okT ks = true then some ((sortT ks).map fun k => W.tup (k.map .int)) else none).map W.lst) S.S) _ at h
          cases e3 : okT ks with
          | false => rw [e3, if_neg (by decide)] at h; exact h.elim
          | true =>
            rw [e3, if_pos rfl] at h
            rw [tupsOf_eq e2] at rs
            obtain ⟨q1, q2⟩ := tup_all hr rs
            cases ks with
            | nil =>
              rw [tupsOf_eq e2] at e1
              cases e1
            | cons k0 ks =>
              have e3' : (decide (ks.length < 63) && (decide (1 ≤ k0.length) && (k0 :: ks).all fun q => decide (q.length = k0.length) && q.all fun x => decide (0 ≤ x) && decide (x < 1000))) = true := e3
              simp only [Bool.and_eq_true, decide_eq_true_iff, List.all_eq_true] at e3'
              obtain ⟨o1, o2, o3⟩ := e3'
              have hlen : vs.length = ks.length + 1 := by rw [← List.length_map (f := tupV H), q1]; rfl
              have okB : ∀ k ∈ k0 :: ks, k.length = k0.length ∧ TS.Bd 1000 k := fun k hk => ⟨(o3 k hk).1, fun m hm => (o3 k hk).2 m hm⟩
              refine cr_sortT (d := k0.length) (B := 1000) o2 pins s σ H _ us Q I r ⟨a, vs, rfl, eK ▸ SqL.of h1, by omega, fun x hx => ?_, fun ys p hp hs hn => ?_⟩
              · obtain ⟨m1, m2, b, m3, m4⟩ := q2 x hx
                exact ⟨_, ⟨b, m3, eK ▸ SqT.of m4⟩, (okB _ m1).1, (okB _ m1).2⟩
              · have hy : ∀ v ∈ ys, v ∈ vs := fun v hv => hp.mem_iff.mp hv
                have es : ys.map (tupV H) = sortT (k0 :: ks) := by
                  refine srt_uniq (le := fun a b => lexL a b = true) (fun a b h g => lexL_anti h g) lexL_refl ?_ ?_ sortT_srt
                  · have := hp.map (tupV H)
                    rw [q1] at this
                    exact this.trans sortT_perm.symm
                  · rw [List.pairwise_map]
                    refine List.Pairwise.imp_of_mem (fun {x y} hx hy' hc => ?_) hs
                    obtain ⟨m1, m2, b, m3, m4⟩ := q2 x (hy x hx)
                    obtain ⟨n1, n2, c, n3, n4⟩ := q2 y (hy y hy')
                    exact code_lex ((okB _ m1).1.trans (okB _ n1).1.symm) (okB _ m1).2 (okB _ n1).2 (hc _ _ ⟨b, m3, eK ▸ SqT.of m4⟩ ⟨c, n3, eK ▸ SqT.of n4⟩)
                have rr := tup_reps (Γ := Γ) (S := S) (H := H) (ys := ys) fun v hv => (q2 v (hy v hv)).2.1
                rw [es] at rr
                exact lay_lst fr hr rr h p hn
  · exact h.elim
end
def biV2 : Bi → Option (Str × Value)
  | .sorted => some ("sorted", .builtin "sorted")
  | b => biV b
section
variable {Γ : Ctx} {Wx : WX} {N : List Str} {sc : Scope} {k : Nat} {X : Cx} {en : En} {env : LI.Env} {e : Expr} {es : List Expr} {p pos : Pos} {rs : Sto → R (List W)}
theorem se_bi2 {b : Bi} {x : Str} {f : Value} (C : XC Γ Wx N sc k X) (hc : X.calm = true) (hv : biV2 b = some (x, f)) (hx : Free Γ sc x) (hp : (e :: es).all plainA = true) (hs : PA X (e :: es) (tR Γ Wx en env rs (pRepsX Γ))) :
    PE X (.Call (.Name x p) (e :: es) [] pos) (tR Γ Wx en env (fun s => (rs s).bind fun ws s1 => evBi b ws s1) (pN Γ)) := by
  cases b <;> first | exact se_bi C hc hv hx hp hs | skip
  cases hv
  have hp' := hp
  rw [List.all_cons, Bool.and_eq_true] at hp'
  exact bi_step (f := .builtin "sorted") (bi_sorted C.eK) (he := fun h => pe_callB (bi_sorted C.eK) (hx.gl C) (hx.mg C) (by decide +kernel) h (by decide) (by decide) (starEach_ok hp'.1) (backTo_plain hp'.2)) hs
end
end LI
end
section
set_option Elab.async false
set_option linter.all false
set_option maxRecDepth 100000
set_option maxHeartbeats 4000000
/-! LiBind: the parameters of a plain def. -/
namespace LI
open PySem PySem.Spec PyProof.Rows L2

theorem lookup_zip : ∀ {ps : List Str} {us : List Value} {i : Nat} {x : Str}, ps.Nodup → us.length = ps.length → ps[i]? = some x → (ps.zip us).lookup x = us[i]?
  | [], _, _, _, _, _, h => by simp at h
  | p :: ps, [], _, _, _, h, _ => by simp at h
  | p :: ps, u :: us, 0, x, nd, hl, h => by
    simp at h; subst h
    simp [List.lookup]
  | p :: ps, u :: us, i + 1, x, nd, hl, h => by
    have h' : ps[i]? = some x := by simpa using h
    have ne : (x == p) = false := by
      rw [beq_eq_false_iff_ne]
      intro z
      subst z
      exact (List.nodup_cons.mp nd).1 (List.mem_of_getElem? h')
    show ((p, u) :: ps.zip us).lookup x = _
    rw [List.lookup, ne]
    simpa using lookup_zip (List.nodup_cons.mp nd).2 (Nat.succ.inj hl) h'
theorem lookup_some {ps : List Str} {us : List Value} {x : Str} (nd : ps.Nodup) (hl : us.length = ps.length) (h : x ∈ ps) : ∃ u, (ps.zip us).lookup x = some u := by
  obtain ⟨i, hi, e⟩ := List.mem_iff_getElem.mp h
  rw [lookup_zip nd hl (i := i) (by rw [List.getElem?_eq_getElem hi, e])]
  exact ⟨us[i], by simp [hl, hi]⟩
theorem filterMap_zip : ∀ {ps : List Str} {us : List Value}, ps.Nodup → us.length = ps.length → ∀ (f : Str → Option Value), (∀ (i : Nat) (x : Str), ps[i]? = some x → f x = us[i]?) → ps.filterMap (fun n => (f n).map (n, ·)) = ps.zip us
  | [], _, _, _, _, _ => rfl
  | p :: ps, [], _, h, _, _ => by simp at h
  | p :: ps, u :: us, nd, hl, f, hf => by
    have h0 : f p = some u := hf 0 p rfl
    rw [List.filterMap_cons, h0]
    show (p, u) :: _ = (p, u) :: ps.zip us
    rw [filterMap_zip (List.nodup_cons.mp nd).2 (Nat.succ.inj hl) f fun i x e => hf (i + 1) x (by simpa using e)]
theorem bind_plain {fd : FuncData} {us : List Value} {as : List Arg} (hp : fd.params = ⟨[], as, none, [], [], none, []⟩) (hd : fd.defaults = .none) (nd : (as.map (·.arg)).Nodup) (hl : us.length = (as.map (·.arg)).length) : bindArgs fd ⟨us, []⟩ = pure ((as.map (·.arg)).zip us) := by
  have hmiss : ((as.map (·.arg)).filter fun n => (((as.map (·.arg)).zip us).lookup n).isNone) = [] := by
    rw [List.filter_eq_nil_iff]
    intro x hx
    obtain ⟨u, e⟩ := lookup_some nd hl hx
    rw [e]
    simp
  have hfm : (as.map (·.arg)).filterMap (fun n => (((as.map (·.arg)).zip us).lookup n).map (n, ·)) = (as.map (·.arg)).zip us := filterMap_zip nd hl _ fun i x e => lookup_zip nd hl e
  have hgt : ¬ us.length > (as.map (·.arg)).length := by omega
  unfold bindArgs
  rw [hp, hd]
  have hs : seqItems? Value.none = pure none := rfl
  rw [hs]
  simp only [List.map_nil, List.nil_append, List.append_nil, List.forIn_nil, pure_bind, Option.getD, Array.toList, List.length_nil, Nat.zero_sub, List.drop_nil, Nat.sub_zero, List.take_length, List.zip_nil_right]
  rw [if_neg (by rw [decide_eq_false hgt]; simp)]
  simp only [hmiss, hfm, List.isEmpty_nil, Bool.not_true, Bool.false_eq_true, if_false]
end LI
end
section
set_option Elab.async false
set_option linter.all false
set_option maxRecDepth 100000
set_option maxHeartbeats 4000000
/-! LiKw: a keyword-only parameter; properties; calls of own objects. -/
namespace LI
open PySem PySem.Spec PyProof.Rows L2

theorem zip_app {α β : Type} : ∀ {l : List α} {r : List β} {a : α} {b : β}, l.length = r.length → (l ++ [a]).zip (r ++ [b]) = l.zip r ++ [(a, b)]
  | [], [], _, _, _ => rfl
  | x :: l, y :: r, _, _, h => by
    show (x, y) :: (l ++ [_]).zip (r ++ [_]) = (x, y) :: (l.zip r ++ [_])
    rw [zip_app (Nat.succ.inj h)]
  | [], _ :: _, _, _, h => by cases h
  | _ :: _, [], _, _, h => by cases h
theorem filter_none {ps : List Str} {sl : List (Str × Value)} (h : ∀ x ∈ ps, ∃ u, sl.lookup x = some u) : (ps.filter fun n => (sl.lookup n).isNone) = [] := by
  rw [List.filter_eq_nil_iff]
  intro x hx
  obtain ⟨u, e⟩ := h x hx
  rw [e]
  simp
/-- f(.., k = v) -/
theorem bind_kw {fd : FuncData} {us : List Value} {as : List Arg} {ka : Arg} {kds : List (Option Expr)} {v : Value} (hp : fd.params = ⟨[], as, none, [ka], kds, none, []⟩) (hd : fd.defaults = .none) (nd : (as.map (·.arg) ++ [ka.arg]).Nodup) (hl : us.length = (as.map (·.arg)).length) :
    bindArgs fd ⟨us, [(ka.arg, v)]⟩ = pure ((as.map (·.arg) ++ [ka.arg]).zip (us ++ [v])) := by
  have hz : (as.map (·.arg)).zip us ++ [(ka.arg, v)] = (as.map (·.arg) ++ [ka.arg]).zip (us ++ [v]) := (zip_app hl.symm).symm
  have hl2 : (us ++ [v]).length = (as.map (·.arg) ++ [ka.arg]).length := by rw [List.length_append, List.length_append, hl]; rfl
  have ndA : (as.map (·.arg)).Nodup := (List.nodup_append.mp nd).1
  have hk0 : ((as.map (·.arg)).zip us).lookup ka.arg = none := by
    cases e : ((as.map (·.arg)).zip us).lookup ka.arg with
    | none => rfl
    | some u =>
      have hm := (List.of_mem_zip (PySem.mem_of_lookup e)).1
      exact absurd rfl ((List.nodup_append.mp nd).2.2 _ hm _ (List.mem_singleton.mpr rfl))
  have hin : ∀ x ∈ as.map (·.arg) ++ [ka.arg], ∃ u, ((as.map (·.arg) ++ [ka.arg]).zip (us ++ [v])).lookup x = some u := fun x hx => lookup_some nd hl2 hx
  have hmiss : ((as.map (·.arg)).filter fun n => (((as.map (·.arg) ++ [ka.arg]).zip (us ++ [v])).lookup n).isNone) = [] := filter_none fun x hx => hin x (List.mem_append_left _ hx)
  have hkk : (((as.map (·.arg) ++ [ka.arg]).zip (us ++ [v])).lookup ka.arg).isNone = false := by
    obtain ⟨u, e⟩ := hin ka.arg (List.mem_append_right _ (List.mem_singleton.mpr rfl))
    rw [e]; rfl
  have hfm : (as.map (·.arg) ++ [ka.arg]).filterMap (fun n => (((as.map (·.arg) ++ [ka.arg]).zip (us ++ [v])).lookup n).map (n, ·)) = (as.map (·.arg) ++ [ka.arg]).zip (us ++ [v]) := filterMap_zip nd hl2 _ fun i x e => lookup_zip nd hl2 e
  have hgt : ¬ us.length > (as.map (·.arg)).length := by omega
  have hc : ((as.map (·.arg)).contains ka.arg || [ka.arg].contains ka.arg) = true := by simp
  unfold bindArgs
  rw [hp, hd]
  have hs : seqItems? Value.none = pure none := rfl
  rw [hs]
  simp only [List.map_nil, List.nil_append, List.map_cons, List.forIn_cons, List.forIn_nil, pure_bind, bind_assoc, Option.getD, List.length_nil, Nat.zero_sub, List.drop_nil, Nat.sub_zero, List.take_length, List.zip_nil_right, hc, hk0, if_true, Option.isSome_none, Bool.false_eq_true, if_false, hz]
  rw [if_neg (by rw [decide_eq_false hgt]; simp)]
  simp only [hmiss, hkk, hfm, List.isEmpty_nil, Bool.not_true, Bool.false_eq_true, if_false, pure_bind]
/-- f(..), the keyword's default -/
theorem bind_kd {fd : FuncData} {us : List Value} {as : List Arg} {ka : Arg} {kds : List (Option Expr)} {u : Value} {A : Addr} (hp : fd.params = ⟨[], as, none, [ka], kds, none, []⟩) (hd : fd.defaults = .none) (hkd : fd.kwdefaults = .ref A) (nd : (as.map (·.arg) ++ [ka.arg]).Nodup) (hl : us.length = (as.map (·.arg)).length) :
    KwChain A [(ka.arg, u)] (bindArgs fd ⟨us, []⟩) ((as.map (·.arg) ++ [ka.arg]).zip (us ++ [u])) := by
  have hz : (as.map (·.arg)).zip us ++ [(ka.arg, u)] = (as.map (·.arg) ++ [ka.arg]).zip (us ++ [u]) := (zip_app hl.symm).symm
  have hl2 : (us ++ [u]).length = (as.map (·.arg) ++ [ka.arg]).length := by rw [List.length_append, List.length_append, hl]; rfl
  have ndA : (as.map (·.arg)).Nodup := (List.nodup_append.mp nd).1
  have hk0 : ((as.map (·.arg)).zip us).lookup ka.arg = none := by
    cases e : ((as.map (·.arg)).zip us).lookup ka.arg with
    | none => rfl
    | some u =>
      have hm := (List.of_mem_zip (PySem.mem_of_lookup e)).1
      exact absurd rfl ((List.nodup_append.mp nd).2.2 _ hm _ (List.mem_singleton.mpr rfl))
  have hmiss : ((as.map (·.arg)).filter fun n => (((as.map (·.arg)).zip us).lookup n).isNone) = [] := filter_none fun x hx => lookup_some ndA hl hx
  have hfm : (as.map (·.arg) ++ [ka.arg]).filterMap (fun n => (((as.map (·.arg) ++ [ka.arg]).zip (us ++ [u])).lookup n).map (n, ·)) = (as.map (·.arg) ++ [ka.arg]).zip (us ++ [u]) := filterMap_zip nd hl2 _ fun i x e => lookup_zip nd hl2 e
  have hgt : ¬ us.length > (as.map (·.arg)).length := by omega
  unfold bindArgs
  rw [hp, hd, hkd]
  have hs : seqItems? Value.none = pure none := rfl
  rw [hs]
  simp only [List.map_nil, List.nil_append, List.map_cons, List.forIn_cons, List.forIn_nil, pure_bind, Option.getD, List.length_nil, Nat.zero_sub, List.drop_nil, Nat.sub_zero, List.take_length, List.zip_nil_right]
  rw [if_neg (by rw [decide_eq_false hgt]; simp)]
  simp only [hmiss, hk0, List.isEmpty_nil, Bool.not_true, Bool.false_eq_true, if_false, Option.isNone_none, if_true, pure_bind]
  refine ⟨_, _, _, _, _, _, rfl, rfl, ?_⟩
  show _ = pure _
  simp only [pure_bind, hz, hfm, List.isEmpty_nil, Bool.not_true, Bool.false_eq_true, if_false]

/-! ### what the text gives -/
structure Fk (Γ : Ctx) (D : Pd) : Prop where
  bk : ∀ f d x, Γ.T.fn f = some d → D.kn f = some x → KBn Γ.K (D.fd f) (D.ps f) ((D.ps f).length - 1) [x] (fun us ws => us ++ ws) (fun vs zs => vs ++ zs)
  bd : ∀ f d x, Γ.T.fn f = some d → D.kn f = some x → D.kd f = true → Binds Γ.K (D.fd f) (D.ps f) [.none]
  prop : ∀ c m f, m < 1000 → Γ.T.meth c (m + 1000) = some f → Cls Γ.K (Γ.ca c) ∧ (∃ p, PropOf Γ.K (Γ.ca c) (Γ.nm m) p (D.fa f)) ∧ D.kn f = none ∧ ∃ d, Γ.T.fn f = some d
  cal : ∀ c f, Γ.T.meth c 5000 = some f → Cls Γ.K (Γ.ca c) ∧ Meth Γ.K (Γ.ca c) "__call__" (D.fa f) ∧ PySem.W.fnIn Γ.K (D.fa f) = true ∧ D.kn f = none ∧ ∃ d, Γ.T.fn f = some d
section
variable {Γ : Ctx} {D : Pd} {en : En} {S S1 S2 : Sn} {H H1 H2 : Hp} {env : LI.Env} {σ : L2.St} {Wx : WX}
variable {N : List Str} {sc : Scope} {k : Nat} {X : Cx} {ea eb : Expr} {pos p apos : Pos} {ra rb : Sto → R W} {e : Expr} {es : List Expr} {rs : Sto → R (List W)}
variable {cf : Call} {ci : CallI} {j : Nat}

/-! ### f(.., k = v) -/
theorem run_kwS {f : Addr} {fd : FuncData} {ps : List Str} {sp : Sp} {CX : CXT} {E : L2.St → XK} {x : Str} {pins : List (Addr × Obj)} {s : Shared} {Q : VK} {us : List Value} {u : Value} {vs : List V} {v : V} (F : FnOk X.prog X.w X.K X.mg X.base CX k f fd ps sp) (hr : Room k X.A)
    (hb : KBn X.K fd ps (ps.length - 1) [x] (fun us ws => us ++ ws) (fun vs zs => vs ++ zs)) (hx : PassesAt CX X σ (E σ)) (I : Inv X pins σ H s) (r : Vals vs us) (ru : RelV v u) (h : sp (vs ++ [v]) H Q (E σ)) :
    wpAny (model X.prog X.w) X.A (call (.ref f) us [(x, u)]) (EP X pins σ Q) X.xe s := by
  have r1 : Vals [v] [u] := .cons ru .nil
  have r2 : Vals (vs ++ [v]) (us ++ [u]) := r.append r1
  have hl := F.len _ _ _ _ h
  have hu : us.length = ps.length - 1 := by rw [List.length_append] at hl; have := r.length; simp at hl; omega
  refine wpAny_call (codeAny_mono (F.run X.A X.stack s H ⟨us, [(x, u)]⟩ (us ++ [u]) (vs ++ [v]) Q (E σ) hr I.env0 (hb.to s us [u] I.kIn hu rfl) r2 h) fun r s' hq => ?_)
  cases r with
  | error e => exact hx pins H s e s' I hq
  | ok fl =>
    cases fl with
    | ret u => exact I.after hq
    | next => exact False.elim hq
    | brk => exact False.elim hq
    | cont => exact False.elim hq
/-- the written arguments and the keyword's, then the call -/
theorem kw_args {g : Value} {first : List Value} {x : Str} {kpos : Pos} {e0 : Expr} {kk : W → Sn → Hp → Prop} {kf : List W → W → Sto → R W} {pins : List (Addr × Obj)} {s : Shared} {Q : Value → Shared → Prop}
    (hp : (e0 :: es).all plainA = true) (hs : PA X (e0 :: es) (tR Γ Wx en env rs (pReps Γ))) (ha : PE X ea (tR Γ Wx en env ra (pRep Γ))) (I : Inv X pins σ H s) (hk : PySem.W.keepIn X.K g = true)
    (hr : HR Γ S H) (sl : SlR Γ en S H env σ) (h : RP Γ Wx σ S H ((rs S.S).bind fun ws s1 => (ra s1).bind fun w s2 => kf ws w s2) kk)
    (hc : ∀ us u s2 ws w S2 H2 vs v, Inv X pins σ H2 s2 → Vals vs us → RelV v u → HR Γ S2 H2 → Fr S H S2 H2 → RepsS Γ S2 ws vs → RepS Γ S2 w v → RP Γ Wx σ S2 H2 (kf ws w S2.S) kk → wpAny (model X.prog X.w) X.A (call g (first ++ us) [(x, u)]) Q X.xe s2) :
    wpAny (model X.prog X.w) X.A (callWith pos g first (backTo pos (starEach (e0 :: es) X.env)) (backToKw pos (keywordEach [⟨some x, ea, kpos⟩] X.env))) Q X.xe s := by
  rw [List.all_cons, Bool.and_eq_true] at hp
  have hkw : PK X [⟨some x, ea, kpos⟩] (tCons (tR Γ Wx en env ra (pRep Γ)) tNil) := pk_cons ha pk_nil
  have hpl := backTo_plain (pos := pos) (env := X.env) hp.2
  refine PySem.W.callWith_KW (first := first) (h₀ := X.base) I.ok.mod.kin hk rfl (thn (hs.run pos pins s σ H (fun vs H1 => ∃ S1 ws, HR Γ S1 H1 ∧ Fr S H S1 H1 ∧ SlR Γ en S1 H1 env σ ∧ RepsS Γ S1 ws vs ∧ RP Γ Wx σ S1 H1 ((ra S1.S).bind fun w s2 => kf ws w s2) kk) I
    ⟨S, hr, sl, RP.mono h.seq fun ws S1 H1 fr1 hr1 h1 vs r1 => ⟨S1, ws, hr1, fr1, sl.mono hr fr1, r1, h1⟩⟩) fun us s1 ⟨vs, H1, I1, r, S1, ws, hr1, fr1, sl1, r1, h1⟩ => ?_) ?_ (starEach_ok hp.1)
  · refine thn (hkw.run pos pins s1 σ H1 (fun zs H2 => ∃ S2 w v, zs = [v] ∧ HR Γ S2 H2 ∧ Fr S1 H1 S2 H2 ∧ RepS Γ S2 w v ∧ RP Γ Wx σ S2 H2 (kf ws w S2.S) kk) I1
      ⟨S1, hr1, sl1, RP.mono h1.seq fun w S2 H2 fr2 hr2 h2 v rv => ⟨S2, w, v, rfl, hr2, fr2, rv, h2⟩⟩) fun ks s2 ⟨zs, H2, I2, rz, q⟩ => ?_
    obtain ⟨S2, w, v, rfl, hr2, fr2, rv, h2⟩ := q
    refine ⟨I2.kIn, ?_⟩
    cases rz with
    | cons ru rn =>
      cases rn
      exact hc us _ s2 ws w S2 H2 vs v I2 r ru hr2 (fr1.trans fr2) (fr2.reps r1) rv h2
  · rw [starEach_ok hp.1]
    show ((false || (backTo pos (starEach es X.env)).any (·.1)) || _) = false
    rw [hpl]
    rfl
theorem se_kcall {f : Nat} {d : FD} {x kn : Str} {kpos : Pos} {e0 : Expr} (C : XC Γ Wx N sc k X) (hc : X.calm = true) (F : Fk Γ D) (L : Lv Γ D j cf ci) (hj : j ≤ k) (e : Γ.T.fn f = some d) (hkn : D.kn f = some kn) (hg : sc.names.lookup x = some .globalImplicit) (hm : Γ.mg x = some (.ref (D.fa f))) (hk : PySem.W.keepIn Γ.K (.ref (D.fa f)) = true)
    (hd : (x == ("__debug__" : Str)) = false) (hp : (e0 :: es).all plainA = true) (hs : PA X (e0 :: es) (tR Γ Wx en env rs (pReps Γ))) (ha : PE X ea (tR Γ Wx en env ra (pRep Γ))) :
    PE X (.Call (.Name x p) (e0 :: es) [⟨some kn, ea, kpos⟩] pos) (tR Γ Wx en env (fun s => (rs s).bind fun ws s1 => (ra s1).bind fun w s2 => cf f (ws ++ [w]) s2) (pRep Γ)) := by
  refine ⟨fun pins s σ H Q I ⟨S, hr, sl, h⟩ => ?_⟩
  refine wpAny_Call_Name_kw (ld_glob I (C.gl hg) (by rw [C.eM]; exact hm) ?_ hd)
  refine kw_args hp hs ha I (by rw [C.eK]; exact hk) hr sl h fun us u s2 ws w S2 H2 vs v I2 r ru hr2 fr2 rs2 rw2 h2 => ?_
  exact run_kwS (C.fn (L.fn f d e)) ((C.rm hc).mono hj) (by rw [C.eK]; exact F.bk f d kn e hkn) (passAt C.tk σ) I2 r ru (call_sp (d := d) hr2 (rs2.append (Reps.cons rw2 Reps.nil)) h2)
/-- f(..), the keyword's default None -/
theorem se_kcallD {f : Nat} {d : FD} {x kn : Str} (C : XC Γ Wx N sc k X) (hc : X.calm = true) (F : Fk Γ D) (L : Lv Γ D j cf ci) (hj : j ≤ k) (e : Γ.T.fn f = some d) (hkn : D.kn f = some kn) (hkd : D.kd f = true) (hg : sc.names.lookup x = some .globalImplicit) (hm : Γ.mg x = some (.ref (D.fa f))) (hk : PySem.W.keepIn Γ.K (.ref (D.fa f)) = true)
    (hd : (x == ("__debug__" : Str)) = false) (hs : AC X pos es (tR Γ Wx en env rs (pReps Γ))) :
    PE X (.Call (.Name x p) es [] pos) (tR Γ Wx en env (fun s => (rs s).bind fun ws s1 => cf f (ws ++ [.non]) s1) (pRep Γ)) := by
  refine ⟨fun pins s σ H Q I ⟨S, hr, sl, h⟩ => ?_⟩
  refine wpAny_Call_Name_kw (ld_glob I (C.gl hg) (by rw [C.eM]; exact hm) ?_ hd)
  refine hs pins s σ H (fun vs H1 => spF Γ (cf f) (vs ++ [.non]) H1 Q (WE Wx σ)) _ [] _ I (by rw [C.eK]; exact hk) ⟨S, hr, sl, RP.mono h.seq fun ws S1 H1 fr1 hr1 h1 vs r1 => call_sp (d := d) hr1 (r1.append (show RepsS Γ S1 [.non] [.non] from Reps.cons rfl Reps.nil)) h1⟩ fun us s2 vs H2 I2 r q => ?_
  exact run_fnSD (E := WE Wx) (C.fn (L.fn f d e)) ((C.rm hc).mono hj) (by rw [C.eK]; exact F.bd f d kn e hkn hkd) (show Vals [V.non] [Value.none] from .cons rfl .nil) (passAt C.tk σ) I2 r q

/-! ### C(.., k = v), the object a cell -/
theorem run_makeA {C f : Addr} {fd : FuncData} {ps : List Str} {sp : Sp} {CX : CXT} {E : XK} {pins : List (Addr × Obj)} {s : Shared} {Q : VK} {us bs : List Value} {kw : List (Str × Value)} {vs : List V} (M : Mk X.K C f) (Fo : FnOk X.prog X.w X.K X.mg X.base CX k f fd ps sp) (hr : Room (k + 1) X.A)
    (hb : ∀ (s : Shared) (x0 : Addr), X.K.In s.heap → (Value.ref x0 :: bs).length = ps.length → BindsTo s fd ⟨Value.ref x0 :: us, kw⟩ (ps.zip (Value.ref x0 :: bs)))
    (hx : PassesAt CX X σ E) (I : Inv X pins σ H s) (r : Vals vs bs)
    (h : ∀ x dx, H x = none → H dx = none → dx ≠ x → sp (.ref x :: vs) (upd (upd H dx (.own x)) x (.ins C dx [])) (fun v H2 => v = .non ∧ Q (.ref x) H2) E) :
    wpAny (model X.prog X.w) X.A (call (.ref C) us kw) (EP X pins σ Q) X.xe s := by
  have hq := h (s.heap.objs.size + 1) s.heap.objs.size (I.hok.fresh (Nat.le_succ _)) (I.hok.fresh (Nat.le_refl _)) (Nat.ne_of_lt (Nat.lt_succ_self _))
  have I2 := Inv.made (C := C) I
  have r2 : Vals (V.ref (s.heap.objs.size + 1) :: vs) (Value.ref (s.heap.objs.size + 1) :: bs) := .cons rfl r
  have hl : (Value.ref (s.heap.objs.size + 1) :: bs).length = ps.length := by
    have e := r2.length
    rw [Fo.len _ _ _ _ hq] at e
    exact e.symm
  have b := hb _ (s.heap.objs.size + 1) I2.kIn hl
  refine wpAny_call (make_map (f := f) I.kIn M.makes M.init (beq_iff_eq.mp M.fn) (codeAny_mono (Fo.run _ X.stack _ _ ⟨Value.ref (s.heap.objs.size + 1) :: us, kw⟩ (Value.ref (s.heap.objs.size + 1) :: bs) _ _ E (hr.make C us kw)
    (I2.env0.make C us kw) b r2 hq) fun r s' hq' => ?_))
  cases r with
  | error e => exact hx pins _ _ e s' I2 hq'
  | ok fl =>
    cases fl with
    | ret u =>
      obtain ⟨v, H', I3, rv, ev, q3⟩ := I2.after hq'
      subst ev
      exact ⟨rv, ⟨V.ref (s.heap.objs.size + 1), H', I3, rfl, q3⟩⟩
    | next => exact False.elim hq'
    | brk => exact False.elim hq'
    | cont => exact False.elim hq'
/-- what the new cell's __init__ is asked -/
theorem mkC_sp {c f : Nat} {ws : List W} {vs : List V} {Q : VK} {S0 : Sn} {H0 : Hp} (hr1 : HR Γ S1 H2) (r1 : RepsS Γ S1 ws vs)
    (h1 : RP Γ Wx σ S1 H2 ((cf f (.cell S1.S.length :: ws) (S1.S ++ [.obj c [] []])).bind (isNonR S1.S.length)) fun w S' H' => ∀ v, pRep Γ S0 H0 w v S' H' → Q v H')
    {x dx : Addr} (hx : H2 x = none) (hdx : H2 dx = none) (hne : dx ≠ x) :
    spF Γ (cf f) (.ref x :: vs) (upd (upd H2 dx (.own x)) x (.ins (Γ.ca c) dx [])) (fun v H3 => v = .non ∧ Q (.ref x) H3) (WE Wx σ) := by
  have hx2 : upd H2 dx (.own x) x = none := by rw [upd_ne (Ne.symm hne)]; exact hx
  have hr2 := (hr1.newO (o := .own x) hdx).newO (o := .ins (Γ.ca c) dx []) hx2
  have fr2 : Fr S1 H2 S1 (upd (upd H2 dx (.own x)) x (.ins (Γ.ca c) dx [])) := (hr1.frNewO (o := .own x) hdx).trans ((hr1.newO (o := .own x) hdx).frNewO (o := .ins (Γ.ca c) dx []) hx2)
  have hr3 : HR Γ (S1.add x (.obj c [] [])) (upd (upd H2 dx (.own x)) x (.ins (Γ.ca c) dx [])) := hr2.addC (hr1.sub.none hx) (hr1.offN hx) ⟨hr1.sub.none hx, dx, [], upd_same, Reps.nil, rfl⟩
  have fr3 := fr2.addC (c := .obj c [] []) hx
  refine ⟨S1.add x (.obj c [] []), .cell S1.S.length :: ws, hr3, Reps.cons ⟨?_, ?_⟩ (fr3.reps r1), ?_⟩
  · show S1.S.length < (S1.S ++ [Cl.obj c [] []]).length
    rw [List.length_append]; simp
  · rw [show (S1.add x (.obj c [] [])).φ S1.S.length = x from if_pos rfl]
  · refine RP.to (RP.mono (RP.shift h1.seq fr3) fun w S4 H4 fr4 hr4 h4 v rv => ?_)
    unfold isNonR at h4
    split at h4
    · refine ⟨rv, RP.done h4 hr4 _ ⟨?_, ?_⟩⟩
      · have := fr4.n
        have h5 : (S1.add x (.obj c [] [])).S.length = S1.S.length + 1 := by show (S1.S ++ [Cl.obj c [] []]).length = _; rw [List.length_append]; rfl
        omega
      · rw [fr4.φ S1.S.length (by show S1.S.length < (S1.S ++ [Cl.obj c [] []]).length; rw [List.length_append]; simp), show (S1.add x (.obj c [] [])).φ S1.S.length = x from if_pos rfl]
    · exact h4.elim
theorem se_kmkC {c f : Nat} {x kn : Str} {kpos : Pos} {e0 : Expr} (C : XC Γ Wx N sc k X) (hc : X.calm = true) (Fx0 : Fx Γ D) (F : Fk Γ D) (L : Lv Γ D j cf ci) (hj : j + 1 ≤ k) (e : Γ.T.init c = some f) (hkn : D.kn f = some kn) (hg : sc.names.lookup x = some .globalImplicit) (hm : Γ.mg x = some (.ref (Γ.ca c)))
    (hd : (x == ("__debug__" : Str)) = false) (hp : (e0 :: es).all plainA = true) (hs : PA X (e0 :: es) (tR Γ Wx en env rs (pReps Γ))) (ha : PE X ea (tR Γ Wx en env ra (pRep Γ))) :
    PE X (.Call (.Name x p) (e0 :: es) [⟨some kn, ea, kpos⟩] pos) (tR Γ Wx en env (fun s => (rs s).bind fun ws s1 => (ra s1).bind fun w s2 => vMkC Γ.T cf c (ws ++ [w]) s2) (pRep Γ)) := by
  obtain ⟨M, d, ed⟩ := Fx0.init c f e
  refine ⟨fun pins s σ H Q I ⟨S, hr, sl, h⟩ => ?_⟩
  refine wpAny_Call_Name_kw (ld_glob I (C.gl hg) (by rw [C.eM]; exact hm) ?_ hd)
  refine kw_args (first := []) hp hs ha I (by rw [C.eK]; exact M.kp) hr sl h fun us u s2 ws w S2 H2 vs v I2 r ru hr2 fr2 rs2 rw2 h2 => ?_
  have h3 : RP Γ Wx σ S2 H2 ((cf f (.cell S2.S.length :: (ws ++ [w])) (S2.S ++ [.obj c [] []])).bind (isNonR S2.S.length)) fun w S' H' => ∀ v, pRep Γ S H w v S' H' → Q v H' := by
    unfold vMkC at h2; rw [e] at h2; exact h2
  have ru1 : Vals [v] [u] := .cons ru .nil
  have bk := F.bk f d kn ed hkn
  have bk2 : KBn X.K (D.fd f) (D.ps f) ((D.ps f).length - 1) [kn] (fun us ws => us ++ ws) (fun vs zs => vs ++ zs) := by rw [C.eK]; exact bk
  refine run_makeA (bs := us ++ [u]) (by rw [C.eK]; exact M) (C.fn (L.fn f d ed)) ((C.rm hc).mono hj) (fun s' x0 K' hl => ?_) (passAt C.tk σ) I2 (r.append ru1) fun y dy hy hdy hne => mkC_sp hr2 (rs2.append (Reps.cons rw2 Reps.nil)) h3 hy hdy hne
  have hu : (Value.ref x0 :: us).length = (D.ps f).length - 1 := by simp at hl ⊢; omega
  exact bk2.to s' (Value.ref x0 :: us) [u] K' hu rfl
theorem se_kmkCD {c f : Nat} {x kn : Str} (C : XC Γ Wx N sc k X) (hc : X.calm = true) (Fx0 : Fx Γ D) (F : Fk Γ D) (L : Lv Γ D j cf ci) (hj : j + 1 ≤ k) (e : Γ.T.init c = some f) (hkn : D.kn f = some kn) (hkd : D.kd f = true) (hg : sc.names.lookup x = some .globalImplicit) (hm : Γ.mg x = some (.ref (Γ.ca c)))
    (hd : (x == ("__debug__" : Str)) = false) (hs : AC X pos es (tR Γ Wx en env rs (pReps Γ))) :
    PE X (.Call (.Name x p) es [] pos) (tR Γ Wx en env (fun s => (rs s).bind fun ws s1 => vMkC Γ.T cf c (ws ++ [.non]) s1) (pRep Γ)) := by
  obtain ⟨M, d, ed⟩ := Fx0.init c f e
  refine ⟨fun pins s σ H Q I ⟨S, hr, sl, h⟩ => ?_⟩
  refine wpAny_Call_Name_kw (ld_glob I (C.gl hg) (by rw [C.eM]; exact hm) ?_ hd)
  refine hs pins s σ H (fun vs H1 => ∃ S1 ws, HR Γ S1 H1 ∧ RepsS Γ S1 ws vs ∧ RP Γ Wx σ S1 H1 ((cf f (.cell S1.S.length :: (ws ++ [.non])) (S1.S ++ [.obj c [] []])).bind (isNonR S1.S.length)) fun w S' H' => ∀ v, pRep Γ S H w v S' H' → Q v H') _ [] _ I (by rw [C.eK]; exact M.kp)
    ⟨S, hr, sl, RP.mono h.seq fun ws S1 H1 fr1 hr1 h1 vs r1 => ⟨S1, ws, hr1, r1, by unfold vMkC at h1; rw [e] at h1; exact h1⟩⟩ fun us s2 vs H2 I2 r ⟨S1, ws, hr1, r1, h1⟩ => ?_
  have rn : Vals [V.non] [Value.none] := .cons rfl .nil
  have bd := F.bd f d kn ed hkn hkd
  refine run_makeA (bs := us ++ [.none]) (by rw [C.eK]; exact M) (C.fn (L.fn f d ed)) ((C.rm hc).mono hj) (fun s' x0 K' hl => ?_) (passAt C.tk σ) I2 (r.append rn) fun y dy hy hdy hne => mkC_sp hr1 (r1.append (show RepsS Γ S1 [.non] [.non] from Reps.cons rfl Reps.nil)) h1 hy hdy hne
  rw [C.eK] at K'
  exact bd s' (Value.ref x0 :: us) K' hl

/-! ### o.p, a property -/
def WF0 : WX := fun _ _ _ _ => False
theorem se_prop {m : Nat} {x : Str} (hm : m < 1000) (C : XC Γ Wx N sc k X) (hc : X.calm = true) (F0 : Fx Γ D) (F : Fk Γ D) (L : Lv Γ D j cf ci) (hj : j + 1 ≤ k) (hx : Γ.nm m = x) (hb : attributeBase ea x X.env (eval ea X.env) = eval ea X.env)
    (ha : PE X ea (tR Γ Wx en env ra (pRepX Γ))) :
    PE X (.Attribute ea x pos) (tR Γ Wx en env (fun s => (ra s).bind fun y s1 => withF (vMeth Γ.T s1 y (m + 1000)) fun f => (cf f [y] s1).nox) (pRep Γ)) := by
  subst hx
  refine ⟨fun pins s σ H Q I ⟨S, hr, sl, h⟩ => ?_⟩
  refine attr_of hb (thn (ha.run pins s σ H (fun v H1 => ∃ S1 y, HR Γ S1 H1 ∧ RepX Γ S1 H1 y v ∧ RP Γ Wx σ S1 H1 (withF (vMeth Γ.T S1.S y (m + 1000)) fun f => (cf f [y] S1.S).nox) fun w S' H' => ∀ v, pRep Γ S H w v S' H' → Q v H') I
    ⟨S, hr, sl, RP.mono h.seq fun y S1 H1 fr1 hr1 h1 v r1 => ⟨S1, y, hr1, r1, h1⟩⟩) fun u s1 ⟨v, H1, I1, rv, S1, y, hr1, r1, h1⟩ => ?_)
  cases e : vMeth Γ.T S1.S y (m + 1000) with
  | none => rw [e] at h1; exact h1.elim
  | some f =>
    rw [e, withF_some] at h1
    obtain ⟨o, e1, e2⟩ := Option.bind_eq_some_iff.mp e
    have e3 : Γ.T.meth o.1 (m + 1000) = some f := by
      split at e2
      · exact e2
      · cases e2
    obtain ⟨a, dx, vs, rfl, h2, h3, h4⟩ := obj_view hr1 r1 e1
    obtain rfl : u = Value.ref a := rv
    obtain ⟨c1, ⟨pa, c2⟩, hk0, d, ed⟩ := F.prop _ _ _ hm e3
    have ry : RepS Γ S1 y (.ref a) := r1.rep fun xs z => by rw [z] at e1; cases e1
    have h1n : RP Γ WF0 σ S1 H1 (cf f [y] S1.S) fun w S' H' => ∀ v, pRep Γ S H w v S' H' → Q v H' := by
      cases q : cf f [y] S1.S with
      | ok a s => rw [q] at h1; exact h1
      | ex x s => rw [q] at h1; exact h1.elim
      | no => rw [q] at h1; exact h1
    have hsp : spF Γ (cf f) [V.ref a] H1 Q (WE WF0 σ) := call_sp (d := d) hr1 (Reps.cons ry Reps.nil) h1n
    obtain ⟨mA, O, _, _, _, _⟩ := ins_get I1.hok h2
    obtain ⟨od, J, _⟩ := O.look
    obtain ⟨rest, hrec⟩ := c2.rec_
    have I2 := I1.tok (s1.toks + 1)
    have hp := F0.binds f d ed hk0
    have Fo := C.fn (L.fn f d ed)
    have hl : ([Value.ref a] ++ []).length = (D.ps f).length := by rw [← Fo.len _ _ _ _ hsp]; rfl
    have c1' : Cls X.K (Γ.ca o.1) := by rw [C.eK]; exact c1
    have c2' : PropOf X.K (Γ.ca o.1) (Γ.nm m) pa (D.fa f) := by rw [C.eK]; exact c2
    have hrec' : PySem.W.recIn X.K pa "property" = some (.ref (D.fa f) :: rest) := by rw [C.eK]; exact hrec
    have b : BindsTo { s1 with toks := s1.toks + 1 } (D.fd f) ⟨[.ref a], []⟩ ((D.ps f).zip ([.ref a] ++ [])) := hp { s1 with toks := s1.toks + 1 } [.ref a] (by rw [← C.eK]; exact I2.kIn) hl
    have hcs : (PySem.W.clsIn X.K (Γ.ca o.1)).isSome = true := by
      obtain ⟨cd, hc, _⟩ := PySem.W.any_some c1'.hd
      rw [hc]
      rfl
    refine PySem.W.get_bind I1.kIn J (PySem.W.plainGet_of (c1'.get (Γ.nm m))).1 (PySem.W.findObj_data hcs c2'.at_ c2'.get c2'.tak) (PySem.W.plainGet_of (c1'.get (Γ.nm m))).2 (wpAny_call (PySem.W.prop_get (s := { s1 with toks := s1.toks + 1 }) I1.kIn hrec' ?_))
    refine codeAny_mono (Fo.run X.A.in1 X.stack { s1 with toks := s1.toks + 1 } H1 ⟨[.ref a], []⟩ [.ref a] [.ref a] Q (WE WF0 σ) ((C.rm hc).mono hj).in1 I2.env0.in1 b (.cons rfl .nil) hsp) fun r s' hq => ?_
    cases r with
    | error er => obtain ⟨a, B, H', cls, d, _, _, _, _, _, _, _, q⟩ := hq; exact q.elim
    | ok fl =>
      cases fl with
      | ret u =>
        obtain ⟨v, H', I3, rv, q3⟩ := I2.after hq
        show wpAny _ _ (handedOut u) _ _ _
        rw [PySem.W.handedOut_of (handed_of rv)]
        exact wpAny_pure ⟨v, H', I3, rv, q3⟩
      | next => exact False.elim hq
      | brk => exact False.elim hq
      | cont => exact False.elim hq
/-! ### o(..), the class has __call__ -/
theorem kco_any {M : Model} {A : Around} {E : Value → Shared → Prop} {s : Shared} {pos : Pos} {x : Addr} {first : List Value} {Q : Value → Shared → Prop} {args : List (Bool × Sem Value)} {keywords : List (Option Str × Sem Value)} (hplain : (args.any (·.1) || keywords.any (·.1.isNone)) = false)
    (h : wpAny M A (evalArgs (.ref x) true args keywords) (fun a s₁ => (∃ K C ox od, ox.data = .plain ∧ PySem.W.kco_P K x C ox od s₁.heap) ∧ wpAny M A (call (.ref x) (first ++ a.pos) a.kw) Q E s₁) E s) : wpAny M A (callWith pos (.ref x) first args keywords) Q E s := by
  unfold callWith
  refine wpAny_bind (wpAny_holding (wpAny_mono h (fun a s₁ h₁ => wpAny_bind (wpAny_standAt ?_)) fun _ _ y => y))
  obtain ⟨⟨K, C, ox, od, hd, kp⟩, h₂⟩ := h₁
  have L := PySem.W.kco_keeper (M := M) kp.2 hd
  simp only [hplain]
  refine wpAny_bind (L.here ?_)
  have tail : ∀ {t : Sem Value}, wpAny M A t Q E s₁ → wpAny M A (t >>= fun r => holding [r] point >>= fun _ => pure r) Q E s₁ :=
    fun ht => wpAny_bind (wpAny_mono ht (fun r s₂ hr => wpAny_bind (wpAny_holding (wpAny_point (wpAny_pure hr)))) fun _ _ y => y)
  exact tail (wpAny_operateT h₂)
theorem se_cal {x : Str} (C : XC Γ Wx N sc k X) (hc : X.calm = true) (F0 : Fx Γ D) (F : Fk Γ D) (L : Lv Γ D j cf ci) (hj : j ≤ k) (hp : es.all plainA = true)
    (ha : PE X (.Name x p) (tR Γ Wx en env ra (pRep Γ))) (hs : PA X es (tR Γ Wx en env rs (pReps Γ))) (h0 : es = [] → ∀ σ H P, tR Γ Wx en env rs (pReps Γ) σ H P → P [] H) :
    PE X (.Call (.Name x p) es [] pos) (tR Γ Wx en env (fun s => (ra s).bind fun y s1 => refG y ((rs s1).bind fun ws s2 => withF (vMeth Γ.T s2 y 5000) fun f => cf f (y :: ws) s2)) (pRep Γ)) := by
  refine ⟨fun pins s σ H Q I ⟨S, hr, sl, h⟩ => ?_⟩
  refine wpAny_Call_Name_kw (thn (ha.run pins s σ H (fun v H1 => ∃ S1 y, HR Γ S1 H1 ∧ SlR Γ en S1 H1 env σ ∧ RepS Γ S1 y v ∧ RP Γ Wx σ S1 H1 (refG y ((rs S1.S).bind fun ws s2 => withF (vMeth Γ.T s2 y 5000) fun f => cf f (y :: ws) s2)) fun w S' H' => ∀ v, pRep Γ S H w v S' H' → Q v H') I
    ⟨S, hr, sl, RP.mono h.seq fun y S1 H1 fr1 hr1 h1 v r1 => ⟨S1, y, hr1, sl.mono hr fr1, r1, h1⟩⟩) fun u s1 ⟨v, H1, I1, rv, S1, y, hr1, sl1, r1, h1⟩ => ?_)
  obtain ⟨x0, ex0⟩ : ∃ x0, u = Value.ref x0 := by
    cases y with
    | obj c ks fs =>
      obtain ⟨a, _, _, rfl, _⟩ := r1
      exact ⟨a, rv⟩
    | cell n =>
      obtain ⟨_, rfl⟩ := r1
      exact ⟨_, rv⟩
    | _ => exact h1.elim
  have h1 : RP Γ Wx σ S1 H1 ((rs S1.S).bind fun ws s2 => withF (vMeth Γ.T s2 y 5000) fun f => cf f (y :: ws) s2) fun w S' H' => ∀ v, pRep Γ S H w v S' H' → Q v H' := by
    cases y <;> first | exact h1 | exact h1.elim
  have hq : tR Γ Wx en env rs (pReps Γ) σ H1 (fun vs H2 => ∃ S2 ws, HR Γ S2 H2 ∧ RepsS Γ S2 ws vs ∧ RepS Γ S2 y v ∧ RP Γ Wx σ S2 H2 (withF (vMeth Γ.T S2.S y 5000) fun f => cf f (y :: ws) S2.S) fun w S' H' => ∀ v, pRep Γ S H w v S' H' → Q v H') :=
    ⟨S1, hr1, sl1, RP.mono h1.seq fun ws S2 H2 fr2 hr2 h2 vs r2 => ⟨S2, ws, hr2, r2, fr2.rep r1, h2⟩⟩
  -- what the arguments leave
  have fin : ∀ {us : List Value} {s2 : Shared} {vs : List V} {H2 : Hp}, Inv X pins σ H2 s2 → Vals vs us → (∃ S2 ws, HR Γ S2 H2 ∧ RepsS Γ S2 ws vs ∧ RepS Γ S2 y v ∧ RP Γ Wx σ S2 H2 (withF (vMeth Γ.T S2.S y 5000) fun f => cf f (y :: ws) S2.S) fun w S' H' => ∀ v, pRep Γ S H w v S' H' → Q v H') →
      ∃ x C ox od, u = .ref x ∧ ox.data = .plain ∧ PySem.W.kco_P X.K x C ox od s2.heap ∧ wpAny (model X.prog X.w) X.A (call u us) (EP X pins σ Q) X.xe s2 := by
    intro us s2 vs H2 I2 r ⟨S2, ws, hr2, rs2, ry, h2⟩
    cases e : vMeth Γ.T S2.S y 5000 with
    | none => rw [e] at h2; exact h2.elim
    | some f =>
      rw [e, withF_some] at h2
      obtain ⟨o, e1, e2⟩ := Option.bind_eq_some_iff.mp e
      have e3 : Γ.T.meth o.1 5000 = some f := by
        split at e2
        · exact e2
        · cases e2
      obtain ⟨a, dx, fs, rfl, h2', h3, h4⟩ := obj_view hr2 (.inl ry) e1
      obtain rfl : u = Value.ref a := rv
      obtain ⟨c1, c2, c3, hk0, d, ed⟩ := F.cal _ _ e3
      have c2' : Meth X.K (Γ.ca o.1) "__call__" (D.fa f) := by rw [C.eK]; exact c2
      have c3' : PySem.W.fnIn X.K (D.fa f) = true := by rw [C.eK]; exact c3
      have q : spF Γ (cf f) (.ref a :: vs) H2 Q (WE Wx σ) := call_sp (d := d) hr2 (Reps.cons ry rs2) h2
      obtain ⟨mA, O, _, _, _, _⟩ := ins_get I2.hok h2'
      obtain ⟨od, J, _⟩ := O.look
      have Fo := C.fn (L.fn f d ed)
      have r2 : Vals (V.ref a :: vs) (Value.ref a :: us) := .cons rfl r
      have hl : ((Value.ref a :: us) ++ []).length = (D.ps f).length := by rw [List.append_nil, ← r2.length, Fo.len _ _ _ _ q]
      have b := F0.binds f d ed hk0 s2 (Value.ref a :: us) (by rw [← C.eK]; exact I2.kIn) hl
      rw [List.append_nil] at b
      refine ⟨a, _, _, _, rfl, rfl, ⟨I2.kIn, J⟩, wpAny_call (PySem.W.kco_code (a := ⟨us, []⟩) I2.kIn J rfl c2'.at_ c2'.fn c3' (codeAny_mono (Fo.run X.A X.stack s2 H2 ⟨Value.ref a :: us, []⟩ (Value.ref a :: us) _ Q (WE Wx σ) ((C.rm hc).mono hj) I2.env0 b r2 q) fun r s' hq => ?_))⟩
      cases r with
      | error er => exact passAt C.tk σ pins H2 s2 er s' I2 hq
      | ok fl =>
        cases fl with
        | ret u => exact I2.after hq
        | next => exact False.elim hq
        | brk => exact False.elim hq
        | cont => exact False.elim hq
  cases es with
  | nil =>
    obtain ⟨x, C0, ox, od, rfl, hd, kp, hcall⟩ := fin I1 .nil (h0 rfl _ _ _ hq)
    exact PySem.W.kco_callWith_of (first := []) rfl hd (evalArgs_nil3 ⟨kp, hcall⟩)
  | cons b es =>
    rw [List.all_cons, Bool.and_eq_true] at hp
    subst ex0
    have hpl := backTo_plain (pos := pos) (env := X.env) hp.2
    have hst := starEach_ok (es := es) (env := X.env) hp.1
    refine kco_any (by rw [hst]; show ((false || (backTo pos (starEach es X.env)).any (·.1)) || false) = false; rw [hpl]; rfl) ?_
    have hgo := thn (Q' := fun us s2 => (∃ K C ox od, ox.data = .plain ∧ PySem.W.kco_P K x0 C ox od s2.heap) ∧ wpAny (model X.prog X.w) X.A (call (.ref x0) us) (EP X pins σ Q) X.xe s2) (hs.run pos pins s1 σ H1 _ I1 hq) fun us s2 ⟨vs, H2, I2, r, q⟩ => by
        obtain ⟨x, C0, ox, od, ex, hd, kp, hcall⟩ := fin I2 r q
        cases ex
        exact ⟨⟨_, C0, ox, od, hd, kp⟩, hcall⟩
    rw [hst] at hgo ⊢
    exact PySem.Calls.evalArgs_plain hgo
end
end LI
end
section
set_option Elab.async false
set_option linter.all false
set_option maxRecDepth 100000
set_option maxHeartbeats 4000000
/-! LiExc: an own exception whose __init__ is super().__init__('..'); self.f = x. -/
namespace LI
open PySem PySem.Spec PyProof.Rows L2

/-- what the text must give of such a class -/
structure SupF (P : Program) (K : PySem.W.Frag) (C : Addr) (f : Str) : Prop where
  oc : OexC K C
  bits : ∃ (fI cc cda : Addr) (c1 c2 c3 : Value) (d1 d2 d3 : Option Addr) (s1 s2 s3 : Array (Option Value)) (vs : Array Value) (file : Str) (tf : Tok) (name qual slf x txt : Str) (as : List Arg) (scope : Scope) (kV doc pm ct : Value) (an : Option Addr) (cd : ClassData)
      (p0 p1 p2 p3 p4 p5 p6 p7 p8 apos cpos : Pos) (j : Nat),
    PySem.W.findIn K (.ref C) "__init__" = some (some (.ref fI)) ∧ PySem.W.typeIn K (.ref fI) = some (.type "function") ∧
    K.lookup fI = some ⟨c1, d1, .func (PySem.W.ksFn name qual ⟨[], as, none, [], [], none, []⟩ [.Expr (.Call (.Attribute (.Call (.Name "super" p0) [] [] p1) "__init__" apos) [.Constant (.str txt) j p2] [] cpos) p3,
      .Assign [.Attribute (.Name slf p4) f p5] (.Name x p6) p7] scope .none kV doc pm an (.ref cda) ct cc), s1⟩ ∧ PySem.W.codeIn K (.ref cda) qual = true ∧
    K.lookup cda = some ⟨c2, d2, .fields vs, s2⟩ ∧ vs[2]? = some (.str file tf) ∧ ((P.main.file : Str) == file) = true ∧
    K.lookup cc = some ⟨c3, d3, .cell (some (.ref C)), s3⟩ ∧ PySem.W.clsIn K C = some cd ∧ PySem.W.mroIn K C (.ref C) = some true ∧
    as.map (·.arg) = [slf, x] ∧ slf ≠ x ∧ scope.names.lookup slf = some .local ∧ scope.names.lookup x = some .local ∧ scope.names.lookup ("super" : Str) = some .globalImplicit ∧ scope.names.lookup ("__class__" : Str) = some .free ∧
    scope.kind = .function ∧ scope.isCoroutine = false ∧ scope.isGenerator = false ∧ (∀ y ∈ scope.names, y.2 ≠ .cell) ∧ (apos.endLine == cpos.line) = true ∧
    (slf == ("__debug__" : Str)) = false ∧ (x == ("__debug__" : Str)) = false ∧
    PySem.W.ks_superIn K C C "__init__" = some (some (.builtin "ValueError.__init__")) ∧ PySem.W.subIn K (.ref C) (.type "ValueError") = some true ∧ PySem.W.nsIn K cStatics "thirdparty.any" = some none ∧
    PySem.W.findIn K (.ref C) f = some none ∧ (P.main.scope.names.lookup ("super" : Str)).isSome = false
section
variable {prog : Program} {w : World} {A : Around} {E : Value → Shared → Prop} {h : Heap} {g : Array GenState} {d : Drawn} {t : Nat} {os : OsState}
variable {nm q : Str} {C N : Addr} {bs bm : List Value} {hdct : Bool} {sn : List Str} {sub : List Value} {ab : Bool} {col : Option Bool} {dd : Option Addr} {k0 k1 k2 k3 k5 : Option Value}
theorem call_vw {u e t0 : Addr} {rest : List Value} {Q : Value → Shared → Prop}
    (hC : h.get? C = some (excClassObj nm q C N bs bm hdct sn sub ab col dd k0 k1 k2 k3 k5 "ValueError.__new__")) (he : h.get? e = some (HandSPX.excO C t0)) (hu : h.get? u = some (PySem.W.kxs_mw "ValueError.__init__" e)) (hrest : rest.length ≤ sizeLine)
    (hq : ∀ h' t1, (∀ b o, b ≠ e → h.get? b = some o → h'.get? b = some o) → h'.get? e = some (HandSPX.excO C t1) → Q .none ⟨h', g, d, t, os⟩) :
    wpAny (model prog w) A (call (.ref u) rest) Q E ⟨h, g, d, t, os⟩ := by
  refine wpAny_call (codeAny_of_tree ?_)
  show wpAny _ A.in1 (callAny (.ref u) ⟨rest, []⟩) _ _ _
  simp only [callAny]
  refine wpAny_bind (wpAny_load hu ?_)
  simp only [PySem.W.kxs_mw, show (Value.type "method-wrapper" == Value.type "method" || Value.type "method-wrapper" == Value.type "builtin_function_or_method" || Value.type "method-wrapper" == Value.type "method-wrapper") = true by decide, if_true]
  refine PySem.W.KFB.if_so (by decide) ?_
  refine wpAny_bind (PySem.ESX.check_bound F.excBase_ValueError hC he rfl ?_)
  refine wpAny_bind (wpAny_pure (wpAny_pure ?_))
  refine ⟨Code.quiet_builtin _ (by decide +kernel), codeAny_builtin F.excBase_ValueError.initEntry ?_⟩
  rw [Around.under_plainId F.excBase_ValueError.init.plain _]
  wp_walk
  refine hq _ h.objs.size (fun b o hb ho => ?_) ?_
  · rw [Heap.get?_update_other _ _ (Ne.symm hb)]
    exact Heap.get?_push_of_some _ ho
  · rw [Heap.get?_update_self _ (Heap.get?_push_of_some _ he) rfl]
    rfl
end
section
variable {P : Program} {w : World} {K : PySem.W.Frag} {mg : Str → Option Value} {B : Heap} {A : Around} {hp : Heap} {g : Array GenState} {d : Drawn} {t : Nat} {os : OsState} {C e t0 : Addr} {f : Str} {u : Value} {R : Result → Shared → Prop}
theorem init_sup (Y : SupF P K C f) (Mo : Mod K mg B) (kb : ∀ b o, B.get? b = some o → hp.get? b = some o) (heB : B.get? e = none) (hms : mg "super" = none) (hroom : A.depth < recursionLimit) (he : hp.get? e = some (HandSPX.excO C t0)) :
    ∃ fI, PySem.W.findIn K (.ref C) "__init__" = some (some (.ref fI)) ∧ PySem.W.typeIn K (.ref fI) = some (.type "function") ∧
      ((∀ h' dx t1 tk', (∀ b o, b ≠ e → hp.get? b = some o → h'.get? b = some o) → hp.objs.size ≤ dx → dx ≠ e → h'.get? e = some ({ cls := .ref C, dict := some dx, data := .fields #[.ref t1, .none, .none, .none, .bool false, .none] } : Obj) →
        h'.Ns1 dx (fun y => if y = f then some u else none) → R (.ok (.ret .none)) ⟨h', g, d, tk', os⟩) →
      codeAny (model P w) A (.call (.ref fI) ⟨[.ref e, u], []⟩) R ⟨hp, g, d, t, os⟩) := by
  obtain ⟨fI, cc, cda, c1, c2, c3, d1, d2, d3, s1, s2, s3, vs, file, tf, name, qual, slf, x, txt, as, scope, kV, doc, pm, ct, an, cd, p0, p1, p2, p3, p4, p5, p6, p7, p8, apos, cpos, j,
    hiC, htI, hfn, hcode, hcda, hvs, hfile, hcc, hcd, hmro, has, hne, hls, hlx, hlsup, hlcls, hkind, hco, hgen, hnc, hline, hds, hdx, hsup, hsubV, hth, hnof, htop⟩ := Y.bits
  obtain ⟨nm, q, N, bs, bm, sn, sub, ab, col, ddd, k0, k1, k2, k3, k5, hC, hbm⟩ := Y.oc.cls
  refine ⟨fI, hiC, htI, fun hq => ?_⟩
  have X : K.In hp := Mo.kin.keeps kb
  have hbind : BindsTo ⟨hp, g, d, t, os⟩ (PySem.W.ksFn name qual ⟨[], as, none, [], [], none, []⟩ [.Expr (.Call (.Attribute (.Call (.Name "super" p0) [] [] p1) "__init__" apos) [.Constant (.str txt) j p2] [] cpos) p3,
      .Assign [.Attribute (.Name slf p4) f p5] (.Name x p6) p7] scope .none kV doc pm an (.ref cda) ct cc) ⟨[.ref e, u], []⟩ [(slf, .ref e), (x, u)] := by
    have := bind_plain (fd := PySem.W.ksFn name qual ⟨[], as, none, [], [], none, []⟩ [.Expr (.Call (.Attribute (.Call (.Name "super" p0) [] [] p1) "__init__" apos) [.Constant (.str txt) j p2] [] cpos) p3,
      .Assign [.Attribute (.Name slf p4) f p5] (.Name x p6) p7] scope .none kV doc pm an (.ref cda) ct cc) (us := [.ref e, u]) rfl rfl (by rw [has]; simp [hne]) (by rw [has]; rfl)
    rw [has] at this
    exact .of_eq this
  refine ks_codeAny_call_defAt hroom (X _ _ hfn) rfl (Mo.nolimit.keeps kb) (PySem.W.codeRec_of X hcode) rfl hbind hnc (fun y hy => ?_) (fun h₀ hns hk₀ => ?_) hco hgen hkind
  · rcases List.mem_cons.mp hy with rfl | hy
    · exact hls
    · rcases List.mem_cons.mp hy with rfl | hy
      · exact hlx
      · simp at hy
  have X0 : K.In h₀ := X.keeps hk₀
  have kb0 : ∀ b o, B.get? b = some o → h₀.get? b = some o := fun b o z => hk₀ b o (kb b o z)
  have e0 : h₀.get? e = some (HandSPX.excO C t0) := hk₀ _ _ he
  have mS : ([(slf, Value.ref e), (x, u)].reverse.lookup slf) = some (.ref e) := by
    show List.lookup slf [(x, u), (slf, .ref e)] = _
    rw [List.lookup, show (slf == x) = false from beq_eq_false_iff_ne.mpr hne]
    simp [List.lookup]
  have mX : ([(slf, Value.ref e), (x, u)].reverse.lookup x) = some u := by
    show List.lookup x [(x, u), (slf, .ref e)] = _
    simp [List.lookup]
  obtain ⟨mb, hmb, hbb⟩ := Mo.blt
  have neB : ∀ b o, B.get? b = some o → b ≠ e := fun b o z y => by rw [y, heB] at z; cases z
  have heC : e ≠ C := fun y => by
    have := X0 _ _ hC
    rw [← y, e0] at this
    have := congrArg (fun o : Option Obj => o.map (·.data)) this
    simp [HandSPX.excO, excClassObj] at this
  have hel : e ≠ hp.objs.size := Nat.ne_of_lt (Heap.lt_size he)
  have hsup' : PySem.W.alongIn K "__init__" ((cd.mro.dropWhile (· != .ref C)).drop 1) = some (some (.builtin "ValueError.__init__")) := by
    unfold PySem.W.ks_superIn at hsup
    rw [hcd] at hsup
    exact hsup
  have hboot : bootBuiltins "super" = some (.type "super") := by decide +kernel
  -- super().__init__('..')
  refine ks_wpAt_execs_cons (ks_wpAt_Expr_any (ks_wpAt_MethodCall (pl := plainOf (.Call (.Name "super" p0) [] [] p1) (PySem.W.ksEnv qual scope hp.objs.size fI (.ref cda) cc)) ?_ ?_) ?_ rfl)
  · refine ks_wpAt_super_base hlsup hlcls (by decide) rfl (X0 _ _ hfn) rfl (show (([] : List Arg) ++ as).head? = some (as.head?.getD ⟨"", none, p0⟩) from ?_) rfl (X0 _ _ hcda) rfl hvs hfile htop ?_
    · cases as with
      | nil => cases has
      | cons a r => rfl
    have harg : (as.head?.getD ⟨"", none, p0⟩).arg = slf := by
      cases as with
      | nil => cases has
      | cons a r =>
        have := has
        simp only [List.map_cons, List.cons.injEq] at this
        exact this.1
    rw [harg]
    refine PySem.W.ks_loadName_global hkind hlsup (Calls.loadGlobal_builtin (env := PySem.W.ksEnv qual scope hp.objs.size fI (.ref cda) cc) (Mo.glob.keeps kb0) hms (hmb.keeps kb0) ((hbb _ (by decide)).trans hboot) ⟨rfl, ?_⟩)
    refine wpAny_loadName_free hkind hlcls rfl ⟨_, X0 _ _ hcc, rfl⟩ ?_
    refine wpAny_loadName_local hkind hls hns mS ?_
    refine ks_wpAny_isType_cls (X0 _ _ hC) rfl ⟨rfl, ?_⟩
    refine ks_wpAny_call_super (D := C) (x := e) (C := C) (X0 _ _ hC) rfl e0 rfl (fun c z => by cases z) (PySem.W.looks_mroIn X0 hmro) (fun h1 hso kk1 => ?_)
    have X1 : K.In h1 := X0.keeps kk1
    have e1 : h1.get? e = some (HandSPX.excO C t0) := kk1 _ _ e0
    have I1 : PySem.W.InstAt h1 e (HandSPX.excO C t0) C none := ⟨e1, rfl, rfl, trivial⟩
    refine PySem.W.kxs_getMethod PySem.W.kxs_ValueError hso (PySem.W.looks_opaque X1 hth) (l₀ := cd.mro) ?_ rfl X1 hsup' (I1.type.andThen (PySem.W.looks_subIn X1 hsubV)) heC (by decide) ?_
    · exact fun A Q E s k q => wpAny_bind ((PySem.W.looks_clsIn X1 hcd) A _ E s k (wpAny_pure q))
    have kk2 : ∀ b o, h1.get? b = some o → (h1.push (PySem.W.kxs_mw "ValueError.__init__" e)).get? b = some o := fun b o z => Heap.get?_push_of_some _ z
    have hu : (h1.push (PySem.W.kxs_mw "ValueError.__init__" e)).get? h1.objs.size = some (PySem.W.kxs_mw "ValueError.__init__" e) := Heap.get?_push_at rfl rfl
    show wpAny _ _ (callWith cpos (.ref h1.objs.size) [] [(false, eval (.Constant (.str txt) j p2) _)] []) _ _ _
    refine PySem.W.kxs_callWith (i := "ValueError.__init__") (x := e) rfl (Calls.evalArgs_plain (Calls.spliced_cons (Calls.Constant_str (Calls.spliced_nil ⟨hu, ?_⟩))))
    refine call_vw (X1.keeps kk2 _ _ hC) (kk2 _ _ e1) hu (by show 1 ≤ sizeLine; rw [sizeLine_eq]; omega) fun h2 t1 kk3 e2 => ?_
    -- self.x = x
    have kk : ∀ b o, b ≠ e → h₀.get? b = some o → h2.get? b = some o := fun b o hb z => kk3 b o hb (kk2 b o (kk1 b o z))
    have X2 : K.In h2 := Mo.kin.keeps fun b o z => kk b o (neB b o z) (kb0 b o z)
    have hns2 : h2.Ns hp.objs.size (fun y => [(slf, Value.ref e), (x, u)].reverse.lookup y) := hns.at fun o z => kk _ o (Ne.symm hel) z
    refine wpAt_of_wpAny (wpAny_execs_cons (plainObj_wpAny_Assign_Attribute (wpAny_Name (wpAny_loadName_local hkind hlx hns2 mX (wpAny_Name (wpAny_loadName_local hkind hls hns2 mS ?_) hds)) hdx) rfl))
    have hcl : PySem.W.clsIn K C = some { name := nm, bases := bs, mro := .ref C :: bm, ns := N, qualname := q, hasDict := true, slotNames := sn, subclasses := sub, abstract := ab, collection := col, hasDel := false } := by unfold PySem.W.clsIn; rw [hC] <;> rfl
    refine PySem.W.set_plain X2 (ox := { cls := .ref C, dict := none, data := .fields #[.ref t1, .none, .none, .none, .bool false, .none] }) (od := none) ⟨e2, rfl, rfl, trivial⟩ Y.oc.sa ?_
    refine PySem.HandSPX.exc_osa X2 e2 hcl (show PySem.HandSPX.refsVE (.ref C :: bm) = true from hbm) rfl hnof (fun h' tk' dx k dn dne hx hn => ?_)
    have sz : hp.objs.size ≤ h2.objs.size := by
      obtain ⟨o, es, ep, z, _⟩ := hns2
      exact Nat.le_of_lt (Heap.lt_size z)
    exact wpAny_execs_nil (hq h' dx t1 tk' (fun b o hb z => k b o hb (kk b o hb (hk₀ b o z))) (Nat.le_trans sz dn) dne hx hn)
  · rw [arm_eval_Call]
    congr 1
    funext ov
    congr 1
    funext _
    exact mcall_line (form_ok (by rfl) (by show 1 < 30; omega)) hline
  · show interactive (PySem.W.ksEnv qual scope hp.objs.size fI (.ref cda) cc) = false
    simp [interactive, hkind]
end
section
variable {X : Cx} {e : Expr} {te : TE} {pos p : Pos}
theorem at_ne' {H : Hp} {a b : Addr} {o u : HO} (ha : H a = some o) (hb : H b = some u) (d : o ≠ u) : b ≠ a := fun z => by
  subst z
  rw [ha] at hb
  exact d (Option.some.inj hb)
/-- C(e), C such a class -/
theorem pmk_sup {x : Str} {C : Addr} {f : Str} (Y : SupF X.prog X.K C f) (hms : X.mg "super" = none) (hd : X.A.depth + 1 < recursionLimit) (hg : Gl X x) (hm : X.mg x = some (.ref C)) (ha : PE X e te) (hdb : (x == ("__debug__" : Str)) = false) (hp : plainA e = true) :
    PMk X (.Call (.Name x p) [e] [] pos) (fun σ H Q => te σ H fun y H1 => ∀ d, H1 d = none → Q (.ref C) (some d) (upd H1 d (.xd [(f, y)]))) := by
  intro pins s σ H Q I h
  have T := Y.oc
  obtain ⟨nm, q, N, bs, bm, sn, sub, ab, col, dd, k0, k1, k2, k3, k5, hC, hbm⟩ := T.cls
  refine wpAny_Call_Name_kw (ld_glob I hg hm ?_ hdb)
  refine PySem.W.callWith_K (h₀ := X.base) I.ok.mod.kin T.kC (thn ((pa_cons ha pa_nil (starEach_ok hp)).run pos pins s σ H (fun vs H1 => match vs with
    | [y] => ∀ d, H1 d = none → Q (.ref C) (some d) (upd H1 d (.xd [(f, y)]))
    | _ => False) I h) fun us s1 ⟨vs, H1, I1, r1, q1⟩ => ⟨I1.kIn, ?_⟩) (starEach_ok hp) rfl
  cases r1 with
  | nil => exact q1.elim
  | @cons y u vs us ry rr =>
    cases rr with
    | cons _ _ => exact q1.elim
    | nil =>
      have q1 : ∀ d, H1 d = none → Q (.ref C) (some d) (upd H1 d (.xd [(f, y)])) := q1
      show wpAny _ _ (call (.ref C) [u]) _ _ _
      obtain ⟨hp, g, dr, tk, os⟩ := s1
      have hsz : hp.objs.size ≤ hp.objs.size + 1 := Nat.le_succ _
      have hn : H1 (hp.objs.size + 1) = none := I1.hok.fresh hsz
      have kk : ∀ b o, hp.get? b = some o → ((hp.push (PySem.W.kdv_tup [u])).push (PySem.HandSPX.excO C hp.objs.size)).get? b = some o := fun b o e => Heap.get?_push_of_some _ (Heap.get?_push_of_some _ e)
      have hget : ((hp.push (PySem.W.kdv_tup [u])).push (PySem.HandSPX.excO C hp.objs.size)).get? (hp.objs.size + 1) = some (PySem.HandSPX.excO C hp.objs.size) := by heap_get
      have heB : X.base.get? (hp.objs.size + 1) = none := by
        cases z : X.base.get? (hp.objs.size + 1) with
        | none => rfl
        | some o => exact absurd (Heap.lt_size (I1.bk _ _ z)) (by show ¬ hp.objs.size + 1 < hp.objs.size; omega)
      have I2 : Inv X pins σ (upd H1 (hp.objs.size + 1) (exo (hp.objs.size + 1) C none)) ⟨(hp.push (PySem.W.kdv_tup [u])).push (PySem.HandSPX.excO C hp.objs.size), g, dr, tk, os⟩ :=
        I1.laid (t' := tk) (a := hp.objs.size + 1) (o := exo (hp.objs.size + 1) C none) (h' := (hp.push (PySem.W.kdv_tup [u])).push (PySem.HandSPX.excO C hp.objs.size)) kk hsz (exo_ok hget)
      obtain ⟨fI, iC, tI, body⟩ := init_sup (w := X.w) (A := X.A.under (.builtin "type.__call__" ⟨.ref C :: [u], []⟩)) (hp := (hp.push (PySem.W.kdv_tup [u])).push (PySem.HandSPX.excO C hp.objs.size)) (g := g) (d := dr) (t := tk) (os := os) (e := hp.objs.size + 1) (t0 := hp.objs.size) (u := u)
        (R := PySem.W.InitBack (hp.objs.size + 1) (fun r s' => match r with | .ok (.ret v) => MkP X pins σ Q v s' | .ok _ => False | .error e => X.xe e s')) Y I1.ok.mod (fun b o z => kk b o (I1.bk b o z)) heB hms (by rw [make_depth]; exact hd) hget
      refine wpAny_call (PySem.HandSPX.call_own F.excBase_ValueError (fun Y => PySem.HandSPX.refsVE_contains Y bm hbm) (I1.kIn _ _ hC) (PySem.W.looks_findIn I1.kIn iC) (fun self => PySem.W.bind_fn I1.kIn self tI) (by show 1 ≤ sizeLine; rw [sizeLine_eq]; omega) ?_)
      refine codeAny_mono (body fun h' dx t1 tk' k dn dne he' hn' => ⟨rfl, ?_⟩) fun r s' hr => ?_
      · -- the exception as it lies
        have e0 : (upd H1 (hp.objs.size + 1) (exo (hp.objs.size + 1) C none)) (hp.objs.size + 1) = some (exo (hp.objs.size + 1) C none) := upd_same
        have hnd : (upd H1 (hp.objs.size + 1) (exo (hp.objs.size + 1) C none)) dx = none := I2.hok.fresh dn
        have hnd1 : H1 dx = none := by rw [upd_ne dne] at hnd; exact hnd
        have nd : ∀ {b : Addr} {o : Obj}, ((hp.push (PySem.W.kdv_tup [u])).push (PySem.HandSPX.excO C hp.objs.size)).get? b = some o → b ≠ dx := fun {b o} q => Nat.ne_of_lt (Nat.lt_of_lt_of_le (Heap.lt_size q) dn)
        generalize hH2 : upd H1 (hp.objs.size + 1) (exo (hp.objs.size + 1) C none) = H2 at I2 e0 hnd
        generalize hhp2 : (hp.push (PySem.W.kdv_tup [u])).push (PySem.HandSPX.excO C hp.objs.size) = hp2 at I2 kk hget k dn nd
        generalize ha : hp.objs.size + 1 = a at I2 e0 hnd hsz hn hget k dne he' hH2 heB
        have na : ∀ {b : Addr}, H2 b = none → b ≠ a := fun {b} n z => by
          rw [z, e0] at n
          cases n
        have Un1 : Un (frs X.stack) [] H2 (upd (upd H2 dx (exd dx [(f, y)])) a (exo a C (some dx))) hp2 h' := {
          keep := fun b o q n _ _ => k b o (na n) q
          slot := fun b o q n _ _ => ⟨o.slots, k b o (na n) q⟩
          free := fun b o q n _ => by rw [upd_ne (na n), upd_ne (nd q)]; exact n
          there := fun b o q _ => by
            by_cases hb : b = a
            · exact ⟨_, by rw [hb]; exact he'⟩
            · exact ⟨o, k b o hb q⟩
          tups := fun b xs q => by rw [upd_ne (at_ne e0 q exo_tup), upd_ne (ne_of_none q hnd)]; exact q
          frzs := fun b o v q => by rw [upd_ne (at_ne e0 q exo_frz), upd_ne (ne_of_none q hnd)]; exact q
          tbls := fun b ps q => ⟨#[], by rw [upd_ne (at_ne e0 q exo_tbl), upd_ne (ne_of_none q hnd), q]; simp⟩ }
        have hok : HOk X.prog X.w (upd (upd H2 dx (exd dx [(f, y)])) a (exo a C (some dx))) h' := fun b o q => by
          by_cases hb : b = a
          · subst hb
            rw [upd_same] at q
            cases q
            exact exo_ok he'
          · rw [upd_ne hb] at q
            by_cases hd : b = dx
            · subst hd
              rw [upd_same] at q
              cases q
              exact exd_ok hn' (relO_put (fs := []) ry fun g => True.intro)
            · rw [upd_ne hd] at q
              exact (I2.hok b o q).stay (fun c v hc z => k c v (by
                  rcases hc with hc | hc
                  · rw [hc]
                    exact hb
                  · exact at_ne e0 hc exo_own) z)
                (fun c hc => by rw [upd_ne (at_ne e0 hc exo_own), upd_ne (ne_of_none hc hnd)]; exact hc) (fun c xs hc => by rw [upd_ne (at_ne e0 hc exo_tup), upd_ne (ne_of_none hc hnd)]; exact hc)
        have hdel : upd (del (upd (upd H2 dx (exd dx [(f, y)])) a (exo a C (some dx))) a) dx (.xd [(f, y)]) = upd H1 dx (.xd [(f, y)]) := by
          funext b
          by_cases h1 : b = dx
          · subst h1; rw [upd_same, upd_same]
          · rw [upd_ne h1, upd_ne h1]
            by_cases h2 : b = a
            · subst h2; rw [del_same]; exact hn.symm
            · rw [del_ne h2, upd_ne h2, upd_ne h1, ← hH2, upd_ne h2]
        subst hH2
        refine mk_end (fs := [(f, y)]) (raises_own T.exC T.tyC) I1 hsz kk Un1 hok rfl I1.bare upd_same (by rw [upd_ne dne]; exact upd_same) hnd1 ?_
        rw [hdel]
        exact q1 dx hnd1
      · rcases r with er | (v | _ | _ | _) <;> first | exact hr | exact hr.elim
end
end LI
end
section
set_option Elab.async false
set_option linter.all false
set_option maxRecDepth 100000
set_option maxHeartbeats 4000000
/-! LiTry: raise; try with named except clauses. -/
namespace LI
open PySem PySem.Spec PyProof.Rows L2

/-- what the clauses wish of an exception of the body, one after the other; i: the name's slot -/
def wTry (K : PySem.W.Frag) (Wout : WX) (D : Ends) : List (Value × Nat × (Addr → Value → Option Addr → TS)) → WX
  | [] => Wout
  | (c, i, ts) :: r => fun cls d σ H => ∃ b, PySem.W.exmOne K cls c = some b ∧ (b = true → ∀ a, H a = none → ts a cls d { nx := fun σ' H' => D.nx (σ'.set i none) H', rt := D.rt, bk := fun σ' H' => D.bk (σ'.set i none) H', ct := fun σ' H' => D.ct (σ'.set i none) H' } (σ.set i (some (.ref a))) H) ∧
      (b = false → wTry K Wout D r cls d σ H)
inductive HdA (X : Cx) : List ExceptHandler → List (Value × Nat × (Addr → Value → Option Addr → TS)) → Prop
  | nil : HdA X [] []
  | cons {x n : Str} {c : Value} {i : Nat} {ts : Addr → Value → Option Addr → TS} {b₀ : Stmt} {suite : List Stmt} {np pos' : Pos} {hds : List ExceptHandler} {l : List (Value × Nat × (Addr → Value → Option Addr → TS))} (hc : Names X x c)
      (hi : X.N[i]? = some n) (hln : X.env.kindOf n = some .local)
      (hsu : ∀ (a : Addr) (oe : Obj) (cls : Value) (d : Option Addr) (pn : List (Addr × Obj)), Zc cls d oe → (∃ vs, oe.data = .fields vs) → PSs (X.suite a ((a, oe) :: pn)) (b₀ :: suite) (ts a cls d)) (r : HdA X hds l) :
      HdA X (.ExceptHandler (some (.Name x np)) (some n) (b₀ :: suite) pos' :: hds) ((c, i, ts) :: l)
section
variable {X : Cx} {body : List Stmt} {h₀ : ExceptHandler} {hds : List ExceptHandler} {l : List (Value × Nat × (Addr → Value → Option Addr → TS))} {pos : Pos} {tb : WX → TS} {Wout : WX}
theorem ps_tryN (hs : X.stack = X.env :: X.outer) (hf : X.env.frame = some X.env.locals) (hN : X.N.Nodup) (tk : Takes X Wout)
    (hb : ∀ (W : WX) (pn : List (Addr × Obj)) (xe : Value → Shared → Prop), Takes (X.tr pn xe) W → PassesOwn (model X.prog X.w) X.A X.env xe → PSs (X.tr pn xe) body (tb W))
    (hh : HdA X (h₀ :: hds) l) : PS X (.Try body (h₀ :: hds) [] [] pos) (fun D σ H => tb (wTry X.K Wout D l) D σ H) := by
  refine ⟨fun pins s σ H D I h => ?_⟩
  have ok := I.ok
  have hfr : X.A.frames = some (X.env :: X.outer) := by rw [ok.frames, hs]
  refine wpAny_Try_except ?_
  refine wpAny_mono ((hb (wTry X.K Wout D l) (X.pn ++ pins) (fun e s₁ => wpAny (model X.prog X.w) X.A (noteFrame e X.env) (fun _ s₂ => wpAny (model X.prog X.w) X.A (setFlight e none) (fun _ s₃ =>
    wpAny (model X.prog X.w) X.A (handleBy e X.env (h₀ :: hds)) (SP X pins D) X.xe s₃) X.xe s₂) X.xe s₁) (fun u s' xx => ?_) PassesOwn.looking).run [] s σ H D (I.toTry _) h) (fun f s1 hsp => ?_) (fun e s1 he => he)
  · -- the catch
    obtain ⟨a, B, sI, pins', σ', H', cls, d, rfl, J', nb, up, sky, na, os, ag, w⟩ := xx
    have J : Inv X pins σ' H' sI := J'.ofTry ok
    have sky' : Sky B (X.env :: X.outer) a (Zc cls d) X.env.locals s'.heap := by rw [← hs]; exact sky
    show wpAny (model X.prog X.w) X.A (noteFrame (.ref a) X.env) _ _ _
    refine Sky.land Zc.steady hfr hf sky' fun h3 fl3 up3 => ?_
    have J3 : Inv X pins σ' H' { s' with heap := h3 } := J.landed nb fl3.1 (up.trans up3) os ag
    obtain ⟨oe3, vs3, he3, hz3, hd3⟩ := fl3.there
    have notFr : ∀ {h : Heap} {o : Obj} {vs : Array Value}, h.FunFrames B (X.env :: X.outer) → h.get? a = some o → o.data = .fields vs → a ∉ frs (X.env :: X.outer) := fun {h o vs} ff e dd hm => by
      obtain ⟨_, o', e', hnf⟩ := ff.mem hm
      rw [e] at e'; cases e'
      exact hnf _ dd
    have nfr := notFr fl3.2.2.1 he3 hd3
    have nL : a ≠ X.env.locals := fun z => nfr (List.mem_filterMap.mpr ⟨X.env, List.mem_cons_self, by rw [hf, z]⟩)
    have nF : a ∉ X.fs := fun hm => by
      obtain ⟨e, he, q⟩ := List.mem_filterMap.mp hm
      exact nfr (List.mem_filterMap.mpr ⟨e, List.mem_cons_of_mem _ he, q⟩)
    have S3 := J3.suite he3 hd3 na nL nF
    have go : ∀ {hds' : List ExceptHandler} {l' : List (Value × Nat × (Addr → Value → Option Addr → TS))}, HdA X hds' l' → wTry X.K Wout D l' cls d σ' H' →
        wpAny (model X.prog X.w) X.A (handleBy (.ref a) X.env hds') (SP X pins D) X.xe { s' with heap := h3 } := by
      intro hds' l' hk
      induction hk with
      | nil =>
        intro w
        refine wpAny_handleBy_nil ?_
        obtain ⟨k1, k2, k3, oe, vs, T, oT, ts', he, hz, hd, h1, hr⟩ := id fl3
        unfold PySem.passOn
        refine wpAny_bind (wpAny_field he hd h1 ?_)
        rw [if_neg (show ¬ ((Value.ref T == Value.none) = true) from by simp)]
        have fin : wpAny (model X.prog X.w) X.A (setFlight (.ref a) X.env.frame) (fun _ s4 => wpAny (model X.prog X.w) X.A (throw (.ref a) : Sem Flow) (SP X pins D) X.xe s4) X.xe { s' with heap := h3 } := by
          rw [hf]
          refine HandSPX.setFlight_upZ fl3 fun h4 hh4 up4 => wpAny_throw (tk _ _ ?_)
          exact ⟨a, B, sI, pins, σ', H', cls, d, rfl, J, nb, (up.trans up3).trans up4, .inr (.inr (by rw [hs]; exact hh4)), na, os, ag, w⟩
        first
          | exact wpAny_bind (wpAny_pure (wpAny_bind fin))
          | exact wpAny_bind fin
      | @cons x n c i ts b₀ suite np pos' hds2 l2 hc hi hln hsu r ih =>
        intro w
        obtain ⟨b, hb1, hyes, hno⟩ := w
        refine wpAny_handleBy_cons (codeAny_handlers_test ?_) (by intro q; cases q)
        have LT : PySem.W.Looks (model X.prog X.w) h3 (typeOf (.ref a)) cls := fun A Q E s k q => wpAny_typeOf_ref (k _ _ he3) (by rw [hz3.1]; exact q)
        have LM := PySem.W.exm_one (M := model X.prog X.w) (J3.kIn) LT hb1
        have test : ∀ {Q : Value → Shared → Prop} {E : Value → Shared → Prop}, Q c { s' with heap := h3 } → wpAny (model X.prog X.w) (X.A.mark (some (.ref a))) (eval (.Name x np) X.env) Q E { s' with heap := h3 } := fun {Q E} q => by
          obtain ⟨hg, hdbg, hm | ⟨hm, hv, hnn⟩⟩ := hc
          · exact ld_glob (X := X.suite a ((a, oe3) :: (X.pn ++ pins))) S3 hg hm q hdbg
          · exact ld_blt (X := X.suite a ((a, oe3) :: (X.pn ++ pins))) S3 hg hm hv q hnn hdbg
        refine test (LM.here ?_)
        cases b with
        | true =>
          have hloc : Loc X.env.scope n := .inl hln
          refine codeAny_handlers_suite_as ?_
          refine HandSPX.lands_againZ fl3 fun h4 fl4 up4 => ?_
          have J4 : Inv X pins σ' H' { s' with heap := h4 } := J.landed nb fl4.1 ((up.trans up3).trans up4) os ag
          obtain ⟨oe4, vs4, he4, hz4, hd4⟩ := fl4.there
          have S4 := J4.suite he4 hd4 na nL nF
          refine store_ok (X := X.suite a ((a, oe4) :: (X.pn ++ pins))) (v := .ref a) S4 hN hi hloc rfl (fun s5 S5 => ?_) (.inr hln)
          refine wpAny_mono ((hsu a oe4 cls d (X.pn ++ pins) hz4 ⟨_, hd4⟩).run [] s5 _ H' _ S5 (hyes rfl a na)) (fun f s6 hsp => ?_) (fun _ _ z => False.elim z)
          have end_ : ∀ {σ6 : L2.St} {H6 : Hp} {Q : Shared → Prop}, Inv (X.suite a ((a, oe4) :: (X.pn ++ pins))) [] σ6 H6 s6 → (∀ s7, Inv X pins (σ6.set i none) H6 s7 → Q s7) →
              wpAny (model X.prog X.w) X.A (do bindName X.env n .none; unbindBehindTheSuite X.env n pos') (fun _ s7 => Q s7) X.xe s6 := fun {σ6 H6 Q} S6 hq => gone_ok (S6.unsuite ok) hN hi hln hq
          cases f with
          | next =>
            obtain ⟨σ6, H6, S6, q6⟩ := hsp
            exact end_ S6 fun s7 J7 => ⟨_, _, J7, q6⟩
          | brk =>
            obtain ⟨σ6, H6, S6, q6⟩ := hsp
            exact end_ S6 fun s7 J7 => ⟨_, _, J7, q6⟩
          | cont =>
            obtain ⟨σ6, H6, S6, q6⟩ := hsp
            exact end_ S6 fun s7 J7 => ⟨_, _, J7, q6⟩
          | ret u =>
            obtain ⟨v6, σ6, H6, S6, r6, q6⟩ := hsp
            exact end_ S6 fun s7 J7 => ⟨_, _, _, J7, r6, q6⟩
        | false =>
          show wpAny _ X.A (handleBy (.ref a) X.env hds2) _ _ _
          exact ih (hno rfl)
    exact go hh w
  · cases f with
    | next =>
      obtain ⟨σ', H', J', q⟩ := hsp
      exact wpAny_execs_nil ⟨σ', H', J'.ofTry ok, q⟩
    | brk =>
      obtain ⟨σ', H', J', q⟩ := hsp
      exact ⟨σ', H', J'.ofTry ok, q⟩
    | cont =>
      obtain ⟨σ', H', J', q⟩ := hsp
      exact ⟨σ', H', J'.ofTry ok, q⟩
    | ret u =>
      obtain ⟨v, σ', H', J', r, q⟩ := hsp
      exact ⟨v, σ', H', J'.ofTry ok, r, q⟩
end

/-! ### facts of the exception classes -/
structure Fe (Γ : Ctx) : Prop where
  f0 : ∀ c, Γ.T.x0 c = true → PySem.W.excIn Γ.K (Γ.ca c) He.veBase "ValueError.__new__" = true ∧ PySem.W.keepIn Γ.K (.ref (Γ.ca c)) = true ∧ PySem.W.subIn Γ.K (.ref (Γ.ca c)) (.type "BaseException") = some true ∧ PySem.W.typeIn Γ.K (.ref (Γ.ca c)) = some (.type "type")
  f1 : ∀ c f, Γ.T.x1 c f = true → SupF Γ.P Γ.K (Γ.ca c) (Γ.nm f)
  fm : ∀ c c', Γ.T.xc c = true → Γ.T.xc c' = true → PySem.W.exmOne Γ.K (.ref (Γ.ca c)) (.ref (Γ.ca c')) = some (Γ.T.sub c c')
  fk : ∀ c c', Γ.T.xc c = true → Γ.T.xc c' = true → PySem.W.kitOne Γ.K (.ref (Γ.ca c)) (.ref (Γ.ca c')) = some (Γ.T.sub c c')
  fb : ∀ c, Γ.T.xc c = true → PySem.W.kitOne Γ.K (.ref (Γ.ca c)) (.type "ValueError") = some (Γ.T.exb c "ValueError")
  fg : ∀ c, Γ.T.xc c = true → ExcC Γ.K (Γ.ca c)
  ff : ∀ c f, Γ.T.x1 c f = true → XfC Γ.K (Γ.ca c) ∧ PySem.W.findIn Γ.K (.ref (Γ.ca c)) (Γ.nm f) = some none
section
variable {Γ : Ctx} {D : Pd} {en : En} {S S1 S2 : Sn} {H H1 H2 : Hp} {env : LI.Env} {σ : L2.St} {Wx : WX}
variable {N : List Str} {sc : Scope} {k : Nat} {X : Cx} {ea : Expr} {pos p p2 : Pos} {ra : Sto → R W} {e : Expr} {rd : LI.Env → Sto → R W}

theorem ss_raise0 {c : Nat} {x m : Str} {j : Nat} {pos' : Pos} (C : XC Γ Wx N sc k X) (hc : X.calm = true) (F : Fe Γ) (h0 : Γ.T.x0 c = true) (hg : sc.names.lookup x = some .globalImplicit) (hm : Γ.mg x = some (.ref (Γ.ca c))) (hd : (x == ("__debug__" : Str)) = false) :
    PS X (.Raise (some (.Call (.Name x p) [.Constant (.str m) j p2] [] pos)) none pos') (tS Γ Wx en fun env s => .ex ⟨c, [], []⟩ env s) := by
  obtain ⟨h1, h2, h3, h4⟩ := F.f0 c h0
  refine PS.mono (ps_raise hc C.tk (pmk_own PySem.F.excBase_ValueError (by rw [C.eK]; exact h1) (by rw [C.eM]; exact hm) (by rw [C.eK]; exact h2) (raises_own (by rw [C.eK]; exact h3) (by rw [C.eK]; exact h4)) (C.gl hg) hd)) ?_
  rintro D σ H ⟨S, env, fr, hr, sl, h⟩
  exact h S H σ _ none rfl Gr.refl fr hr sl ⟨rfl, rfl, fun _ => rfl, fun z => absurd rfl z⟩
theorem ss_raise1 {c f : Nat} {x : Str} {pos' : Pos} (C : XC Γ Wx N sc k X) (hc : X.calm = true) (F : Fe Γ) (h1 : Γ.T.x1 c f = true) (hg : sc.names.lookup x = some .globalImplicit) (hm : Γ.mg x = some (.ref (Γ.ca c))) (hd : (x == ("__debug__" : Str)) = false) (hms : Γ.mg "super" = none)
    (hp : plainA e = true) (he : PE X e (tX Γ Wx en rd (pRep Γ))) :
    PS X (.Raise (some (.Call (.Name x p) [e] [] pos)) none pos') (tS Γ Wx en fun env s => (rd env s).stm env fun w s1 => .ex ⟨c, [f], [w]⟩ env s1) := by
  have hY := F.f1 c f h1
  have hdp : X.A.depth + 1 < recursionLimit := by have := (C.rm hc).dp; omega
  refine PS.mono (ps_raise hc C.tk (pmk_sup (by rw [C.eP, C.eK]; exact hY) (by rw [C.eM]; exact hms) hdp (C.gl hg) (by rw [C.eM]; exact hm) he hd hp)) ?_
  rintro D σ H ⟨S, env, fr, hr, sl, h⟩
  refine ⟨env, S, hr, sl, RP.mono (stm_seq sl hr fr h) fun w S1 H1 fr1 hr1 ⟨f1, sl1, h1⟩ v rv d hdn => ?_⟩
  have fr2 := hr1.frNewO (o := .xd [(Γ.nm f, v)]) hdn
  refine h1 S1 _ σ _ (some d) rfl Gr.refl (f1.trans fr2) (hr1.newO hdn) (sl1.mono hr1 fr2) ⟨rfl, rfl, fun z => (by cases z), fun _ => ⟨d, [v], rfl, upd_same, Reps.cons rv Reps.nil⟩⟩

/-! ### try -/
def En.exc (en : En) (a : Addr) (cls : Value) (d : Option Addr) : En := { en with xr := some (a, cls, d) }
theorem SlR.toX (sl : SlR Γ en S H env σ) (h0 : en.xr = none) {a : Addr} {cls : Value} {d : Option Addr} {i : Nat} {x : Xn} (xr : XR Γ S H x cls d) : SlR Γ (en.exc a cls d) S H (env.set i (.exn x.c x.ks x.fs)) (σ.set i (some (.ref a))) := by
  refine ⟨by rw [List.length_set, List.length_set]; exact sl.len, fun j s o e1 e2 => ?_, fun j l xs ys a e1 e2 e3 e4 => ?_, one_set sl.one fun _ _ _ z => by cases z⟩
  · by_cases q : i = j
    · subst q
      have h1 : i < env.length := by have := (List.getElem?_eq_some_iff.mp e1).1; rwa [List.length_set] at this
      rw [List.getElem?_set_self h1] at e1
      rw [List.getElem?_set_self (by rw [← sl.len]; exact h1)] at e2
      cases e1; cases e2
      exact ⟨a, cls, d, rfl, rfl, xr⟩
    · rw [List.getElem?_set_ne q] at e1 e2
      have z := sl.at_ j s o e1 e2
      cases s with
      | exn c ks fs => obtain ⟨b, cls', d', e3, _⟩ := z; rw [h0] at e3; cases e3
      | un => exact z
      | v w => exact z
      | own xs => exact z
      | self c ks fs => exact z
  · have n1 : i ≠ j := fun q => by
      subst q
      have h1 : i < env.length := by have := (List.getElem?_eq_some_iff.mp e1).1; rwa [List.length_set] at this
      rw [List.getElem?_set_self h1] at e1; cases e1
    have n2 : i ≠ l := fun q => by
      subst q
      have h1 : i < env.length := by have := (List.getElem?_eq_some_iff.mp e2).1; rwa [List.length_set] at this
      rw [List.getElem?_set_self h1] at e2; cases e2
    rw [List.getElem?_set_ne n1] at e1 e3
    rw [List.getElem?_set_ne n2] at e2 e4
    exact sl.dis j l xs ys a e1 e2 e3 e4
theorem noX_at : ∀ {env : LI.Env} {i : Nat} {c : Nat} {ks : List Nat} {fs : List W}, noX env = true → env[i]? = some (.exn c ks fs) → False
  | [], i, _, _, _, _, h => by simp at h
  | s :: r, 0, c, ks, fs, h, e => by
    simp at e; subst e
    cases h
  | s :: r, i + 1, c, ks, fs, h, e => by
    have h' : noX r = true := by
      cases s with
      | exn _ _ _ => cases h
      | un => exact h
      | v w => exact h
      | own xs => exact h
      | self c ks fs => exact h
    exact noX_at h' (by simpa using e)
theorem SlR.ofX {a : Addr} {cls : Value} {d : Option Addr} (sl : SlR Γ (en.exc a cls d) S H env σ) (h : noX env = true) : SlR Γ en S H env σ :=
  ⟨sl.len, fun j s o e1 e2 => by
    have z := sl.at_ j s o e1 e2
    cases s with
    | exn c ks fs => exact (noX_at h e1).elim
    | un => exact z
    | v w => exact z
    | own xs => exact z
    | self c ks fs => exact z, sl.dis, sl.one⟩
/-- the clauses' readings -/
def lOf (Γ : Ctx) (cf : Call) (ci : CallI) (en : En) : Hds → List (Value × Nat × (Addr → Value → Option Addr → TS))
  | .nil => []
  | .cons c i b r => (.ref (Γ.ca c), i, fun a cls d => tS Γ WF (en.exc a cls d) fun env s => exSs Γ.T cf ci b env s) :: lOf Γ cf ci en r
theorem exH_ok {cf : Call} {ci : CallI} {x : Xn} {cls : Value} {d : Option Addr} {D : Ends} (F : Fe Γ) (h0 : en.xr = none) (fr : FrE en S H) (hr : HR Γ S H) (sl : SlR Γ en S H env σ) (xr : XR Γ S H x cls d) :
    ∀ {hs : Hds}, RPS Γ Wx en S (exH Γ.T cf ci hs x env S.S) D → wTry Γ.K Wx D (lOf Γ cf ci en hs) cls d σ H
  | .nil, h => h S H σ cls d rfl Gr.refl fr hr sl xr
  | .cons c i b r, h => by
    rw [exH] at h
    split at h
    · rename_i hx
      rw [Bool.and_eq_true] at hx
      have hm := F.fm _ _ hx.1 hx.2
      refine ⟨_, by rw [xr.cls]; exact hm, fun e a ha => ?_, fun e => ?_⟩
      · rw [if_pos e] at h
        refine ⟨S, env.set i (.exn x.c x.ks x.fs), fr, hr, sl.toX h0 xr, ?_⟩
        dsimp only
        cases q : exSs Γ.T cf ci b (env.set i (.exn x.c x.ks x.fs)) S.S with
        | no => rw [q] at h; exact h
        | ex y e1 s1 => rw [q] at h; exact h.elim
        | ok o e1 s1 =>
          rw [q] at h
          dsimp only at h
          split at h
          · rename_i hn
            rintro S' H' σ' es g fr' hr' sl'
            have z := h S' H' (σ'.set i none) es g fr' hr' ((sl'.setUn (o := none)).ofX hn)
            cases o with
            | nx => exact z
            | bk => exact z
            | ct => exact z
            | rt w => exact z
          · exact h.elim
      · rw [if_neg (by rw [e]; exact Bool.false_ne_true)] at h
        exact exH_ok F h0 fr hr sl xr h
    · exact h.elim
theorem ss_try {cf : Call} {ci : CallI} {body : List Stmt} {h₀ : ExceptHandler} {hds : List ExceptHandler} {b : Sts} {hs : Hds} (C : XC Γ Wx N sc k X) (F : Fe Γ) (h0 : en.xr = none) (hst : X.stack = X.env :: X.outer) (hf : X.env.frame = some X.env.locals)
    (hb : ∀ (W : WX) (pn : List (Addr × Obj)) (xe : Value → Shared → Prop), Takes (X.tr pn xe) W → PassesOwn (model X.prog X.w) X.A X.env xe → PSs (X.tr pn xe) body (tS Γ W en fun env s => exSs Γ.T cf ci b env s))
    (hh : HdA X (h₀ :: hds) (lOf Γ cf ci en hs)) :
    PS X (.Try body (h₀ :: hds) [] [] pos) (tS Γ Wx en fun env s => match exSs Γ.T cf ci b env s with
      | .ex x env1 s1 => exH Γ.T cf ci hs x env1 s1
      | r => r) := by
  refine PS.mono (ps_tryN (tb := fun W => tS Γ W en fun env s => exSs Γ.T cf ci b env s) hst hf (by rw [C.eN]; exact C.nd) C.tk hb hh) ?_
  rintro D σ H ⟨S, env, fr, hr, sl, h⟩
  refine ⟨S, env, fr, hr, sl, ?_⟩
  dsimp only at h ⊢
  cases q : exSs Γ.T cf ci b env S.S with
  | no => rw [q] at h; exact h
  | ok o e1 s1 => rw [q] at h; exact h
  | ex x e1 s1 =>
    rw [q] at h
    rintro S' H' σ' cls d es g fr' hr' sl' xr
    subst es
    rw [C.eK]
    exact exH_ok F h0 fr' hr' sl' xr (RPS.shiftG (r := exH Γ.T cf ci hs x e1 S'.S) h g)
end
end LI
end
section
set_option Elab.async false
set_option linter.all false
set_option maxRecDepth 100000
set_option maxHeartbeats 4000000
/-! LiXis: isinstance and an attribute of the exception that a suite handles. -/
namespace LI
open PySem PySem.Spec PySem.Calls PyProof.Rows PySem.W
section
variable {prog : Program} {w : World} {A : Around} {E : Value → Shared → Prop} {s : Shared} {K : Frag} {x D : Addr} {ox : Obj} {od : Option Obj}
/-- a data descriptor of the class, whatever the object's own dict says -/
theorem findObj_dd {C : Addr} {name : Str} {a g : Value} (hc : (clsIn K C).isSome = true) (ha : findIn K (.ref C) name = some (some a)) (hg : specialIn K a "__get__" = some (some g)) (ht : takesIn K a = some true) : findObj K C od name = some (.bind g a) := by
  obtain ⟨cd, hc⟩ := Option.isSome_iff_exists.mp hc
  unfold findObj
  rw [hc, Option.bind_some, ha, Option.bind_some]
  simp [hg, ht]
theorem kin_classD {Q : Option Value → Shared → Prop} (hga : findIn K (.ref D) "__getattribute__" = some (some (.builtin "BaseException.__getattribute__"))) (hgt : findIn K (.ref D) "__getattr__" = some none) (hsub : subIn K (.ref D) (.type "BaseException") = some true)
    (hdct : hasDictIn K D = true) (ha : findIn K (.ref D) "__class__" = some (some (.builtin "object.__class__")))
    (hn : specialIn K (.builtin "object.__class__") "__get__" = some (some (.builtin "getset_descriptor.__get__"))) (htk : takesIn K (.builtin "object.__class__") = some true) (hm : mroIn K D (.type "object") = some true)
    (X : K.In s.heap) (I : InstAt s.heap x ox D od) (h : Q (some (.ref D)) { s with toks := s.toks + 1 }) : wpAny (model prog w) A (getAttr? (.ref x) "__class__") Q E s := by
  have hf : findObj K D od "__class__" = some (.bind (.builtin "getset_descriptor.__get__") (.builtin "object.__class__")) := findObj_dd (by obtain ⟨cd, hc, _⟩ := any_some hdct; rw [hc]; rfl) ha hn htk
  obtain ⟨hp, g, d, t, os⟩ := s
  have L0 := I.type (M := model prog w)
  have L1 := looks_findIn (M := model prog w) X hga
  have L2 := looks_findIn (M := model prog w) X hgt
  have L3 := looks_find (M := model prog w) X I hf
  have sub : Looks (model prog w) hp (isInstance (.ref x) (.type "BaseException")) true := L0.andThen (looks_subIn X hsub)
  have hx0 : (false && onTheHeap (Value.builtin "BaseException.__getattribute__")) = false := rfl
  have hx2 : (Value.builtin "BaseException.__getattribute__" == Value.builtin "object.__getattribute__") = false := by decide +kernel
  have hx1 : (onTheHeap (Value.ref D) && Value.builtin "BaseException.__getattribute__" == Value.builtin "object.__getattribute__") = false := by rw [hx2]; rfl
  unfold getAttr? getAttrBy? getAttrBy
  refine wpAny_bind (wpAny_mkText (wpAny_bind (wpAny_attempt (wpAny_holding (wpAny_bind (L0.at (wpAny_bind (L1.at ?_))))))))
  show wpAny _ _ (if (onTheHeap (Value.ref D) && Value.builtin "BaseException.__getattribute__" == Value.builtin "object.__getattribute__") = true then _ else _) _ _ _
  rw [hx1, if_neg Bool.false_ne_true]
  unfold getAttrByItsOwn hookBefore
  refine wpAny_bind ?_
  rw [if_pos (show onTheHeap (Value.ref D) = true from rfl)]
  refine L2.at ?_
  refine wpAny_bind (wpAny_attempt (wpAny_holding ?_))
  unfold callGetattribute
  rw [hx0, if_neg Bool.false_ne_true]
  unfold boundAndCalled
  rw [PySem.F.excAttr_ValueError.ga.bind (.ref x)]
  refine wpAny_bind (wpAny_pure ?_)
  show wpAny _ _ (call (.builtin "BaseException.__getattribute__") [.ref x, .str "__class__" t]) _ _ _
  refine wpAny_call (codeAny_call_builtin PySem.F.excAttr_ValueError.ga.plain PySem.F.entry_bexc_ga ?_)
  refine @check_slot (model prog w) _ _ ⟨hp, g, d, t + 1, os⟩ "BaseException.__getattribute__" "BaseException" "__getattribute__" (.ref x) [.str "__class__" t] [] _ (by decide +kernel) (by decide +kernel) sub (PySem.F.args_bexc_ga (.ref x) (.str "__class__" t)) ?_
  unfold Builtin.«object.__getattribute__»
  refine wpAny_bind (wpAny_of_eq (a := ((Value.ref x : Value), [Value.str "__class__" t])) (by first | rfl | (simp only [slotArgs]; rfl)) ?_)
  refine wpAny_bind (wpAny_pure (wpAny_bind (L0.at (wpAny_bind (L3.at ?_)))))
  show wpAny _ _ (holding [Value.builtin "object.__class__"] (call (.builtin "getset_descriptor.__get__") [.builtin "object.__class__", .ref x, .ref D]) >>= ret) _ _ _
  refine wpAny_bind (wpAny_holding (wpAny_call (class_get (s := ⟨hp, g, d, t + 1, os⟩) (ox := ox) (od := od) X I hm ?_)))
  refine wpAny_pure ?_
  show wpAny _ _ (handedOut (.ref D)) _ _ _
  rw [handedOut_of (v := .ref D) rfl]
  first
    | exact wpAny_pure (wpAny_pure h)
    | exact wpAny_pure h
    | exact wpAny_pure (wpAny_bind (wpAny_pure (wpAny_pure h)))
theorem kitx_xc (Y : L2.ExcC K D) : KitX K (.ref x) (.ref D) (fun h => ∃ od, InstAt h x ox D od) where
  ty := fun _ _ _ ⟨_, I⟩ => I.type
  it := fun _ _ X _ => by
    obtain ⟨cdD, hcD, _⟩ := any_some Y.hd
    unfold clsIn at hcD
    split at hcD
    · rename_i c' d' cd' sl' ho
      intro A' Q' E' s' k q
      unfold isType loadHead
      exact wpAny_bind (wpAny_loadPart (k _ _ (X _ _ ho)) (wpAny_pure q))
    · cases hcD
  ne := fun h tp dd its n sl X htp => by
    obtain ⟨cdD, hcD, _⟩ := any_some Y.hd
    refine Bool.eq_false_iff.mpr fun q => ?_
    have e : D = tp := Value.ref.inj (beq_iff_eq.mp q)
    subst e
    unfold clsIn at hcD
    split at hcD
    · rename_i c' d' cd' sl' ho
      have z := (X _ _ ho).symm.trans htp
      cases z
    · cases hcD
  ca := fun X ⟨_, I⟩ k => kin_classD Y.hg Y.hk Y.hs Y.hd Y.ha Y.hn Y.ht Y.hm X I k
end
end LI
namespace LI
open PySem PySem.Spec PyProof.Rows L2
/-- the suite that handles -/
structure XS (en : En) (X : Cx) : Prop where
  ex : ∃ (X0 : Cx) (a : Addr) (oe : Obj) (cls : Value) (d : Option Addr) (pn : List (Addr × Obj)), X = X0.suite a ((a, oe) :: pn) ∧ en.xr = some (a, cls, d) ∧ Zc cls d oe ∧ ∃ vs, oe.data = .fields vs
section
variable {Γ : Ctx} {D : Pd} {en : En} {S S1 S2 : Sn} {H H1 H2 : Hp} {env : LI.Env} {σ : L2.St} {Wx : WX}
variable {N : List Str} {sc : Scope} {k : Nat} {X : Cx} {ea : Expr} {pos p p2 : Pos} {ra : Sto → R W} {e : Expr} {rd : LI.Env → Sto → R W}
theorem se_xfld {i f : Nat} {x n : Str} (C : XC Γ Wx N sc k X) (F : Fe Γ) (nmI : ∀ i j, Γ.nm i = Γ.nm j → i = j) (xs : XS en X) (hx : Γ.nm f = n) (hi : N[i]? = some x) (hv : Vis sc x) (hd : (x == ("__debug__" : Str)) = false) (hcd : (x == ("__classdict__" : Str)) = false) :
    PE X (.Attribute (.Name x p) n pos) (tR Γ Wx en env (vXfld Γ.T env i f) (pRep Γ)) := by
  subst hx
  refine ⟨fun pins s σ H Q I h => ?_⟩
  obtain ⟨S, hr, sl, h⟩ := h
  unfold vXfld at h
  split at h
  · rename_i c ks fs e0
    split at h
    · rename_i h1
      obtain ⟨o, eo, a', cls', d', exr, rfl, xr⟩ := sl.slot e0
      obtain ⟨X0, a, oe, cls, d, pn, eX, e2, hz, hf⟩ := xs.ex
      rw [e2] at exr
      cases exr
      obtain ⟨T, hno⟩ := F.ff c f h1
      obtain ⟨w, e3, q⟩ := h.retO hr
      have he : PE X (.Name x p) (tVar i) := pe_var (i := i) (by rw [C.eN]; exact hi) (by rw [C.eS]; exact hv) hd hcd
      have eK := C.eK
      subst eX
      have hks : ks ≠ [] := fun z => by subst z; cases fs <;> cases e3
      obtain ⟨dd, vs, e4, hdd, rs⟩ := xr.some hks
      have hl : ks.length = fs.length := xr.len
      obtain ⟨v, e5, rv⟩ := (lookup_fld nmI f rs hl).1 w e3
      refine (pe_xf (T := by rw [eK]; exact T) (by rw [eK]; exact hno) hz hf he (plainO_ok rfl)).run pins s σ H Q I ⟨_, eo, rfl, xr.cls, dd, _, v, e4, hdd, e5, q v rv⟩
    · exact h.elim
  · exact h.elim

/-- isinstance(e, c), isinstance(e, (c1, c2, ..)): e the exception that the suite holds -/
def rIsX (K : PySem.W.Frag) (D a : Addr) : List V → Hp → VK → Prop := fun xs H Q => ∃ b, Q (.bl b) H ∧ ((∃ c u, xs = [.ref a, c] ∧ ClsV c u ∧ PySem.W.kitOne K (.ref D) u = some b) ∨
  ∃ tp cs us, xs = [.ref a, .ref tp] ∧ H tp = some (.tup cs) ∧ Paired ClsV cs us ∧ PySem.W.kitAny K (.ref D) us = some b)
theorem inst_at {X : Cx} {a D : Addr} {oe : Obj} {d : Option Addr} {pn pins : List (Addr × Obj)} {σ : L2.St} {H : Hp} {s : Shared} (I : Inv (X.suite a ((a, oe) :: pn)) pins σ H s) (hz : Zc (.ref D) d oe) (hf : ∃ vs, oe.data = .fields vs) (hd : ∀ dd, d = some dd → ∃ fs, H dd = some (.xd fs)) : ∃ od, PySem.W.InstAt s.heap a oe D od := by
  obtain ⟨hget, _⟩ := I.pin (a, oe) (List.mem_append.mpr (.inl List.mem_cons_self))
  obtain ⟨vs, hv⟩ := hf
  have hn : PySem.W.notCls oe = true := by unfold PySem.W.notCls; rw [hv] <;> rfl
  cases d with
  | none => exact ⟨none, hget, hz.1, hn, by rw [hz.2]; trivial⟩
  | some dd =>
    obtain ⟨fs, h⟩ := hd dd rfl
    obtain ⟨mA, hns, hr⟩ := (show ObjOk X.prog X.w H s.heap dd (.xd fs) from I.hok dd _ h)
    obtain ⟨od, ho, hl⟩ := lookIn_ns hns
    exact ⟨some od, hget, hz.1, hn, by rw [hz.2]; exact ho⟩
theorem call_isX {X : Cx} {a D : Addr} {oe : Obj} {d : Option Addr} {pn : List (Addr × Obj)} (Y : ExcC X.K D) (hz : Zc (.ref D) d oe) (hf : ∃ vs, oe.data = .fields vs) :
    CallR (X.suite a ((a, oe) :: pn)) (.builtin "isinstance") (fun xs H Q => (∀ dd, d = some dd → ∃ fs, H dd = some (.xd fs)) ∧ rIsX X.K D a xs H Q) := by
  intro pins s σ H xs us Q I r ⟨hd, b, q, h⟩
  have J := inst_at I hz hf hd
  rcases h with ⟨c, u, rfl, k, e⟩ | ⟨tp, cs, ws, rfl, hT, k, e⟩
  · obtain ⟨u1, u2, rfl, r1, r2⟩ := vals2 r
    cases r1
    have e2 := k.eq r2
    subst e2
    exact PySem.W.kia_one (kitx_xc Y) I.kIn J e (fun z => nomatch z) fun tk => ⟨.bl b, H, I.kept (t' := tk) fun _ _ z => z, rfl, q⟩
  · obtain ⟨u1, u2, rfl, r1, r2⟩ := vals2 r
    cases r1
    cases (show u2 = Value.ref tp from r2)
    obtain ⟨_, its, rv, o, h1, h2, n, h3⟩ := (show ObjOk X.prog X.w H s.heap tp (.tup cs) from I.hok tp _ hT)
    have e3 := ClsV.all k rv
    subst e3
    obtain ⟨oc, od, dt, sl⟩ := o
    simp only at h2 h3
    subst h2 h3
    exact PySem.W.kia_tup (kitx_xc Y) I.kIn J h1 e (fun z => nomatch z) fun tk => ⟨.bl b, H, I.kept (t' := tk) fun _ _ z => z, rfl, q⟩
/-- a class by its name -/
def tyV (Γ : Ctx) : Ty → V
  | .cls c => .ref (Γ.ca c)
  | .ty n => .ty n
def tyU (Γ : Ctx) : Ty → Value
  | .cls c => .ref (Γ.ca c)
  | .ty n => .type n
theorem tyV_cls {t : Ty} : ClsV (tyV Γ t) (tyU Γ t) := by
  cases t with
  | cls c => exact .own _
  | ty n => exact .ty n
/-- an expression that names a class -/
def TyE (X : Cx) (Γ : Ctx) (e : Expr) (t : Ty) : Prop := PE X e (tC (tyV Γ t)) ∧ plainA e = true
inductive TysE (X : Cx) (Γ : Ctx) : List Expr → List Ty → Prop
  | nil : TysE X Γ [] []
  | cons {e : Expr} {t : Ty} {es : List Expr} {ts : List Ty} (h : TyE X Γ e t) (r : TysE X Γ es ts) : TysE X Γ (e :: es) (t :: ts)
def tConst (vs : List V) : TA := fun _ H Q => Q vs H
theorem TysE.pa : ∀ {es : List Expr} {ts : List Ty}, TysE X Γ es ts → PA X es (tConst (ts.map (tyV Γ))) ∧ es.all plainA = true
  | _, _, .nil => ⟨pa_nil, rfl⟩
  | _, _, .cons h r => by
    obtain ⟨h1, h2⟩ := TysE.pa r
    exact ⟨PA.mono (pa_cons h.1 h1 (starEach_ok h.2)) fun σ H Q q => q, by rw [List.all_cons, h.2, h2]; rfl⟩
theorem TysE.cls : ∀ {ts : List Ty}, Paired ClsV (ts.map (tyV Γ)) (ts.map (tyU Γ))
  | [] => .nil
  | t :: ts => .cons tyV_cls TysE.cls
theorem kit_x (F : Fe Γ) {c : Nat} {t : Ty} (hc : Γ.T.xc c = true) (ht : okXTy Γ.T t = true) : PySem.W.kitOne Γ.K (.ref (Γ.ca c)) (tyU Γ t) = some (isXTy Γ.T c t) := by
  cases t with
  | cls d => exact F.fk _ _ hc ht
  | ty n =>
    have hn : n = "ValueError" := of_decide_eq_true ht
    subst hn
    exact F.fb _ hc
theorem kit_xs (F : Fe Γ) {c : Nat} (hc : Γ.T.xc c = true) : ∀ {ts : List Ty}, ts.all (okXTy Γ.T) = true → PySem.W.kitAny Γ.K (.ref (Γ.ca c)) (ts.map (tyU Γ)) = some (ts.any (isXTy Γ.T c))
  | [], _ => rfl
  | t :: ts, h => by
    rw [List.all_cons, Bool.and_eq_true] at h
    have h1 := kit_x F hc h.1
    have h2 := kit_xs F hc h.2
    rw [List.map_cons, List.any_cons]
    refine kitAny_cons h1 (fun e => by rw [e, Bool.false_or]; exact h2) fun e => by rw [e, Bool.true_or]
/-- what isinstance's second argument says -/
inductive IsArg (X : Cx) (Γ : Ctx) : Expr → List Ty → Prop
  | one {e : Expr} {t : Ty} (h : TyE X Γ e t) : IsArg X Γ e [t]
  | tup {es : List Expr} {ts : List Ty} {kk : Nat} {p : Pos} (h : TysE X Γ es ts) (hl : ts.length ≤ 1000) : IsArg X Γ (.Tuple es kk p) ts
theorem se_xisi {i : Nat} {x : Str} {ts : List Ty} (C : XC Γ Wx N sc k X) (F : Fe Γ) (xs : XS en X) (hi : N[i]? = some x) (hv : Vis sc x) (hd : (x == ("__debug__" : Str)) = false) (hcd : (x == ("__classdict__" : Str)) = false) (hx : Free Γ sc "isinstance")
    (ha : IsArg X Γ ea ts) : PE X (.Call (.Name "isinstance" p) [.Name x p2, ea] [] pos) (tR Γ Wx en env (vXisi Γ.T env i ts) (pRep Γ)) := by
  refine ⟨fun pins s σ H Q I h => ?_⟩
  obtain ⟨S, hr, sl, h⟩ := h
  unfold vXisi at h
  split at h
  · rename_i c ks fs e0
    split at h
    · rename_i hk
      rw [Bool.and_eq_true] at hk
      obtain ⟨o, eo, a', cls', d', exr, rfl, xr⟩ := sl.slot e0
      obtain ⟨X0, a, oe, cls, d, pn, eX, e2, hz, hf⟩ := xs.ex
      rw [e2] at exr
      injection exr with exr
      injection exr with q1 q2
      injection q2 with q2 q3
      subst q1 q2 q3
      have hcl := xr.cls
      subst hcl
      have he : PE X (.Name x p2) (tVar i) := pe_var (i := i) (by rw [C.eN]; exact hi) (by rw [C.eS]; exact hv) hd hcd
      have hg := hx.gl C
      have hm := hx.mg C
      have eK := C.eK
      have hdd : ∀ dd, d = some dd → ∃ fs, H dd = some (.xd fs) := fun dd e => by
        by_cases hks : ks = []
        · rw [xr.none hks] at e; cases e
        · obtain ⟨dd', vs, e4, h4, _⟩ := xr.some hks
          rw [e] at e4; cases e4
          exact ⟨_, h4⟩
      have hq : ∀ {H'}, Fr S H S H' → HR Γ S H' → Q (.bl (ts.any (isXTy Γ.T c))) H' := fun {H'} fr' hr' => h S H' rfl fr' hr' _ rfl
      subst eX
      have cr := call_isX (X := X0) (a := a) (pn := pn) (by rw [eK]; exact F.fg c hk.1) hz hf
      cases ha with
      | one ht =>
        refine (pe_callB cr hg hm (by decide +kernel) (pa_cons he (pa_cons ht.1 pa_nil (starEach_ok ht.2)) rfl) (by decide) (by decide) rfl (by rw [starEach_ok ht.2]; rfl)).run pins s σ H Q I ⟨_, eo, hdd, _, hq Fr.refl hr, .inl ⟨_, _, rfl, tyV_cls, ?_⟩⟩
        rw [eK]
        have := kit_x F hk.1 (show okXTy Γ.T _ = true by have := hk.2; simpa using this)
        rw [this]
        simp
      | tup ht hl =>
        obtain ⟨h1, h2⟩ := ht.pa
        refine (pe_callB cr hg hm (by decide +kernel) (pa_cons he (pa_cons (pe_tup h1) pa_nil rfl) rfl) (by decide) (by decide) rfl rfl).run pins s σ H Q I ⟨_, eo, by rw [List.length_map]; rw [sizeLine_eq]; omega, fun tp htp => ⟨fun dd e => ?_, _, hq (hr.frNewO htp) (hr.newO htp), .inr ⟨tp, _, _, rfl, upd_same, TysE.cls, ?_⟩⟩⟩
        · obtain ⟨fs', h4⟩ := hdd dd e
          exact ⟨fs', by rw [upd_ne (ne_of_none h4 htp)]; exact h4⟩
        · rw [eK]
          exact kit_xs F hk.1 hk.2
    · exact h.elim
  · exact h.elim
end
end LI
end
section
set_option Elab.async false
set_option linter.all false
set_option maxRecDepth 100000
set_option maxHeartbeats 4000000
/-! LiIsi: isinstance of values; constants of a class by its name. -/
namespace LI
open PySem PySem.Spec PyProof.Rows L2

structure Fi (Γ : Ctx) : Prop where
  ins : ∀ c, Γ.T.oc c = true → Cls Γ.K (Γ.ca c) ∧ PySem.W.findIn Γ.K (.ref (Γ.ca c)) "__class__" = some (some (.builtin "object.__class__")) ∧ PySem.W.specialIn Γ.K (.builtin "object.__class__") "__get__" = some (some (.builtin "getset_descriptor.__get__")) ∧
    PySem.W.takesIn Γ.K (.builtin "object.__class__") = some true ∧ PySem.W.mroIn Γ.K (Γ.ca c) (.type "object") = some true
  occ : ∀ c d, Γ.T.oc c = true → Γ.T.oc d = true → PySem.W.kitOne Γ.K (.ref (Γ.ca c)) (.ref (Γ.ca d)) = some (Γ.T.sub c d)
  oct : ∀ c n, Γ.T.oc c = true → n ∈ ["int", "bool", "str", "list", "tuple"] → PySem.W.kitOne Γ.K (.ref (Γ.ca c)) (.type n) = some false
  otc : ∀ d n, Γ.T.oc d = true → n ∈ ["NoneType", "bool", "int", "str", "list", "tuple"] → PySem.W.kitOne Γ.K (.type n) (.ref (Γ.ca d)) = some false
  clc : ∀ c f w, Γ.T.con c f = some w → ∃ mc v u, ClX.CRead Γ.K (Γ.ca c) mc ∧ ClX.CVal Γ.K (Γ.ca c) mc (Γ.nm f) v u ∧ ∀ F φ N, Rep Γ F φ N w v
theorem five_mem {n : String} (h : fiveT n = true) : n ∈ ["int", "bool", "str", "list", "tuple"] := by
  unfold fiveT at h
  simp only [Bool.or_eq_true, beq_iff_eq] at h
  simp only [List.mem_cons]
  rcases h with h | h | h | h | h <;> simp [h]
theorem kit_tab : (["NoneType", "bool", "int", "str", "list", "tuple"].all fun a => ["int", "bool", "str", "list", "tuple"].all fun b => kitB a b == some (a == b || (a == "bool" && b == "int"))) = true := by decide +kernel
section
variable {Γ : Ctx} {D : Pd} {en : En} {S S1 S2 : Sn} {H H1 H2 : Hp} {env : LI.Env} {σ : L2.St} {Wx : WX}
variable {N : List Str} {sc : Scope} {k : Nat} {X : Cx} {ea eb : Expr} {pos p p2 : Pos} {ra : Sto → R W} {e : Expr} {rd : LI.Env → Sto → R W}
/-- the types that tnOf gives -/
def tnOk (T : Tab) : Ty → Prop
  | .ty n => n ∈ ["NoneType", "bool", "int", "str", "list", "tuple"]
  | .cls _ => True
theorem tn_ty (Fq : Fi Γ) (hr : HR Γ S H) {w : W} {v : V} {t : Ty} (r : RepX Γ S H w v) (h : tnOf S.S w = some t) (ho : ∀ c, t = .cls c → Γ.T.oc c = true) : TyX Γ.K H v (tyU Γ t) ∧ tnOk Γ.T t := by
  have lst : ∀ {xs : List W}, drf S.S w = .lst xs → TyX Γ.K H v (.type "list") := fun {xs} e => by
    obtain ⟨a, vs, rfl, h1, _⟩ := lst_view hr r e
    exact .base (.lst h1)
  have ob : ∀ {o : Nat × List Nat × List W}, objOf S.S w = some o → Γ.T.oc o.1 = true → TyX Γ.K H v (.ref (Γ.ca o.1)) := fun {o} e hc => by
    obtain ⟨a, dx, vs, rfl, h1, _, _⟩ := obj_view hr r e
    obtain ⟨f1, f2, f3, f4, f5⟩ := Fq.ins _ hc
    exact .base (.ins h1 f1 f2 f3 f4 f5)
  cases w with
  | non => cases h; cases r.non; exact ⟨.base .non, by simp [tnOk]⟩
  | bl b => cases h; cases r.bl; exact ⟨.base (.bl _), by simp [tnOk]⟩
  | int i => cases h; cases r.int; exact ⟨.base (.int _), by simp [tnOk]⟩
  | str x => cases h; cases r.str; exact ⟨.base (.str _), by simp [tnOk]⟩
  | lst xs => cases h; exact ⟨lst (xs := xs) rfl, by simp [tnOk]⟩
  | tup xs =>
    cases h
    obtain ⟨a, vs, rfl, h1, _⟩ := tup_view hr r (show drf S.S (.tup xs) = .tup xs from rfl)
    refine ⟨?_, by simp [tnOk]⟩
    rcases h1 with (h1 | ⟨o, h1⟩) | h1
    · exact .base (.tup h1)
    · exact .fTuple h1
    · obtain ⟨o, its, n, e1, e2, _⟩ := h1
      exact .kTuple e1 e2
  | obj c ks fs => cases h; exact ⟨ob (o := (c, ks, fs)) rfl (ho c rfl), True.intro⟩
  | cell n =>
    have h' : (match S.S[n]? with | some (Cl.lst _) => some (Ty.ty "list") | some (Cl.obj c _ _) => some (Ty.cls c) | _ => none) = some t := h
    split at h'
    · rename_i xs e0
      cases h'
      exact ⟨lst (xs := xs) (by show (match S.S[n]? with | some (Cl.lst xs) => W.lst xs | _ => W.cell n) = W.lst xs; rw [e0]), by simp [tnOk]⟩
    · rename_i c ks fs e0
      cases h'
      exact ⟨ob (o := (c, ks, fs)) (by show (match S.S[n]? with | some (Cl.obj c ks fs) => some (c, ks, fs) | _ => none) = _; rw [e0]) (ho c rfl), True.intro⟩
    · cases h'
  | _ => cases h
theorem isTy1_ok (Fq : Fi Γ) {t q : Ty} {b : Bool} (ht : tnOk Γ.T t) (h : isTy1 Γ.T t q = some b) : PySem.W.kitOne Γ.K (tyU Γ t) (tyU Γ q) = some b := by
  cases t with
  | ty a =>
    cases q with
    | ty n =>
      have h : (if fiveT n = true then some (a == n || (a == "bool" && n == "int")) else none) = some b := h
      split at h
      · rename_i h5
        have e := Option.some.inj h
        subst e
        have := List.all_eq_true.mp (List.all_eq_true.mp kit_tab a ht) n (five_mem h5)
        exact kit_ty (eq_of_beq this)
      · cases h
    | cls d =>
      have h : (if Γ.T.oc d = true then some false else none) = some b := h
      split at h
      · rename_i h5
        have e := Option.some.inj h
        subst e
        exact Fq.otc d a h5 ht
      · cases h
  | cls c =>
    cases q with
    | ty n =>
      have h : (if (Γ.T.oc c && fiveT n) = true then some false else none) = some b := h
      split at h
      · rename_i h5
        rw [Bool.and_eq_true] at h5
        have e := Option.some.inj h
        subst e
        exact Fq.oct c n h5.1 (five_mem h5.2)
      · cases h
    | cls d =>
      have h : (if (Γ.T.oc c && Γ.T.oc d) = true then some (Γ.T.sub c d) else none) = some b := h
      split at h
      · rename_i h5
        rw [Bool.and_eq_true] at h5
        have e := Option.some.inj h
        subst e
        exact Fq.occ c d h5.1 h5.2
      · cases h
theorem anyTy_ok (Fq : Fi Γ) {t : Ty} (ht : tnOk Γ.T t) : ∀ {ts : List Ty} {b : Bool}, anyTy Γ.T t ts = some b → PySem.W.kitAny Γ.K (tyU Γ t) (ts.map (tyU Γ)) = some b
  | [], b, h => by cases h; rfl
  | q :: ts, b, h => by
    unfold anyTy at h
    rw [List.map_cons]
    split at h
    · rename_i e; cases h
      exact kitAny_cons (isTy1_ok Fq ht e) (fun z => by cases z) fun _ => rfl
    · rename_i e
      exact kitAny_cons (isTy1_ok Fq ht e) (fun _ => anyTy_ok Fq ht h) fun z => by cases z
    · cases h
theorem isTy1_oc {c : Nat} {q : Ty} {b : Bool} (h : isTy1 Γ.T (.cls c) q = some b) : Γ.T.oc c = true := by
  cases q with
  | ty n =>
    have h : (if (Γ.T.oc c && fiveT n) = true then some false else none) = some b := h
    split at h
    · rename_i h5; rw [Bool.and_eq_true] at h5; exact h5.1
    · cases h
  | cls d =>
    have h : (if (Γ.T.oc c && Γ.T.oc d) = true then some (Γ.T.sub c d) else none) = some b := h
    split at h
    · rename_i h5; rw [Bool.and_eq_true] at h5; exact h5.1
    · cases h
theorem anyTy_oc {t : Ty} : ∀ {ts : List Ty} {b : Bool}, ts ≠ [] → anyTy Γ.T t ts = some b → ∀ c, t = .cls c → Γ.T.oc c = true
  | [], _, h, _, _, _ => absurd rfl h
  | q :: ts, b, _, h, c, e => by
    subst e
    unfold anyTy at h
    cases e2 : isTy1 Γ.T (.cls c) q with
    | none => rw [e2] at h; cases h
    | some b => exact isTy1_oc e2
/-- isinstance(e, ..) -/
theorem se_isi {ts : List Ty} (C : XC Γ Wx N sc k X) (Fq : Fi Γ) (hx : Free Γ sc "isinstance") (hp : plainA ea = true) (hne : ts ≠ []) (ha : PE X ea (tR Γ Wx en env ra (pRepX Γ))) (hb : IsArg X Γ eb ts) :
    PE X (.Call (.Name "isinstance" p) [ea, eb] [] pos) (tR Γ Wx en env (fun s => (ra s).bind fun x s1 => retO ((isTys Γ.T s1 x ts).map W.bl) s1) (pRep Γ)) := by
  have look : ∀ {S1 : Sn} {H1 : Hp} {x : W} {v : V} {b : Bool}, HR Γ S1 H1 → RepX Γ S1 H1 x v → isTys Γ.T S1.S x ts = some b → ∃ t, TyX Γ.K H1 v (tyU Γ t) ∧ tnOk Γ.T t ∧ anyTy Γ.T t ts = some b := fun {S1 H1 x v b} hr1 r1 h => by
    obtain ⟨t, e1, e2⟩ := Option.bind_eq_some_iff.mp h
    obtain ⟨h1, h2⟩ := tn_ty Fq hr1 r1 e1 (anyTy_oc hne e2)
    exact ⟨t, h1, h2, e2⟩
  cases hb with
  | one ht =>
    refine PE.mono (pe_callB call_isi (hx.gl C) (hx.mg C) (by decide +kernel) (pa_cons ha (pa_cons ht.1 pa_nil (starEach_ok ht.2)) (starEach_ok hp)) (by decide) (by decide) (starEach_ok hp) (by rw [starEach_ok ht.2]; rfl)) ?_
    rintro σ H Q ⟨S, hr, sl, h⟩
    refine ⟨S, hr, sl, RP.mono h.seq fun x S1 H1 fr1 hr1 h1 v r1 => ?_⟩
    obtain ⟨w, e1, q⟩ := h1.retO hr1
    obtain ⟨b, e2, rfl⟩ := Option.map_eq_some_iff.mp e1
    obtain ⟨t, h2, h3, h4⟩ := look hr1 r1 e2
    rw [C.eK]
    have h5 := anyTy_ok Fq h3 h4
    refine ⟨v, _, _, _, b, rfl, tyV_cls, h2, ?_, q _ rfl⟩
    have h6 : (match PySem.W.kitOne Γ.K (tyU Γ t) (tyU Γ _) with
      | some true => some true
      | some false => some false
      | none => none) = some b := h5
    split at h6
    · rename_i e; cases h6; exact e
    · rename_i e; cases h6; exact e
    · cases h6
  | tup ht hl =>
    obtain ⟨g1, g2⟩ := ht.pa
    refine PE.mono (pe_callB call_isiT (hx.gl C) (hx.mg C) (by decide +kernel) (pa_cons ha (pa_cons (pe_tup g1) pa_nil rfl) (starEach_ok hp)) (by decide) (by decide) (starEach_ok hp) rfl) ?_
    rintro σ H Q ⟨S, hr, sl, h⟩
    refine ⟨S, hr, sl, RP.mono h.seq fun x S1 H1 fr1 hr1 h1 v r1 => ?_⟩
    obtain ⟨w, e1, q⟩ := h1.retO hr1
    obtain ⟨b, e2, rfl⟩ := Option.map_eq_some_iff.mp e1
    refine ⟨by rw [List.length_map]; rw [sizeLine_eq]; omega, fun tp htp => ?_⟩
    have fr2 := hr1.frNewO (o := .tup (ts.map (tyV Γ))) htp
    have hr2 := hr1.newO (o := .tup (ts.map (tyV Γ))) htp
    obtain ⟨t, h2, h3, h4⟩ := look hr2 (r1.mono fr2) e2
    rw [C.eK]
    exact ⟨v, tp, _, _, _, b, rfl, upd_same, TysE.cls, h2, anyTy_ok Fq h3 h4, by
      obtain ⟨w', e3, q'⟩ := (RP.shift h1 fr2).retO hr2
      rw [e1] at e3
      cases e3
      exact q' _ rfl⟩
/-- C.f, C a class's name -/
theorem se_con {c f : Nat} {x n : Str} (C : XC Γ Wx N sc k X) (Fq : Fi Γ) (hx : Γ.nm f = n) (hg : sc.names.lookup x = some .globalImplicit) (hm : Γ.mg x = some (.ref (Γ.ca c))) (hd : (x == ("__debug__" : Str)) = false) :
    PE X (.Attribute (.Name x p) n pos) (tR Γ Wx en env (fun s => retO (Γ.T.con c f) s) (pRep Γ)) := by
  subst hx
  refine PE.mono (ClX.pe_cval (pe_glob (C.gl hg) (by rw [C.eM]; exact hm) (v := .ref (Γ.ca c)) rfl hd) (plainO_ok rfl)) ?_
  rintro σ H Q ⟨S, hr, sl, h⟩
  obtain ⟨w, e, q⟩ := h.retO hr
  obtain ⟨mc, v, u, h1, h2, h3⟩ := Fq.clc _ _ _ e
  rw [C.eK]
  exact ⟨_, mc, v, u, rfl, h1, h2, q v (h3 _ _ _)⟩
end
end LI
end
section
set_option Elab.async false
set_option linter.all false
set_option maxRecDepth 100000
set_option maxHeartbeats 4000000
/-! LiChk: does the small language's expression say what the text says? -/
namespace LI
open PySem PySem.Spec PyProof.Rows L2

/-- names -/
structure GN where
  isF : Nat → Bool
  fn : Nat → Str
  isC : Nat → Bool
  cl : Nat → Str
  nm : Nat → Str
  free : List Str
  gl : Nat → Option Str
  kn : Nat → Option Str := fun _ => none
  kd : Nat → Bool := fun _ => false
structure CkC where
  G : GN
  T : Tab
  N : List Str
  calm : Bool
/-- an expression, or the rest of an and, an or -/
inductive AI where
  | e (x : Expr)
  | bo (op : BoolOp) (l : List Expr)
def tl (op : BoolOp) : List Expr → AI
  | [z] => .e z
  | l => .bo op l
def visB (sc : Scope) (x : Str) : Bool := match sc.names.lookup x with
  | some .local => true
  | some .cell => true
  | some .free => true
  | _ => false
def locB (sc : Scope) (x : Str) : Bool := match sc.names.lookup x with
  | some .local => true
  | some .cell => true
  | _ => false
def glB (sc : Scope) (x : Str) : Bool := match sc.names.lookup x with
  | some .globalImplicit => true
  | _ => false
def nameB (x : Str) : Bool := !(x == ("__debug__" : Str)) && !(x == ("__classdict__" : Str))
def slotB (c : CkC) (sc : Scope) (i : Nat) (x : Str) : Bool := decide (c.N[i]? = some x) && (visB sc x && nameB x)
def freeB (c : CkC) (sc : Scope) (x : Str) : Bool := glB sc x && c.G.free.contains x
def fnB (c : CkC) (sc : Scope) (f : Nat) (x : Str) : Bool := c.G.isF f && (decide (c.G.fn f = x) && (glB sc x && nameB x))
def clB (c : CkC) (sc : Scope) (k : Nat) (x : Str) : Bool := c.G.isC k && (decide (c.G.cl k = x) && (glB sc x && nameB x))
def isOp : BO → Operator → Bool
  | .add, .Add => true | .sub, .Sub => true | .mul, .Mult => true | .fdiv, .FloorDiv => true | .mod, .Mod => true | .pow, .Pow => true
  | _, _ => false
def isCO : CO → CmpOp → Bool
  | .eq, .Eq => true | .ne, .NotEq => true | .lt, .Lt => true | .le, .LtE => true | .gt, .Gt => true | .ge, .GtE => true | .isin, .In => true | .notin, .NotIn => true
  | _, _ => false
theorem isOp_ok {op : BO} {o : Operator} (h : isOp op o = true) : o = opA op := by cases op <;> cases o <;> first | rfl | cases h
theorem isCO_ok {op : CO} {o : CmpOp} (h : isCO op o = true) : o = opC op := by cases op <;> cases o <;> first | rfl | cases h
def plainTA : AI → Bool
  | .e x => plainT x
  | .bo _ _ => false
def notOwn : Ex → Bool
  | .own _ => false
  | _ => true
/-- gives a new list where it gives a list -/
def isNew : Ex → Bool
  | .bin _ _ _ => true | .sl _ _ _ => true | .rev _ => true | .lst _ => true | .tup _ => true | .bi _ _ => true | .comp _ _ _ _ => true | .rl _ => true
  | _ => false
def plainS : Expr → Bool
  | .Set .. => false
  | _ => true
/-- a target -/
def tgB (c : CkC) (sc : Scope) : Tg → Expr → Bool
  | .nm i, .Name x _ => decide (c.N[i]? = some x) && locB sc x
  | .tup is, .Tuple es _ _ => c.calm && go is es
  | _, _ => false
where
  go : List Nat → List Expr → Bool
    | [], [] => true
    | i :: is, .Name x _ :: es => (decide (c.N[i]? = some x) && locB sc x) && go is es
    | _, _ => false
def ownL (N : List Str) (is : List Nat) : List (Str × Nat) := is.map fun i => ((N[i]?).getD "", i)
def tyN (n : String) : Bool := n == "ValueError" || (n == "int" || (n == "bool" || (n == "str" || (n == "list" || n == "tuple"))))
def tyB (c : CkC) (sc : Scope) : Ty → Expr → Bool
  | .cls k, .Name x _ => clB c sc k x
  | .ty n, .Name x _ => tyN n && (decide (x = Str.ofString n) && freeB c sc x)
  | _, _ => false
def tysB (c : CkC) (sc : Scope) : List Ty → List Expr → Bool
  | [], [] => true
  | t :: ts, e :: es => tyB c sc t e && tysB c sc ts es
  | _, _ => false
def isArgB (c : CkC) (sc : Scope) (ts : List Ty) : Expr → Bool
  | .Tuple es _ _ => tysB c sc ts es && decide (ts.length ≤ 1000)
  | e => (match ts with
    | [t] => tyB c sc t e
    | _ => false)
def biB (c : CkC) (sc : Scope) (b : Bi) (x : Str) : Bool := (match biV2 b with
  | some (y, _) => decide (y = x)
  | none => false) && (freeB c sc x && c.calm)
def lenOk (es : List Expr) (a p : Pos) : Bool := decide (es.length < 30) && (a.endLine == p.line)

/-- a class whose __init__ has plain parameters -/
def initB (c : CkC) (k : Nat) : Bool := match c.T.init k with
  | some f => decide (c.G.kn f = none)
  | none => false
/-- .. whose __init__ has this keyword-only parameter -/
def initK (c : CkC) (k : Nat) (x : Str) : Bool := match c.T.init k with
  | some f => decide (c.G.kn f = some x)
  | none => false
def initD (c : CkC) (k : Nat) : Bool := match c.T.init k with
  | some f => (c.G.kn f).isSome && c.G.kd f
  | none => false
mutual
def chk (c : CkC) : Ex → Bool → Scope → AI → Bool
  | .var i, m, sc, ai => (!m || plainTA ai) && (match ai with
    | .e (.Name x _) => slotB c sc i x
    | _ => false)
  | .own i, m, sc, ai => (!m || plainTA ai) && (match ai with
    | .e (.Name x _) => slotB c sc i x
    | _ => false)
  | .non, m, sc, ai => (!m || plainTA ai) && (match ai with
    | .e (.Constant .none _ _) => true
    | _ => false)
  | .bl b, m, sc, ai => (!m || plainTA ai) && (match ai with
    | .e (.Constant (.bool b') _ _) => b == b'
    | _ => false)
  | .int i, m, sc, ai => (!m || plainTA ai) && (match ai with
    | .e (.Constant (.int i') _ _) => decide (i = i')
    | _ => false)
  | .str x, m, sc, ai => (!m || plainTA ai) && (match ai with
    | .e (.Constant (.str y) _ _) => decide (x = y)
    | _ => false)
  | .glob i, m, sc, ai => (!m || plainTA ai) && (match ai with
    | .e (.Name x _) => glB sc x && (nameB x && decide (c.G.gl i = some x))
    | _ => false)
  | .bin op a b, m, sc, ai => (!m || plainTA ai) && (match ai with
    | .e (.BinOp ea o eb _) => isOp op o && (chk c a false sc (.e ea) && chk c b false sc (.e eb))
    | _ => false)
  | .neg a, m, sc, ai => (!m || plainTA ai) && (match ai with
    | .e (.UnaryOp .USub ea _) => chk c a false sc (.e ea)
    | _ => false)
  | .cmp op a b, m, sc, ai => (match ai with
    | .e (.Compare ea [o] [eb] _) => isCO op o && (!behindInMarks (opC op) eb && (chk c a false sc (.e ea) && chk c b false sc (.e eb)))
    | _ => false)
  | .chain op op' a b d, m, sc, ai => (match ai with
    | .e (.Compare ea [o, o'] [eb, ec] _) => isCO op o && (isCO op' o' && (!lastMarks [opC op, opC op'] [eb, ec] && (chk c a false sc (.e ea) && (chk c b false sc (.e eb) && chk c d false sc (.e ec)))))
    | _ => false)
  | .isN a, m, sc, ai => (match ai with
    | .e (.Compare ea [.Is] [.Constant .none _ _] _) => chk c a false sc (.e ea)
    | _ => false)
  | .notN a, m, sc, ai => (match ai with
    | .e (.Compare ea [.IsNot] [.Constant .none _ _] _) => chk c a false sc (.e ea)
    | _ => false)
  | .not a, m, sc, ai => (match ai with
    | .e (.UnaryOp .Not ea _) => chk c a m sc (.e ea)
    | _ => false)
  | .and a b, m, sc, ai => (match ai with
    | .e (.BoolOp .And (x :: y :: l) _) => (m || (notOwn a && notOwn b)) && (chk c a m sc (.e x) && chk c b m sc (tl .And (y :: l)))
    | .bo .And (x :: y :: l) => (m || (notOwn a && notOwn b)) && (chk c a m sc (.e x) && chk c b m sc (tl .And (y :: l)))
    | _ => false)
  | .or a b, m, sc, ai => (match ai with
    | .e (.BoolOp .Or (x :: y :: l) _) => (m || (notOwn a && notOwn b)) && (chk c a m sc (.e x) && chk c b m sc (tl .Or (y :: l)))
    | .bo .Or (x :: y :: l) => (m || (notOwn a && notOwn b)) && (chk c a m sc (.e x) && chk c b m sc (tl .Or (y :: l)))
    | _ => false)
  | .ite d a b, m, sc, ai => (!m || plainTA ai) && (match ai with
    | .e (.IfExp ed ea eb _) => chk c d true sc (.e ed) && ((notOwn a && notOwn b) && (chk c a false sc (.e ea) && chk c b false sc (.e eb)))
    | _ => false)
  | .ix a b, m, sc, ai => (!m || plainTA ai) && (match ai with
    | .e (.Subscript ea eb _) => plainIx eb && (chk c a false sc (.e ea) && chk c b false sc (.e eb))
    | _ => false)
  | .sl a lo hi, m, sc, ai => (!m || plainTA ai) && (match ai with
    | .e (.Subscript ea (.Slice el eh none _) _) => chk c a false sc (.e ea) && ((match el with
        | none => isNonE lo
        | some x => !isNonE lo && chk c lo false sc (.e x)) && (match eh with
        | none => isNonE hi
        | some x => !isNonE hi && chk c hi false sc (.e x)))
    | _ => false)
  | .rev a, m, sc, ai => (!m || plainTA ai) && (match ai with
    | .e (.Subscript ea (.Slice none none (some (.UnaryOp .USub (.Constant (.int 1) _ _) _)) _) _) => chk c a false sc (.e ea)
    | _ => false)
  | .lst es, m, sc, ai => (!m || plainTA ai) && (match ai with
    | .e (.List xs _) => chkEs c es true sc xs
    | _ => false)
  | .tup es, m, sc, ai => (!m || plainTA ai) && (match ai with
    | .e (.Tuple xs _ _) => chkEs c es true sc xs
    | _ => false)
  | .call f es, m, sc, ai => (!m || plainTA ai) && (match ai with
    | .e (.Call (.Name x _) xs [] _) => c.calm && (fnB c sc f x && (decide (c.G.kn f = none) && chkEs c es true sc xs))
    | _ => false)
  | .bi b es, m, sc, ai => (!m || plainTA ai) && (match ai with
    | .e (.Call (.Name x _) (y :: xs) [] _) => biB c sc b x && chkEs c es false sc (y :: xs)
    | _ => false)
  | .isi a ts, m, sc, ai => (!m || plainTA ai) && (match ai with
    | .e (.Call (.Name x _) [ea, eb] [] _) => decide (x = ("isinstance" : Str)) && (freeB c sc x && (plainA ea && (!ts.isEmpty && (chk c a false sc (.e ea) && isArgB c sc ts eb))))
    | _ => false)
  | .mk k es, m, sc, ai => (!m || plainTA ai) && (match ai with
    | .e (.Call (.Name x _) xs [] _) => c.calm && (initB c k && (clB c sc k x && chkEs c es true sc xs))
    | _ => false)
  | .mkC k es, m, sc, ai => (!m || plainTA ai) && (match ai with
    | .e (.Call (.Name x _) xs [] _) => c.calm && (initB c k && (clB c sc k x && chkEs c es true sc xs))
    | _ => false)
  | .meth n o es, m, sc, ai => (!m || plainTA ai) && (match ai with
    | .e (.Call (.Attribute eo x ap) xs [] p) => c.calm && ((decide (n < 1000) && decide (c.G.nm n = x)) && (plainO eo && (lenOk xs ap p && (chk c o false sc (.e eo) && chkEs c es true sc xs))))
    | _ => false)
  | .fld a f, m, sc, ai => (!m || plainTA ai) && (match ai with
    | .e (.Attribute ea x _) => decide (c.G.nm f = x) && (plainO ea && chk c a false sc (.e ea))
    | _ => false)
  | .slf f, m, sc, ai => (!m || plainTA ai) && (match ai with
    | .e (.Attribute (.Name y _) x _) => decide (c.G.nm f = x) && slotB c sc 0 y
    | _ => false)
  | .con k f, m, sc, ai => (!m || plainTA ai) && (match ai with
    | .e (.Attribute (.Name y _) x _) => decide (c.G.nm f = x) && clB c sc k y
    | _ => false)
  | .xfld i f, m, sc, ai => (!m || plainTA ai) && (match ai with
    | .e (.Attribute (.Name y _) x _) => !c.calm && (decide (c.G.nm f = x) && slotB c sc i y)
    | _ => false)
  | .xisi i ts, m, sc, ai => (!m || plainTA ai) && (match ai with
    | .e (.Call (.Name x _) [.Name y _, ea] [] _) => !c.calm && (decide (x = ("isinstance" : Str)) && (freeB c sc x && (slotB c sc i y && isArgB c sc ts ea)))
    | _ => false)
  | .comp t sr ifs e, m, sc, ai => (!m || plainTA ai) && (match ai with
    | .e (.ListComp elt [⟨tg, iter, fs, 0⟩] scope _) => c.calm && (plainS iter && (chkSr c sr sc tg iter && (blkC c.N sc scope (ownL c.N (tgIx t)) && (tgB c scope t tg && (chkIfs c ifs (relS scope sc) fs && (notOwn e && chk c e false (relS scope sc) (.e elt)))))))
    | _ => false)
  | .cell e, m, sc, ai => (!m || plainTA ai) && (isNew e && chk c e false sc ai)
  | .mx mn a d, m, sc, ai => (!m || plainTA ai) && (match ai with
    | .e (.Call (.Name x _) [ea] [⟨some y, ed, _⟩] _) => c.calm && (decide (x = if mn then ("min" : Str) else "max") && (decide (y = ("default" : Str)) && (freeB c sc x && (plainA ea && (chk c a false sc (.e ea) && chk c d false sc (.e ed))))))
    | _ => false)
  | .rl a, m, sc, ai => (!m || plainTA ai) && (match ai with
    | .e (.Call (.Name x _) [.Call (.Name y _) [ea] [] _] [] _) => c.calm && (decide (x = ("list" : Str)) && (decide (y = ("range" : Str)) && (freeB c sc x && (freeB c sc y && (plainA ea && chk c a false sc (.e ea))))))
    | _ => false)
  | .dnew t, m, sc, ai => (!m || plainTA ai) && (match ai with
    | .e (.Dict [] [] _) => true
    | _ => false)
  | .dn1 k e, m, sc, ai => (!m || plainTA ai) && (match ai with
    | .e (.Dict [some ek] [ee] _) => (notOwn k && notOwn e) && (chk c k false sc (.e ek) && chk c e false sc (.e ee))
    | _ => false)
  | .dget d k, m, sc, ai => (!m || plainTA ai) && (match ai with
    | .e (.Subscript ea eb _) => plainIx eb && (chk c d false sc (.e ea) && chk c k false sc (.e eb))
    | _ => false)
  | .din neg k d, m, sc, ai => (match ai with
    | .e (.Compare ea [o] [eb] _) => isCO (if neg then .notin else .isin) o && (!behindInMarks (if neg then .NotIn else .In) eb && (chk c k false sc (.e ea) && chk c d false sc (.e eb)))
    | _ => false)
  | .dget1 _ _, _, _, _ => false
  | .kcall f es e, m, sc, ai => (!m || plainTA ai) && (match ai with
    | .e (.Call (.Name x _) (y :: ys) [⟨some kx, v, _⟩] _) => c.calm && (fnB c sc f x && (decide (c.G.kn f = some kx) && ((y :: ys).all plainA && (notOwn e && (chk c e false sc (.e v) && chkEs c es true sc (y :: ys))))))
    | .e (.Call (.Name x _) xs [] _) => c.calm && (fnB c sc f x && (((c.G.kn f).isSome && c.G.kd f) && (isNonE e && chkEs c es true sc xs)))
    | _ => false)
  | .kmkC k es e, m, sc, ai => (!m || plainTA ai) && (match ai with
    | .e (.Call (.Name x _) (y :: ys) [⟨some kx, v, _⟩] _) => c.calm && (clB c sc k x && (initK c k kx && ((y :: ys).all plainA && (notOwn e && (chk c e false sc (.e v) && chkEs c es true sc (y :: ys))))))
    | .e (.Call (.Name x _) xs [] _) => c.calm && (clB c sc k x && (initD c k && (isNonE e && chkEs c es true sc xs)))
    | _ => false)
  | .prp n o, m, sc, ai => (!m || plainTA ai) && (match ai with
    | .e (.Attribute eo x _) => c.calm && ((decide (n < 1000) && decide (c.G.nm n = x)) && (plainO eo && chk c o false sc (.e eo)))
    | _ => false)
  | .cal o es, m, sc, ai => (!m || plainTA ai) && (match ai with
    | .e (.Call (.Name y p) xs [] _) => c.calm && (notOwn o && (chk c o false sc (.e (.Name y p)) && chkEs c es true sc xs))
    | _ => false)
  | .idx a b, m, sc, ai => (!m || plainTA ai) && (match ai with
    | .e (.Call (.Attribute ea x ap) [eb] [] p) => decide (x = ("index" : Str)) && (plainO ea && (plainA eb && ((ap.endLine == p.line) && (chk c a false sc (.e ea) && chk c b false sc (.e eb)))))
    | _ => false)
def chkEs (c : CkC) : Exs → Bool → Scope → List Expr → Bool
  | .nil, o, sc, l => (match l with
    | [] => true
    | _ => false)
  | .cons e es, o, sc, l => (match l with
    | x :: l => (!o || notOwn e) && (plainA x && (chk c e false sc (.e x) && chkEs c es o sc l))
    | _ => false)
def chkIfs (c : CkC) : Exs → Scope → List Expr → Bool
  | .nil, sc, l => (match l with
    | [] => true
    | _ => false)
  | .cons e r, sc, l => (match r, l with
    | .nil, [x] => chk c e true sc (.e x)
    | _, _ => false)
def chkSr (c : CkC) : Sr → Scope → Expr → Expr → Bool
  | .seq e, sc, tg, it => notOwn e && chk c e false sc (.e it)
  | .rng1 a, sc, tg, it => (match it with
    | .Call (.Name x _) [xa] [] _ => decide (x = ("range" : Str)) && (freeB c sc x && (plainA xa && (notOwn a && chk c a false sc (.e xa))))
    | _ => false)
  | .rng2 a b, sc, tg, it => (match it with
    | .Call (.Name x _) [xa, xb] [] _ => decide (x = ("range" : Str)) && (freeB c sc x && ((plainA xa && plainA xb) && ((notOwn a && notOwn b) && (chk c a false sc (.e xa) && chk c b false sc (.e xb)))))
    | _ => false)
  | .rng3 a b d, sc, tg, it => (match it with
    | .Call (.Name x _) [xa, xb, xd] [] _ => decide (x = ("range" : Str)) && (freeB c sc x && ((plainA xa && (plainA xb && plainA xd)) && ((notOwn a && (notOwn b && notOwn d)) && (chk c a false sc (.e xa) && (chk c b false sc (.e xb) && chk c d false sc (.e xd))))))
    | _ => false)
  | .enum e, sc, tg, it => (match tg, it with
    | .Tuple _ _ _, .Call (.Name x _) [xa] [] _ => decide (x = ("enumerate" : Str)) && (freeB c sc x && (plainA xa && (notOwn e && chk c e false sc (.e xa))))
    | _, _ => false)
end
end LI
end
section
set_option Elab.async false
set_option linter.all false
set_option maxRecDepth 100000
set_option maxHeartbeats 8000000
/-! LiSndE: a checked expression does what the small language says. -/
namespace LI
open PySem PySem.Spec PyProof.Rows L2

structure Gx (Γ : Ctx) (D : Pd) (G : GN) : Prop where
  nm : ∀ f, Γ.nm f = G.nm f
  fn : ∀ f, G.isF f = true → (∃ d, Γ.T.fn f = some d) ∧ Γ.mg (G.fn f) = some (.ref (D.fa f)) ∧ PySem.W.keepIn Γ.K (.ref (D.fa f)) = true
  cl : ∀ c, G.isC c = true → Γ.mg (G.cl c) = some (.ref (Γ.ca c))
  free : ∀ x, x ∈ G.free → Γ.mg x = none
  kn : ∀ f, D.kn f = G.kn f
  kd : ∀ f, D.kd f = G.kd f
  gl : ∀ i x, G.gl i = some x → ∃ w v u, Γ.T.gl i = some w ∧ Γ.mg x = some u ∧ RelV v u ∧ ∀ F φ n, Rep Γ F φ n w v
structure Bd (Γ : Ctx) (D : Pd) (G : GN) (j : Nat) (cf : Call) (ci : CallI) : Prop where
  fx : Fx Γ D
  fe : Fe Γ
  gx : Gx Γ D G
  fi : Fi Γ
  fk : Fk Γ D
  lv : Lv Γ D j cf ci
def PEa (X : Cx) (ai : AI) (t : TE) : Prop := match ai with
  | .e x => PE X x t
  | .bo op l => ∀ pos, PE X (.BoolOp op l pos) t
def PTa (X : Cx) (ai : AI) (t : TT) : Prop := match ai with
  | .e x => PT X x t
  | .bo op l => ∀ pos, PW X (.BoolOp op l pos) t
/-- where a checked piece stands -/
structure At (Γ : Ctx) (c : CkC) (Wx : WX) (sc : Scope) (k j : Nat) (en : En) (X : Cx) : Prop where
  xc : XC Γ Wx c.N sc k X
  calm : c.calm = true → X.calm = true
  suite : c.calm = false → XS en X
  lv : j + 1 ≤ k
  tab : c.T = Γ.T
  top : TopW X Wx
section
variable {Γ : Ctx} {D : Pd} {G : GN} {c : CkC} {en : En} {Wx : WX} {sc : Scope} {k j : Nat} {X : Cx} {cf : Call} {ci : CallI} {ai : AI} {x : Ex} {m : Bool}
theorem ba {a b : Bool} (h : (a && b) = true) : a = true ∧ b = true := Bool.and_eq_true_iff.mp h
theorem visB_ok {x : Str} (h : visB sc x = true) : Vis sc x := by
  unfold visB at h
  split at h
  · exact .inl (by assumption)
  · exact .inr (.inl (by assumption))
  · exact .inr (.inr (by assumption))
  · cases h
theorem glB_ok {x : Str} (h : glB sc x = true) : sc.names.lookup x = some .globalImplicit := by
  unfold glB at h
  split at h
  · assumption
  · cases h
theorem nameB_ok {x : Str} (h : nameB x = true) : (x == ("__debug__" : Str)) = false ∧ (x == ("__classdict__" : Str)) = false := by
  obtain ⟨h1, h2⟩ := ba h
  exact ⟨by simpa using h1, by simpa using h2⟩
theorem slotB_ok {i : Nat} {x : Str} (h : slotB c sc i x = true) : c.N[i]? = some x ∧ Vis sc x ∧ (x == ("__debug__" : Str)) = false ∧ (x == ("__classdict__" : Str)) = false := by
  obtain ⟨h1, h2⟩ := ba h
  obtain ⟨h2, h3⟩ := ba h2
  exact ⟨of_decide_eq_true h1, visB_ok h2, (nameB_ok h3).1, (nameB_ok h3).2⟩
theorem freeB_ok {x : Str} (F : Gx Γ D c.G) (h : freeB c sc x = true) : Free Γ sc x := by
  obtain ⟨h1, h2⟩ := ba h
  exact ⟨glB_ok h1, F.free x (by simpa using h2)⟩
/-- the parts that one proves of an expression -/
structure EP3 (Γ : Ctx) (Wx : WX) (en : En) (X : Cx) (cf : Call) (ci : CallI) (x : Ex) (ai : AI) : Prop where
  lk : ∀ env, PEa X ai (tR Γ Wx en env (fun s => ev Γ.T cf ci x false env s) (pRepX Γ))
  fz : notOwn x = true → ∀ env, PEa X ai (tR Γ Wx en env (fun s => ev Γ.T cf ci x false env s) (pRep Γ))
  nw : isNew x = true → ∀ env, PEa X ai (tR Γ Wx en env (fun s => ev Γ.T cf ci x false env s) (pN Γ))
def Tst (Γ : Ctx) (Wx : WX) (en : En) (X : Cx) (cf : Call) (ci : CallI) (x : Ex) (ai : AI) : Prop := ∀ env, PTa X ai (tR Γ Wx en env (fun s => ev Γ.T cf ci x true env s) pB)
theorem PEa.mono {t t' : TE} (h : PEa X ai t) (hm : ∀ σ H Q, t' σ H Q → t σ H Q) : PEa X ai t' := by
  cases ai with
  | e x => exact PE.mono h hm
  | bo op l => exact fun pos => PE.mono (h pos) hm
/-- from a frozen value -/
theorem EP3.ofR (hn : isNew x = false) (h : ∀ env, PEa X ai (tR Γ Wx en env (fun s => ev Γ.T cf ci x false env s) (pRep Γ))) : EP3 Γ Wx en X cf ci x ai :=
  ⟨fun env => PEa.mono (h env) fun _ _ _ => fun q => by
    obtain ⟨S, hr, sl, q⟩ := q
    exact ⟨S, hr, sl, q.mono fun _ _ _ _ _ z v p => z v (.inl p)⟩, fun _ => h, fun z => by rw [hn] at z; cases z⟩
theorem EP3.ofN (h : ∀ env, PEa X ai (tR Γ Wx en env (fun s => ev Γ.T cf ci x false env s) (pN Γ))) : EP3 Γ Wx en X cf ci x ai :=
  have hR : ∀ env, PEa X ai (tR Γ Wx en env (fun s => ev Γ.T cf ci x false env s) (pRep Γ)) := fun env => PEa.mono (h env) fun _ _ _ => pN_rep
  ⟨fun env => PEa.mono (hR env) fun _ _ _ => fun q => by
    obtain ⟨S, hr, sl, q⟩ := q
    exact ⟨S, hr, sl, q.mono fun _ _ _ _ _ z v p => z v (.inl p)⟩, fun _ => hR, fun _ => h⟩
/-- a value's truth -/
theorem tst_of (A : At Γ c Wx sc k j en X) {e : Expr} (hp : plainT e = true) (ht : ∀ env s, ev Γ.T cf ci x true env s = tst true (ev Γ.T cf ci x false env s)) (h : EP3 Γ Wx en X cf ci x (.e e)) : Tst Γ Wx en X cf ci x (.e e) := fun env => by
  show PT X e _
  have := st_val A.xc hp (h.lk env)
  have e2 : (fun s => ev Γ.T cf ci x true env s) = fun s => tst true (ev Γ.T cf ci x false env s) := funext fun s => ht env s
  rw [e2]
  exact this
/-- what is proved of a checked expression -/
def Ok (Γ : Ctx) (c : CkC) (Wx : WX) (en : En) (X : Cx) (cf : Call) (ci : CallI) (x : Ex) (m : Bool) (ai : AI) : Prop := (m = false → EP3 Γ Wx en X cf ci x ai) ∧ (m = true → Tst Γ Wx en X cf ci x ai)
theorem Ok.of (A : At Γ c Wx sc k j en X) (hp : (!m || plainTA ai) = true) (ht : ∀ env s, ev Γ.T cf ci x true env s = tst true (ev Γ.T cf ci x false env s)) (h : EP3 Γ Wx en X cf ci x ai) : Ok Γ c Wx en X cf ci x m ai := by
  refine ⟨fun _ => h, fun hm => ?_⟩
  subst hm
  cases ai with
  | e e => exact tst_of A hp ht h
  | bo op l => cases hp
theorem tlE {op : BoolOp} {y : Expr} {l : List Expr} {t : TE} (h : PEa X (tl op (y :: l)) t) : ∀ pos, PE X (.BoolOp op (y :: l) pos) t := by
  cases l with
  | nil => exact fun pos => se_oneE h
  | cons z l => exact h
where
  se_oneE {op : BoolOp} {y : Expr} {t : TE} {pos : Pos} (h : PE X y t) : PE X (.BoolOp op [y] pos) t := pe_one h
theorem tlT {op : BoolOp} {y : Expr} {l : List Expr} {q : Sto → R W} {env : LI.Env} (h : PTa X (tl op (y :: l)) (tR Γ Wx en env q pB)) : ∀ pos, PW X (.BoolOp op (y :: l) pos) (tR Γ Wx en env q pB) := by
  cases l with
  | nil => exact fun pos => sw_one h
  | cons z l => exact h
theorem tyB_ok (A : At Γ c Wx sc k j en X) (F : Gx Γ D c.G) {t : Ty} {e : Expr} (h : tyB c sc t e = true) : TyE X Γ e t := by
  cases t with
  | cls i =>
    cases e with
    | Name x p =>
      obtain ⟨h1, h2⟩ := ba h
      obtain ⟨h2, h3⟩ := ba h2
      obtain ⟨h3, h4⟩ := ba h3
      have e1 := of_decide_eq_true h2
      subst e1
      exact ⟨pe_glob (A.xc.gl (glB_ok h3)) (by rw [A.xc.eM]; exact F.cl i h1) rfl (nameB_ok h4).1, rfl⟩
    | _ => cases h
  | ty n =>
    cases e with
    | Name x p =>
      obtain ⟨h1, h2⟩ := ba h
      obtain ⟨h2, h3⟩ := ba h2
      have e2 := of_decide_eq_true h2
      subst e2
      have hf := freeB_ok F h3
      have key : bootBuiltins (Str.ofString n) = some (.type n) ∧ (Str.ofString n) ≠ ("__name__" : Str) ∧ (Str.ofString n == ("__debug__" : Str)) = false := by
        unfold tyN at h1
        simp only [Bool.or_eq_true, beq_iff_eq] at h1
        rcases h1 with h1 | h1 | h1 | h1 | h1 | h1 <;> subst h1 <;> decide +kernel
      exact ⟨pe_bltn (u := .type n) (hf.gl A.xc) (hf.mg A.xc) key.1 rfl key.2.1 key.2.2, rfl⟩
    | _ => cases h
theorem tysB_ok (A : At Γ c Wx sc k j en X) (F : Gx Γ D c.G) : ∀ {ts : List Ty} {es : List Expr}, tysB c sc ts es = true → TysE X Γ es ts
  | [], [], _ => .nil
  | [], _ :: _, h => by cases h
  | _ :: _, [], h => by cases h
  | t :: ts, e :: es, h => by
    obtain ⟨h1, h2⟩ := ba h
    exact .cons (tyB_ok A F h1) (tysB_ok A F h2)
theorem isArgB_ok (A : At Γ c Wx sc k j en X) (F : Gx Γ D c.G) {ts : List Ty} {e : Expr} (h : isArgB c sc ts e = true) : IsArg X Γ e ts := by
  unfold isArgB at h
  split at h
  · obtain ⟨h1, h2⟩ := ba h
    exact .tup (tysB_ok A F h1) (of_decide_eq_true h2)
  · split at h
    · exact .one (tyB_ok A F h)
    · cases h
theorem fset_plain {e : Expr} {env : PySem.Env} (h : plainS e = true) : ∀ x, foldedSetIterable e env x = pure x := by
  intro x
  cases e <;> first | rfl | cases h
theorem tgB_ok (A : At Γ c Wx sc k j en X) {sc0 : Scope} (hfn : ∀ x, locB sc0 x = true → Loc X.env.scope x ∧ (X.fn x = true ∨ X.env.scope.names.lookup x = some .local)) {t : Tg} {e : Expr} (h : tgB c sc0 t e = true) : PG X e (gTg Γ en t) := by
  cases t with
  | nm i =>
    cases e with
    | Name x p =>
      obtain ⟨h1, h2⟩ := ba h
      exact sg_nm A.xc ⟨of_decide_eq_true h1, hfn x h2⟩
    | _ => cases h
  | tup is =>
    cases e with
    | Tuple es kk p =>
      obtain ⟨h1, h2⟩ := ba h
      refine sg_tup A.xc (A.calm h1) ?_
      clear h
      induction is generalizing es with
      | nil =>
        cases es with
        | nil => exact .nil
        | cons _ _ => cases h2
      | cons i is ih =>
        cases es with
        | nil => cases h2
        | cons y es =>
          cases y with
          | Name x p =>
            obtain ⟨h3, h4⟩ := ba (show ((decide (c.N[i]? = some x) && locB sc0 x) && tgB.go c sc0 is es) = true from h2)
            obtain ⟨h5, h6⟩ := ba h3
            exact .cons ⟨of_decide_eq_true h5, hfn x h6⟩ (ih es h4)
          | _ => cases h2
    | _ => cases h
theorem bind_okW {α : Type} (r : R α) : (r.bind fun a s => .ok a s) = r := by cases r <;> rfl

theorem relS_map {f : Str × NameKind → Str × NameKind} (hf : ∀ p, (f p).1 = p.1) {x : Str} {k : NameKind} (hk : ∀ n, f (n, k) = (n, k)) : ∀ {l : List (Str × NameKind)}, l.lookup x = some k → (l.map f).lookup x = some k
  | [], h => by cases h
  | (n, q) :: r, h => by
    obtain ⟨q', e1⟩ : ∃ q', f (n, q) = (n, q') := ⟨(f (n, q)).2, Prod.ext (hf _) rfl⟩
    rw [List.map_cons, e1, List.lookup]
    rw [List.lookup] at h
    cases e2 : (x == n) with
    | true =>
      rw [e2] at h
      cases h
      have := hk n
      rw [e1] at this
      cases this
      rfl
    | false =>
      rw [e2] at h
      exact relS_map hf hk h
theorem relS_lookup {scope sc : Scope} {x : Str} {k : NameKind} (h : scope.names.lookup x = some k) (hk : k ≠ .free) : (relS scope sc).names.lookup x = some k := by
  refine relS_map (fun p => ?_) (fun n => ?_) h
  · obtain ⟨n, q⟩ := p
    dsimp only
    split <;> rfl
  · have : (k == NameKind.free) = false := by cases k <;> first | rfl | exact absurd rfl hk
    simp [this]
variable (Bb : Bd Γ D c.G j cf ci)
include Bb
/-- a list of arguments -/
def OkEs (Γ : Ctx) (Wx : WX) (en : En) (X : Cx) (cf : Call) (ci : CallI) (xs : Exs) (o : Bool) (es : List Expr) : Prop :=
  (o = true → ∀ env, PA X es (tR Γ Wx en env (fun s => evEs Γ.T cf ci xs env s) (pReps Γ))) ∧ (∀ env, PA X es (tR Γ Wx en env (fun s => evEs Γ.T cf ci xs env s) (pRepsX Γ))) ∧ es.all plainA = true
def OkIfs (Γ : Ctx) (Wx : WX) (en : En) (X : Cx) (cf : Call) (ci : CallI) (xs : Exs) (es : List Expr) : Prop := PTs X es (tX Γ Wx en (fun env s => evIfs Γ.T cf ci xs env s) pEq)
def OkSr (Γ : Ctx) (Wx : WX) (en : En) (X : Cx) (cf : Call) (ci : CallI) (sr : Sr) (tg it : Expr) : Prop := ∀ env, PI X tg it (tI Γ Wx en env fun s => evS Γ.T cf ci sr env s)
omit Bb in
theorem initB_ok {q : Nat} (h : initB c q = true) : ∃ f, c.T.init q = some f ∧ c.G.kn f = none := by
  unfold initB at h
  split at h
  · rename_i f e; exact ⟨f, e, of_decide_eq_true h⟩
  · cases h
omit Bb in
theorem initK_ok {q : Nat} {x : Str} (h : initK c q x = true) : ∃ f, c.T.init q = some f ∧ c.G.kn f = some x := by
  unfold initK at h
  split at h
  · rename_i f e; exact ⟨f, e, of_decide_eq_true h⟩
  · cases h
omit Bb in
theorem initD_ok {q : Nat} (h : initD c q = true) : ∃ f kn, c.T.init q = some f ∧ c.G.kn f = some kn ∧ c.G.kd f = true := by
  unfold initD at h
  split at h
  · rename_i f e
    obtain ⟨h1, h2⟩ := ba h
    obtain ⟨kn, ek⟩ := Option.isSome_iff_exists.mp h1
    exact ⟨f, kn, e, ek, h2⟩
  · cases h
omit Bb in
theorem isNonE_ok {e : Ex} (h : isNonE e = true) : e = .non := by
  cases e <;> first | rfl | cases h
theorem acs (A : At Γ c Wx sc k j en X) {xs : Exs} {es : List Expr} {pos : Pos} {env : LI.Env} (hc : chkEs c xs true sc es = true) (h : OkEs Γ Wx en X cf ci xs true es) : AC X pos es (tR Γ Wx en env (fun s => evEs Γ.T cf ci xs env s) (pReps Γ)) := by
  refine ac_of h.2.2 (h.1 rfl env) ?_
  rintro rfl σ H P ⟨S, hr, sl, q⟩
  cases xs with
  | nil => exact RP.done (a := ([] : List W)) q hr [] rfl
  | cons e r => cases hc
mutual
theorem sndE : ∀ (x : Ex) {m : Bool} {sc : Scope} {ai : AI} {Wx : WX} {X : Cx} {en : En} {k : Nat}, chk c x m sc ai = true → At Γ c Wx sc k j en X → Ok Γ c Wx en X cf ci x m ai
  | .var i, m, sc, ai, Wx, X, en, k, h, A => by
    replace h := ba h; obtain ⟨hp, h⟩ := h
    refine Ok.of A hp (fun _ _ => rfl) (.ofR rfl fun env => ?_)
    cases ai with
    | bo _ _ => cases h
    | e e =>
      cases e with
      | Name x p =>
        obtain ⟨h1, h2, h3, h4⟩ := slotB_ok h
        exact se_var A.xc h1 h2 h3 h4
      | _ => cases h
  | .own i, m, sc, ai, Wx, X, en, k, h, A => by
    replace h := ba h; obtain ⟨hp, h⟩ := h
    refine Ok.of A hp (fun _ _ => rfl) ⟨fun env => ?_, fun z => (by cases z), fun z => (by cases z)⟩
    cases ai with
    | bo _ _ => cases h
    | e e =>
      cases e with
      | Name x p =>
        obtain ⟨h1, h2, h3, h4⟩ := slotB_ok h
        exact se_own A.xc h1 h2 h3 h4
      | _ => cases h
  | .non, m, sc, ai, Wx, X, en, k, h, A => by
    replace h := ba h; obtain ⟨hp, h⟩ := h
    refine Ok.of A hp (fun _ _ => rfl) (.ofR rfl fun env => ?_)
    cases ai with
    | bo _ _ => cases h
    | e e =>
      cases e with
      | Constant c' _ _ =>
        cases c' with
        | none => exact se_const pe_non fun _ _ _ => rfl
        | _ => cases h
      | _ => cases h
  | .bl b, m, sc, ai, Wx, X, en, k, h, A => by
    replace h := ba h; obtain ⟨hp, h⟩ := h
    refine Ok.of A hp (fun _ _ => rfl) (.ofR rfl fun env => ?_)
    cases ai with
    | bo _ _ => cases h
    | e e =>
      cases e with
      | Constant c' _ _ =>
        cases c' with
        | bool b' =>
          have e1 : b = b' := eq_of_beq h
          subst e1
          exact se_const pe_bl fun _ _ _ => rfl
        | _ => cases h
      | _ => cases h
  | .int i, m, sc, ai, Wx, X, en, k, h, A => by
    replace h := ba h; obtain ⟨hp, h⟩ := h
    refine Ok.of A hp (fun _ _ => rfl) (.ofR rfl fun env => ?_)
    cases ai with
    | bo _ _ => cases h
    | e e =>
      cases e with
      | Constant c' _ _ =>
        cases c' with
        | int b' =>
          have e1 : i = b' := of_decide_eq_true h
          subst e1
          exact se_const pe_int fun _ _ _ => rfl
        | _ => cases h
      | _ => cases h
  | .str i, m, sc, ai, Wx, X, en, k, h, A => by
    replace h := ba h; obtain ⟨hp, h⟩ := h
    refine Ok.of A hp (fun _ _ => rfl) (.ofR rfl fun env => ?_)
    cases ai with
    | bo _ _ => cases h
    | e e =>
      cases e with
      | Constant c' _ _ =>
        cases c' with
        | str b' =>
          have e1 : i = b' := of_decide_eq_true h
          subst e1
          exact se_const pe_str fun _ _ _ => rfl
        | _ => cases h
      | _ => cases h
  | .glob i, m, sc, ai, Wx, X, en, k, h, A => by
    replace h := ba h; obtain ⟨hp, h⟩ := h
    refine Ok.of A hp (fun _ _ => rfl) (.ofR rfl fun env => ?_)
    cases ai with
    | bo _ _ => cases h
    | e e =>
      cases e with
      | Name x p =>
        replace h := ba h; obtain ⟨h1, h2⟩ := h
        replace h2 := ba h2; obtain ⟨h2, h3⟩ := h2
        obtain ⟨w, v, u, e1, e2, e3, e4⟩ := Bb.gx.gl i x (of_decide_eq_true h3)
        have e5 : (fun s => ev Γ.T cf ci (.glob i) false env s) = fun s => .ok w s := by
          funext s
          show retO (Γ.T.gl i) s = _
          rw [e1]; rfl
        rw [e5]
        exact se_glob A.xc (glB_ok h1) e2 e3 e4 (nameB_ok h2).1
      | _ => cases h
  | .bin op a b, m, sc, ai, Wx, X, en, k, h, A => by
    replace h := ba h; obtain ⟨hp, h⟩ := h
    refine Ok.of A hp (fun _ _ => rfl) (.ofN fun env => ?_)
    cases ai with
    | bo _ _ => cases h
    | e e =>
      cases e with
      | BinOp ea o eb p =>
        replace h := ba h; obtain ⟨h1, h2⟩ := h
        replace h2 := ba h2; obtain ⟨h2, h3⟩ := h2
        rw [isOp_ok h1]
        exact se_bin A.xc (((sndE a h2 A).1 rfl).lk env) (((sndE b h3 A).1 rfl).lk env)
      | _ => cases h
  | .neg a, m, sc, ai, Wx, X, en, k, h, A => by
    replace h := ba h; obtain ⟨hp, h⟩ := h
    refine Ok.of A hp (fun _ _ => rfl) (.ofR rfl fun env => ?_)
    cases ai with
    | bo _ _ => cases h
    | e e =>
      cases e with
      | UnaryOp o ea p =>
        cases o with
        | USub => exact se_neg (((sndE a h A).1 rfl).lk env)
        | _ => cases h
      | _ => cases h
  | .cmp op a b, m, sc, ai, Wx, X, en, k, h, A => by
    cases ai with
    | bo _ _ => cases h
    | e e =>
      unfold chk at h
      split at h
      · rename_i ea o eb p e1
        cases e1
        replace h := ba h; obtain ⟨h1, h2⟩ := h
        replace h2 := ba h2; obtain ⟨h2, h3⟩ := h2
        replace h3 := ba h3; obtain ⟨h3, h4⟩ := h3
        have hm : behindInMarks (opC op) eb = false := by simpa using h2
        rw [isCO_ok h1]
        exact ⟨fun _ => .ofR rfl fun env => se_cmp A.xc hm (((sndE a h3 A).1 rfl).lk env) (((sndE b h4 A).1 rfl).lk env), fun _ env => st_cmp A.xc hm (((sndE a h3 A).1 rfl).lk env) (((sndE b h4 A).1 rfl).lk env)⟩
      · cases h
  | .chain op op' a b d, m, sc, ai, Wx, X, en, k, h, A => by
    cases ai with
    | bo _ _ => cases h
    | e e =>
      unfold chk at h
      split at h
      · rename_i ea o o' eb ec p e1
        cases e1
        replace h := ba h; obtain ⟨h1, h2⟩ := h
        replace h2 := ba h2; obtain ⟨h2, h3⟩ := h2
        replace h3 := ba h3; obtain ⟨h3, h4⟩ := h3
        replace h4 := ba h4; obtain ⟨h4, h5⟩ := h4
        replace h5 := ba h5; obtain ⟨h5, h6⟩ := h5
        have hm : lastMarks [opC op, opC op'] [eb, ec] = false := by simpa using h3
        rw [isCO_ok h1, isCO_ok h2]
        exact ⟨fun _ => .ofR rfl fun env => se_chain A.xc hm (((sndE a h4 A).1 rfl).lk env) (((sndE b h5 A).1 rfl).lk env) (((sndE d h6 A).1 rfl).lk env),
          fun _ env => st_chain A.xc hm (((sndE a h4 A).1 rfl).lk env) (((sndE b h5 A).1 rfl).lk env) (((sndE d h6 A).1 rfl).lk env)⟩
      · cases h
  | .isN a, m, sc, ai, Wx, X, en, k, h, A => by
    cases ai with
    | bo _ _ => cases h
    | e e =>
      unfold chk at h
      split at h
      · rename_i ea j1 p1 p2 e1
        cases e1
        exact ⟨fun _ => .ofR rfl fun env => se_isN (((sndE a h A).1 rfl).lk env), fun _ env => st_isN (((sndE a h A).1 rfl).lk env)⟩
      · cases h
  | .notN a, m, sc, ai, Wx, X, en, k, h, A => by
    cases ai with
    | bo _ _ => cases h
    | e e =>
      unfold chk at h
      split at h
      · rename_i ea j1 p1 p2 e1
        cases e1
        exact ⟨fun _ => .ofR rfl fun env => se_notN (((sndE a h A).1 rfl).lk env), fun _ env => st_notN (((sndE a h A).1 rfl).lk env)⟩
      · cases h
  | .not a, m, sc, ai, Wx, X, en, k, h, A => by
    cases ai with
    | bo _ _ => cases h
    | e e =>
      unfold chk at h
      split at h
      · rename_i ea p e1
        cases e1
        refine ⟨fun hm => ?_, fun hm => ?_⟩
        · subst hm
          exact .ofR rfl fun env => se_not A.xc (((sndE a h A).1 rfl).lk env)
        · subst hm
          exact fun env => st_not ((sndE a h A).2 rfl env)
      · cases h
  | .and a b, m, sc, ai, Wx, X, en, k, h, A => by
    have key : ∀ {x y : Expr} {l : List Expr}, ((m || (notOwn a && notOwn b)) && (chk c a m sc (.e x) && chk c b m sc (tl .And (y :: l)))) = true →
        (m = false → ∀ env pos, PE X (.BoolOp .And (x :: y :: l) pos) (tR Γ Wx en env (fun s => ev Γ.T cf ci (.and a b) false env s) (pRep Γ))) ∧ (m = true → ∀ env pos, PW X (.BoolOp .And (x :: y :: l) pos) (tR Γ Wx en env (fun s => ev Γ.T cf ci (.and a b) true env s) pB)) := by
      intro x y l h
      replace h := ba h; obtain ⟨h0, h⟩ := h
      replace h := ba h; obtain ⟨h1, h2⟩ := h
      refine ⟨fun hm env pos => ?_, fun hm env pos => ?_⟩
      · subst hm
        replace h0 := ba h0; obtain ⟨n1, n2⟩ := h0
        exact se_and (((sndE a h1 A).1 rfl).fz n1 env) (tlE (((sndE b h2 A).1 rfl).fz n2 env) _)
      · subst hm
        exact sw_and ((sndE a h1 A).2 rfl env) (tlT ((sndE b h2 A).2 rfl env) _)
    cases ai with
    | bo op l =>
      unfold chk at h
      split at h
      · rename_i e1; cases e1
      · rename_i x y l e1
        cases e1
        obtain ⟨k1, k2⟩ := key h
        exact ⟨fun hm => .ofR rfl (k1 hm), fun hm => k2 hm⟩
      · cases h
    | e e =>
      unfold chk at h
      split at h
      · rename_i x y l p e1
        cases e1
        obtain ⟨k1, k2⟩ := key h
        exact ⟨fun hm => .ofR rfl fun env => k1 hm env _, fun hm env => (k2 hm env _).pt⟩
      · rename_i e1; cases e1
      · cases h
  | .or a b, m, sc, ai, Wx, X, en, k, h, A => by
    have key : ∀ {x y : Expr} {l : List Expr}, ((m || (notOwn a && notOwn b)) && (chk c a m sc (.e x) && chk c b m sc (tl .Or (y :: l)))) = true →
        (m = false → ∀ env pos, PE X (.BoolOp .Or (x :: y :: l) pos) (tR Γ Wx en env (fun s => ev Γ.T cf ci (.or a b) false env s) (pRep Γ))) ∧ (m = true → ∀ env pos, PW X (.BoolOp .Or (x :: y :: l) pos) (tR Γ Wx en env (fun s => ev Γ.T cf ci (.or a b) true env s) pB)) := by
      intro x y l h
      replace h := ba h; obtain ⟨h0, h⟩ := h
      replace h := ba h; obtain ⟨h1, h2⟩ := h
      refine ⟨fun hm env pos => ?_, fun hm env pos => ?_⟩
      · subst hm
        replace h0 := ba h0; obtain ⟨n1, n2⟩ := h0
        exact se_or (((sndE a h1 A).1 rfl).fz n1 env) (tlE (((sndE b h2 A).1 rfl).fz n2 env) _)
      · subst hm
        exact sw_or ((sndE a h1 A).2 rfl env) (tlT ((sndE b h2 A).2 rfl env) _)
    cases ai with
    | bo op l =>
      unfold chk at h
      split at h
      · rename_i e1; cases e1
      · rename_i x y l e1
        cases e1
        obtain ⟨k1, k2⟩ := key h
        exact ⟨fun hm => .ofR rfl (k1 hm), fun hm => k2 hm⟩
      · cases h
    | e e =>
      unfold chk at h
      split at h
      · rename_i x y l p e1
        cases e1
        obtain ⟨k1, k2⟩ := key h
        exact ⟨fun hm => .ofR rfl fun env => k1 hm env _, fun hm env => (k2 hm env _).pt⟩
      · rename_i e1; cases e1
      · cases h
  | .ite d a b, m, sc, ai, Wx, X, en, k, h, A => by
    replace h := ba h; obtain ⟨hp, h⟩ := h
    refine Ok.of A hp (fun _ _ => rfl) (.ofR rfl fun env => ?_)
    cases ai with
    | bo _ _ => cases h
    | e e =>
      cases e with
      | IfExp ed ea eb p =>
        replace h := ba h; obtain ⟨h1, h2⟩ := h
        replace h2 := ba h2; obtain ⟨h2, h3⟩ := h2
        replace h2 := ba h2; obtain ⟨n1, n2⟩ := h2
        replace h3 := ba h3; obtain ⟨h3, h4⟩ := h3
        exact se_ite ((sndE d h1 A).2 rfl env) (((sndE a h3 A).1 rfl).fz n1 env) (((sndE b h4 A).1 rfl).fz n2 env)
      | _ => cases h
  | .ix a b, m, sc, ai, Wx, X, en, k, h, A => by
    replace h := ba h; obtain ⟨hp, h⟩ := h
    refine Ok.of A hp (fun _ _ => rfl) (.ofR rfl fun env => ?_)
    cases ai with
    | bo _ _ => cases h
    | e e =>
      cases e with
      | Subscript ea eb p =>
        replace h := ba h; obtain ⟨h1, h2⟩ := h
        replace h2 := ba h2; obtain ⟨h2, h3⟩ := h2
        exact se_ix A.xc h1 (((sndE a h2 A).1 rfl).lk env) (((sndE b h3 A).1 rfl).lk env)
      | _ => cases h
  | .sl a lo hi, m, sc, ai, Wx, X, en, k, h, A => by
    replace h := ba h; obtain ⟨hp, h⟩ := h
    refine Ok.of A hp (fun _ _ => rfl) (.ofN fun env => ?_)
    cases ai with
    | bo _ _ => cases h
    | e e =>
      split at h
      · rename_i ea el eh p1 p2 e1
        cases e1
        replace h := ba h; obtain ⟨h1, h2⟩ := h
        replace h2 := ba h2; obtain ⟨h2, h3⟩ := h2
        have pt : ∀ (lo : Ex) (el : Option Expr) (ih : ∀ x, chk c lo false sc (.e x) = true → PE X x (tR Γ Wx en env (fun s => ev Γ.T cf ci lo false env s) (pRepX Γ))), (match el with
            | none => isNonE lo
            | some x => !isNonE lo && chk c lo false sc (.e x)) = true → PtOk Γ Wx en env X el lo (fun s => ev Γ.T cf ci lo false env s) := by
          intro lo el ih h
          cases el with
          | none =>
            have e2 : lo = .non := by cases lo <;> first | rfl | cases h
            subst e2
            exact .none
          | some x =>
            replace h := ba h; obtain ⟨h4, h5⟩ := h
            exact .some (ih x h5) (by simpa using h4)
        exact se_sl A.xc (((sndE a h1 A).1 rfl).lk env) (pt lo el (fun x hx => ((sndE lo hx A).1 rfl).lk env) h2) (pt hi eh (fun x hx => ((sndE hi hx A).1 rfl).lk env) h3)
      · cases h
  | .mx mn a d, m, sc, ai, Wx, X, en, k, h, A => by
    replace h := ba h; obtain ⟨hp, h⟩ := h
    refine Ok.of A hp (fun _ _ => rfl) (.ofR rfl fun env => ?_)
    cases ai with
    | bo _ _ => cases h
    | e e =>
      split at h
      · rename_i e1
        cases e1
        replace h := ba h; obtain ⟨h0, h⟩ := h
        replace h := ba h; obtain ⟨h1, h⟩ := h
        replace h := ba h; obtain ⟨h2, h⟩ := h
        replace h := ba h; obtain ⟨h3, h⟩ := h
        replace h := ba h; obtain ⟨h4, h⟩ := h
        replace h := ba h; obtain ⟨h5, h6⟩ := h
        obtain rfl := of_decide_eq_true h2
        exact se_mx A.xc (A.calm h0) (freeB_ok Bb.gx h3) (of_decide_eq_true h1) h4 (((sndE a h5 A).1 rfl).lk env) (((sndE d h6 A).1 rfl).lk env)
      · cases h
  | .rl a, m, sc, ai, Wx, X, en, k, h, A => by
    replace h := ba h; obtain ⟨hp, h⟩ := h
    refine Ok.of A hp (fun _ _ => rfl) (.ofN fun env => ?_)
    cases ai with
    | bo _ _ => cases h
    | e e =>
      split at h
      · rename_i e1
        cases e1
        replace h := ba h; obtain ⟨h0, h⟩ := h
        replace h := ba h; obtain ⟨h1, h⟩ := h
        replace h := ba h; obtain ⟨h2, h⟩ := h
        replace h := ba h; obtain ⟨h3, h⟩ := h
        replace h := ba h; obtain ⟨h4, h⟩ := h
        replace h := ba h; obtain ⟨h5, h6⟩ := h
        exact se_rl A.xc (A.calm h0) (freeB_ok Bb.gx h3) (of_decide_eq_true h1) (freeB_ok Bb.gx h4) (of_decide_eq_true h2) h5 (((sndE a h6 A).1 rfl).lk env)
      · cases h
  | .dnew t, m, sc, ai, Wx, X, en, k, h, A => by
    replace h := ba h; obtain ⟨hp, h⟩ := h
    refine Ok.of A hp (fun _ _ => rfl) (.ofR rfl fun env => ?_)
    cases ai with
    | bo _ _ => cases h
    | e e =>
      split at h
      · rename_i e1
        cases e1
        exact se_dnew
      · cases h
  | .dn1 k e, m, sc, ai, Wx, X, en, kk, h, A => by
    replace h := ba h; obtain ⟨hp, h⟩ := h
    refine Ok.of A hp (fun _ _ => rfl) (.ofR rfl fun env => ?_)
    cases ai with
    | bo _ _ => cases h
    | e ee =>
      split at h
      · rename_i e1
        cases e1
        replace h := ba h; obtain ⟨h0, h⟩ := h
        replace h0 := ba h0; obtain ⟨n1, n2⟩ := h0
        replace h := ba h; obtain ⟨h1, h2⟩ := h
        exact se_dn1 A.xc (((sndE k h1 A).1 rfl).fz n1 env) (((sndE e h2 A).1 rfl).fz n2 env)
      · cases h
  | .dget d k, m, sc, ai, Wx, X, en, kk, h, A => by
    replace h := ba h; obtain ⟨hp, h⟩ := h
    refine Ok.of A hp (fun _ _ => rfl) (.ofR rfl fun env => ?_)
    cases ai with
    | bo _ _ => cases h
    | e e =>
      split at h
      · rename_i e1
        cases e1
        replace h := ba h; obtain ⟨h1, h⟩ := h
        replace h := ba h; obtain ⟨h2, h3⟩ := h
        exact se_dget A.xc h1 (((sndE d h2 A).1 rfl).lk env) (((sndE k h3 A).1 rfl).lk env)
      · cases h
  | .din neg kk d, m, sc, ai, Wx, X, en, k, h, A => by
    cases ai with
    | bo _ _ => cases h
    | e e =>
      unfold chk at h
      split at h
      · rename_i ea o eb p e1
        cases e1
        replace h := ba h; obtain ⟨h1, h2⟩ := h
        replace h2 := ba h2; obtain ⟨h2, h3⟩ := h2
        replace h3 := ba h3; obtain ⟨h3, h4⟩ := h3
        have hm : behindInMarks (if neg then .NotIn else .In) eb = false := by simpa using h2
        have ho : o = if neg then .NotIn else .In := by rw [isCO_ok h1]; cases neg <;> rfl
        rw [ho]
        exact ⟨fun _ => .ofR rfl fun env => se_din A.xc (((sndE kk h3 A).1 rfl).lk env) (((sndE d h4 A).1 rfl).lk env) hm, fun _ env => st_din A.xc (((sndE kk h3 A).1 rfl).lk env) (((sndE d h4 A).1 rfl).lk env) hm⟩
      · cases h
  | .dget1 _ _, m, sc, ai, Wx, X, en, k, h, A => by cases h
  | .idx a b, m, sc, ai, Wx, X, en, kk, h, A => by
    replace h := ba h; obtain ⟨hp, h⟩ := h
    refine Ok.of A hp (fun _ _ => rfl) (.ofR rfl fun env => ?_)
    cases ai with
    | bo _ _ => cases h
    | e e =>
      split at h
      · rename_i e1
        cases e1
        replace h := ba h; obtain ⟨h0, h⟩ := h
        replace h := ba h; obtain ⟨h1, h⟩ := h
        replace h := ba h; obtain ⟨h2, h⟩ := h
        replace h := ba h; obtain ⟨h3, h⟩ := h
        replace h := ba h; obtain ⟨h4, h5⟩ := h
        obtain rfl := of_decide_eq_true h0
        exact se_idx A.xc h1 h2 h3 (((sndE a h4 A).1 rfl).lk env) (((sndE b h5 A).1 rfl).lk env)
      · cases h
  | .rev a, m, sc, ai, Wx, X, en, k, h, A => by
    replace h := ba h; obtain ⟨hp, h⟩ := h
    refine Ok.of A hp (fun _ _ => rfl) (.ofN fun env => ?_)
    cases ai with
    | bo _ _ => cases h
    | e e =>
      split at h
      · rename_i e1
        cases e1
        exact se_rev A.xc (((sndE a h A).1 rfl).lk env)
      · cases h
  | .lst es, m, sc, ai, Wx, X, en, k, h, A => by
    replace h := ba h; obtain ⟨hp, h⟩ := h
    refine Ok.of A hp (fun _ _ => rfl) (.ofN fun env => ?_)
    cases ai with
    | bo _ _ => cases h
    | e e =>
      cases e with
      | List xs p => exact se_lst ((sndEs es h A).1 rfl env)
      | _ => cases h
  | .tup es, m, sc, ai, Wx, X, en, k, h, A => by
    replace h := ba h; obtain ⟨hp, h⟩ := h
    refine Ok.of A hp (fun _ _ => rfl) (.ofN fun env => ?_)
    cases ai with
    | bo _ _ => cases h
    | e e =>
      cases e with
      | Tuple xs x1 p => exact se_tup ((sndEs es h A).1 rfl env)
      | _ => cases h
  | .call f es, m, sc, ai, Wx, X, en, k, h, A => by
    replace h := ba h; obtain ⟨hp, h⟩ := h
    refine Ok.of A hp (fun _ _ => rfl) (.ofR rfl fun env => ?_)
    cases ai with
    | bo _ _ => cases h
    | e e =>
      split at h
      · rename_i x p1 xs p e1
        cases e1
        replace h := ba h; obtain ⟨h1, h2⟩ := h
        replace h2 := ba h2; obtain ⟨h2, h3⟩ := h2
        replace h3 := ba h3; obtain ⟨hk0, h3⟩ := h3
        replace h2 := ba h2; obtain ⟨h4, h5⟩ := h2
        replace h5 := ba h5; obtain ⟨h5, h6⟩ := h5
        replace h6 := ba h6; obtain ⟨h6, h7⟩ := h6
        have e2 := of_decide_eq_true h5
        subst e2
        obtain ⟨⟨d, ed⟩, hm, hk⟩ := Bb.gx.fn f h4
        exact se_call A.xc (A.calm h1) Bb.fx Bb.lv (by have := A.lv; omega) ed ((Bb.gx.kn f).trans (of_decide_eq_true hk0)) (glB_ok h6) hm hk (nameB_ok h7).1 (acs Bb A h3 (sndEs es h3 A))
      · cases h
  | .bi b es, m, sc, ai, Wx, X, en, k, h, A => by
    replace h := ba h; obtain ⟨hp, h⟩ := h
    refine Ok.of A hp (fun _ _ => rfl) (.ofN fun env => ?_)
    cases ai with
    | bo _ _ => cases h
    | e e =>
      split at h
      · rename_i x p1 y xs p e1
        cases e1
        replace h := ba h; obtain ⟨h1, h2⟩ := h
        replace h1 := ba h1; obtain ⟨h3, h4⟩ := h1
        replace h4 := ba h4; obtain ⟨h4, h5⟩ := h4
        have hes := sndEs es h2 A
        cases e2 : biV2 b with
        | none => rw [e2] at h3; cases h3
        | some q =>
          rw [e2] at h3
          have e3 : q.1 = x := of_decide_eq_true h3
          exact se_bi2 A.xc (A.calm h5) (f := q.2) (by rw [e2, ← e3]) (freeB_ok Bb.gx h4) hes.2.2 (hes.2.1 env)
      · cases h
  | .isi a ts, m, sc, ai, Wx, X, en, k, h, A => by
    replace h := ba h; obtain ⟨hp, h⟩ := h
    refine Ok.of A hp (fun _ _ => rfl) (.ofR rfl fun env => ?_)
    cases ai with
    | bo _ _ => cases h
    | e e =>
      split at h
      · rename_i x p1 ea eb p e1
        cases e1
        replace h := ba h; obtain ⟨h1, h⟩ := h
        replace h := ba h; obtain ⟨h2, h⟩ := h
        replace h := ba h; obtain ⟨h3, h⟩ := h
        replace h := ba h; obtain ⟨h4, h⟩ := h
        replace h := ba h; obtain ⟨h5, h6⟩ := h
        have e2 := of_decide_eq_true h1
        subst e2
        exact se_isi A.xc Bb.fi (freeB_ok Bb.gx h2) h3 (fun z => by subst z; simp at h4) (((sndE a h5 A).1 rfl).lk env) (isArgB_ok A Bb.gx h6)
      · cases h
  | .mk q es, m, sc, ai, Wx, X, en, k, h, A => by
    replace h := ba h; obtain ⟨hp, h⟩ := h
    refine Ok.of A hp (fun _ _ => rfl) (.ofR rfl fun env => ?_)
    cases ai with
    | bo _ _ => cases h
    | e e =>
      split at h
      · rename_i x p1 xs p e1
        cases e1
        replace h := ba h; obtain ⟨h1, h2⟩ := h
        replace h2 := ba h2; obtain ⟨h2, h3⟩ := h2
        replace h3 := ba h3; obtain ⟨h3, h4⟩ := h3
        replace h3 := ba h3; obtain ⟨k1, k2⟩ := h3
        replace k2 := ba k2; obtain ⟨k2, k3⟩ := k2
        replace k3 := ba k3; obtain ⟨k3, k4⟩ := k3
        have e2 := of_decide_eq_true k2
        subst e2
        obtain ⟨f, ef, hk0⟩ := initB_ok h2
        rw [A.tab] at ef
        exact se_mk A.xc (A.calm h1) Bb.fx Bb.lv A.lv ef ((Bb.gx.kn f).trans hk0) (glB_ok k3) (Bb.gx.cl q k1) (nameB_ok k4).1 (acs Bb A h4 (sndEs es h4 A))
      · cases h
  | .mkC q es, m, sc, ai, Wx, X, en, k, h, A => by
    replace h := ba h; obtain ⟨hp, h⟩ := h
    refine Ok.of A hp (fun _ _ => rfl) (.ofR rfl fun env => ?_)
    cases ai with
    | bo _ _ => cases h
    | e e =>
      split at h
      · rename_i x p1 xs p e1
        cases e1
        replace h := ba h; obtain ⟨h1, h2⟩ := h
        replace h2 := ba h2; obtain ⟨h2, h3⟩ := h2
        replace h3 := ba h3; obtain ⟨h3, h4⟩ := h3
        replace h3 := ba h3; obtain ⟨k1, k2⟩ := h3
        replace k2 := ba k2; obtain ⟨k2, k3⟩ := k2
        replace k3 := ba k3; obtain ⟨k3, k4⟩ := k3
        have e2 := of_decide_eq_true k2
        subst e2
        obtain ⟨f, ef, hk0⟩ := initB_ok h2
        rw [A.tab] at ef
        exact se_mkC A.xc (A.calm h1) Bb.fx Bb.lv A.lv ef ((Bb.gx.kn f).trans hk0) (glB_ok k3) (Bb.gx.cl q k1) (nameB_ok k4).1 (acs Bb A h4 (sndEs es h4 A))
      · cases h
  | .meth n o es, m, sc, ai, Wx, X, en, k, h, A => by
    replace h := ba h; obtain ⟨hp, h⟩ := h
    refine Ok.of A hp (fun _ _ => rfl) (.ofR rfl fun env => ?_)
    cases ai with
    | bo _ _ => cases h
    | e e =>
      split at h
      · rename_i eo x ap xs p e1
        cases e1
        replace h := ba h; obtain ⟨h1, h2⟩ := h
        replace h2 := ba h2; obtain ⟨h2, h3⟩ := h2
        replace h3 := ba h3; obtain ⟨h3, h4⟩ := h3
        replace h4 := ba h4; obtain ⟨h4, h5⟩ := h4
        replace h5 := ba h5; obtain ⟨h5, h6⟩ := h5
        replace h4 := ba h4; obtain ⟨k1, k2⟩ := h4
        obtain ⟨hlt, h2⟩ := ba h2
        have e2 := of_decide_eq_true h2
        have hes := sndEs es h6 A
        exact se_meth (of_decide_eq_true hlt) A.xc (A.calm h1) Bb.fx Bb.lv (by have := A.lv; omega) ((Bb.gx.nm n).trans e2) h3 hes.2.2 (of_decide_eq_true k1) k2 (((sndE o h5 A).1 rfl).lk env) (acs Bb A h6 hes)
      · cases h
  | .fld a f, m, sc, ai, Wx, X, en, k, h, A => by
    replace h := ba h; obtain ⟨hp, h⟩ := h
    refine Ok.of A hp (fun _ _ => rfl) (.ofR rfl fun env => ?_)
    cases ai with
    | bo _ _ => cases h
    | e e =>
      cases e with
      | Attribute ea x p =>
        replace h := ba h; obtain ⟨h1, h2⟩ := h
        replace h2 := ba h2; obtain ⟨h2, h3⟩ := h2
        exact se_fld A.xc Bb.fx ((Bb.gx.nm f).trans (of_decide_eq_true h1)) (((sndE a h3 A).1 rfl).lk env) (plainO_ok h2)
      | _ => cases h
  | .slf f, m, sc, ai, Wx, X, en, k, h, A => by
    replace h := ba h; obtain ⟨hp, h⟩ := h
    refine Ok.of A hp (fun _ _ => rfl) (.ofR rfl fun env => ?_)
    cases ai with
    | bo _ _ => cases h
    | e e =>
      split at h
      · rename_i y p1 x p e1
        cases e1
        replace h := ba h; obtain ⟨h1, h2⟩ := h
        obtain ⟨k1, k2, k3, k4⟩ := slotB_ok h2
        exact se_slf A.xc Bb.fx ((Bb.gx.nm f).trans (of_decide_eq_true h1)) k1 k2 k3 k4 (plainO_ok rfl)
      · cases h
  | .con q f, m, sc, ai, Wx, X, en, k, h, A => by
    replace h := ba h; obtain ⟨hp, h⟩ := h
    refine Ok.of A hp (fun _ _ => rfl) (.ofR rfl fun env => ?_)
    cases ai with
    | bo _ _ => cases h
    | e e =>
      split at h
      · rename_i y p1 x p e1
        cases e1
        replace h := ba h; obtain ⟨h1, h2⟩ := h
        replace h2 := ba h2; obtain ⟨k1, k2⟩ := h2
        replace k2 := ba k2; obtain ⟨k2, k3⟩ := k2
        replace k3 := ba k3; obtain ⟨k3, k4⟩ := k3
        have e2 := of_decide_eq_true k2
        subst e2
        exact se_con A.xc Bb.fi ((Bb.gx.nm f).trans (of_decide_eq_true h1)) (glB_ok k3) (Bb.gx.cl q k1) (nameB_ok k4).1
      · cases h
  | .xfld i f, m, sc, ai, Wx, X, en, k, h, A => by
    replace h := ba h; obtain ⟨hp, h⟩ := h
    refine Ok.of A hp (fun _ _ => rfl) (.ofR rfl fun env => ?_)
    cases ai with
    | bo _ _ => cases h
    | e e =>
      split at h
      · rename_i y p1 x p e1
        cases e1
        replace h := ba h; obtain ⟨h0, h⟩ := h
        replace h := ba h; obtain ⟨h1, h2⟩ := h
        obtain ⟨k1, k2, k3, k4⟩ := slotB_ok h2
        exact se_xfld A.xc Bb.fe Bb.fx.nmI (A.suite (by simpa using h0)) ((Bb.gx.nm f).trans (of_decide_eq_true h1)) k1 k2 k3 k4
      · cases h
  | .xisi i ts, m, sc, ai, Wx, X, en, k, h, A => by
    replace h := ba h; obtain ⟨hp, h⟩ := h
    refine Ok.of A hp (fun _ _ => rfl) (.ofR rfl fun env => ?_)
    cases ai with
    | bo _ _ => cases h
    | e e =>
      split at h
      · rename_i x p1 y p2 ea p e1
        cases e1
        replace h := ba h; obtain ⟨h0, h⟩ := h
        replace h := ba h; obtain ⟨h1, h⟩ := h
        replace h := ba h; obtain ⟨h2, h⟩ := h
        replace h := ba h; obtain ⟨h3, h4⟩ := h
        have e2 := of_decide_eq_true h1
        subst e2
        obtain ⟨k1, k2, k3, k4⟩ := slotB_ok h3
        exact se_xisi A.xc Bb.fe (A.suite (by simpa using h0)) k1 k2 k3 k4 (freeB_ok Bb.gx h2) (isArgB_ok A Bb.gx h4)
      · cases h
  | .comp t sr ifs e, m, sc, ai, Wx, X, en, k, h, A => by
    replace h := ba h; obtain ⟨hp, h⟩ := h
    refine Ok.of A hp (fun _ _ => rfl) (.ofN fun env => ?_)
    cases ai with
    | bo _ _ => cases h
    | e e' =>
      split at h
      · rename_i elt tg iter fs scope p e1
        cases e1
        replace h := ba h; obtain ⟨h1, h⟩ := h
        replace h := ba h; obtain ⟨h2, h⟩ := h
        replace h := ba h; obtain ⟨h3, h⟩ := h
        replace h := ba h; obtain ⟨h4, h⟩ := h
        replace h := ba h; obtain ⟨h5, h⟩ := h
        replace h := ba h; obtain ⟨h6, h⟩ := h
        replace h := ba h; obtain ⟨h7, h8⟩ := h
        have hc := A.calm h1
        have own2 : (ownL c.N (tgIx t)).map (·.2) = tgIx t := by
          unfold ownL
          rw [List.map_map]
          exact List.map_id _
        have AB : ∀ (σ0 : L2.St) (s : Shared) (H : Hp) (C : Addr) (cl : List (Str × Addr)) (fp : List Addr) (xe : Value → Shared → Prop), (∀ Lq, TakesL (blkX X s H scope (compEnvC scope cl C X.env) fp xe) (WAt Wx σ0) Lq) → At Γ c (WAt Wx σ0) (relS scope sc) k j en (blkX X s H scope (compEnvC scope cl C X.env) fp xe) := fun σ0 s H C cl fp xe tk =>
          ⟨xc_blk A.xc tk, A.calm, fun z => (by rw [h1] at z; cases z), A.lv, A.tab, topW_blk A.top tk⟩
        have ok : BlkOk X.N X.env.scope scope (ownL c.N (tgIx t)) := by rw [A.xc.eN, A.xc.eS]; exact blkOk_by h4
        have hloc : ∀ (s : Shared) (H : Hp) (C : Addr) (cl : List (Str × Addr)) (fp : List Addr) (xe : Value → Shared → Prop) (x : Str), locB scope x = true → L2.Loc (blkX X s H scope (compEnvC scope cl C X.env) fp xe).env.scope x ∧
            ((blkX X s H scope (compEnvC scope cl C X.env) fp xe).fn x = true ∨ (blkX X s H scope (compEnvC scope cl C X.env) fp xe).env.scope.names.lookup x = some .local) := by
          intro s H C cl fp xe x hx
          have lk : ∀ {k : NameKind}, scope.names.lookup x = some k → k ≠ .free → (relS scope X.env.scope).names.lookup x = some k := fun {k} e hk => relS_lookup e hk
          unfold locB at hx
          split at hx
          · rename_i e2
            exact ⟨.inl (lk e2 (by decide)), .inr (lk e2 (by decide))⟩
          · rename_i e2
            refine ⟨.inr (lk e2 (by decide)), .inl ?_⟩
            show (scope.names.lookup x == some .cell) = true
            rw [e2]; rfl
          · cases hx
        refine PE.mono (pe_lcX (W := Wx) (tt := fun σ0 => tX Γ (WAt Wx σ0) en (fun env s => evIfs Γ.T cf ci ifs env s) pEq) (te := fun σ0 => tX Γ (WAt Wx σ0) en (fun env s => ev Γ.T cf ci e false env s) (pRep Γ)) A.top hc (by rw [A.xc.eN]; exact A.xc.nd) (sndSr sr h3 A env) ok
          (fun σ0 s H C cl fp xe tk => tgB_ok (sc0 := scope) (AB σ0 s H C cl fp xe tk) (hloc s H C cl fp xe) h5) (fun σ0 s H C cl fp xe tk => sndIfs ifs h6 (AB σ0 s H C cl fp xe tk)) (fun σ0 s H C cl fp xe tk => pe_X fun env => ((sndE e h8 (AB σ0 s H C cl fp xe tk)).1 rfl).fz h7 env) (fset_plain h2)) ?_
        rw [own2]
        have := se_comp (Γ := Γ) (Wx := Wx) (en := en) (env := env) (own := ownL c.N (tgIx t)) (t := t) (sz := Γ.T.sz) (src := fun s => evS Γ.T cf ci sr env s) (fs := fun env s => evIfs Γ.T cf ci ifs env s) (el := fun env s => ev Γ.T cf ci e false env s) (by rw [own2]; exact fun _ h => h) (by rw [own2]; exact fun _ h => h)
        rw [own2] at this
        exact this
      · cases h
  | .kcall f es e0, m, sc, ai, Wx, X, en, k, h, A => by
    replace h := ba h; obtain ⟨hp, h⟩ := h
    refine Ok.of A hp (fun _ _ => rfl) (.ofR rfl fun env => ?_)
    cases ai with
    | bo _ _ => cases h
    | e e =>
      split at h
      · rename_i x p1 y ys kx v p2 p e1
        cases e1
        replace h := ba h; obtain ⟨h1, h2⟩ := h
        replace h2 := ba h2; obtain ⟨h2, h3⟩ := h2
        replace h3 := ba h3; obtain ⟨hk0, h3⟩ := h3
        replace h3 := ba h3; obtain ⟨hpl, h3⟩ := h3
        replace h3 := ba h3; obtain ⟨hno, h3⟩ := h3
        replace h3 := ba h3; obtain ⟨hv, h3⟩ := h3
        replace h2 := ba h2; obtain ⟨h4, h5⟩ := h2
        replace h5 := ba h5; obtain ⟨h5, h6⟩ := h5
        replace h6 := ba h6; obtain ⟨h6, h7⟩ := h6
        have e2 := of_decide_eq_true h5
        subst e2
        obtain ⟨⟨d, ed⟩, hm, hk⟩ := Bb.gx.fn f h4
        exact se_kcall A.xc (A.calm h1) Bb.fk Bb.lv (by have := A.lv; omega) ed ((Bb.gx.kn f).trans (of_decide_eq_true hk0)) (glB_ok h6) hm hk (nameB_ok h7).1 hpl ((sndEs es h3 A).1 rfl env) (((sndE e0 hv A).1 rfl).fz hno env)
      · rename_i x p1 xs p _ e1
        cases e1
        replace h := ba h; obtain ⟨h1, h2⟩ := h
        replace h2 := ba h2; obtain ⟨h2, h3⟩ := h2
        replace h3 := ba h3; obtain ⟨hkd, h3⟩ := h3
        replace h3 := ba h3; obtain ⟨hnn, h3⟩ := h3
        replace hkd := ba hkd; obtain ⟨hk1, hk2⟩ := hkd
        replace h2 := ba h2; obtain ⟨h4, h5⟩ := h2
        replace h5 := ba h5; obtain ⟨h5, h6⟩ := h5
        replace h6 := ba h6; obtain ⟨h6, h7⟩ := h6
        have e2 := of_decide_eq_true h5
        subst e2
        obtain ⟨⟨d, ed⟩, hm, hk⟩ := Bb.gx.fn f h4
        obtain ⟨kn, ekn⟩ := Option.isSome_iff_exists.mp hk1
        cases (isNonE_ok hnn)
        exact se_kcallD A.xc (A.calm h1) Bb.fk Bb.lv (by have := A.lv; omega) ed ((Bb.gx.kn f).trans ekn) ((Bb.gx.kd f).trans hk2) (glB_ok h6) hm hk (nameB_ok h7).1 (acs Bb A h3 (sndEs es h3 A))
      · cases h
  | .kmkC q es e0, m, sc, ai, Wx, X, en, k, h, A => by
    replace h := ba h; obtain ⟨hp, h⟩ := h
    refine Ok.of A hp (fun _ _ => rfl) (.ofR rfl fun env => ?_)
    cases ai with
    | bo _ _ => cases h
    | e e =>
      split at h
      · rename_i x p1 y ys kx v p2 p e1
        cases e1
        replace h := ba h; obtain ⟨h1, h2⟩ := h
        replace h2 := ba h2; obtain ⟨h2, h3⟩ := h2
        replace h3 := ba h3; obtain ⟨hk0, h3⟩ := h3
        replace h3 := ba h3; obtain ⟨hpl, h3⟩ := h3
        replace h3 := ba h3; obtain ⟨hno, h3⟩ := h3
        replace h3 := ba h3; obtain ⟨hv, h3⟩ := h3
        replace h2 := ba h2; obtain ⟨k1, k2⟩ := h2
        replace k2 := ba k2; obtain ⟨k2, k3⟩ := k2
        replace k3 := ba k3; obtain ⟨k3, k4⟩ := k3
        have e2 := of_decide_eq_true k2
        subst e2
        obtain ⟨f, ef, ek⟩ := initK_ok hk0
        rw [A.tab] at ef
        exact se_kmkC A.xc (A.calm h1) Bb.fx Bb.fk Bb.lv A.lv ef ((Bb.gx.kn f).trans ek) (glB_ok k3) (Bb.gx.cl q k1) (nameB_ok k4).1 hpl ((sndEs es h3 A).1 rfl env) (((sndE e0 hv A).1 rfl).fz hno env)
      · rename_i x p1 xs p _ e1
        cases e1
        replace h := ba h; obtain ⟨h1, h2⟩ := h
        replace h2 := ba h2; obtain ⟨h2, h3⟩ := h2
        replace h3 := ba h3; obtain ⟨hkd, h3⟩ := h3
        replace h3 := ba h3; obtain ⟨hnn, h3⟩ := h3
        replace h2 := ba h2; obtain ⟨k1, k2⟩ := h2
        replace k2 := ba k2; obtain ⟨k2, k3⟩ := k2
        replace k3 := ba k3; obtain ⟨k3, k4⟩ := k3
        have e2 := of_decide_eq_true k2
        subst e2
        obtain ⟨f, kn, ef, ek, ed⟩ := initD_ok hkd
        rw [A.tab] at ef
        cases (isNonE_ok hnn)
        exact se_kmkCD A.xc (A.calm h1) Bb.fx Bb.fk Bb.lv A.lv ef ((Bb.gx.kn f).trans ek) ((Bb.gx.kd f).trans ed) (glB_ok k3) (Bb.gx.cl q k1) (nameB_ok k4).1 (acs Bb A h3 (sndEs es h3 A))
      · cases h
  | .prp n o, m, sc, ai, Wx, X, en, k, h, A => by
    replace h := ba h; obtain ⟨hp, h⟩ := h
    refine Ok.of A hp (fun _ _ => rfl) (.ofR rfl fun env => ?_)
    cases ai with
    | bo _ _ => cases h
    | e e =>
      cases e with
      | Attribute eo x p =>
        replace h := ba h; obtain ⟨h1, h2⟩ := h
        replace h2 := ba h2; obtain ⟨h2, h3⟩ := h2
        replace h3 := ba h3; obtain ⟨h3, h4⟩ := h3
        obtain ⟨hlt, h2⟩ := ba h2
        exact se_prop (of_decide_eq_true hlt) A.xc (A.calm h1) Bb.fx Bb.fk Bb.lv A.lv ((Bb.gx.nm n).trans (of_decide_eq_true h2)) (plainO_ok h3) (((sndE o h4 A).1 rfl).lk env)
      | _ => cases h
  | .cal o es, m, sc, ai, Wx, X, en, k, h, A => by
    replace h := ba h; obtain ⟨hp, h⟩ := h
    refine Ok.of A hp (fun _ _ => rfl) (.ofR rfl fun env => ?_)
    cases ai with
    | bo _ _ => cases h
    | e e =>
      split at h
      · rename_i y p1 xs p e1
        cases e1
        replace h := ba h; obtain ⟨h1, h2⟩ := h
        replace h2 := ba h2; obtain ⟨h2, h3⟩ := h2
        replace h3 := ba h3; obtain ⟨h3, h4⟩ := h3
        have hes := sndEs es h4 A
        refine se_cal A.xc (A.calm h1) Bb.fx Bb.fk Bb.lv (by have := A.lv; omega) hes.2.2 (((sndE o h3 A).1 rfl).fz h2 env) (hes.1 rfl env) ?_
        rintro rfl σ H P ⟨S, hr, sl, q⟩
        cases es with
        | nil => exact RP.done (a := ([] : List W)) q hr [] rfl
        | cons e r => cases h4
      · cases h
  | .cell e, m, sc, ai, Wx, X, en, k, h, A => by
    replace h := ba h; obtain ⟨hp, h⟩ := h
    refine Ok.of A hp (fun _ _ => rfl) (.ofR rfl fun env => ?_)
    replace h := ba h; obtain ⟨h1, h2⟩ := h
    have hn := ((sndE e h2 A).1 rfl).nw h1 env
    cases ai with
    | e x => exact se_cell hn
    | bo op l => exact fun pos => se_cell (hn pos)
theorem sndEs : ∀ (xs : Exs) {o : Bool} {sc : Scope} {es : List Expr} {Wx : WX} {X : Cx} {en : En} {k : Nat}, chkEs c xs o sc es = true → At Γ c Wx sc k j en X → OkEs Γ Wx en X cf ci xs o es
  | .nil, o, sc, es, Wx, X, en, k, h, A => by
    cases es with
    | cons _ _ => cases h
    | nil => exact ⟨fun _ env => sa_nil, fun env => sx_nil, rfl⟩
  | .cons e r, o, sc, es, Wx, X, en, k, h, A => by
    cases es with
    | nil => cases h
    | cons x l =>
      replace h := ba h; obtain ⟨h1, g1⟩ := h
      replace g1 := ba g1; obtain ⟨g2, g3⟩ := g1
      replace g3 := ba g3; obtain ⟨g4, g5⟩ := g3
      have he := (sndE e g4 A).1 rfl
      have hr := sndEs r g5 A
      refine ⟨fun ho env => ?_, fun env => sx_cons g2 (he.lk env) (hr.2.1 env), by rw [List.all_cons, g2, hr.2.2]; rfl⟩
      subst ho
      exact sa_cons g2 (he.fz (by simpa using h1) env) (hr.1 rfl env)
theorem sndIfs : ∀ (xs : Exs) {sc : Scope} {es : List Expr} {Wx : WX} {X : Cx} {en : En} {k : Nat}, chkIfs c xs sc es = true → At Γ c Wx sc k j en X → OkIfs Γ Wx en X cf ci xs es
  | .nil, sc, es, Wx, X, en, k, h, A => by
    cases es with
    | cons _ _ => cases h
    | nil =>
      refine ⟨fun pins s σ H Q I ⟨env, S, hr, sl, q⟩ => pts_nil.run pins s σ H Q I ?_⟩
      exact RP.done (a := true) q hr true rfl
  | .cons e .nil, sc, es, Wx, X, en, k, h, A => by
    cases es with
    | nil => cases h
    | cons x l =>
      cases l with
      | cons _ _ => cases h
      | nil =>
        have := pts_one (pt_X ((sndE e h A).2 rfl))
        refine ⟨fun pins s σ H Q I hw => this.run pins s σ H Q I ?_⟩
        obtain ⟨env, S, hr, sl, q⟩ := hw
        refine ⟨env, S, hr, sl, ?_⟩
        have e1 : evIfs Γ.T cf ci (.cons e .nil) env S.S = (ev Γ.T cf ci e true env S.S).bind toB := by
          show ((ev Γ.T cf ci e true env S.S).bind fun x s1 => (toB x s1).bind fun b s2 => R.ok b s2) = _
          congr 1
          funext x s1
          exact bind_okW _
        dsimp only at q ⊢
        rw [← e1]
        exact q
  | .cons e (.cons e2 r), sc, es, Wx, X, en, k, h, A => by cases h
theorem sndSr : ∀ (x : Sr) {sc : Scope} {tg it : Expr} {Wx : WX} {X : Cx} {en : En} {k : Nat}, chkSr c x sc tg it = true → At Γ c Wx sc k j en X → OkSr Γ Wx en X cf ci x tg it
  | .seq e, sc, tg, it, Wx, X, en, k, h, A => by
    replace h := ba h; obtain ⟨h1, h2⟩ := h
    exact fun env => si_seq A.xc (((sndE e h2 A).1 rfl).fz h1 env)
  | .rng1 a, sc, tg, it, Wx, X, en, k, h, A => by
    intro env
    unfold chkSr at h
    split at h
    · replace h := ba h; obtain ⟨h1, h⟩ := h
      replace h := ba h; obtain ⟨h2, h⟩ := h
      replace h := ba h; obtain ⟨h3, h⟩ := h
      replace h := ba h; obtain ⟨h4, h5⟩ := h
      have e2 := of_decide_eq_true h1
      subst e2
      exact si_rng1 A.xc (freeB_ok Bb.gx h2) h3 (((sndE a h5 A).1 rfl).fz h4 env)
    · cases h
  | .rng2 a b, sc, tg, it, Wx, X, en, k, h, A => by
    intro env
    unfold chkSr at h
    split at h
    · replace h := ba h; obtain ⟨h1, h⟩ := h
      replace h := ba h; obtain ⟨h2, h⟩ := h
      replace h := ba h; obtain ⟨h3, h⟩ := h
      replace h := ba h; obtain ⟨h4, h⟩ := h
      replace h := ba h; obtain ⟨h5, h6⟩ := h
      replace h3 := ba h3; obtain ⟨p1, p2⟩ := h3
      replace h4 := ba h4; obtain ⟨n1, n2⟩ := h4
      have e2 := of_decide_eq_true h1
      subst e2
      exact si_rng2 A.xc (freeB_ok Bb.gx h2) p1 p2 (((sndE a h5 A).1 rfl).fz n1 env) (((sndE b h6 A).1 rfl).fz n2 env)
    · cases h
  | .rng3 a b d, sc, tg, it, Wx, X, en, k, h, A => by
    intro env
    unfold chkSr at h
    split at h
    · replace h := ba h; obtain ⟨h1, h⟩ := h
      replace h := ba h; obtain ⟨h2, h⟩ := h
      replace h := ba h; obtain ⟨h3, h⟩ := h
      replace h := ba h; obtain ⟨h4, h⟩ := h
      replace h := ba h; obtain ⟨h5, h6⟩ := h
      replace h6 := ba h6; obtain ⟨h6, h7⟩ := h6
      replace h3 := ba h3; obtain ⟨p1, p2⟩ := h3
      replace p2 := ba p2; obtain ⟨p2, p3⟩ := p2
      replace h4 := ba h4; obtain ⟨n1, n2⟩ := h4
      replace n2 := ba n2; obtain ⟨n2, n3⟩ := n2
      have e2 := of_decide_eq_true h1
      subst e2
      exact si_rng3 A.xc (freeB_ok Bb.gx h2) p1 p2 p3 (((sndE a h5 A).1 rfl).fz n1 env) (((sndE b h6 A).1 rfl).fz n2 env) (((sndE d h7 A).1 rfl).fz n3 env)
    · cases h
  | .enum e, sc, tg, it, Wx, X, en, k, h, A => by
    intro env
    unfold chkSr at h
    split at h
    · replace h := ba h; obtain ⟨h1, h⟩ := h
      replace h := ba h; obtain ⟨h2, h⟩ := h
      replace h := ba h; obtain ⟨h3, h⟩ := h
      replace h := ba h; obtain ⟨h4, h5⟩ := h
      have e2 := of_decide_eq_true h1
      subst e2
      exact si_enum A.xc (freeB_ok Bb.gx h2) h3 (((sndE e h5 A).1 rfl).fz h4 env)
    · cases h
end
end
end LI
end
section
set_option Elab.async false
set_option linter.all false
set_option maxRecDepth 100000
set_option maxHeartbeats 8000000
/-! LiChkS: does the small language's statement say what the text says? -/
namespace LI
open PySem PySem.Spec PyProof.Rows L2

def notComp : Expr → Bool
  | .ListComp .. => false
  | .SetComp .. => false
  | .DictComp .. => false
  | _ => true
theorem swaps_plain {e : Expr} {t : Option Expr} {l : Nat} {env : PySem.Env} (h : notComp e = true) : swapsWith e t l env = pure false := by
  cases e <;> first | rfl | cases h
def notName : Expr → Bool
  | .Name .. => false
  | _ => true
theorem swaps_other {e t : Expr} {l : Nat} {env : PySem.Env} (h : notName t = true) : swapsWith e (some t) l env = pure false := by
  cases e <;> first | rfl | (cases t <;> first | rfl | cases h)
/-- name = [..]: is the comprehension's list stored while it is made? -/
def swB (sc scope : Scope) (t : Str) (p q : Pos) : Bool :=
  (match sc.kind with
    | .function => true
    | _ => false) && (sc.names.lookup t == some .local && (p.line == q.line && !(scope.names.any fun (n, k) => n == t && (k == .local || k == .cell))))
theorem swaps_lc {elt : Expr} {gens : List Comprehension} {scope : Scope} {p q : Pos} {t : Str} {l : Nat} {env : PySem.Env} (hk : env.scope.kind = .function) : swapsWith (.ListComp elt gens scope q) (some (.Name t p)) l env = pure (swB env.scope scope t p q) := by
  have e : swapsWith (.ListComp elt gens scope q) (some (.Name t p)) l env = pure (env.blockKind == .function && env.kindOf t == some .local && p.line == q.line && !(scope.names.any fun (n, k) => n == t && (k == .local || k == .cell))) := rfl
  rw [e]
  have e2 : env.blockKind = .function := by unfold Env.blockKind; rw [hk]; rfl
  rw [e2]
  unfold swB
  rw [hk]
  have e3 : env.kindOf t = env.scope.names.lookup t := rfl
  rw [e3]
  simp only [Bool.and_assoc]
  rfl
def isStar : Expr → Bool
  | .Starred .. => true
  | _ => false
/-- a, b = x, y: are the stores swapped? (none: not told) -/
def swOf (sc : Scope) (t v : Expr) : Option (Option (List Str)) := match t, v with
  | .Tuple ts _ _, .Tuple vs _ _ =>
    if !(ts.length == 2 || ts.length == 3) || vs.length != ts.length then some none
    else if vs.any isStar then some none
    else
      let names := ts.filterMap fun
        | .Name id pos => if sc.names.lookup id == some .local && pos.line == (ts.head?.map (·.pos.line)).getD 0 then some id else none
        | _ => none
      if names.length != ts.length || names.eraseDups.length != names.length then some none
      else if vs.all (foldedForSure 8) then some none
      else if vs.all (constantsAlone 8) then none
      else some (some names)
  | .Tuple _ _ _, _ => some none
  | _, _ => none
theorem swOf_ok {t v : Expr} {env : PySem.Env} {r : Option (List Str)} (hk : env.scope.kind = .function) (h : swOf env.scope t v = some r) : swappedStores [t] v env = pure r := by
  have e2 : env.blockKind = .function := by unfold Env.blockKind; rw [hk]; rfl
  cases t with
  | Tuple ts k p =>
    cases v with
    | Tuple vs k2 p2 =>
      unfold swOf at h
      dsimp only at h
      have est : (vs.any fun | .Starred .. => true | _ => false) = vs.any isStar := by
        congr 1
      unfold swappedStores
      simp only [e2]
      split at h
      · rename_i h1
        cases h
        exact if_pos (by rw [Bool.or_eq_true]; exact .inl h1)
      · rename_i h1
        refine (if_neg (fun z => h1 ?_)).trans ?_
        · rw [Bool.or_eq_true] at z
          rcases z with z | z
          · exact z
          · cases z
        split at h
        · rename_i h2
          cases h
          exact if_pos (est.trans h2)
        · rename_i h2
          refine (if_neg (fun z => h2 (est.symm.trans z))).trans ?_
          split at h
          · rename_i h3
            cases h
            exact if_pos h3
          · rename_i h3
            refine (if_neg h3).trans ?_
            split at h
            · rename_i h4
              cases h
              exact if_pos h4
            · rename_i h4
              refine (if_neg h4).trans ?_
              split at h
              · cases h
              · rename_i h5
                cases h
                exact if_neg h5
    | _ =>
      unfold swOf at h
      cases h
      rfl
  | _ => first | (unfold swOf at h; cases h; done) | (cases v <;> (unfold swOf at h; cases h))

mutual
def chkSt (c : CkC) : St → Scope → Stmt → Bool
  | .expr e, sc, st => (match st with
    | .Expr v _ => notComp v && chk c e false sc (.e v)
    | _ => false)
  | .set i e, sc, st => (match st with
    | .Assign [.Name x _] v _ => (decide (c.N[i]? = some x) && locB sc x) && (notComp v && (notOwn e && chk c e false sc (.e v)))
    | _ => false)
  | .setOwn i e, sc, st => (match st with
    | .Assign [.Name x _] v _ => (decide (c.N[i]? = some x) && locB sc x) && (isNew e && chk c e false sc (.e v))
    | _ => false)
  | .frz _, _, _ => false
  | .app i e, sc, st => (match st with
    | .Expr (.Call (.Attribute (.Name x _) a ap) [v] [] cp) _ => decide (a = ("append" : Str)) && (slotB c sc i x && (locB sc x && (plainA v && ((ap.endLine == cp.line) && (notOwn e && chk c e false sc (.e v))))))
    | _ => false)
  | .setIx i k e, sc, st => (match st with
    | .Assign [.Subscript (.Name x _) ek _] v _ => slotB c sc i x && (locB sc x && (plainIx ek && ((notOwn e && notOwn k) && (chk c e false sc (.e v) && chk c k false sc (.e ek)))))
    | _ => false)
  | .unpk is e, sc, st => (match st with
    | .Assign [t] v _ => tgB c sc (.tup is) t && (decide (swOf sc t v = some none) && (notOwn e && chk c e false sc (.e v)))
    | _ => false)
  | .par is es, sc, st => (match st with
    | .Assign [.Tuple ts _ _] (.Tuple vs _ _) _ => c.calm && (decide (is.Nodup) && ((is.all fun i => match c.N[i]? with
        | some x => sc.names.lookup x == some .local
        | none => false) && (tgB.go c sc is ts && (decide (swOf sc (.Tuple ts 0 ⟨0, 0, 0, 0⟩) (.Tuple vs 0 ⟨0, 0, 0, 0⟩) = some (some (is.filterMap fun i => c.N[i]?))) && chkEs c es true sc vs))))
    | _ => false)
  | .aug i op e, sc, st => (match st with
    | .AugAssign (.Name x _) o v _ => (decide (c.N[i]? = some x) && locB sc x) && ((match op, o with
        | .add, .Add => true
        | .sub, .Sub => true
        | _, _ => false) && (notOwn e && chk c e false sc (.e v)))
    | _ => false)
  | .sfld f e, sc, st => (match st with
    | .Assign [.Attribute (.Name y _) x _] v _ => decide (c.G.nm f = x) && (slotB c sc 0 y && (notOwn e && chk c e false sc (.e v)))
    | _ => false)
  | .cApp o e, sc, st => (match st with
    | .Expr (.Call (.Attribute eo a ap) [v] [] cp) _ => decide (a = ("append" : Str)) && (plainO eo && (plainA v && ((ap.endLine == cp.line) && ((notOwn o && notOwn e) && (chk c o false sc (.e eo) && chk c e false sc (.e v))))))
    | _ => false)
  | .cSet o k e, sc, st => (match st with
    | .Assign [.Subscript eo ek _] v _ => plainIx ek && ((notOwn o && (notOwn k && notOwn e)) && (chk c e false sc (.e v) && (chk c o false sc (.e eo) && chk c k false sc (.e ek))))
    | _ => false)
  | .dput o k e, sc, st => (match st with
    | .Assign [.Subscript eo ek _] v _ => plainIx ek && ((notOwn o && (notOwn k && notOwn e)) && (chk c e false sc (.e v) && (chk c o false sc (.e eo) && chk c k false sc (.e ek))))
    | _ => false)
  | .cFld o f e, sc, st => (match st with
    | .Assign [.Attribute eo x _] v _ => decide (c.G.nm f = x) && ((notOwn o && notOwn e) && (chk c e false sc (.e v) && chk c o false sc (.e eo)))
    | _ => false)
  | .ife d a b, sc, st => (match st with
    | .If t p q _ => chk c d true sc (.e t) && (chkSts c a sc p && chkSts c b sc q)
    | _ => false)
  | .whl d b, sc, st => (match st with
    | .While t p [] _ => c.calm && (chk c d true sc (.e t) && chkSts c b sc p)
    | _ => false)
  | .for_ t sr b, sc, st => (match st with
    | .For tg it p [] _ => c.calm && (plainS it && (tgB c sc t tg && (chkSr c sr sc tg it && chkSts c b sc p)))
    | _ => false)
  | .ret e, sc, st => (match st with
    | .Return (some v) _ => notOwn e && chk c e false sc (.e v)
    | _ => false)
  | .retN, sc, st => (match st with
    | .Return none _ => true
    | _ => false)
  | .pass, sc, st => (match st with
    | .Pass _ => true
    | .Expr (.Constant (.str _) _ _) _ => true
    | _ => false)
  | .brk, sc, st => (match st with
    | .Break _ => true
    | _ => false)
  | .cnt, sc, st => (match st with
    | .Continue _ => true
    | _ => false)
  | .raise k ks es, sc, st => (match ks, es, st with
    | [], .nil, .Raise (some (.Call (.Name x _) [.Constant (.str _) _ _] [] _)) none _ => c.calm && (c.T.x0 k && clB c sc k x)
    | [f], .cons e .nil, .Raise (some (.Call (.Name x _) [v] [] _)) none _ => c.calm && (c.T.x1 k f && (clB c sc k x && (c.G.free.contains ("super" : Str) && (plainA v && (notOwn e && chk c e false sc (.e v))))))
    | _, _, _ => false)
  | .try_ b hs, sc, st => (match st with
    | .Try p (h :: hds) [] [] _ => c.calm && (chkSts c b sc p && chkHd c hs sc (h :: hds))
    | _ => false)
def chkSts (c : CkC) : Sts → Scope → List Stmt → Bool
  | .nil, sc, l => (match l with
    | [] => true
    | _ => false)
  | .cons s r, sc, l => (match s with
    | .frz _ => chkSts c r sc l
    | s => (match l with
      | st :: l => chkSt c s sc st && chkSts c r sc l
      | [] => false))
def chkHd (c : CkC) : Hds → Scope → List ExceptHandler → Bool
  | .nil, sc, l => (match l with
    | [] => true
    | _ => false)
  | .cons k i b r, sc, l => (match l with
    | .ExceptHandler (some (.Name x _)) (some n) (b₀ :: p) _ :: l => clB c sc k x && ((decide (c.N[i]? = some n) && sc.names.lookup n == some .local) && (chkSts { c with calm := false } b sc (b₀ :: p) && chkHd c r sc l))
    | _ => false)
end
end LI
end
section
set_option Elab.async false
set_option linter.all false
set_option maxRecDepth 100000
set_option maxHeartbeats 8000000
/-! LiSndS: a checked statement does what the small language says. -/
namespace LI
open PySem PySem.Spec PyProof.Rows L2

/-- where a checked statement stands -/
structure AtS (Γ : Ctx) (c : CkC) (Wx : WX) (sc : Scope) (k j : Nat) (en : En) (X : Cx) : Prop extends At Γ c Wx sc k j en X where
  fn : ∀ x, X.fn x = true
  po : c.calm = true → PassesOwn (model X.prog X.w) X.A X.env X.xe
  st : X.stack = X.env :: X.outer
  ef : X.env.frame = some X.env.locals
  xr : c.calm = true → en.xr = none
  kd : sc.kind = .function
section
variable {Γ : Ctx} {D : Pd} {c : CkC} {en : En} {Wx : WX} {sc : Scope} {k j : Nat} {X : Cx} {cf : Call} {ci : CallI}
theorem locB_ok {x : Str} (h : locB sc x = true) : Loc sc x := by
  unfold locB at h
  split at h
  · exact .inl (by assumption)
  · exact .inr (by assumption)
  · cases h
theorem AtS.loc (A : AtS Γ c Wx sc k j en X) {x : Str} (h : locB sc x = true) : Loc X.env.scope x ∧ (X.fn x = true ∨ X.env.scope.names.lookup x = some .local) := ⟨by rw [A.xc.eS]; exact locB_ok h, .inl (A.fn x)⟩
theorem AtS.locOk (A : AtS Γ c Wx sc k j en X) {i : Nat} {x : Str} (h : (decide (c.N[i]? = some x) && locB sc x) = true) : LocOk X c.N i x := by
  obtain ⟨h1, h2⟩ := ba h
  exact ⟨of_decide_eq_true h1, A.loc h2⟩
theorem AtS.try_ (A : AtS Γ c Wx sc k j en X) (hc : c.calm = true) {W : WX} {pn : List (Addr × Obj)} {xe : Value → Shared → Prop} (tk : Takes (X.tr pn xe) W) (po : PassesOwn (model X.prog X.w) X.A X.env xe) : AtS Γ c W sc k j en (X.tr pn xe) :=
  { xc := ⟨A.xc.eP, A.xc.ew, A.xc.eK, A.xc.eM, A.xc.eB, A.xc.eN, A.xc.eS, A.xc.nd, tk, A.xc.un, A.xc.rm⟩, calm := A.calm, suite := fun z => (by rw [hc] at z; cases z), lv := A.lv, tab := A.tab, fn := A.fn, po := fun _ => po, st := A.st, ef := A.ef, xr := A.xr, kd := A.kd, top := topW_of A.st A.ef tk }
theorem AtS.suite_ (A : AtS Γ c Wx sc k j en X) {a : Addr} {oe : Obj} {cls : Value} {d : Option Addr} {pn : List (Addr × Obj)} (hz : Zc cls d oe) (hf : ∃ vs, oe.data = .fields vs) :
    AtS Γ { c with calm := false } WF sc k j (en.exc a cls d) (X.suite a ((a, oe) :: pn)) :=
  { xc := ⟨A.xc.eP, A.xc.ew, A.xc.eK, A.xc.eM, A.xc.eB, A.xc.eN, A.xc.eS, A.xc.nd, fun u s' ⟨a, B, sI, pins, σ, H, cls, d, e, I, nb, up, sky, na, os, ag, w⟩ => w, A.xc.un, fun z => (by cases z)⟩,
    calm := fun z => (by cases z), suite := fun _ => ⟨X, a, oe, cls, d, pn, rfl, rfl, hz, hf⟩, lv := A.lv, tab := A.tab, fn := A.fn, po := fun z => (by cases z), st := A.st, ef := A.ef, xr := fun z => (by cases z), kd := A.kd, top := topW_of A.st A.ef fun u s' ⟨a, B, sI, pins, σ, H, cls, d, e, I, nb, up, sky, na, os, ag, w⟩ => w }
/-- name = [..], whichever way it is stored -/
theorem ps_lcset {W : WX} {i : Nat} {y : Str} {py spos pos : Pos} {elt tg iter : Expr} {ifs : List Expr} {scope : Scope} {own : List (Str × Nat)} {wi : TI} {g : TG} {tt : L2.St → TT} {te : L2.St → TE} (top : TopW X W) (hc : X.calm = true) (hN : X.N.Nodup) (hy : X.N[i]? = some y) (hl : Loc X.env.scope y) (hfn : X.fn y = true) (hk : X.env.scope.kind = .function)
    (hi : PI X tg iter wi) (ok : BlkOk X.N X.env.scope scope own)
    (hg : ∀ (σ0 : L2.St) (s : Shared) (H : Hp) (C : Addr) (cl : List (Str × Addr)) (fp : List Addr) (xe : Value → Shared → Prop), (∀ Lq, TakesL (blkX X s H scope (compEnvC scope cl C X.env) fp xe) (WAt W σ0) Lq) → PG (blkX X s H scope (compEnvC scope cl C X.env) fp xe) tg g)
    (ht : ∀ (σ0 : L2.St) (s : Shared) (H : Hp) (C : Addr) (cl : List (Str × Addr)) (fp : List Addr) (xe : Value → Shared → Prop), (∀ Lq, TakesL (blkX X s H scope (compEnvC scope cl C X.env) fp xe) (WAt W σ0) Lq) → PTs (blkX X s H scope (compEnvC scope cl C X.env) fp xe) ifs (tt σ0))
    (he : ∀ (σ0 : L2.St) (s : Shared) (H : Hp) (C : Addr) (cl : List (Str × Addr)) (fp : List Addr) (xe : Value → Shared → Prop), (∀ Lq, TakesL (blkX X s H scope (compEnvC scope cl C X.env) fp xe) (WAt W σ0) Lq) → PE (blkX X s H scope (compEnvC scope cl C X.env) fp xe) elt (te σ0)) (hs : ∀ x, foldedSetIterable iter X.env x = pure x) :
    PS X (.Assign [.Name y py] (.ListComp elt [⟨tg, iter, ifs, 0⟩] scope pos) spos) (tAsg (fun σ H Q => tLc wi g (tt σ) (te σ) (own.map (·.2)) σ H Q) (gName i)) := by
  have hsw := swaps_lc (elt := elt) (gens := [⟨tg, iter, ifs, 0⟩]) (scope := scope) (p := py) (q := pos) (t := y) (l := spos.line) hk
  cases e : swB X.env.scope scope y py pos with
  | false => exact ps_set (i := i) hN hy hl (pe_lcX top hc hN hi ok hg ht he hs) (by rw [hsw, e]) (.inl hfn)
  | true =>
    have hyl : X.env.scope.names.lookup y = some .local := by
      unfold swB at e
      obtain ⟨_, e⟩ := ba e
      obtain ⟨e, _⟩ := ba e
      exact eq_of_beq e
    exact ps_setLcX (i := i) top hc hN hy hyl (by rw [hsw, e]) hi ok hg ht he hs
variable (Bb : Bd Γ D c.G j cf ci)
include Bb
/-- the parts of a checked comprehension -/
theorem comp_parts {t : Tg} {sr : Sr} {ifs : Exs} {e : Ex} {m : Bool} {elt tg iter : Expr} {fs : List Expr} {scope : Scope} {p : Pos} (A : AtS Γ c Wx sc k j en X) {i : Nat} {y : Str} {py spos : Pos} (hl : LocOk X c.N i y)
    (h : chk c (.comp t sr ifs e) m sc (.e (.ListComp elt [⟨tg, iter, fs, 0⟩] scope p)) = true) :
    PS X (.Assign [.Name y py] (.ListComp elt [⟨tg, iter, fs, 0⟩] scope p) spos) (fun D σ H => tX Γ Wx en (fun env s => ev Γ.T cf ci (.comp t sr ifs e) false env s) (pN Γ) σ H fun x H1 => D.nx (σ.set i (some x)) H1) := by
  replace h := ba h; obtain ⟨hp, h⟩ := h
  have h := (show (c.calm && (plainS iter && (chkSr c sr sc tg iter && (blkC c.N sc scope (ownL c.N (tgIx t)) && (tgB c scope t tg && (chkIfs c ifs (relS scope sc) fs && (notOwn e && chk c e false (relS scope sc) (.e elt)))))))) = true from h)
  obtain ⟨h1, h⟩ := ba h
  obtain ⟨h2, h⟩ := ba h
  obtain ⟨h3, h⟩ := ba h
  obtain ⟨h4, h⟩ := ba h
  obtain ⟨h5, h⟩ := ba h
  obtain ⟨h6, h⟩ := ba h
  obtain ⟨h7, h8⟩ := ba h
  have hc := A.calm h1
  have own2 : (ownL c.N (tgIx t)).map (·.2) = tgIx t := by
    unfold ownL
    rw [List.map_map]
    exact List.map_id _
  have AB : ∀ (σ0 : L2.St) (s : Shared) (H : Hp) (C : Addr) (cl : List (Str × Addr)) (fp : List Addr) (xe : Value → Shared → Prop), (∀ Lq, TakesL (blkX X s H scope (compEnvC scope cl C X.env) fp xe) (WAt Wx σ0) Lq) → At Γ c (WAt Wx σ0) (relS scope sc) k j en (blkX X s H scope (compEnvC scope cl C X.env) fp xe) := fun σ0 s H C cl fp xe tk =>
    ⟨xc_blk A.xc tk, A.calm, fun z => (by rw [h1] at z; cases z), A.lv, A.tab, topW_blk A.top tk⟩
  have ok : BlkOk X.N X.env.scope scope (ownL c.N (tgIx t)) := by rw [A.xc.eN, A.xc.eS]; exact blkOk_by h4
  have hloc : ∀ (s : Shared) (H : Hp) (C : Addr) (cl : List (Str × Addr)) (fp : List Addr) (xe : Value → Shared → Prop) (x : Str), locB scope x = true → L2.Loc (blkX X s H scope (compEnvC scope cl C X.env) fp xe).env.scope x ∧
      ((blkX X s H scope (compEnvC scope cl C X.env) fp xe).fn x = true ∨ (blkX X s H scope (compEnvC scope cl C X.env) fp xe).env.scope.names.lookup x = some .local) := by
    intro s H C cl fp xe x hx
    have lk : ∀ {k : NameKind}, scope.names.lookup x = some k → k ≠ .free → (relS scope X.env.scope).names.lookup x = some k := fun {k} e hk => relS_lookup e hk
    unfold locB at hx
    split at hx
    · rename_i e2
      exact ⟨.inl (lk e2 (by decide)), .inr (lk e2 (by decide))⟩
    · rename_i e2
      refine ⟨.inr (lk e2 (by decide)), .inl ?_⟩
      show (scope.names.lookup x == some .cell) = true
      rw [e2]; rfl
    · cases hx
  have hsr : PI X tg iter (fun σ H Q => ∃ env, tI Γ Wx en env (fun s => evS Γ.T cf ci sr env s) σ H Q) := ⟨fun pins s σ H R I ⟨env, h⟩ => (sndSr Bb sr h3 A.toAt env).run pins s σ H R I h⟩
  refine PS.mono (ps_lcset (W := Wx) (tt := fun σ0 => tX Γ (WAt Wx σ0) en (fun env s => evIfs Γ.T cf ci ifs env s) pEq) (te := fun σ0 => tX Γ (WAt Wx σ0) en (fun env s => ev Γ.T cf ci e false env s) (pRep Γ)) (i := i) A.top hc (by rw [A.xc.eN]; exact A.xc.nd) (by rw [A.xc.eN]; exact hl.1) hl.2.1 (A.fn y) (by rw [A.xc.eS]; exact A.kd) hsr ok
    (fun σ0 s H C cl fp xe tk => tgB_ok (sc0 := scope) (AB σ0 s H C cl fp xe tk) (hloc s H C cl fp xe) h5) (fun σ0 s H C cl fp xe tk => sndIfs Bb ifs h6 (AB σ0 s H C cl fp xe tk)) (fun σ0 s H C cl fp xe tk => pe_X fun env => ((sndE Bb e h8 (AB σ0 s H C cl fp xe tk)).1 rfl).fz h7 env) (fset_plain h2)) ?_
  rintro D σ H ⟨env, hw⟩
  have := se_comp (Γ := Γ) (Wx := Wx) (en := en) (env := env) (own := ownL c.N (tgIx t)) (t := t) (sz := Γ.T.sz) (src := fun s => evS Γ.T cf ci sr env s) (fs := fun env s => evIfs Γ.T cf ci ifs env s) (el := fun env s => ev Γ.T cf ci e false env s) (by rw [own2]; exact fun _ h => h) (by rw [own2]; exact fun _ h => h)
    σ H _ hw
  rw [own2] at this ⊢
  obtain ⟨S, q⟩ := this
  exact ⟨env, S, q⟩
omit Bb in
theorem go_locs (A : AtS Γ c Wx sc k j en X) : ∀ {is : List Nat} {es : List Expr}, tgB.go c sc is es = true → LocsOk X c.N es is
  | [], [], _ => .nil
  | [], _ :: _, h => by cases h
  | _ :: _, [], h => by cases h
  | i :: is, e :: es, h => by
    cases e with
    | Name x p =>
      obtain ⟨h1, h2⟩ := ba (show ((decide (c.N[i]? = some x) && locB sc x) && tgB.go c sc is es) = true from h)
      obtain ⟨h3, h4⟩ := ba h1
      exact .cons ⟨of_decide_eq_true h3, A.loc h4⟩ (go_locs A h2)
    | _ => cases h
omit Bb in
theorem go_names : ∀ {is : List Nat} {es : List Expr}, tgB.go c sc is es = true → ∃ xs : List (Str × Pos), es = xs.map (fun q => Expr.Name q.1 q.2) ∧ is.map (fun i => c.N[i]?) = xs.map fun q => some q.1
  | [], [], _ => ⟨[], rfl, rfl⟩
  | [], _ :: _, h => by cases h
  | _ :: _, [], h => by cases h
  | i :: is, e :: es, h => by
    cases e with
    | Name x p =>
      obtain ⟨h1, h2⟩ := ba (show ((decide (c.N[i]? = some x) && locB sc x) && tgB.go c sc is es) = true from h)
      obtain ⟨h3, h4⟩ := ba h1
      obtain ⟨xs, e1, e2⟩ := go_names h2
      exact ⟨(x, p) :: xs, by rw [e1]; rfl, by rw [List.map_cons, List.map_cons, of_decide_eq_true h3, e2]⟩
    | _ => cases h
omit Bb in
/-- a, b = x, y and a, b, c = x, y, z: stored from the right -/
theorem ss_parN {is : List Nat} {ts vs : List Expr} {kt k2 : Nat} {pt pt2 pos2 : Pos} {rs : LI.Env → Sto → R (List W)} (A : AtS Γ c Wx sc k j en X) (hc : X.calm = true) (hn : is.Nodup) (hl : ∀ i ∈ is, ∃ x, c.N[i]? = some x ∧ sc.names.lookup x = some .local) (hg : tgB.go c sc is ts = true)
    (hw : swOf sc (.Tuple ts kt pt) (.Tuple vs k2 pt2) = some (some (is.filterMap fun i => c.N[i]?))) (ha : PA X vs (tX Γ Wx en rs (pReps Γ))) :
    PS X (.Assign [.Tuple ts kt pt] (.Tuple vs k2 pt2) pos2) (tS Γ Wx en fun env s => (rs env s).stm env fun ws s1 => if ws.length = is.length then .ok .nx (LI.setAll env is ws) s1 else .no) := by
  have hsw := swOf_ok (env := X.env) (by rw [A.xc.eS]; exact A.kd) (by rw [A.xc.eS]; exact hw)
  obtain ⟨xs, e1, e2⟩ := go_names hg
  have hlen : is.length = ts.length := by rw [e1, List.length_map, ← List.length_map (f := fun i => c.N[i]?), e2, List.length_map]
  have h23 : (ts.length = 2 ∨ ts.length = 3) ∧ vs.length = ts.length := by
    unfold swOf at hw
    dsimp only at hw
    split at hw
    · cases hw
    · rename_i hh
      simp only [Bool.or_eq_true, Bool.not_eq_true', not_or] at hh
      obtain ⟨h1, h2⟩ := hh
      refine ⟨?_, by simpa using h2⟩
      by_cases z : ts.length = 2
      · exact .inl z
      · by_cases y : ts.length = 3
        · exact .inr y
        · exact absurd (by simp [z, y]) h1
  have hz : ∀ q : List (Str × Pos), is.map (fun i => c.N[i]?) = q.map (fun q => some q.1) → is.filterMap (fun i => c.N[i]?) = q.map (·.1) := by
    intro q
    clear hw hn hl hg hlen e2 hsw e1 h23
    induction is generalizing q with
    | nil => intro e; cases q <;> first | rfl | cases e
    | cons i is ih =>
      intro e
      cases q with
      | nil => cases e
      | cons p q =>
        rw [List.map_cons, List.map_cons] at e
        injection e with e3 e4
        rw [List.filterMap_cons, e3, List.map_cons, ih q e4]
  rw [hz xs e2] at hsw
  have eN := A.xc.eN
  have eS := A.xc.eS
  rcases h23.1 with h2 | h2
  · match ts, vs, is, xs, h2, h23.2, hlen, e1, e2, hn, hl, ha, hsw with
    | [t1, t2], [v1, v2], [i, jj], [(x, px), (y, py)], _, _, _, e1, e2, hn, hl, ha, hsw =>
      simp only [List.map_cons, List.map_nil, List.cons.injEq, and_true] at e1 e2
      obtain ⟨rfl, rfl⟩ := e1
      obtain ⟨f1, f2⟩ := e2
      obtain ⟨x', g1, g2⟩ := hl i (by simp)
      obtain ⟨y', g3, g4⟩ := hl jj (by simp)
      rw [f1] at g1; rw [f2] at g3
      cases g1; cases g3
      refine PS.mono (ps_par (i := i) (j := jj) hc (by rw [eN]; exact A.xc.nd) (by rw [eN]; exact f1) (by rw [eN]; exact f2) (by simpa using hn) (by rw [eS]; exact g2) (by rw [eS]; exact g4) ha hsw rfl) ?_
      rintro D σ H ⟨S, env, fr, hr, sl, h⟩
      refine ⟨env, S, hr, sl, RP.mono (stm_seq sl hr fr h) fun ws S1 H1 fr1 hr1 ⟨f1, sl1, h1⟩ vs rv => ?_⟩
      split at h1
      · rename_i hl
        obtain ⟨a, b, rfl⟩ : ∃ a b, ws = [a, b] := by
          match ws, hl with
          | [a, b], _ => exact ⟨a, b, rfl⟩
        obtain ⟨v, r, rfl, h3, u, r', rfl, h4, h5⟩ := rv
        cases (show r' = [] from h5)
        exact ⟨v, u, rfl, RPS.nx h1 f1 hr1 ((sl1.setV h3).setV h4)⟩
      · exact h1.elim
  · match ts, vs, is, xs, h2, h23.2, hlen, e1, e2, hn, hl, ha, hsw with
    | [t1, t2, t3], [v1, v2, v3], [i, jj, l], [(x, px), (y, py), (z, pz)], _, _, _, e1, e2, hn, hl, ha, hsw =>
      simp only [List.map_cons, List.map_nil, List.cons.injEq, and_true] at e1 e2
      obtain ⟨rfl, rfl, rfl⟩ := e1
      obtain ⟨f1, f2, f3⟩ := e2
      obtain ⟨x', g1, g2⟩ := hl i (by simp)
      obtain ⟨y', g3, g4⟩ := hl jj (by simp)
      obtain ⟨z', g5, g6⟩ := hl l (by simp)
      rw [f1] at g1; rw [f2] at g3; rw [f3] at g5
      cases g1; cases g3; cases g5
      have n1 : i ≠ jj := by intro z; subst z; simp at hn
      have n2 : i ≠ l := by intro z; subst z; simp at hn
      have n3 : jj ≠ l := by intro z; subst z; simp at hn
      refine PS.mono (ps_par3 (i := i) (j := jj) (l := l) hc (by rw [eN]; exact A.xc.nd) (by rw [eN]; exact f1) (by rw [eN]; exact f2) (by rw [eN]; exact f3) n1 n2 n3 (by rw [eS]; exact g2) (by rw [eS]; exact g4) (by rw [eS]; exact g6) ha hsw rfl) ?_
      rintro D σ H ⟨S, env, fr, hr, sl, h⟩
      refine ⟨env, S, hr, sl, RP.mono (stm_seq sl hr fr h) fun ws S1 H1 fr1 hr1 ⟨f1, sl1, h1⟩ vs rv => ?_⟩
      split at h1
      · rename_i hl
        obtain ⟨a, b, d, rfl⟩ : ∃ a b d, ws = [a, b, d] := by
          match ws, hl with
          | [a, b, d], _ => exact ⟨a, b, d, rfl⟩
        obtain ⟨v, r, rfl, h3, u, r', rfl, h4, w, r'', rfl, h5, h6⟩ := rv
        cases (show r'' = [] from h6)
        exact ⟨v, u, w, rfl, RPS.nx h1 f1 hr1 (((sl1.setV h3).setV h4).setV h5)⟩
      · exact h1.elim
omit Bb in
theorem pa_X {es : List Expr} {rd : LI.Env → Sto → R (List W)} {P : Sn → Hp → List W → List V → Sn → Hp → Prop} (h : ∀ env, PA X es (tR Γ Wx en env (rd env) P)) : PA X es (tX Γ Wx en rd P) := ⟨fun pos pins s σ H Q I ⟨env, hw⟩ => (h env).run pos pins s σ H Q I hw⟩
end
section
variable {Γ : Ctx} {D : Pd} {j : Nat} {cf : Call} {ci : CallI}
mutual
theorem sndSt : ∀ (x : LI.St) {c : CkC} {sc : Scope} {st : Stmt} {Wx : WX} {X : Cx} {en : En} {k : Nat}, Bd Γ D c.G j cf ci → chkSt c x sc st = true → AtS Γ c Wx sc k j en X → PS X st (tS Γ Wx en fun env s => exS Γ.T cf ci x env s)
  | .expr e, c, sc, st, Wx, X, en, k, Bb, h, A => by
    cases st with
    | Expr v p =>
      obtain ⟨h1, h2⟩ := ba h
      exact ss_expr (pe_X ((sndE Bb e h2 A.toAt).1 rfl).lk) (swaps_plain h1)
    | _ => cases h
  | .set i e, c, sc, st, Wx, X, en, k, Bb, h, A => by
    unfold chkSt at h
    split at h
    · obtain ⟨h1, h2⟩ := ba h
      obtain ⟨h3, h4⟩ := ba h2
      obtain ⟨h5, h6⟩ := ba h4
      exact ss_set A.xc (A.locOk h1) (pe_X (((sndE Bb e h6 A.toAt).1 rfl).fz h5)) (swaps_plain h3)
    · cases h
  | .setOwn i e, c, sc, st, Wx, X, en, k, Bb, h, A => by
    unfold chkSt at h
    split at h
    · rename_i y py v pos
      obtain ⟨h1, h2⟩ := ba h
      obtain ⟨h3, h4⟩ := ba h2
      have hl := A.locOk h1
      cases hv : notComp v with
      | true => exact ss_setOwn A.xc hl (pe_X (((sndE Bb e h4 A.toAt).1 rfl).nw h3)) (swaps_plain hv)
      | false =>
        cases e with
        | comp t sr ifs e =>
          cases v with
          | ListComp elt gens scope p =>
            have h4' := h4
            unfold chk at h4'
            obtain ⟨_, h5⟩ := ba h4'
            split at h5
            · rename_i e1
              cases e1
              refine PS.mono (comp_parts Bb A hl h4) ?_
              rintro D σ H h
              exact ts_expr (f := fun env => fOwn i env) h fun S env a S' H' b f1 h1 s1 f2 h2 s2 f p q => own_end f1 s1 f2 h2 s2 p q
            · cases h5
          | SetComp => unfold chk at h4; obtain ⟨_, h5⟩ := ba h4; cases h5
          | DictComp => unfold chk at h4; obtain ⟨_, h5⟩ := ba h4; cases h5
          | _ => cases hv
        | bin op a b => cases v <;> first | (cases hv; done) | (unfold chk at h4; obtain ⟨_, h5⟩ := ba h4; cases h5)
        | sl a b d => cases v <;> first | (cases hv; done) | (unfold chk at h4; obtain ⟨_, h5⟩ := ba h4; cases h5)
        | rev a => cases v <;> first | (cases hv; done) | (unfold chk at h4; obtain ⟨_, h5⟩ := ba h4; cases h5)
        | lst a => cases v <;> first | (cases hv; done) | (unfold chk at h4; obtain ⟨_, h5⟩ := ba h4; cases h5)
        | tup a => cases v <;> first | (cases hv; done) | (unfold chk at h4; obtain ⟨_, h5⟩ := ba h4; cases h5)
        | bi b es => cases v <;> first | (cases hv; done) | (unfold chk at h4; obtain ⟨_, h5⟩ := ba h4; cases h5)
        | rl a => cases v <;> first | (cases hv; done) | (unfold chk at h4; obtain ⟨_, h5⟩ := ba h4; cases h5)
        | _ => cases h3
    · cases h
  | .frz i, c, sc, st, Wx, X, en, k, Bb, h, A => by cases h
  | .app i e, c, sc, st, Wx, X, en, k, Bb, h, A => by
    unfold chkSt at h
    split at h
    · obtain ⟨h1, h2⟩ := ba h
      obtain ⟨h3, h4⟩ := ba h2
      obtain ⟨h5, h6⟩ := ba h4
      obtain ⟨h7, h8⟩ := ba h6
      obtain ⟨h9, h10⟩ := ba h8
      obtain ⟨h11, h12⟩ := ba h10
      have e1 := of_decide_eq_true h1
      subst e1
      obtain ⟨k1, k2, k3, k4⟩ := slotB_ok h3
      exact ss_app A.xc ⟨k1, A.loc h5⟩ k2 k3 k4 h7 h9 (pe_X (((sndE Bb e h12 A.toAt).1 rfl).fz h11))
    · cases h
  | .setIx i kk e, c, sc, st, Wx, X, en, k, Bb, h, A => by
    unfold chkSt at h
    split at h
    · obtain ⟨h1, h2⟩ := ba h
      obtain ⟨h3, h4⟩ := ba h2
      obtain ⟨h5, h6⟩ := ba h4
      obtain ⟨h7, h8⟩ := ba h6
      obtain ⟨n1, n2⟩ := ba h7
      obtain ⟨h9, h10⟩ := ba h8
      obtain ⟨k1, k2, k3, k4⟩ := slotB_ok h1
      exact ss_setIx A.xc ⟨k1, A.loc h3⟩ k2 k3 k4 h5 (pe_X (((sndE Bb e h9 A.toAt).1 rfl).fz n1)) (pe_X (((sndE Bb kk h10 A.toAt).1 rfl).fz n2)) (swaps_other rfl)
    · cases h
  | .unpk is e, c, sc, st, Wx, X, en, k, Bb, h, A => by
    unfold chkSt at h
    split at h
    · rename_i t v pos
      obtain ⟨h1, h2⟩ := ba h
      obtain ⟨h3, h4⟩ := ba h2
      obtain ⟨h5, h6⟩ := ba h4
      cases t with
      | Tuple es kk p =>
        obtain ⟨g1, g2⟩ := ba (show (c.calm && tgB.go c sc is es) = true from h1)
        exact ss_unpk A.xc (A.calm g1) (go_locs A g2) (pe_X (((sndE Bb e h6 A.toAt).1 rfl).fz h5)) (show swapsWithSole _ _ _ _ = _ from swaps_other (t := .Tuple es kk p) (l := pos.line) (env := X.env) rfl) (swOf_ok (by rw [A.xc.eS]; exact A.kd) (by rw [A.xc.eS]; exact of_decide_eq_true h3))
      | _ => cases h1
    · cases h
  | .par is es, c, sc, st, Wx, X, en, k, Bb, h, A => by
    unfold chkSt at h
    split at h
    · rename_i ts kt pt vs k2 pt2 pos
      obtain ⟨h1, h2⟩ := ba h
      obtain ⟨h3, h4⟩ := ba h2
      obtain ⟨h5, h6⟩ := ba h4
      obtain ⟨h7, h8⟩ := ba h6
      obtain ⟨h9, h10⟩ := ba h8
      refine ss_parN A (A.calm h1) (of_decide_eq_true h3) (fun i hi => ?_) h7 (of_decide_eq_true h9) (pa_X ((sndEs Bb es h10 A.toAt).1 rfl))
      have := List.all_eq_true.mp h5 i hi
      split at this
      · rename_i x e1
        exact ⟨x, e1, eq_of_beq this⟩
      · cases this
    · cases h
  | .aug i op e, c, sc, st, Wx, X, en, k, Bb, h, A => by
    unfold chkSt at h
    split at h
    · rename_i x p o v pos
      obtain ⟨h1, h2⟩ := ba h
      obtain ⟨h3, h4⟩ := ba h2
      obtain ⟨h5, h6⟩ := ba h4
      refine ss_aug A.xc ?_ (A.locOk h1) (pe_X (((sndE Bb e h6 A.toAt).1 rfl).fz h5))
      cases op <;> cases o <;> first | exact .inl ⟨rfl, rfl⟩ | exact .inr ⟨rfl, rfl⟩ | cases h3
    · cases h
  | .sfld f e, c, sc, st, Wx, X, en, k, Bb, h, A => by
    unfold chkSt at h
    split at h
    · obtain ⟨h1, h2⟩ := ba h
      obtain ⟨h3, h4⟩ := ba h2
      obtain ⟨h5, h6⟩ := ba h4
      obtain ⟨k1, k2, k3, k4⟩ := slotB_ok h3
      exact ss_sfld A.xc Bb.fx ((Bb.gx.nm f).trans (of_decide_eq_true h1)) k1 k2 k3 k4 (pe_X (((sndE Bb e h6 A.toAt).1 rfl).fz h5)) (swaps_other rfl)
    · cases h
  | .cApp o e, c, sc, st, Wx, X, en, k, Bb, h, A => by
    unfold chkSt at h
    split at h
    · obtain ⟨h1, h2⟩ := ba h
      obtain ⟨h3, h4⟩ := ba h2
      obtain ⟨h5, h6⟩ := ba h4
      obtain ⟨h7, h8⟩ := ba h6
      obtain ⟨h9, h10⟩ := ba h8
      obtain ⟨n1, n2⟩ := ba h9
      obtain ⟨h11, h12⟩ := ba h10
      have e1 := of_decide_eq_true h1
      subst e1
      exact ss_cApp A.xc h3 h5 h7 (pe_X (((sndE Bb o h11 A.toAt).1 rfl).fz n1)) (pe_X (((sndE Bb e h12 A.toAt).1 rfl).fz n2))
    · cases h
  | .cSet o kk e, c, sc, st, Wx, X, en, k, Bb, h, A => by
    unfold chkSt at h
    split at h
    · obtain ⟨h1, h2⟩ := ba h
      obtain ⟨h3, h4⟩ := ba h2
      obtain ⟨n1, n2⟩ := ba h3
      obtain ⟨n2, n3⟩ := ba n2
      obtain ⟨h5, h6⟩ := ba h4
      obtain ⟨h7, h8⟩ := ba h6
      exact ss_cSet A.xc h1 (pe_X (((sndE Bb e h5 A.toAt).1 rfl).fz n3)) (pe_X (((sndE Bb o h7 A.toAt).1 rfl).fz n1)) (pe_X (((sndE Bb kk h8 A.toAt).1 rfl).fz n2)) (swaps_other rfl)
    · cases h
  | .dput o kk e, c, sc, st, Wx, X, en, k, Bb, h, A => by
    unfold chkSt at h
    split at h
    · obtain ⟨h1, h2⟩ := ba h
      obtain ⟨h3, h4⟩ := ba h2
      obtain ⟨n1, n2⟩ := ba h3
      obtain ⟨n2, n3⟩ := ba n2
      obtain ⟨h5, h6⟩ := ba h4
      obtain ⟨h7, h8⟩ := ba h6
      exact ss_dput A.xc h1 (pe_X (((sndE Bb e h5 A.toAt).1 rfl).fz n3)) (pe_X (((sndE Bb o h7 A.toAt).1 rfl).fz n1)) (pe_X (((sndE Bb kk h8 A.toAt).1 rfl).fz n2)) (swaps_other rfl)
    · cases h
  | .cFld o f e, c, sc, st, Wx, X, en, k, Bb, h, A => by
    unfold chkSt at h
    split at h
    · obtain ⟨h1, h2⟩ := ba h
      obtain ⟨h3, h4⟩ := ba h2
      obtain ⟨n1, n2⟩ := ba h3
      obtain ⟨h5, h6⟩ := ba h4
      exact ss_cFld A.xc Bb.fx ((Bb.gx.nm f).trans (of_decide_eq_true h1)) (pe_X (((sndE Bb e h5 A.toAt).1 rfl).fz n2)) (pe_X (((sndE Bb o h6 A.toAt).1 rfl).fz n1)) (swaps_other rfl)
    · cases h
  | .ife d a b, c, sc, st, Wx, X, en, k, Bb, h, A => by
    unfold chkSt at h
    split at h
    · obtain ⟨h1, h2⟩ := ba h
      obtain ⟨h3, h4⟩ := ba h2
      exact ss_if (pt_X ((sndE Bb d h1 A.toAt).2 rfl)) (sndSts a Bb h3 A) (sndSts b Bb h4 A)
    · cases h
  | .whl d b, c, sc, st, Wx, X, en, k, Bb, h, A => by
    unfold chkSt at h
    split at h
    · obtain ⟨h0, h⟩ := ba h
      obtain ⟨h1, h2⟩ := ba h
      exact ss_whl (A.po h0) (pt_X ((sndE Bb d h1 A.toAt).2 rfl)) (sndSts b Bb h2 A)
    · cases h
  | .for_ t sr b, c, sc, st, Wx, X, en, k, Bb, h, A => by
    unfold chkSt at h
    split at h
    · obtain ⟨h0, h⟩ := ba h
      obtain ⟨h1, h⟩ := ba h
      obtain ⟨h2, h⟩ := ba h
      obtain ⟨h3, h4⟩ := ba h
      exact ss_for (A.po h0) (A.calm h0) (sndSr Bb sr h3 A.toAt) (tgB_ok A.toAt (fun x hx => A.loc hx) h2) (sndSts b Bb h4 A) (fset_plain h1)
    · cases h
  | .ret e, c, sc, st, Wx, X, en, k, Bb, h, A => by
    unfold chkSt at h
    split at h
    · obtain ⟨h1, h2⟩ := ba h
      exact ss_ret (pe_X (((sndE Bb e h2 A.toAt).1 rfl).fz h1))
    · cases h
  | .retN, c, sc, st, Wx, X, en, k, Bb, h, A => by
    unfold chkSt at h
    split at h
    · exact ss_retN
    · cases h
  | .pass, c, sc, st, Wx, X, en, k, Bb, h, A => by
    unfold chkSt at h
    split at h
    · exact ss_pass
    · exact ss_doc
    · cases h
  | .brk, c, sc, st, Wx, X, en, k, Bb, h, A => by
    unfold chkSt at h
    split at h
    · exact ss_brk
    · cases h
  | .cnt, c, sc, st, Wx, X, en, k, Bb, h, A => by
    unfold chkSt at h
    split at h
    · exact ss_cnt
    · cases h
  | .raise kk ks es, c, sc, st, Wx, X, en, k, Bb, h, A => by
    unfold chkSt at h
    split at h
    · obtain ⟨h0, h⟩ := ba h
      obtain ⟨h1, h2⟩ := ba h
      obtain ⟨h3, h4⟩ := ba h2
      obtain ⟨h5, h6⟩ := ba h4
      obtain ⟨h7, h8⟩ := ba h6
      have e1 := of_decide_eq_true h5
      subst e1
      exact ss_raise0 A.xc (A.calm h0) Bb.fe (by rw [← A.tab]; exact h1) (glB_ok h7) (Bb.gx.cl kk h3) (nameB_ok h8).1
    · rename_i f e x p v pos pos2
      obtain ⟨h0, h⟩ := ba h
      obtain ⟨h1, h⟩ := ba h
      obtain ⟨h2, h⟩ := ba h
      obtain ⟨h9, h⟩ := ba h
      obtain ⟨h10, h⟩ := ba h
      obtain ⟨h11, h12⟩ := ba h
      obtain ⟨h3, h4⟩ := ba h2
      obtain ⟨h5, h6⟩ := ba h4
      obtain ⟨h7, h8⟩ := ba h6
      have e1 := of_decide_eq_true h5
      subst e1
      have := ss_raise1 (en := en) A.xc (A.calm h0) Bb.fe (c := kk) (f := f) (by rw [← A.tab]; exact h1) (glB_ok h7) (Bb.gx.cl kk h3) (nameB_ok h8).1 (Bb.gx.free _ (by simpa using h9)) h10 (pe_X (((sndE Bb e h12 A.toAt).1 rfl).fz h11)) (p := p) (pos := pos) (pos' := pos2)
      refine PS.mono this ?_
      rintro D σ H ⟨S, env, fr, hr, sl, q⟩
      refine ⟨S, env, fr, hr, sl, ?_⟩
      have e2 : exS Γ.T cf ci (.raise kk [f] (.cons e .nil)) env S.S = (ev Γ.T cf ci e false env S.S).stm env fun w s1 => .ex ⟨kk, [f], [w]⟩ env s1 := by
        show ((evEs Γ.T cf ci (.cons e .nil) env S.S).stm env fun ws s1 => if [f].length = ws.length then RS.ex ⟨kk, [f], ws⟩ env s1 else .no) = _
        show (((ev Γ.T cf ci e false env S.S).bind fun x s1 => R.ok [x] s1).stm env fun ws s1 => if [f].length = ws.length then RS.ex ⟨kk, [f], ws⟩ env s1 else .no) = _
        cases ev Γ.T cf ci e false env S.S <;> rfl
      dsimp only at q ⊢
      rw [← e2]
      exact q
    · cases h
  | .try_ b hs, c, sc, st, Wx, X, en, k, Bb, h, A => by
    unfold chkSt at h
    split at h
    · obtain ⟨h0, h⟩ := ba h
      obtain ⟨h1, h2⟩ := ba h
      exact ss_try A.xc Bb.fe (A.xr h0) A.st A.ef (fun W pn xe tk po => sndSts b Bb h1 (A.try_ h0 tk po)) (sndHd hs Bb h2 A)
    · cases h
theorem sndSts : ∀ (x : Sts) {c : CkC} {sc : Scope} {l : List Stmt} {Wx : WX} {X : Cx} {en : En} {k : Nat}, Bd Γ D c.G j cf ci → chkSts c x sc l = true → AtS Γ c Wx sc k j en X → PSs X l (tS Γ Wx en fun env s => exSs Γ.T cf ci x env s)
  | .nil, c, sc, l, Wx, X, en, k, Bb, h, A => by
    cases l with
    | nil => exact sss_nil
    | cons _ _ => cases h
  | .cons s r, c, sc, l, Wx, X, en, k, Bb, h, A => by
    unfold chkSts at h
    split at h
    · exact sss_frz (sndSts r Bb h A)
    · split at h
      · obtain ⟨h1, h2⟩ := ba h
        exact sss_cons (sndSt s Bb h1 A) (sndSts r Bb h2 A)
      · cases h
theorem sndHd : ∀ (x : Hds) {c : CkC} {sc : Scope} {l : List ExceptHandler} {Wx : WX} {X : Cx} {en : En} {k : Nat}, Bd Γ D c.G j cf ci → chkHd c x sc l = true → AtS Γ c Wx sc k j en X → HdA X l (lOf Γ cf ci en x)
  | .nil, c, sc, l, Wx, X, en, k, Bb, h, A => by
    cases l with
    | nil => exact .nil
    | cons _ _ => cases h
  | .cons kk i b r, c, sc, l, Wx, X, en, k, Bb, h, A => by
    unfold chkHd at h
    split at h
    · obtain ⟨h1, h2⟩ := ba h
      obtain ⟨h3, h4⟩ := ba h2
      obtain ⟨h5, h6⟩ := ba h3
      obtain ⟨h7, h8⟩ := ba h4
      obtain ⟨g1, g2⟩ := ba h1
      obtain ⟨g2, g3⟩ := ba g2
      obtain ⟨g3, g4⟩ := ba g3
      have e1 := of_decide_eq_true g2
      subst e1
      refine .cons ⟨A.xc.gl (glB_ok g3), (nameB_ok g4).1, .inl (by rw [A.xc.eM]; exact Bb.gx.cl kk g1)⟩ (by rw [A.xc.eN]; exact of_decide_eq_true h5) (by show X.env.scope.names.lookup _ = _; rw [A.xc.eS]; exact eq_of_beq h6) (fun a oe cls d pn hz hf => ?_) (sndHd r Bb h8 A)
      exact sndSts b (c := { c with calm := false }) Bb h7 (A.suite_ hz hf)
    · cases h
end
end
end LI
end
section
set_option Elab.async false
set_option linter.all false
set_option maxRecDepth 100000
set_option maxHeartbeats 8000000
/-! LiFn: all defs at all levels. -/
namespace LI
open PySem PySem.Spec PyProof.Rows L2

structure FnF (Γ : Ctx) (D : Pd) (G : GN) (f : Nat) (d : FD) : Prop where
  ex : ∃ (name qual : Str) (as kas : List Arg) (kds : List (Option Expr)) (kws : List (Str × V)) (body : List Stmt) (scope : Scope) (N : List Str), FunD Γ.K name qual ⟨[], as, none, kas, kds, none, []⟩ body scope [] kws (D.fa f) (D.fd f) ∧ D.ps f = as.map (·.arg) ++ kas.map (·.arg) ∧ FnScope N (D.ps f) scope ∧ (D.ps f).length = d.np ∧
    N.length = d.ns ∧ chkSts ⟨G, Γ.T, N, true⟩ d.body scope body = true ∧
    ((D.kn f = none ∧ kas = [] ∧ kds = []) ∨ ∃ ka, kas = [ka] ∧ D.kn f = some ka.arg ∧ (D.kd f = true → kws = [(ka.arg, .non)]))
section
variable {Γ : Ctx} {D : Pd} {G : GN}
theorem FnF.nd {N ps : List Str} {sc : Scope} (S : FnScope N ps sc) : ps.Nodup := by rw [← S.pre]; exact S.nd.sublist (List.take_sublist _ _)
theorem FnF.binds {f : Nat} {d : FD} (h : FnF Γ D G f d) (hk : D.kn f = none) : Binds Γ.K (D.fd f) (D.ps f) [] := by
  obtain ⟨name, qual, as, kas, kds, kws, body, scope, N, F, e, S, np, ns, ck, kk⟩ := h.ex
  rcases kk with ⟨_, rfl, rfl⟩ | ⟨ka, _, hkn, _⟩
  · have nd := FnF.nd S
    rw [List.map_nil, List.append_nil] at e
    refine F.bindsN fun kV doc pm an cdv ct us hl => ?_
    rw [e] at hl nd ⊢
    exact bind_plain rfl rfl nd hl
  · rw [hk] at hkn; cases hkn
theorem FnF.bk {f : Nat} {d : FD} {x : Str} (h : FnF Γ D G f d) (hk : D.kn f = some x) : KBn Γ.K (D.fd f) (D.ps f) ((D.ps f).length - 1) [x] (fun us ws => us ++ ws) (fun vs zs => vs ++ zs) := by
  obtain ⟨name, qual, as, kas, kds, kws, body, scope, N, F, e, S, np, ns, ck, kk⟩ := h.ex
  rcases kk with ⟨hkn, _⟩ | ⟨ka, rfl, hkn, _⟩
  · rw [hk] at hkn; cases hkn
  · rw [hk] at hkn
    cases hkn
    have nd := FnF.nd S
    rw [List.map_cons, List.map_nil] at e
    refine ⟨fun s us ws X l1 l2 => ?_, fun r1 r2 => r1.append r2⟩
    obtain ⟨oc, od, dV, kV, doc, pm, an, cdv, ct, osl, efd, lk, hcd, hD, hK⟩ := F.ex
    rcases hD with ⟨_, rfl⟩ | ⟨e0, _⟩
    · rw [e] at l1 nd ⊢
      cases ws with
      | nil => cases l2
      | cons w ws =>
        cases ws with
        | cons _ _ => cases l2
        | nil =>
          rw [efd]
          exact .of_eq (bind_kw rfl rfl nd (by simpa using l1))
    · exact absurd rfl e0
theorem FnF.bd {f : Nat} {d : FD} {x : Str} (h : FnF Γ D G f d) (hk : D.kn f = some x) (hd : D.kd f = true) : Binds Γ.K (D.fd f) (D.ps f) [.none] := by
  obtain ⟨name, qual, as, kas, kds, kws, body, scope, N, F, e, S, np, ns, ck, kk⟩ := h.ex
  rcases kk with ⟨hkn, _⟩ | ⟨ka, rfl, hkn, hkw⟩
  · rw [hk] at hkn; cases hkn
  · have hkw := hkw hd
    subst hkw
    have nd := FnF.nd S
    rw [List.map_cons, List.map_nil] at e
    rw [e] at nd
    obtain ⟨ds, rv, hb⟩ := FunD.binds0 (ps := D.ps f) F (as.map (·.arg)).length (by simp) (by rw [e]; simp) fun A doc pm an cdv ct us ks l1 l2 => by
      cases ks with
      | nil => cases l2
      | cons u ks =>
        cases ks with
        | cons _ _ => cases l2
        | nil =>
          rw [e]
          exact bind_kd rfl rfl rfl nd l1
    cases rv with
    | cons r0 rn =>
      cases rn
      rename_i u
      obtain rfl : u = Value.none := r0
      exact hb
theorem FnF.pl {f : Nat} {d : FD} (h : FnF Γ D G f d) : (D.ps f).length = d.np := by
  obtain ⟨name, qual, as, kas, kds, kws, body, scope, N, F, e, S, np, ns, ck, kk⟩ := h.ex
  exact np
theorem start_get {N : List Str} {vs : List V} {i : Nat} : (L2.start N vs)[i]? = if i < vs.length then (vs[i]?).map some else if i < N.length then some none else none := by
  unfold L2.start
  by_cases h : i < vs.length
  · rw [if_pos h, List.getElem?_append_left (by simpa using h), List.getElem?_map]
  · rw [if_neg h, List.getElem?_append_right (by simpa using h), List.length_map, List.getElem?_replicate]
    by_cases h2 : i < N.length
    · rw [if_pos (by omega), if_pos h2]
    · rw [if_neg (by omega), if_neg h2]
theorem envOf_get {n : Nat} {ws : List W} {i : Nat} : (envOf n ws)[i]? = if i < ws.length then (ws[i]?).map Sl.v else if i < n then some .un else none := by
  unfold envOf
  by_cases h : i < ws.length
  · rw [if_pos h, List.getElem?_append_left (by simpa using h), List.getElem?_map]
  · rw [if_neg h, List.getElem?_append_right (by simpa using h), List.length_map, List.getElem?_replicate]
    by_cases h2 : i < n
    · rw [if_pos (by omega), if_pos h2]
    · rw [if_neg (by omega), if_neg h2]
/-- the slots at a def's entry -/
theorem slr_start {en : En} {S : Sn} {H : Hp} {N : List Str} {ws : List W} {vs : List V} (r : RepsS Γ S ws vs) (hl : ws.length ≤ N.length) : SlR Γ en S H (envOf N.length ws) (L2.start N vs) := by
  have e := r.length
  refine ⟨?_, fun i s o e1 e2 => ?_, fun i j xs ys a e1 _ _ _ => ?_, fun i c ks fs e1 => ?_⟩
  · unfold envOf L2.start
    simp
    omega
  · rw [envOf_get] at e1
    rw [start_get] at e2
    by_cases h : i < ws.length
    · rw [if_pos h] at e1
      rw [if_pos (by omega)] at e2
      obtain ⟨w, ew, rfl⟩ := Option.map_eq_some_iff.mp e1
      obtain ⟨v, ev, rfl⟩ := Option.map_eq_some_iff.mp e2
      obtain ⟨v', e3, r3⟩ := r.get ew
      rw [e3] at ev
      cases ev
      exact ⟨v, rfl, r3⟩
    · rw [if_neg h] at e1
      split at e1
      · cases e1; exact True.intro
      · cases e1
  · rw [envOf_get] at e1
    split at e1
    · obtain ⟨w, _, z⟩ := Option.map_eq_some_iff.mp e1; cases z
    · split at e1 <;> cases e1
  · rw [envOf_get] at e1
    split at e1
    · obtain ⟨w, _, z⟩ := Option.map_eq_some_iff.mp e1; cases z
    · split at e1 <;> cases e1
theorem slr_self {S : Sn} {H0 : Hp} {N : List Str} {ws : List W} {vs : List V} {c : Nat} {x dx : Addr} (hr : HR Γ S H0) (hx : H0 x = none) (hdx : H0 dx = none) (hne : dx ≠ x) (r : RepsS Γ S ws vs) (hl : ws.length + 1 ≤ N.length) :
    SlR Γ ⟨S, H0, x, none⟩ S (upd (upd H0 dx (.own x)) x (.ins (Γ.ca c) dx [])) (Sl.self c [] [] :: envOf (N.length - 1) ws) (L2.start N (.ref x :: vs)) := by
  have e := r.length
  have hN : N.length - 1 + 1 = N.length := by omega
  have es : ∀ i, (L2.start N (V.ref x :: vs))[i + 1]? = if i < vs.length then (vs[i]?).map some else if i < N.length - 1 then some none else none := fun i => by
    rw [start_get]
    simp only [List.length_cons, List.getElem?_cons_succ]
    by_cases h : i < vs.length
    · rw [if_pos (by omega), if_pos h]
    · rw [if_neg (by omega), if_neg h]
      by_cases h2 : i < N.length - 1
      · rw [if_pos (by omega), if_pos h2]
      · rw [if_neg (by omega), if_neg h2]
  refine ⟨?_, fun i s o e1 e2 => ?_, fun i j xs ys a e1 _ _ _ => ?_, fun i c ks fs e1 => ?_⟩
  · unfold envOf L2.start
    simp
    omega
  · cases i with
    | zero =>
      cases e1
      rw [start_get] at e2
      cases e2
      exact ⟨rfl, ⟨hr.sub.none hx, hx, hr.offN hx⟩, dx, [], upd_same, Reps.nil, rfl⟩
    | succ i =>
      rw [List.getElem?_cons_succ, envOf_get] at e1
      rw [es] at e2
      by_cases h : i < ws.length
      · rw [if_pos h] at e1
        rw [if_pos (by omega)] at e2
        obtain ⟨w, ew, rfl⟩ := Option.map_eq_some_iff.mp e1
        obtain ⟨v, ev, rfl⟩ := Option.map_eq_some_iff.mp e2
        obtain ⟨v', e3, r3⟩ := r.get ew
        rw [e3] at ev
        cases ev
        exact ⟨v, rfl, r3⟩
      · rw [if_neg h] at e1
        split at e1
        · cases e1; exact True.intro
        · cases e1
  · cases i with
    | zero => cases e1
    | succ i =>
      rw [List.getElem?_cons_succ, envOf_get] at e1
      split at e1
      · obtain ⟨w, _, z⟩ := Option.map_eq_some_iff.mp e1; cases z
      · split at e1 <;> cases e1
  · cases i with
    | zero => rfl
    | succ i =>
      rw [List.getElem?_cons_succ, envOf_get] at e1
      split at e1
      · obtain ⟨w, _, z⟩ := Option.map_eq_some_iff.mp e1; cases z
      · split at e1 <;> cases e1
/-- a def's body stands so -/
theorem at_body {c : CkC} {n : Nat} {N : List Str} {ps : List Str} {qual : Str} {scope : Scope} {f : Addr} {cdv : Value} {A : Around} {outer : List PySem.Env} {s : Shared} {H : Hp} {E : XK} {en : En} (hc : c = ⟨G, Γ.T, N, true⟩) (Sc : FnScope N ps scope) (hx : en.xr = none)
    (hr : Room (2 * n + 1) (A.deeper (envOfC qual scope s.heap.objs.size f cdv))) : AtS Γ c (WXE E) scope (2 * n + 1) (2 * n) en (cxOf (L2.CX Γ.P Γ.w) Γ.P Γ.w Γ.K Γ.mg Γ.base N qual scope f cdv A outer s H E) := by
  subst hc
  exact { xc := { eP := rfl, ew := rfl, eK := rfl, eM := rfl, eB := rfl, eN := rfl, eS := rfl, nd := Sc.nd, tk := takes_of rfl rfl rfl rfl, un := by have := hr.un; show (A.deeper (envOfC qual scope s.heap.objs.size f cdv)).units + 200 < cLine; omega, rm := fun _ => hr }
          calm := fun _ => rfl, suite := fun z => by cases z
          lv := Nat.le_refl _, tab := rfl, fn := fun _ => rfl, po := fun _ => passes_of rfl, st := rfl, ef := rfl, xr := fun _ => hx, kd := Sc.kind, top := topW_of rfl rfl (takes_of rfl rfl rfl rfl) }
theorem lv_zero : Lv Γ D 0 (callF Γ.T 0).1 (callF Γ.T 0).2 where
  fn := fun f d _ => ⟨fun vs H Q E ⟨S, ws, hr, r, h⟩ => h.elim, fun A outer s H args us vs Q E _ _ _ _ ⟨S, ws, hr, r, h⟩ => h.elim⟩
  ini := fun f d c _ => ⟨fun vs H Q E ⟨S, H0, ws, x, dx, vs', _, _, _, _, _, _, _, h⟩ => h.elim, fun A outer s H args us vs Q E _ _ _ _ ⟨S, H0, ws, x, dx, vs', _, _, _, _, _, _, _, h⟩ => h.elim⟩
  fnN := fun _ _ _ _ => rfl
  inN := fun _ _ _ _ _ => rfl
theorem lv_succ {n : Nat} (Bb : Bd Γ D G (2 * n) (callF Γ.T n).1 (callF Γ.T n).2) (hf : ∀ f d, Γ.T.fn f = some d → FnF Γ D G f d) : Lv Γ D (2 * n + 2) (callF Γ.T (n + 1)).1 (callF Γ.T (n + 1)).2 where
  fnN := fun f e ws s => by
    show (match Γ.T.fn f with | some d => _ | none => R.no) = R.no
    rw [e]
  inN := fun f c e ws s => by
    show (match Γ.T.fn f with | some d => _ | none => R.no) = R.no
    rw [e]
  fn := fun f d e => by
    obtain ⟨name, qual, as, kas, kds, kws, body, scope, N, F, eps, Sc, np, ns, ck, kk⟩ := (hf f d e).ex
    have ecall : ∀ ws s, (callF Γ.T (n + 1)).1 f ws s = if ws.length = d.np then (match exSs Γ.T (callF Γ.T n).1 (callF Γ.T n).2 d.body (envOf d.ns ws) s with
        | .ok (.rt w) _ s1 => .ok w s1
        | .ok .nx _ s1 => .ok .non s1
        | .ex x _ s1 => .ex x s1
        | _ => .no) else .no := fun ws s => by
      show (match Γ.T.fn f with | some d => _ | none => R.no) = _
      rw [e] <;> rfl
    refine F.ok Sc (fun vs H Q E ⟨S, ws, hr, r, h⟩ => ?_) fun cdv A outer s H vs Q E room ⟨S, ws, hr, r, h⟩ => ?_
    · rw [ecall] at h
      split at h
      · rename_i hl; rw [r.length, hl, np]
      · exact h.elim
    · rw [ecall] at h
      split at h
      · rename_i hl
        have Aa := at_body (Γ := Γ) (G := G) (c := ⟨G, Γ.T, N, true⟩) (n := n) (outer := outer) (s := s) (H := H) (E := E) (en := ⟨S, H, 0, none⟩) (f := D.fa f) rfl Sc rfl room
        refine ⟨_, sndSts d.body (c := ⟨G, Γ.T, N, true⟩) Bb ck Aa, S, envOf d.ns ws, Fr.refl, hr, ?_, ?_⟩
        · rw [← ns]
          exact slr_start r (by rw [ns, hl, ← np]; have := congrArg List.length Sc.pre; rw [List.length_take] at this; omega)
        · dsimp only
          cases q : exSs Γ.T (callF Γ.T n).1 (callF Γ.T n).2 d.body (envOf d.ns ws) S.S with
          | no => rw [q] at h; exact h
          | ex x env' s1 =>
            rw [q] at h
            exact fun S' H' σ' cls dd es _ fr hr' _ xr => h S' H' cls dd es fr hr' xr
          | ok o env' s1 =>
            rw [q] at h
            cases o with
            | nx => exact fun S' H' σ' es _ fr hr' _ => h S' H' es fr hr' .non rfl
            | bk => exact h.elim
            | ct => exact h.elim
            | rt w => exact fun S' H' σ' es _ fr hr' _ v rv => h S' H' es fr hr' v rv
      · exact h.elim
  ini := fun f d c e => by
    obtain ⟨name, qual, as, kas, kds, kws, body, scope, N, F, eps, Sc, np, ns, ck, kk⟩ := (hf f d e).ex
    have ecall : ∀ ws s, (callF Γ.T (n + 1)).2 f c ws s = if ws.length + 1 = d.np then (match exSs Γ.T (callF Γ.T n).1 (callF Γ.T n).2 d.body (Sl.self c [] [] :: envOf (d.ns - 1) ws) s with
        | .ok .nx (Sl.self c' ks fs :: _) s1 => if c' = c then .ok (ks, fs) s1 else .no
        | .ex x _ s1 => .ex x s1
        | _ => .no) else .no := fun ws s => by
      show (match Γ.T.fn f with | some d => _ | none => R.no) = _
      rw [e] <;> rfl
    refine F.ok Sc (fun vs H Q E ⟨S, H0, ws, x, dx, vs', ev, hx, hdx, hne, eH, hr, r, h⟩ => ?_) fun cdv A outer s H vs Q E room ⟨S, H0, ws, x, dx, vs', ev, hx, hdx, hne, eH, hr, r, h⟩ => ?_
    · rw [ecall] at h
      split at h
      · rename_i hl; rw [ev, List.length_cons, r.length, hl, np]
      · exact h.elim
    · rw [ecall] at h
      split at h
      · rename_i hl
        subst ev eH
        have Aa := at_body (Γ := Γ) (G := G) (c := ⟨G, Γ.T, N, true⟩) (n := n) (outer := outer) (s := s) (H := upd (upd H0 dx (.own x)) x (.ins (Γ.ca c) dx [])) (E := E) (en := ⟨S, H0, x, none⟩) (f := D.fa f) rfl Sc rfl room
        have hx2 : upd H0 dx (.own x) x = none := by rw [upd_ne (Ne.symm hne)]; exact hx
        have hr2 := (hr.newO (o := .own x) hdx).newO (o := .ins (Γ.ca c) dx []) hx2
        have fr2 : Fr S H0 S (upd (upd H0 dx (.own x)) x (.ins (Γ.ca c) dx [])) := (hr.frNewO (o := .own x) hdx).trans ((hr.newO (o := .own x) hdx).frNewO (o := .ins (Γ.ca c) dx []) hx2)
        refine ⟨_, sndSts d.body (c := ⟨G, Γ.T, N, true⟩) Bb ck Aa, S, Sl.self c [] [] :: envOf (d.ns - 1) ws, fr2, hr2, ?_, ?_⟩
        · rw [← ns]
          exact slr_self hr hx hdx hne r (by rw [ns, hl, ← np]; have := congrArg List.length Sc.pre; rw [List.length_take] at this; omega)
        · dsimp only
          cases q : exSs Γ.T (callF Γ.T n).1 (callF Γ.T n).2 d.body (Sl.self c [] [] :: envOf (d.ns - 1) ws) S.S with
          | no => rw [q] at h; exact h
          | ex x env' s1 =>
            rw [q] at h
            exact fun S' H' σ' cls dd es _ fr hr' _ xr => h S' H' cls dd es fr hr' xr
          | ok o env' s1 =>
            rw [q] at h
            cases o with
            | nx =>
              cases env' with
              | nil => exact h.elim
              | cons s0 env' =>
                cases s0 with
                | self c' ks fs =>
                  dsimp only at h
                  split at h
                  · rename_i hcc
                    subst hcc
                    intro S' H' σ' es _ fr hr' sl'
                    obtain ⟨o, eo, e1, ow, dx', us, h1, h2, h3⟩ := sl'.slot (i := 0) rfl
                    exact h S' H' es fr hr' dx' us h1 h2 h3 ow.1 ow.2.2
                  · exact h.elim
                | _ => exact h.elim
            | bk => exact h.elim
            | ct => exact h.elim
            | rt w => exact h.elim
      · exact h.elim
/-- all levels -/
theorem lv_all (fx : Fx Γ D) (fe : Fe Γ) (gx : Gx Γ D G) (fi : Fi Γ) (fk : Fk Γ D) (hf : ∀ f d, Γ.T.fn f = some d → FnF Γ D G f d) : ∀ n, Lv Γ D (2 * n) (callF Γ.T n).1 (callF Γ.T n).2
  | 0 => lv_zero
  | n + 1 => lv_succ ⟨fx, fe, gx, fi, fk, lv_all fx fe gx fi fk hf n⟩ hf
end
end LI
end
section
set_option Elab.async false
set_option linter.all false
set_option maxRecDepth 100000
set_option maxHeartbeats 8000000
/-! LiFac: the text's tables; what is looked up in the written part. -/
namespace LI
open PySem PySem.Spec PyProof.Rows L2

/-- one def: where it stands, its names, what it does -/
structure DL where
  d : He.DefD
  N : List Str
  fd : FD
  pr : Bool := false      -- a property's getter
/-- an exception class with its own __init__: class, attribute, def -/
structure XL where
  c : Nat
  f : Nat
  d : He.DefD
/-- the text's tables -/
structure TD where
  defs : List DL
  cls : List Str
  nms : List Str
  meth : List ((Nat × Nat) × Nat) := []
  init : List (Nat × Nat) := []
  con : List ((Nat × Nat) × W) := []
  gc : List (Str × W) := []
  sub : List (Nat × Nat) := []
  exb : List (Nat × String) := []
  fo : List (Nat × Nat) := []
  oc : List Nat := []
  xc : List Nat := []
  x0 : List Nat := []
  xl : List XL := []
  sz : Nat
  free : List Str
theorem lk2_mem {α : Type} {a b : Nat} {v : α} : ∀ {l : List ((Nat × Nat) × α)}, lk2 l a b = some v → ((a, b), v) ∈ l
  | [], h => by cases h
  | ((x, y), u) :: r, h => by
    unfold lk2 at h
    split at h
    · rename_i q
      cases h
      rw [q.1, q.2]
      exact List.mem_cons_self
    · exact List.mem_cons_of_mem _ (lk2_mem h)
theorem lk1_mem {a v : Nat} : ∀ {l : List (Nat × Nat)}, lk1 l a = some v → (a, v) ∈ l
  | [], h => by cases h
  | (x, u) :: r, h => by
    unfold lk1 at h
    split at h
    · rename_i q
      cases h
      rw [q]
      exact List.mem_cons_self
    · exact List.mem_cons_of_mem _ (lk1_mem h)
def TD.tab (t : TD) : Tab where
  fn := fun f => (t.defs[f]?).map (·.fd)
  meth := lk2 t.meth
  init := lk1 t.init
  con := lk2 t.con
  gl := fun i => (t.gc[i]?).map (·.2)
  sub := fun a b => t.sub.contains (a, b)
  exb := fun a n => t.exb.contains (a, n)
  fo := fun a b => t.fo.contains (a, b)
  oc := fun c => t.oc.contains c
  xc := fun c => t.xc.contains c
  x0 := fun c => t.x0.contains c
  x1 := fun c f => t.xl.any fun x => x.c == c && x.f == f
  sz := t.sz
def tilde (n : Nat) : Str := ⟨Array.replicate (n + 200) 126⟩
def TD.nm (t : TD) (f : Nat) : Str := (t.nms[f]?).getD (tilde f)
def TD.cl (t : TD) (c : Nat) : Str := (t.cls[c]?).getD (tilde c)
def DL.isG (d : DL) : Bool := d.d.at_.2.isNone && !d.pr
/-- a property's getter -/
def prG (K : PySem.W.Frag) (p : Addr) : Addr := match PySem.W.recIn K p "property" with
  | some (.ref g :: _) => g
  | _ => 0
/-- where a def stands -/
def dAd (K : PySem.W.Frag) (d : DL) : Addr := if d.pr then prG K (He.fAd K d.d.at_) else He.fAd K d.d.at_
def DL.kn (d : DL) : Option Str := match d.d.params.kwonlyargs with
  | [a] => some a.arg
  | _ => none
def DL.kd (d : DL) : Bool := match d.d.kwd with
  | [(_, .non)] => true
  | _ => false
def TD.gn (t : TD) : GN where
  isF := fun f => match t.defs[f]? with
    | some d => d.isG
    | none => false
  fn := fun f => match t.defs[f]? with
    | some d => d.d.at_.1
    | none => ⟨#[]⟩
  isC := fun c => decide (c < t.cls.length)
  cl := t.cl
  nm := t.nm
  free := t.free
  gl := fun i => (t.gc[i]?).map (·.1)
  kn := fun f => (t.defs[f]?).bind DL.kn
  kd := fun f => ((t.defs[f]?).map DL.kd).getD false
def TD.ca (t : TD) (K : PySem.W.Frag) (c : Nat) : Addr := He.ga K (t.cl c)
def TD.fa (t : TD) (K : PySem.W.Frag) (f : Nat) : Addr := match t.defs[f]? with
  | some d => dAd K d
  | none => 0
def TD.fdt (t : TD) (K : PySem.W.Frag) (f : Nat) : FuncData := match K.lookup (t.fa K f) with
  | some ⟨_, _, .func fd, _⟩ => fd
  | _ => default
def TD.ps (t : TD) (f : Nat) : List Str := match t.defs[f]? with
  | some d => d.d.params.args.map (·.arg) ++ d.d.params.kwonlyargs.map (·.arg)
  | none => []
def TD.pd (t : TD) (K : PySem.W.Frag) : Pd := ⟨t.fa K, t.fdt K, t.ps, t.gn.kn, t.gn.kd⟩
def TD.ctx (t : TD) (P : Program) (w : World) (K : PySem.W.Frag) (mg : Str → Option Value) (base : Heap) : Ctx := ⟨P, w, K, mg, base, t.tab, t.ca K, t.nm⟩

/-! ### names apart -/
def TD.nmB (t : TD) : Bool := decide t.nms.Nodup && t.nms.all fun x => decide (x.cps.size < 200)
theorem tilde_size {n : Nat} : (tilde n).cps.size = n + 200 := by simp [tilde]
theorem TD.nm_inj {t : TD} (h : t.nmB = true) {i j : Nat} (e : t.nm i = t.nm j) : i = j := by
  obtain ⟨h1, h2⟩ := ba h
  have nd : t.nms.Nodup := of_decide_eq_true h1
  have sz : ∀ {i : Nat} {x : Str}, t.nms[i]? = some x → x.cps.size < 200 := fun q => of_decide_eq_true (List.all_eq_true.mp h2 _ (List.mem_of_getElem? q))
  unfold TD.nm at e
  cases a : t.nms[i]? with
  | none =>
    rw [a] at e
    cases b : t.nms[j]? with
    | none =>
      rw [b] at e
      have := congrArg (fun z : Str => z.cps.size) e
      simp only [Option.getD_none, tilde_size] at this
      omega
    | some y =>
      rw [b] at e
      have := congrArg (fun z : Str => z.cps.size) e
      simp only [Option.getD_none, Option.getD_some, tilde_size] at this
      have := sz b
      omega
  | some x =>
    rw [a] at e
    cases b : t.nms[j]? with
    | none =>
      rw [b] at e
      have := congrArg (fun z : Str => z.cps.size) e
      simp only [Option.getD_none, Option.getD_some, tilde_size] at this
      have := sz a
      omega
    | some y =>
      rw [b] at e
      have e2 : x = y := e
      subst e2
      obtain ⟨hi, _⟩ := List.getElem?_eq_some_iff.mp a
      exact (List.getElem?_inj hi nd).mp (a.trans b.symm)

/-! ### the written part -/
section
variable (K : PySem.W.Frag)
def gloB (x : Str) : Bool := (He.Fa.glo x).ok K
def oexB (C : Addr) : Bool := (match K.lookup C with
  | some ⟨.type "type", _, .cls cd, sl⟩ => (match cd.mro, sl.toList with
    | .ref C' :: bm, [_, _, _, _, some (.builtin n), _] => decide (C' = C) && (decide (n = "ValueError.__new__") && (!cd.hasDel && (cd.hasDict && HandSPX.refsVE bm)))
    | _, _ => false)
  | _ => false) && (He.eqO (PySem.W.findIn K (.ref C) "__setattr__") (some (some (.builtin "object.__setattr__"))) && (decide (PySem.W.subIn K (.ref C) (.type "BaseException") = some true) && (decide (PySem.W.typeIn K (.ref C) = some (.type "type")) && PySem.W.keepIn K (.ref C))))
theorem oexB_ok {C : Addr} (h : oexB K C = true) : OexC K C := by
  obtain ⟨h0, h⟩ := ba h
  obtain ⟨h1, h⟩ := ba h
  obtain ⟨h2, h⟩ := ba h
  obtain ⟨h3, h4⟩ := ba h
  refine ⟨?_, He.eqO_ok h1, of_decide_eq_true h2, of_decide_eq_true h3, h4⟩
  split at h0
  · rename_i dd cd sl ho
    split at h0
    · rename_i C' bm k0 k1 k2 k3 n k5 hm hs
      obtain ⟨e1, h0⟩ := ba h0
      obtain ⟨e2, h0⟩ := ba h0
      obtain ⟨e3, h0⟩ := ba h0
      obtain ⟨e4, e5⟩ := ba h0
      obtain rfl := of_decide_eq_true e1
      obtain rfl := of_decide_eq_true e2
      obtain ⟨nm, bs, mro, ns, qn, hd, sn, sub, ab, col, del⟩ := cd
      dsimp only at hm e3 e4
      have e3 : del = false := by simpa using e3
      subst hm e3 e4
      have hsl : sl = #[k0, k1, k2, k3, some (.builtin "ValueError.__new__"), k5] := by
        obtain ⟨l⟩ := sl
        simp only at hs
        rw [hs]
      subst hsl
      exact ⟨nm, qn, ns, bs, bm, sn, sub, ab, col, dd, k0, k1, k2, k3, k5, ho, e5⟩
    · cases h0
  · cases h0
def excB (C : Addr) : Bool := He.eqO (PySem.W.findIn K (.ref C) "__getattribute__") (some (some (.builtin "BaseException.__getattribute__"))) && (He.eqO (PySem.W.findIn K (.ref C) "__getattr__") (some none) && (decide (PySem.W.subIn K (.ref C) (.type "BaseException") = some true) &&
  (PySem.W.hasDictIn K C && (He.eqO (PySem.W.findIn K (.ref C) "__class__") (some (some (.builtin "object.__class__"))) && (He.eqO (PySem.W.specialIn K (.builtin "object.__class__") "__get__") (some (some (.builtin "getset_descriptor.__get__"))) &&
  (decide (PySem.W.takesIn K (.builtin "object.__class__") = some true) && decide (PySem.W.mroIn K C (.type "object") = some true)))))))
theorem excB_ok {C : Addr} (h : excB K C = true) : ExcC K C := by
  obtain ⟨h1, h⟩ := ba h
  obtain ⟨h2, h⟩ := ba h
  obtain ⟨h3, h⟩ := ba h
  obtain ⟨h4, h⟩ := ba h
  obtain ⟨h5, h⟩ := ba h
  obtain ⟨h6, h⟩ := ba h
  obtain ⟨h7, h8⟩ := ba h
  exact ⟨He.eqO_ok h1, He.eqO_ok h2, of_decide_eq_true h3, h4, He.eqO_ok h5, He.eqO_ok h6, of_decide_eq_true h7, of_decide_eq_true h8⟩
/-- isinstance's look at the class of an object -/
def insB (C : Addr) : Bool := He.eqO (PySem.W.findIn K (.ref C) "__class__") (some (some (.builtin "object.__class__"))) && (He.eqO (PySem.W.specialIn K (.builtin "object.__class__") "__get__") (some (some (.builtin "getset_descriptor.__get__"))) &&
  (decide (PySem.W.takesIn K (.builtin "object.__class__") = some true) && decide (PySem.W.mroIn K C (.type "object") = some true)))
def vW : W → Option V
  | .non => some .non
  | .bl b => some (.bl b)
  | .int i => some (.int i)
  | .str s => some (.str s)
  | _ => none
theorem vW_ok {Γ : Ctx} {w : W} {v : V} (h : vW w = some v) : ∀ F φ N, Rep Γ F φ N w v := by
  intro F φ N
  cases w <;> cases h <;> rfl
/-- a class constant -/
def conB (C : Addr) (x : Str) (w : W) : Bool := (match vW w, PySem.W.findIn K (.ref C) x with
  | some v, some (some u) => He.relB v u && (He.eqO (PySem.W.specialIn K u "__get__") (some none) && (!PySem.W.copiedNames.contains x && (match PySem.W.findCls K (.ref C) (.type "type") x with
    | some (.val u2) => He.relB v u2
    | _ => false)))
  | _, _ => false) && (PySem.W.readsIn K C (.type "type") && He.eqO (PySem.W.specialIn K (.ref C) "__getattribute__") (some (some (.builtin "type.__getattribute__"))))
theorem conB_ok {C : Addr} {x : Str} {w : W} (h : conB K C x w = true) : (∃ v u, Con K C x v u ∧ vW w = some v) ∧ ∃ v u, ClX.CRead K C (.type "type") ∧ ClX.CVal K C (.type "type") x v u ∧ vW w = some v := by
  obtain ⟨h0, h⟩ := ba h
  obtain ⟨h1, h2⟩ := ba h
  split at h0
  · rename_i v u ev eu
    obtain ⟨g1, h0⟩ := ba h0
    obtain ⟨g2, h0⟩ := ba h0
    obtain ⟨g3, h0⟩ := ba h0
    split at h0
    · rename_i u2 e2
      exact ⟨⟨v, u, ⟨eu, He.relB_ok g1, He.eqO_ok g2, by simpa using g3⟩, ev⟩, v, u2, ⟨h1, He.eqO_ok h2⟩, ⟨e2, He.relB_ok h0⟩, ev⟩
    · cases h0
  · cases h0
/-- a constant of the module -/
def cB (w : W) (u : Value) : Bool := match vW w with
  | some v => He.relB v u
  | none => (match w, u with
    | .tup ws, .ref a => (match K.lookup a with
      | some ⟨.type "tuple", _, .seq its _, _⟩ => decide (its.size ≤ 1000) && hasStr ws && (match ws.mapM vW with
        | some vs => He.relAll vs its.toList
        | none => false)
      | _ => false)
    | _, _ => false)
def gcB (x : Str) (w : W) : Bool := match PySem.W.nsIn K mainGlobals x with
  | some (some u) => cB K w u
  | _ => false
theorem vWs_ok {Γ : Ctx} {F : Hp} {φ : Nat → Addr} {N : Nat} : ∀ {ws : List W} {vs : List V}, ws.mapM vW = some vs → Reps Γ F φ N ws vs
  | [], _, h => by cases h; rfl
  | w :: ws, vs, h => by
    rw [List.mapM_cons] at h
    cases e : vW w with
    | none => rw [e] at h; cases h
    | some v =>
      rw [e] at h
      cases e2 : ws.mapM vW with
      | none => rw [e2] at h; cases h
      | some us =>
        rw [e2] at h
        cases h
        exact ⟨v, us, rfl, vW_ok e F φ N, vWs_ok e2⟩
theorem cB_ok {Γ : Ctx} (eK : Γ.K = K) {w : W} {u : Value} (h : cB K w u = true) : ∃ v, RelV v u ∧ ∀ F φ N, Rep Γ F φ N w v := by
  unfold cB at h
  split at h
  · rename_i v e
    exact ⟨v, He.relB_ok h, vW_ok e⟩
  · split at h
    · rename_i ws a e
      split at h
      · rename_i d its n sl lk
        obtain ⟨h12, h2⟩ := ba h
        obtain ⟨h1, h3⟩ := ba h12
        split at h2
        · rename_i vs e2
          have hs : its.size ≤ sizeLine := by
            have := of_decide_eq_true h1
            rw [sizeLine_eq]; omega
          refine ⟨.ref a, rfl, fun F φ N => ⟨a, vs, rfl, ⟨.inr ⟨_, its, n, by rw [eK]; exact lk, rfl, rfl, hs, He.relAll_ok h2⟩, .inr h3⟩, vWs_ok e2⟩⟩
        · cases h2
      · cases h
    · cases h
theorem gcB_ok {Γ : Ctx} {h : Heap} {mg : Str → Option Value} (X : K.In h) (G : h.Ns mainGlobals mg) (eK : Γ.K = K) {x : Str} {w : W} (c : gcB K x w = true) : ∃ v u, mg x = some u ∧ RelV v u ∧ ∀ F φ N, Rep Γ F φ N w v := by
  unfold gcB at c
  split at c
  · rename_i u e
    obtain ⟨v, h1, h2⟩ := cB_ok K eK c
    exact ⟨v, u, PySem.W.mg_of X G e, h1, h2⟩
  · cases c
/-! ### an exception's own __init__ -/
end
structure Shp where
  slf : Str
  x : Str
  f : Str
  txt : Str
def shape : List Stmt → Option Shp
  | [.Expr (.Call (.Attribute (.Call (.Name sup _) [] [] _) ini apos) [.Constant (.str txt) _ _] [] cpos) _, .Assign [.Attribute (.Name slf _) f _] (.Name x _) _] =>
    if sup = "super" ∧ ini = "__init__" ∧ (apos.endLine == cpos.line) = true then some ⟨slf, x, f, txt⟩ else none
  | _ => none
theorem shape_ok {b : List Stmt} {s : Shp} (h : shape b = some s) : ∃ (p0 p1 p2 p3 p4 p5 p6 p7 apos cpos : Pos) (j : Nat), b = [.Expr (.Call (.Attribute (.Call (.Name "super" p0) [] [] p1) "__init__" apos) [.Constant (.str s.txt) j p2] [] cpos) p3,
      .Assign [.Attribute (.Name s.slf p4) s.f p5] (.Name s.x p6) p7] ∧ (apos.endLine == cpos.line) = true := by
  unfold shape at h
  split at h
  · split at h
    · rename_i q
      obtain ⟨rfl, rfl, q3⟩ := q
      cases h
      exact ⟨_, _, _, _, _, _, _, _, _, _, _, rfl, q3⟩
    · cases h
  · cases h
abbrev FnX : Type := Option (Str × Str × Arguments × FuncBody × Scope × Addr × List Str × Addr)
def fnX (K : PySem.W.Frag) (p : Str × Option Str) : FnX := match K.lookup (He.fAd K p) with
  | some ⟨_, _, .func fd, _⟩ => some (fd.name, fd.qualname, fd.params, fd.body, fd.scope, fd.globals, fd.closure.map (·.1), fd.builtins)
  | _ => none
def xval (d : He.DefD) : FnX := some (d.name, d.qual, d.params, .stmts d.body, d.scope, mainGlobals, ["__class__"], builtinsNs)
def argsB (a : Arguments) : Bool := match a with
  | ⟨[], _, none, [], [], none, []⟩ => true
  | _ => false
theorem argsB_ok {a : Arguments} (h : argsB a = true) : a = ⟨[], a.args, none, [], [], none, []⟩ := by
  unfold argsB at h
  split at h
  · rfl
  · cases h
/-- what the text says -/
def xtxB (P : Program) (f : Str) (d : He.DefD) : Bool := argsB d.params && (match shape d.body with
  | some s => decide (s.f = f) && (decide (d.params.args.map (·.arg) = [s.slf, s.x]) && (decide (s.slf ≠ s.x) && (decide (d.scope.names.lookup s.slf = some .local) && (decide (d.scope.names.lookup s.x = some .local) &&
    (decide (d.scope.names.lookup ("super" : Str) = some .globalImplicit) && (decide (d.scope.names.lookup ("__class__" : Str) = some .free) && (decide (d.scope.kind = .function) && (!d.scope.isCoroutine && (!d.scope.isGenerator && (d.scope.names.all (fun y => !decide (y.2 = .cell)) &&
    (!(s.slf == ("__debug__" : Str)) && (!(s.x == ("__debug__" : Str)) && !(P.main.scope.names.lookup ("super" : Str)).isSome))))))))))))
  | none => false)
/-- what the heap says -/
def xhpB (P : Program) (K : PySem.W.Frag) (C : Addr) (f : Str) (d : He.DefD) : Bool := oexB K C && (He.eqO (PySem.W.findIn K (.ref C) "__init__") (some (some (.ref (He.fAd K d.at_)))) && (decide (PySem.W.typeIn K (.ref (He.fAd K d.at_)) = some (.type "function")) && (match K.lookup (He.fAd K d.at_) with
  | some ⟨_, _, .func ⟨_, _, _, _, _, _, [(_, cc)], .none, _, _, _, _, .ref cda, _, _⟩, _⟩ => PySem.W.codeIn K (.ref cda) d.qual && ((match K.lookup cda with
      | some ⟨_, _, .fields vs, _⟩ => (match (vs[2]? : Option Value) with
        | some (Value.str file _) => (P.main.file : Str) == file
        | _ => false)
      | _ => false) && (match K.lookup cc with
      | some ⟨_, _, .cell (some (.ref D)), _⟩ => decide (D = C)
      | _ => false))
  | _ => false) && ((PySem.W.clsIn K C).isSome && (decide (PySem.W.mroIn K C (.ref C) = some true) && (He.eqO (PySem.W.ks_superIn K C C "__init__") (some (some (.builtin "ValueError.__init__"))) && (decide (PySem.W.subIn K (.ref C) (.type "ValueError") = some true) &&
  (He.eqO (PySem.W.nsIn K cStatics "thirdparty.any") (some none) && He.eqO (PySem.W.findIn K (.ref C) f) (some none))))))))
theorem sup_ok {P : Program} {K : PySem.W.Frag} {C : Addr} {f : Str} {d : He.DefD} (e : fnX K d.at_ = xval d) (h1 : xtxB P f d = true) (h2 : xhpB P K C f d = true) : SupF P K C f := by
  obtain ⟨a0, h1⟩ := ba h1
  have ea := argsB_ok a0
  split at h1
  · rename_i s es
    obtain ⟨b1, h1⟩ := ba h1
    obtain ⟨b2, h1⟩ := ba h1
    obtain ⟨b3, h1⟩ := ba h1
    obtain ⟨b4, h1⟩ := ba h1
    obtain ⟨b5, h1⟩ := ba h1
    obtain ⟨b6, h1⟩ := ba h1
    obtain ⟨b7, h1⟩ := ba h1
    obtain ⟨b8, h1⟩ := ba h1
    obtain ⟨b9, h1⟩ := ba h1
    obtain ⟨b10, h1⟩ := ba h1
    obtain ⟨b11, h1⟩ := ba h1
    obtain ⟨b12, h1⟩ := ba h1
    obtain ⟨b13, b14⟩ := ba h1
    obtain ⟨p0, p1, p2, p3, p4, p5, p6, p7, apos, cpos, j, eb, el⟩ := shape_ok es
    obtain ⟨c1, h2⟩ := ba h2
    obtain ⟨c2, h2⟩ := ba h2
    obtain ⟨c34, h2⟩ := ba h2
    obtain ⟨c3, c4⟩ := ba c34
    obtain ⟨c5, h2⟩ := ba h2
    obtain ⟨c6, h2⟩ := ba h2
    obtain ⟨c7, h2⟩ := ba h2
    obtain ⟨c8, h2⟩ := ba h2
    obtain ⟨c9, c10⟩ := ba h2
    obtain ⟨cd, ecd⟩ := Option.isSome_iff_exists.mp c5
    have ef := of_decide_eq_true b1
    unfold fnX at e
    split at c4
    · rename_i oc od n1 n2 n3 n4 n5 n6 ccn cc n9 n10 n11 n12 cda n14 n15 osl lkf
      rw [lkf] at e
      have e2 : (some (n1, n2, n3, n4, n5, n6, [ccn], n15) : FnX) = xval d := e
      unfold xval at e2
      simp only [Option.some.injEq, Prod.mk.injEq, List.cons.injEq] at e2
      obtain ⟨k1, k2, k3, k4, k5, k6, ⟨k7, _⟩, k8⟩ := e2
      obtain ⟨g1, c4⟩ := ba c4
      obtain ⟨g2, g3⟩ := ba c4
      split at g2
      · rename_i o2 d2 vs s2 lkc
        split at g2
        · rename_i file tf ev
          split at g3
          · rename_i o3 d3 Dd s3 lkl
            obtain rfl := of_decide_eq_true g3
            refine ⟨oexB_ok K c1, _, cc, cda, oc, _, _, od, _, _, osl, _, _, _, file, tf, d.name, d.qual, s.slf, s.x, s.txt, d.params.args, d.scope, n9, n10, n11, n14, n12, cd, p0, p1, p2, p3, p4, p5, p6, p7, p7, apos, cpos, j,
              He.eqO_ok c2, of_decide_eq_true c3, ?_, g1, lkc, ev, g2, lkl, ecd, of_decide_eq_true c6, of_decide_eq_true b2, of_decide_eq_true b3, of_decide_eq_true b4, of_decide_eq_true b5, of_decide_eq_true b6, of_decide_eq_true b7,
              of_decide_eq_true b8, by simpa using b9, by simpa using b10, fun y hy => ?_, el, by simpa using b12, by simpa using b13, He.eqO_ok c7, of_decide_eq_true c8, He.eqO_ok c9, He.eqO_ok c10, by simpa using b14⟩
            · rw [lkf, k1, k2, k3, k4, k5, k6, k7, k8, ← ea, eb, ef]
            · have := List.all_eq_true.mp b11 y hy
              simpa using this
          · cases g3
        · cases g2
      · cases g2
    · cases c4
  · cases h1
end LI
end
section
set_option Elab.async false
set_option linter.all false
set_option maxRecDepth 100000
set_option maxHeartbeats 8000000
/-! LiEnd: from the head's look at the written part to the law. -/
namespace LI
open PySem PySem.Spec PyProof.Rows L2

/-! ### the text -/
def DL.ps (d : DL) : List Str := d.d.params.args.map (·.arg) ++ d.d.params.kwonlyargs.map (·.arg)
def argsK (d : He.DefD) : Bool := match d.params with
  | ⟨[], _, none, [], [], none, []⟩ => true
  | ⟨[], _, none, [ka], _, none, []⟩ => (match d.kwd with
    | [(x, .non)] => decide (x = ka.arg)
    | _ => true)
  | _ => false
theorem argsK_ok {d : He.DefD} (h : argsK d = true) : d.params = ⟨[], d.params.args, none, d.params.kwonlyargs, d.params.kw_defaults, none, []⟩ ∧ ((d.params.kwonlyargs = [] ∧ d.params.kw_defaults = []) ∨ ∃ ka, d.params.kwonlyargs = [ka] ∧ ∀ x, d.kwd = [(x, .non)] → x = ka.arg) := by
  unfold argsK at h
  split at h
  · rename_i e
    rw [e]
    exact ⟨rfl, .inl ⟨rfl, rfl⟩⟩
  · rename_i a ka kd e
    refine ⟨by rw [e], .inr ⟨ka, by rw [e], fun x ex => ?_⟩⟩
    rw [ex] at h
    exact of_decide_eq_true h
  · cases h
/-! ### a def at its place -/
theorem isG_ad {K : PySem.W.Frag} {d : DL} (g : d.isG = true) : dAd K d = He.ga K d.d.at_.1 := by
  obtain ⟨g1, g2⟩ := ba g
  unfold dAd He.fAd
  rw [if_neg (by simpa using g2), Option.isNone_iff_eq_none.mp g1]
def okAt (K : PySem.W.Frag) (a : Addr) (d : He.DefD) : Bool := PySem.W.keepIn K (.ref a) && (match K.lookup a with
  | some ⟨_, _, .func fd, _⟩ => PySem.W.codeIn K fd.code d.qual && (He.dflB K fd.defaults (d.dvs K) && He.kwdB K fd.kwdefaults (d.kws K))
  | _ => false)
def fnWAt (K : PySem.W.Frag) (a : Addr) : He.FnW := match K.lookup a with
  | some ⟨_, _, .func fd, _⟩ => some (fd.name, fd.qualname, fd.params, fd.body, fd.scope, fd.globals, fd.closure, fd.builtins)
  | _ => none
theorem funD_at {K : PySem.W.Frag} {a : Addr} {d : He.DefD} (e : fnWAt K a = d.val) (c : okAt K a d = true) : ∃ fd, FunD K d.name d.qual d.params d.body d.scope (d.dvs K) (d.kws K) a fd := by
  obtain ⟨kp, c2⟩ := ba c
  unfold fnWAt at e
  cases q : K.lookup a with
  | none =>
    rw [q] at c2
    cases c2
  | some o =>
    obtain ⟨oc, od, dt, osl⟩ := o
    rw [q] at c2 e
    cases dt with
    | func fd =>
      obtain ⟨n1, n2, n3, n4, n5, n6, n7, n8, n9, n10, n11, n12, n13, n14, n15⟩ := fd
      have e2 : (some (n1, n2, n3, n4, n5, n6, n7, n15) : He.FnW) = some (d.name, d.qual, d.params, .stmts d.body, d.scope, mainGlobals, [], builtinsNs) := e
      simp only [Option.some.injEq, Prod.mk.injEq] at e2
      obtain ⟨h1, h2, h3, h4, h5, h6, h7, h8⟩ := e2
      subst h1 h2 h3 h4 h5 h6 h7 h8
      have c3 : (PySem.W.codeIn K n13 d.qual && (He.dflB K n8 (d.dvs K) && He.kwdB K n9 (d.kws K))) = true := c2
      obtain ⟨k1, k2⟩ := ba c3
      obtain ⟨k3, k4⟩ := ba k2
      exact ⟨_, ⟨oc, od, n8, n9, n10, n11, n12, n13, n14, osl, rfl, q, k1, He.dflB_ok k3, He.kwdB_ok k4⟩, kp⟩
    | _ => cases c2
def dlB (t : TD) (d : DL) : Bool := argsK d.d && (d.d.dfl.isEmpty && ((C8.scC d.N d.ps d.d.scope && (decide (d.ps.length = d.fd.np) && (decide (d.N.length = d.fd.ns) && chkSts ⟨t.gn, t.tab, d.N, true⟩ d.fd.body d.d.scope d.d.body)))))
def TD.stB (t : TD) (P : Program) : Bool := t.nmB && (t.defs.all (dlB t) && t.xl.all fun x => xtxB P (t.nm x.f) x.d)
def sixT : List String := ["NoneType", "bool", "int", "str", "list", "tuple"]
def fiveL : List String := ["int", "bool", "str", "list", "tuple"]
/-- a method; a property; __call__ -/
def methB (t : TD) (K : PySem.W.Frag) (c m f : Nat) : Bool :=
  if m < 1000 then (He.Fa.meth (t.cl c) (t.nm m)).ok K && decide (t.fa K f = He.ma K (t.ca K c) (t.nm m))
  else if m = 5000 then (He.Fa.meth (t.cl c) "__call__").ok K && (decide (t.fa K f = He.ma K (t.ca K c) "__call__") && PySem.W.fnIn K (t.fa K f))
  else He.eqO (PySem.W.findIn K (.ref (t.ca K c)) (t.nm (m - 1000))) (some (some (.ref (He.ma K (t.ca K c) (t.nm (m - 1000)))))) &&
    (He.eqO (PySem.W.specialIn K (.ref (He.ma K (t.ca K c) (t.nm (m - 1000)))) "__get__") (some (some (.builtin "property.__get__"))) &&
    (decide (PySem.W.takesIn K (.ref (He.ma K (t.ca K c) (t.nm (m - 1000)))) = some true) && (match PySem.W.recIn K (He.ma K (t.ca K c) (t.nm (m - 1000))) "property" with
      | some (.ref g :: _) => decide (t.fa K f = g)
      | _ => false)))
/-- the written part -/
def TD.kB (t : TD) (P : Program) (K : PySem.W.Frag) : Bool :=
  t.cls.all (gloB K) && (t.defs.all (fun d => !d.isG || gloB K d.d.at_.1) && (t.free.all (fun x => (He.Fa.free x).ok K) &&
  (t.fo.all (fun p => (He.Fa.cls (t.cl p.1)).ok K && (He.Fa.noat (t.cl p.1) (t.nm p.2)).ok K) &&
  (t.gc.all (fun p => gcB K p.1 p.2) && (t.con.all (fun p => (He.Fa.cls (t.cl p.1.1)).ok K && conB K (t.ca K p.1.1) (t.nm p.1.2) p.2) &&
  (t.meth.all (fun p => (He.Fa.cls (t.cl p.1.1)).ok K && ((t.defs[p.2]?).isSome && (decide (t.gn.kn p.2 = none) && methB t K p.1.1 p.1.2 p.2))) &&
  (t.init.all (fun p => (He.Fa.mkr (t.cl p.1)).ok K && (decide (t.fa K p.2 = He.ma K (t.ca K p.1) "__init__") && (t.defs[p.2]?).isSome)) &&
  (t.x0.all (fun c => (He.Fa.exc (t.cl c)).ok K) &&
  (t.xc.all (fun a => t.xc.all fun b => decide (PySem.W.exmOne K (.ref (t.ca K a)) (.ref (t.ca K b)) = some (t.tab.sub a b)) && decide (PySem.W.kitOne K (.ref (t.ca K a)) (.ref (t.ca K b)) = some (t.tab.sub a b))) &&
  (t.xc.all (fun a => excB K (t.ca K a) && decide (PySem.W.kitOne K (.ref (t.ca K a)) (.type "ValueError") = some (t.tab.exb a "ValueError"))) &&
  (t.xl.all (fun x => xhpB P K (t.ca K x.c) (t.nm x.f) x.d && xfB K (t.ca K x.c)) &&
  (t.oc.all (fun c => (He.Fa.cls (t.cl c)).ok K && insB K (t.ca K c)) &&
  (t.oc.all (fun a => t.oc.all fun b => decide (PySem.W.kitOne K (.ref (t.ca K a)) (.ref (t.ca K b)) = some (t.tab.sub a b))) &&
  (t.oc.all (fun a => fiveL.all fun n => decide (PySem.W.kitOne K (.ref (t.ca K a)) (.type n) = some false)) &&
  t.oc.all (fun a => sixT.all fun n => decide (PySem.W.kitOne K (.type n) (.ref (t.ca K a)) = some false))))))))))))))))

section
variable {t : TD} {P : Program} {w : World} {K : PySem.W.Frag} {h : Heap} {mg : Str → Option Value} {base : Heap}
theorem allM {α : Type} {l : List α} {p : α → Bool} (h : l.all p = true) {x : α} (hx : x ∈ l) : p x = true := List.all_eq_true.mp h x hx
theorem mem_of_contains {α : Type} [BEq α] [LawfulBEq α] {l : List α} {x : α} (h : l.contains x = true) : x ∈ l := by simpa using h
theorem fn_some {f : Nat} (h : (t.defs[f]?).isSome = true) : ∃ d, t.tab.fn f = some d := by
  obtain ⟨d, e⟩ := Option.isSome_iff_exists.mp h
  exact ⟨d.fd, by show (t.defs[f]?).map (·.fd) = _; rw [e]; rfl⟩
/-- what the head saw -/
abbrev AlL : Type := Bool × List He.FnW × List FnX
def obsL (P : Program) (t : TD) (K : PySem.W.Frag) : AlL := (t.kB P K && t.defs.all (fun d => okAt K (dAd K d) d.d), t.defs.map (fun d => fnWAt K (dAd K d)), t.xl.map fun x => fnX K x.d.at_)
def valL (t : TD) : AlL := (true, t.defs.map (fun d => d.d.val), t.xl.map fun x => xval x.d)
def SaysL (P : Program) (t : TD) (K : PySem.W.Frag) : Prop := obsL P t K = valL t
def asL (g : Addr → Option Obj) : Nat → List Addr
  | 0 => [mainGlobals, cStatics]
  | n + 1 => He.growD g (asL g n)
def obsLG (P : Program) (t : TD) (n : Nat) (g : Addr → Option Obj) : AlL := obsL P t (He.frG g (asL g n))
def hookL (P : Program) (t : TD) (n : Nat) : PySem.W.Hook where
  α := AlL
  obs := fun s => obsLG P t n s.heap.get?
  val := fun _ => valL t
  says := fun _ h => ∃ K : PySem.W.Frag, K.In h ∧ SaysL P t K
  of := fun _ _ e => ⟨_, He.frG_in, e⟩
  keeps := fun _ _ _ ⟨K, hK, c⟩ k => ⟨K, PySem.W.Frag.In.keeps hK k, c⟩
theorem obsLG_eq {n : Nat} {g : Addr → Option Obj} {s : Shared} (h : ∀ a, g a = s.heap.get? a) : obsLG P t n g = (hookL P t n).obs s := by
  have e : g = s.heap.get? := funext h
  rw [e] <;> rfl
theorem SaysL.k (c : SaysL P t K) : t.kB P K = true := (ba (congrArg (fun z : AlL => z.1) c)).1
theorem SaysL.d (c : SaysL P t K) {f : Nat} {d : DL} (e : t.defs[f]? = some d) : ∃ fd, FunD K d.d.name d.d.qual d.d.params d.d.body d.d.scope (d.d.dvs K) (d.d.kws K) (dAd K d) fd := by
  have c2 := allM (ba (show (t.kB P K && t.defs.all (fun d => okAt K (dAd K d) d.d)) = true from congrArg (fun z : AlL => z.1) c)).2 (List.mem_of_getElem? e)
  have e1 : t.defs.map (fun d => fnWAt K (dAd K d)) = t.defs.map (fun d => d.d.val) := congrArg (fun z : AlL => z.2.1) c
  have e2 : (t.defs.map (fun d => fnWAt K (dAd K d)))[f]? = (t.defs.map (fun d => d.d.val))[f]? := by rw [e1]
  rw [List.getElem?_map, List.getElem?_map, e] at e2
  exact funD_at (Option.some.inj e2) c2
theorem SaysL.x (c : SaysL P t K) {x : XL} (hx : x ∈ t.xl) : fnX K x.d.at_ = xval x.d := by
  have e1 : t.xl.map (fun x => fnX K x.d.at_) = t.xl.map (fun x => xval x.d) := congrArg (fun z : AlL => z.2.2) c
  obtain ⟨i, hi⟩ := List.getElem?_of_mem hx
  have e2 : (t.xl.map (fun x => fnX K x.d.at_))[i]? = (t.xl.map (fun x => xval x.d))[i]? := by rw [e1]
  rw [List.getElem?_map, List.getElem?_map, hi] at e2
  exact Option.some.inj e2
theorem fnF (st : t.stB P = true) (c : SaysL P t K) (f : Nat) (d : FD) (e : (t.ctx P w K mg base).T.fn f = some d) : FnF (t.ctx P w K mg base) (t.pd K) t.gn f d := by
  have e1 : (t.defs[f]?).map (·.fd) = some d := e
  obtain ⟨dl, e2, rfl⟩ := Option.map_eq_some_iff.mp e1
  obtain ⟨s1, s2⟩ := ba st
  obtain ⟨s2, s3⟩ := ba s2
  have q := allM s2 (List.mem_of_getElem? e2)
  obtain ⟨q1, q⟩ := ba q
  obtain ⟨q2, q⟩ := ba q
  obtain ⟨q4, q⟩ := ba q
  obtain ⟨q5, q⟩ := ba q
  obtain ⟨q6, q7⟩ := ba q
  obtain ⟨fd, F⟩ := c.d e2
  obtain ⟨ea, ek⟩ := argsK_ok q1
  have ed : dl.d.dvs K = [] := by
    unfold He.DefD.dvs
    rw [List.isEmpty_iff.mp q2]
    rfl
  have efa : t.fa K f = dAd K dl := by unfold TD.fa; rw [e2]
  have eps : t.ps f = dl.ps := by unfold TD.ps DL.ps; rw [e2]
  have ekn : t.gn.kn f = dl.kn := by show (t.defs[f]?).bind DL.kn = _; rw [e2]; rfl
  have ekd : t.gn.kd f = dl.kd := by show ((t.defs[f]?).map DL.kd).getD false = _; rw [e2]; rfl
  rw [ed] at F
  have F2 := F
  obtain ⟨oc, od, dV, kV, doc, pm, an, cdv, ct, osl, rfl, lkf, hcd, hD, hK⟩ := F.ex
  have efd : t.fdt K f = PySem.W.fnOf dl.d.name dl.d.qual dl.d.params dl.d.body dl.d.scope dV kV doc pm an cdv ct := by unfold TD.fdt; rw [efa, lkf]
  refine ⟨dl.d.name, dl.d.qual, dl.d.params.args, dl.d.params.kwonlyargs, dl.d.params.kw_defaults, dl.d.kws K, dl.d.body, dl.d.scope, dl.N, ?_, eps, ?_, ?_, of_decide_eq_true q6, q7, ?_⟩
  · show FunD K _ _ _ _ _ _ _ (t.fa K f) (t.fdt K f)
    rw [efa, efd, ← ea]
    exact F2
  · show FnScope dl.N (t.ps f) _
    rw [eps]
    exact C8.fnScope_by q4
  · show (t.ps f).length = _
    rw [eps]
    exact of_decide_eq_true q5
  · show (t.gn.kn f = none ∧ _) ∨ ∃ ka, _ ∧ t.gn.kn f = _ ∧ (t.gn.kd f = true → _)
    rw [ekn, ekd]
    rcases ek with ⟨k1, k2⟩ | ⟨ka, k1, k2⟩
    · exact .inl ⟨by unfold DL.kn; rw [k1], k1, k2⟩
    · refine .inr ⟨ka, k1, by unfold DL.kn; rw [k1], fun hd => ?_⟩
      unfold DL.kd at hd
      split at hd
      · rename_i x ex
        unfold He.DefD.kws
        rw [ex, k2 x ex]
        rfl
      · cases hd
theorem facts (X : K.In h) (G : h.Ns mainGlobals mg) (st : t.stB P = true) (c : SaysL P t K) : Fx (t.ctx P w K mg base) (t.pd K) ∧ Fe (t.ctx P w K mg base) ∧ Gx (t.ctx P w K mg base) (t.pd K) t.gn ∧ Fi (t.ctx P w K mg base) ∧ Fk (t.ctx P w K mg base) (t.pd K) := by
  obtain ⟨s1, s2⟩ := ba st
  obtain ⟨s2, s3⟩ := ba s2
  have k := c.k
  obtain ⟨kcl, k⟩ := ba k
  obtain ⟨kfn, k⟩ := ba k
  obtain ⟨kfr, k⟩ := ba k
  obtain ⟨kfo, k⟩ := ba k
  obtain ⟨kgc, k⟩ := ba k
  obtain ⟨kco, k⟩ := ba k
  obtain ⟨kme, k⟩ := ba k
  obtain ⟨kin, k⟩ := ba k
  obtain ⟨kx0, k⟩ := ba k
  obtain ⟨kxp, k⟩ := ba k
  obtain ⟨kxc, k⟩ := ba k
  obtain ⟨kxl, k⟩ := ba k
  obtain ⟨koc, k⟩ := ba k
  obtain ⟨kop, k⟩ := ba k
  obtain ⟨ko5, ko6⟩ := ba k
  refine ⟨⟨fun i j e => TD.nm_inj s1 e, fun cc f e => ?_, fun cc f w e => ?_, fun cc m f hm e => ?_, fun cc f e => ?_, fun f d e hk => (fnF st c f d e).binds hk, fun f d e => (fnF st c f d e).pl⟩,
    ⟨fun cc e => ?_, fun cc f e => ?_, fun a b ea eb => ?_, fun a b ea eb => ?_, fun a ea => ?_, fun a ea => ?_, fun cc f e => ?_⟩, ⟨fun _ => rfl, fun f e => ?_, fun cc e => ?_, fun x hx => ?_, fun _ => rfl, fun _ => rfl, fun i x e => ?_⟩,
    ⟨fun cc e => ?_, fun a b ea eb => ?_, fun a n ea hn => ?_, fun a n ea hn => ?_, fun cc f w e => ?_⟩,
    ⟨fun f d x e hk => (fnF st c f d e).bk hk, fun f d x e hk hd => (fnF st c f d e).bd hk hd, fun cc m f hm e => ?_, fun cc f e => ?_⟩⟩
  · have q := allM kfo (mem_of_contains e)
    obtain ⟨q1, q2⟩ := ba q
    exact ⟨He.cls_ok q1, He.noat_ok q2⟩
  · have q := allM kco (lk2_mem e)
    obtain ⟨q1, q2⟩ := ba q
    obtain ⟨⟨v, u, C, ev⟩, _⟩ := conB_ok K q2
    exact ⟨He.cls_ok q1, v, u, C, vW_ok ev⟩
  · have q := allM kme (lk2_mem e)
    obtain ⟨q1, q⟩ := ba q
    obtain ⟨q4, q⟩ := ba q
    obtain ⟨q5, q⟩ := ba q
    unfold methB at q
    rw [if_pos hm] at q
    obtain ⟨q2, q3⟩ := ba q
    refine ⟨He.cls_ok q1, ?_, of_decide_eq_true q5, fn_some q4⟩
    show Meth K (t.ca K cc) (t.nm m) (t.fa K f)
    rw [of_decide_eq_true q3]
    exact He.meth_ok q2
  · have q := allM kin (lk1_mem e)
    obtain ⟨q2, q⟩ := ba q
    obtain ⟨q3, q4⟩ := ba q
    refine ⟨?_, fn_some q4⟩
    show Mk K (t.ca K cc) (t.fa K f)
    rw [of_decide_eq_true q3]
    exact He.mkr_ok q2
  · exact He.exc_ok (allM kx0 (mem_of_contains e))
  · obtain ⟨x, hx, ex⟩ := List.any_eq_true.mp (show (t.xl.any fun x => x.c == cc && x.f == f) = true from e)
    obtain ⟨e1, e2⟩ := ba ex
    obtain rfl : x.c = cc := by simpa using e1
    obtain rfl : x.f = f := by simpa using e2
    exact sup_ok (c.x hx) (allM s3 hx) (ba (allM kxl hx)).1
  · exact of_decide_eq_true (ba (allM (allM kxp (mem_of_contains ea)) (mem_of_contains eb))).1
  · exact of_decide_eq_true (ba (allM (allM kxp (mem_of_contains ea)) (mem_of_contains eb))).2
  · exact of_decide_eq_true (ba (allM kxc (mem_of_contains ea))).2
  · exact excB_ok K (ba (allM kxc (mem_of_contains ea))).1
  · obtain ⟨x, hx, ex⟩ := List.any_eq_true.mp (show (t.xl.any fun x => x.c == cc && x.f == f) = true from e)
    obtain ⟨e1, e2⟩ := ba ex
    obtain rfl : x.c = cc := by simpa using e1
    obtain rfl : x.f = f := by simpa using e2
    obtain ⟨q1, q2⟩ := ba (allM kxl hx)
    refine ⟨xfB_ok q2, ?_⟩
    have q := (ba q1).2
    have q := (ba q).2
    have q := (ba q).2
    have q := (ba q).2
    have q := (ba q).2
    have q := (ba q).2
    have q := (ba q).2
    exact He.eqO_ok (ba q).2
  · have e1 : (match t.defs[f]? with
      | some d => d.isG
      | none => false) = true := e
    cases q : t.defs[f]? with
    | none => rw [q] at e1; cases e1
    | some d =>
      rw [q] at e1
      have g : d.isG = true := e1
      have z := allM kfn (List.mem_of_getElem? q)
      rw [g] at z
      have z2 : gloB K d.d.at_.1 = true := by simpa using z
      obtain ⟨fd, F⟩ := c.d q
      have efa : t.fa K f = dAd K d := by unfold TD.fa; rw [q]
      have ega : dAd K d = He.ga K d.d.at_.1 := isG_ad g
      refine ⟨⟨d.fd, by show (t.defs[f]?).map (·.fd) = _; rw [q]; rfl⟩, ?_, ?_⟩
      · show mg (match t.defs[f]? with
          | some d => d.d.at_.1
          | none => ⟨#[]⟩) = some (.ref (t.fa K f))
        rw [q, efa, ega]
        exact He.glo_ok X G z2
      · show PySem.W.keepIn K (.ref (t.fa K f)) = true
        rw [efa]
        exact F.kp
  · have hl : cc < t.cls.length := of_decide_eq_true e
    have ecl : t.cl cc = t.cls[cc] := by unfold TD.cl; rw [List.getElem?_eq_getElem hl]; rfl
    have z := allM kcl (List.getElem_mem hl)
    show mg (t.cl cc) = some (.ref (He.ga K (t.cl cc)))
    rw [ecl]
    exact He.glo_ok X G z
  · exact He.free_ok X G (allM kfr hx)
  · have e' : (t.gc[i]?).map (·.1) = some x := e
    obtain ⟨p, e1, rfl⟩ := Option.map_eq_some_iff.mp e'
    obtain ⟨v, u, h1, h2, h3⟩ := gcB_ok K (Γ := t.ctx P w K mg base) X G rfl (allM kgc (List.mem_of_getElem? e1))
    exact ⟨p.2, v, u, by show (t.gc[i]?).map (·.2) = _; rw [e1]; rfl, h1, h2, h3⟩
  · have q := allM koc (mem_of_contains e)
    obtain ⟨q1, q⟩ := ba q
    obtain ⟨q2, q⟩ := ba q
    obtain ⟨q3, q⟩ := ba q
    obtain ⟨q4, q5⟩ := ba q
    exact ⟨He.cls_ok q1, He.eqO_ok q2, He.eqO_ok q3, of_decide_eq_true q4, of_decide_eq_true q5⟩
  · exact of_decide_eq_true (allM (allM kop (mem_of_contains ea)) (mem_of_contains eb))
  · exact of_decide_eq_true (allM (allM ko5 (mem_of_contains ea)) hn)
  · exact of_decide_eq_true (allM (allM ko6 (mem_of_contains ea)) hn)
  · have q := allM kco (lk2_mem e)
    obtain ⟨q1, q2⟩ := ba q
    obtain ⟨_, v, u, C1, C2, ev⟩ := conB_ok K q2
    exact ⟨_, v, u, C1, C2, vW_ok ev⟩
  · have q := allM kme (lk2_mem e)
    obtain ⟨q1, q⟩ := ba q
    obtain ⟨q4, q⟩ := ba q
    obtain ⟨q5, q⟩ := ba q
    unfold methB at q
    rw [show ((cc, m + 1000), f).1.2 = m + 1000 from rfl, if_neg (show ¬ m + 1000 < 1000 by omega), if_neg (show ¬ m + 1000 = 5000 by omega), Nat.add_sub_cancel] at q
    obtain ⟨q2, q⟩ := ba q
    obtain ⟨q3, q⟩ := ba q
    obtain ⟨q6, q7⟩ := ba q
    refine ⟨He.cls_ok q1, ⟨He.ma K (t.ca K cc) (t.nm m), He.eqO_ok q2, He.eqO_ok q3, of_decide_eq_true q6, ?_⟩, of_decide_eq_true q5, fn_some q4⟩
    split at q7
    · rename_i g rest eg
      refine ⟨rest, ?_⟩
      show PySem.W.recIn K _ "property" = some (.ref (t.fa K f) :: rest)
      rw [eg, of_decide_eq_true q7]
    · cases q7
  · have q := allM kme (lk2_mem e)
    obtain ⟨q1, q⟩ := ba q
    obtain ⟨q4, q⟩ := ba q
    obtain ⟨q5, q⟩ := ba q
    unfold methB at q
    rw [show ((cc, 5000), f).1.2 = 5000 from rfl, if_neg (show ¬ 5000 < 1000 by omega), if_pos rfl] at q
    obtain ⟨q2, q⟩ := ba q
    obtain ⟨q3, q6⟩ := ba q
    refine ⟨He.cls_ok q1, ?_, q6, of_decide_eq_true q5, fn_some q4⟩
    show Meth K (t.ca K cc) "__call__" (t.fa K f)
    rw [of_decide_eq_true q3]
    exact He.meth_ok q2
/-- what the law's def is asked for -/
def spL (K : PySem.W.Frag) (n : Nat) : Sp := fun vs H Q E => ∃ (a : Addr) (ns : List Int), vs = [.ref a] ∧ ns.length ≤ n ∧ SqL K H a (ns.map V.int) ∧ ∀ H', Q (.bl true) H'
end
section
variable {l : PySem.W.OpenLaw} {t : TD} {n m N i : Nat} {q : Program} {loose : List Str} {XP : (Str → Option Value) → Heap → Prop} {d : DefRec} {dl : DL} {x : Str}
theorem walk_end (hn : l.most = some n) (hn2 : n ≤ sizeLine) (hdf : d.params.defaults = []) (st : t.stB l.prog = true) (hi : t.defs[i]? = some dl) (hg : dl.isG = true) (hk0 : dl.kn = none) (hd : d.name = dl.d.at_.1) (hx : dl.ps = [x]) (hm : Room (2 * m) callerA)
    (hc : ∀ ns : List Int, ns.length ≤ n → ∃ s, (callF t.tab m).1 i [.scr ns] [] = .ok (.bl true) s) :
    PySem.W.WalkO q loose XP (hookL l.prog t N).says l.row.toRowW d [] (fun f vs => PySem.call f vs) := by
  refine L2.walk_ofE (n := n) (k := 2 * m) (x := x) (CX := fun o H s E e s' => ∃ w, L2.CX l.prog w o H s E e s') hn hn2 hdf hm ?_ ?_
  · intro w mg fa h Y G hmg
    obtain ⟨K, KX, c⟩ := Y
    have e0 : t.tab.fn i = some dl.fd := by show (t.defs[i]?).map (·.fd) = _; rw [hi]; rfl
    have efa : t.fa K i = fa := by
      have e1 : t.fa K i = He.ga K dl.d.at_.1 := by
        unfold TD.fa
        rw [hi]
        exact isG_ad hg
      have z := allM (ba (ba c.k).2).1 (List.mem_of_getElem? hi)
      rw [hg] at z
      have z2 : gloB K dl.d.at_.1 = true := by simpa using z
      have z3 := He.glo_ok KX G z2
      rw [← hd, hmg] at z3
      rw [e1, ← hd]
      cases z3
      rfl
    have eps : t.ps i = [x] := by rw [← hx]; unfold TD.ps DL.ps; rw [hi]
    refine ⟨K, t.fdt K i, spL K n, KX, ?_, fun H a ns hl _ hS => ⟨a, ns, rfl, hl, hS, fun _ => rfl⟩, fun base KB GB => ?_⟩
    · intro s u
      have F0 := fnF (P := l.prog) (w := w) (mg := mg) (base := s.heap) st c i dl.fd e0
      have ekn : (t.pd K).kn i = dl.kn := by show (t.defs[i]?).bind DL.kn = _; rw [hi]; rfl
      obtain ⟨name, qual, as, kas, kds, kws, body, scope, N, F, e, S, np, ns, ck, kk⟩ := F0.ex
      have nd := FnF.nd S
      have e2 : (t.pd K).ps i = [x] := eps
      rw [e2] at e nd
      rcases kk with ⟨_, rfl, rfl⟩ | ⟨ka, rfl, hkn, _⟩
      · rw [List.map_nil, List.append_nil] at e
        have b := FunD.bindsA (ps := [x]) F (fun kV doc pm an cdv ct us hl => by rw [e] at hl nd ⊢; exact bind_plain rfl rfl nd hl) s [u] rfl
        exact b
      · rw [ekn, hk0] at hkn; cases hkn
    · obtain ⟨fx, fe, gx, fi, fk⟩ := facts (P := l.prog) (w := w) (base := base) KB GB st c
      have L := (lv_all fx fe gx fi fk (fun f d e => fnF st c f d e) m).fn i dl.fd e0
      have L : FnOk l.prog w K mg base (L2.CX l.prog w) (2 * m) (t.fa K i) (t.fdt K i) (t.ps i) (spF (t.ctx l.prog w K mg base) ((callF t.tab m).1 i)) := L
      rw [efa, eps] at L
      refine FnOk.imp (sp := spF (t.ctx l.prog w K mg base) ((callF t.tab m).1 i)) ⟨L.len, fun A outer s H args us vs Q E hr he hb hv hs => codeAny_mono (L.run A outer s H args us vs Q E hr he hb hv hs) fun r s' h => ?_⟩ ?_
      · cases r with
        | error e => exact ⟨w, h⟩
        | ok f => cases f <;> exact h
      · rintro vs H Q E ⟨a, ns, rfl, hl, hS, hQ⟩
        refine ⟨⟨H, fun _ => 0, []⟩, [.scr ns], ⟨fun _ _ z => z, fun n c z => ?_, fun n m z => ?_⟩, ⟨.ref a, [], rfl, ⟨a, rfl, hS⟩, rfl⟩, ?_⟩
        · cases z
        · obtain ⟨c, z, _⟩ := z
          cases z
        · obtain ⟨s1, e1⟩ := hc ns hl
          show RP _ _ _ _ _ ((callF t.tab m).1 i [.scr ns] []) _
          rw [e1]
          intro S' H' _ _ _ v rv
          obtain rfl : v = .bl true := rv
          exact hQ H'
  · rintro H s e s' ⟨w, a, B, H', cls, dd, _, _, _, _, _, _, _, z⟩
    exact z
end
end LI
end
section
set_option Elab.async false
set_option linter.all false
set_option maxRecDepth 100000
set_option maxHeartbeats 4000000
/-! LiWp: what a run of the small language must give: rules that go from the front. -/
namespace LI
open PySem
def WP {α : Type} (r : R α) (Q : α → Sto → Prop) (X : Xn → Sto → Prop) : Prop := match r with
  | .ok a s => Q a s
  | .ex x s => X x s
  | .no => False
def WS (r : RS) (Q : O → LI.Env → Sto → Prop) (X : Xn → LI.Env → Sto → Prop) : Prop := match r with
  | .ok o e s => Q o e s
  | .ex x e s => X x e s
  | .no => False
section
variable {α β : Type} {T : Tab} {cf : Call} {ci : CallI} {env : LI.Env} {s : Sto} {Q : W → Sto → Prop} {X : Xn → Sto → Prop} {QS : O → LI.Env → Sto → Prop} {XS : Xn → LI.Env → Sto → Prop} {m : Bool}
theorem WP_ok {a : α} {Q : α → Sto → Prop} : WP (.ok a s) Q X = Q a s := rfl
theorem WP_ex {x : Xn} {Q : α → Sto → Prop} : WP (.ex x s) Q X = X x s := rfl
theorem WP_bind {r : R α} {f : α → Sto → R β} {Q : β → Sto → Prop} : WP (r.bind f) Q X = WP r (fun a s1 => WP (f a s1) Q X) X := by cases r <;> rfl
theorem WS_ok {o : O} : WS (.ok o env s) QS XS = QS o env s := rfl
theorem WS_ex {x : Xn} : WS (.ex x env s) QS XS = XS x env s := rfl
theorem WS_stm {r : R α} {f : α → Sto → RS} : WS (r.stm env f) QS XS = WP r (fun a s1 => WS (f a s1) QS XS) (fun x s1 => XS x env s1) := by cases r <;> rfl
def nxt (f : LI.Env → Sto → RS) (QS : O → LI.Env → Sto → Prop) (XS : Xn → LI.Env → Sto → Prop) : O → LI.Env → Sto → Prop := fun o e s => match o with
  | .nx => WS (f e s) QS XS
  | o => QS o e s
theorem WS_next {r : RS} {f : LI.Env → Sto → RS} : WS (r.next f) QS XS = WS r (nxt f QS XS) XS := by
  cases r with
  | ok o e s => cases o <;> rfl
  | _ => rfl
theorem nxt_nx {f : LI.Env → Sto → RS} : nxt f QS XS .nx env s = WS (f env s) QS XS := rfl
theorem nxt_rt {f : LI.Env → Sto → RS} {w : W} : nxt f QS XS (.rt w) env s = QS (.rt w) env s := rfl
theorem nxt_bk {f : LI.Env → Sto → RS} : nxt f QS XS .bk env s = QS .bk env s := rfl
theorem nxt_ct {f : LI.Env → Sto → RS} : nxt f QS XS .ct env s = QS .ct env s := rfl
/-! ### expressions -/
def tB (Q : W → Sto → Prop) (X : Xn → Sto → Prop) : W → Sto → Prop := fun x s => WP (retO ((tru s x).map W.bl) s) Q X
theorem tB_bl {b : Bool} : tB Q X (.bl b) s = Q (.bl b) s := rfl
theorem tB_non : tB Q X .non s = Q (.bl false) s := rfl
theorem WP_tst {r : R W} : WP (tst true r) Q X = WP r (tB Q X) X := by cases r <;> rfl
theorem WP_tstF {r : R W} : WP (tst false r) Q X = WP r Q X := rfl
def slV (o : Option Sl) (s : Sto) : R W := match o with
  | some (.v w) => .ok w s
  | _ => .no
def slO (o : Option Sl) (s : Sto) : R W := match o with
  | some (.own xs) => .ok (.lst xs) s
  | _ => .no
theorem slV_v {w : W} : slV (some (.v w)) s = .ok w s := rfl
theorem slO_own {xs : List W} : slO (some (.own xs)) s = .ok (.lst xs) s := rfl
theorem WP_var {i : Nat} : WP (ev T cf ci (.var i) false env s) Q X = WP (slV env[i]? s) Q X := rfl
theorem WP_own {i : Nat} : WP (ev T cf ci (.own i) false env s) Q X = WP (slO env[i]? s) Q X := rfl
theorem WP_non : WP (ev T cf ci .non false env s) Q X = Q .non s := rfl
theorem WP_bl {b : Bool} : WP (ev T cf ci (.bl b) false env s) Q X = Q (.bl b) s := rfl
theorem WP_int {i : Int} : WP (ev T cf ci (.int i) false env s) Q X = Q (.int i) s := rfl
theorem WP_str {x : Str} : WP (ev T cf ci (.str x) false env s) Q X = Q (.str x) s := rfl
theorem WP_bin {op : BO} {a b : Ex} : WP (ev T cf ci (.bin op a b) false env s) Q X = WP (ev T cf ci a false env s) (fun x s1 => WP (ev T cf ci b false env s1) (fun y s2 => WP (evBin op (drf s2 x) (drf s2 y) s2) Q X) X) X := by
  show WP (R.bind _ _) Q X = _
  rw [WP_bind]
  congr 1
  funext x s1
  exact WP_bind
theorem WP_neg {a : Ex} : WP (ev T cf ci (.neg a) false env s) Q X = WP (ev T cf ci a false env s) (fun x s1 => WP (negI x s1) Q X) X := WP_bind
theorem WP_cmp {op : CO} {a b : Ex} : WP (ev T cf ci (.cmp op a b) false env s) Q X = WP (ev T cf ci a false env s) (fun x s1 => WP (ev T cf ci b false env s1) (fun y s2 => WP (retO ((evCmp op x y s2).map W.bl) s2) Q X) X) X := by
  show WP (R.bind _ _) Q X = _
  rw [WP_bind]
  congr 1
  funext x s1
  exact WP_bind
theorem WP_isN {a : Ex} : WP (ev T cf ci (.isN a) false env s) Q X = WP (ev T cf ci a false env s) (fun x s1 => Q (.bl (isNon x)) s1) X := WP_bind
theorem WP_notN {a : Ex} : WP (ev T cf ci (.notN a) false env s) Q X = WP (ev T cf ci a false env s) (fun x s1 => Q (.bl (!isNon x)) s1) X := WP_bind
theorem WP_ix {a b : Ex} : WP (ev T cf ci (.ix a b) false env s) Q X = WP (ev T cf ci a false env s) (fun x s1 => WP (ev T cf ci b false env s1) (fun y s2 => WP (evIx x y s2) Q X) X) X := by
  show WP (R.bind _ _) Q X = _
  rw [WP_bind]
  congr 1
  funext x s1
  exact WP_bind
def chK (Q : W → Sto → Prop) (X : Xn → Sto → Prop) (o : Option Bool) (s : Sto) (k : Sto → Prop) : Prop := match o with
  | some true => k s
  | some false => Q (.bl false) s
  | none => False
theorem WP_chain {op op' : CO} {a b c : Ex} : WP (ev T cf ci (.chain op op' a b c) false env s) Q X = WP (ev T cf ci a false env s) (fun x s1 => WP (ev T cf ci b false env s1) (fun y s2 =>
    chK Q X (evCmp op x y s2) s2 fun s2 => WP (ev T cf ci c false env s2) (fun z s3 => WP (retO ((evCmp op' y z s3).map W.bl) s3) Q X) X) X) X := by
  show WP (R.bind _ _) Q X = _
  rw [WP_bind]
  congr 1
  funext x s1
  rw [WP_bind]
  congr 1
  funext y s2
  cases evCmp op x y s2 with
  | none => rfl
  | some k =>
    cases k with
    | false => rfl
    | true => exact WP_bind
def notF (Q : W → Sto → Prop) (X : Xn → Sto → Prop) : W → Sto → Prop := fun x s => WP (retO ((tru s x).map fun b => W.bl (!b)) s) Q X
def notT (Q : W → Sto → Prop) : W → Sto → Prop := fun x s => match x with
  | .bl b => Q (.bl (!b)) s
  | _ => False
theorem WP_not {a : Ex} : WP (ev T cf ci (.not a) false env s) Q X = WP (ev T cf ci a false env s) (notF Q X) X := WP_bind
theorem WPt_not {a : Ex} : WP (ev T cf ci (.not a) true env s) Q X = WP (ev T cf ci a true env s) (notT Q) X := by
  show WP (R.bind _ _) Q X = _
  rw [WP_bind]
  congr 1
  funext x s1
  cases x <;> rfl
theorem notT_bl {b : Bool} : notT Q (.bl b) s = Q (.bl (!b)) s := rfl
theorem notF_bl {b : Bool} : notF Q X (.bl b) s = Q (.bl (!b)) s := rfl
/-- by a bool: go on, or end -/
def brK (x : W) (A B : Prop) : Prop := match x with
  | .bl b => (b = true → A) ∧ (b = false → B)
  | _ => False
theorem WP_ifB {x : W} {a b : Sto → R W} : WP (ifB x s a b) Q X = brK x (WP (a s) Q X) (WP (b s) Q X) := by
  cases x with
  | bl k => cases k <;> simp [ifB, brK]
  | _ => rfl
theorem WP_and {a b : Ex} : WP (ev T cf ci (.and a b) m env s) Q X = WP (ev T cf ci a m env s) (fun x s1 => brK x (WP (ev T cf ci b m env s1) Q X) (Q (.bl false) s1)) X := by
  show WP (R.bind _ _) Q X = _
  rw [WP_bind]
  congr 1
  funext x s1
  exact WP_ifB
theorem WP_or {a b : Ex} : WP (ev T cf ci (.or a b) m env s) Q X = WP (ev T cf ci a m env s) (fun x s1 => brK x (Q (.bl true) s1) (WP (ev T cf ci b m env s1) Q X)) X := by
  show WP (R.bind _ _) Q X = _
  rw [WP_bind]
  congr 1
  funext x s1
  exact WP_ifB
theorem WP_ite {c a b : Ex} : WP (ev T cf ci (.ite c a b) false env s) Q X = WP (ev T cf ci c true env s) (fun x s1 => brK x (WP (ev T cf ci a false env s1) Q X) (WP (ev T cf ci b false env s1) Q X)) X := by
  show WP (R.bind _ _) Q X = _
  rw [WP_bind]
  congr 1
  funext x s1
  exact WP_ifB
theorem brK_bl {b : Bool} {A B : Prop} (h1 : b = true → A) (h2 : b = false → B) : brK (.bl b) A B := ⟨h1, h2⟩
/-! ### lists of expressions -/
theorem WP_nil {Q : List W → Sto → Prop} : WP (evEs T cf ci .nil env s) Q X = Q [] s := rfl
theorem WP_cons {e : Ex} {es : Exs} {Q : List W → Sto → Prop} : WP (evEs T cf ci (.cons e es) env s) Q X = WP (ev T cf ci e false env s) (fun x s1 => WP (evEs T cf ci es env s1) (fun xs s2 => Q (x :: xs) s2) X) X := by
  show WP (R.bind _ _) Q X = _
  rw [WP_bind]
  congr 1
  funext x s1
  exact WP_bind
theorem WP_lst {es : Exs} : WP (ev T cf ci (.lst es) false env s) Q X = WP (evEs T cf ci es env s) (fun ws s1 => WP (vLst ws s1) Q X) X := WP_bind
theorem WP_tup {es : Exs} : WP (ev T cf ci (.tup es) false env s) Q X = WP (evEs T cf ci es env s) (fun ws s1 => WP (vTup ws s1) Q X) X := WP_bind
theorem WP_call {f : Nat} {es : Exs} : WP (ev T cf ci (.call f es) false env s) Q X = WP (evEs T cf ci es env s) (fun ws s1 => WP (cf f ws s1) Q X) X := WP_bind
theorem WP_bi {b : Bi} {es : Exs} : WP (ev T cf ci (.bi b es) false env s) Q X = WP (evEs T cf ci es env s) (fun ws s1 => WP (evBi b ws s1) Q X) X := WP_bind
theorem WP_isi {a : Ex} {ts : List Ty} : WP (ev T cf ci (.isi a ts) false env s) Q X = WP (ev T cf ci a false env s) (fun x s1 => WP (retO ((isTys T s1 x ts).map W.bl) s1) Q X) X := WP_bind
theorem WP_mk {c : Nat} {es : Exs} : WP (ev T cf ci (.mk c es) false env s) Q X = WP (evEs T cf ci es env s) (fun ws s1 => WP (vMk T ci c ws s1) Q X) X := WP_bind
theorem WP_mkC {c : Nat} {es : Exs} : WP (ev T cf ci (.mkC c es) false env s) Q X = WP (evEs T cf ci es env s) (fun ws s1 => WP (vMkC T cf c ws s1) Q X) X := WP_bind
theorem WP_fld {a : Ex} {f : Nat} : WP (ev T cf ci (.fld a f) false env s) Q X = WP (ev T cf ci a false env s) (fun x s1 => WP (evFld T x f s1) Q X) X := WP_bind
theorem WP_slf {f : Nat} : WP (ev T cf ci (.slf f) false env s) Q X = WP (vSlf T env f s) Q X := rfl
theorem WP_con {c f : Nat} : WP (ev T cf ci (.con c f) false env s) Q X = WP (retO (T.con c f) s) Q X := rfl
theorem WP_xfld {i f : Nat} : WP (ev T cf ci (.xfld i f) false env s) Q X = WP (vXfld T env i f s) Q X := rfl
theorem WP_xisi {i : Nat} {ts : List Ty} : WP (ev T cf ci (.xisi i ts) false env s) Q X = WP (vXisi T env i ts s) Q X := rfl
theorem WP_cell {e : Ex} : WP (ev T cf ci (.cell e) false env s) Q X = WP (ev T cf ci e false env s) (fun x s1 => WP (vCell x s1) Q X) X := WP_bind
theorem WP_rev {a : Ex} : WP (ev T cf ci (.rev a) false env s) Q X = WP (ev T cf ci a false env s) (fun x s1 => WP (evRev (drf s1 x) s1) Q X) X := WP_bind
def mK (o : Option Nat) (k : Nat → Prop) : Prop := match o with
  | some f => k f
  | none => False
theorem mK_some {f : Nat} {k : Nat → Prop} : mK (some f) k = k f := rfl
theorem WP_meth {n : Nat} {o : Ex} {es : Exs} : WP (ev T cf ci (.meth n o es) false env s) Q X = WP (ev T cf ci o false env s) (fun x s1 => mK (vMeth T s1 x n) fun f => WP (evEs T cf ci es env s1) (fun ws s2 => WP (cf f (x :: ws) s2) Q X) X) X := by
  show WP (R.bind _ _) Q X = _
  rw [WP_bind]
  congr 1
  funext x s1
  cases vMeth T s1 x n with
  | none => rfl
  | some f => exact WP_bind
def bndV (T : Tab) (cf : Call) (ci : CallI) (e : Ex) (env : LI.Env) (s : Sto) : R (Option Int) := if isNonE e then .ok none s else (ev T cf ci e false env s).bind toInt
theorem WP_bndN {Q : Option Int → Sto → Prop} : WP (bndV T cf ci .non env s) Q X = Q none s := rfl
def intK (Q : Option Int → Sto → Prop) : W → Sto → Prop := fun x s => match x with
  | .int i => Q (some i) s
  | _ => False
theorem intK_int {Q : Option Int → Sto → Prop} {i : Int} : intK Q (.int i) s = Q (some i) s := rfl
theorem WP_bnd {Q : Option Int → Sto → Prop} {e : Ex} (h : isNonE e = false) : WP (bndV T cf ci e env s) Q X = WP (ev T cf ci e false env s) (intK Q) X := by
  unfold bndV
  rw [h, if_neg (by decide), WP_bind]
  congr 1
  funext x s1
  cases x <;> rfl
theorem WP_sl {a lo hi : Ex} : WP (ev T cf ci (.sl a lo hi) false env s) Q X = WP (ev T cf ci a false env s) (fun x s1 => WP (bndV T cf ci lo env s1) (fun l s2 => WP (bndV T cf ci hi env s2) (fun h s3 => WP (evSl (drf s3 x) l h s3) Q X) X) X) X := by
  show WP (R.bind _ _) Q X = _
  rw [WP_bind]
  congr 1
  funext x s1
  rw [WP_bind]
  congr 1
  funext l s2
  exact WP_bind
/-! ### statements -/
abbrev xS (XS : Xn → LI.Env → Sto → Prop) (env : LI.Env) : Xn → Sto → Prop := fun x s1 => XS x env s1
theorem WS_nil : WS (exSs T cf ci .nil env s) QS XS = QS .nx env s := rfl
theorem WS_cons {a : St} {r : Sts} : WS (exSs T cf ci (.cons a r) env s) QS XS = WS (exS T cf ci a env s) (nxt (fun e s => exSs T cf ci r e s) QS XS) XS := WS_next
theorem WS_expr {e : Ex} : WS (exS T cf ci (.expr e) env s) QS XS = WP (ev T cf ci e false env s) (fun _ s1 => QS .nx env s1) (xS XS env) := WS_stm
theorem WS_set {i : Nat} {e : Ex} : WS (exS T cf ci (.set i e) env s) QS XS = WP (ev T cf ci e false env s) (fun x s1 => QS .nx (env.set i (.v x)) s1) (xS XS env) := WS_stm
def ownK (i : Nat) (env : LI.Env) (QS : O → LI.Env → Sto → Prop) : W → Sto → Prop := fun x s1 => match x with
  | .lst xs => QS .nx (env.set i (.own xs)) s1
  | _ => False
theorem ownK_lst {i : Nat} {xs : List W} : ownK i env QS (.lst xs) s = QS .nx (env.set i (.own xs)) s := rfl
theorem WS_setOwn {i : Nat} {e : Ex} : WS (exS T cf ci (.setOwn i e) env s) QS XS = WP (ev T cf ci e false env s) (ownK i env QS) (xS XS env) := by
  show WS (R.stm _ _ _) QS XS = _
  rw [WS_stm]
  congr 1
  funext x s1
  cases x <;> rfl
def frzK (i : Nat) (env : LI.Env) (s : Sto) (QS : O → LI.Env → Sto → Prop) (o : Option Sl) : Prop := match o with
  | some (.own xs) => QS .nx (env.set i (.v (.lst xs))) s
  | _ => False
theorem frzK_own {i : Nat} {xs : List W} : frzK i env s QS (some (.own xs)) = QS .nx (env.set i (.v (.lst xs))) s := rfl
theorem WS_frz {i : Nat} : WS (exS T cf ci (.frz i) env s) QS XS = frzK i env s QS env[i]? := by
  show WS (match env[i]? with | some (.own xs) => _ | _ => _) QS XS = _
  cases env[i]? with
  | none => rfl
  | some x => cases x <;> rfl
theorem WS_ret {e : Ex} : WS (exS T cf ci (.ret e) env s) QS XS = WP (ev T cf ci e false env s) (fun x s1 => QS (.rt x) env s1) (xS XS env) := WS_stm
theorem WS_retN : WS (exS T cf ci .retN env s) QS XS = QS (.rt .non) env s := rfl
theorem WS_pass : WS (exS T cf ci .pass env s) QS XS = QS .nx env s := rfl
theorem WS_brk : WS (exS T cf ci .brk env s) QS XS = QS .bk env s := rfl
theorem WS_cnt : WS (exS T cf ci .cnt env s) QS XS = QS .ct env s := rfl
theorem WS_ife {c : Ex} {a b : Sts} : WS (exS T cf ci (.ife c a b) env s) QS XS = WP (ev T cf ci c true env s) (fun x s1 => brK x (WS (exSs T cf ci a env s1) QS XS) (WS (exSs T cf ci b env s1) QS XS)) (xS XS env) := by
  show WS (R.stm (evT T cf ci c env s) _ _) QS XS = _
  rw [WS_stm]
  show WP (R.bind _ _) _ _ = _
  rw [WP_bind]
  congr 1
  funext x s1
  cases x with
  | bl k => cases k <;> simp [toB, WP, brK]
  | _ => rfl
def appK (i : Nat) (env : LI.Env) (QS : O → LI.Env → Sto → Prop) (o : Option Sl) (x : W) (s1 : Sto) : Prop := match o with
  | some (.own xs) => okN (xs.length + 1) = true ∧ QS .nx (env.set i (.own (xs ++ [x]))) s1
  | _ => False
def ownG (o : Option Sl) (P : Prop) : Prop := match o with
  | some (.own _) => P
  | _ => False
theorem ownG_own {xs : List W} {P : Prop} : ownG (some (.own xs)) P = P := rfl
theorem appK_own {i : Nat} {xs : List W} {x : W} : appK i env QS (some (.own xs)) x s = (okN (xs.length + 1) = true ∧ QS .nx (env.set i (.own (xs ++ [x]))) s) := rfl
theorem WS_app {i : Nat} {e : Ex} : WS (exS T cf ci (.app i e) env s) QS XS = ownG env[i]? (WP (ev T cf ci e false env s) (fun x s1 => appK i env QS env[i]? x s1) (xS XS env)) := by
  show WS (match env[i]? with | some (.own _) => _ | _ => _) QS XS = _
  cases q : env[i]? with
  | none => rfl
  | some y =>
    cases y with
    | own xs =>
      show WS (R.stm _ _ _) QS XS = _
      rw [WS_stm]
      show _ = WP _ _ _
      congr 1
      funext x s1
      show WS (if _ then _ else _) QS XS = (_ ∧ _)
      by_cases h : okN (xs.length + 1) = true
      · rw [if_pos h]
        exact propext ⟨fun z => ⟨h, z⟩, fun z => z.2⟩
      · rw [if_neg h]
        exact propext ⟨fun z => z.elim, fun z => h z.1⟩
    | _ => rfl
def setK (i : Nat) (env : LI.Env) (QS : O → LI.Env → Sto → Prop) (xs : List W) (x : W) : W → Sto → Prop := fun y s2 => match y with
  | .int j => (match ixN xs.length j with
    | some n => QS .nx (env.set i (.own (xs.set n x))) s2
    | none => False)
  | _ => False
def ownX (o : Option Sl) (P : List W → Prop) : Prop := match o with
  | some (.own xs) => P xs
  | _ => False
theorem ownX_own {xs : List W} {P : List W → Prop} : ownX (some (.own xs)) P = P xs := rfl
theorem WS_setIx {i : Nat} {k e : Ex} : WS (exS T cf ci (.setIx i k e) env s) QS XS = WP (ev T cf ci e false env s) (fun x s1 => ownX env[i]? fun xs => WP (ev T cf ci k false env s1) (setK i env QS xs x) (xS XS env)) (xS XS env) := by
  show WS (R.stm _ _ _) QS XS = _
  rw [WS_stm]
  congr 1
  funext x s1
  cases q : env[i]? with
  | none => rfl
  | some y =>
    cases y with
    | own xs =>
      show WS (R.stm _ _ _) QS XS = WP _ _ _
      rw [WS_stm]
      congr 1
      funext y s2
      cases y with
      | int j => unfold setK; dsimp only; cases ixN xs.length j <;> rfl
      | _ => rfl
    | _ => rfl
def augK (i : Nat) (env : LI.Env) (op : BO) (a : Int) (QS : O → LI.Env → Sto → Prop) : W → Sto → Prop := fun x s1 => match op, x with
  | .add, .int b => QS .nx (env.set i (.v (.int (a + b)))) s1
  | .sub, .int b => QS .nx (env.set i (.v (.int (a - b)))) s1
  | _, _ => False
def intX (o : Option Sl) (P : Int → Prop) : Prop := match o with
  | some (.v (.int a)) => P a
  | _ => False
theorem intX_int {a : Int} {P : Int → Prop} : intX (some (.v (.int a))) P = P a := rfl
theorem augK_add {i : Nat} {a b : Int} : augK i env .add a QS (.int b) s = QS .nx (env.set i (.v (.int (a + b)))) s := rfl
theorem augK_sub {i : Nat} {a b : Int} : augK i env .sub a QS (.int b) s = QS .nx (env.set i (.v (.int (a - b)))) s := rfl
theorem WS_aug {i : Nat} {op : BO} {e : Ex} : WS (exS T cf ci (.aug i op e) env s) QS XS = intX env[i]? fun a => WP (ev T cf ci e false env s) (augK i env op a QS) (xS XS env) := by
  show WS (match env[i]? with | some (.v (.int a)) => _ | _ => _) QS XS = _
  cases q : env[i]? with
  | none => rfl
  | some y =>
    cases y with
    | v w =>
      cases w with
      | int a =>
        show WS (R.stm _ _ _) QS XS = WP _ _ _
        rw [WS_stm]
        congr 1
        funext x s1
        cases op <;> cases x <;> rfl
      | _ => rfl
    | _ => rfl
end
end LI
end
section
set_option Elab.async false
set_option linter.all false
set_option maxRecDepth 100000
set_option maxHeartbeats 4000000
/-! LiVc: what has to be shown of a run, as a Prop that unfolds by itself; sound for the interpreter. -/
namespace LV
open PySem LI
abbrev PQ := W → Sto → Prop
abbrev PX := Xn → Sto → Prop
abbrev SQ := O → LI.Env → Sto → Prop
abbrev SX := Xn → LI.Env → Sto → Prop
theorem WP_mono {α : Type} {r : R α} {Q Q' : α → Sto → Prop} {X X' : PX} (h : WP r Q X) (hq : ∀ a s, Q a s → Q' a s) (hx : ∀ x s, X x s → X' x s) : WP r Q' X' := by
  cases r with
  | ok a s => exact hq _ _ h
  | ex x s => exact hx _ _ h
  | no => exact h
theorem WP_f {α : Type} {r : R α} {Q : α → Sto → Prop} {X : PX} (h : WP r Q (fun _ _ => False)) : WP r Q X := WP_mono h (fun _ _ z => z) (fun _ _ z => z.elim)
/-- a call, a loop: not looked into -/
structure CALL {α : Type} (r : R α) (Q : α → Sto → Prop) (X : PX) : Prop where
  e : WP r Q X
theorem CALL_e {α : Type} {r : R α} {Q : α → Sto → Prop} {X : PX} (h : CALL r Q X) : WP r Q X := h.e
theorem CALL_i {α : Type} {r : R α} {Q : α → Sto → Prop} {X : PX} (h : WP r Q X) : CALL r Q X := ⟨h⟩
structure LOOP (r : RS) (Q : O → LI.Env → Sto → Prop) (X : Xn → LI.Env → Sto → Prop) : Prop where
  e : WS r Q X
theorem LOOP_e {r : RS} {Q : O → LI.Env → Sto → Prop} {X : Xn → LI.Env → Sto → Prop} (h : LOOP r Q X) : WS r Q X := h.e
theorem LOOP_i {r : RS} {Q : O → LI.Env → Sto → Prop} {X : Xn → LI.Env → Sto → Prop} (h : WS r Q X) : LOOP r Q X := ⟨h⟩
theorem WS_mono {r : RS} {Q Q' : SQ} {X X' : SX} (h : WS r Q X) (hq : ∀ a e s, Q a e s → Q' a e s) (hx : ∀ x e s, X x e s → X' x e s) : WS r Q' X' := by
  cases r with
  | ok a e s => exact hq _ _ _ h
  | ex x e s => exact hx _ _ _ h
  | no => exact h
/-! ### looks -/
/-- (the Nat keeps it folded where it is stuck) -/
def oK' {α : Type} : Nat → Option α → (α → Prop) → Prop
  | _ + 1, some a, k => k a
  | n + 1, none, k => oK' n none k
  | 0, _, _ => False
abbrev oK {α : Type} (o : Option α) (k : α → Prop) : Prop := oK' 1 o k
theorem oK_i {α : Type} {o : Option α} {a : α} {k : α → Prop} (h : o = some a) (hk : k a) : oK o k := by subst h; exact hk
theorem oK_e {α : Type} {o : Option α} {k : α → Prop} (h : oK o k) : ∃ a, o = some a ∧ k a := by
  cases o with
  | none => exact h.elim
  | some a => exact ⟨a, rfl, h⟩
def iteK (P A B : Prop) : Prop := (P → A) ∧ (¬P → B)
def boolK (b : Bool) (A B : Prop) : Prop := match b with
  | true => A
  | false => B
theorem boolK_i {b : Bool} {A B : Prop} (h1 : b = true → A) (h2 : b = false → B) : boolK b A B := by
  cases b
  · exact h2 rfl
  · exact h1 rfl
def bK (x : W) (A B : Prop) : Prop := match x with
  | .bl b => boolK b A B
  | _ => False
def eK : LI.Env → Nat → (Sl → Prop) → Prop
  | [], _, _ => False
  | x :: _, 0, k => k x
  | _ :: r, n + 1, k => eK r n k
theorem eK_e {k : Sl → Prop} : ∀ {env : LI.Env} {i : Nat}, eK env i k → ∃ x, env[i]? = some x ∧ k x
  | [], _, h => h.elim
  | x :: _, 0, h => ⟨x, rfl, h⟩
  | _ :: r, n + 1, h => by
    obtain ⟨x, e, h⟩ := eK_e (env := r) (i := n) h
    exact ⟨x, by simpa using e, h⟩
def vK (x : Sl) (k : W → Prop) : Prop := match x with
  | .v w => k w
  | _ => False
def owK (x : Sl) (k : List W → Prop) : Prop := match x with
  | .own xs => k xs
  | _ => False
def celL (s : Sto) (n : Nat) : Option (List W) := match s[n]? with
  | some (.lst xs) => some xs
  | _ => none
def celO (s : Sto) (n : Nat) : Option (Nat × List Nat × List W) := match s[n]? with
  | some (.obj c ks fs) => some (c, ks, fs)
  | _ => none
def seqK' : Nat → Sto → W → (List W → Prop) → Prop
  | _ + 1, _, .lst xs, k => k xs
  | _ + 1, _, .tup xs, k => k xs
  | _ + 1, s, .cell n, k => oK (celL s n) k
  | n + 1, s, .non, k => seqK' n s .non k
  | _, _, _, _ => False
abbrev seqK (s : Sto) (x : W) (k : List W → Prop) : Prop := seqK' 1 s x k
theorem seqK_e {s : Sto} {x : W} {k : List W → Prop} (h : seqK s x k) : ∃ xs, seqOf s x = some xs ∧ k xs := by
  cases x with
  | lst xs => exact ⟨xs, rfl, h⟩
  | tup xs => exact ⟨xs, rfl, h⟩
  | cell n =>
    obtain ⟨xs, e, h⟩ := oK_e h
    refine ⟨xs, ?_, h⟩
    show (match s[n]? with | some (.lst xs) => some xs | _ => none) = _
    exact e
  | _ => exact h.elim
theorem seqK_i {s : Sto} {x : W} {xs : List W} {k : List W → Prop} (h : seqOf s x = some xs) (hk : k xs) : seqK s x k := by
  cases x with
  | lst xs => cases h; exact hk
  | tup xs => cases h; exact hk
  | cell n => exact oK_i (h : celL s n = some xs) hk
  | _ => cases h
def lstK (s : Sto) (x : W) (k : List W → Prop) : Prop := match x with
  | .lst xs => k xs
  | .cell n => oK (celL s n) k
  | _ => False
theorem lstK_e {s : Sto} {x : W} {k : List W → Prop} (h : lstK s x k) : ∃ xs, lstOf s x = some xs ∧ k xs := by
  cases x with
  | lst xs => exact ⟨xs, rfl, h⟩
  | cell n =>
    obtain ⟨xs, e, h⟩ := oK_e h
    exact ⟨xs, e, h⟩
  | _ => exact h.elim
def truK' : Nat → Sto → W → Prop → Prop → Prop
  | _ + 1, s, .non, A, B => B
  | _ + 1, s, .bl b, A, B => boolK b A B
  | _ + 1, s, .int i, A, B => iteK (i ≠ 0) A B
  | n + 1, s, .ty _, A, B => truK' n s .non A B
  | 0, _, _, _, _ => False
  | _ + 1, s, w, A, B => oK (tru s w) fun b => boolK b A B
abbrev truK (s : Sto) (x : W) (A B : Prop) : Prop := truK' 1 s x A B
theorem truK_e {s : Sto} {x : W} {A B : Prop} (h : truK s x A B) : ∃ b, tru s x = some b ∧ boolK b A B := by
  cases x with
  | non => exact ⟨false, rfl, h⟩
  | bl b => exact ⟨b, rfl, h⟩
  | int i =>
    refine ⟨i != 0, rfl, ?_⟩
    by_cases q : i = 0
    · subst q; exact h.2 (fun z => z rfl)
    · have : (i != 0) = true := by simp [q]
      rw [this]; exact h.1 q
  | _ => exact oK_e h
def tK (m : Bool) (s : Sto) (x : W) (Q : PQ) : Prop := match m with
  | false => Q x s
  | true => truK s x (Q (.bl true) s) (Q (.bl false) s)
theorem tK_s {m : Bool} {r : R W} {Q : PQ} {X : PX} (h : WP r (fun x s => tK m s x Q) X) : WP (tst m r) Q X := by
  cases m with
  | false => exact h
  | true =>
    rw [WP_tst]
    refine WP_mono h (fun x s z => ?_) (fun _ _ z => z)
    obtain ⟨b, e, z⟩ := truK_e z
    unfold tB
    rw [e]
    cases b <;> exact z
def nonK' : Nat → Bool → Bool → W → Sto → PQ → Prop
  | 0, _, _, _, _, _ => False
  | _ + 1, false, neg, x, s, Q => Q (.bl (xor neg (isNon x))) s
  | _ + 1, true, neg, .non, s, Q => Q (.bl (!neg)) s
  | _ + 1, true, neg, .int _, s, Q => Q (.bl neg) s
  | _ + 1, true, neg, .lst _, s, Q => Q (.bl neg) s
  | _ + 1, true, neg, .tup _, s, Q => Q (.bl neg) s
  | _ + 1, true, neg, .cell _, s, Q => Q (.bl neg) s
  | _ + 1, true, neg, .obj _ _ _, s, Q => Q (.bl neg) s
  | _ + 1, true, neg, .str _, s, Q => Q (.bl neg) s
  | _ + 1, true, neg, .bl _, s, Q => Q (.bl neg) s
  | n + 1, true, neg, .dct _ _, s, Q => Q (.bl neg) s ∨ nonK' n true neg .non s Q
  | _ + 1, true, neg, w, s, Q => boolK (isNon w) (Q (.bl (!neg)) s) (Q (.bl neg) s)
abbrev nonK (m : Bool) (neg : Bool) (x : W) (s : Sto) (Q : PQ) : Prop := nonK' 1 m neg x s Q
theorem nonK_i {neg : Bool} {x : W} {s : Sto} {Q : PQ} (h : boolK (isNon x) (Q (.bl (!neg)) s) (Q (.bl neg) s)) : nonK true neg x s Q := by
  cases x <;> first | exact h | exact Or.inl h
theorem nonK_e {m neg : Bool} {x : W} {s : Sto} {Q : PQ} (h : nonK m neg x s Q) : Q (.bl (xor neg (isNon x))) s := by
  cases m with
  | false => exact h
  | true =>
    cases x with
    | dct a b => rcases h with h | h
                 · cases neg <;> exact h
                 · exact h.elim
    | cls c => cases neg <;> exact h
    | ty n => cases neg <;> exact h
    | scr xs => cases neg <;> exact h
    | _ => cases neg <;> exact h
def notK (x : W) (s : Sto) (Q : PQ) : Prop := match x with
  | .bl b => Q (.bl (!b)) s
  | _ => False
/-- is there something -/
def dinK (neg : Bool) (o : Option W) (A B : Prop) : Prop := match neg with
  | true => boolK o.isSome B A
  | false => boolK o.isSome A B
/-- comparisons -/
def cmpT : Nat → CO → W → W → Sto → PQ → Prop
  | 0, _, _, _, _, _ => False
  | _ + 1, .lt, .int i, .int j, s, Q => iteK (i < j) (Q (.bl true) s) (Q (.bl false) s)
  | _ + 1, .le, .int i, .int j, s, Q => iteK (i ≤ j) (Q (.bl true) s) (Q (.bl false) s)
  | _ + 1, .gt, .int i, .int j, s, Q => iteK (j < i) (Q (.bl true) s) (Q (.bl false) s)
  | _ + 1, .ge, .int i, .int j, s, Q => iteK (j ≤ i) (Q (.bl true) s) (Q (.bl false) s)
  | _ + 1, .eq, .int i, .int j, s, Q => iteK (i = j) (Q (.bl true) s) (Q (.bl false) s)
  | _ + 1, .ne, .int i, .int j, s, Q => iteK (i = j) (Q (.bl false) s) (Q (.bl true) s)
  | n + 1, .lt, .dct _ _, _, s, Q => cmpT n .lt .non .non s Q
  | _ + 1, op, x, y, s, Q => oK (evCmp op x y s) fun b => boolK b (Q (.bl true) s) (Q (.bl false) s)
def cmpK (m : Bool) (op : CO) (x y : W) (s : Sto) (Q : PQ) : Prop := match m with
  | false => oK (evCmp op x y s) fun b => Q (.bl b) s
  | true => cmpT 1 op x y s Q
theorem boolK_Q {b : Bool} {s : Sto} {Q : PQ} (h : boolK b (Q (.bl true) s) (Q (.bl false) s)) : Q (.bl b) s := by cases b <;> exact h
theorem iteK_d {P : Prop} [d : Decidable P] {s : Sto} {Q : PQ} (h : iteK P (Q (.bl true) s) (Q (.bl false) s)) : Q (.bl (decide P)) s := by
  by_cases p : P
  · rw [decide_eq_true p]; exact h.1 p
  · rw [decide_eq_false p]; exact h.2 p
theorem cmpK_i {op : CO} {x y : W} {s : Sto} {Q : PQ} {b : Bool} (h : evCmp op x y s = some b) (hq : boolK b (Q (.bl true) s) (Q (.bl false) s)) : cmpT 1 op x y s Q := by
  have g : oK (evCmp op x y s) fun b => boolK b (Q (.bl true) s) (Q (.bl false) s) := oK_i h hq
  have key : ∀ (P : Prop) [Decidable P] (A B : Prop), boolK (decide P) A B → iteK P A B := by
    intro P _ A B hb
    refine ⟨fun p => ?_, fun p => ?_⟩
    · rw [decide_eq_true p] at hb; exact hb
    · rw [decide_eq_false p] at hb; exact hb
  cases op <;> cases x <;> first | exact g | (exfalso; obtain ⟨_, e, _⟩ := oK_e g; cases e; done) | (cases y <;> first | exact g | skip)
  · rename_i i j
    refine key (i = j) _ _ ?_
    have e : evCmp .eq (.int i) (.int j) s = some (decide (i = j)) := by
      show some (i == j) = _
      rfl
    rw [e] at g; exact g
  · rename_i i j
    have e : evCmp .ne (.int i) (.int j) s = some (!decide (i = j)) := rfl
    rw [e] at g
    refine ⟨fun p => ?_, fun p => ?_⟩
    · rw [decide_eq_true p] at g; exact g
    · rw [decide_eq_false p] at g; exact g
  · exact key _ _ _ g
  · exact key _ _ _ g
  · exact key _ _ _ g
  · exact key _ _ _ g
theorem cmpK_e {m : Bool} {op : CO} {x y : W} {s : Sto} {Q : PQ} (h : cmpK m op x y s Q) : ∃ b, evCmp op x y s = some b ∧ Q (.bl b) s := by
  cases m with
  | false => exact oK_e h
  | true =>
    have gen : (oK (evCmp op x y s) fun b => boolK b (Q (.bl true) s) (Q (.bl false) s)) → ∃ b, evCmp op x y s = some b ∧ Q (.bl b) s := by
      intro h
      obtain ⟨b, e, h⟩ := oK_e h
      exact ⟨b, e, boolK_Q h⟩
    cases op <;> cases x <;> first | exact gen h | (cases y <;> first | exact gen h | skip)
    · rename_i i j
      exact ⟨decide (i = j), rfl, iteK_d h⟩
    · rename_i i j
      refine ⟨!decide (i = j), rfl, ?_⟩
      by_cases p : i = j
      · rw [decide_eq_true p]; exact h.1 p
      · rw [decide_eq_false p]; exact h.2 p
    · exact ⟨_, rfl, iteK_d h⟩
    · exact ⟨_, rfl, iteK_d h⟩
    · exact ⟨_, rfl, iteK_d h⟩
    · exact ⟨_, rfl, iteK_d h⟩
/-- one operand as it is looked at by an operator -/
def drfK' : Nat → Sto → W → (W → Prop) → Prop
  | 0, _, _, _ => False
  | _ + 1, s, .int i, k => k (.int i)
  | _ + 1, s, .lst xs, k => k (.lst xs)
  | _ + 1, s, .tup xs, k => k (.tup xs)
  | _ + 1, s, .cell n, k => k (drf s (.cell n))
  | _ + 1, s, .str z, k => k (.str z)
  | n + 1, s, .dct _ _, k => drfK' n s .non k
  | _ + 1, s, w, k => k (drf s w)
abbrev drfK (s : Sto) (x : W) (k : W → Prop) : Prop := drfK' 1 s x k
theorem drfK_e {s : Sto} {x : W} {k : W → Prop} (h : drfK s x k) : k (drf s x) := by cases x <;> first | exact h | exact h.elim
theorem drfK_i {s : Sto} {x : W} {k : W → Prop} (hd : ∀ a b, x ≠ .dct a b) (h : k (drf s x)) : drfK s x k := by cases x <;> first | exact h | exact (hd _ _ rfl).elim
def binK (op : BO) (x y : W) (s : Sto) (Q : PQ) : Prop := match op, x, y with
  | .add, .int i, .int j => Q (.int (i + j)) s
  | .sub, .int i, .int j => Q (.int (i - j)) s
  | .mul, .int i, .int j => mulOk i j = true ∧ Q (.int (i * j)) s
  | .mod, .int i, .int j => 0 < j ∧ Q (.int (i % j)) s
  | .fdiv, .int i, .int j => (0 < j ∧ j < 1073741824) ∧ Q (.int (i / j)) s
  | .mul, .lst xs, .int k => (k < 2 ^ 62 ∧ -(2 ^ 62) < k ∧ okN (xs.length * k.toNat)) ∧ Q (.lst (List.replicate k.toNat xs).flatten) s
  | .mul, .str z, .int k => ((k < 2 ^ 62 ∧ -(2 ^ 62) < k) ∧ okN (z.length * k.toNat)) ∧ Q (.str (strRep z k.toNat)) s
  | .add, .lst xs, .lst ys => okN (xs.length + ys.length) = true ∧ Q (.lst (xs ++ ys)) s
  | .add, .tup xs, .tup ys => okN (xs.length + ys.length) = true ∧ Q (.tup (xs ++ ys)) s
  | op, x, y => WP (evBin op x y s) Q (fun _ _ => False)
theorem binK_e {op : BO} {x y : W} {s : Sto} {Q : PQ} {X : PX} (h : binK op x y s Q) : WP (evBin op x y s) Q X := by
  have gen : WP (evBin op x y s) Q (fun _ _ => False) → WP (evBin op x y s) Q X := fun z => WP_mono z (fun _ _ z => z) (fun _ _ z => z.elim)
  cases op <;> cases x <;> first | exact gen h | (cases y <;> first | exact gen h | exact h | skip)
  · show WP (if _ then _ else _) Q X; rw [if_pos h.1]; exact h.2
  · show WP (if _ then _ else _) Q X; rw [if_pos h.1]; exact h.2
  · show WP (if _ then _ else _) Q X; rw [if_pos h.1]; exact h.2
  · show WP (if _ then _ else _) Q X; rw [if_pos h.1]; exact h.2
  · show WP (if _ then _ else _) Q X; rw [if_pos h.1]; exact h.2
  · show WP (if _ then _ else _) Q X; rw [if_pos h.1]; exact h.2
  · show WP (if _ then _ else _) Q X; rw [if_pos h.1]; exact h.2
def ixK' : Nat → W → W → Sto → PQ → Prop
  | _ + 1, .lst xs, .int i, s, Q => oK (atI xs i) (Q · s)
  | _ + 1, .tup xs, .int i, s, Q => oK (atI xs i) (Q · s)
  | _ + 1, .cell n, .int i, s, Q => oK (celL s n) fun xs => oK (atI xs i) (Q · s)
  | _ + 1, .scr ns, .int i, s, Q => oK (atI ns i) fun a => Q (.int a) s
  | _ + 1, .str z, .int i, s, Q => WP (evIx (.str z) (.int i) s) Q (fun _ _ => False)
  | n + 1, .non, y, s, Q => ixK' n .non y s Q
  | _, _, _, _, _ => False
abbrev ixK (x y : W) (s : Sto) (Q : PQ) : Prop := ixK' 1 x y s Q
theorem ixK_e {x y : W} {s : Sto} {Q : PQ} {X : PX} (h : ixK x y s Q) : WP (evIx x y s) Q X := by
  cases y with
  | int i =>
    cases x with
    | lst xs =>
      obtain ⟨w, e, h⟩ := oK_e h
      show WP (retO (atI xs i) s) Q X
      rw [e]; exact h
    | tup xs =>
      obtain ⟨w, e, h⟩ := oK_e h
      show WP (retO (atI xs i) s) Q X
      rw [e]; exact h
    | cell n =>
      obtain ⟨xs, e0, h⟩ := oK_e h
      obtain ⟨w, e, h⟩ := oK_e h
      have e1 : seqOf s (.cell n) = some xs := e0
      show WP (retO ((seqOf s (.cell n)).bind fun xs => atI xs i) s) Q X
      rw [e1]
      show WP (retO (atI xs i) s) Q X
      rw [e]; exact h
    | scr ns =>
      obtain ⟨w, e, h⟩ := oK_e h
      show WP (retO ((atI ns i).map W.int) s) Q X
      rw [e]; exact h
    | str z => exact WP_f (r := evIx _ (.int i) s) h
    | _ => exact h.elim
  | _ => cases x <;> exact h.elim
theorem ixK_i {x : W} {xs : List W} {i : Int} {w : W} {s : Sto} {Q : PQ} (hx : seqOf s x = some xs) (h : atI xs i = some w) (hq : Q w s) : ixK x (.int i) s Q := by
  cases x with
  | lst ys => cases hx; exact oK_i h hq
  | tup ys => cases hx; exact oK_i h hq
  | cell n => exact oK_i (hx : celL s n = some xs) (oK_i h hq)
  | _ => cases hx
/-! ### built-ins -/
def lenK' : Nat → W → Sto → PQ → Prop
  | _ + 1, .lst xs, s, Q => Q (.int xs.length) s
  | _ + 1, .tup xs, s, Q => Q (.int xs.length) s
  | _ + 1, .cell n, s, Q => oK (celL s n) fun xs => Q (.int xs.length) s
  | _ + 1, .scr xs, s, Q => Q (.int xs.length) s
  | _ + 1, .str x, s, Q => okN x.length = true ∧ Q (.int x.length) s
  | n + 1, .non, s, Q => lenK' n .non s Q
  | _, _, _, _ => False
abbrev lenK (w : W) (s : Sto) (Q : PQ) : Prop := lenK' 1 w s Q
def absK (w : W) (s : Sto) (Q : PQ) : Prop := match w with
  | .int i => Q (.int (if i < 0 then -i else i)) s
  | _ => False
def intK1 (w : W) (s : Sto) (Q : PQ) : Prop := match w with
  | .int i => Q (.int i) s
  | .bl k => Q (.int (if k then 1 else 0)) s
  | _ => False
def m2K (mx : Bool) (x y : W) (s : Sto) (Q : PQ) : Prop := match x, y with
  | .int i, .int j => Q (.int (if mx then (if j > i then j else i) else (if j < i then j else i))) s
  | _, _ => False
def biK (b : Bi) (ws : List W) (s : Sto) (Q : PQ) : Prop := match b, ws with
  | .len, [w] => lenK w s Q
  | .abs, [w] => absK w s Q
  | .int, [w] => intK1 w s Q
  | .max2, [x, y] => m2K true x y s Q
  | .min2, [x, y] => m2K false x y s Q
  | .any, [w] => lstK s w fun xs => oK (blsOf xs) fun bs => Q (.bl (bs.any id)) s
  | .all, [w] => lstK s w fun xs => oK (blsOf xs) fun bs => Q (.bl (bs.all id)) s
  | .list, [w] => seqK s w fun xs => Q (.lst xs) s
  | .tuple, [w] => seqK s w fun xs => Q (.tup xs) s
  | b, ws => WP (evBi b ws s) Q (fun _ _ => False)
theorem lenK_i {w : W} {xs : List W} {s : Sto} {Q : PQ} (h : seqOf s w = some xs) (hq : Q (.int xs.length) s) : lenK w s Q := by
  cases w with
  | lst ys => cases h; exact hq
  | tup ys => cases h; exact hq
  | cell n => exact oK_i (h : celL s n = some xs) hq
  | _ => cases h
theorem biK_e {b : Bi} {ws : List W} {s : Sto} {Q : PQ} {X : PX} (h : biK b ws s Q) : WP (evBi b ws s) Q X := by
  have gen : WP (evBi b ws s) Q (fun _ _ => False) → WP (evBi b ws s) Q X := fun z => WP_mono z (fun _ _ z => z) (fun _ _ z => z.elim)
  match b, ws, h, gen with
  | .len, [w], h, gen =>
    cases w with
    | lst xs => exact h
    | tup xs => exact h
    | cell n =>
      obtain ⟨xs, e, h⟩ := oK_e h
      show WP (retO ((seqOf s (.cell n)).map fun xs => .int xs.length) s) Q X
      rw [show seqOf s (.cell n) = some xs from e]; exact h
    | scr xs => exact h
    | str x =>
      show WP (if _ then _ else _) Q X
      rw [if_pos h.1]; exact h.2
    | _ => exact h.elim
  | .len, [], h, gen => exact gen h
  | .len, _ :: _ :: _, h, gen => exact gen h
  | .abs, [w], h, gen => cases w <;> first | exact h | exact h.elim
  | .abs, [], h, gen => exact gen h
  | .abs, _ :: _ :: _, h, gen => exact gen h
  | .int, [w], h, gen => cases w <;> first | exact h | exact h.elim
  | .int, [], h, gen => exact gen h
  | .int, _ :: _ :: _, h, gen => exact gen h
  | .max2, [x, y], h, gen => cases x <;> first | exact h.elim | (cases y <;> first | exact h.elim | exact h)
  | .max2, [], h, gen => exact gen h
  | .max2, [_], h, gen => exact gen h
  | .max2, _ :: _ :: _ :: _, h, gen => exact gen h
  | .min2, [x, y], h, gen => cases x <;> first | exact h.elim | (cases y <;> first | exact h.elim | exact h)
  | .min2, [], h, gen => exact gen h
  | .min2, [_], h, gen => exact gen h
  | .min2, _ :: _ :: _ :: _, h, gen => exact gen h
  | .any, [w], h, gen =>
    obtain ⟨xs, e, h⟩ := lstK_e h
    obtain ⟨bs, e2, h⟩ := oK_e h
    show WP (retO (((lstOf s w).bind blsOf).map fun bs => .bl (bs.any id)) s) Q X
    rw [e]
    show WP (retO ((blsOf xs).map fun bs => .bl (bs.any id)) s) Q X
    rw [e2]; exact h
  | .any, [], h, gen => exact gen h
  | .any, _ :: _ :: _, h, gen => exact gen h
  | .all, [w], h, gen =>
    obtain ⟨xs, e, h⟩ := lstK_e h
    obtain ⟨bs, e2, h⟩ := oK_e h
    show WP (retO (((lstOf s w).bind blsOf).map fun bs => .bl (bs.all id)) s) Q X
    rw [e]
    show WP (retO ((blsOf xs).map fun bs => .bl (bs.all id)) s) Q X
    rw [e2]; exact h
  | .all, [], h, gen => exact gen h
  | .all, _ :: _ :: _, h, gen => exact gen h
  | .list, [w], h, gen =>
    obtain ⟨xs, e, h⟩ := seqK_e h
    show WP (retO ((seqOf s w).map .lst) s) Q X
    rw [e]; exact h
  | .list, [], h, gen => exact gen h
  | .list, _ :: _ :: _, h, gen => exact gen h
  | .tuple, [w], h, gen =>
    obtain ⟨xs, e, h⟩ := seqK_e h
    show WP (retO ((seqOf s w).map .tup) s) Q X
    rw [e]; exact h
  | .tuple, [], h, gen => exact gen h
  | .tuple, _ :: _ :: _, h, gen => exact gen h
  | .max1, ws, h, gen => exact gen h
  | .min1, ws, h, gen => exact gen h
  | .maxD, ws, h, gen => exact gen h
  | .minD, ws, h, gen => exact gen h
  | .sum, ws, h, gen => exact gen h
  | .sorted, ws, h, gen => exact gen h
/-! ### expressions -/
def chnK (o : Option Bool) (k : Prop) (f : Prop) : Prop := match o with
  | some true => k
  | some false => f
  | none => False
/-- the first half of a chain -/
def chA (op : CO) (x y : W) (s : Sto) (k f : Prop) : Prop := match op, x, y with
  | .lt, .int i, .int j => iteK (i < j) k f
  | .le, .int i, .int j => iteK (i ≤ j) k f
  | op, x, y => chnK (evCmp op x y s) k f
theorem chA_e {op : CO} {x y : W} {s : Sto} {k f : Prop} (h : chA op x y s k f) : chnK (evCmp op x y s) k f := by
  cases op <;> cases x <;> first | exact h | (cases y <;> first | exact h | skip)
  · rename_i i j
    show chnK (some (decide (i < j))) k f
    by_cases p : i < j
    · rw [decide_eq_true p]; exact h.1 p
    · rw [decide_eq_false p]; exact h.2 p
  · rename_i i j
    show chnK (some (decide (i ≤ j))) k f
    by_cases p : i ≤ j
    · rw [decide_eq_true p]; exact h.1 p
    · rw [decide_eq_false p]; exact h.2 p
def lstX (x : W) (k : List W → Prop) : Prop := match x with
  | .lst xs => k xs
  | _ => False
def revK (x : W) (k : W → Prop) : Prop := match x with
  | .lst xs => k (.lst xs.reverse)
  | .tup xs => k (.tup xs.reverse)
  | _ => False
def intX' (x : W) (k : Int → Prop) : Prop := match x with
  | .int i => k i
  | _ => False
def slK (x : W) (l h : Option Int) (s : Sto) (Q : PQ) : Prop := match x with
  | .lst xs => Q (.lst (cut xs l h)) s
  | .tup xs => Q (.tup (cut xs l h)) s
  | w => WP (evSl w l h s) Q (fun _ _ => False)
theorem slK_e {x : W} {l h : Option Int} {s : Sto} {Q : PQ} {X : PX} (z : slK x l h s Q) : WP (evSl x l h s) Q X := by
  cases x with
  | lst xs => exact z
  | tup xs => exact z
  | _ => exact WP_f (r := evSl _ l h s) z
def objK' : Nat → Sto → W → (Nat → List Nat → List W → Prop) → Prop
  | _ + 1, s, .obj c ks fs, k => k c ks fs
  | _ + 1, s, .cell n, k => oK (celO s n) fun o => k o.1 o.2.1 o.2.2
  | n + 1, s, .non, k => objK' n s .non k
  | _, _, _, _ => False
abbrev objK (s : Sto) (x : W) (k : Nat → List Nat → List W → Prop) : Prop := objK' 1 s x k
theorem objK_e {s : Sto} {x : W} {k : Nat → List Nat → List W → Prop} (h : objK s x k) : ∃ o, objOf s x = some o ∧ k o.1 o.2.1 o.2.2 := by
  cases x with
  | obj c ks fs => exact ⟨(c, ks, fs), rfl, h⟩
  | cell n => exact oK_e h
  | _ => exact h.elim
/-- a comprehension over its items -/
structure cmpL (T : Tab) (cf : Call) (ci : CallI) (t : Tg) (ifs : Exs) (e : Ex) (env : LI.Env) (it : It) (s : Sto) (Q : PQ) (X : PX) : Prop where
  e : WP (compI (fun x s2 => withE (putT env s2 t x) fun env2 =>
      (evIfs T cf ci ifs env2 s2).bind fun b s3 => if b then (ev T cf ci e false env2 s3).bind fun y s4 => .ok (some y) s4 else .ok none s3) T.sz it s) (fun ys s2 => Q (.lst ys) s2) X
def itK' : Nat → Sto → Bool → W → (It → Prop) → Prop
  | _ + 1, s, en, .lst xs, k => k (.lst (if en then enumL 0 xs else xs))
  | _ + 1, s, en, .tup xs, k => k (.lst (if en then enumL 0 xs else xs))
  | _ + 1, s, en, .cell n, k => oK (celL s n) fun _ => k (.cel n en)
  | n + 1, s, en, .non, k => itK' n s en .non k
  | _, _, _, _, _ => False
abbrev itK (s : Sto) (en : Bool) (x : W) (k : It → Prop) : Prop := itK' 1 s en x k
theorem itK_e {s : Sto} {en : Bool} {x : W} {k : It → Prop} (h : itK s en x k) : ∃ it, itOf s en x = some it ∧ k it := by
  cases x with
  | lst xs => exact ⟨_, rfl, h⟩
  | tup xs => exact ⟨_, rfl, h⟩
  | cell n =>
    obtain ⟨xs, e, h⟩ := oK_e h
    refine ⟨_, ?_, h⟩
    unfold celL at e
    show (match s[n]? with | some (.lst _) => some (It.cel n en) | _ => none) = _
    cases q : s[n]? with
    | none => rw [q] at e; cases e
    | some c => rw [q] at e; cases c <;> first | rfl | cases e
  | _ => exact h.elim
structure rngK (a b c : Int) (s : Sto) (k : It → Sto → Prop) : Prop where
  e : (rOk a = true ∧ rOk b = true ∧ okN (rngLen a b c) = true) ∧ boolK (decide (c ≠ 0) && decide (c.natAbs < 1073741824)) (k (.lst (rngC a c (rngLen a b c))) s) False
theorem rngK_e {a b c : Int} {s : Sto} {k : It → Sto → Prop} {X : PX} (h : rngK a b c s k) : WP (evRng a b c s) k X := by
  obtain ⟨⟨⟨h1, h2, h3⟩, h⟩⟩ := h
  unfold evRng
  cases q : (decide (c ≠ 0) && decide (c.natAbs < 1073741824)) with
  | false => rw [q] at h; exact h.elim
  | true =>
    rw [q] at h
    have q2 : decide (c ≠ 0) = true ∧ decide (c.natAbs < 1073741824) = true := by simpa using q
    rw [h1, h2, h3, q2.1, q2.2]
    exact h
/-- max, min with default= -/
def mxK' : Nat → Bool → W → W → Sto → PQ → Prop
  | _ + 1, mn, .lst xs, .int d, s, Q => oK (intsOf xs) fun ns => Q (.int (match ns with
    | [] => d
    | n :: r => if mn then minL n r else maxL n r)) s
  | _ + 1, mn, .tup xs, .int d, s, Q => oK (intsOf xs) fun ns => Q (.int (match ns with
    | [] => d
    | n :: r => if mn then minL n r else maxL n r)) s
  | n + 1, mn, .dct _ _, y, s, Q => mxK' n mn .non y s Q
  | 0, _, _, _, _, _ => False
  | _ + 1, mn, x, y, s, Q => WP (mxD (if mn then minL else maxL) x y s) Q (fun _ _ => False)
abbrev mxK (mn : Bool) (x y : W) (s : Sto) (Q : PQ) : Prop := mxK' 1 mn x y s Q
theorem mxK_e {mn : Bool} {x y : W} {s : Sto} {Q : PQ} {X : PX} (h : mxK mn x y s Q) : WP (mxD (if mn then minL else maxL) x y s) Q X := by
  have key : ∀ (xs : List W) (d : Int), (oK (intsOf xs) fun ns => Q (.int (match ns with
    | [] => d
    | n :: r => if mn then minL n r else maxL n r)) s) → ∀ x, seqOf s x = some xs → WP (mxD (if mn then minL else maxL) x (.int d) s) Q X := by
    intro xs d h x hx
    obtain ⟨ns, e, h⟩ := oK_e h
    unfold mxD biExt
    rw [hx]
    show WP (match intsOf xs with | some (x :: r) => _ | some [] => _ | none => _) Q X
    rw [e]
    cases ns with
    | nil => exact h
    | cons n r => cases mn <;> exact h
  cases x with
  | lst xs => cases y <;> first | exact key xs _ h _ rfl | exact WP_f (r := mxD _ _ _ s) h
  | tup xs => cases y <;> first | exact key xs _ h _ rfl | exact WP_f (r := mxD _ _ _ s) h
  | dct _ _ => exact h.elim
  | _ => exact WP_f (r := mxD _ _ _ s) h
structure rlK (b : Int) (s : Sto) (Q : PQ) : Prop where
  e : (-(2 ^ 61) < b ∧ b ≤ 16777216) ∧ Q (.lst (rngC 0 1 (rngLen 0 b 1))) s
theorem rlK_e {b : Int} {s : Sto} {Q : PQ} {X : PX} (h : rlK b s Q) : WP (rlst (.int b) s) Q X := by
  replace h := h.e
  show WP (if _ then _ else _) Q X
  rw [if_pos (by rw [decide_eq_true h.1.1, decide_eq_true (show b < 2 ^ 61 by omega), decide_eq_true h.1.2]; rfl)]
  exact h.2
mutual
def wp (T : Tab) (cf : Call) (ci : CallI) : Ex → Bool → LI.Env → Sto → PQ → PX → Prop
  | .var i, m, env, s, Q, X => eK env i fun x => vK x fun w => tK m s w Q
  | .own i, m, env, s, Q, X => eK env i fun x => owK x fun xs => tK m s (.lst xs) Q
  | .non, m, env, s, Q, X => tK m s .non Q
  | .bl b, m, env, s, Q, X => Q (.bl b) s
  | .int i, m, env, s, Q, X => tK m s (.int i) Q
  | .str x, m, env, s, Q, X => tK m s (.str x) Q
  | .glob i, m, env, s, Q, X => oK (T.gl i) fun w => tK m s w Q
  | .bin op a b, m, env, s, Q, X => wp T cf ci a false env s (fun x s1 => wp T cf ci b false env s1 (fun y s2 => drfK s2 x fun x => drfK s2 y fun y => binK op x y s2 fun z s3 => tK m s3 z Q) X) X
  | .neg a, m, env, s, Q, X => wp T cf ci a false env s (fun x s1 => intX' x fun i => tK m s1 (.int (-i)) Q) X
  | .cmp op a b, m, env, s, Q, X => wp T cf ci a false env s (fun x s1 => wp T cf ci b false env s1 (fun y s2 => cmpK m op x y s2 Q) X) X
  | .chain op op' a b c, m, env, s, Q, X => wp T cf ci a false env s (fun x s1 => wp T cf ci b false env s1 (fun y s2 =>
      chA op x y s2 (wp T cf ci c false env s2 (fun z s3 => cmpK m op' y z s3 Q) X) (Q (.bl false) s2)) X) X
  | .isN a, m, env, s, Q, X => wp T cf ci a false env s (fun x s1 => nonK m false x s1 Q) X
  | .notN a, m, env, s, Q, X => wp T cf ci a false env s (fun x s1 => nonK m true x s1 Q) X
  | .not a, m, env, s, Q, X => match m with
    | false => wp T cf ci a false env s (fun x s1 => oK (tru s1 x) fun b => Q (.bl (!b)) s1) X
    | true => wp T cf ci a true env s (fun x s1 => notK x s1 Q) X
  | .and a b, m, env, s, Q, X => wp T cf ci a m env s (fun x s1 => bK x (wp T cf ci b m env s1 Q X) (Q (.bl false) s1)) X
  | .or a b, m, env, s, Q, X => wp T cf ci a m env s (fun x s1 => bK x (Q (.bl true) s1) (wp T cf ci b m env s1 Q X)) X
  | .ite c a b, m, env, s, Q, X => wp T cf ci c true env s (fun x s1 => bK x (wp T cf ci a false env s1 (fun y s2 => tK m s2 y Q) X) (wp T cf ci b false env s1 (fun y s2 => tK m s2 y Q) X)) X
  | .ix a b, m, env, s, Q, X => wp T cf ci a false env s (fun x s1 => wp T cf ci b false env s1 (fun y s2 => ixK x y s2 fun z s3 => tK m s3 z Q) X) X
  | .sl a lo hi, m, env, s, Q, X => wp T cf ci a false env s (fun x s1 =>
      (match isNonE lo with
      | true => fun (k : Option Int → Sto → Prop) => k none s1
      | false => fun k => wp T cf ci lo false env s1 (fun y s2 => intX' y fun i => k (some i) s2) X) fun l s2 =>
      (match isNonE hi with
      | true => fun (k : Option Int → Sto → Prop) => k none s2
      | false => fun k => wp T cf ci hi false env s2 (fun y s3 => intX' y fun i => k (some i) s3) X) fun h s3 => drfK s3 x fun x => slK x l h s3 fun z s4 => tK m s4 z Q) X
  | .rev a, m, env, s, Q, X => wp T cf ci a false env s (fun x s1 => drfK s1 x fun x => revK x fun z => tK m s1 z Q) X
  | .lst es, m, env, s, Q, X => wps T cf ci es env s (fun ws s1 => boolK (okN ws.length) (tK m s1 (.lst ws) Q) False) X
  | .tup es, m, env, s, Q, X => wps T cf ci es env s (fun ws s1 => boolK (okN ws.length) (tK m s1 (.tup ws) Q) False) X
  | .call f es, m, env, s, Q, X => wps T cf ci es env s (fun ws s1 => CALL (cf f ws s1) (fun z s2 => tK m s2 z Q) X) X
  | .bi b es, m, env, s, Q, X => wps T cf ci es env s (fun ws s1 => biK b ws s1 fun z s2 => tK m s2 z Q) X
  | .isi a ts, m, env, s, Q, X => wp T cf ci a false env s (fun x s1 => oK (isTys T s1 x ts) fun b => tK m s1 (.bl b) Q) X
  | .mk c es, m, env, s, Q, X => wps T cf ci es env s (fun ws s1 => oK (T.init c) fun f => CALL (ci f c ws s1) (fun o s2 => tK m s2 (.obj c o.1 o.2) Q) X) X
  | .mkC c es, m, env, s, Q, X => wps T cf ci es env s (fun ws s1 => oK (T.init c) fun f => CALL (cf f (.cell s1.length :: ws) (s1 ++ [.obj c [] []])) (fun r s2 => match r with
      | .non => tK m s2 (.cell s1.length) Q
      | _ => False) X) X
  | .meth n o es, m, env, s, Q, X => wp T cf ci o false env s (fun x s1 => oK (vMeth T s1 x n) fun f => wps T cf ci es env s1 (fun ws s2 => CALL (cf f (x :: ws) s2) (fun z s3 => tK m s3 z Q) X) X) X
  | .fld a f, m, env, s, Q, X => wp T cf ci a false env s (fun x s1 => objK s1 x fun c ks fs => oK (fldOf T c ks fs f) fun z => tK m s1 z Q) X
  | .slf f, m, env, s, Q, X => eK env 0 fun x => match x with
      | .self c ks fs => oK (fldOf T c ks fs f) fun z => tK m s z Q
      | _ => False
  | .con c f, m, env, s, Q, X => oK (T.con c f) fun z => tK m s z Q
  | .xfld i f, m, env, s, Q, X => eK env i fun x => match x with
      | .exn c ks fs => boolK (T.x1 c f) (oK (getF ks fs f) fun z => tK m s z Q) False
      | _ => False
  | .xisi i ts, m, env, s, Q, X => eK env i fun x => match x with
      | .exn c _ _ => boolK (T.xc c && ts.all (okXTy T)) (tK m s (.bl (ts.any (isXTy T c))) Q) False
      | _ => False
  | .comp t sr ifs e, m, env, s, Q, X => wpS T cf ci sr env s (fun it s1 => cmpL T cf ci t ifs e env it s1 (fun z s2 => tK m s2 z Q) X) X
  | .cell e, m, env, s, Q, X => wp T cf ci e false env s (fun x s1 => lstX x fun xs => tK m (s1 ++ [.lst xs]) (.cell s1.length) Q) X
  | .mx mn a d, m, env, s, Q, X => wp T cf ci a false env s (fun x s1 => wp T cf ci d false env s1 (fun y s2 => mxK mn x y s2 fun z s3 => tK m s3 z Q) X) X
  | .rl a, m, env, s, Q, X => wp T cf ci a false env s (fun x s1 => intX' x fun b => rlK b s1 fun z s2 => tK m s2 z Q) X
  | .dnew t, m, env, s, Q, X => tK m (s ++ [match t with | true => .dT [] | false => .dK []]) (.cell s.length) Q
  | .dn1 k e, m, env, s, Q, X => wp T cf ci k false env s (fun y s1 => wp T cf ci e false env s1 (fun w s2 => oK (keyT y) fun q => tK m (s2 ++ [.dT [(q, w)]]) (.cell s2.length) Q) X) X
  | .dget d k, m, env, s, Q, X => wp T cf ci d false env s (fun x s1 => wp T cf ci k false env s1 (fun y s2 => oK (dGet s2 x y) fun o => oK o fun z => tK m s2 z Q) X) X
  | .din neg k d, m, env, s, Q, X => wp T cf ci k false env s (fun y s1 => wp T cf ci d false env s1 (fun x s2 => oK (dGet s2 x y) fun o => dinK neg o (tK m s2 (.bl true) Q) (tK m s2 (.bl false) Q)) X) X
  | .dget1 d k, m, env, s, Q, X => wp T cf ci d false env s (fun x s1 => wp T cf ci k false env s1 (fun y s2 => oK (dGet s2 x y) fun o => tK m s2 (o.getD .non) Q) X) X
  | .kcall f es e, m, env, s, Q, X => wps T cf ci es env s (fun ws s1 => wp T cf ci e false env s1 (fun w s2 => CALL (cf f (ws ++ [w]) s2) (fun z s3 => tK m s3 z Q) X) X) X
  | .kmkC c es e, m, env, s, Q, X => wps T cf ci es env s (fun ws s1 => wp T cf ci e false env s1 (fun w s2 => oK (T.init c) fun f => CALL (cf f (.cell s2.length :: (ws ++ [w])) (s2 ++ [.obj c [] []])) (fun r s3 => match r with
      | .non => tK m s3 (.cell s2.length) Q
      | _ => False) X) X) X
  | .prp n o, m, env, s, Q, X => wp T cf ci o false env s (fun x s1 => oK (vMeth T s1 x (n + 1000)) fun f => CALL (cf f [x] s1) (fun z s3 => tK m s3 z Q) (fun _ _ => False)) X
  | .cal o es, m, env, s, Q, X => wp T cf ci o false env s (fun x s1 => match x with
      | .obj c ks fs => wps T cf ci es env s1 (fun ws s2 => oK (vMeth T s2 (.obj c ks fs) 5000) fun f => CALL (cf f (.obj c ks fs :: ws) s2) (fun z s3 => tK m s3 z Q) X) X
      | .cell n => wps T cf ci es env s1 (fun ws s2 => oK (vMeth T s2 (.cell n) 5000) fun f => CALL (cf f (.cell n :: ws) s2) (fun z s3 => tK m s3 z Q) X) X
      | _ => False) X
  | .idx a b, m, env, s, Q, X => wp T cf ci a false env s (fun x s1 => lstK s1 x fun _ => wp T cf ci b false env s1 (fun y s2 => lstK s2 x fun xs => oK (idxO xs y) fun j => tK m s2 (.int (j : Nat)) Q) X) X
def wps (T : Tab) (cf : Call) (ci : CallI) : Exs → LI.Env → Sto → (List W → Sto → Prop) → PX → Prop
  | .nil, env, s, Q, X => Q [] s
  | .cons e es, env, s, Q, X => wp T cf ci e false env s (fun x s1 => wps T cf ci es env s1 (fun xs s2 => Q (x :: xs) s2) X) X
def wpS (T : Tab) (cf : Call) (ci : CallI) : Sr → LI.Env → Sto → (It → Sto → Prop) → PX → Prop
  | .seq e, env, s, Q, X => wp T cf ci e false env s (fun x s1 => itK s1 false x fun it => Q it s1) X
  | .rng1 a, env, s, Q, X => wp T cf ci a false env s (fun x s1 => intX' x fun i => rngK 0 i 1 s1 Q) X
  | .rng2 a b, env, s, Q, X => wp T cf ci a false env s (fun x s1 => wp T cf ci b false env s1 (fun y s2 => intX' x fun i => intX' y fun j => rngK i j 1 s2 Q) X) X
  | .rng3 a b c, env, s, Q, X => wp T cf ci a false env s (fun x s1 => wp T cf ci b false env s1 (fun y s2 => wp T cf ci c false env s2 (fun z s3 => intX' x fun i => intX' y fun j => intX' z fun l => rngK i j l s3 Q) X) X) X
  | .enum e, env, s, Q, X => wp T cf ci e false env s (fun x s1 => itK s1 true x fun it => Q it s1) X
end
/-! ### soundness: expressions -/
section
variable {T : Tab} {cf : Call} {ci : CallI}
theorem WP_b {α β : Type} {r : R α} {f : α → Sto → R β} {s : Sto} {Q : β → Sto → Prop} {X : PX} (h : WP r (fun a s1 => WP (f a s1) Q X) X) : WP (r.bind f) Q X := by rw [WP_bind]; exact h
theorem WP_q {α : Type} {r : R α} {Q Q' : α → Sto → Prop} {X : PX} (h : WP r Q X) (hq : ∀ a s, Q a s → Q' a s) : WP r Q' X := WP_mono h hq fun _ _ z => z
mutual
theorem wp_s : ∀ (e : Ex) (m : Bool) (env : LI.Env) (s : Sto) (Q : PQ) (X : PX), wp T cf ci e m env s Q X → WP (ev T cf ci e m env s) Q X
  | .var i, m, env, s, Q, X, h => by
    refine tK_s (r := vVar env i s) ?_
    show WP (slV env[i]? s) _ X
    revert h
    show (eK env i _) → _
    intro h
    obtain ⟨x, e, h⟩ := eK_e h
    rw [e]
    cases x <;> first | exact h | exact h.elim
  | .own i, m, env, s, Q, X, h => by
    refine tK_s (r := vOwn env i s) ?_
    show WP (slO env[i]? s) _ X
    revert h
    show (eK env i _) → _
    intro h
    obtain ⟨x, e, h⟩ := eK_e h
    rw [e]
    cases x <;> first | exact h | exact h.elim
  | .non, m, env, s, Q, X, h => tK_s h
  | .bl b, m, env, s, Q, X, h => tK_s (r := .ok (.bl b) s) (by cases m <;> first | exact h | (cases b <;> exact h))
  | .int i, m, env, s, Q, X, h => tK_s h
  | .str x, m, env, s, Q, X, h => tK_s h
  | .glob i, m, env, s, Q, X, h => tK_s (r := retO (T.gl i) s) (by
      obtain ⟨z, e2, h⟩ := oK_e (h : oK (T.gl i) fun z => tK m s z Q)
      rw [e2]; exact h)
  | .bin op a b, m, env, s, Q, X, h => tK_s (WP_b (s := s) (WP_q (wp_s a false env s _ X h) fun x s1 h => WP_b (s := s) (WP_q (wp_s b false env s1 _ X h) fun y s2 h => binK_e (drfK_e (drfK_e h)))))
  | .neg a, m, env, s, Q, X, h => tK_s (WP_b (s := s) (WP_q (wp_s a false env s _ X h) fun x s1 h => by cases x <;> first | exact h | exact h.elim))
  | .cmp op a b, m, env, s, Q, X, h => by
    cases m with
    | false =>
      refine WP_b (s := s) (WP_q (wp_s a false env s _ X h) fun x s1 h => WP_b (s := s) (WP_q (wp_s b false env s1 _ X h) fun y s2 h => ?_))
      obtain ⟨b, e, h⟩ := cmpK_e h
      rw [e]; exact h
    | true =>
      refine tK_s (m := true) (WP_b (s := s) (WP_q (wp_s a false env s _ X h) fun x s1 h => WP_b (s := s) (WP_q (wp_s b false env s1 _ X h) fun y s2 h => ?_)))
      obtain ⟨b, e, h⟩ := cmpK_e h
      rw [e]; cases b <;> exact h
  | .chain op op' a b c, m, env, s, Q, X, h => by
    refine tK_s (WP_b (s := s) (WP_q (wp_s a false env s _ X h) fun x s1 h => WP_b (s := s) (WP_q (wp_s b false env s1 _ X h) fun y s2 h => ?_)))
    have h := chA_e h
    cases q : evCmp op x y s2 with
    | none => rw [q] at h; exact h
    | some k =>
      rw [q] at h
      cases k with
      | false => cases m <;> exact h
      | true =>
        refine WP_b (s := s) (WP_q (wp_s c false env s2 _ X h) fun z s3 h => ?_)
        obtain ⟨b, e, h⟩ := cmpK_e h
        rw [e]; cases m <;> cases b <;> exact h
  | .isN a, m, env, s, Q, X, h => tK_s (WP_b (s := s) (WP_q (wp_s a false env s _ X h) fun x s1 h => by
      have h := nonK_e h
      show tK m s1 (.bl (isNon x)) Q
      rw [Bool.false_xor] at h
      revert h
      cases isNon x <;> cases m <;> exact fun h => h))
  | .notN a, m, env, s, Q, X, h => tK_s (WP_b (s := s) (WP_q (wp_s a false env s _ X h) fun x s1 h => by
      have h := nonK_e h
      show tK m s1 (.bl (!isNon x)) Q
      rw [Bool.true_xor] at h
      revert h
      cases isNon x <;> cases m <;> exact fun h => h))
  | .not a, false, env, s, Q, X, h => WP_b (s := s) (WP_q (wp_s a false env s _ X h) fun x s1 h => by
      obtain ⟨b, e, h⟩ := oK_e h
      rw [e]; exact h)
  | .not a, true, env, s, Q, X, h => by
    rw [WPt_not]
    exact WP_q (wp_s a true env s _ X h) fun x s1 h => by cases x <;> first | exact h | exact h.elim
  | .and a b, m, env, s, Q, X, h => by
    rw [WP_and]
    refine WP_q (wp_s a m env s _ X h) fun x s1 h => ?_
    cases x with
    | bl k => cases k with
      | true => exact ⟨fun _ => wp_s b m env s1 _ X h, nofun⟩
      | false => exact ⟨nofun, fun _ => h⟩
    | _ => exact h.elim
  | .or a b, m, env, s, Q, X, h => by
    rw [WP_or]
    refine WP_q (wp_s a m env s _ X h) fun x s1 h => ?_
    cases x with
    | bl k => cases k with
      | true => exact ⟨fun _ => h, nofun⟩
      | false => exact ⟨nofun, fun _ => wp_s b m env s1 _ X h⟩
    | _ => exact h.elim
  | .ite c a b, m, env, s, Q, X, h => by
    refine tK_s (r := ev T cf ci (.ite c a b) false env s) ?_
    rw [WP_ite]
    refine WP_q (wp_s c true env s _ X h) fun x s1 h => ?_
    cases x with
    | bl k => cases k with
      | true => exact ⟨fun _ => wp_s a false env s1 _ X h, nofun⟩
      | false => exact ⟨nofun, fun _ => wp_s b false env s1 _ X h⟩
    | _ => exact h.elim
  | .ix a b, m, env, s, Q, X, h => tK_s (WP_b (s := s) (WP_q (wp_s a false env s _ X h) fun x s1 h => WP_b (s := s) (WP_q (wp_s b false env s1 _ X h) fun y s2 h => ixK_e h)))
  | .sl a lo hi, m, env, s, Q, X, h => by
    refine tK_s (r := ev T cf ci (.sl a lo hi) false env s) ?_
    rw [WP_sl]
    refine WP_q (wp_s a false env s _ X h) fun x s1 h => ?_
    have key : ∀ (e : Ex) (he : ∀ (m : Bool) (env : LI.Env) (s : Sto) (Q : PQ) (X : PX), wp T cf ci e m env s Q X → WP (ev T cf ci e m env s) Q X) (s1 : Sto) (k : Option Int → Sto → Prop), (match isNonE e with
      | true => fun (k : Option Int → Sto → Prop) => k none s1
      | false => fun k => wp T cf ci e false env s1 (fun y s2 => intX' y fun i => k (some i) s2) X) k → WP (bndV T cf ci e env s1) k X := by
      intro e he s1 k h
      cases q : isNonE e with
      | true =>
        rw [q] at h
        unfold bndV
        rw [q, if_pos rfl]; exact h
      | false =>
        rw [q] at h
        rw [WP_bnd q]
        refine WP_q (he false env s1 _ X h) fun y s2 h => ?_
        cases y <;> first | exact h | exact h.elim
    refine WP_q (key lo (wp_s lo) s1 _ h) fun l s2 h => ?_
    refine WP_q (key hi (wp_s hi) s2 _ h) fun l s3 h => ?_
    exact slK_e (drfK_e h)
  | .rev a, m, env, s, Q, X, h => tK_s (WP_b (s := s) (WP_q (wp_s a false env s _ X h) fun x s1 h => by
      have h := drfK_e h
      generalize drf s1 x = y at h ⊢
      cases y <;> first | exact h | exact h.elim))
  | .lst es, m, env, s, Q, X, h => tK_s (WP_b (s := s) (WP_q (wps_s es env s _ X h) fun ws s1 h => by
      show WP (if okN ws.length then _ else _) _ X
      cases q : okN ws.length with
      | false => rw [q] at h; exact h.elim
      | true => rw [q] at h; exact h))
  | .tup es, m, env, s, Q, X, h => tK_s (WP_b (s := s) (WP_q (wps_s es env s _ X h) fun ws s1 h => by
      show WP (if okN ws.length then _ else _) _ X
      cases q : okN ws.length with
      | false => rw [q] at h; exact h.elim
      | true => rw [q] at h; exact h))
  | .call f es, m, env, s, Q, X, h => tK_s (WP_b (s := s) (WP_q (wps_s es env s _ X h) fun _ _ h => CALL_e h))
  | .bi b es, m, env, s, Q, X, h => tK_s (WP_b (s := s) (WP_q (wps_s es env s _ X h) fun ws s1 h => biK_e h))
  | .isi a ts, m, env, s, Q, X, h => tK_s (WP_b (s := s) (WP_q (wp_s a false env s _ X h) fun x s1 h => by
      obtain ⟨b, e, h⟩ := oK_e h
      rw [e]; exact h))
  | .mk c es, m, env, s, Q, X, h => tK_s (WP_b (s := s) (WP_q (wps_s es env s _ X h) fun ws s1 h => by
      obtain ⟨f, e, h⟩ := oK_e h
      unfold vMk
      rw [e]
      exact WP_b (s := s) (CALL_e h)))
  | .mkC c es, m, env, s, Q, X, h => tK_s (WP_b (s := s) (WP_q (wps_s es env s _ X h) fun ws s1 h => by
      obtain ⟨f, e, h⟩ := oK_e h
      unfold vMkC
      rw [e]
      refine WP_b (s := s) (WP_q (CALL_e h) fun r s2 h => ?_)
      cases r <;> first | exact h | exact h.elim))
  | .meth n o es, m, env, s, Q, X, h => by
    refine tK_s (r := ev T cf ci (.meth n o es) false env s) ?_
    rw [WP_meth]
    refine WP_q (wp_s o false env s _ X h) fun x s1 h => ?_
    obtain ⟨f, e, h⟩ := oK_e h
    rw [e]
    exact WP_q (wps_s es env s1 _ X h) fun _ _ h => CALL_e h
  | .fld a f, m, env, s, Q, X, h => tK_s (WP_b (s := s) (WP_q (wp_s a false env s _ X h) fun x s1 h => by
      obtain ⟨o, e, h⟩ := objK_e h
      obtain ⟨z, e2, h⟩ := oK_e h
      unfold evFld
      rw [e]
      show WP (retO (fldOf T o.1 o.2.1 o.2.2 f) s1) _ X
      rw [e2]; exact h))
  | .slf f, m, env, s, Q, X, h => by
    refine tK_s (r := vSlf T env f s) ?_
    revert h
    show (eK env 0 _) → _
    intro h
    obtain ⟨x, e, h⟩ := eK_e h
    unfold vSlf
    rw [e]
    cases x with
    | self c ks fs =>
      obtain ⟨z, e2, h⟩ := oK_e h
      show WP (retO (fldOf T c ks fs f) s) _ X
      rw [e2]; exact h
    | _ => exact h.elim
  | .con c f, m, env, s, Q, X, h => tK_s (r := retO (T.con c f) s) (by
      obtain ⟨z, e2, h⟩ := oK_e (h : oK (T.con c f) fun z => tK m s z Q)
      rw [e2]; exact h)
  | .xfld i f, m, env, s, Q, X, h => by
    refine tK_s (r := vXfld T env i f s) ?_
    revert h
    show (eK env i _) → _
    intro h
    obtain ⟨x, e, h⟩ := eK_e h
    unfold vXfld
    rw [e]
    cases x with
    | exn c ks fs =>
      show WP (if T.x1 c f then _ else _) _ X
      have h : boolK (T.x1 c f) (oK (getF ks fs f) fun z => tK m s z Q) False := h
      cases q : T.x1 c f with
      | false => rw [q] at h; exact h.elim
      | true =>
        rw [q] at h
        obtain ⟨z, e2, h⟩ := oK_e h
        show WP (retO (getF ks fs f) s) _ X
        rw [e2]; exact h
    | _ => exact h.elim
  | .xisi i ts, m, env, s, Q, X, h => by
    refine tK_s (r := vXisi T env i ts s) ?_
    revert h
    show (eK env i _) → _
    intro h
    obtain ⟨x, e, h⟩ := eK_e h
    unfold vXisi
    rw [e]
    cases x with
    | exn c ks fs =>
      show WP (if (T.xc c && ts.all (okXTy T)) = true then _ else _) _ X
      have h : boolK (T.xc c && ts.all (okXTy T)) (tK m s (.bl (ts.any (isXTy T c))) Q) False := h
      cases q : (T.xc c && ts.all (okXTy T)) with
      | false => rw [q] at h; exact h.elim
      | true => rw [q] at h; exact h
    | _ => exact h.elim
  | .comp t sr ifs e, m, env, s, Q, X, h => tK_s (WP_b (s := s) (WP_q (wpS_s sr env s _ X h) fun it s1 h => WP_b (s := s) h.e))
  | .cell e, m, env, s, Q, X, h => tK_s (WP_b (s := s) (WP_q (wp_s e false env s _ X h) fun x s1 h => by
      cases x <;> first | exact h | exact h.elim))
  | .mx mn a d, m, env, s, Q, X, h => tK_s (WP_b (s := s) (WP_q (wp_s a false env s _ X h) fun x s1 h => WP_b (s := s) (WP_q (wp_s d false env s1 _ X h) fun y s2 h => mxK_e h)))
  | .rl a, m, env, s, Q, X, h => tK_s (WP_b (s := s) (WP_q (wp_s a false env s _ X h) fun x s1 h => by
      cases x <;> first | exact rlK_e h | exact h.elim))
  | .dnew t, m, env, s, Q, X, h => tK_s (r := .ok (.cell s.length) _) h
  | .dn1 k e, m, env, s, Q, X, h => tK_s (WP_b (s := s) (WP_q (wp_s k false env s _ X h) fun y s1 h => WP_b (s := s) (WP_q (wp_s e false env s1 _ X h) fun w s2 h => by
      obtain ⟨q, e1, h⟩ := oK_e h
      unfold vDn1
      rw [e1]; exact h)))
  | .dget d k, m, env, s, Q, X, h => tK_s (WP_b (s := s) (WP_q (wp_s d false env s _ X h) fun x s1 h => WP_b (s := s) (WP_q (wp_s k false env s1 _ X h) fun y s2 h => by
      obtain ⟨o, e1, h⟩ := oK_e h
      obtain ⟨z, e2, h⟩ := oK_e h
      subst e2
      rw [e1]; exact h)))
  | .din neg k d, m, env, s, Q, X, h => tK_s (WP_b (s := s) (WP_q (wp_s k false env s _ X h) fun y s1 h => WP_b (s := s) (WP_q (wp_s d false env s1 _ X h) fun x s2 h => by
      obtain ⟨o, e1, h⟩ := oK_e h
      rw [e1]
      cases neg <;> cases o <;> exact h)))
  | .dget1 d k, m, env, s, Q, X, h => tK_s (WP_b (s := s) (WP_q (wp_s d false env s _ X h) fun x s1 h => WP_b (s := s) (WP_q (wp_s k false env s1 _ X h) fun y s2 h => by
      obtain ⟨o, e1, h⟩ := oK_e h
      rw [e1]; exact h)))
  | .kcall f es e, m, env, s, Q, X, h => tK_s (WP_b (s := s) (WP_q (wps_s es env s _ X h) fun ws s1 h => WP_b (s := s1) (WP_q (wp_s e false env s1 _ X h) fun w s2 h => CALL_e h)))
  | .kmkC c es e, m, env, s, Q, X, h => tK_s (WP_b (s := s) (WP_q (wps_s es env s _ X h) fun ws s1 h => WP_b (s := s1) (WP_q (wp_s e false env s1 _ X h) fun w s2 h => by
      obtain ⟨f, e, h⟩ := oK_e h
      unfold vMkC
      rw [e]
      refine WP_b (s := s) (WP_q (CALL_e h) fun r s2 h => ?_)
      cases r <;> first | exact h | exact h.elim)))
  | .prp n o, m, env, s, Q, X, h => tK_s (WP_b (s := s) (WP_q (wp_s o false env s _ X h) fun x s1 h => by
      obtain ⟨f, e, h⟩ := oK_e h
      rw [e]
      have h := CALL_e h
      show WP (cf f [x] s1).nox _ X
      revert h
      cases cf f [x] s1 with
      | ok a s => exact fun h => h
      | ex x s => exact fun h => h.elim
      | no => exact fun h => h))
  | .cal o es, m, env, s, Q, X, h => tK_s (WP_b (s := s) (WP_q (wp_s o false env s _ X h) fun x s1 h => by
      have key : ∀ y : W, wps T cf ci es env s1 (fun ws s2 => oK (vMeth T s2 y 5000) fun f => CALL (cf f (y :: ws) s2) (fun z s3 => tK m s3 z Q) X) X → WP ((evEs T cf ci es env s1).bind fun ws s2 => withF (vMeth T s2 y 5000) fun f => cf f (y :: ws) s2) (fun z s2 => tK m s2 z Q) X := fun y h =>
        WP_b (s := s1) (WP_q (wps_s es env s1 _ X h) fun ws s2 h => by
          obtain ⟨f, e, h⟩ := oK_e h
          rw [e]
          exact CALL_e h)
      cases x with
      | obj c ks fs => exact key _ h
      | cell n => exact key _ h
      | _ => exact h.elim))
  | .idx a b, m, env, s, Q, X, h => tK_s (WP_b (s := s) (WP_q (wp_s a false env s _ X h) fun x s1 h => by
      obtain ⟨ys, e0, h⟩ := lstK_e h
      unfold lstG
      rw [e0]
      refine WP_b (s := s) (WP_q (wp_s b false env s1 _ X h) fun y s2 h => ?_)
      obtain ⟨xs, e1, h⟩ := lstK_e h
      obtain ⟨j, e2, h⟩ := oK_e h
      unfold vIdx
      rw [e1]
      show WP (retO ((idxO xs y).map fun j => W.int (j : Nat)) s2) _ X
      rw [e2]; exact h))
theorem wps_s : ∀ (es : Exs) (env : LI.Env) (s : Sto) (Q : List W → Sto → Prop) (X : PX), wps T cf ci es env s Q X → WP (evEs T cf ci es env s) Q X
  | .nil, env, s, Q, X, h => h
  | .cons e es, env, s, Q, X, h => WP_b (s := s) (WP_q (wp_s e false env s _ X h) fun x s1 h => WP_b (s := s) (wps_s es env s1 _ X h))
theorem wpS_s : ∀ (e : Sr) (env : LI.Env) (s : Sto) (Q : It → Sto → Prop) (X : PX), wpS T cf ci e env s Q X → WP (evS T cf ci e env s) Q X
  | .seq e, env, s, Q, X, h => WP_b (s := s) (WP_q (wp_s e false env s _ X h) fun x s1 h => by
      obtain ⟨it, e, h⟩ := itK_e h
      rw [e]; exact h)
  | .rng1 a, env, s, Q, X, h => WP_b (s := s) (WP_q (wp_s a false env s _ X h) fun x s1 h => by
      cases x <;> first | exact h.elim | exact rngK_e h)
  | .rng2 a b, env, s, Q, X, h => WP_b (s := s) (WP_q (wp_s a false env s _ X h) fun x s1 h => WP_b (s := s) (WP_q (wp_s b false env s1 _ X h) fun y s2 h => by
      cases x <;> first | exact h.elim | (cases y <;> first | exact h.elim | exact rngK_e h)))
  | .rng3 a b c, env, s, Q, X, h => WP_b (s := s) (WP_q (wp_s a false env s _ X h) fun x s1 h => WP_b (s := s) (WP_q (wp_s b false env s1 _ X h) fun y s2 h => WP_b (s := s) (WP_q (wp_s c false env s2 _ X h) fun z s3 h => by
      cases x <;> first | exact h.elim | (cases y <;> first | exact h.elim | (cases z <;> first | exact h.elim | exact rngK_e h)))))
  | .enum e, env, s, Q, X, h => WP_b (s := s) (WP_q (wp_s e false env s _ X h) fun x s1 h => by
      obtain ⟨it, e, h⟩ := itK_e h
      rw [e]; exact h)
end
end
end LV
end
section
set_option Elab.async false
set_option linter.all false
set_option maxRecDepth 100000
set_option maxHeartbeats 4000000
/-! LiVs: the same for statements, loops, comprehensions, calls. -/
namespace LV
open PySem LI
/-- targets -/
def setsK : LI.Env → List Nat → List W → (LI.Env → Prop) → Prop
  | env, [], [], k => k env
  | env, i :: is, x :: xs, k => setsK (env.set i (.v x)) is xs k
  | _, _, _, _ => False
theorem setsK_e {k : LI.Env → Prop} : ∀ {env : LI.Env} {is : List Nat} {xs : List W}, setsK env is xs k → xs.length = is.length ∧ k (setAll env is xs)
  | env, [], [], h => ⟨rfl, h⟩
  | env, i :: is, x :: xs, h => by
    obtain ⟨e, h⟩ := setsK_e (env := env.set i (.v x)) (is := is) (xs := xs) h
    exact ⟨by simp [e], h⟩
  | _, [], _ :: _, h => h.elim
  | _, _ :: _, [], h => h.elim
def putK (s : Sto) (env : LI.Env) (t : Tg) (x : W) (k : LI.Env → Prop) : Prop := match t with
  | .nm i => k (env.set i (.v x))
  | .tup is => seqK s x fun xs => setsK env is xs k
theorem putK_e {s : Sto} {env : LI.Env} {t : Tg} {x : W} {k : LI.Env → Prop} (h : putK s env t x k) : ∃ e, putT env s t x = some e ∧ k e := by
  cases t with
  | nm i => exact ⟨_, rfl, h⟩
  | tup is =>
    obtain ⟨xs, e, h⟩ := seqK_e h
    obtain ⟨e2, h⟩ := setsK_e h
    refine ⟨_, ?_, h⟩
    show (match seqOf s x with | some xs => if xs.length = is.length then some (setAll env is xs) else none | none => none) = _
    rw [e]
    exact if_pos e2
def nx' (f : LI.Env → Sto → Prop) (QS : SQ) : SQ := fun o e s => match o with
  | .nx => f e s
  | o => QS o e s
def augB (op : BO) (a : Int) (x : W) (k : Int → Prop) : Prop := match op, x with
  | .add, .int b => k (a + b)
  | .sub, .int b => k (a - b)
  | _, _ => False
/-- a branching, ahead of what follows it: to go on, or to say what holds behind it -/
structure JOIN (P : Prop) : Prop where
  e : P
theorem JOIN_i {P : Prop} (h : P) : JOIN P := ⟨h⟩
theorem JOIN_e {P : Prop} (h : JOIN P) : P := h.e
def isIf : St → Bool
  | .ife _ _ _ => true
  | .try_ _ _ => true
  | _ => false
def joinK (b : Bool) (P : Prop) : Prop := match b with
  | true => JOIN P
  | false => P
theorem joinK_e {b : Bool} {P : Prop} (h : joinK b P) : P := by
  cases b
  · exact h
  · exact JOIN_e h
mutual
def ws (T : Tab) (cf : Call) (ci : CallI) : St → LI.Env → Sto → SQ → SX → Prop
  | .expr e, env, s, Q, X => wp T cf ci e false env s (fun _ s1 => Q .nx env s1) (fun x s1 => X x env s1)
  | .set i e, env, s, Q, X => wp T cf ci e false env s (fun x s1 => Q .nx (env.set i (.v x)) s1) (fun x s1 => X x env s1)
  | .setOwn i e, env, s, Q, X => wp T cf ci e false env s (fun x s1 => lstX x fun xs => Q .nx (env.set i (.own xs)) s1) (fun x s1 => X x env s1)
  | .frz i, env, s, Q, X => eK env i fun x => owK x fun xs => Q .nx (env.set i (.v (.lst xs))) s
  | .app i e, env, s, Q, X => eK env i fun x => owK x fun xs => wp T cf ci e false env s (fun x s1 => okN (xs.length + 1) = true ∧ Q .nx (env.set i (.own (xs ++ [x]))) s1) (fun x s1 => X x env s1)
  | .setIx i k e, env, s, Q, X => wp T cf ci e false env s (fun x s1 => eK env i fun z => owK z fun xs => wp T cf ci k false env s1 (fun y s2 => intX' y fun j => oK (ixN xs.length j) fun n =>
      Q .nx (env.set i (.own (xs.set n x))) s2) (fun x s1 => X x env s1)) (fun x s1 => X x env s1)
  | .unpk is e, env, s, Q, X => wp T cf ci e false env s (fun x s1 => seqK s1 x fun xs => setsK env is xs fun env1 => Q .nx env1 s1) (fun x s1 => X x env s1)
  | .par is es, env, s, Q, X => wps T cf ci es env s (fun xs s1 => setsK env is xs fun env1 => Q .nx env1 s1) (fun x s1 => X x env s1)
  | .aug i op e, env, s, Q, X => eK env i fun x => vK x fun w => intX' w fun a => wp T cf ci e false env s (fun x s1 => augB op a x fun c => Q .nx (env.set i (.v (.int c))) s1) (fun x s1 => X x env s1)
  | .sfld f e, env, s, Q, X => wp T cf ci e false env s (fun x s1 => eK env 0 fun z => match z with
      | .self c ks fs => boolK (T.fo c f && decide (ks.length < 900)) (Q .nx (env.set 0 (.self c (putFK ks f) (putFV ks fs f x))) s1) False
      | _ => False) (fun x s1 => X x env s1)
  | .cApp o e, env, s, Q, X => wp T cf ci o false env s (fun y s1 => match y with
      | .cell n => oK (celL s1 n) fun _ => wp T cf ci e false env s1 (fun x s2 => oK (celL s2 n) fun xs => okN (xs.length + 1) = true ∧ Q .nx env (s2.set n (.lst (xs ++ [x])))) (fun x s1 => X x env s1)
      | _ => False) (fun x s1 => X x env s1)
  | .cSet o k e, env, s, Q, X => wp T cf ci e false env s (fun x s1 => wp T cf ci o false env s1 (fun y s2 => wp T cf ci k false env s2 (fun z s3 => match y with
      | .cell n => intX' z fun j => oK (celL s3 n) fun xs => oK (ixN xs.length j) fun m => Q .nx env (s3.set n (.lst (xs.set m x)))
      | _ => False) (fun x s1 => X x env s1)) (fun x s1 => X x env s1)) (fun x s1 => X x env s1)
  | .dput o k e, env, s, Q, X => wp T cf ci e false env s (fun x s1 => wp T cf ci o false env s1 (fun y s2 => wp T cf ci k false env s2 (fun z s3 => match y with
      | .cell n => oK ((s3[n]?).bind fun c => dPut c z x) fun c => Q .nx env (s3.set n c)
      | _ => False) (fun x s1 => X x env s1)) (fun x s1 => X x env s1)) (fun x s1 => X x env s1)
  | .cFld o f e, env, s, Q, X => wp T cf ci e false env s (fun x s1 => wp T cf ci o false env s1 (fun y s2 => match y with
      | .cell n => oK (celO s2 n) fun o => boolK (T.fo o.1 f && decide (o.2.1.length < 900)) (Q .nx env (s2.set n (.obj o.1 (putFK o.2.1 f) (putFV o.2.1 o.2.2 f x)))) False
      | _ => False) (fun x s1 => X x env s1)) (fun x s1 => X x env s1)
  | .ife c a b, env, s, Q, X => wp T cf ci c true env s (fun x s1 => bK x (wss T cf ci a env s1 Q X) (wss T cf ci b env s1 Q X)) (fun x s1 => X x env s1)
  | .whl c b, env, s, Q, X => LOOP (exS T cf ci (.whl c b) env s) Q X
  | .for_ t sr b, env, s, Q, X => wpS T cf ci sr env s (fun it s1 => LOOP (forI t (fun env s => exSs T cf ci b env s) T.sz it env s1) Q X) (fun x s1 => X x env s1)
  | .ret e, env, s, Q, X => wp T cf ci e false env s (fun x s1 => Q (.rt x) env s1) (fun x s1 => X x env s1)
  | .retN, env, s, Q, X => Q (.rt .non) env s
  | .pass, env, s, Q, X => Q .nx env s
  | .brk, env, s, Q, X => Q .bk env s
  | .cnt, env, s, Q, X => Q .ct env s
  | .raise c ks es, env, s, Q, X => wps T cf ci es env s (fun xs s1 => boolK (decide (ks.length = xs.length)) (X ⟨c, ks, xs⟩ env s1) False) (fun x s1 => X x env s1)
  | .try_ b hs, env, s, Q, X => wss T cf ci b env s Q (fun x env1 s1 => wh T cf ci hs x env1 s1 Q X)
def wss (T : Tab) (cf : Call) (ci : CallI) : Sts → LI.Env → Sto → SQ → SX → Prop
  | .nil, env, s, Q, X => Q .nx env s
  | .cons a r, env, s, Q, X => joinK (isIf a) (ws T cf ci a env s (nx' (fun e s1 => wss T cf ci r e s1 Q X) Q) X)
def wh (T : Tab) (cf : Call) (ci : CallI) : Hds → Xn → LI.Env → Sto → SQ → SX → Prop
  | .nil, x, env, s, Q, X => X x env s
  | .cons c i b r, x, env, s, Q, X => boolK (T.xc x.c && T.xc c) (boolK (T.sub x.c c) (wss T cf ci b (env.set i (.exn x.c x.ks x.fs)) s
      (fun o env1 s1 => boolK (noX (env1.set i .un)) (Q o (env1.set i .un) s1) False) (fun _ _ _ => False)) (wh T cf ci r x env s Q X)) False
end
section
variable {T : Tab} {cf : Call} {ci : CallI}
theorem WS_st {α : Type} {r : R α} {env : LI.Env} {f : α → Sto → RS} {Q : SQ} {X : SX} (h : WP r (fun a s1 => WS (f a s1) Q X) (fun x s1 => X x env s1)) : WS (r.stm env f) Q X := by rw [WS_stm]; exact h
mutual
theorem ws_s : ∀ (a : St) (env : LI.Env) (s : Sto) (Q : SQ) (X : SX), ws T cf ci a env s Q X → WS (exS T cf ci a env s) Q X
  | .expr e, env, s, Q, X, h => WS_st (wp_s e false env s _ _ h)
  | .set i e, env, s, Q, X, h => WS_st (wp_s e false env s _ _ h)
  | .setOwn i e, env, s, Q, X, h => WS_st (WP_q (wp_s e false env s _ _ h) fun x s1 h => by cases x <;> first | exact h | exact h.elim)
  | .frz i, env, s, Q, X, h => by
    obtain ⟨x, e, h⟩ := eK_e (show eK env i _ from h)
    show WS (match env[i]? with | some (.own xs) => _ | _ => _) Q X
    rw [e]
    cases x <;> first | exact h | exact h.elim
  | .app i e, env, s, Q, X, h => by
    rw [WS_app]
    obtain ⟨x, e1, h⟩ := eK_e (show eK env i _ from h)
    rw [e1]
    cases x with
    | own xs => exact wp_s e false env s _ _ h
    | _ => exact h.elim
  | .setIx i k e, env, s, Q, X, h => by
    rw [WS_setIx]
    refine WP_q (wp_s e false env s _ _ h) fun x s1 h => ?_
    obtain ⟨z, e1, h⟩ := eK_e (show eK env i _ from h)
    rw [e1]
    cases z with
    | own xs =>
      refine WP_q (wp_s k false env s1 _ _ h) fun y s2 h => ?_
      cases y with
      | int j =>
        obtain ⟨n, e2, h⟩ := oK_e h
        unfold setK
        dsimp only
        rw [e2]; exact h
      | _ => exact h.elim
    | _ => exact h.elim
  | .unpk is e, env, s, Q, X, h => WS_st (WP_q (wp_s e false env s _ _ h) fun x s1 h => by
    obtain ⟨xs, e1, h⟩ := seqK_e h
    obtain ⟨e2, h⟩ := setsK_e h
    rw [e1]
    show WS (if _ then _ else _) Q X
    rw [if_pos e2]; exact h)
  | .par is es, env, s, Q, X, h => WS_st (WP_q (wps_s es env s _ _ h) fun xs s1 h => by
    obtain ⟨e2, h⟩ := setsK_e h
    rw [if_pos e2]; exact h)
  | .aug i op e, env, s, Q, X, h => by
    rw [WS_aug]
    obtain ⟨x, e1, h⟩ := eK_e (show eK env i _ from h)
    rw [e1]
    cases x with
    | v w =>
      cases w with
      | int a =>
        refine WP_q (wp_s e false env s _ _ h) fun x s1 h => ?_
        cases op <;> first | exact h.elim | (cases x <;> first | exact h | exact h.elim)
      | _ => exact h.elim
    | _ => exact h.elim
  | .sfld f e, env, s, Q, X, h => WS_st (WP_q (wp_s e false env s _ _ h) fun x s1 h => by
    obtain ⟨z, e1, h⟩ := eK_e (show eK env 0 _ from h)
    rw [e1]
    cases z with
    | self c ks fs =>
      have h : boolK (T.fo c f && decide (ks.length < 900)) (Q .nx (env.set 0 (.self c (putFK ks f) (putFV ks fs f x))) s1) False := h
      show WS (if (T.fo c f && decide (ks.length < 900)) = true then _ else _) Q X
      cases q : (T.fo c f && decide (ks.length < 900)) with
      | false => rw [q] at h; exact h.elim
      | true => rw [q] at h; exact h
    | _ => exact h.elim)
  | .cApp o e, env, s, Q, X, h => WS_st (WP_q (wp_s o false env s _ _ h) fun y s1 h => by
    cases y with
    | cell n =>
      obtain ⟨ys, e1, h⟩ := oK_e h
      show WS (match s1[n]? with | some (.lst _) => _ | _ => _) Q X
      unfold celL at e1
      cases q : s1[n]? with
      | none => rw [q] at e1; cases e1
      | some c =>
        rw [q] at e1
        cases c with
        | lst zs =>
          refine WS_st (WP_q (wp_s e false env s1 _ _ h) fun x s2 h => ?_)
          obtain ⟨xs, e2, h⟩ := oK_e h
          unfold celL at e2
          show WS (match s2[n]? with | some (.lst _) => _ | _ => _) Q X
          cases q : s2[n]? with
          | none => rw [q] at e2; cases e2
          | some c =>
            rw [q] at e2
            cases c with
            | lst zs =>
              cases e2
              show WS (if _ then _ else _) Q X
              rw [if_pos h.1]; exact h.2
            | _ => cases e2
        | _ => cases e1
    | _ => exact h.elim)
  | .cSet o k e, env, s, Q, X, h => WS_st (WP_q (wp_s e false env s _ _ h) fun x s1 h => WS_st (WP_q (wp_s o false env s1 _ _ h) fun y s2 h => WS_st (WP_q (wp_s k false env s2 _ _ h) fun z s3 h => by
    cases y with
    | cell n =>
      cases z with
      | int j =>
        obtain ⟨xs, e2, h⟩ := oK_e h
        obtain ⟨m, e3, h⟩ := oK_e h
        unfold celL at e2
        show WS (match s3[n]? with | some (.lst _) => _ | _ => _) Q X
        cases q : s3[n]? with
        | none => rw [q] at e2; cases e2
        | some c =>
          rw [q] at e2
          cases c with
          | lst zs =>
            cases e2
            show WS (match ixN xs.length j with | some m => _ | none => _) Q X
            rw [e3]; exact h
          | _ => cases e2
      | _ => exact h.elim
    | _ => exact h.elim)))
  | .dput o k e, env, s, Q, X, h => WS_st (WP_q (wp_s e false env s _ _ h) fun x s1 h => WS_st (WP_q (wp_s o false env s1 _ _ h) fun y s2 h => WS_st (WP_q (wp_s k false env s2 _ _ h) fun z s3 h => by
    cases y with
    | cell n =>
      obtain ⟨c, e1, h⟩ := oK_e h
      show WS (match (s3[n]?).bind fun c => dPut c z x with | some c => _ | none => _) Q X
      rw [e1]; exact h
    | _ => exact h.elim)))
  | .cFld o f e, env, s, Q, X, h => WS_st (WP_q (wp_s e false env s _ _ h) fun x s1 h => WS_st (WP_q (wp_s o false env s1 _ _ h) fun y s2 h => by
    cases y with
    | cell n =>
      obtain ⟨o, e2, h⟩ := oK_e h
      unfold celO at e2
      show WS (match s2[n]? with | some (.obj _ _ _) => _ | _ => _) Q X
      cases q : s2[n]? with
      | none => rw [q] at e2; cases e2
      | some c =>
        rw [q] at e2
        cases c with
        | obj c ks fs =>
          cases e2
          have h : boolK (T.fo c f && decide (ks.length < 900)) (Q .nx env (s2.set n (.obj c (putFK ks f) (putFV ks fs f x)))) False := h
          show WS (if (T.fo c f && decide (ks.length < 900)) = true then _ else _) Q X
          cases q : (T.fo c f && decide (ks.length < 900)) with
          | false => rw [q] at h; exact h.elim
          | true => rw [q] at h; exact h
        | _ => cases e2
    | _ => exact h.elim))
  | .ife c a b, env, s, Q, X, h => by
    rw [WS_ife]
    refine WP_q (wp_s c true env s _ _ h) fun x s1 h => ?_
    cases x with
    | bl k => cases k with
      | true => exact ⟨fun _ => wss_s a env s1 Q X h, nofun⟩
      | false => exact ⟨nofun, fun _ => wss_s b env s1 Q X h⟩
    | _ => exact h.elim
  | .whl c b, env, s, Q, X, h => LOOP_e h
  | .for_ t sr b, env, s, Q, X, h => WS_st (WP_q (wpS_s sr env s _ _ h) fun _ _ h => LOOP_e h)
  | .ret e, env, s, Q, X, h => WS_st (wp_s e false env s _ _ h)
  | .retN, env, s, Q, X, h => h
  | .pass, env, s, Q, X, h => h
  | .brk, env, s, Q, X, h => h
  | .cnt, env, s, Q, X, h => h
  | .raise c ks es, env, s, Q, X, h => WS_st (WP_q (wps_s es env s _ _ h) fun xs s1 h => by
    by_cases p : ks.length = xs.length
    · rw [if_pos p]
      have h : boolK (decide (ks.length = xs.length)) (X ⟨c, ks, xs⟩ env s1) False := h
      rw [decide_eq_true p] at h
      exact h
    · have h : boolK (decide (ks.length = xs.length)) (X ⟨c, ks, xs⟩ env s1) False := h
      rw [decide_eq_false p] at h
      exact h.elim)
  | .try_ b hs, env, s, Q, X, h => by
    have z := wss_s b env s _ _ h
    show WS (match exSs T cf ci b env s with | .ex x env1 s1 => exH T cf ci hs x env1 s1 | r => r) Q X
    revert z
    cases exSs T cf ci b env s with
    | ok o e s1 => exact fun z => z
    | ex x e s1 => exact fun z => wh_s hs x e s1 Q X z
    | no => exact fun z => z
theorem wss_s : ∀ (a : Sts) (env : LI.Env) (s : Sto) (Q : SQ) (X : SX), wss T cf ci a env s Q X → WS (exSs T cf ci a env s) Q X
  | .nil, env, s, Q, X, h => h
  | .cons a r, env, s, Q, X, h => by
    rw [WS_cons]
    refine WS_mono (ws_s a env s _ _ (joinK_e h)) (fun o e s1 h => ?_) fun _ _ _ z => z
    cases o with
    | nx => exact wss_s r e s1 Q X h
    | _ => exact h
theorem wh_s : ∀ (a : Hds) (x : Xn) (env : LI.Env) (s : Sto) (Q : SQ) (X : SX), wh T cf ci a x env s Q X → WS (exH T cf ci a x env s) Q X
  | .nil, x, env, s, Q, X, h => h
  | .cons c i b r, x, env, s, Q, X, h => by
    have h : boolK (T.xc x.c && T.xc c) (boolK (T.sub x.c c) (wss T cf ci b (env.set i (.exn x.c x.ks x.fs)) s
      (fun o env1 s1 => boolK (noX (env1.set i .un)) (Q o (env1.set i .un) s1) False) (fun _ _ _ => False)) (wh T cf ci r x env s Q X)) False := h
    show WS (if (T.xc x.c && T.xc c) = true then _ else _) Q X
    cases q : (T.xc x.c && T.xc c) with
    | false => rw [q] at h; exact h.elim
    | true =>
      rw [q] at h
      rw [if_pos rfl]
      have h : boolK (T.sub x.c c) (wss T cf ci b (env.set i (.exn x.c x.ks x.fs)) s
        (fun o env1 s1 => boolK (noX (env1.set i .un)) (Q o (env1.set i .un) s1) False) (fun _ _ _ => False)) (wh T cf ci r x env s Q X) := h
      cases q2 : T.sub x.c c with
      | false =>
        rw [q2] at h
        exact wh_s r x env s Q X h
      | true =>
        rw [q2] at h
        have z := wss_s b (env.set i (.exn x.c x.ks x.fs)) s _ _ h
        show WS (match exSs T cf ci b (env.set i (.exn x.c x.ks x.fs)) s with | .ok o env1 s1 => _ | _ => _) Q X
        revert z
        cases exSs T cf ci b (env.set i (.exn x.c x.ks x.fs)) s with
        | ok o e s1 =>
          intro z
          have z : boolK (noX (e.set i .un)) (Q o (e.set i .un) s1) False := z
          show WS (if noX (e.set i .un) = true then _ else _) Q X
          cases q3 : noX (e.set i .un) with
          | false => rw [q3] at z; exact z.elim
          | true => rw [q3] at z; exact z
        | ex x e s1 => exact fun z => z.elim
        | no => exact fun z => z
end
theorem nx'_nx {f : LI.Env → Sto → Prop} {Q : SQ} {env : LI.Env} {s : Sto} : nx' f Q .nx env s = f env s := rfl
theorem wss_nil {env : LI.Env} {s : Sto} {Q : SQ} {X : SX} : wss T cf ci .nil env s Q X = Q .nx env s := rfl
/-- what holds behind a branching -/
theorem JOIN_c {a : St} {r : Sts} {env : LI.Env} {s : Sto} {Q : SQ} {X : SX} (J : LI.Env → Sto → Prop)
    (h1 : ∀ Q' : SQ, (∀ e s1, J e s1 → Q' .nx e s1) → (∀ o e s1, o ≠ .nx → Q o e s1 → Q' o e s1) → ws T cf ci a env s Q' X)
    (h2 : ∀ e s1, J e s1 → wss T cf ci r e s1 Q X) : JOIN (ws T cf ci a env s (nx' (fun e s1 => wss T cf ci r e s1 Q X) Q) X) :=
  JOIN_i (h1 _ (fun e s1 h => h2 e s1 h) fun o e s1 ho h => by cases o <;> first | exact absurd rfl ho | exact h)
/-! ### what a loop walks -/
/-- at this store, it gives n items: g 0, g 1, .. -/
def Its (sz : Nat) (s : Sto) (it : It) (n : Nat) (g : Nat → W) : Prop := match it with
  | .lst xs => xs.length = n ∧ ∀ i, i < n → xs[i]? = some (g i)
  | .cel c en => n < sz ∧ ∃ xs, celL s c = some xs ∧ xs.length = n ∧ ∀ i, i < n → (xs[i]?).map (fun x => if en then .tup [.int i, x] else x) = some (g i)
def lpQ (J : LI.Env → Sto → Prop) (Q : SQ) : SQ := fun o e s => match o with
  | .nx => J e s
  | .ct => J e s
  | .bk => Q .nx e s
  | .rt w => Q (.rt w) e s
theorem forL_ix {t : Tg} {b : Sts} {n : Nat} {g : Nat → W} {Q : SQ} {X : SX} (I : Nat → LI.Env → Sto → Prop)
    (step : ∀ i env s, i < n → I i env s → putK s env t (g i) fun env1 => wss T cf ci b env1 s (lpQ (I (i + 1)) Q) X)
    (fin : ∀ env s, I n env s → Q .nx env s) : ∀ (xs : List W) (i : Nat) (env : LI.Env) (s : Sto), i + xs.length = n → (∀ j, j < xs.length → xs[j]? = some (g (i + j))) → I i env s → WS (forL t (fun env s => exSs T cf ci b env s) xs env s) Q X
  | [], i, env, s, hn, hg, h => by
    have : i = n := by simpa using hn
    subst this
    exact fin env s h
  | x :: r, i, env, s, hn, hg, h => by
    have hx := hg 0 (by simp)
    have hx : x = g i := by simpa using hx
    subst hx
    obtain ⟨e, e1, k⟩ := putK_e (step i env s (by simp at hn; omega) h)
    unfold forL
    rw [e1]
    have z := wss_s b e s _ _ k
    revert z
    show WS (exSs T cf ci b e s) _ _ → WS (match exSs T cf ci b e s with | .ok .nx env2 s2 => _ | .ok .ct env2 s2 => _ | .ok .bk env2 s2 => _ | r => r) Q X
    cases exSs T cf ci b e s with
    | ok o e2 s2 =>
      have rec_ : I (i + 1) e2 s2 → WS (forL t (fun env s => exSs T cf ci b env s) r e2 s2) Q X := fun z => forL_ix I step fin r (i + 1) e2 s2 (by simp at hn; omega) (fun j hj => by
        have := hg (j + 1) (by simp; omega)
        simpa [Nat.add_assoc, Nat.add_comm 1 j] using this) z
      cases o with
      | nx => exact rec_
      | ct => exact rec_
      | bk => exact fun z => z
      | rt w => exact fun z => z
    | ex x e2 s2 => exact fun z => z
    | no => exact fun z => z
theorem forC_ix {t : Tg} {b : Sts} {n : Nat} {g : Nat → W} {Q : SQ} {X : SX} {c : Nat} {en : Bool} {sz : Nat} (I : Nat → LI.Env → Sto → Prop)
    (hI : ∀ i env s, i ≤ n → I i env s → Its sz s (.cel c en) n g)
    (step : ∀ i env s, i < n → I i env s → putK s env t (g i) fun env1 => wss T cf ci b env1 s (lpQ (I (i + 1)) Q) X)
    (fin : ∀ env s, I n env s → Q .nx env s) : ∀ (k i : Nat) (env : LI.Env) (s : Sto), i ≤ n → n < i + k → I i env s → WS (forC t (fun env s => exSs T cf ci b env s) c en k i env s) Q X
  | 0, i, env, s, h1, h2, h => absurd h2 (by omega)
  | k + 1, i, env, s, h1, h2, h => by
    obtain ⟨_, xs, ex, hl, hg⟩ := hI i env s h1 h
    have ei : itAt s c en i = some ((xs[i]?).map fun x => if en then .tup [.int i, x] else x) := by
      unfold itAt
      unfold celL at ex
      cases q : s[c]? with
      | none => rw [q] at ex; cases ex
      | some z => rw [q] at ex; cases z <;> first | cases ex; rfl | cases ex
    unfold forC
    rw [ei]
    by_cases hi : i < n
    · rw [hg i hi]
      obtain ⟨e, e1, k1⟩ := putK_e (step i env s hi h)
      show WS (match putT env s t (g i) with | none => _ | some env1 => _) Q X
      rw [e1]
      have z := wss_s b e s _ _ k1
      revert z
      show WS (exSs T cf ci b e s) _ _ → WS (match exSs T cf ci b e s with | .ok .nx env2 s2 => _ | .ok .ct env2 s2 => _ | .ok .bk env2 s2 => _ | r => r) Q X
      cases exSs T cf ci b e s with
      | ok o e2 s2 =>
        have rec_ : I (i + 1) e2 s2 → WS (forC t (fun env s => exSs T cf ci b env s) c en k (i + 1) e2 s2) Q X := fun z => forC_ix I hI step fin k (i + 1) e2 s2 (by omega) (by omega) z
        cases o with
        | nx => exact rec_
        | ct => exact rec_
        | bk => exact fun z => z
        | rt w => exact fun z => z
      | ex x e2 s2 => exact fun z => z
      | no => exact fun z => z
    · have : i = n := by omega
      subst this
      have : xs[i]? = none := List.getElem?_eq_none (by omega)
      rw [this]
      exact fin env s h
theorem for_ix {t : Tg} {b : Sts} {sz : Nat} {it : It} {env : LI.Env} {s : Sto} {Q : SQ} {X : SX} (n : Nat) (g : Nat → W) (I : Nat → LI.Env → Sto → Prop)
    (hI : ∀ i env s, i ≤ n → I i env s → Its sz s it n g) (h0 : I 0 env s)
    (step : ∀ i env s, i < n → I i env s → putK s env t (g i) fun env1 => wss T cf ci b env1 s (lpQ (I (i + 1)) Q) X)
    (fin : ∀ env s, I n env s → Q .nx env s) : LOOP (forI t (fun env s => exSs T cf ci b env s) sz it env s) Q X := by
  refine LOOP_i ?_
  cases it with
  | lst xs =>
    obtain ⟨hl, hg⟩ := hI 0 env s (Nat.zero_le n) h0
    exact forL_ix I step fin xs 0 env s (by omega) (fun j hj => by rw [hg j (by omega), Nat.zero_add]) h0
  | cel c en =>
    have := (hI 0 env s (Nat.zero_le n) h0).1
    exact forC_ix I hI step fin sz 0 env s (Nat.zero_le n) (by omega) h0
/-! ### comprehensions -/
def wIfs (T : Tab) (cf : Call) (ci : CallI) (ifs : Exs) (env : LI.Env) (s : Sto) (Q : Bool → Sto → Prop) (X : PX) : Prop := match ifs with
  | .nil => Q true s
  | .cons e .nil => wp T cf ci e true env s (fun x s1 => bK x (Q true s1) (Q false s1)) X
  | _ => False
theorem wIfs_s {ifs : Exs} {env : LI.Env} {s : Sto} {Q : Bool → Sto → Prop} {X : PX} (h : wIfs T cf ci ifs env s Q X) : WP (evIfs T cf ci ifs env s) Q X := by
  match ifs, h with
  | .nil, h => exact h
  | .cons e .nil, h =>
    refine WP_b (s := s) (WP_q (wp_s e true env s _ X h) fun x s1 h => ?_)
    cases x with
    | bl k => cases k <;> exact h
    | _ => exact h.elim
  | .cons _ (.cons _ _), h => exact h.elim
def compK (T : Tab) (cf : Call) (ci : CallI) (t : Tg) (ifs : Exs) (e : Ex) (env : LI.Env) (x : W) (s : Sto) (Q : Option W → Sto → Prop) (X : PX) : Prop :=
  putK s env t x fun env1 => wIfs T cf ci ifs env1 s (fun b s1 => boolK b (wp T cf ci e false env1 s1 (fun y s2 => Q (some y) s2) X) (Q none s1)) X
abbrev cmpF (T : Tab) (cf : Call) (ci : CallI) (t : Tg) (ifs : Exs) (e : Ex) (env : LI.Env) : W → Sto → R (Option W) := fun x s2 => withE (putT env s2 t x) fun env2 =>
      (evIfs T cf ci ifs env2 s2).bind fun b s3 => if b then (ev T cf ci e false env2 s3).bind fun y s4 => .ok (some y) s4 else .ok none s3
theorem compK_s {t : Tg} {ifs : Exs} {e : Ex} {env : LI.Env} {x : W} {s : Sto} {Q : Option W → Sto → Prop} {X : PX} (h : compK T cf ci t ifs e env x s Q X) :
    WP (cmpF T cf ci t ifs e env x s) Q X := by
  obtain ⟨e1, q, h⟩ := putK_e h
  unfold cmpF
  rw [q]
  refine WP_b (s := s) (WP_q (wIfs_s h) fun b s1 h => ?_)
  cases b with
  | false => exact h
  | true => exact WP_b (s := s) (wp_s e false e1 s1 _ X h)
def cat (o : Option W) (ys : List W) : List W := match o with
  | some y => y :: ys
  | none => ys
theorem compL_ix {f : W → Sto → R (Option W)} {n : Nat} {g : Nat → W} {Q : List W → Sto → Prop} {X : PX} (I : Nat → List W → Sto → Prop)
    (step : ∀ i ys s, i < n → I i ys s → WP (f (g i) s) (fun o s1 => I (i + 1) (ys ++ cat o []) s1) X)
    (fin : ∀ ys s, I n ys s → Q ys s) : ∀ (xs : List W) (i : Nat) (ys : List W) (s : Sto), i + xs.length = n → (∀ j, j < xs.length → xs[j]? = some (g (i + j))) → I i ys s → WP (compL f xs s) (fun zs s1 => Q (ys ++ zs) s1) X
  | [], i, ys, s, hn, hg, h => by
    have : i = n := by simpa using hn
    subst this
    show Q (ys ++ []) s
    rw [List.append_nil]
    exact fin ys s h
  | x :: r, i, ys, s, hn, hg, h => by
    have hx := hg 0 (by simp)
    have hx : x = g i := by simpa using hx
    subst hx
    refine WP_b (s := s) (WP_q (step i ys s (by simp at hn; omega) h) fun o s1 h => ?_)
    have hr : ∀ j, j < r.length → r[j]? = some (g (i + 1 + j)) := fun j hj => by
      have := hg (j + 1) (by simp; omega)
      simpa [Nat.add_assoc, Nat.add_comm 1 j] using this
    refine WP_b (s := s) (WP_q (compL_ix I step fin r (i + 1) (ys ++ cat o []) s1 (by simp at hn; omega) hr h) fun zs s2 z => ?_)
    cases o with
    | none => simpa [cat, WP] using z
    | some y => simpa [cat, WP] using z
theorem compC_ix {f : W → Sto → R (Option W)} {n : Nat} {g : Nat → W} {Q : List W → Sto → Prop} {X : PX} {c : Nat} {en : Bool} {sz : Nat} (I : Nat → List W → Sto → Prop)
    (hI : ∀ i ys s, i ≤ n → I i ys s → Its sz s (.cel c en) n g)
    (step : ∀ i ys s, i < n → I i ys s → WP (f (g i) s) (fun o s1 => I (i + 1) (ys ++ cat o []) s1) X)
    (fin : ∀ ys s, I n ys s → Q ys s) : ∀ (k i : Nat) (ys : List W) (s : Sto), i ≤ n → n < i + k → I i ys s → WP (compC f c en k i s) (fun zs s1 => Q (ys ++ zs) s1) X
  | 0, i, ys, s, h1, h2, h => absurd h2 (by omega)
  | k + 1, i, ys, s, h1, h2, h => by
    obtain ⟨_, xs, ex, hl, hg⟩ := hI i ys s h1 h
    have ei : itAt s c en i = some ((xs[i]?).map fun x => if en then .tup [.int i, x] else x) := by
      unfold itAt
      unfold celL at ex
      cases q : s[c]? with
      | none => rw [q] at ex; cases ex
      | some z => rw [q] at ex; cases z <;> first | cases ex; rfl | cases ex
    unfold compC
    rw [ei]
    by_cases hi : i < n
    · rw [hg i hi]
      refine WP_b (s := s) (WP_q (step i ys s hi h) fun o s1 h => ?_)
      refine WP_b (s := s) (WP_q (compC_ix I hI step fin k (i + 1) (ys ++ cat o []) s1 (by omega) (by omega) h) fun zs s2 z => ?_)
      cases o with
      | none => simpa [cat, WP] using z
      | some y => simpa [cat, WP] using z
    · have : i = n := by omega
      subst this
      have : xs[i]? = none := List.getElem?_eq_none (by omega)
      rw [this]
      show Q (ys ++ []) s
      rw [List.append_nil]
      exact fin ys s h
theorem comp_ix {t : Tg} {ifs : Exs} {e : Ex} {it : It} {env : LI.Env} {s : Sto} {Q : PQ} {X : PX} (n : Nat) (g : Nat → W) (I : Nat → List W → Sto → Prop)
    (hn : okN n = true) (hz : okN T.sz = true)
    (hI : ∀ i ys s, i ≤ n → I i ys s → Its T.sz s it n g) (h0 : I 0 [] s)
    (step : ∀ i ys s, i < n → I i ys s → compK T cf ci t ifs e env (g i) s (fun o s1 => I (i + 1) (ys ++ cat o []) s1) X)
    (fin : ∀ ys s, I n ys s → Q (.lst ys) s) : cmpL T cf ci t ifs e env it s Q X := by
  refine ⟨?_⟩
  have step' : ∀ i ys s, i < n → I i ys s → WP (cmpF T cf ci t ifs e env (g i) s) (fun o s1 => I (i + 1) (ys ++ cat o []) s1) X := fun i ys s hi h => compK_s (step i ys s hi h)
  cases it with
  | lst xs =>
    obtain ⟨hl, hg⟩ := hI 0 [] s (Nat.zero_le n) h0
    show WP (if okN xs.length then _ else .no) _ X
    rw [hl, if_pos hn]
    have := compL_ix (Q := fun ys s => Q (.lst ys) s) I step' fin xs 0 [] s (by omega) (fun j hj => by rw [hg j (by omega), Nat.zero_add]) h0
    simpa using this
  | cel c en =>
    show WP (if okN T.sz then _ else .no) _ X
    rw [if_pos hz]
    have hsz := (hI 0 [] s (Nat.zero_le n) h0).1
    have := compC_ix (Q := fun ys s => Q (.lst ys) s) I hI step' fin T.sz 0 [] s (Nat.zero_le n) (by omega) h0
    simpa using this
/-! ### while -/
theorem whl_m {c : Ex} {b : Sts} {Q : SQ} {X : SX} (I : Nat → LI.Env → Sto → Prop)
    (step : ∀ m env s, I m env s → wp T cf ci c true env s (fun x s1 => bK x (wss T cf ci b env s1 (lpQ (fun e s2 => ∃ m', m' < m ∧ I m' e s2) Q) X) (Q .nx env s1)) (fun x s1 => X x env s1)) :
    ∀ (n m : Nat) (env : LI.Env) (s : Sto), m < n → I m env s → WS (whlL (fun env s => evT T cf ci c env s) (fun env s => exSs T cf ci b env s) n env s) Q X
  | 0, m, env, s, hm, h => absurd hm (by omega)
  | n + 1, m, env, s, hm, h => by
    have z := wp_s c true env s _ _ (step m env s h)
    unfold whlL
    show WS (match (ev T cf ci c true env s).bind toB with | .ok true s1 => _ | .ok false s1 => _ | .ex x s1 => _ | .no => _) Q X
    revert z
    cases ev T cf ci c true env s with
    | ok x s1 =>
      intro z
      cases x with
      | bl k =>
        cases k with
        | false => exact z
        | true =>
          have z := wss_s b env s1 _ _ z
          revert z
          show WS (exSs T cf ci b env s1) _ _ → WS (match exSs T cf ci b env s1 with | .ok .nx env2 s2 => _ | .ok .ct env2 s2 => _ | .ok .bk env2 s2 => _ | r => r) Q X
          cases exSs T cf ci b env s1 with
          | ok o e2 s2 =>
            have rec_ : (∃ m', m' < m ∧ I m' e2 s2) → WS (whlL (fun env s => evT T cf ci c env s) (fun env s => exSs T cf ci b env s) n e2 s2) Q X := fun ⟨m', h1, h2⟩ => whl_m I step n m' e2 s2 (by omega) h2
            cases o with
            | nx => exact rec_
            | ct => exact rec_
            | bk => exact fun z => z
            | rt w => exact fun z => z
          | ex x e2 s2 => exact fun z => z
          | no => exact fun z => z
      | _ => exact z.elim
    | ex x s1 => exact fun z => z
    | no => exact fun z => z
theorem whl_i {c : Ex} {b : Sts} {env : LI.Env} {s : Sto} {Q : SQ} {X : SX} (I : Nat → LI.Env → Sto → Prop) (m : Nat) (hm : m < T.sz) (h : I m env s)
    (step : ∀ m env s, I m env s → wp T cf ci c true env s (fun x s1 => bK x (wss T cf ci b env s1 (lpQ (fun e s2 => ∃ m', m' < m ∧ I m' e s2) Q) X) (Q .nx env s1)) (fun x s1 => X x env s1)) :
    LOOP (exS T cf ci (.whl c b) env s) Q X := LOOP_i (whl_m I step T.sz m env s hm h)
end
/-! ### calls -/
def endQ (Q : PQ) : SQ := fun o _ s => match o with
  | .rt w => Q w s
  | .nx => Q .non s
  | _ => False
theorem call_i {T : Tab} {k f : Nat} {d : FD} {xs : List W} {s : Sto} {Q : PQ} {X : PX} (hd : T.fn f = some d) (hl : xs.length = d.np)
    (h : wss T (callF T k).1 (callF T k).2 d.body (envOf d.ns xs) s (endQ Q) (fun x _ s => X x s)) : CALL ((callF T (k + 1)).1 f xs s) Q X := by
  refine CALL_i ?_
  have z := wss_s _ _ _ _ _ h
  show WP (match T.fn f with | some d => _ | none => _) Q X
  rw [hd]
  show WP (if xs.length = d.np then _ else _) Q X
  rw [if_pos hl]
  revert z
  cases exSs T (callF T k).1 (callF T k).2 d.body (envOf d.ns xs) s with
  | ok o e s1 => cases o <;> first | exact fun z => z | exact fun z => z.elim
  | ex x e s1 => exact fun z => z
  | no => exact fun z => z
theorem calli_i {T : Tab} {k f c : Nat} {d : FD} {xs : List W} {s : Sto} {Q : List Nat × List W → Sto → Prop} {X : PX} (hd : T.fn f = some d) (hl : xs.length + 1 = d.np)
    (h : wss T (callF T k).1 (callF T k).2 d.body (.self c [] [] :: envOf (d.ns - 1) xs) s (fun o e s1 => match o, e with
      | .nx, .self c' ks fs :: _ => c' = c ∧ Q (ks, fs) s1
      | _, _ => False) (fun x _ s => X x s)) : CALL ((callF T (k + 1)).2 f c xs s) Q X := by
  refine CALL_i ?_
  have z := wss_s _ _ _ _ _ h
  show WP (match T.fn f with | some d => _ | none => _) Q X
  rw [hd]
  show WP (if xs.length + 1 = d.np then _ else _) Q X
  rw [if_pos hl]
  revert z
  cases exSs T (callF T k).1 (callF T k).2 d.body (.self c [] [] :: envOf (d.ns - 1) xs) s with
  | ok o e s1 =>
    cases o with
    | nx =>
      cases e with
      | nil => exact fun z => z.elim
      | cons a r =>
        cases a with
        | self c' ks fs =>
          intro z
          show WP (if c' = c then _ else _) Q X
          rw [if_pos z.1]; exact z.2
        | _ => exact fun z => z.elim
    | _ => exact fun z => z.elim
  | ex x e s1 => exact fun z => z
  | no => exact fun z => z
end LV
end
section
set_option Elab.async false
set_option linter.all false
set_option maxRecDepth 100000
set_option maxHeartbeats 4000000
/-! LiLaw: what the laws' own helpers do. -/
namespace LV
open PySem LI
def poolB : Sts := (.cons (.set 2 (.int 0)) (.cons (.ife (.cmp .lt (.var 1) (.bi .len (.cons (.var 0) .nil))) (.cons (.set 2 (.bi .abs (.cons (.bi .int (.cons (.ix (.var 0) (.var 1)) .nil)) .nil))) .nil) .nil) (.cons (.ife (.cmp .ge (.var 2) (.bin .pow (.int 10) (.int 18))) (.cons (.ret (.cell (.lst (.cons (.int 1) (.cons (.var 2) (.cons (.int 0) (.cons (.bin .add (.var 1) (.int 1)) .nil))))))) .nil) .nil) (.cons (.ret (.cell (.lst (.cons (.int 0) (.cons (.var 2) (.cons (.int 0) (.cons (.bin .add (.var 1) (.int 1)) .nil))))))) .nil))))
def drawB : Sts := (.cons (.ife (.cmp .eq (.ix (.var 0) (.int 0)) (.int 1)) (.cons (.set 2 (.bin .mod (.bi .int (.cons (.ix (.var 0) (.int 1)) .nil)) (.var 1))) (.cons (.cSet (.var 0) (.int 1) (.bin .fdiv (.bi .int (.cons (.ix (.var 0) (.int 1)) .nil)) (.var 1))) (.cons (.ife (.cmp .eq (.ix (.var 0) (.int 1)) (.int 0)) (.cons (.cSet (.var 0) (.int 0) (.int 0)) (.cons (.cSet (.var 0) (.int 1) (.var 2)) .nil)) .nil) (.cons (.ret (.var 2)) .nil)))) .nil) (.cons (.cSet (.var 0) (.int 2) (.bin .add (.ix (.var 0) (.int 2)) (.int 1))) (.cons (.set 3 (.bin .mod (.bi .int (.cons (.bin .add (.bin .add (.bin .add (.bin .mul (.ix (.var 0) (.int 1)) (.int 48271)) (.bin .mul (.ix (.var 0) (.int 2)) (.int 69621))) (.bin .mul (.ix (.var 0) (.int 3)) (.int 16807))) (.int 11)) .nil)) (.int 2147483647))) (.cons (.set 3 (.bin .mod (.bi .int (.cons (.bin .add (.bin .add (.bin .mul (.var 3) (.var 3)) (.bin .mul (.ix (.var 0) (.int 2)) (.int 40692))) (.ix (.var 0) (.int 3))) .nil)) (.int 2147483399))) (.cons (.set 3 (.bin .mod (.bi .int (.cons (.bin .add (.bin .mul (.var 3) (.var 3)) (.int 7919)) .nil)) (.int 1000000007))) (.cons (.ret (.bin .mod (.bi .int (.cons (.bin .fdiv (.var 3) (.int 13)) .nil)) (.var 1))) .nil))))))
def numB : Sts := (.cons (.ret (.and (.isi (.var 0) [.ty "int"]) (.not (.isi (.var 0) [.ty "bool"])))) .nil)
def sameB (fn fs : Nat) : Sts := (.cons (.ife (.or (.isi (.var 1) [.ty "list"]) (.isi (.var 1) [.ty "tuple"])) (.cons (.ife (.and (.isi (.var 1) [.ty "list"]) (.not (.isi (.var 0) [.ty "list"]))) (.cons (.ret (.bl false)) .nil) .nil) (.cons (.ife (.and (.isi (.var 1) [.ty "tuple"]) (.not (.isi (.var 0) [.ty "tuple"]))) (.cons (.ret (.bl false)) .nil) .nil) (.cons (.ife (.cmp .ne (.bi .len (.cons (.var 0) .nil)) (.bi .len (.cons (.var 1) .nil))) (.cons (.ret (.bl false)) .nil) .nil) (.cons (.for_ (.nm 2) (.rng1 (.bi .len (.cons (.var 1) .nil))) (.cons (.ife (.not (.call fs (.cons (.ix (.var 0) (.var 2)) (.cons (.ix (.var 1) (.var 2)) .nil)))) (.cons (.ret (.bl false)) .nil) .nil) .nil)) (.cons (.ret (.bl true)) .nil))))) .nil) (.cons (.ife (.isN (.var 1)) (.cons (.ret (.isN (.var 0))) .nil) .nil) (.cons (.ife (.isi (.var 1) [.ty "bool"]) (.cons (.ret (.and (.isi (.var 0) [.ty "bool"]) (.cmp .eq (.var 0) (.var 1)))) .nil) .nil) (.cons (.ife (.isi (.var 1) [.ty "int"]) (.cons (.ret (.and (.call fn (.cons (.var 0) .nil)) (.cmp .eq (.var 0) (.var 1)))) .nil) .nil) (.cons (.ret (.and (.isi (.var 0) [.ty "str"]) (.cmp .eq (.var 0) (.var 1)))) .nil)))))
def beyB (fd : Nat) : Sts := (.cons (.set 2 (.call fd (.cons (.var 0) (.cons (.ix (.lst (.cons (.int 1) (.cons (.int 9) (.cons (.int 999900) .nil)))) (.call fd (.cons (.var 0) (.cons (.int 3) .nil)))) .nil)))) (.cons (.ife (.cmp .eq (.call fd (.cons (.var 0) (.cons (.int 2) .nil))) (.int 0)) (.cons (.ret (.bin .add (.bin .add (.var 1) (.int 1)) (.var 2))) .nil) .nil) (.cons (.ret (.bin .sub (.neg (.int 1)) (.var 2))) .nil)))
theorem celL_i {s : Sto} {n : Nat} {xs : List W} (h : s[n]? = some (.lst xs)) : celL s n = some xs := by unfold celL; rw [h]
theorem celL_e {s : Sto} {n : Nat} {xs : List W} (h : celL s n = some xs) : s[n]? = some (.lst xs) := by
  unfold celL at h
  cases q : s[n]? with
  | none => rw [q] at h; cases h
  | some c => rw [q] at h; cases c <;> first | (cases h; rfl) | cases h
theorem celL_lt {s : Sto} {n : Nat} {xs : List W} (h : celL s n = some xs) : n < s.length := by
  have := celL_e h
  exact (List.getElem?_eq_some_iff.mp this).1
theorem celL_set {s : Sto} {n : Nat} {xs ys : List W} (h : celL s n = some ys) : celL (s.set n (.lst xs)) n = some xs := by
  have := celL_lt h
  exact celL_i (by rw [List.getElem?_set_self this])
theorem celL_ne {s : Sto} {n m : Nat} {c : Cl} {xs : List W} (hn : m ≠ n) (h : celL s n = some xs) : celL (s.set m c) n = some xs := by
  refine celL_i ?_
  rw [List.getElem?_set_ne hn]; exact celL_e h
theorem celL_app {s r : Sto} {n : Nat} {xs : List W} (h : celL s n = some xs) : celL (s ++ r) n = some xs := by
  have := celL_lt h
  refine celL_i ?_
  rw [List.getElem?_append_left this]; exact celL_e h
theorem celL_new {s : Sto} {xs : List W} : celL (s ++ [.lst xs]) s.length = some xs := celL_i (by simp)
theorem mulOk_r {i j : Int} (h1 : -(2 ^ 64) < j) (h2 : j < 2 ^ 64) : mulOk i j = true := by
  unfold mulOk
  rw [decide_eq_true h1, decide_eq_true h2]
  simp
theorem mulOk_l {i j : Int} (h1 : -(2 ^ 64) < i) (h2 : i < 2 ^ 64) : mulOk i j = true := by
  unfold mulOk
  rw [decide_eq_true h1, decide_eq_true h2]
  simp
end LV
local macro_rules
  | `(tactic| and_intros) => `(tactic| repeat ((conv => whnf); first
    | (refine LV.JOIN_i ?_)
    | (refine LV.oK_i (by first | assumption | exact LV.celL_set (by assumption) | exact LV.celL_set (LV.celL_set (by assumption)) | exact LV.celL_new) ?_)
    | (refine And.intro (by first | assumption | exact LV.mulOk_r (by decide) (by decide) | decide | omega | exact ⟨by omega, by omega⟩ | exact LV.mulOk_l (by omega) (by omega)) ?_)))
local macro_rules
  | `(tactic| ac_rfl) => `(tactic| repeat' ((conv => whnf); first
    | (refine LV.JOIN_i ?_)
    | (refine LV.oK_i (by first | assumption | exact LV.celL_set (by assumption) | exact LV.celL_set (LV.celL_set (by assumption)) | exact LV.celL_new) ?_)
    | (refine And.intro (by first | assumption | exact LV.mulOk_r (by decide) (by decide) | decide | omega | exact ⟨by omega, by omega⟩ | exact LV.mulOk_l (by omega) (by omega)) ?_)
    | (refine And.intro (fun h => ?_) (fun h => ?_) <;> try (exfalso; omega))))
local macro_rules
  | `(tactic| rfl') => `(tactic| ((conv => whnf); repeat (refine LV.JOIN_i ?_; (conv => whnf))))
namespace LV
open PySem LI
/-! ### the drawn numbers -/
def Pool (s : Sto) (p : Nat) : Prop := ∃ f a c k : Int, celL s p = some [.int f, .int a, .int c, .int k]
/-- nothing but this cell is changed -/
def Fr (p : Nat) (s s' : Sto) : Prop := s.length ≤ s'.length ∧ ∀ n, n < s.length → n ≠ p → s'[n]? = s[n]?
theorem Fr.refl {p : Nat} {s : Sto} : Fr p s s := ⟨Nat.le_refl _, fun _ _ _ => rfl⟩
theorem Fr.trans {p : Nat} {s s1 s2 : Sto} (h : Fr p s s1) (g : Fr p s1 s2) : Fr p s s2 := ⟨Nat.le_trans h.1 g.1, fun n hn hp => by rw [g.2 n (Nat.lt_of_lt_of_le hn h.1) hp, h.2 n hn hp]⟩
theorem Fr.set {p : Nat} {s : Sto} {c : Cl} : Fr p s (s.set p c) := ⟨by simp, fun n _ hp => List.getElem?_set_ne (fun e => hp e.symm)⟩
theorem Fr.app {p : Nat} {s r : Sto} : Fr p s (s ++ r) := ⟨by simp, fun n hn _ => List.getElem?_append_left hn⟩
theorem Fr.cel {p n : Nat} {s s' : Sto} {xs : List W} (h : Fr p s s') (hn : n ≠ p) (hc : celL s n = some xs) : celL s' n = some xs := celL_i (by rw [h.2 n (celL_lt hc) hn]; exact celL_e hc)
theorem Pool.lt {s : Sto} {p : Nat} (h : Pool s p) : p < s.length := by obtain ⟨_, _, _, _, h⟩ := h; exact celL_lt h
theorem Pool.app {s r : Sto} {p : Nat} (h : Pool s p) : Pool (s ++ r) p := by obtain ⟨_, _, _, _, h⟩ := h; exact ⟨_, _, _, _, celL_app h⟩
theorem Pool.set {s : Sto} {p n : Nat} {c : Cl} (hn : n ≠ p) (h : Pool s p) : Pool (s.set n c) p := by obtain ⟨_, _, _, _, h⟩ := h; exact ⟨_, _, _, _, celL_ne hn h⟩
theorem Pool.fr {s s' : Sto} {p n : Nat} (hn : p ≠ n) (f : Fr n s s') (h : Pool s p) : Pool s' p := by obtain ⟨_, _, _, _, h⟩ := h; exact ⟨_, _, _, _, f.cel hn h⟩
def DrawS (cf : Call) (f : Nat) : Prop := ∀ (p : Nat) (m : Int) (s : Sto) (Q : PQ) (X : PX), Pool s p → 0 < m → m < 1073741824 →
  (∀ r s', Pool s' p → Fr p s s' → 0 ≤ r → r < m → Q (.int r) s') → CALL (cf f [.cell p, .int m] s) Q X
theorem draw_b {T : Tab} {cf : Call} {ci : CallI} {p : Nat} {m : Int} {s : Sto} {Q : PQ} {X : SX} (hp : Pool s p) (h1 : 0 < m) (h2 : m < 1073741824)
    (hq : ∀ r s', Pool s' p → Fr p s s' → 0 ≤ r → r < m → Q (.int r) s') : wss T cf ci drawB (envOf 4 [.cell p, .int m]) s (endQ Q) X := by
  obtain ⟨f, a, c, k, hc⟩ := hp
  and_intros
  refine ⟨fun h => ?_, fun h => ?_⟩
  · and_intros
    refine ⟨fun h => ?_, fun h => ?_⟩
    · and_intros
      (conv => whnf)
      exact hq _ _ ⟨_, _, _, _, celL_set (celL_set (celL_set hc))⟩ (Fr.set.trans (Fr.set.trans Fr.set)) (Int.emod_nonneg _ (by omega)) (Int.emod_lt_of_pos _ h1)
    · and_intros
      (conv => whnf)
      exact hq _ _ ⟨_, _, _, _, celL_set hc⟩ Fr.set (Int.emod_nonneg _ (by omega)) (Int.emod_lt_of_pos _ h1)
  · and_intros
    (conv => whnf)
    exact hq _ _ ⟨_, _, _, _, celL_set hc⟩ Fr.set (Int.emod_nonneg _ (by omega)) (Int.emod_lt_of_pos _ h1)
/-! ### pools -/
theorem pool_b {T : Tab} {cf : Call} {ci : CallI} {k : Int} {ns : List Int} {s : Sto} {Q : PQ} {X : SX} (hk : 0 ≤ k)
    (hq : ∀ c, Pool (s ++ [c]) s.length → Q (.cell s.length) (s ++ [c])) : wss T cf ci poolB (envOf 3 [.scr ns, .int k]) s (endQ Q) X := by
  have h2 : k < ns.length → ∃ v, atI ns k = some v := fun h => by
    refine ⟨ns[k.toNat]'(by omega), ?_⟩
    unfold atI ixN
    rw [if_pos hk, if_pos h]
    simp
  rfl'
  refine ⟨fun h => ?_, fun h => ?_⟩
  · obtain ⟨v, h2⟩ := h2 h
    ac_rfl
    · rfl'
      exact hq _ ⟨_, _, _, _, celL_new⟩
    · rfl'
      exact hq _ ⟨_, _, _, _, celL_new⟩
  · rfl'
    refine ⟨fun h => ?_, fun h => ?_⟩
    · rfl'
      exact hq _ ⟨_, _, _, _, celL_new⟩
    · rfl'
      exact hq _ ⟨_, _, _, _, celL_new⟩
theorem num_b {T : Tab} {cf : Call} {ci : CallI} {i : Int} {s : Sto} {Q : PQ} {X : SX}
    (hq : Q (.bl true) s) : wss T cf ci numB (envOf 1 [.int i]) s (endQ Q) X := by
  rfl'
  exact hq
/-! ### _law_same -/
inductive SameN (s : Sto) : Nat → W → W → Prop
  | non {n : Nat} : SameN s (n + 1) .non .non
  | bl {n : Nat} {b : Bool} : SameN s (n + 1) (.bl b) (.bl b)
  | int {n : Nat} {i : Int} : SameN s (n + 1) (.int i) (.int i)
  | str {n : Nat} {z : Str} : SameN s (n + 1) (.str z) (.str z)
  | lst {n : Nat} {a d : W} {xs ys : List W} (ha : lstOf s a = some xs) (hd : lstOf s d = some ys) (hl : xs.length = ys.length) (ok : okN ys.length = true)
      (h : ∀ (i : Nat) (x y : W), xs[i]? = some x → ys[i]? = some y → SameN s n x y) : SameN s (n + 1) a d
  | tup {n : Nat} {xs ys : List W} (hl : xs.length = ys.length) (ok : okN ys.length = true)
      (h : ∀ (i : Nat) (x y : W), xs[i]? = some x → ys[i]? = some y → SameN s n x y) : SameN s (n + 1) (.tup xs) (.tup ys)
def SameS (cf : Call) (f n : Nat) : Prop := ∀ (a d : W) (s : Sto) (Q : PQ) (X : PX), SameN s n a d → Q (.bl true) s → CALL (cf f [a, d] s) Q X
def NumS (cf : Call) (f : Nat) : Prop := ∀ (i : Int) (s : Sto) (Q : PQ) (X : PX), Q (.bl true) s → CALL (cf f [.int i] s) Q X
theorem lst_seq {s : Sto} {a : W} {xs : List W} (h : lstOf s a = some xs) : seqOf s a = some xs := by
  cases a <;> first | exact h | cases h
theorem ty_lst {T : Tab} {s : Sto} {a : W} {xs : List W} (h : lstOf s a = some xs) : isTys T s a [.ty "list"] = some true := by
  cases a with
  | lst ys => rfl
  | cell n =>
    have e : s[n]? = some (.lst xs) := celL_e h
    unfold isTys tnOf
    dsimp only
    rw [e]
    rfl
  | _ => cases h
theorem ty_tup {T : Tab} {s : Sto} {a : W} {xs : List W} (h : lstOf s a = some xs) : isTys T s a [.ty "tuple"] = some false := by
  cases a with
  | lst ys => rfl
  | cell n =>
    have e : s[n]? = some (.lst xs) := celL_e h
    unfold isTys tnOf
    dsimp only
    rw [e]
    rfl
  | _ => cases h
theorem atI_nat {α : Type} {xs : List α} {i : Nat} (h : i < xs.length) : atI xs (i : Int) = some xs[i] := by
  unfold atI ixN
  rw [if_pos (by omega), if_pos (by omega)]
  simp
theorem rOk_nat {n : Nat} (h : okN n = true) : rOk (n : Int) = true := by
  unfold okN at h
  have h := of_decide_eq_true h
  unfold rOk
  rw [decide_eq_true (by omega), decide_eq_true (by omega)]
  rfl
theorem rngC_len {a c : Int} : ∀ {n : Nat}, (rngC a c n).length = n
  | 0 => rfl
  | n + 1 => by simp [rngC, rngC_len]
theorem rngC_at {c : Int} : ∀ {n : Nat} {a : Int} {i : Nat}, i < n → (rngC a c n)[i]? = some (.int (a + c * i))
  | n + 1, a, 0, _ => by simp [rngC]
  | n + 1, a, i + 1, h => by
    have := rngC_at (c := c) (n := n) (a := a + c) (i := i) (by omega)
    simp only [rngC, List.getElem?_cons_succ, this]
    congr 2
    have : c * ((i + 1 : Nat) : Int) = c * i + c := by rw [Int.natCast_succ, Int.mul_add, Int.mul_one]
    omega
theorem rngLen_nat {n : Nat} : rngLen 0 (n : Int) 1 = n := by
  unfold rngLen
  rw [if_pos (by decide)]
  by_cases h : n = 0
  · subst h; rfl
  · rw [if_pos (by omega)]
    have : ((n : Int) - 0 - 1) / 1 + 1 = n := by omega
    rw [this]; simp
/-- range(n) -/
theorem rng_i {n : Nat} {s : Sto} {k : It → Sto → Prop} (h : okN n = true) (hk : k (.lst (rngC 0 1 n)) s) : rngK 0 (n : Int) 1 s k := by
  refine ⟨?_⟩
  rw [rngLen_nat]
  exact ⟨⟨by decide, rOk_nat h, h⟩, hk⟩
theorem its_rng {sz n : Nat} {s : Sto} : Its sz s (.lst (rngC 0 1 n)) n (fun i => .int i) :=
  ⟨rngC_len, fun i hi => by rw [rngC_at hi]; congr 2; omega⟩
theorem same_loop {T : Tab} {cf : Call} {ci : CallI} {fs n : Nat} {a d : W} {xs ys : List W} {s : Sto} {Q : SQ} {X : SX} (hs : SameS cf fs n)
    (ha : seqOf s a = some xs) (hd : seqOf s d = some ys) (hl : xs.length = ys.length)
    (h : ∀ (i : Nat) (x y : W), xs[i]? = some x → ys[i]? = some y → SameN s n x y) (hq : ∀ z, Q .nx [.v a, .v d, z] s) :
    LOOP (forI (.nm 2) (fun env s => exSs T cf ci (.cons (.ife (.not (.call fs (.cons (.ix (.var 0) (.var 2)) (.cons (.ix (.var 1) (.var 2)) .nil)))) (.cons (.ret (.bl false)) .nil) .nil) .nil) env s) T.sz (.lst (rngC 0 1 ys.length)) (envOf 3 [a, d]) s) Q X := by
  refine for_ix ys.length (fun i => .int i) (fun i env s' => s' = s ∧ ∃ z, env = [.v a, .v d, z]) (fun _ _ _ _ _ => its_rng) ⟨rfl, _, rfl⟩ ?_ ?_
  · rintro i env s' hi ⟨rfl, z, rfl⟩
    rfl'
    refine ixK_i ha (atI_nat (by omega)) ?_
    rfl'
    refine ixK_i hd (atI_nat hi) ?_
    rfl'
    refine hs _ _ _ _ _ (h i _ _ (List.getElem?_eq_getElem (by omega)) (List.getElem?_eq_getElem hi)) ?_
    rfl'
    exact ⟨rfl, _, rfl⟩
  · rintro env s' ⟨rfl, z, rfl⟩
    exact hq z
theorem same_b {T : Tab} {cf : Call} {ci : CallI} {fn fs n : Nat} {a d : W} {s : Sto} {Q : PQ} {X : SX} (hn : NumS cf fn) (hs : SameS cf fs n)
    (h : SameN s (n + 1) a d) (hq : Q (.bl true) s) : wss T cf ci (sameB fn fs) (envOf 3 [a, d]) s (endQ Q) X := by
  cases h with
  | non => rfl'; exact hq
  | bl =>
    rename_i b
    rfl'
    show Q (.bl (b == b)) s
    rw [beq_self_eq_true]; exact hq
  | int =>
    rename_i i
    rfl'
    refine hn _ _ _ _ ?_
    rfl'
    show Q (.bl (i == i)) s
    rw [beq_self_eq_true]; exact hq
  | str =>
    rename_i z
    rfl'
    show Q (.bl (z == z)) s
    rw [beq_self_eq_true]; exact hq
  | lst ha hd hl ok h =>
    rfl'
    refine oK_i (ty_lst hd) ?_
    rfl'
    refine oK_i (ty_lst hd) ?_
    rfl'
    refine oK_i (ty_lst ha) ?_
    rfl'
    refine oK_i (ty_tup hd) ?_
    rfl'
    refine lenK_i (lst_seq ha) ?_
    rfl'
    refine lenK_i (lst_seq hd) ?_
    rfl'
    refine ⟨fun _ => ?_, fun h => absurd (by omega) h⟩
    rfl'
    refine lenK_i (lst_seq hd) ?_
    rfl'
    refine rng_i ok ?_
    refine same_loop hs (lst_seq ha) (lst_seq hd) hl h fun z => ?_
    exact hq
  | tup hl ok h =>
    rfl'
    refine ⟨fun _ => ?_, fun h => absurd (by omega) h⟩
    rfl'
    refine rng_i ok ?_
    refine same_loop hs rfl rfl hl h fun z => ?_
    exact hq
def BeyS (cf : Call) (f : Nat) : Prop := ∀ (p : Nat) (t : Int) (s : Sto) (Q : PQ) (X : PX), Pool s p →
  (∀ r s', Pool s' p → Fr p s s' → (r < 0 ∨ t < r) → Q (.int r) s') → CALL (cf f [.cell p, .int t] s) Q X
theorem bey_b {T : Tab} {cf : Call} {ci : CallI} {fd p : Nat} {t : Int} {s : Sto} {Q : PQ} {X : SX} (hd : DrawS cf fd) (hp : Pool s p)
    (hq : ∀ r s', Pool s' p → Fr p s s' → (r < 0 ∨ t < r) → Q (.int r) s') : wss T cf ci (beyB fd) (envOf 3 [.cell p, .int t]) s (endQ Q) X := by
  rfl'
  refine hd _ _ _ _ _ hp (by omega) (by omega) fun r s1 p1 f1 h1 h2 => ?_
  have : r = 0 ∨ r = 1 ∨ r = 2 := by omega
  have key : ∀ m : Int, 0 < m → m < 1000000 → CALL (cf fd [.cell p, .int m] s1) (fun z s2 => tK false s2 z fun x s3 => wss T cf ci (.cons (.ife (.cmp .eq (.call fd (.cons (.var 0) (.cons (.int 2) .nil))) (.int 0)) (.cons (.ret (.bin .add (.bin .add (.var 1) (.int 1)) (.var 2))) .nil) .nil) (.cons (.ret (.bin .sub (.neg (.int 1)) (.var 2))) .nil)) [.v (.cell p), .v (.int t), .v x] s3 (endQ Q) X) (fun x s2 => X x (envOf 3 [.cell p, .int t]) s2) := by
    intro m m1 m2
    refine hd _ _ _ _ _ p1 m1 (by omega) fun v s2 p2 f2 h3 h4 => ?_
    rfl'
    refine hd _ _ _ _ _ p2 (by omega) (by omega) fun w s3 p3 f3 h5 h6 => ?_
    rfl'
    refine ⟨fun _ => ?_, fun _ => ?_⟩
    · rfl'
      exact hq _ _ p3 (f1.trans (f2.trans f3)) (by omega)
    · rfl'
      exact hq _ _ p3 (f1.trans (f2.trans f3)) (by omega)
  rcases this with rfl | rfl | rfl
  · rfl'
    exact key 1 (by omega) (by omega)
  · rfl'
    exact key 9 (by omega) (by omega)
  · rfl'
    exact key 999900 (by omega) (by omega)
end LV
end
section
set_option Elab.async false
set_option linter.all false
set_option maxRecDepth 100000
set_option maxHeartbeats 4000000
/-! LiLoop: loops and comprehensions over typed lists. -/
local macro_rules
  | `(tactic| rfl') => `(tactic| ((conv => whnf); repeat (refine LV.JOIN_i ?_; (conv => whnf))))
namespace LV
open PySem LI
/-- the i-th item -/
def gI (xs : List W) (i : Nat) : W := (xs[i]?).getD .non
def gE (xs : List W) (i : Nat) : W := .tup [.int i, gI xs i]
theorem gI_at {xs : List W} {i : Nat} (h : i < xs.length) : xs[i]? = some (gI xs i) := by
  unfold gI
  rw [List.getElem?_eq_getElem h]; rfl
theorem gI_map {α : Type} {r : List α} {f : α → W} {i : Nat} (h : i < r.length) : gI (r.map f) i = f r[i] := by
  unfold gI
  rw [List.getElem?_map, List.getElem?_eq_getElem h]; rfl
theorem gI_map' {α : Type} {r : List α} {f : α → W} {i : Nat} {a : α} (h : r[i]? = some a) : gI (r.map f) i = f a := by
  unfold gI
  rw [List.getElem?_map, h]; rfl
theorem enumL_len : ∀ {xs : List W} {k : Int}, (enumL k xs).length = xs.length
  | [], _ => rfl
  | x :: r, k => by simp [enumL, enumL_len]
theorem enumL_at : ∀ {xs : List W} {k : Int} {i : Nat}, i < xs.length → (enumL k xs)[i]? = some (.tup [.int (k + i), gI xs i])
  | x :: r, k, 0, _ => by simp [enumL, gI]
  | x :: r, k, i + 1, h => by
    have := enumL_at (xs := r) (k := k + 1) (i := i) (by simpa using h)
    simp only [enumL, List.getElem?_cons_succ, this, gI]
    congr 4
    omega
/-- what a for over a list, a tuple or a cell walks -/
theorem itK_i {sz : Nat} {s : Sto} {x : W} {xs : List W} {en : Bool} {k : It → Prop} (h : seqOf s x = some xs) (hz : xs.length < sz)
    (hk : ∀ it, (∀ s', seqOf s' x = some xs → Its sz s' it xs.length (if en then gE xs else gI xs)) → k it) : itK s en x k := by
  have hl : ∀ s' : Sto, Its sz s' (.lst (if en then enumL 0 xs else xs)) xs.length (if en then gE xs else gI xs) := by
    intro s'
    cases en with
    | false => exact ⟨rfl, fun i hi => gI_at hi⟩
    | true =>
      refine ⟨enumL_len, fun i hi => ?_⟩
      rw [if_pos rfl, enumL_at hi, Int.zero_add]
      rfl
  cases x with
  | lst ys => cases h; exact hk _ fun s' _ => hl s'
  | tup ys => cases h; exact hk _ fun s' _ => hl s'
  | cell n =>
    refine oK_i (show celL s n = some xs from h) (hk _ fun s' hs' => ⟨hz, xs, hs', rfl, fun i hi => ?_⟩)
    cases en with
    | false => rw [gI_at hi]; rfl
    | true => rw [gI_at hi]; rfl
  | _ => cases h
section
variable {T : Tab} {cf : Call} {ci : CallI}
/-- a comprehension that changes nothing -/
theorem comp_lst {α : Type} {t : Tg} {ifs : Exs} {e : Ex} {it : It} {env : LI.Env} {s : Sto} {Q : PQ} {X : PX} {g : Nat → W} (r : List α) (f : α → W)
    (hI : Its T.sz s it r.length g) (hn : okN r.length = true) (hz : okN T.sz = true)
    (step : ∀ i a, r[i]? = some a → ∀ Q' : Option W → Sto → Prop, Q' (some (f a)) s → compK T cf ci t ifs e env (g i) s Q' X)
    (fin : Q (.lst (r.map f)) s) : cmpL T cf ci t ifs e env it s Q X := by
  refine comp_ix r.length g (fun i ys s' => s' = s ∧ ys = (r.take i).map f) hn hz (fun i ys s' _ h => by rw [h.1]; exact hI) ⟨rfl, by simp⟩ ?_ ?_
  · rintro i ys s' hi ⟨rfl, rfl⟩
    refine step i r[i] (List.getElem?_eq_getElem hi) _ ⟨rfl, ?_⟩
    show (r.take i).map f ++ [f r[i]] = (r.take (i + 1)).map f
    rw [List.take_succ, List.getElem?_eq_getElem hi, List.map_append]
    rfl
  · rintro ys s' ⟨rfl, rfl⟩
    rw [List.take_length]
    exact fin
/-- .. that keeps some items -/
theorem comp_fil {α : Type} {t : Tg} {ifs : Exs} {e : Ex} {it : It} {env : LI.Env} {s : Sto} {Q : PQ} {X : PX} {g : Nat → W} (r : List α) (f : α → Option W)
    (hI : Its T.sz s it r.length g) (hn : okN r.length = true) (hz : okN T.sz = true)
    (step : ∀ i a, r[i]? = some a → ∀ Q' : Option W → Sto → Prop, Q' (f a) s → compK T cf ci t ifs e env (g i) s Q' X)
    (fin : Q (.lst (r.filterMap f)) s) : cmpL T cf ci t ifs e env it s Q X := by
  refine comp_ix r.length g (fun i ys s' => s' = s ∧ ys = (r.take i).filterMap f) hn hz (fun i ys s' _ h => by rw [h.1]; exact hI) ⟨rfl, by simp⟩ ?_ ?_
  · rintro i ys s' hi ⟨rfl, rfl⟩
    refine step i r[i] (List.getElem?_eq_getElem hi) _ ⟨rfl, ?_⟩
    rw [List.take_succ, List.getElem?_eq_getElem hi, List.filterMap_append]
    congr 1
    simp only [Option.toList_some, List.filterMap_cons, List.filterMap_nil]
    cases f r[i] <;> rfl
  · rintro ys s' ⟨rfl, rfl⟩
    rw [List.take_length]
    exact fin
/-- .. of drawn things -/
theorem comp_dr {α : Type} {t : Tg} {e : Ex} {it : It} {env : LI.Env} {s : Sto} {Q : PQ} {X : PX} {g : Nat → W} {n p : Nat} (P : α → Prop) (f : α → W)
    (hp : Pool s p) (hI : ∀ s, Its T.sz s it n g) (hn : okN n = true) (hz : okN T.sz = true)
    (step : ∀ i s', i < n → Pool s' p → Fr p s s' → ∀ Q' : Option W → Sto → Prop, (∀ z s1, Pool s1 p → Fr p s' s1 → P z → Q' (some (f z)) s1) → compK T cf ci t .nil e env (g i) s' Q' X)
    (fin : ∀ (zs : List α) (s' : Sto), Pool s' p → Fr p s s' → zs.length = n → (∀ z ∈ zs, P z) → Q (.lst (zs.map f)) s') : cmpL T cf ci t .nil e env it s Q X := by
  refine comp_ix n g (fun i ys s' => Pool s' p ∧ Fr p s s' ∧ ∃ zs : List α, ys = zs.map f ∧ zs.length = i ∧ ∀ z ∈ zs, P z) hn hz (fun i ys s' _ h => hI s') ⟨hp, Fr.refl, [], rfl, rfl, by simp⟩ ?_ ?_
  · rintro i ys s' hi ⟨p1, f1, zs, rfl, hl, hz⟩
    refine step i s' hi p1 f1 _ fun z s1 p2 f2 h => ⟨p2, f1.trans f2, zs ++ [z], by simp [cat], by simp [hl], fun y hy => ?_⟩
    rcases List.mem_append.mp hy with hy | hy
    · exact hz y hy
    · rw [List.mem_singleton.mp hy]; exact h
  · rintro ys s' ⟨p1, f1, zs, rfl, hl, hz⟩
    exact fin zs s' p1 f1 hl hz
/-- a for over drawn things, with the pool -/
theorem okN_i {n : Nat} (h : n ≤ 16777216) : okN n = true := decide_eq_true h
theorem blsOf_map : ∀ {l : List Bool}, blsOf (l.map .bl) = some l
  | [] => rfl
  | b :: r => by simp [blsOf, blsOf_map]
theorem blsOf_m2 {α : Type} {f : α → Bool} : ∀ {l : List α}, blsOf (l.map fun x => .bl (f x)) = some (l.map f)
  | [] => rfl
  | b :: r => by simp [blsOf, blsOf_m2]
theorem all_id {α : Type} {f : α → Bool} {l : List α} : (l.map f).all id = l.all f := by simp [List.all_map, Function.comp_def]
theorem any_id {α : Type} {f : α → Bool} {l : List α} : (l.map f).any id = l.any f := by simp [List.any_map, Function.comp_def]
theorem intsOf_map : ∀ {l : List Int}, intsOf (l.map .int) = some l
  | [] => rfl
  | b :: r => by simp [intsOf, intsOf_map]
theorem atI_map {α β : Type} {f : α → β} {r : List α} {i : Int} (h0 : 0 ≤ i) (h1 : i < r.length) : atI (r.map f) i = some (f (r[i.toNat]'(by omega))) := by
  unfold atI ixN
  rw [if_pos h0, if_pos (by simpa using h1)]
  show (r.map f)[i.toNat]? = _
  rw [List.getElem?_map, List.getElem?_eq_getElem (by omega)]
  rfl
theorem atI_some {α : Type} {r : List α} {i : Int} (h0 : 0 ≤ i) (h1 : i < r.length) : atI r i = some (r[i.toNat]'(by omega)) := by
  unfold atI ixN
  rw [if_pos h0, if_pos h1]
  simp
theorem cut_from {α : Type} {xs : List α} {i : Int} (h0 : 0 ≤ i) : cut xs (some i) none = xs.drop i.toNat := by
  unfold cut sIx
  dsimp only
  rw [if_neg (by omega)]
  by_cases h : i.toNat ≤ xs.length
  · rw [Nat.min_eq_left h, List.take_of_length_le (by rw [List.length_drop]; exact Nat.le_refl _)]
  · rw [Nat.min_eq_right (by omega), List.drop_length, List.drop_eq_nil_of_le (by omega)]; simp
theorem cut_upto {α : Type} {xs : List α} {i : Int} (h0 : 0 ≤ i) : cut xs none (some i) = xs.take i.toNat := by
  unfold cut sIx
  dsimp only
  rw [if_neg (by omega), List.drop_zero, Nat.sub_zero]
  by_cases h : i.toNat ≤ xs.length
  · rw [Nat.min_eq_left h]
  · rw [Nat.min_eq_right (by omega), List.take_length, List.take_of_length_le (by omega)]
theorem its_map {α : Type} {sz : Nat} {s : Sto} {f : α → W} {l : List α} : Its sz s (.lst (l.map f)) l.length (gI (l.map f)) :=
  ⟨List.length_map .., fun i hi => gI_at (by rw [List.length_map]; exact hi)⟩
/-! ### same things -/
theorem same_lst {α : Type} {s : Sto} {n : Nat} {a d : W} {l : List α} {f g : α → W} (ha : lstOf s a = some (l.map f)) (hd : lstOf s d = some (l.map g)) (ok : l.length ≤ 16777216)
    (h : ∀ x ∈ l, SameN s n (f x) (g x)) : SameN s (n + 1) a d := by
  refine SameN.lst ha hd (by simp) (okN_i (by simpa using ok)) fun i x y hx hy => ?_
  rw [List.getElem?_map] at hx hy
  cases q : l[i]? with
  | none => rw [q] at hx; cases hx
  | some z =>
    rw [q] at hx hy
    cases hx
    cases hy
    exact h z (List.mem_of_getElem? q)
theorem same_tup {α : Type} {s : Sto} {n : Nat} {l : List α} {f g : α → W} (ok : l.length ≤ 16777216)
    (h : ∀ x ∈ l, SameN s n (f x) (g x)) : SameN s (n + 1) (.tup (l.map f)) (.tup (l.map g)) := by
  refine SameN.tup (by simp) (okN_i (by simpa using ok)) fun i x y hx hy => ?_
  rw [List.getElem?_map] at hx hy
  cases q : l[i]? with
  | none => rw [q] at hx; cases hx
  | some z =>
    rw [q] at hx hy
    cases hx
    cases hy
    exact h z (List.mem_of_getElem? q)
theorem same_nil {s : Sto} {n : Nat} : SameN s (n + 1) (.tup []) (.tup []) := SameN.tup rfl (by decide) fun i x y hx => by simp at hx
theorem same_cons {s : Sto} {n : Nat} {x y : W} {xs ys : List W} (h : SameN s n x y) (hr : SameN s (n + 1) (.tup xs) (.tup ys)) (ok : ys.length ≤ 1000) : SameN s (n + 1) (.tup (x :: xs)) (.tup (y :: ys)) := by
  cases hr with
  | tup hl _ hh =>
    refine SameN.tup (by simp [hl]) (okN_i (by simp; omega)) fun i a b ha hb => ?_
    cases i with
    | zero => cases ha; cases hb; exact h
    | succ i => exact hh i a b ha hb
  | lst ha => cases ha
theorem seq_app {s r : Sto} {x : W} {xs : List W} (h : seqOf s x = some xs) : seqOf (s ++ r) x = some xs := by
  cases x with
  | cell n => exact celL_app (show celL s n = some xs from h)
  | _ => exact h
theorem seq_fr {s s' : Sto} {p : Nat} {x : W} {xs : List W} (f : Fr p s s') (hp : x ≠ .cell p) (h : seqOf s x = some xs) : seqOf s' x = some xs := by
  cases x with
  | cell n => exact f.cel (fun e => hp (by rw [e])) (show celL s n = some xs from h)
  | _ => exact h
end
end LV
end
section
set_option Elab.async false
set_option linter.all false
set_option maxRecDepth 100000
set_option maxHeartbeats 0
/-! The law's program in the small language (printed by gen_law.py). -/
namespace K48
open PySem LI
/-- check_height: 0=height -/
def b0 : Sts := (.cons (.ife (.not (.chain .le .le (.int 1) (.var 0) (.int 3))) (.cons (.raise 1 [] .nil) .nil) .nil) .nil)
def f0 : FD := ⟨1, 1, b0⟩
/-- check_rank: 0=height 1=rank -/
def b1 : Sts := (.cons (.ife (.not (.chain .le .le (.int 0) (.var 1) (.bin .mul (.int 2) (.var 0)))) (.cons (.raise 7 [0] (.cons (.var 1) .nil)) .nil) .nil) .nil)
def f1 : FD := ⟨2, 2, b1⟩
/-- check_step: 0=ladder 1=step -/
def b2 : Sts := (.cons (.ife (.not (.chain .le .le (.int 0) (.var 1) (.fld (.var 0) 1))) (.cons (.raise 6 [2] (.cons (.var 1) .nil)) .nil) .nil) .nil)
def f2 : FD := ⟨2, 2, b2⟩
/-- Reader.__init__: 0=self 1=ladder 2=start -/
def b3 : Sts := (.cons (.ife (.isN (.var 2)) (.cons (.cFld (.var 0) 2 (.fld (.var 1) 1)) .nil) (.cons (.expr (.call 2 (.cons (.var 1) (.cons (.var 2) .nil)))) (.cons (.cFld (.var 0) 2 (.var 2)) .nil))) (.cons (.cFld (.var 0) 3 (.var 1)) .nil))
def f3 : FD := ⟨3, 3, b3⟩
/-- Reader.off: 0=self -/
def b4 : Sts := (.cons (.ret (.isN (.fld (.var 0) 2))) .nil)
def f4 : FD := ⟨1, 1, b4⟩
/-- Reader.__call__: 0=self 1=rank -/
def b5 : Sts := (.cons (.expr (.call 1 (.cons (.fld (.fld (.var 0) 3) 4) (.cons (.var 1) .nil)))) (.cons (.ife (.notN (.fld (.var 0) 2)) (.cons (.cFld (.var 0) 2 (.meth 5 (.fld (.var 0) 3) (.cons (.fld (.var 0) 2) (.cons (.var 1) .nil)))) .nil) .nil) (.cons (.ret (.fld (.var 0) 2)) .nil)))
def f5 : FD := ⟨2, 2, b5⟩
/-- Reader.reset: 0=self 1=step -/
def b6 : Sts := (.cons (.expr (.call 2 (.cons (.fld (.var 0) 3) (.cons (.var 1) .nil)))) (.cons (.cFld (.var 0) 2 (.var 1)) .nil))
def f6 : FD := ⟨2, 2, b6⟩
/-- read: 0=ladder 1=word 2=start 3=reader 4=rank -/
def b7 : Sts := (.cons (.set 3 (.kmkC 8 (.cons (.var 0) .nil) (.var 2))) (.cons (.ret (.cell (.comp (.nm 4) (.seq (.var 1)) .nil (.cal (.var 3) (.cons (.var 4) .nil))))) .nil))
def f7 : FD := ⟨3, 5, b7⟩
/-- gap_of: 0=levels 1=one 2=other -/
def b8 : Sts := (.cons (.ret (.mx false (.sl (.var 0) (.bi .min2 (.cons (.var 1) (.cons (.var 2) .nil))) (.bi .max2 (.cons (.var 1) (.cons (.var 2) .nil)))) (.int 0))) .nil)
def f8 : FD := ⟨3, 3, b8⟩
/-- is_allowed: 0=levels 1=source 2=rank 3=target 4=gap -/
def b9 : Sts := (.cons (.set 4 (.call 8 (.cons (.var 0) (.cons (.var 1) (.cons (.var 3) .nil))))) (.cons (.ife (.cmp .eq (.bin .mod (.var 2) (.int 2)) (.int 0)) (.cons (.ret (.or (.cmp .ge (.var 1) (.var 3)) (.cmp .le (.var 4) (.bin .fdiv (.var 2) (.int 2))))) .nil) .nil) (.cons (.ret (.and (.cmp .gt (.var 1) (.var 3)) (.cmp .ge (.var 4) (.bin .fdiv (.bin .add (.var 2) (.int 1)) (.int 2))))) .nil)))
def f9 : FD := ⟨4, 5, b9⟩
/-- checked_row: 0=row 1=height 2=most 3=levels 4=index 5=level -/
def b10 : Sts := (.cons (.set 3 (.bi .tuple (.cons (.var 0) .nil))) (.cons (.ife (.cmp .gt (.bi .len (.cons (.var 3) .nil)) (.var 2)) (.cons (.raise 2 [] .nil) .nil) .nil) (.cons (.for_ (.tup [4, 5]) (.enum (.var 3)) (.cons (.ife (.not (.chain .le .le (.int 1) (.var 5) (.var 1))) (.cons (.raise 4 [6] (.cons (.var 4) .nil)) .nil) .nil) .nil)) (.cons (.ret (.var 3)) .nil))))
def f10 : FD := ⟨3, 6, b10⟩
/-- Ladder.__init__: 0=self 1=height 2=levels -/
def b11 : Sts := (.cons (.expr (.call 0 (.cons (.var 1) .nil))) (.cons (.sfld 4 (.var 1)) (.cons (.sfld 7 (.call 10 (.cons (.var 2) (.cons (.var 1) (.cons (.slf 8) .nil))))) (.cons (.sfld 1 (.bi .len (.cons (.slf 7) .nil))) .nil))))
def f11 : FD := ⟨3, 3, b11⟩
/-- Ladder.greatest: 0=self 1=source 2=rank 3=target -/
def b12 : Sts := (.cons (.expr (.meth 9 (.var 0) (.cons (.var 1) .nil))) (.cons (.expr (.call 1 (.cons (.fld (.var 0) 4) (.cons (.var 2) .nil)))) (.cons (.for_ (.nm 3) (.rng3 (.fld (.var 0) 1) (.neg (.int 1)) (.neg (.int 1))) (.cons (.ife (.call 9 (.cons (.fld (.var 0) 7) (.cons (.var 1) (.cons (.var 2) (.cons (.var 3) .nil))))) (.cons (.ret (.var 3)) .nil) .nil) .nil)) (.cons (.ret .non) .nil))))
def f12 : FD := ⟨3, 4, b12⟩
/-- Ladder._check_step: 0=self 1=step -/
def b13 : Sts := (.cons (.ife (.not (.chain .le .le (.int 0) (.var 1) (.fld (.var 0) 1))) (.cons (.raise 6 [2] (.cons (.var 1) .nil)) .nil) .nil) .nil)
def f13 : FD := ⟨2, 2, b13⟩
/-- _law_pool: 0=script 1=k 2=cell -/
def b14 : Sts := (.cons (.set 2 (.int 0)) (.cons (.ife (.cmp .lt (.var 1) (.bi .len (.cons (.var 0) .nil))) (.cons (.set 2 (.bi .abs (.cons (.bi .int (.cons (.ix (.var 0) (.var 1)) .nil)) .nil))) .nil) .nil) (.cons (.ife (.cmp .ge (.var 2) (.bin .pow (.int 10) (.int 18))) (.cons (.ret (.cell (.lst (.cons (.int 1) (.cons (.var 2) (.cons (.int 0) (.cons (.bin .add (.var 1) (.int 1)) .nil))))))) .nil) .nil) (.cons (.ret (.cell (.lst (.cons (.int 0) (.cons (.var 2) (.cons (.int 0) (.cons (.bin .add (.var 1) (.int 1)) .nil))))))) .nil))))
def f14 : FD := ⟨2, 3, b14⟩
/-- _law_draw: 0=pool 1=many 2=value 3=mixed -/
def b15 : Sts := (.cons (.ife (.cmp .eq (.ix (.var 0) (.int 0)) (.int 1)) (.cons (.set 2 (.bin .mod (.bi .int (.cons (.ix (.var 0) (.int 1)) .nil)) (.var 1))) (.cons (.cSet (.var 0) (.int 1) (.bin .fdiv (.bi .int (.cons (.ix (.var 0) (.int 1)) .nil)) (.var 1))) (.cons (.ife (.cmp .eq (.ix (.var 0) (.int 1)) (.int 0)) (.cons (.cSet (.var 0) (.int 0) (.int 0)) (.cons (.cSet (.var 0) (.int 1) (.var 2)) .nil)) .nil) (.cons (.ret (.var 2)) .nil)))) .nil) (.cons (.cSet (.var 0) (.int 2) (.bin .add (.ix (.var 0) (.int 2)) (.int 1))) (.cons (.set 3 (.bin .mod (.bi .int (.cons (.bin .add (.bin .add (.bin .add (.bin .mul (.ix (.var 0) (.int 1)) (.int 48271)) (.bin .mul (.ix (.var 0) (.int 2)) (.int 69621))) (.bin .mul (.ix (.var 0) (.int 3)) (.int 16807))) (.int 11)) .nil)) (.int 2147483647))) (.cons (.set 3 (.bin .mod (.bi .int (.cons (.bin .add (.bin .add (.bin .mul (.var 3) (.var 3)) (.bin .mul (.ix (.var 0) (.int 2)) (.int 40692))) (.ix (.var 0) (.int 3))) .nil)) (.int 2147483399))) (.cons (.set 3 (.bin .mod (.bi .int (.cons (.bin .add (.bin .mul (.var 3) (.var 3)) (.int 7919)) .nil)) (.int 1000000007))) (.cons (.ret (.bin .mod (.bi .int (.cons (.bin .fdiv (.var 3) (.int 13)) .nil)) (.var 1))) .nil))))))
def f15 : FD := ⟨2, 4, b15⟩
/-- _law_levels: 0=pool 1=height 2=limit 3=size 4=index -/
def b16 : Sts := (.cons (.set 3 (.call 15 (.cons (.var 0) (.cons (.bin .add (.var 2) (.int 1)) .nil)))) (.cons (.ret (.comp (.nm 4) (.rng1 (.var 3)) .nil (.bin .add (.int 1) (.call 15 (.cons (.var 0) (.cons (.var 1) .nil)))))) .nil))
def f16 : FD := ⟨3, 5, b16⟩
/-- _law_number: 0=value -/
def b17 : Sts := (.cons (.ret (.and (.isi (.var 0) [.ty "int"]) (.not (.isi (.var 0) [.ty "bool"])))) .nil)
def f17 : FD := ⟨1, 1, b17⟩
/-- _law_same: 0=answer 1=due 2=k -/
def b18 : Sts := (.cons (.ife (.or (.isi (.var 1) [.ty "list"]) (.isi (.var 1) [.ty "tuple"])) (.cons (.ife (.and (.isi (.var 1) [.ty "list"]) (.not (.isi (.var 0) [.ty "list"]))) (.cons (.ret (.bl false)) .nil) .nil) (.cons (.ife (.and (.isi (.var 1) [.ty "tuple"]) (.not (.isi (.var 0) [.ty "tuple"]))) (.cons (.ret (.bl false)) .nil) .nil) (.cons (.ife (.cmp .ne (.bi .len (.cons (.var 0) .nil)) (.bi .len (.cons (.var 1) .nil))) (.cons (.ret (.bl false)) .nil) .nil) (.cons (.for_ (.nm 2) (.rng1 (.bi .len (.cons (.var 1) .nil))) (.cons (.ife (.not (.call 18 (.cons (.ix (.var 0) (.var 2)) (.cons (.ix (.var 1) (.var 2)) .nil)))) (.cons (.ret (.bl false)) .nil) .nil) .nil)) (.cons (.ret (.bl true)) .nil))))) .nil) (.cons (.ife (.isN (.var 1)) (.cons (.ret (.isN (.var 0))) .nil) .nil) (.cons (.ife (.isi (.var 1) [.ty "bool"]) (.cons (.ret (.and (.isi (.var 0) [.ty "bool"]) (.cmp .eq (.var 0) (.var 1)))) .nil) .nil) (.cons (.ife (.isi (.var 1) [.ty "int"]) (.cons (.ret (.and (.call 17 (.cons (.var 0) .nil)) (.cmp .eq (.var 0) (.var 1)))) .nil) .nil) (.cons (.ret (.and (.isi (.var 0) [.ty "str"]) (.cmp .eq (.var 0) (.var 1)))) .nil)))))
def f18 : FD := ⟨2, 3, b18⟩
/-- _law_beyond: 0=pool 1=top 2=value -/
def b19 : Sts := (.cons (.set 2 (.call 15 (.cons (.var 0) (.cons (.ix (.lst (.cons (.int 1) (.cons (.int 9) (.cons (.int 999900) .nil)))) (.call 15 (.cons (.var 0) (.cons (.int 3) .nil)))) .nil)))) (.cons (.ife (.cmp .eq (.call 15 (.cons (.var 0) (.cons (.int 2) .nil))) (.int 0)) (.cons (.ret (.bin .add (.bin .add (.var 1) (.int 1)) (.var 2))) .nil) .nil) (.cons (.ret (.bin .sub (.neg (.int 1)) (.var 2))) .nil)))
def f19 : FD := ⟨2, 3, b19⟩
/-- _law_begin: 0=pool 1=top -/
def b20 : Sts := (.cons (.ife (.cmp .eq (.call 15 (.cons (.var 0) (.cons (.int 16) .nil))) (.int 0)) (.cons (.ret (.call 19 (.cons (.var 0) (.cons (.var 1) .nil)))) .nil) .nil) (.cons (.ife (.cmp .eq (.call 15 (.cons (.var 0) (.cons (.int 3) .nil))) (.int 0)) (.cons (.ret .non) .nil) .nil) (.cons (.ret (.call 15 (.cons (.var 0) (.cons (.bin .add (.var 1) (.int 1)) .nil)))) .nil)))
def f20 : FD := ⟨2, 2, b20⟩
/-- _law_word: 0=pool 1=height 2=word 3=k 4=index -/
def b21 : Sts := (.cons (.setOwn 2 (.comp (.nm 3) (.rng1 (.call 15 (.cons (.var 0) (.cons (.int 15) .nil)))) .nil (.call 15 (.cons (.var 0) (.cons (.bin .add (.bin .mul (.int 2) (.var 1)) (.int 1)) .nil))))) (.cons (.ife (.cmp .eq (.call 15 (.cons (.var 0) (.cons (.int 8) .nil))) (.int 0)) (.cons (.for_ (.nm 4) (.rng1 (.bi .len (.cons (.own 2) .nil))) (.cons (.ife (.cmp .eq (.call 15 (.cons (.var 0) (.cons (.int 4) .nil))) (.int 0)) (.cons (.setIx 2 (.var 4) (.call 19 (.cons (.var 0) (.cons (.bin .mul (.int 2) (.var 1)) .nil)))) .nil) .nil) .nil)) .nil) .nil) (.cons (.frz 2) (.cons (.ret (.var 2)) .nil))))
def f21 : FD := ⟨2, 5, b21⟩
/-- _law_first_bad: 0=word 1=height 2=rank -/
def b22 : Sts := (.cons (.for_ (.nm 2) (.seq (.var 0)) (.cons (.ife (.or (.cmp .lt (.var 2) (.int 0)) (.cmp .gt (.var 2) (.bin .mul (.int 2) (.var 1)))) (.cons (.ret (.var 2)) .nil) .nil) .nil)) (.cons (.ret .non) .nil))
def f22 : FD := ⟨2, 3, b22⟩
/-- _law_goal: 0=levels 1=step 2=rank 3=goal 4=k -/
def b23 : Sts := (.cons (.ife (.isN (.var 1)) (.cons (.ret .non) .nil) .nil) (.cons (.ife (.cmp .eq (.bin .mod (.bi .int (.cons (.var 2) .nil)) (.int 2)) (.int 0)) (.cons (.for_ (.nm 3) (.rng2 (.var 1) (.bi .len (.cons (.var 0) .nil))) (.cons (.ife (.cmp .gt (.bin .mul (.int 2) (.ix (.var 0) (.var 3))) (.var 2)) (.cons (.ret (.var 3)) .nil) .nil) .nil)) (.cons (.ret (.bi .len (.cons (.var 0) .nil))) .nil)) .nil) (.cons (.for_ (.nm 4) (.rng1 (.var 1)) (.cons (.ife (.cmp .gt (.bin .mul (.int 2) (.ix (.var 0) (.bin .sub (.bin .sub (.var 1) (.int 1)) (.var 4)))) (.var 2)) (.cons (.ret (.bin .sub (.bin .sub (.var 1) (.int 1)) (.var 4))) .nil) .nil) .nil)) (.cons (.ret .non) .nil))))
def f23 : FD := ⟨3, 5, b23⟩
/-- _law_walk: 0=levels 1=step 2=word 3=places 4=rank -/
def b24 : Sts := (.cons (.setOwn 3 (.lst .nil)) (.cons (.for_ (.nm 4) (.seq (.var 2)) (.cons (.set 1 (.call 23 (.cons (.var 0) (.cons (.var 1) (.cons (.var 4) .nil))))) (.cons (.app 3 (.var 1)) .nil))) (.cons (.frz 3) (.cons (.ret (.var 3)) .nil))))
def f24 : FD := ⟨3, 5, b24⟩
/-- _law_refused_read: 0=made 1=word 2=begin 3=found 4=e 5=above -/
def b25 : Sts := (.cons (.set 3 (.tup (.cons (.str "none") (.cons (.int 0) (.cons (.bl false) .nil))))) (.cons (.try_ (.cons (.expr (.kcall 7 (.cons (.var 0) (.cons (.bi .list (.cons (.var 1) .nil)) .nil)) (.var 2))) .nil) (.cons 6 4 (.cons (.set 5 (.and (.xisi 4 [.cls 5]) (.and (.xisi 4 [.cls 0]) (.xisi 4 [.ty "ValueError"])))) (.cons (.set 3 (.tup (.cons (.str "step") (.cons (.xfld 4 2) (.cons (.and (.var 5) (.not (.xisi 4 [.cls 7]))) .nil))))) .nil)) (.cons 7 4 (.cons (.set 5 (.and (.xisi 4 [.cls 5]) (.and (.xisi 4 [.cls 0]) (.xisi 4 [.ty "ValueError"])))) (.cons (.set 3 (.tup (.cons (.str "rank") (.cons (.xfld 4 0) (.cons (.and (.var 5) (.not (.xisi 4 [.cls 6]))) .nil))))) .nil)) .nil))) (.cons (.ret (.var 3)) .nil)))
def f25 : FD := ⟨3, 6, b25⟩
/-- _law_refused_start: 0=made 1=begin 2=found 3=e -/
def b26 : Sts := (.cons (.set 2 (.tup (.cons (.str "none") (.cons (.int 0) (.cons (.bl false) .nil))))) (.cons (.try_ (.cons (.expr (.kmkC 8 (.cons (.var 0) .nil) (.var 1))) .nil) (.cons 5 3 (.cons (.ife (.xisi 3 [.cls 6]) (.cons (.set 2 (.tup (.cons (.str "step") (.cons (.xfld 3 2) (.cons (.not (.xisi 3 [.cls 7])) .nil))))) .nil) .nil) .nil) .nil)) (.cons (.ret (.var 2)) .nil)))
def f26 : FD := ⟨2, 4, b26⟩
/-- _law_refused_call: 0=machine 1=rank 2=found 3=e -/
def b27 : Sts := (.cons (.set 2 (.tup (.cons (.str "none") (.cons (.int 0) (.cons (.bl false) .nil))))) (.cons (.try_ (.cons (.expr (.cal (.var 0) (.cons (.var 1) .nil))) .nil) (.cons 7 3 (.cons (.set 2 (.tup (.cons (.str "rank") (.cons (.xfld 3 0) (.cons (.and (.xisi 3 [.cls 5]) (.not (.xisi 3 [.cls 6]))) .nil))))) .nil) .nil)) (.cons (.ret (.var 2)) .nil)))
def f27 : FD := ⟨2, 4, b27⟩
/-- _law_refused_reset: 0=machine 1=step 2=found 3=e -/
def b28 : Sts := (.cons (.set 2 (.tup (.cons (.str "none") (.cons (.int 0) (.cons (.bl false) .nil))))) (.cons (.try_ (.cons (.expr (.meth 10 (.var 0) (.cons (.var 1) .nil))) .nil) (.cons 6 3 (.cons (.set 2 (.tup (.cons (.str "step") (.cons (.xfld 3 2) (.cons (.and (.xisi 3 [.cls 5]) (.not (.xisi 3 [.cls 7]))) .nil))))) .nil) .nil)) (.cons (.ret (.var 2)) .nil)))
def f28 : FD := ⟨2, 4, b28⟩
/-- _law_stands: 0=machine 1=place -/
def b29 : Sts := (.cons (.ret (.and (.call 18 (.cons (.fld (.var 0) 2) (.cons (.var 1) .nil))) (.call 18 (.cons (.prp 11 (.var 0)) (.cons (.isN (.var 1)) .nil))))) .nil)
def f29 : FD := ⟨2, 2, b29⟩
/-- _law_reads: 0=made 1=levels 2=word 3=begin 4=first 5=turn 6=handed 7=answer -/
def b30 : Sts := (.cons (.set 4 (.bi .len (.cons (.var 1) .nil))) (.cons (.ife (.notN (.var 3)) (.cons (.set 4 (.var 3)) .nil) .nil) (.cons (.for_ (.nm 5) (.rng1 (.int 2)) (.cons (.set 6 (.bi .list (.cons (.var 2) .nil))) (.cons (.set 7 (.kcall 7 (.cons (.var 0) (.cons (.var 6) .nil)) (.var 3))) (.cons (.ife (.or (.not (.call 18 (.cons (.var 7) (.cons (.call 24 (.cons (.var 1) (.cons (.var 4) (.cons (.var 2) .nil)))) .nil)))) (.not (.call 18 (.cons (.var 6) (.cons (.var 2) .nil))))) (.cons (.ret (.bl false)) .nil) .nil) (.cons (.cApp (.var 7) (.var 5)) .nil))))) (.cons (.ret (.call 18 (.cons (.kcall 7 (.cons (.var 0) (.cons (.bi .tuple (.cons (.var 2) .nil)) .nil)) .non) (.cons (.call 24 (.cons (.var 1) (.cons (.bi .len (.cons (.var 1) .nil)) (.cons (.var 2) .nil)))) .nil)))) .nil))))
def f30 : FD := ⟨4, 8, b30⟩
/-- _law_put: 0=both 1=places 2=who 3=goal 4=wrong -/
def b31 : Sts := (.cons (.ife (.not (.call 18 (.cons (.call 28 (.cons (.ix (.var 0) (.var 2)) (.cons (.var 4) .nil))) (.cons (.tup (.cons (.str "step") (.cons (.var 4) (.cons (.bl true) .nil)))) .nil)))) (.cons (.ret (.bl false)) .nil) .nil) (.cons (.ife (.or (.not (.call 29 (.cons (.ix (.var 0) (.int 0)) (.cons (.ix (.var 1) (.int 0)) .nil)))) (.not (.call 29 (.cons (.ix (.var 0) (.int 1)) (.cons (.ix (.var 1) (.int 1)) .nil))))) (.cons (.ret (.bl false)) .nil) .nil) (.cons (.ife (.notN (.meth 10 (.ix (.var 0) (.var 2)) (.cons (.var 3) .nil))) (.cons (.ret (.bl false)) .nil) .nil) (.cons (.cSet (.var 1) (.var 2) (.var 3)) (.cons (.ret (.and (.call 29 (.cons (.ix (.var 0) (.int 0)) (.cons (.ix (.var 1) (.int 0)) .nil))) (.call 29 (.cons (.ix (.var 0) (.int 1)) (.cons (.ix (.var 1) (.int 1)) .nil))))) .nil)))))
def f31 : FD := ⟨5, 5, b31⟩
/-- _law_read_on: 0=both 1=places 2=levels 3=height 4=who 5=rank 6=machine 7=answer -/
def b32 : Sts := (.cons (.ife (.not (.call 29 (.cons (.ix (.var 0) (.var 4)) (.cons (.ix (.var 1) (.var 4)) .nil)))) (.cons (.ret (.bl false)) .nil) .nil) (.cons (.ife (.notN (.call 22 (.cons (.lst (.cons (.var 5) .nil)) (.cons (.var 3) .nil)))) (.cons (.ife (.not (.call 18 (.cons (.call 27 (.cons (.ix (.var 0) (.var 4)) (.cons (.var 5) .nil))) (.cons (.tup (.cons (.str "rank") (.cons (.var 5) (.cons (.bl true) .nil)))) .nil)))) (.cons (.ret (.bl false)) .nil) .nil) .nil) (.cons (.cSet (.var 1) (.var 4) (.call 23 (.cons (.var 2) (.cons (.ix (.var 1) (.var 4)) (.cons (.var 5) .nil))))) (.cons (.set 6 (.ix (.var 0) (.var 4))) (.cons (.set 7 (.cal (.var 6) (.cons (.var 5) .nil))) (.cons (.ife (.not (.call 18 (.cons (.var 7) (.cons (.ix (.var 1) (.var 4)) .nil)))) (.cons (.ret (.bl false)) .nil) .nil) .nil))))) (.cons (.ret (.and (.call 29 (.cons (.ix (.var 0) (.int 0)) (.cons (.ix (.var 1) (.int 0)) .nil))) (.call 29 (.cons (.ix (.var 0) (.int 1)) (.cons (.ix (.var 1) (.int 1)) .nil))))) .nil)))
def f32 : FD := ⟨6, 8, b32⟩
/-- _law_two_readers: 0=made 1=levels 2=height 3=word 4=begin 5=pool 6=top 7=both 8=places 9=moment 10=index 11=who 12=rank -/
def b33 : Sts := (.cons (.set 6 (.bi .len (.cons (.var 1) .nil))) (.cons (.set 7 (.lst (.cons (.kmkC 8 (.cons (.var 0) .nil) (.var 4)) (.cons (.kmkC 8 (.cons (.var 0) .nil) .non) .nil)))) (.cons (.set 8 (.cell (.lst (.cons (.var 6) (.cons (.var 6) .nil))))) (.cons (.ife (.notN (.var 4)) (.cons (.cSet (.var 8) (.int 0) (.var 4)) .nil) .nil) (.cons (.set 9 (.call 15 (.cons (.var 5) (.cons (.bin .add (.bi .len (.cons (.var 3) .nil)) (.int 1)) .nil)))) (.cons (.for_ (.nm 10) (.rng1 (.bin .add (.bi .len (.cons (.var 3) .nil)) (.int 1))) (.cons (.ife (.cmp .eq (.var 10) (.var 9)) (.cons (.ife (.not (.call 31 (.cons (.var 7) (.cons (.var 8) (.cons (.int 1) (.cons (.call 15 (.cons (.var 5) (.cons (.bin .add (.var 6) (.int 1)) .nil))) (.cons (.call 19 (.cons (.var 5) (.cons (.var 6) .nil))) .nil))))))) (.cons (.ret (.bl false)) .nil) .nil) .nil) .nil) (.cons (.ife (.cmp .lt (.var 10) (.bi .len (.cons (.var 3) .nil))) (.cons (.for_ (.nm 11) (.rng1 (.int 2)) (.cons (.ife (.not (.call 32 (.cons (.var 7) (.cons (.var 8) (.cons (.var 1) (.cons (.var 2) (.cons (.var 11) (.cons (.ix (.var 3) (.var 10)) .nil)))))))) (.cons (.ret (.bl false)) .nil) .nil) .nil)) .nil) .nil) .nil))) (.cons (.ife (.not (.call 31 (.cons (.var 7) (.cons (.var 8) (.cons (.int 0) (.cons (.call 15 (.cons (.var 5) (.cons (.bin .add (.var 6) (.int 1)) .nil))) (.cons (.call 19 (.cons (.var 5) (.cons (.var 6) .nil))) .nil))))))) (.cons (.ret (.bl false)) .nil) .nil) (.cons (.for_ (.nm 12) (.seq (.var 3)) (.cons (.ife (.not (.call 32 (.cons (.var 7) (.cons (.var 8) (.cons (.var 1) (.cons (.var 2) (.cons (.int 0) (.cons (.var 12) .nil)))))))) (.cons (.ret (.bl false)) .nil) .nil) .nil)) (.cons (.ret (.bl true)) .nil)))))))))
def f33 : FD := ⟨6, 13, b33⟩
/-- law: 0=script 1=pool 2=height 3=limit 4=levels 5=made 6=begin 7=word 8=k 9=bad 10=other -/
def b34 : Sts := (.cons (.set 1 (.call 14 (.cons (.var 0) (.cons (.int 0) .nil)))) (.cons (.set 2 (.bin .add (.int 1) (.call 15 (.cons (.var 1) (.cons (.int 3) .nil))))) (.cons (.set 3 (.int 7)) (.cons (.ife (.cmp .eq (.call 15 (.cons (.var 1) (.cons (.int 16) .nil))) (.int 0)) (.cons (.set 3 (.int 24)) .nil) .nil) (.cons (.set 4 (.call 16 (.cons (.var 1) (.cons (.var 2) (.cons (.var 3) .nil))))) (.cons (.set 5 (.mk 9 (.cons (.var 2) (.cons (.bi .list (.cons (.var 4) .nil)) .nil)))) (.cons (.set 6 (.call 20 (.cons (.call 14 (.cons (.var 0) (.cons (.int 1) .nil))) (.cons (.bi .len (.cons (.var 4) .nil)) .nil)))) (.cons (.set 7 (.call 21 (.cons (.call 14 (.cons (.var 0) (.cons (.int 2) .nil))) (.cons (.var 2) .nil)))) (.cons (.set 1 (.call 14 (.cons (.var 0) (.cons (.int 5) .nil)))) (.cons (.ife (.and (.cmp .eq (.call 15 (.cons (.var 1) (.cons (.int 16) .nil))) (.int 0)) (.cmp .gt (.bi .len (.cons (.var 7) .nil)) (.int 0))) (.cons (.setOwn 7 (.comp (.nm 8) (.rng1 (.bin .add (.int 70) (.call 15 (.cons (.var 1) (.cons (.int 41) .nil))))) .nil (.ix (.var 7) (.bin .mod (.bi .int (.cons (.var 8) .nil)) (.bi .len (.cons (.var 7) .nil)))))) (.cons (.frz 7) .nil)) .nil) (.cons (.set 9 (.call 22 (.cons (.var 7) (.cons (.var 2) .nil)))) (.cons (.ife (.and (.notN (.var 6)) (.or (.cmp .lt (.var 6) (.int 0)) (.cmp .gt (.var 6) (.bi .len (.cons (.var 4) .nil))))) (.cons (.ife (.not (.call 18 (.cons (.call 25 (.cons (.var 5) (.cons (.var 7) (.cons (.var 6) .nil)))) (.cons (.tup (.cons (.str "step") (.cons (.var 6) (.cons (.bl true) .nil)))) .nil)))) (.cons (.ret (.bl false)) .nil) .nil) (.cons (.ife (.not (.call 18 (.cons (.call 26 (.cons (.var 5) (.cons (.var 6) .nil))) (.cons (.tup (.cons (.str "step") (.cons (.var 6) (.cons (.bl true) .nil)))) .nil)))) (.cons (.ret (.bl false)) .nil) .nil) (.cons (.set 6 .non) .nil))) .nil) (.cons (.ife (.notN (.var 9)) (.cons (.ife (.not (.call 18 (.cons (.call 25 (.cons (.var 5) (.cons (.var 7) (.cons (.var 6) .nil)))) (.cons (.tup (.cons (.str "rank") (.cons (.var 9) (.cons (.bl true) .nil)))) .nil)))) (.cons (.ret (.bl false)) .nil) .nil) .nil) (.cons (.ife (.not (.call 30 (.cons (.var 5) (.cons (.var 4) (.cons (.var 7) (.cons (.var 6) .nil)))))) (.cons (.ret (.bl false)) .nil) .nil) .nil)) (.cons (.set 10 (.call 21 (.cons (.call 14 (.cons (.var 0) (.cons (.int 6) .nil))) (.cons (.var 2) .nil)))) (.cons (.ife (.and (.isN (.call 22 (.cons (.var 10) (.cons (.var 2) .nil)))) (.not (.call 30 (.cons (.var 5) (.cons (.var 4) (.cons (.var 10) (.cons .non .nil))))))) (.cons (.ret (.bl false)) .nil) .nil) (.cons (.ife (.and (.isN (.var 9)) (.not (.call 30 (.cons (.var 5) (.cons (.var 4) (.cons (.var 7) (.cons (.var 6) .nil))))))) (.cons (.ret (.bl false)) .nil) .nil) (.cons (.ret (.call 33 (.cons (.var 5) (.cons (.var 4) (.cons (.var 2) (.cons (.var 7) (.cons (.var 6) (.cons (.call 14 (.cons (.var 0) (.cons (.int 3) .nil))) .nil)))))))) .nil)))))))))))))))))
def f34 : FD := ⟨1, 11, b34⟩
def fds : List FD := [f0, f1, f2, f3, f4, f5, f6, f7, f8, f9, f10, f11, f12, f13, f14, f15, f16, f17, f18, f19, f20, f21, f22, f23, f24, f25, f26, f27, f28, f29, f30, f31, f32, f33, f34]
def tab : Tab where
  fn := fun f => fds[f]?
  meth := lk2 [((8, 10), 6), ((8, 1011), 4), ((8, 5000), 5), ((9, 5), 12), ((9, 9), 13)]
  init := lk1 [(8, 3), (9, 11)]
  con := lk2 [((9, 8), .int 24)]
  gl := fun i => (([] : List (PySem.Str × W))[i]?).map (·.2)
  sub := fun a b => ([(0, 0), (1, 0), (1, 1), (2, 0), (2, 2), (4, 0), (4, 4), (5, 0), (5, 5), (6, 0), (6, 5), (6, 6), (7, 0), (7, 5), (7, 7), (8, 8), (9, 9)] : List (Nat × Nat)).contains (a, b)
  exb := fun a n => ([(0, "ValueError"), (1, "ValueError"), (2, "ValueError"), (4, "ValueError"), (5, "ValueError"), (6, "ValueError"), (7, "ValueError")] : List (Nat × String)).contains (a, n)
  fo := fun a b => ([(8, 2), (8, 3), (9, 1), (9, 4), (9, 7)] : List (Nat × Nat)).contains (a, b)
  oc := fun c => ([8, 9] : List Nat).contains c
  xc := fun c => ([0, 1, 2, 4, 5, 6, 7] : List Nat).contains c
  x0 := fun c => ([1, 2] : List Nat).contains c
  x1 := fun c f => ([(4, 6), (6, 2), (7, 0)] : List (Nat × Nat)).any fun x => x.1 == c && x.2 == f
  sz := 100000
end K48
end
section
set_option Elab.async false
set_option linter.all false
set_option maxRecDepth 100000
set_option maxHeartbeats 0
/-! The law's program in the small language (printed by gen_law.py). -/
namespace K48
open PySem PySem.Spec PyProof.Rows L2 LI
abbrev P : Program := PySem.Challenge.pw_ladderreach_k48_readers_go_to_the_greate
def top (i : Nat) : Stmt := P.main.body.getD i (.Pass ⟨0, 0, 0, 0⟩)

def d0 : DL := ⟨⟨("check_height", none), "check_height", "check_height", defArgs (top 11), defBody (top 11), defScope (top 11), [], []⟩, ["height"], f0, false⟩
def d1 : DL := ⟨⟨("check_rank", none), "check_rank", "check_rank", defArgs (top 13), defBody (top 13), defScope (top 13), [], []⟩, ["height", "rank"], f1, false⟩
def d2 : DL := ⟨⟨("check_step", none), "check_step", "check_step", defArgs (top 15), defBody (top 15), defScope (top 15), [], []⟩, ["ladder", "step"], f2, false⟩
def d3 : DL := ⟨⟨("Reader", some "__init__"), "__init__", "Reader.__init__", defArgs (inClass (top 16) 0), defBody (inClass (top 16) 0), defScope (inClass (top 16) 0), [], [("start", .non)]⟩, ["self", "ladder", "start"], f3, false⟩
def d4 : DL := ⟨⟨("Reader", some "off"), "off", "Reader.off", defArgs (inClass (top 16) 1), defBody (inClass (top 16) 1), defScope (inClass (top 16) 1), [], []⟩, ["self"], f4, true⟩
def d5 : DL := ⟨⟨("Reader", some "__call__"), "__call__", "Reader.__call__", defArgs (inClass (top 16) 2), defBody (inClass (top 16) 2), defScope (inClass (top 16) 2), [], []⟩, ["self", "rank"], f5, false⟩
def d6 : DL := ⟨⟨("Reader", some "reset"), "reset", "Reader.reset", defArgs (inClass (top 16) 3), defBody (inClass (top 16) 3), defScope (inClass (top 16) 3), [], []⟩, ["self", "step"], f6, false⟩
def d7 : DL := ⟨⟨("read", none), "read", "read", defArgs (top 17), defBody (top 17), defScope (top 17), [], [("start", .non)]⟩, ["ladder", "word", "start", "reader", "rank"], f7, false⟩
def d8 : DL := ⟨⟨("gap_of", none), "gap_of", "gap_of", defArgs (top 19), defBody (top 19), defScope (top 19), [], []⟩, ["levels", "one", "other"], f8, false⟩
def d9 : DL := ⟨⟨("is_allowed", none), "is_allowed", "is_allowed", defArgs (top 20), defBody (top 20), defScope (top 20), [], []⟩, ["levels", "source", "rank", "target", "gap"], f9, false⟩
def d10 : DL := ⟨⟨("checked_row", none), "checked_row", "checked_row", defArgs (top 22), defBody (top 22), defScope (top 22), [], []⟩, ["row", "height", "most", "levels", "index", "level"], f10, false⟩
def d11 : DL := ⟨⟨("Ladder", some "__init__"), "__init__", "Ladder.__init__", defArgs (inClass (top 27) 1), defBody (inClass (top 27) 1), defScope (inClass (top 27) 1), [], []⟩, ["self", "height", "levels"], f11, false⟩
def d12 : DL := ⟨⟨("Ladder", some "greatest"), "greatest", "Ladder.greatest", defArgs (inClass (top 27) 12), defBody (inClass (top 27) 12), defScope (inClass (top 27) 12), [], []⟩, ["self", "source", "rank", "target"], f12, false⟩
def d13 : DL := ⟨⟨("Ladder", some "_check_step"), "_check_step", "Ladder._check_step", defArgs (inClass (top 27) 15), defBody (inClass (top 27) 15), defScope (inClass (top 27) 15), [], []⟩, ["self", "step"], f13, false⟩
def d14 : DL := ⟨⟨("_law_pool", none), "_law_pool", "_law_pool", defArgs (top 29), defBody (top 29), defScope (top 29), [], []⟩, ["script", "k", "cell"], f14, false⟩
def d15 : DL := ⟨⟨("_law_draw", none), "_law_draw", "_law_draw", defArgs (top 30), defBody (top 30), defScope (top 30), [], []⟩, ["pool", "many", "value", "mixed"], f15, false⟩
def d16 : DL := ⟨⟨("_law_levels", none), "_law_levels", "_law_levels", defArgs (top 31), defBody (top 31), defScope (top 31), [], []⟩, ["pool", "height", "limit", "size", "index"], f16, false⟩
def d17 : DL := ⟨⟨("_law_number", none), "_law_number", "_law_number", defArgs (top 32), defBody (top 32), defScope (top 32), [], []⟩, ["value"], f17, false⟩
def d18 : DL := ⟨⟨("_law_same", none), "_law_same", "_law_same", defArgs (top 33), defBody (top 33), defScope (top 33), [], []⟩, ["answer", "due", "k"], f18, false⟩
def d19 : DL := ⟨⟨("_law_beyond", none), "_law_beyond", "_law_beyond", defArgs (top 34), defBody (top 34), defScope (top 34), [], []⟩, ["pool", "top", "value"], f19, false⟩
def d20 : DL := ⟨⟨("_law_begin", none), "_law_begin", "_law_begin", defArgs (top 35), defBody (top 35), defScope (top 35), [], []⟩, ["pool", "top"], f20, false⟩
def d21 : DL := ⟨⟨("_law_word", none), "_law_word", "_law_word", defArgs (top 36), defBody (top 36), defScope (top 36), [], []⟩, ["pool", "height", "word", "k", "index"], f21, false⟩
def d22 : DL := ⟨⟨("_law_first_bad", none), "_law_first_bad", "_law_first_bad", defArgs (top 37), defBody (top 37), defScope (top 37), [], []⟩, ["word", "height", "rank"], f22, false⟩
def d23 : DL := ⟨⟨("_law_goal", none), "_law_goal", "_law_goal", defArgs (top 38), defBody (top 38), defScope (top 38), [], []⟩, ["levels", "step", "rank", "goal", "k"], f23, false⟩
def d24 : DL := ⟨⟨("_law_walk", none), "_law_walk", "_law_walk", defArgs (top 39), defBody (top 39), defScope (top 39), [], []⟩, ["levels", "step", "word", "places", "rank"], f24, false⟩
def d25 : DL := ⟨⟨("_law_refused_read", none), "_law_refused_read", "_law_refused_read", defArgs (top 40), defBody (top 40), defScope (top 40), [], []⟩, ["made", "word", "begin", "found", "e", "above"], f25, false⟩
def d26 : DL := ⟨⟨("_law_refused_start", none), "_law_refused_start", "_law_refused_start", defArgs (top 41), defBody (top 41), defScope (top 41), [], []⟩, ["made", "begin", "found", "e"], f26, false⟩
def d27 : DL := ⟨⟨("_law_refused_call", none), "_law_refused_call", "_law_refused_call", defArgs (top 42), defBody (top 42), defScope (top 42), [], []⟩, ["machine", "rank", "found", "e"], f27, false⟩
def d28 : DL := ⟨⟨("_law_refused_reset", none), "_law_refused_reset", "_law_refused_reset", defArgs (top 43), defBody (top 43), defScope (top 43), [], []⟩, ["machine", "step", "found", "e"], f28, false⟩
def d29 : DL := ⟨⟨("_law_stands", none), "_law_stands", "_law_stands", defArgs (top 44), defBody (top 44), defScope (top 44), [], []⟩, ["machine", "place"], f29, false⟩
def d30 : DL := ⟨⟨("_law_reads", none), "_law_reads", "_law_reads", defArgs (top 45), defBody (top 45), defScope (top 45), [], []⟩, ["made", "levels", "word", "begin", "first", "turn", "handed", "answer"], f30, false⟩
def d31 : DL := ⟨⟨("_law_put", none), "_law_put", "_law_put", defArgs (top 46), defBody (top 46), defScope (top 46), [], []⟩, ["both", "places", "who", "goal", "wrong"], f31, false⟩
def d32 : DL := ⟨⟨("_law_read_on", none), "_law_read_on", "_law_read_on", defArgs (top 47), defBody (top 47), defScope (top 47), [], []⟩, ["both", "places", "levels", "height", "who", "rank", "machine", "answer"], f32, false⟩
def d33 : DL := ⟨⟨("_law_two_readers", none), "_law_two_readers", "_law_two_readers", defArgs (top 48), defBody (top 48), defScope (top 48), [], []⟩, ["made", "levels", "height", "word", "begin", "pool", "top", "both", "places", "moment", "index", "who", "rank"], f33, false⟩
def d34 : DL := ⟨⟨("law", none), "law", "law", defArgs (top 49), defBody (top 49), defScope (top 49), [], []⟩, ["script", "pool", "height", "limit", "levels", "made", "begin", "word", "k", "bad", "other"], f34, false⟩
def x0 : XL := ⟨4, 6, ⟨("BadLevel", some "__init__"), "__init__", "BadLevel.__init__", defArgs (inClass (top 6) 0), defBody (inClass (top 6) 0), defScope (inClass (top 6) 0), [], []⟩⟩
def x1 : XL := ⟨6, 2, ⟨("NoSuchStep", some "__init__"), "__init__", "NoSuchStep.__init__", defArgs (inClass (top 8) 0), defBody (inClass (top 8) 0), defScope (inClass (top 8) 0), [], []⟩⟩
def x2 : XL := ⟨7, 0, ⟨("NoSuchRank", some "__init__"), "__init__", "NoSuchRank.__init__", defArgs (inClass (top 9) 0), defBody (inClass (top 9) 0), defScope (inClass (top 9) 0), [], []⟩⟩
def td : TD where
  defs := [d0, d1, d2, d3, d4, d5, d6, d7, d8, d9, d10, d11, d12, d13, d14, d15, d16, d17, d18, d19, d20, d21, d22, d23, d24, d25, d26, d27, d28, d29, d30, d31, d32, d33, d34]
  cls := ["LadderreachError", "BadHeight", "TooLarge", "HeightMismatch", "BadLevel", "OutOfRange", "NoSuchStep", "NoSuchRank", "Reader", "Ladder"]
  nms := ["rank", "top", "step", "_ladder", "height", "greatest", "index", "levels", "MOST_LEVELS", "_check_step", "reset", "off"]
  meth := [((8, 10), 6), ((8, 1011), 4), ((8, 5000), 5), ((9, 5), 12), ((9, 9), 13)]
  init := [(8, 3), (9, 11)]
  con := [((9, 8), .int 24)]
  sub := [(0, 0), (1, 0), (1, 1), (2, 0), (2, 2), (4, 0), (4, 4), (5, 0), (5, 5), (6, 0), (6, 5), (6, 6), (7, 0), (7, 5), (7, 7), (8, 8), (9, 9)]
  exb := [(0, "ValueError"), (1, "ValueError"), (2, "ValueError"), (4, "ValueError"), (5, "ValueError"), (6, "ValueError"), (7, "ValueError")]
  fo := [(8, 2), (8, 3), (9, 1), (9, 4), (9, 7)]
  oc := [8, 9]
  xc := [0, 1, 2, 4, 5, 6, 7]
  x0 := [1, 2]
  gc := []
  xl := [x0, x1, x2]
  sz := 100000
  free := ["ValueError", "abs", "bool", "enumerate", "int", "isinstance", "len", "list", "max", "min", "range", "str", "super", "tuple"]
def loose0 : List PySem.Str := ["_wall", "check_height", "check_same_height", "check_rank", "check_step", "read", "gap_of", "is_allowed", "checked_row", "marks_above", "end_marks", "holds", "_law_pool", "_law_draw", "_law_levels", "_law_number", "_law_same", "_law_beyond", "_law_begin", "_law_word", "_law_first_bad", "_law_goal", "_law_walk", "_law_refused_read", "_law_refused_start", "_law_refused_call", "_law_refused_reset", "_law_stands", "_law_reads", "_law_put"]
def loose1 : List PySem.Str := ["_law_read_on", "_law_two_readers", "LadderreachError", "BadHeight", "TooLarge", "HeightMismatch", "BadLevel", "OutOfRange", "NoSuchStep", "NoSuchRank", "Reader", "Ladder", "__name__"]
def loose : List PySem.Str := loose0 ++ loose1
theorem st : td.stB P = true := by kernel_rfl
theorem td_tab : td.tab = tab := by
  have e : (fun f : Nat => (td.defs[f]?).map (fun d : DL => d.fd)) = fun f : Nat => fds[f]? := funext fun f => (List.getElem?_map (f := fun d : DL => d.fd) (l := td.defs) (i := f)).symm
  unfold TD.tab
  rw [e]
  rfl
end K48
end
section
set_option Elab.async false
set_option linter.all false
set_option maxRecDepth 100000
set_option maxHeartbeats 0
/-! The law's head (printed by gen_law.py). -/
namespace K48
open PySem PySem.Spec PyProof.Rows L2 LI
abbrev RR : PySem.W.OpenRow := PySem.W.OpenLaw.row PySem.Challenge.rw_ladderreach_k48_readers_go_to_the_greate
abbrev hk : PySem.W.Hook := hookL P td 5
def ob (s : PySem.W.SharedT) : AlL := obsLG P td 5 (HandSHeadRun.getT s)
theorem ob_eq (s : PySem.W.SharedT) : ob s = hk.obs s.abs := obsLG_eq (HandSHeadRun.getT_eq s)
theorem run (w : World) : HandSHeadRun.RunEq RR (PySem.W.view RR.prog [49]) hk ob 20000 loose w := by
  intro os
  kernel_rfl
end K48
end
section
set_option Elab.async false
set_option linter.all false
set_option maxRecDepth 100000
set_option maxHeartbeats 4000000
/-! LiRdr: gaps, readers, words; no program in sight. -/
namespace RM
/-! ### gaps -/
def lv (L : List Int) (i : Nat) : Int := L.getD i 0
def mg (L : List Int) (a : Nat) : Nat → Int
  | 0 => 0
  | n + 1 => max (mg L a n) (lv L (a + n))
theorem mg_le {L : List Int} {a : Nat} {q : Int} : ∀ {n : Nat}, mg L a n ≤ q ↔ 0 ≤ q ∧ ∀ i, i < n → lv L (a + i) ≤ q
  | 0 => ⟨fun h => ⟨h, fun i hi => absurd hi (by omega)⟩, fun h => h.1⟩
  | n + 1 => by
    have ih := mg_le (L := L) (a := a) (q := q) (n := n)
    constructor
    · intro h
      have h1 : mg L a n ≤ q := Int.le_trans (Int.le_max_left _ _) h
      have h2 : lv L (a + n) ≤ q := Int.le_trans (Int.le_max_right _ _) h
      refine ⟨(ih.mp h1).1, fun i hi => ?_⟩
      by_cases e : i = n
      · subst e; exact h2
      · exact (ih.mp h1).2 i (by omega)
    · intro h
      exact Int.max_le.mpr ⟨ih.mpr ⟨h.1, fun i hi => h.2 i (by omega)⟩, h.2 n (by omega)⟩
def gp (L : List Int) (a b : Nat) : Int := mg L (min a b) (max a b - min a b)
theorem gp_le {L : List Int} {a b : Nat} {q : Int} : gp L a b ≤ q ↔ 0 ≤ q ∧ ∀ i, min a b ≤ i → i < max a b → lv L i ≤ q := by
  unfold gp
  rw [mg_le]
  constructor
  · rintro ⟨h1, h2⟩
    refine ⟨h1, fun i hi hj => ?_⟩
    have := h2 (i - min a b) (by omega)
    rwa [show min a b + (i - min a b) = i by omega] at this
  · rintro ⟨h1, h2⟩
    exact ⟨h1, fun i hi => h2 _ (by omega) (by omega)⟩
theorem le_gp {L : List Int} {a b : Nat} {q : Int} : q ≤ gp L a b ↔ q ≤ 0 ∨ ∃ i, min a b ≤ i ∧ i < max a b ∧ q ≤ lv L i := by
  have h := gp_le (L := L) (a := a) (b := b) (q := q - 1)
  constructor
  · intro hq
    by_cases h0 : q ≤ 0
    · exact .inl h0
    · refine .inr (Classical.byContradiction fun hn => ?_)
      have : gp L a b ≤ q - 1 := h.mpr ⟨by omega, fun i hi hj => by
        have : ¬ q ≤ lv L i := fun z => hn ⟨i, hi, hj, z⟩
        omega⟩
      omega
  · intro hq
    refine Classical.byContradiction fun hn => ?_
    obtain ⟨h1, h2⟩ := h.mp (by omega)
    rcases hq with hq | ⟨i, hi, hj, hq⟩
    · omega
    · have := h2 i hi hj
      omega
theorem gp_ge0 {L : List Int} {a b : Nat} : 0 ≤ gp L a b := le_gp.mpr (.inl (Int.le_refl 0))
/-! ### readers -/
def okA (L : List Int) (s r t : Nat) : Bool := if r % 2 = 0 then decide (t ≤ s) || decide (gp L s t ≤ ((r / 2 : Nat) : Int)) else decide (t < s) && decide ((((r + 1) / 2 : Nat) : Int) ≤ gp L s t)
def gr' (L : List Int) (s r : Nat) : Nat → Option Nat
  | 0 => none
  | n + 1 => if okA L s r n then some n else gr' L s r n
def gr (L : List Int) (s r : Nat) : Option Nat := gr' L s r (L.length + 1)
theorem gr'_some {L : List Int} {s r t : Nat} : ∀ {n : Nat}, gr' L s r n = some t ↔ t < n ∧ okA L s r t = true ∧ ∀ u, t < u → u < n → okA L s r u = false
  | 0 => ⟨fun h => (by cases h), fun h => absurd h.1 (by omega)⟩
  | n + 1 => by
    have ih := gr'_some (L := L) (s := s) (r := r) (t := t) (n := n)
    unfold gr'
    by_cases e : okA L s r n = true
    · rw [if_pos e]
      constructor
      · intro h
        cases h
        exact ⟨by omega, e, fun u h1 h2 => absurd h2 (by omega)⟩
      · rintro ⟨h1, h2, h3⟩
        by_cases q : t = n
        · rw [q]
        · have := h3 n (by omega) (by omega)
          rw [this] at e; cases e
    · rw [if_neg e, ih]
      constructor
      · rintro ⟨h1, h2, h3⟩
        refine ⟨by omega, h2, fun u h4 h5 => ?_⟩
        by_cases q : u = n
        · subst q; simpa using e
        · exact h3 u h4 (by omega)
      · rintro ⟨h1, h2, h3⟩
        have : t ≠ n := fun q => by subst q; exact e h2
        exact ⟨by omega, h2, fun u h4 h5 => h3 u h4 (by omega)⟩
theorem gr'_none {L : List Int} {s r : Nat} : ∀ {n : Nat}, gr' L s r n = none ↔ ∀ u, u < n → okA L s r u = false
  | 0 => ⟨fun _ u h => absurd h (by omega), fun _ => rfl⟩
  | n + 1 => by
    have ih := gr'_none (L := L) (s := s) (r := r) (n := n)
    unfold gr'
    by_cases e : okA L s r n = true
    · rw [if_pos e]
      constructor
      · intro h; cases h
      · intro h
        have := h n (by omega)
        rw [this] at e; cases e
    · rw [if_neg e, ih]
      constructor
      · intro h u hu
        by_cases q : u = n
        · subst q; simpa using e
        · exact h u (by omega)
      · exact fun h u hu => h u (by omega)
theorem gr_some {L : List Int} {s r t : Nat} : gr L s r = some t ↔ t ≤ L.length ∧ okA L s r t = true ∧ ∀ u, t < u → u ≤ L.length → okA L s r u = false := by
  unfold gr
  rw [gr'_some]
  constructor
  · rintro ⟨h1, h2, h3⟩
    exact ⟨by omega, h2, fun u h4 h5 => h3 u h4 (by omega)⟩
  · rintro ⟨h1, h2, h3⟩
    exact ⟨by omega, h2, fun u h4 h5 => h3 u h4 (by omega)⟩
theorem gr_none {L : List Int} {s r : Nat} : gr L s r = none ↔ ∀ u, u ≤ L.length → okA L s r u = false := by
  unfold gr
  rw [gr'_none]
  constructor
  · exact fun h u hu => h u (by omega)
  · exact fun h u hu => h u (by omega)
/-- something allowed: it goes at least there -/
theorem gr_ge {L : List Int} {s r t : Nat} (ht : t ≤ L.length) (h : okA L s r t = true) : ∃ u, gr L s r = some u ∧ t ≤ u := by
  cases q : gr L s r with
  | none =>
    have := gr_none.mp q t ht
    rw [this] at h; cases h
  | some u =>
    refine ⟨u, rfl, ?_⟩
    obtain ⟨h1, h2, h3⟩ := gr_some.mp q
    refine Classical.byContradiction fun hn => ?_
    have := h3 t (by omega) ht
    rw [this] at h; cases h
/-! ### words -/
abbrev Mv : Type := Nat → Nat → Option Nat
def rdw (A : Mv) : Option Nat → List Nat → Option Nat
  | o, [] => o
  | o, r :: w => rdw A (o.bind (A · r)) w
theorem run_none {A : Mv} : ∀ {w : List Nat}, rdw A none w = none
  | [] => rfl
  | _ :: w => run_none (w := w)
theorem run_app {A : Mv} : ∀ {u v : List Nat} {o : Option Nat}, rdw A o (u ++ v) = rdw A (rdw A o u) v
  | [], _, _ => rfl
  | _ :: u, v, _ => run_app (u := u) (v := v)
def Rk (K : Nat) (w : List Nat) : Prop := ∀ x ∈ w, x < K
def Pt (A B : Mv) (s t : Nat) (w : List Nat) : Prop := rdw A (some s) w ≠ none ∧ rdw B (some t) w = none
/-- a word's place in the order: by length, then by letters -/
def cd (K : Nat) : Nat → List Nat → Nat
  | x, [] => x
  | x, r :: w => cd K (K * x + r + 1) w
theorem cd_app {K : Nat} : ∀ {u v : List Nat} {x : Nat}, cd K x (u ++ v) = cd K (cd K x u) v
  | [], _, _ => rfl
  | _ :: u, v, _ => cd_app (u := u) (v := v)
theorem mul_ge {K x : Nat} (hK : 1 ≤ K) : x ≤ K * x := by
  have := Nat.mul_le_mul_right x hK
  omega
theorem cd_ge {K : Nat} (hK : 1 ≤ K) : ∀ {w : List Nat} {x : Nat}, x ≤ cd K x w
  | [], _ => Nat.le_refl _
  | r :: w, x => by
    have := cd_ge hK (w := w) (x := K * x + r + 1)
    have := mul_ge (x := x) hK
    show x ≤ cd K (K * x + r + 1) w
    omega
theorem step_lt {K x y r q : Nat} (h : x < y) (hr : r < K) : K * x + r + 1 < K * y + q + 1 := by
  have := Nat.mul_le_mul_left K (show x + 1 ≤ y from h)
  rw [Nat.mul_add, Nat.mul_one] at this
  omega
theorem cd_lt {K : Nat} (hK : 1 ≤ K) : ∀ {w v : List Nat} {x y : Nat}, Rk K w → x < y → w.length ≤ v.length → cd K x w < cd K y v
  | [], v, x, y, _, h, _ => Nat.lt_of_lt_of_le h (cd_ge hK)
  | r :: w, [], x, y, _, _, h => by simp at h
  | r :: w, q :: v, x, y, hw, h, hl => cd_lt hK (w := w) (v := v) (x := K * x + r + 1) (y := K * y + q + 1) (fun z hz => hw z (by simp [hz])) (step_lt h (hw r (by simp))) (by simpa using hl)
theorem cd_len {K : Nat} (hK : 1 ≤ K) {w v : List Nat} {x : Nat} (hw : Rk K w) (h : w.length < v.length) : cd K x w < cd K x v := by
  cases v with
  | nil => simp at h
  | cons q v =>
    cases w with
    | nil =>
      have := cd_ge hK (w := v) (x := K * x + q + 1)
      have := mul_ge (x := x) hK
      show x < cd K (K * x + q + 1) v
      omega
    | cons r w =>
      cases v with
      | nil => simp at h
      | cons p v =>
        refine cd_lt hK (w := w) (v := v) (x := K * x + r + 1) (y := K * (K * x + q + 1) + p + 1) (fun z hz => hw z (by simp [hz])) ?_ (by simp at h; omega)
        have h1 := hw r (by simp)
        have h2 := mul_ge (x := K * x + q) hK
        have h3 : K * (K * x + q + 1) = K * (K * x + q) + K := by rw [Nat.mul_add, Nat.mul_one]
        omega
theorem cd_inj {K : Nat} (hK : 1 ≤ K) : ∀ {w v : List Nat} {x : Nat}, Rk K w → Rk K v → cd K x w = cd K x v → w = v
  | [], [], _, _, _, _ => rfl
  | [], q :: v, x, hw, _, h => by have := cd_len hK (w := []) (v := q :: v) (x := x) hw (by simp); omega
  | r :: w, [], x, _, hv, h => by have := cd_len hK (w := []) (v := r :: w) (x := x) hv (by simp); omega
  | r :: w, q :: v, x, hw, hv, h => by
    have hw' : Rk K w := fun z hz => hw z (by simp [hz])
    have hv' : Rk K v := fun z hz => hv z (by simp [hz])
    have hl : w.length = v.length := by
      rcases Nat.lt_trichotomy w.length v.length with l | l | l
      · have := cd_len hK (w := r :: w) (v := q :: v) (x := x) hw (by simp; omega); omega
      · exact l
      · have := cd_len hK (w := q :: v) (v := r :: w) (x := x) hv (by simp; omega); omega
    have hr : r = q := by
      rcases Nat.lt_trichotomy r q with l | l | l
      · have := cd_lt hK (w := w) (v := v) (x := K * x + r + 1) (y := K * x + q + 1) hw' (by omega) (by omega)
        have h : cd K (K * x + r + 1) w = cd K (K * x + q + 1) v := h
        omega
      · exact l
      · have := cd_lt hK (w := v) (v := w) (x := K * x + q + 1) (y := K * x + r + 1) hv' (by omega) (by omega)
        have h : cd K (K * x + r + 1) w = cd K (K * x + q + 1) v := h
        omega
    subst hr
    rw [cd_inj hK hw' hv' (show cd K (K * x + r + 1) w = cd K (K * x + r + 1) v from h)]
theorem cd_snoc {K x r : Nat} {w : List Nat} : cd K x (w ++ [r]) = K * cd K x w + r + 1 := by rw [cd_app]; rfl
/-- words told apart at their first other letter -/
theorem cd_first {K : Nat} (hK : 1 ≤ K) {u v : List Nat} {k : Nat} {a b : Nat} (hu : Rk K u) (hl : u.length = v.length) (ht : u.take k = v.take k) (ha : u[k]? = some a) (hb : v[k]? = some b) (h : a < b) : cd K 0 u < cd K 0 v := by
  have hku : k < u.length := (List.getElem?_eq_some_iff.mp ha).1
  have hkv : k < v.length := by omega
  have eu : u = u.take k ++ a :: u.drop (k + 1) := by
    rw [List.getElem?_eq_getElem hku] at ha
    cases ha
    rw [List.getElem_cons_drop]; simp
  have ev : v = v.take k ++ b :: v.drop (k + 1) := by
    rw [List.getElem?_eq_getElem hkv] at hb
    cases hb
    rw [List.getElem_cons_drop]; simp
  rw [eu, ev, cd_app, cd_app, ← ht]
  exact cd_lt hK (w := u.drop (k + 1)) (v := v.drop (k + 1)) (x := K * _ + a + 1) (y := K * _ + b + 1) (fun z hz => hu z (List.mem_of_mem_drop hz)) (by omega) (by simp; omega)
/-! ### pigeons -/
theorem pig {α : Type} [DecidableEq α] : ∀ {l m : List α}, l.Nodup → (∀ x ∈ l, x ∈ m) → l.length ≤ m.length
  | [], _, _, _ => Nat.zero_le _
  | x :: l, m, hn, hs => by
    have hx : x ∈ m := hs x (by simp)
    obtain ⟨h1, h2⟩ := List.nodup_cons.mp hn
    have := pig (l := l) (m := m.erase x) h2 fun y hy => by
      have hne : y ≠ x := fun e => h1 (e ▸ hy)
      exact (List.mem_erase_of_ne hne).mpr (hs y (by simp [hy]))
    rw [List.length_erase_of_mem hx] at this
    have := List.length_pos_of_mem hx
    simp
    omega
def grid (n m : Nat) : List (Nat × Nat) := (List.range (n + 1)).flatMap fun a => (List.range (m + 1)).map fun b => (a, b)
theorem grid_mem {n m : Nat} {z : Nat × Nat} (h1 : z.1 ≤ n) (h2 : z.2 ≤ m) : z ∈ grid n m := by
  unfold grid
  rw [List.mem_flatMap]
  exact ⟨z.1, List.mem_range.mpr (by omega), List.mem_map.mpr ⟨z.2, List.mem_range.mpr (by omega), rfl⟩⟩
theorem grid_len {n m : Nat} : (grid n m).length = (n + 1) * (m + 1) := by
  unfold grid
  rw [List.length_flatMap]
  have : ((List.range (n + 1)).map fun a => ((List.range (m + 1)).map fun b => (a, b)).length) = List.replicate (n + 1) (m + 1) := by
    rw [List.eq_replicate_iff]
    refine ⟨by simp, fun b hb => ?_⟩
    obtain ⟨a, _, rfl⟩ := List.mem_map.mp hb
    simp
  rw [this]
  simp
/-! ### breadth first -/
/-- what the queue holds: pairs of steps with their first words -/
structure Bf (A B : Mv) (K n m a0 b0 : Nat) (zs : List ((Nat × Nat) × List Nat)) (i r : Nat) : Prop where
  h0 : zs[0]? = some ((a0, b0), [])
  hr : ∀ z ∈ zs, rdw A (some a0) z.2 = some z.1.1 ∧ rdw B (some b0) z.2 = some z.1.2 ∧ Rk K z.2
  bd : ∀ z ∈ zs, z.1.1 ≤ n ∧ z.1.2 ≤ m
  nd : (zs.map (·.1)).Nodup
  ln : ∀ (j : Nat) (z : (Nat × Nat) × List Nat), zs[j]? = some z → z.2.length ≤ j
  srt : ∀ j z y, zs[j]? = some z → zs[j + 1]? = some y → cd K 0 z.2 < cd K 0 y.2
  top : ∀ z0, zs[i]? = some z0 → ∀ z ∈ zs, cd K 0 z.2 < K * cd K 0 z0.2 + r + 1
  clo : ∀ j q z, (j < i ∨ (j = i ∧ q < r)) → q < K → zs[j]? = some z → ∀ a, A z.1.1 q = some a → ∃ b y, B z.1.2 q = some b ∧ y ∈ zs ∧ y.1 = (a, b) ∧ cd K 0 y.2 ≤ K * cd K 0 z.2 + q + 1
section
variable {A B : Mv} {K n m a0 b0 : Nat} {zs : List ((Nat × Nat) × List Nat)} {i r : Nat}
theorem Bf.start (h1 : a0 ≤ n) (h2 : b0 ≤ m) : Bf A B K n m a0 b0 [((a0, b0), [])] 0 0 where
  h0 := rfl
  hr := by
    intro z hz
    rw [List.mem_singleton.mp hz]
    exact ⟨rfl, rfl, fun x hx => by cases hx⟩
  bd := by
    intro z hz
    rw [List.mem_singleton.mp hz]
    exact ⟨h1, h2⟩
  nd := by simp
  ln := by
    intro j z hz
    cases j with
    | zero => cases hz; exact Nat.le_refl _
    | succ j => simp at hz
  srt := by
    intro j z y h1 h2
    simp at h2
  top := by
    intro z0 h z hz
    rw [List.mem_singleton.mp hz]
    show 0 < _
    omega
  clo := by
    intro j q z h
    omega
theorem Bf.srt' (h : Bf A B K n m a0 b0 zs i r) : ∀ (d j : Nat) (z y : (Nat × Nat) × List Nat), zs[j]? = some z → zs[j + d]? = some y → cd K 0 z.2 ≤ cd K 0 y.2
  | 0, j, z, y, h1, h2 => by
    rw [Nat.add_zero, h1] at h2
    cases h2
    exact Nat.le_refl _
  | d + 1, j, z, y, h1, h2 => by
    have hl : j + (d + 1) < zs.length := (List.getElem?_eq_some_iff.mp h2).1
    have h3 : zs[j + d]? = some zs[j + d] := List.getElem?_eq_getElem (by omega)
    have := h.srt' d j z _ h1 h3
    have := h.srt (j + d) _ y h3 h2
    omega
theorem Bf.le_at (h : Bf A B K n m a0 b0 zs i r) {j k : Nat} {z y : (Nat × Nat) × List Nat} (hj : zs[j]? = some z) (hk : zs[k]? = some y) (hle : j ≤ k) : cd K 0 z.2 ≤ cd K 0 y.2 :=
  h.srt' (k - j) j z y hj (by rw [show j + (k - j) = k by omega]; exact hk)
theorem Bf.lt_at (h : Bf A B K n m a0 b0 zs i r) {j k : Nat} {z y : (Nat × Nat) × List Nat} (hj : zs[j]? = some z) (hk : zs[k]? = some y) (hle : j < k) : cd K 0 z.2 < cd K 0 y.2 := by
  have hl : k < zs.length := (List.getElem?_eq_some_iff.mp hk).1
  have h3 : zs[j + 1]? = some zs[j + 1] := List.getElem?_eq_getElem (by omega)
  have := h.srt j z _ hj h3
  have := h.le_at h3 hk (by omega)
  omega
theorem Bf.skip1 (h : Bf A B K n m a0 b0 zs i r) {z : (Nat × Nat) × List Nat} (hz : zs[i]? = some z) (ha : A z.1.1 r = none) : Bf A B K n m a0 b0 zs i (r + 1) where
  h0 := h.h0
  hr := h.hr
  bd := h.bd
  nd := h.nd
  ln := h.ln
  srt := h.srt
  top := fun z0 h0 y hy => by have := h.top z0 h0 y hy; omega
  clo := fun j q y hj hq hy a ea => by
    by_cases e : j = i ∧ q = r
    · obtain ⟨rfl, rfl⟩ := e
      rw [hz] at hy
      cases hy
      rw [ha] at ea
      cases ea
    · exact h.clo j q y (by omega) hq hy a ea
theorem Bf.skip2 (h : Bf A B K n m a0 b0 zs i r) {z : (Nat × Nat) × List Nat} {b : Nat} (hz : zs[i]? = some z) (hb : B z.1.2 r = some b) (hm : ∀ a, A z.1.1 r = some a → (a, b) ∈ zs.map (·.1)) : Bf A B K n m a0 b0 zs i (r + 1) where
  h0 := h.h0
  hr := h.hr
  bd := h.bd
  nd := h.nd
  ln := h.ln
  srt := h.srt
  top := fun z0 h0 y hy => by have := h.top z0 h0 y hy; omega
  clo := fun j q y hj hq hy a ea => by
    by_cases e : j = i ∧ q = r
    · obtain ⟨rfl, rfl⟩ := e
      rw [hz] at hy
      cases hy
      obtain ⟨x, hx, ex⟩ := List.mem_map.mp (hm a ea)
      have := h.top z hz x hx
      exact ⟨b, x, hb, hx, ex, by omega⟩
    · exact h.clo j q y (by omega) hq hy a ea
theorem Bf.add (h : Bf A B K n m a0 b0 zs i r) {z : (Nat × Nat) × List Nat} {a b : Nat} (hK : 1 ≤ K) (hz : zs[i]? = some z) (hr : r < K) (ha : A z.1.1 r = some a) (hb : B z.1.2 r = some b) (h1 : a ≤ n) (h2 : b ≤ m) (hm : (a, b) ∉ zs.map (·.1)) :
    Bf A B K n m a0 b0 (zs ++ [((a, b), z.2 ++ [r])]) i (r + 1) := by
  have hi : i < zs.length := (List.getElem?_eq_some_iff.mp hz).1
  have hzm := List.mem_of_getElem? hz
  have hzr := h.hr z hzm
  constructor
  · rw [List.getElem?_append_left (by omega)]; exact h.h0
  · intro y hy
    rcases List.mem_append.mp hy with hy | hy
    · exact h.hr y hy
    · rw [List.mem_singleton.mp hy]
      refine ⟨?_, ?_, fun x hx => ?_⟩
      · show rdw A (some a0) (z.2 ++ [r]) = some a
        rw [run_app, hzr.1]; exact ha
      · show rdw B (some b0) (z.2 ++ [r]) = some b
        rw [run_app, hzr.2.1]; exact hb
      · rcases List.mem_append.mp hx with hx | hx
        · exact hzr.2.2 x hx
        · rw [List.mem_singleton.mp hx]; exact hr
  · intro y hy
    rcases List.mem_append.mp hy with hy | hy
    · exact h.bd y hy
    · rw [List.mem_singleton.mp hy]
      exact ⟨h1, h2⟩
  · rw [List.map_append, List.nodup_append]
    refine ⟨h.nd, by simp, fun x hx y hy e => ?_⟩
    rw [List.map_singleton, List.mem_singleton] at hy
    subst e
    subst hy
    exact hm hx
  · intro j y hy
    by_cases e : j < zs.length
    · rw [List.getElem?_append_left e] at hy
      exact h.ln j y hy
    · have hj : j = zs.length := by
        have := (List.getElem?_eq_some_iff.mp hy).1
        simp at this
        omega
      subst hj
      rw [List.getElem?_append_right (Nat.le_refl _), Nat.sub_self] at hy
      cases hy
      have := h.ln i z hz
      simp
      omega
  · intro j y x hy hx
    by_cases e : j + 1 < zs.length
    · rw [List.getElem?_append_left (by omega)] at hy hx
      exact h.srt j y x hy hx
    · have hj : j + 1 = zs.length := by
        have := (List.getElem?_eq_some_iff.mp hx).1
        simp at this
        omega
      rw [List.getElem?_append_left (by omega)] at hy
      rw [hj, List.getElem?_append_right (by omega), Nat.sub_self] at hx
      cases hx
      show _ < cd K 0 (z.2 ++ [r])
      rw [cd_snoc]
      exact h.top z hz y (List.mem_of_getElem? hy)
  · intro z0 h0 y hy
    rw [List.getElem?_append_left hi, hz] at h0
    cases h0
    rcases List.mem_append.mp hy with hy | hy
    · have := h.top z hz y hy; omega
    · rw [List.mem_singleton.mp hy]
      show cd K 0 (z.2 ++ [r]) < _
      rw [cd_snoc]; omega
  · intro j q y hj hq hy c ec
    have hj' : j < zs.length := by omega
    rw [List.getElem?_append_left hj'] at hy
    by_cases e : j = i ∧ q = r
    · obtain ⟨rfl, rfl⟩ := e
      rw [hz] at hy
      cases hy
      rw [ha] at ec
      cases ec
      refine ⟨b, _, hb, List.mem_append.mpr (.inr (List.mem_singleton.mpr rfl)), rfl, ?_⟩
      show cd K 0 (z.2 ++ [q]) ≤ _
      rw [cd_snoc]; exact Nat.le_refl _
    · obtain ⟨b', x, h3, h4, h5, h6⟩ := h.clo j q y (by omega) hq hy c ec
      exact ⟨b', x, h3, List.mem_append.mpr (.inl h4), h5, h6⟩
theorem Bf.turn (h : Bf A B K n m a0 b0 zs i K) (hK : 1 ≤ K) (hi : i < zs.length) : Bf A B K n m a0 b0 zs (i + 1) 0 where
  h0 := h.h0
  hr := h.hr
  bd := h.bd
  nd := h.nd
  ln := h.ln
  srt := h.srt
  top := fun z0 h0 y hy => by
    have hz : zs[i]? = some zs[i] := List.getElem?_eq_getElem hi
    have := h.top _ hz y hy
    have h2 := h.srt i _ z0 hz h0
    have := Nat.mul_le_mul_left K (show cd K 0 zs[i].2 + 1 ≤ cd K 0 z0.2 from h2)
    rw [Nat.mul_add, Nat.mul_one] at this
    omega
  clo := fun j q y hj hq hy a ea => h.clo j q y (by omega) hq hy a ea
/-- a live word comes from the queue, or behind its present place -/
theorem Bf.live (h : Bf A B K n m a0 b0 zs i r) (hK : 1 ≤ K) (hrK : r ≤ K) : ∀ (d : Nat) (U : List Nat), U.length = d → Rk K U → ∀ s t, rdw A (some a0) U = some s → rdw B (some b0) U = some t →
    (∃ (j : Nat) (z : (Nat × Nat) × List Nat), zs[j]? = some z ∧ z.1 = (s, t) ∧ cd K 0 z.2 ≤ cd K 0 U) ∨ ∃ z : (Nat × Nat) × List Nat, zs[i]? = some z ∧ K * cd K 0 z.2 + r + 1 ≤ cd K 0 U
  | 0, U, hU, _, s, t, h1, h2 => by
    have : U = [] := List.length_eq_zero_iff.mp hU
    subst this
    cases h1
    cases h2
    exact .inl ⟨0, _, h.h0, rfl, Nat.le_refl _⟩
  | d + 1, U, hU, hk, s, t, h1, h2 => by
    obtain ⟨V, q, rfl⟩ : ∃ V q, U = V ++ [q] := ⟨U.dropLast, U.getLast (by intro z; subst z; cases hU), (List.dropLast_concat_getLast _).symm⟩
    have hq : q < K := hk q (by simp)
    rw [run_app] at h1 h2
    rw [cd_snoc]
    cases e1 : rdw A (some a0) V with
    | none => rw [e1] at h1; cases h1
    | some a =>
      cases e2 : rdw B (some b0) V with
      | none => rw [e2] at h2; cases h2
      | some b =>
        rw [e1] at h1
        rw [e2] at h2
        have h1 : A a q = some s := h1
        have h2 : B b q = some t := h2
        rcases h.live hK hrK d V (by simpa using hU) (fun x hx => hk x (by simp [hx])) a b e1 e2 with ⟨j, z, hz, ez, hc⟩ | ⟨z, hz, hc⟩
        · have mono := Nat.mul_le_mul_left K hc
          by_cases p : j < i ∨ (j = i ∧ q < r)
          · obtain ⟨b', y, h3, h4, h5, h6⟩ := h.clo j q z p hq hz s (by rw [ez]; exact h1)
            rw [ez] at h3
            have h3 : B b q = some b' := h3
            rw [h2] at h3
            cases h3
            obtain ⟨k, hk', rfl⟩ := List.mem_iff_getElem.mp h4
            exact .inl ⟨k, _, List.getElem?_eq_getElem hk', h5, by omega⟩
          · have hjl : j < zs.length := (List.getElem?_eq_some_iff.mp hz).1
            have hz' : zs[i]? = some zs[i] := List.getElem?_eq_getElem (by omega)
            refine .inr ⟨_, hz', ?_⟩
            by_cases e : j = i
            · subst e
              rw [hz] at hz'
              rw [← Option.some.inj hz']
              omega
            · have := h.lt_at hz' hz (by omega)
              have := Nat.mul_le_mul_left K (show cd K 0 zs[i].2 + 1 ≤ cd K 0 z.2 from this)
              rw [Nat.mul_add, Nat.mul_one] at this
              omega
        · refine .inr ⟨z, hz, ?_⟩
          have := mul_ge (x := cd K 0 V) hK
          omega
theorem Bf.live' (h : Bf A B K n m a0 b0 zs i r) (hK : 1 ≤ K) (hrK : r ≤ K) {U : List Nat} (hU : Rk K U) {s t : Nat} (h1 : rdw A (some a0) U = some s) (h2 : rdw B (some b0) U = some t) :
    (∃ (j : Nat) (z : (Nat × Nat) × List Nat), zs[j]? = some z ∧ z.1 = (s, t) ∧ cd K 0 z.2 ≤ cd K 0 U) ∨ ∃ z : (Nat × Nat) × List Nat, zs[i]? = some z ∧ K * cd K 0 z.2 + r + 1 ≤ cd K 0 U := h.live hK hrK _ U rfl hU s t h1 h2
/-- a parting word parts at a first letter -/
theorem Pt.cut {s t : Nat} : ∀ {w : List Nat}, Pt A B s t w → ∃ u q v, w = u ++ q :: v ∧ ∃ a b a', rdw A (some s) u = some a ∧ rdw B (some t) u = some b ∧ A a q = some a' ∧ B b q = none
  | [], h => by cases h.2
  | q :: w, h => by
    cases e1 : A s q with
    | none =>
      have : rdw A (some s) (q :: w) = none := by
        show rdw A (A s q) w = none
        rw [e1]; exact run_none
      exact absurd this h.1
    | some a' =>
      cases e2 : B t q with
      | none => exact ⟨[], q, w, rfl, s, t, a', rfl, rfl, e1, e2⟩
      | some b' =>
        have h' : Pt A B a' b' w := by
          refine ⟨?_, ?_⟩
          · have := h.1
            rw [show rdw A (some s) (q :: w) = rdw A (A s q) w from rfl, e1] at this
            exact this
          · have := h.2
            rw [show rdw B (some t) (q :: w) = rdw B (B t q) w from rfl, e2] at this
            exact this
        obtain ⟨u, p, v, rfl, a, b, c, h1, h2, h3, h4⟩ := h'.cut
        refine ⟨q :: u, p, v, rfl, a, b, c, ?_, ?_, h3, h4⟩
        · show rdw A (A s q) u = _
          rw [e1]; exact h1
        · show rdw B (B t q) u = _
          rw [e2]; exact h2
theorem Bf.none (h : Bf A B K n m a0 b0 zs i 0) (hK : 1 ≤ K) (hi : zs.length ≤ i) {w : List Nat} (hw : Rk K w) : ¬Pt A B a0 b0 w := fun hp => by
  obtain ⟨u, q, v, rfl, a, b, a', h1, h2, h3, h4⟩ := hp.cut
  have hq : q < K := hw q (by simp)
  rcases h.live' hK (Nat.zero_le _) (fun x hx => hw x (by simp [hx])) h1 h2 with ⟨j, z, hz, ez, hc⟩ | ⟨z, hz, hc⟩
  · have := (List.getElem?_eq_some_iff.mp hz).1
    obtain ⟨b', y, h5, _⟩ := h.clo j q z (by omega) hq hz a' (by rw [ez]; exact h3)
    rw [ez] at h5
    have h5 : B b q = some b' := h5
    rw [h4] at h5
    cases h5
  · have := (List.getElem?_eq_some_iff.mp hz).1
    omega
/-- the first parting word -/
def Fst (A B : Mv) (K a0 b0 : Nat) (w : List Nat) : Prop := Rk K w ∧ Pt A B a0 b0 w ∧ ∀ v, Rk K v → Pt A B a0 b0 v → cd K 0 w ≤ cd K 0 v
theorem Fst.uniq (hK : 1 ≤ K) {w v : List Nat} (h : Fst A B K a0 b0 w) (g : Fst A B K a0 b0 v) : w = v := by
  have h1 := h.2.2 v g.1 g.2.1
  have h2 := g.2.2 w h.1 h.2.1
  exact cd_inj hK (x := 0) h.1 g.1 (by omega)
theorem Bf.ret (h : Bf A B K n m a0 b0 zs i r) (hK : 1 ≤ K) (hr : r < K) {z : (Nat × Nat) × List Nat} {a : Nat} (hz : zs[i]? = some z) (ha : A z.1.1 r = some a) (hb : B z.1.2 r = .none) : Fst A B K a0 b0 (z.2 ++ [r]) := by
  have hzr := h.hr z (List.mem_of_getElem? hz)
  refine ⟨?_, ⟨?_, ?_⟩, fun v hv hp => ?_⟩
  · intro x hx
    rcases List.mem_append.mp hx with hx | hx
    · exact hzr.2.2 x hx
    · rw [List.mem_singleton.mp hx]; exact hr
  · rw [run_app, hzr.1]
    show A z.1.1 r ≠ _
    rw [ha]; exact nofun
  · rw [run_app, hzr.2.1]
    exact hb
  · obtain ⟨u, q, v, rfl, a, b, a', h1, h2, h3, h4⟩ := hp.cut
    have hq : q < K := hv q (by simp)
    have e1 : u ++ q :: v = (u ++ [q]) ++ v := by simp
    rw [e1, cd_app (u := u ++ [q]), cd_snoc]
    refine Nat.le_trans (m := cd K 0 (u ++ [q])) ?_ (cd_ge hK)
    rw [cd_snoc]
    rcases h.live' hK (by omega) (fun x hx => hv x (by simp [hx])) h1 h2 with ⟨j, y, hy, ey, hc⟩ | ⟨y, hy, hc⟩
    · have mono := Nat.mul_le_mul_left K hc
      by_cases p : j < i ∨ (j = i ∧ q < r)
      · obtain ⟨b', x, h5, _⟩ := h.clo j q y p hq hy a' (by rw [ey]; exact h3)
        rw [ey] at h5
        have h5 : B b q = some b' := h5
        rw [h4] at h5
        cases h5
      · by_cases e : j = i
        · subst e
          rw [hz] at hy
          cases hy
          omega
        · have := h.lt_at hz hy (by omega)
          have := Nat.mul_le_mul_left K (show cd K 0 z.2 + 1 ≤ cd K 0 y.2 from this)
          rw [Nat.mul_add, Nat.mul_one] at this
          omega
    · rw [hz] at hy
      cases hy
      have := mul_ge (x := cd K 0 u) hK
      omega
theorem Bf.len (h : Bf A B K n m a0 b0 zs i r) : zs.length ≤ (n + 1) * (m + 1) := by
  have := pig (l := zs.map (·.1)) (m := grid n m) h.nd fun x hx => by
    obtain ⟨z, hz, rfl⟩ := List.mem_map.mp hx
    exact grid_mem (h.bd z hz).1 (h.bd z hz).2
  rw [grid_len, List.length_map] at this
  exact this
end
/-! ### distances -/
section
variable (A B : Mv) (K : Nat)
/-- l letters part: the last one parts -/
def gx : Nat → Option Nat → Option Nat → Bool
  | 0, some _, none => true
  | l + 1, some a, some b => (List.range K).any fun r => gx l (A a r) (B b r)
  | _, _, _ => false
def ds : Nat → Nat → Nat → Nat
  | 0, _, _ => 0
  | T + 1, a, b => if ds T a b ≠ 0 then ds T a b else if gx A B K (T + 1) (some a) (some b) then T + 1 else 0
end
/-- the law's question about a letter -/
def gdr (f : Nat → Nat → Nat) (l : Nat) (o p : Option Nat) : Bool := match o with
  | none => false
  | some a => if l = 0 then p.isNone else match p with
    | none => false
    | some b => f a b == l
section
variable {A B : Mv} {K : Nat}
theorem gx_succ {l s t : Nat} : gx A B K (l + 1) (some s) (some t) = (List.range K).any fun r => gx A B K l (A s r) (B t r) := rfl
theorem gx_none {l : Nat} {p : Option Nat} : gx A B K l none p = false := by cases l <;> cases p <;> rfl
theorem gx_i {l s t r : Nat} (hr : r < K) (h : gx A B K l (A s r) (B t r) = true) : gx A B K (l + 1) (some s) (some t) = true := by
  rw [gx_succ, List.any_eq_true]
  exact ⟨r, List.mem_range.mpr hr, h⟩
theorem gx_e {l s t : Nat} (h : gx A B K (l + 1) (some s) (some t) = true) : ∃ r, r < K ∧ gx A B K l (A s r) (B t r) = true := by
  rw [gx_succ, List.any_eq_true] at h
  obtain ⟨r, hr, h⟩ := h
  exact ⟨r, List.mem_range.mp hr, h⟩
theorem ds_pos : ∀ {T a b : Nat}, ds A B K T a b ≠ 0 → gx A B K (ds A B K T a b) (some a) (some b) = true ∧ ds A B K T a b ≤ T ∧ ∀ l, l < ds A B K T a b → gx A B K l (some a) (some b) = false
  | 0, a, b, h => absurd rfl h
  | T + 1, a, b, h => by
    unfold ds at h ⊢
    by_cases e : ds A B K T a b ≠ 0
    · rw [if_pos e] at h ⊢
      obtain ⟨h1, h2, h3⟩ := ds_pos e
      exact ⟨h1, by omega, h3⟩
    · rw [if_neg e] at h ⊢
      by_cases g : gx A B K (T + 1) (some a) (some b) = true
      · rw [if_pos g] at h ⊢
        refine ⟨g, Nat.le_refl _, fun l hl => ?_⟩
        have := ds_zero (by simpa using e) (l := l) (by omega)
        exact this
      · rw [if_neg g] at h
        exact absurd rfl h
where
  ds_zero : ∀ {T a b : Nat}, ds A B K T a b = 0 → ∀ {l : Nat}, l ≤ T → gx A B K l (some a) (some b) = false
    | 0, a, b, _, l, hl => by
      have : l = 0 := by omega
      subst this; rfl
    | T + 1, a, b, h, l, hl => by
      unfold ds at h
      by_cases e : ds A B K T a b ≠ 0
      · rw [if_pos e] at h
        exact absurd h e
      · rw [if_neg e] at h
        by_cases g : gx A B K (T + 1) (some a) (some b) = true
        · rw [if_pos g] at h
          cases h
        · by_cases q : l = T + 1
          · subst q; simpa using g
          · exact ds_zero (by simpa using e) (by omega)
theorem ds_zero {T a b l : Nat} (h : ds A B K T a b = 0) (hl : l ≤ T) : gx A B K l (some a) (some b) = false := ds_pos.ds_zero h hl
/-- the least length, from what it is -/
theorem ds_is {T a b l : Nat} (h0 : 1 ≤ l) (hT : l ≤ T) (h : gx A B K l (some a) (some b) = true) (hm : ∀ k, k < l → gx A B K k (some a) (some b) = false) : ds A B K T a b = l := by
  by_cases e : ds A B K T a b = 0
  · have := ds_zero e hT
    rw [h] at this; cases this
  · obtain ⟨h1, h2, h3⟩ := ds_pos e
    rcases Nat.lt_trichotomy (ds A B K T a b) l with q | q | q
    · have := hm _ q
      rw [h1] at this; cases this
    · exact q
    · have := h3 _ q
      rw [h] at this; cases this
theorem gdr_gx {f : Nat → Nat → Nat} {T s t r : Nat} (hr : r < K) (h0 : ds A B K T s t = 0) (hf : ∀ a b, A s r = some a → B t r = some b → f a b = ds A B K T a b ∨ (ds A B K T a b = 0 ∧ f a b = T + 1)) :
    gdr f T (A s r) (B t r) = gx A B K T (A s r) (B t r) := by
  cases ea : A s r with
  | none => rw [gx_none]; rfl
  | some a =>
    cases T with
    | zero =>
      cases eb : B t r with
      | none => rfl
      | some b => rfl
    | succ T =>
      cases eb : B t r with
      | none => rfl
      | some b =>
        show (f a b == T + 1) = _
        have low : ∀ l, l ≤ T → gx A B K l (some a) (some b) = false := by
          intro l hl
          cases g : gx A B K l (some a) (some b) with
          | false => rfl
          | true =>
            have := gx_i (A := A) (B := B) (s := s) (t := t) (l := l) hr (by rw [ea, eb]; exact g)
            rw [ds_zero h0 (by omega)] at this
            cases this
        rcases hf a b ea eb with e | ⟨e, e2⟩
        · cases g : gx A B K (T + 1) (some a) (some b) with
          | true =>
            rw [e, ds_is (T := T + 1) (by omega) (Nat.le_refl _) g (fun k hk => low k (by omega))]
            simp
          | false =>
            rw [e]
            cases q : (ds A B K (T + 1) a b == T + 1) with
            | false => rfl
            | true =>
              have q := eq_of_beq q
              have := (ds_pos (A := A) (B := B) (K := K) (T := T + 1) (a := a) (b := b) (by omega)).1
              rw [q, g] at this
              cases this
        · rw [e2, ds_zero e (Nat.le_refl _)]
          simp
theorem any_gdr {f : Nat → Nat → Nat} {T s t : Nat} (h0 : ds A B K T s t = 0) (hf : ∀ a b r, r < K → A s r = some a → B t r = some b → f a b = ds A B K T a b ∨ (ds A B K T a b = 0 ∧ f a b = T + 1)) :
    ((List.range K).any fun r => gdr f T (A s r) (B t r)) = gx A B K (T + 1) (some s) (some t) := by
  rw [gx_succ]
  have : ∀ (l : List Nat), (∀ r ∈ l, r < K) → (l.any fun r => gdr f T (A s r) (B t r)) = l.any fun r => gx A B K T (A s r) (B t r) := by
    intro l
    induction l with
    | nil => intro _; rfl
    | cons r l ih =>
      intro h
      rw [List.any_cons, List.any_cons, ih (fun x hx => h x (by simp [hx])), gdr_gx (h r (by simp)) h0 (fun a b => hf a b r (h r (by simp)))]
  exact this _ fun r hr => List.mem_range.mp hr
/-- a turn that changes nothing: there is nothing further -/
theorem ds_stop {T n m : Nat} (hA : ∀ s r a, A s r = some a → a ≤ n) (hB : ∀ t r b, B t r = some b → b ≤ m) (h : ∀ s t, s ≤ n → t ≤ m → ds A B K (T + 1) s t = ds A B K T s t) :
    ∀ (l s t : Nat), s ≤ n → t ≤ m → gx A B K l (some s) (some t) = true → ds A B K T s t ≠ 0
  | 0, s, t, _, _, g => by cases g
  | l + 1, s, t, hs, ht, g => fun e => by
    by_cases q : l + 1 ≤ T + 1
    · have h2 := h s t hs ht
      rw [e] at h2
      have := ds_zero h2 q
      rw [g] at this; cases this
    · obtain ⟨r, hr, g2⟩ := gx_e g
      cases ea : A s r with
      | none => rw [ea, gx_none] at g2; cases g2
      | some a =>
        cases eb : B t r with
        | none =>
          rw [ea, eb] at g2
          cases l with
          | zero => omega
          | succ l => cases g2
        | some b =>
          rw [ea, eb] at g2
          have ih := ds_stop hA hB h l a b (hA _ _ _ ea) (hB _ _ _ eb) g2
          obtain ⟨h1, h3, _⟩ := ds_pos ih
          have h4 := gx_i (A := A) (B := B) (s := s) (t := t) (l := ds A B K T a b) hr (by rw [ea, eb]; exact h1)
          have h2 := h s t hs ht
          rw [e] at h2
          have := ds_zero h2 (l := ds A B K T a b + 1) (by omega)
          rw [h4] at this; cases this
/-- turns that each change something reach everything -/
def Cnt (A B : Mv) (K n m T : Nat) : Prop := ∃ zs : List (Nat × Nat), zs.Nodup ∧ zs.length = T ∧ ∀ z ∈ zs, z.1 ≤ n ∧ z.2 ≤ m ∧ ds A B K T z.1 z.2 ≠ 0
theorem Cnt.zero {n m : Nat} : Cnt A B K n m 0 := ⟨[], List.nodup_nil, rfl, fun z hz => by cases hz⟩
theorem Cnt.next {n m T s t : Nat} (h : Cnt A B K n m T) (hs : s ≤ n) (ht : t ≤ m) (h0 : ds A B K T s t = 0) (h1 : ds A B K (T + 1) s t ≠ 0) : Cnt A B K n m (T + 1) := by
  obtain ⟨zs, z1, z2, z3⟩ := h
  refine ⟨(s, t) :: zs, List.nodup_cons.mpr ⟨fun hm => (z3 _ hm).2.2 h0, z1⟩, by simp [z2], fun z hz => ?_⟩
  rcases List.mem_cons.mp hz with rfl | hz
  · exact ⟨hs, ht, h1⟩
  · obtain ⟨h2, h3, h4⟩ := z3 z hz
    refine ⟨h2, h3, ?_⟩
    unfold ds
    rw [if_pos h4]; exact h4
theorem Cnt.full {n m s t : Nat} (h : Cnt A B K n m ((n + 1) * (m + 1))) (hs : s ≤ n) (ht : t ≤ m) : ds A B K ((n + 1) * (m + 1)) s t ≠ 0 := fun e => by
  obtain ⟨zs, z1, z2, z3⟩ := h
  have := pig (l := (s, t) :: zs) (m := grid n m) (List.nodup_cons.mpr ⟨fun hm => (z3 _ hm).2.2 e, z1⟩) fun z hz => by
    rcases List.mem_cons.mp hz with rfl | hz
    · exact grid_mem hs ht
    · exact grid_mem (z3 z hz).1 (z3 z hz).2.1
  rw [grid_len, List.length_cons, z2] at this
  exact absurd this (Nat.not_succ_le_self _)
/-- parting words and lengths -/
theorem Pt.gx {s t : Nat} : ∀ {v : List Nat}, Rk K v → Pt A B s t v → ∃ l, 1 ≤ l ∧ l ≤ v.length ∧ gx A B K l (some s) (some t) = true
  | [], _, h => by cases h.2
  | q :: w, hv, h => by
    have hq : q < K := hv q (by simp)
    cases e1 : A s q with
    | none =>
      have : rdw A (some s) (q :: w) = none := by
        show rdw A (A s q) w = none
        rw [e1]; exact run_none
      exact absurd this h.1
    | some a =>
      cases e2 : B t q with
      | none => exact ⟨1, Nat.le_refl _, by simp, gx_i hq (by rw [e1, e2]; rfl)⟩
      | some b =>
        have h' : Pt A B a b w := by
          refine ⟨?_, ?_⟩
          · have := h.1
            rw [show rdw A (some s) (q :: w) = rdw A (A s q) w from rfl, e1] at this
            exact this
          · have := h.2
            rw [show rdw B (some t) (q :: w) = rdw B (B t q) w from rfl, e2] at this
            exact this
        obtain ⟨l, h1, h2, h3⟩ := h'.gx (fun x hx => hv x (by simp [hx]))
        exact ⟨l + 1, by omega, by simp; omega, gx_i hq (by rw [e1, e2]; exact h3)⟩
/-- the word that the law builds -/
inductive FW (A B : Mv) (K : Nat) (f : Nat → Nat → Nat) : Nat → Option Nat → Option Nat → List Nat → Prop
  | nil {a : Nat} : FW A B K f 0 (some a) none []
  | cons {l s t r : Nat} {w : List Nat} (hr : r < K) (hg : gdr f l (A s r) (B t r) = true) (hm : ∀ q, q < r → gdr f l (A s q) (B t q) = false) (h : FW A B K f l (A s r) (B t r) w) : FW A B K f (l + 1) (some s) (some t) (r :: w)
theorem FW.len {f : Nat → Nat → Nat} {l : Nat} {o p : Option Nat} {w : List Nat} (h : FW A B K f l o p w) : w.length = l ∧ Rk K w ∧ rdw A o w ≠ none ∧ rdw B p w = none := by
  induction h with
  | nil => exact ⟨rfl, fun x hx => (by cases hx), nofun, rfl⟩
  | cons hr hg hm h ih =>
    obtain ⟨h1, h2, h3, h4⟩ := ih
    refine ⟨by simp [h1], fun x hx => ?_, h3, h4⟩
    rcases List.mem_cons.mp hx with rfl | hx
    · exact hr
    · exact h2 x hx
theorem FW.min {f : Nat → Nat → Nat} {T : Nat} (hK : 1 ≤ K) (hf : ∀ s t r a b, A s r = some a → B t r = some b → f a b = ds A B K T a b) {l : Nat} {o p : Option Nat} {w : List Nat} (h : FW A B K f l o p w) :
    ∀ s t, o = some s → p = some t → l ≤ T → (∀ k, k < l → gx A B K k o p = false) → ∀ (v : List Nat) (x : Nat), Rk K v → Pt A B s t v → cd K x w ≤ cd K x v := by
  induction h with
  | nil => intro s t _ e; cases e
  | @cons l s t r w hr hg hm h ih =>
    intro s' t' e1 e2 hT hlow v x hv hp
    cases e1
    cases e2
    have hw := h.len
    cases v with
    | nil => cases hp.2
    | cons q v =>
      have hq : q < K := hv q (by simp)
      have hv' : Rk K v := fun z hz => hv z (by simp [hz])
      cases ea : A s q with
      | none =>
        have : rdw A (some s) (q :: v) = none := by
          show rdw A (A s q) v = none
          rw [ea]; exact run_none
        exact absurd this hp.1
      | some a =>
        cases eb : B t q with
        | none =>
          have g1 : gx A B K 1 (some s) (some t) = true := gx_i hq (by rw [ea, eb]; rfl)
          have hl : l = 0 := by
            cases l with
            | zero => rfl
            | succ l =>
              have := hlow 1 (by omega)
              rw [g1] at this; cases this
          subst hl
          have : w = [] := List.length_eq_zero_iff.mp hw.1
          subst this
          have hrq : r ≤ q := by
            refine Classical.byContradiction fun hn => ?_
            have := hm q (by omega)
            rw [ea, eb] at this
            cases this
          have := cd_ge hK (w := v) (x := K * x + q + 1)
          show K * x + r + 1 ≤ cd K (K * x + q + 1) v
          omega
        | some b =>
          have hp' : Pt A B a b v := by
            refine ⟨?_, ?_⟩
            · have := hp.1
              rw [show rdw A (some s) (q :: v) = rdw A (A s q) v from rfl, ea] at this
              exact this
            · have := hp.2
              rw [show rdw B (some t) (q :: v) = rdw B (B t q) v from rfl, eb] at this
              exact this
          obtain ⟨l', g1, g2, g3⟩ := hp'.gx hv'
          have hll : l ≤ l' := by
            refine Classical.byContradiction fun hn => ?_
            have := hlow (l' + 1) (by omega)
            rw [gx_i hq (by rw [ea, eb]; exact g3)] at this
            cases this
          rcases Nat.lt_trichotomy q r with hqr | hqr | hqr
          · have hne : l ≠ l' := by
              intro e
              subst e
              have h1 := hm q hqr
              rw [ea, eb] at h1
              have : ds A B K T a b = l := ds_is g1 (by omega) g3 fun k hk => by
                cases g : gx A B K k (some a) (some b) with
                | false => rfl
                | true =>
                  have := hlow (k + 1) (by omega)
                  rw [gx_i hq (by rw [ea, eb]; exact g)] at this
                  cases this
              have hz : l ≠ 0 := by omega
              have h1 : (if l = 0 then (some b).isNone else f a b == l) = false := h1
              rw [if_neg hz, hf _ _ _ _ _ ea eb, this] at h1
              simp at h1
            refine Nat.le_of_lt (cd_len hK ?_ ?_)
            · intro z hz
              rcases List.mem_cons.mp hz with rfl | hz
              · exact hr
              · exact hw.2.1 z hz
            · simp
              omega
          · subst hqr
            show cd K (K * x + q + 1) w ≤ cd K (K * x + q + 1) v
            refine ih a b ea eb (by omega) (fun k hk => ?_) v _ hv' hp'
            cases g : gx A B K k (A s q) (B t q) with
            | false => rfl
            | true =>
              have := hlow (k + 1) (by omega)
              rw [gx_i hq g] at this
              cases this
          · refine Nat.le_of_lt (cd_lt hK (w := w) (v := v) (x := K * x + r + 1) (y := K * x + q + 1) hw.2.1 (by omega) ?_)
            omega
end
/-! ### embeddings -/
section
variable {L M : List Int}
def Emb (L M : List Int) (e : Nat → Nat) : Prop := (∀ s, s ≤ L.length → e s ≤ M.length) ∧ ∀ j, j < L.length → e j < e (j + 1) ∧ gp M (e j) (e (j + 1)) = lv L j
def Lvs (h : Nat) (L : List Int) : Prop := ∀ i, i < L.length → 1 ≤ lv L i ∧ lv L i ≤ h
theorem gp_join {a b c : Nat} {q : Int} (h1 : a ≤ b) (h2 : b ≤ c) (ha : gp M a b ≤ q) (hb : gp M b c ≤ q) : gp M a c ≤ q := by
  obtain ⟨g0, ga⟩ := gp_le.mp ha
  obtain ⟨_, gb⟩ := gp_le.mp hb
  refine gp_le.mpr ⟨g0, fun i hi hj => ?_⟩
  by_cases q : i < b
  · exact ga i (by omega) (by omega)
  · exact gb i (by omega) (by omega)
theorem Emb.mono {e : Nat → Nat} (E : Emb L M e) : ∀ (d s : Nat), s + d ≤ L.length → e s ≤ e (s + d)
  | 0, _, _ => Nat.le_refl _
  | d + 1, s, h => by
    have := E.mono d s (by omega)
    have := (E.2 (s + d) (by omega)).1
    rw [show s + (d + 1) = s + d + 1 by omega]
    omega
theorem Emb.le {e : Nat → Nat} (E : Emb L M e) {s t : Nat} (h : s ≤ t) (ht : t ≤ L.length) : e s ≤ e t := by
  have := E.mono (t - s) s (by omega)
  rwa [show s + (t - s) = t by omega] at this
theorem Emb.gap {e : Nat → Nat} (E : Emb L M e) {q : Int} (q0 : 0 ≤ q) : ∀ (d s : Nat), s + d ≤ L.length → (∀ k, s ≤ k → k < s + d → lv L k ≤ q) → gp M (e s) (e (s + d)) ≤ q
  | 0, s, _, _ => gp_le.mpr ⟨q0, fun i hi hj => by rw [Nat.add_zero] at hi hj; omega⟩
  | d + 1, s, h, hl => by
    have h1 := E.gap q0 d s (by omega) fun k h1 h2 => hl k h1 (by omega)
    have h2 := E.2 (s + d) (by omega)
    have h3 := E.mono d s (by omega)
    rw [show s + (d + 1) = s + d + 1 by omega]
    exact gp_join h3 (by omega) h1 (by rw [h2.2]; exact hl (s + d) (by omega) (by omega))
theorem Emb.sim {e : Nat → Nat} (E : Emb L M e) {s t r u : Nat} (hs : s ≤ L.length) (hu : u ≤ L.length) (ht : e s ≤ t) (h : okA L s r u = true) : okA M t r (e u) = true := by
  unfold okA at h ⊢
  by_cases hr : r % 2 = 0
  · rw [if_pos hr] at h ⊢
    rw [Bool.or_eq_true, decide_eq_true_iff, decide_eq_true_iff] at h ⊢
    by_cases q : u ≤ s
    · exact .inl (by have := E.le q hs; omega)
    · rcases h with h | h
      · exact .inl (by have := E.le h hs; omega)
      · obtain ⟨h0, h⟩ := gp_le.mp h
        by_cases q2 : e u ≤ t
        · exact .inl q2
        · refine .inr (gp_le.mpr ⟨h0, ?_⟩)
          have := E.gap h0 (u - s) s (by omega) fun k h1 h2 => h k (by omega) (by omega)
          rw [show s + (u - s) = u by omega] at this
          obtain ⟨_, g⟩ := gp_le.mp this
          exact fun i h1 h2 => g i (by omega) (by omega)
  · rw [if_neg hr] at h ⊢
    rw [Bool.and_eq_true, decide_eq_true_iff, decide_eq_true_iff] at h ⊢
    obtain ⟨h1, h2⟩ := h
    have e1 := E.2 u (by omega)
    have e2 := E.le (s := u + 1) (t := s) (by omega) hs
    refine ⟨by omega, ?_⟩
    rcases le_gp.mp h2 with h3 | ⟨i, h3, h4, h5⟩
    · exact le_gp.mpr (.inl h3)
    · have e3 := E.2 i (by omega)
      rw [← e3.2] at h5
      rcases le_gp.mp h5 with h6 | ⟨x, h6, h7, h8⟩
      · exact le_gp.mpr (.inl h6)
      · have := E.le (s := u) (t := i) (by omega) (by omega)
        have := E.le (s := i + 1) (t := s) (by omega) hs
        exact le_gp.mpr (.inr ⟨x, by omega, by omega, h8⟩)
/-- it holds the ladder: no word parts them -/
theorem Emb.safe {e : Nat → Nat} (E : Emb L M e) : ∀ (w : List Nat) (s t : Nat), s ≤ L.length → e s ≤ t → rdw (gr L) (some s) w ≠ none → rdw (gr M) (some t) w ≠ none
  | [], _, _, _, _, _ => nofun
  | r :: w, s, t, hs, ht, h => by
    have h : rdw (gr L) (gr L s r) w ≠ none := h
    show rdw (gr M) (gr M t r) w ≠ none
    cases ea : gr L s r with
    | none => rw [ea, run_none] at h; exact absurd rfl h
    | some u =>
      rw [ea] at h
      obtain ⟨h1, h2, _⟩ := gr_some.mp ea
      obtain ⟨v, h3, h4⟩ := gr_ge (L := M) (s := t) (r := r) (E.1 u h1) (E.sim hs h1 ht h2)
      rw [h3]
      exact E.safe w u v h1 h4 h
theorem least {P : Nat → Prop} (h : ∃ n, P n) : ∃ n, P n ∧ ∀ m, m < n → ¬P m := by
  obtain ⟨n, h⟩ := h
  have key : ∀ (k n : Nat), n ≤ k → P n → ∃ n, P n ∧ ∀ m, m < n → ¬P m := by
    intro k
    induction k with
    | zero =>
      intro n hn hp
      exact ⟨n, hp, fun m hm => by omega⟩
    | succ k ih =>
      intro n hn hp
      by_cases q : ∃ m, m < n ∧ P m
      · obtain ⟨m, hm, hp'⟩ := q
        exact ih m (by omega) hp'
      · exact ⟨n, hp, fun m hm hp' => q ⟨m, hm, hp'⟩⟩
  exact key n n (Nat.le_refl _) h
theorem gr_down {h s : Nat} (hL : Lvs h L) (hs : s < L.length) : gr L (s + 1) 1 = some s := by
  refine gr_some.mpr ⟨by omega, ?_, fun u h1 h2 => ?_⟩
  · unfold okA
    rw [if_neg (by decide), Bool.and_eq_true, decide_eq_true_iff, decide_eq_true_iff]
    refine ⟨by omega, le_gp.mpr (.inr ⟨s, by omega, by omega, ?_⟩)⟩
    have := (hL s hs).1
    exact this
  · unfold okA
    rw [if_neg (by decide), decide_eq_false (by omega), Bool.false_and]
/-- no word parts them: it holds the ladder -/
theorem no_emb {h : Nat} (hL : Lvs h L) (h1 : 1 ≤ h) (hn : ∀ w, Rk (2 * h + 1) w → rdw (gr L) (some L.length) w ≠ none → rdw (gr M) (some M.length) w ≠ none) : ∃ e, Emb L M e := by
  have hM : ∀ w t, rdw (gr M) (some M.length) w = some t → t ≤ M.length := by
    intro w
    have key : ∀ (w : List Nat) (s t : Nat), s ≤ M.length → rdw (gr M) (some s) w = some t → t ≤ M.length := by
      intro w
      induction w with
      | nil => intro s t hs e; cases e; exact hs
      | cons r w ih =>
        intro s t hs e
        have e : rdw (gr M) (gr M s r) w = some t := e
        cases q : gr M s r with
        | none => rw [q, run_none] at e; cases e
        | some u => rw [q] at e; exact ih u t (gr_some.mp q).1 e
    exact fun t => key w _ t (Nat.le_refl _)
  let P : Nat → Nat → Prop := fun s t => ∃ w, Rk (2 * h + 1) w ∧ rdw (gr L) (some L.length) w = some s ∧ rdw (gr M) (some M.length) w = some t
  have next : ∀ s t r s', P s t → r < 2 * h + 1 → gr L s r = some s' → ∃ t', gr M t r = some t' ∧ P s' t' := by
    rintro s t r s' ⟨w, w1, w2, w3⟩ hr hs'
    have wr : Rk (2 * h + 1) (w ++ [r]) := fun x hx => by
      rcases List.mem_append.mp hx with hx | hx
      · exact w1 x hx
      · rw [List.mem_singleton.mp hx]; exact hr
    have e1 : rdw (gr L) (some L.length) (w ++ [r]) = some s' := by rw [run_app, w2]; exact hs'
    have := hn _ wr (by rw [e1]; exact nofun)
    cases q : rdw (gr M) (some M.length) (w ++ [r]) with
    | none => exact absurd q this
    | some t' =>
      refine ⟨t', ?_, _, wr, e1, q⟩
      rw [run_app, w3] at q
      exact q
  have reach : ∀ d s, s + d = L.length → ∃ t, P s t := by
    intro d
    induction d with
    | zero =>
      intro s hs
      have : s = L.length := by omega
      subst this
      exact ⟨M.length, [], fun x hx => (by cases hx), rfl, rfl⟩
    | succ d ih =>
      intro s hs
      obtain ⟨t, ht⟩ := ih (s + 1) (by omega)
      obtain ⟨t', _, ht'⟩ := next (s + 1) t 1 s ht (by omega) (gr_down hL (by omega))
      exact ⟨t', ht'⟩
  have ex : ∀ s, ∃ t, s ≤ L.length → (P s t ∧ ∀ u, u < t → ¬P s u) := by
    intro s
    by_cases hs : s ≤ L.length
    · obtain ⟨t, ht⟩ := least (reach (L.length - s) s (by omega))
      exact ⟨t, fun _ => ht⟩
    · exact ⟨0, fun z => absurd z hs⟩
  obtain ⟨e, he⟩ := Classical.skolem.mp ex
  refine ⟨e, fun s hs => ?_, fun j hj => ?_⟩
  · obtain ⟨⟨w, _, _, w3⟩, _⟩ := he s hs
    exact hM w _ w3
  · obtain ⟨p1, m1⟩ := he j (by omega)
    obtain ⟨p2, m2⟩ := he (j + 1) (by omega)
    obtain ⟨l1, l2⟩ := hL j hj
    obtain ⟨x, hx⟩ : ∃ x : Nat, lv L j = x := ⟨(lv L j).toNat, by omega⟩
    -- down
    have d1 : gr L (j + 1) (2 * x - 1) = some j := by
      refine gr_some.mpr ⟨by omega, ?_, fun u h1 h2 => ?_⟩
      · unfold okA
        rw [if_neg (by omega), Bool.and_eq_true, decide_eq_true_iff, decide_eq_true_iff]
        exact ⟨by omega, le_gp.mpr (.inr ⟨j, by omega, by omega, by omega⟩)⟩
      · unfold okA
        rw [if_neg (by omega), decide_eq_false (by omega), Bool.false_and]
    obtain ⟨t1, g1, q1⟩ := next (j + 1) (e (j + 1)) (2 * x - 1) j p2 (by omega) d1
    have le1 : e j ≤ t1 := by
      refine Classical.byContradiction fun z => m1 t1 (by omega) q1
    obtain ⟨g2, g3, _⟩ := gr_some.mp g1
    unfold okA at g3
    rw [if_neg (by omega), Bool.and_eq_true, decide_eq_true_iff, decide_eq_true_iff] at g3
    obtain ⟨g4, g5⟩ := g3
    -- up
    have d2 : okA L j (2 * x) (j + 1) = true := by
      unfold okA
      rw [if_pos (by omega), Bool.or_eq_true, decide_eq_true_iff, decide_eq_true_iff]
      refine .inr (gp_le.mpr ⟨by omega, fun i h1 h2 => ?_⟩)
      have : i = j := by omega
      subst this
      omega
    obtain ⟨s', u1, u2⟩ := gr_ge (by omega) d2
    obtain ⟨t2, g6, q2⟩ := next j (e j) (2 * x) s' p1 (by omega) u1
    have hs' : s' ≤ L.length := (gr_some.mp u1).1
    -- least steps go up
    have mono : ∀ d s, s + d ≤ L.length → e s ≤ e (s + d) := by
      intro d
      induction d with
      | zero => exact fun s _ => Nat.le_refl _
      | succ d ih =>
        intro s hs
        have i1 := ih s (by omega)
        obtain ⟨pa, ma⟩ := he (s + d) (by omega)
        obtain ⟨pb, mb⟩ := he (s + d + 1) (by omega)
        obtain ⟨t', ga, qa⟩ := next (s + d + 1) (e (s + d + 1)) 1 (s + d) pb (by omega) (gr_down hL (by omega))
        have : e (s + d) ≤ t' := by
          refine Classical.byContradiction fun z => ma t' (by omega) qa
        have gb := (gr_some.mp ga).2.1
        unfold okA at gb
        rw [if_neg (by decide), Bool.and_eq_true, decide_eq_true_iff] at gb
        rw [show s + (d + 1) = s + d + 1 by omega]
        omega
    have le2 : e (j + 1) ≤ t2 := by
      have h1 : e s' ≤ t2 := by
        refine Classical.byContradiction fun z => (he s' hs').2 t2 (by omega) q2
      have h2 := mono (s' - (j + 1)) (j + 1) (by omega)
      rw [show j + 1 + (s' - (j + 1)) = s' by omega] at h2
      omega
    have g7 := (gr_some.mp g6).2.1
    unfold okA at g7
    rw [if_pos (by omega), Bool.or_eq_true, decide_eq_true_iff, decide_eq_true_iff] at g7
    refine ⟨by omega, ?_⟩
    rw [hx]
    refine Int.le_antisymm ?_ ?_
    · rcases g7 with g7 | g7
      · omega
      · obtain ⟨z0, z⟩ := gp_le.mp g7
        exact gp_le.mpr ⟨by omega, fun i h1 h2 => by have := z i (by omega) (by omega); omega⟩
    · rcases le_gp.mp g5 with g8 | ⟨i, g8, g9, g10⟩
      · omega
      · exact le_gp.mpr (.inr ⟨i, by omega, by omega, by omega⟩)
/-! ### the law's search for it -/
def Chn (M : List Int) : Nat → List Int → Nat → Prop
  | a, [], b => a = b
  | a, x :: r, b => ∃ c, a < c ∧ c ≤ M.length ∧ gp M a c = x ∧ Chn M c r b
theorem Chn.snoc {M : List Int} : ∀ {r : List Int} {a b : Nat} {x : Int}, Chn M a (r ++ [x]) b ↔ ∃ c, Chn M a r c ∧ c < b ∧ b ≤ M.length ∧ gp M c b = x
  | [], a, b, x => by
    constructor
    · rintro ⟨c, h1, h2, h3, rfl⟩
      exact ⟨a, rfl, h1, h2, h3⟩
    · rintro ⟨c, rfl, h1, h2, h3⟩
      exact ⟨b, h1, h2, h3, rfl⟩
  | y :: r, a, b, x => by
    constructor
    · rintro ⟨c, h1, h2, h3, h4⟩
      obtain ⟨d, h5, h6⟩ := Chn.snoc.mp h4
      exact ⟨d, ⟨c, h1, h2, h3, h5⟩, h6⟩
    · rintro ⟨d, ⟨c, h1, h2, h3, h5⟩, h6⟩
      exact ⟨c, h1, h2, h3, Chn.snoc.mpr ⟨d, h5, h6⟩⟩
theorem Chn.le {M : List Int} : ∀ {L : List Int} {a b : Nat}, a ≤ M.length → Chn M a L b → b ≤ M.length
  | [], a, b, ha, h => by cases h; exact ha
  | x :: L, a, b, ha, ⟨c, h1, h2, h3, h4⟩ => Chn.le h2 h4
theorem Chn.emb {M : List Int} : ∀ {L : List Int} {a b : Nat}, a ≤ M.length → Chn M a L b → ∃ e : Nat → Nat, e 0 = a ∧ Emb L M e
  | [], a, b, ha, h => ⟨fun _ => a, rfl, fun _ _ => ha, fun j hj => by simp at hj⟩
  | x :: L, a, b, ha, ⟨c, h1, h2, h3, h4⟩ => by
    obtain ⟨e, e0, e1, e2⟩ := Chn.emb h2 h4
    refine ⟨fun j => match j with
      | 0 => a
      | j + 1 => e j, rfl, fun s hs => ?_, fun j hj => ?_⟩
    · cases s with
      | zero => exact ha
      | succ s => exact e1 s (by simpa using hs)
    · cases j with
      | zero => exact ⟨by show a < e 0; rw [e0]; exact h1, by show gp M a (e 0) = _; rw [e0]; exact h3⟩
      | succ j =>
        have := e2 j (by simpa using hj)
        exact ⟨this.1, by rw [show lv (x :: L) (j + 1) = lv L j by unfold lv; simp]; exact this.2⟩
theorem Emb.chn {M : List Int} : ∀ {L : List Int} {e : Nat → Nat}, Emb L M e → ∃ b, Chn M (e 0) L b
  | [], e, _ => ⟨e 0, rfl⟩
  | x :: L, e, E => by
    have h0 := E.2 0 (by simp)
    obtain ⟨b, hb⟩ := Emb.chn (L := L) (e := fun j => e (j + 1)) ⟨fun s hs => E.1 (s + 1) (by simpa using hs), fun j hj => by
      have := E.2 (j + 1) (by simpa using hj)
      exact ⟨this.1, by rw [this.2]; unfold lv; simp⟩⟩
    exact ⟨b, e 1, h0.1, E.1 1 (by simp), h0.2, hb⟩
/-! ### the law's own coordinates: how far below the top -/
def stA (L : List Int) : Mv := fun s r => (gr L (L.length - s) r).map (L.length - ·)
theorem stA_run {L : List Int} : ∀ {w : List Nat} {s : Nat}, s ≤ L.length → rdw (stA L) (some (L.length - s)) w = (rdw (gr L) (some s) w).map (L.length - ·)
  | [], s, h => rfl
  | r :: w, s, h => by
    show rdw (stA L) (stA L (L.length - s) r) w = (rdw (gr L) (gr L s r) w).map _
    unfold stA
    rw [show L.length - (L.length - s) = s by omega]
    cases q : gr L s r with
    | none => rw [run_none]; show rdw (stA L) none w = _; rw [run_none]; rfl
    | some u => exact stA_run (gr_some.mp q).1
theorem stA_pt {L M : List Int} {w : List Nat} : Pt (stA L) (stA M) 0 0 w ↔ Pt (gr L) (gr M) L.length M.length w := by
  have h1 := stA_run (L := L) (w := w) (Nat.le_refl _)
  have h2 := stA_run (L := M) (w := w) (Nat.le_refl _)
  rw [Nat.sub_self] at h1 h2
  unfold Pt
  rw [h1, h2]
  constructor
  · rintro ⟨a, b⟩
    exact ⟨fun z => a (by rw [z]; rfl), by simpa using b⟩
  · rintro ⟨a, b⟩
    refine ⟨fun z => a (by simpa using z), by rw [b]; rfl⟩
theorem stA_le {L : List Int} {s r a : Nat} (h : stA L s r = some a) : a ≤ L.length := by
  unfold stA at h
  cases q : gr L (L.length - s) r with
  | none => rw [q] at h; cases h
  | some u =>
    rw [q] at h
    have : L.length - u = a := Option.some.inj h
    omega
theorem gr_le {L : List Int} {s r a : Nat} (h : gr L s r = some a) : a ≤ L.length := (gr_some.mp h).1
end
end RM
end
section
set_option Elab.async false
set_option linter.all false
set_option maxRecDepth 100000
set_option maxHeartbeats 4000000
/-! LiPk: small facts for the package's functions. -/
local macro_rules
  | `(tactic| rfl') => `(tactic| ((conv => whnf); repeat (refine LV.JOIN_i ?_; (conv => whnf))))
namespace PK
open PySem LI LV RM
theorem up {P : Nat → Prop} {n : Nat} (h0 : 1 ≤ n) (h : ∀ k, n ≤ k + 1 → P (k + 1)) : ∀ k, n ≤ k → P k := by
  intro k hk
  cases k with
  | zero => omega
  | succ k => exact h k hk
def LvM (h : Nat) (L : List Int) : Prop := ∀ x ∈ L, 1 ≤ x ∧ x ≤ (h : Int)
theorem lv_at {L : List Int} {i : Nat} (hi : i < L.length) : lv L i = L[i] := by simp [lv, List.getD, List.getElem?_eq_getElem hi]
theorem LvM.lvs {h : Nat} {L : List Int} (g : LvM h L) : Lvs h L := fun i hi => by
  rw [lv_at hi]
  exact g _ (List.getElem_mem hi)
def eO : Option Nat → W
  | none => .non
  | some i => .int (i : Int)
def eL (L : List Int) : W := .lst (L.map .int)
def eN (l : List Nat) : List W := l.map fun (i : Nat) => W.int (i : Int)
theorem cut_map {α β : Type} {f : α → β} {xs : List α} {l h : Option Int} : cut (xs.map f) l h = (cut xs l h).map f := by
  unfold cut
  rw [List.map_take, List.map_drop, List.length_map]
theorem cut_mid {α : Type} {xs : List α} {lo hi : Nat} (h1 : lo ≤ hi) (h2 : hi ≤ xs.length) : cut xs (some (lo : Int)) (some (hi : Int)) = (xs.drop lo).take (hi - lo) := by
  unfold cut sIx
  dsimp only
  rw [if_neg (by omega), if_neg (by omega)]
  simp only [Int.toNat_natCast]
  rw [Nat.min_eq_left h2, Nat.min_eq_left (show lo ≤ xs.length by omega)]
theorem maxL_le {q : Int} : ∀ {l : List Int} {m : Int}, maxL m l ≤ q ↔ m ≤ q ∧ ∀ x ∈ l, x ≤ q
  | [], m => by simp [maxL]
  | y :: l, m => by
    unfold maxL
    rw [maxL_le]
    constructor
    · rintro ⟨h1, h2⟩
      refine ⟨?_, fun x hx => ?_⟩
      · split at h1 <;> omega
      · rcases List.mem_cons.mp hx with rfl | hx
        · split at h1 <;> omega
        · exact h2 x hx
    · rintro ⟨h1, h2⟩
      refine ⟨?_, fun x hx => h2 x (by simp [hx])⟩
      have := h2 y (by simp)
      split <;> omega
def mxv : List Int → Int
  | [] => 0
  | n :: r => maxL n r
theorem mxv_le {l : List Int} {q : Int} (h0 : 0 ≤ q) : mxv l ≤ q ↔ ∀ x ∈ l, x ≤ q := by
  cases l with
  | nil => simp [mxv, h0]
  | cons n r =>
    show maxL n r ≤ q ↔ _
    rw [maxL_le]
    simp
theorem mxv_gp {L : List Int} {a b : Nat} (h0 : ∀ i, i < L.length → 0 ≤ lv L i) (ha : a ≤ L.length) (hb : b ≤ L.length) : mxv ((L.drop (min a b)).take (max a b - min a b)) = gp L a b := by
  have mem : ∀ x, x ∈ (L.drop (min a b)).take (max a b - min a b) ↔ ∃ i, min a b ≤ i ∧ i < max a b ∧ x = lv L i := by
    intro x
    rw [List.mem_iff_getElem]
    constructor
    · rintro ⟨i, hi, rfl⟩
      rw [List.length_take, List.length_drop] at hi
      refine ⟨min a b + i, by omega, by omega, ?_⟩
      rw [lv_at (by omega), List.getElem_take, List.getElem_drop]
    · rintro ⟨i, h1, h2, rfl⟩
      refine ⟨i - min a b, by rw [List.length_take, List.length_drop]; omega, ?_⟩
      rw [List.getElem_take, List.getElem_drop, lv_at (by omega)]
      congr 1
      omega
  refine Int.le_antisymm ?_ ?_
  · rw [mxv_le gp_ge0]
    intro x hx
    obtain ⟨i, h1, h2, rfl⟩ := (mem x).mp hx
    exact le_gp.mpr (.inr ⟨i, h1, h2, Int.le_refl _⟩)
  · have hm : ∀ (l : List Int), (∀ x ∈ l, 0 ≤ x) → 0 ≤ mxv l ∧ ∀ x ∈ l, x ≤ mxv l := by
      intro l hl
      cases l with
      | nil => exact ⟨Int.le_refl _, fun x hx => by cases hx⟩
      | cons n r =>
        have : n ≤ maxL n r ∧ ∀ x ∈ r, x ≤ maxL n r := maxL_le.mp (Int.le_refl _)
        refine ⟨by have := hl n (by simp); show 0 ≤ maxL n r; omega, fun x hx => ?_⟩
        rcases List.mem_cons.mp hx with rfl | hx
        · exact this.1
        · exact this.2 x hx
    obtain ⟨h1, h2⟩ := hm ((L.drop (min a b)).take (max a b - min a b)) fun x hx => by
      obtain ⟨i, h3, h4, rfl⟩ := (mem x).mp hx
      exact h0 i (by omega)
    exact gp_le.mpr ⟨h1, fun i h3 h4 => h2 _ ((mem _).mpr ⟨i, h3, h4, rfl⟩)⟩
theorem min_int {a b : Nat} : (if (b : Int) < a then (b : Int) else a) = ((min a b : Nat) : Int) := by split <;> omega
theorem max_int {a b : Nat} : (if (b : Int) > a then (b : Int) else a) = ((max a b : Nat) : Int) := by split <;> omega
theorem rngLen_dn {n : Nat} : rngLen (n : Int) (-1) (-1) = n + 1 := by
  unfold rngLen
  rw [if_neg (by decide), if_pos (by omega)]
  rw [show (- -1 : Int) = 1 from rfl]
  have : ((n : Int) - -1 - 1) / 1 + 1 = ((n + 1 : Nat) : Int) := by omega
  rw [this]; simp
theorem rng_dn {n : Nat} {s : Sto} {k : It → Sto → Prop} (h : n ≤ 1000000) (hk : k (.lst (rngC n (-1) (n + 1))) s) : rngK (n : Int) (-1) (-1) s k := by
  refine ⟨?_⟩
  rw [rngLen_dn]
  exact ⟨⟨rOk_nat (okN_i (by omega)), by decide, okN_i (by omega)⟩, hk⟩
theorem its_dn {sz n : Nat} {s : Sto} : Its sz s (.lst (rngC n (-1) (n + 1))) (n + 1) (fun i => .int ((n - i : Nat) : Int)) :=
  ⟨LV.rngC_len, fun i hi => by rw [rngC_at hi]; congr 2; omega⟩
theorem rngLen_ab {a b : Nat} : rngLen (a : Int) (b : Int) 1 = b - a := by
  unfold rngLen
  rw [if_pos (by decide)]
  by_cases h : a < b
  · rw [if_pos (by omega)]
    have : ((b : Int) - a - 1) / 1 + 1 = ((b - a : Nat) : Int) := by omega
    rw [this]; simp
  · rw [if_neg (by omega)]; omega
theorem rng_ab {a b : Nat} {s : Sto} {k : It → Sto → Prop} (ha : a ≤ 1000000) (hb : b ≤ 1000000) (hk : k (.lst (rngC a 1 (b - a))) s) : rngK (a : Int) (b : Int) 1 s k := by
  refine ⟨?_⟩
  rw [rngLen_ab]
  exact ⟨⟨rOk_nat (okN_i (by omega)), rOk_nat (okN_i (by omega)), okN_i (by omega)⟩, hk⟩
theorem its_ab {sz a n : Nat} {s : Sto} : Its sz s (.lst (rngC a 1 n)) n (fun i => .int ((a + i : Nat) : Int)) :=
  ⟨LV.rngC_len, fun i hi => by rw [rngC_at hi]; congr 2; omega⟩
theorem rng_n {n : Nat} {i : Int} {s : Sto} {k : It → Sto → Prop} (e : i = n) (h : n ≤ 1000000) (hk : k (.lst (rngC 0 1 n)) s) : rngK 0 i 1 s k := by
  subst e
  exact rng_i (okN_i (by omega)) hk
theorem fm_int {p : Nat → Bool} : ∀ {l : List Nat}, l.filterMap (fun r => if p r then some (W.int (r : Nat)) else none) = (l.filter p).map fun (r : Nat) => W.int (r : Nat)
  | [] => rfl
  | r :: l => by
    have ih := fm_int (p := p) (l := l)
    cases e : p r with
    | true => simp [e, ih]
    | false => simp [e, ih]
theorem take_snoc {α : Type} {l : List α} {i : Nat} (h : i < l.length) : l.take (i + 1) = l.take i ++ [l[i]] := by
  rw [List.take_succ, List.getElem?_eq_getElem h]; rfl
theorem rngI_i {n : Int} {s : Sto} {k : It → Sto → Prop} (h0 : 0 ≤ n) (h : n ≤ 1000000) (hk : k (.lst (rngC 0 1 n.toNat)) s) : rngK 0 n 1 s k := by
  obtain ⟨m, rfl⟩ : ∃ m : Nat, n = m := ⟨n.toNat, by omega⟩
  exact rng_i (okN_i (by omega)) hk
theorem gp_lv {h : Nat} {L : List Int} {a b : Nat} (hL : LvM h L) (hab : a < b) (hb : b ≤ L.length) : 1 ≤ gp L a b ∧ gp L a b ≤ (h : Int) := by
  have g := hL.lvs
  refine ⟨le_gp.mpr (.inr ⟨a, by omega, by omega, (g a (by omega)).1⟩), gp_le.mpr ⟨by omega, fun i h1 h2 => (g i (by omega)).2⟩⟩
theorem its_en {sz : Nat} {s : Sto} {xs : List W} : Its sz s (.lst (enumL 0 xs)) xs.length (gE xs) := ⟨enumL_len, fun i hi => by rw [enumL_at hi, Int.zero_add]; rfl⟩
theorem same_eN {s : Sto} {w : W} {u : List Nat} (h : lstOf s w = some (eN u)) (hl : u.length ≤ 5000) : SameN s 2 w (.lst (eN u)) :=
  same_lst (f := fun (r : Nat) => W.int (r : Nat)) (g := fun (r : Nat) => W.int (r : Nat)) h rfl (by omega) fun _ _ => SameN.int
theorem set_app {s cs : Sto} {i : Nat} {c : Cl} : (s ++ cs).set (s.length + i) c = s ++ cs.set i c := by
  have := List.set_append_right (s := s) (t := cs) (i := s.length + i) (x := c) (by omega)
  rw [Nat.add_sub_cancel_left] at this
  exact this
end PK
end
section
set_option Elab.async false
set_option linter.all false
set_option maxRecDepth 100000
set_option maxHeartbeats 4000000
/-! K48Pk: what the common functions give (printed by specs.py). -/
local macro_rules
  | `(tactic| rfl') => `(tactic| ((conv => whnf); repeat (refine LV.JOIN_i ?_; (conv => whnf))))
local macro_rules
  | `(tactic| ac_rfl) => `(tactic| (conv => whnf))
namespace K48
open PySem LI LV RM PK
abbrev TT : Tab := tab
abbrev C (k : Nat) : Call := (callF TT k).1
abbrev CI (k : Nat) : CallI := (callF TT k).2
theorem sDraw : ∀ k, 1 ≤ k → DrawS (C k) 15
  | k + 1, _ => fun p m s Q X hp h1 h2 hq => call_i rfl rfl (draw_b hp h1 h2 hq)
theorem sNum : ∀ k, 1 ≤ k → NumS (C k) 17
  | k + 1, _ => fun i s Q X hq => call_i rfl rfl (num_b hq)
theorem sSame : ∀ n k, n + 1 ≤ k → SameS (C k) 18 n
  | 0, _, _ => fun a d s Q X h hq => nomatch h
  | n + 1, k + 1, h => fun a d s Q X g hq => call_i rfl rfl (same_b (sNum k (by omega)) (sSame n k (by omega)) g hq)
theorem sPool : ∀ k, 1 ≤ k → ∀ (j : Int) (ns : List Int) (s : Sto) (Q : PQ) (X : PX), 0 ≤ j → (∀ c, Pool (s ++ [c]) s.length → Q (.cell s.length) (s ++ [c])) → CALL (C k 14 [.scr ns, .int j] s) Q X
  | k + 1, _ => fun j ns s Q X h hq => call_i rfl rfl (pool_b h hq)
def lad (h : Nat) (L : List Int) : W := .obj 9 [4, 7, 1] [.int h, .tup (L.map .int), .int L.length]
theorem sH : ∀ k, 1 ≤ k → ∀ (h : Nat) (s : Sto) (Q : PQ) (X : PX), 1 ≤ h → h ≤ 3 → Q .non s → CALL (C k 0 [.int h] s) Q X
  | k + 1, _ => fun h s Q X h1 h2 hq => call_i rfl rfl (by
    rfl'
    refine ⟨fun _ => ?_, fun h3 => absurd (by omega) h3⟩
    rfl'
    refine ⟨fun _ => hq, fun h3 => absurd (by omega) h3⟩)
theorem sR : ∀ k, 1 ≤ k → ∀ (h r : Nat) (s : Sto) (Q : PQ) (X : PX), r ≤ 2 * h → Q .non s → CALL (C k 1 [.int h, .int r] s) Q X
  | k + 1, _ => fun h r s Q X h1 hq => call_i rfl rfl (by
    rfl'
    refine ⟨fun _ => ?_, fun h3 => absurd (by omega) h3⟩
    rfl'
    refine ⟨mulOk_l (by decide) (by decide), ?_⟩
    rfl'
    refine ⟨fun _ => hq, fun h3 => absurd (by omega) h3⟩)
theorem sStep : ∀ k, 1 ≤ k → ∀ (h t : Nat) (L : List Int) (s : Sto) (Q : PQ) (X : PX), t ≤ L.length → Q .non s → CALL (C k 13 [lad h L, .int t] s) Q X
  | k + 1, _ => fun h t L s Q X h1 hq => call_i rfl rfl (by
    rfl'
    refine ⟨fun _ => ?_, fun h3 => absurd (by omega) h3⟩
    rfl'
    refine ⟨fun _ => hq, fun h3 => absurd (by omega) h3⟩)
theorem sGapP : ∀ k, 1 ≤ k → ∀ (L : List Int) (a b : Nat) (s : Sto) (Q : PQ) (X : PX), (∀ i, i < L.length → 0 ≤ lv L i) → a ≤ L.length → b ≤ L.length → Q (.int (gp L a b)) s → CALL (C k 8 [.tup (L.map .int), .int a, .int b] s) Q X
  | k + 1, _ => fun L a b s Q X h0 ha hb hq => call_i rfl rfl (by
    have e : intsOf (cut (L.map .int) (some (if (b : Int) < a then (b : Int) else a)) (some (if (b : Int) > a then (b : Int) else a))) = some ((L.drop (min a b)).take (max a b - min a b)) := by
      rw [min_int, max_int, cut_map, intsOf_map, cut_mid (by omega) (by omega)]
    have e2 := mxv_gp h0 ha hb
    rfl'
    refine oK_i e ?_
    rw [← e2] at hq
    generalize (L.drop (min a b)).take (max a b - min a b) = ns at hq
    cases ns with
    | nil => exact hq
    | cons n r => exact hq)
theorem sAllow : ∀ k, 2 ≤ k → ∀ (L : List Int) (a r b : Nat) (s : Sto) (Q : PQ) (X : PX), (∀ i, i < L.length → 0 ≤ lv L i) → a ≤ L.length → b ≤ L.length → Q (.bl (okA L a r b)) s → CALL (C k 9 [.tup (L.map .int), .int a, .int r, .int b] s) Q X
  | k + 1, hk => fun L a r b s Q X h0 ha hb hq => call_i rfl rfl (by
    rfl'
    refine sGapP k (by omega) _ _ _ _ _ _ h0 ha hb ?_
    rfl'
    refine ⟨by decide, ?_⟩
    unfold okA at hq
    rfl'
    refine ⟨fun h1 => ?_, fun h1 => ?_⟩
    · rw [if_pos (by omega)] at hq
      rfl'
      refine boolK_i (fun h2 => ?_) (fun h2 => ?_)
      · rw [decide_eq_true (show b ≤ a by have := of_decide_eq_true h2; omega)] at hq
        exact hq
      · rw [decide_eq_false (show ¬ b ≤ a by have := of_decide_eq_false h2; omega)] at hq
        rfl'
        refine ⟨by decide, ?_⟩
        exact hq
    · rw [if_neg (by omega)] at hq
      rfl'
      refine boolK_i (fun h2 => ?_) (fun h2 => ?_)
      · rw [decide_eq_true (show b < a by have := of_decide_eq_true h2; omega)] at hq
        rfl'
        refine ⟨by decide, ?_⟩
        exact hq
      · rw [decide_eq_false (show ¬ b < a by have := of_decide_eq_false h2; omega)] at hq
        exact hq)
theorem sGreat : ∀ k, 3 ≤ k → ∀ (h : Nat) (L : List Int) (a r : Nat) (s : Sto) (Q : PQ) (X : PX), LvM h L → L.length ≤ 50 → a ≤ L.length → r ≤ 2 * h → Q (eO (gr L a r)) s → CALL (C k 12 [lad h L, .int a, .int r] s) Q X
  | k + 1, hk => fun h L a r s Q X hL hl ha hr hq => call_i rfl rfl (by
    have h0 : ∀ i, i < L.length → 0 ≤ lv L i := fun i hi => by have := hL.lvs i hi; omega
    rfl'
    refine sStep k (by omega) _ _ _ _ _ _ ha ?_
    rfl'
    refine sR k (by omega) _ _ _ _ _ hr ?_
    rfl'
    refine rng_dn (by omega) ?_
    refine for_ix (L.length + 1) _ (fun i env s' => s' = s ∧ (∀ u, L.length - i < u ∨ i = L.length + 1 → u ≤ L.length → okA L a r u = false) ∧ ∃ x, env = [.v (lad h L), .v (.int a), .v (.int r), x])
      (fun _ _ _ _ _ => its_dn) ⟨rfl, fun u h1 h2 => by omega, _, rfl⟩ ?_ ?_
    · rintro i env s' hi ⟨rfl, ho, x, rfl⟩
      rfl'
      refine sAllow k (by omega) _ _ _ _ _ _ _ h0 ha (by omega) ?_
      rfl'
      refine boolK_i (fun h1 => ?_) (fun h1 => ?_)
      · rfl'
        have : gr L a r = some (L.length - i) := gr_some.mpr ⟨by omega, h1, fun u h2 h3 => ho u (.inl h2) h3⟩
        rw [this] at hq
        exact hq
      · refine ⟨rfl, fun u h2 h3 => ?_, _, rfl⟩
        by_cases e : u = L.length - i
        · subst e; exact h1
        · exact ho u (.inl (by omega)) h3
    · rintro env s' ⟨rfl, ho, x, rfl⟩
      have : gr L a r = none := gr_none.mpr fun u hu => ho u (.inr rfl) hu
      rw [this] at hq
      exact hq)
theorem sRow : ∀ k, 1 ≤ k → ∀ (h : Nat) (w : W) (L : List Int) (s : Sto) (Q : PQ) (X : PX), LvM h L → L.length ≤ 24 → seqOf s w = some (L.map .int) → Q (.tup (L.map .int)) s → CALL (C k 10 [w, .int h, .int 24] s) Q X := up (by decide) fun k hk h w L s Q X hL hl hw hq => call_i rfl rfl (by
    rfl'
    refine seqK_i hw ?_
    rfl'
    rw [List.length_map]
    refine ⟨fun z => by omega, fun _ => ?_⟩
    rfl'
    have hit : Its TT.sz s (.lst (enumL 0 (L.map .int))) L.length (gE (L.map .int)) := by
      have := its_en (sz := TT.sz) (s := s) (xs := L.map .int)
      rw [List.length_map] at this
      exact this
    refine for_ix L.length (gE (L.map .int)) (fun i env s' => s' = s ∧ ∃ a b, env = [.v w, .v (.int h), .v (.int 24), .v (.tup (L.map .int)), a, b]) (fun i env s' _ z => by rw [z.1]; exact hit) ⟨rfl, _, _, rfl⟩ ?_ ?_
    · rintro i env s' hi ⟨rfl, a, b, rfl⟩
      have hr := hL _ (List.getElem_mem hi)
      unfold gE
      rw [gI_map hi]
      rfl'
      refine ⟨fun _ => ?_, fun z => by omega⟩
      rfl'
      refine ⟨fun _ => ?_, fun z => by omega⟩
      exact ⟨rfl, _, _, rfl⟩
    · rintro env s' ⟨rfl, a, b, rfl⟩
      exact hq)
theorem sInit : ∀ k, 2 ≤ k → ∀ (h : Nat) (w : W) (L : List Int) (s : Sto) (Q : List Nat × List W → Sto → Prop) (X : PX), 1 ≤ h → h ≤ 3 → LvM h L → L.length ≤ 24 → seqOf s w = some (L.map .int) → Q ([4, 7, 1], [.int h, .tup (L.map .int), .int L.length]) s → CALL (CI k 11 9 [.int h, w] s) Q X := up (by decide) fun k hk h w L s Q X h1 h3 hL hl hw hq => calli_i rfl rfl (by
    rfl'
    refine sH k (by omega) _ _ _ _ h1 h3 ?_
    rfl'
    refine sRow k (by omega) _ _ _ _ _ _ hL hl hw ?_
    rfl'
    rw [List.length_map]
    exact ⟨rfl, hq⟩)
theorem sLevels : ∀ k, 2 ≤ k → ∀ (p h l : Nat) (s : Sto) (Q : PQ) (X : PX), Pool s p → 1 ≤ h → h ≤ 3 → l ≤ 100 →
    (∀ L s', Pool s' p → Fr p s s' → LvM h L → L.length ≤ l → Q (eL L) s') → CALL (C k 16 [.cell p, .int h, .int l] s) Q X := up (by decide) fun k hk p h l s Q X hp h1 h3 hl hq => call_i rfl rfl (by
    rfl'
    refine sDraw k (by omega) _ _ _ _ _ hp (by omega) (by omega) fun n s1 p1 f1 n0 n1 => ?_
    rfl'
    refine rngI_i n0 (by omega) ?_
    refine comp_dr (fun z : Int => 1 ≤ z ∧ z ≤ (h : Int)) .int p1 (fun _ => its_rng) (okN_i (by omega)) (by decide) ?_ ?_
    · intro i s2 hi p2 f2 Q' hq'
      rfl'
      refine sDraw k (by omega) _ _ _ _ _ p2 (by omega) (by omega) fun r s3 p3 f3 r0 r1 => ?_
      exact hq' (1 + r) s3 p3 f3 ⟨by omega, by omega⟩
    · intro L s2 p2 f2 hn hL
      exact hq L s2 p2 (f1.trans f2) hL (by omega))
def Ends (M p : List Int) (fs : List Nat) : Prop := fs.length ≤ M.length + 1 ∧ ∀ t, t ∈ fs ↔ ∃ a, a ≤ M.length ∧ Chn M a p t
end K48
end
section
set_option Elab.async false
set_option linter.all false
set_option maxRecDepth 100000
set_option maxHeartbeats 4000000
/-! K48Law: readers. -/
local macro_rules
  | `(tactic| rfl') => `(tactic| ((conv => whnf); repeat (refine LV.JOIN_i ?_; (conv => whnf))))
local macro_rules
  | `(tactic| ac_rfl) => `(tactic| (conv => whnf))
namespace K48
open PySem LI LV RM PK
def Gd (h : Nat) (r : Int) : Prop := 0 ≤ r ∧ r ≤ 2 * (h : Int)
def eI : Option Int → W
  | none => .non
  | some t => .int t
theorem sRk : ∀ k, 1 ≤ k → ∀ (h : Nat) (r : Int) (s : Sto) (Q : PQ) (X : PX), (Gd h r → Q .non s) → (¬ Gd h r → X ⟨7, [0], [.int r]⟩ s) → CALL (C k 1 [.int h, .int r] s) Q X := up (by decide) fun k hk h r s Q X hq hx => call_i rfl rfl (by
  rfl'
  refine ⟨fun h1 => ?_, fun h1 => hx fun g => absurd g.1 (by omega)⟩
  rfl'
  refine ⟨mulOk_l (by decide) (by decide), ?_⟩
  rfl'
  refine ⟨fun h2 => hq ⟨by omega, by omega⟩, fun h2 => hx fun g => absurd g.2 (by omega)⟩)
theorem sCs : ∀ k, 1 ≤ k → ∀ (h : Nat) (L : List Int) (t : Int) (s : Sto) (Q : PQ) (X : PX), (0 ≤ t → t ≤ L.length → Q .non s) → (t < 0 ∨ (L.length : Int) < t → X ⟨6, [2], [.int t]⟩ s) → CALL (C k 2 [lad h L, .int t] s) Q X := up (by decide) fun k hk h L t s Q X hq hx => call_i rfl rfl (by
  rfl'
  refine ⟨fun h1 => ?_, fun h1 => hx (.inl (by omega))⟩
  rfl'
  refine ⟨fun h2 => hq (by omega) (by omega), fun h2 => hx (.inr (by omega))⟩)
/-- a reader at its cell -/
def RdAt (s : Sto) (n h : Nat) (L : List Int) (o : Option Nat) : Prop := s[n]? = some (.obj 8 [2, 3] [eO o, lad h L])
def rdC (h : Nat) (L : List Int) (o : Option Nat) : Cl := .obj 8 [2, 3] [eO o, lad h L]
theorem celO_i {s : Sto} {n c : Nat} {ks : List Nat} {fs : List W} (h : s[n]? = some (.obj c ks fs)) : celO s n = some (c, ks, fs) := by unfold celO; rw [h]
theorem get_lt {s : Sto} {n : Nat} {c : Cl} (h : s[n]? = some c) : n < s.length := (List.getElem?_eq_some_iff.mp h).1
theorem get_set {s : Sto} {n : Nat} {c d : Cl} (h : s[n]? = some c) : (s.set n d)[n]? = some d := List.getElem?_set_self (get_lt h)
theorem set_set {s : Sto} {n : Nat} {c d : Cl} : (s.set n c).set n d = s.set n d := by simp
theorem sRInit : ∀ k, 2 ≤ k → ∀ (n h : Nat) (L : List Int) (b : Option Int) (s : Sto) (Q : PQ) (X : PX), s[n]? = some (.obj 8 [] []) →
    (∀ o : Nat, o ≤ L.length → b.getD L.length = o → Q .non (s.set n (rdC h L (some o)))) → (∀ t, b = some t → (t < 0 ∨ (L.length : Int) < t) → X ⟨6, [2], [.int t]⟩ s) → CALL (C k 3 [.cell n, lad h L, eI b] s) Q X := up (by decide) fun k hk n h L b s Q X hn hq hx => call_i rfl rfl (by
  have go : ∀ (o : Nat), (∀ s', s' = s.set n (rdC h L (some o)) → Q .non s') → oK (celO (s.set n (.obj 8 [2] [.int o])) n) fun o1 => Q .non ((s.set n (.obj 8 [2] [.int o])).set n (.obj o1.1 (putFK o1.2.1 3) (putFV o1.2.1 o1.2.2 3 (lad h L)))) := fun o hq => by
    refine oK_i (celO_i (get_set hn)) ?_
    rw [set_set]
    exact hq _ rfl
  cases b with
  | none =>
    rfl'
    refine oK_i (celO_i hn) ?_
    rfl'
    refine oK_i (celO_i (get_set hn)) ?_
    rfl'
    rw [set_set]
    exact hq L.length (Nat.le_refl _) rfl
  | some t =>
    rfl'
    refine sCs k (by omega) _ _ _ _ _ _ (fun h1 h2 => ?_) fun h1 => hx t rfl h1
    rfl'
    refine oK_i (celO_i hn) ?_
    rfl'
    refine oK_i (celO_i (get_set hn)) ?_
    rfl'
    rw [set_set]
    have := hq t.toNat (by omega) (by show t = _; omega)
    have e : eI (some t) = eO (some t.toNat) := by show W.int t = W.int _; congr 1; omega
    exact e ▸ this)
theorem sOff : ∀ k, 1 ≤ k → ∀ (n h : Nat) (L : List Int) (o : Option Nat) (s : Sto) (Q : PQ) (X : PX), RdAt s n h L o → Q (.bl o.isNone) s → CALL (C k 4 [.cell n] s) Q X := up (by decide) fun k hk n h L o s Q X hn hq => call_i rfl rfl (by
  rfl'
  refine oK_i (celO_i hn) ?_
  rfl'
  cases o <;> exact hq)
theorem sCall : ∀ k, 4 ≤ k → ∀ (n h : Nat) (L : List Int) (o : Option Nat) (r : Int) (s : Sto) (Q : PQ) (X : PX), LvM h L → L.length ≤ 50 → (∀ a, o = some a → a ≤ L.length) → RdAt s n h L o →
    (Gd h r → ∀ o', o' = o.bind (gr L · r.toNat) → Q (eO o') (s.set n (rdC h L o'))) → (¬ Gd h r → X ⟨7, [0], [.int r]⟩ s) → CALL (C k 5 [.cell n, .int r] s) Q X := up (by decide) fun k hk n h L o r s Q X hL hl ho hn hq hx => call_i rfl rfl (by
  rfl'
  refine oK_i (celO_i hn) ?_
  rfl'
  refine sRk k (by omega) _ _ _ _ _ (fun hg => ?_) hx
  rfl'
  refine oK_i (celO_i hn) ?_
  rfl'
  cases o with
  | none =>
    rfl'
    refine oK_i (celO_i hn) ?_
    rfl'
    have := hq hg none rfl
    have e : s.set n (rdC h L none) = s := by
      refine List.ext_getElem? fun i => ?_
      by_cases z : n = i
      · subst z; rw [get_set hn]; exact hn.symm
      · rw [List.getElem?_set_ne z]
    rw [e] at this
    exact this
  | some a =>
    rfl'
    refine oK_i (celO_i hn) ?_
    rfl'
    refine oK_i (celO_i hn) ?_
    rfl'
    have er : (W.int r) = W.int (r.toNat : Int) := by congr 1; have := hg.1; omega
    rw [er]
    have h2 := hg.2
    refine sGreat k (by omega) h L a r.toNat _ _ _ hL hl (ho a rfl) (by omega) ?_
    rfl'
    refine oK_i (celO_i hn) ?_
    rfl'
    refine oK_i (celO_i (get_set hn)) ?_
    rfl'
    exact hq hg _ rfl)
theorem sReset : ∀ k, 2 ≤ k → ∀ (n h : Nat) (L : List Int) (o : Option Nat) (t : Int) (s : Sto) (Q : PQ) (X : PX), RdAt s n h L o →
    (∀ a : Nat, a ≤ L.length → t = a → Q .non (s.set n (rdC h L (some a)))) → ((t < 0 ∨ (L.length : Int) < t) → X ⟨6, [2], [.int t]⟩ s) → CALL (C k 6 [.cell n, .int t] s) Q X := up (by decide) fun k hk n h L o t s Q X hn hq hx => call_i rfl rfl (by
  rfl'
  refine oK_i (celO_i hn) ?_
  rfl'
  refine sCs k (by omega) _ _ _ _ _ _ (fun h1 h2 => ?_) hx
  rfl'
  refine oK_i (celO_i hn) ?_
  rfl'
  have := hq t.toNat (by omega) (by omega)
  have e : W.int t = eO (some t.toNat) := by show W.int t = W.int _; congr 1; omega
  exact e ▸ this)
/-! ### reading -/
def wk (L : List Int) : Option Nat → List Int → List (Option Nat)
  | _, [] => []
  | o, r :: w => (o.bind (gr L · r.toNat)) :: wk L (o.bind (gr L · r.toNat)) w
def wkE (L : List Int) (o : Option Nat) (w : List Int) : Option Nat := (wk L o w).getLast?.getD o
theorem wk_len {L : List Int} : ∀ {w : List Int} {o : Option Nat}, (wk L o w).length = w.length
  | [], _ => rfl
  | r :: w, o => by simp [wk, wk_len]
theorem wk_snoc {L : List Int} {r : Int} : ∀ {w : List Int} {o : Option Nat}, wk L o (w ++ [r]) = wk L o w ++ [(wkE L o w).bind (gr L · r.toNat)]
  | [], o => rfl
  | q :: w, o => by
    show _ :: wk L _ (w ++ [r]) = (_ :: wk L _ w) ++ _
    rw [wk_snoc]
    show _ = _ :: (wk L _ w ++ _)
    congr 3
    unfold wkE
    show _ = ((_ :: wk L (o.bind (gr L · q.toNat)) w).getLast?.getD o).bind _
    rw [List.getLast?_cons]
    rfl
theorem wkE_snoc {L : List Int} {r : Int} {w : List Int} {o : Option Nat} : wkE L o (w ++ [r]) = (wkE L o w).bind (gr L · r.toNat) := by
  unfold wkE
  rw [wk_snoc]
  simp [wkE]
theorem gr_le {L : List Int} {a r t : Nat} (h : gr L a r = some t) : t ≤ L.length := (gr_some.mp h).1
theorem wkE_le {L : List Int} {o : Option Nat} (ho : ∀ a, o = some a → a ≤ L.length) {w : List Int} : ∀ a, wkE L o w = some a → a ≤ L.length := by
  intro a
  rcases List.eq_nil_or_concat w with rfl | ⟨v, r, rfl⟩
  · exact ho a
  · rw [List.concat_eq_append, wkE_snoc]
    intro h
    obtain ⟨b, _, h⟩ := Option.bind_eq_some_iff.mp h
    exact gr_le h
def eW (w : List Int) : List W := w.map .int
def ePl (l : List (Option Nat)) : List W := l.map eO
def gdB (h : Nat) (r : Int) : Bool := decide (0 ≤ r) && decide (r ≤ 2 * (h : Int))
theorem gdB_iff {h : Nat} {r : Int} : gdB h r = true ↔ Gd h r := by unfold gdB Gd; simp
def fb (h : Nat) (w : List Int) : Option Int := w.find? fun r => !gdB h r
theorem fb_none {h : Nat} {w : List Int} : fb h w = none ↔ ∀ r ∈ w, Gd h r := by
  unfold fb
  rw [List.find?_eq_none]
  simp [gdB_iff]
theorem fb_at {h : Nat} {w : List Int} {i : Nat} {r : Int} (e : w[i]? = some r) (hb : ¬ Gd h r) (ht : ∀ q ∈ w.take i, Gd h q) : fb h w = some r := by
  have hi := (List.getElem?_eq_some_iff.mp e).1
  have : w = w.take i ++ r :: w.drop (i + 1) := by
    have h1 := (List.take_append_drop i w).symm
    rw [List.drop_eq_getElem_cons hi] at h1
    have h2 : w[i] = r := by rw [List.getElem?_eq_getElem hi] at e; exact Option.some.inj e
    rw [h2] at h1
    exact h1
  unfold fb
  rw [this, List.find?_append]
  have h1 : (w.take i).find? (fun r => !gdB h r) = none := by
    rw [List.find?_eq_none]
    intro q hq
    have := gdB_iff.mpr (ht q hq)
    simp [this]
  have h2 : gdB h r = false := by
    cases q : gdB h r with
    | false => rfl
    | true => exact absurd (gdB_iff.mp q) hb
  rw [h1]
  simp [h2]
theorem rd_new {s : Sto} {h : Nat} {L : List Int} {o : Option Nat} : RdAt (s ++ [rdC h L o]) s.length h L o := by unfold RdAt; simp; rfl
theorem rd_m {s : Sto} {n h : Nat} {L : List Int} {o : Option Nat} (m : Nat) (hn : RdAt s n h L o) (h2 : 2 ≠ m) (h3 : 3 ≠ m) : vMeth TT s (.cell n) m = TT.meth 8 m := by
  have hn : s[n]? = some (.obj 8 [2, 3] [eO o, lad h L]) := hn
  unfold vMeth objOf
  dsimp only
  rw [hn]
  show (if (getF [2, 3] [eO o, lad h L] m).isNone then TT.meth 8 m else none) = _
  have : getF [2, 3] [eO o, lad h L] m = none := by simp [getF, h2, h3]
  rw [this]; rfl
theorem sRead : ∀ k, 5 ≤ k → ∀ (h : Nat) (L : List Int) (w : W) (ws : List Int) (b : Option Int) (s : Sto) (Q : PQ) (X : PX), LvM h L → L.length ≤ 50 → ws.length ≤ 5000 → seqOf s w = some (eW ws) →
    (fb h ws = none → ∀ o : Nat, o ≤ L.length → b.getD L.length = o → Q (.cell (s.length + 1)) (s ++ [rdC h L (wkE L (some o) ws), .lst (ePl (wk L (some o) ws))])) →
    (∀ t, b = some t → (t < 0 ∨ (L.length : Int) < t) → ∀ c, X ⟨6, [2], [.int t]⟩ (s ++ [c])) → (∀ o : Nat, b.getD L.length = o → o ≤ L.length → ∀ r c, fb h ws = some r → X ⟨7, [0], [.int r]⟩ (s ++ [c])) →
    CALL (C k 7 [lad h L, w, eI b] s) Q X := up (by decide) fun k hk h L w ws b s Q X hL hl hwl hw hq hb hr => call_i rfl rfl (by
  rfl'
  refine sRInit k (by omega) s.length h L b _ _ _ (by simp) (fun o ho eo => ?_) fun t et ht => hb t et ht _
  have eset : ∀ c d : Cl, (s ++ [c]).set s.length d = s ++ [d] := fun c d => set_app (i := 0)
  rw [eset]
  rfl'
  refine itK_i (seq_app hw) (by simp [eW]; show ws.length < 100000; omega) fun it hit => ?_
  rw [if_neg (by decide)] at hit
  have hlen : (eW ws).length = ws.length := by simp [eW]
  rw [hlen] at hit
  refine comp_ix ws.length (gI (eW ws)) (fun i ys s' => s' = s ++ [rdC h L (wkE L (some o) (ws.take i))] ∧ ys = ePl (wk L (some o) (ws.take i)) ∧ ∀ r ∈ ws.take i, Gd h r) (okN_i (by omega)) (by decide)
    (fun i ys s' _ z => by rw [z.1]; exact hit _ (seq_app hw)) ⟨rfl, rfl, fun r hr => by simp at hr⟩ ?_ ?_
  · rintro i ys s' hi ⟨rfl, rfl, hg⟩
    have e1 : gI (eW ws) i = .int ws[i] := gI_map hi
    rw [e1]
    rfl'
    refine oK_i (rd_m 5000 rd_new (by decide) (by decide)) ?_
    refine sCall k (by omega) s.length h L (wkE L (some o) (ws.take i)) ws[i] _ _ _ hL hl (wkE_le fun a e => by cases e; exact ho) rd_new (fun g o' eo' => ?_) fun g => ?_
    · rfl'
      rw [eset]
      have et : ws.take (i + 1) = ws.take i ++ [ws[i]] := take_snoc hi
      subst eo'
      refine ⟨by rw [et, wkE_snoc], ?_, fun r hr => ?_⟩
      · rw [et, wk_snoc]; simp [ePl, cat]
      · rw [et] at hr
        rcases List.mem_append.mp hr with hr | hr
        · exact hg r hr
        · rw [List.mem_singleton.mp hr]; exact g
    · exact hr o eo ho _ _ (fb_at (List.getElem?_eq_getElem hi) g hg)
  · rintro ys s' ⟨rfl, rfl, hg⟩
    rw [List.take_length] at hg ⊢
    have := hq (fb_none.mpr hg) o ho eo
    rfl'
    have e2 : (s ++ [rdC h L (wkE L (some o) ws)]).length = s.length + 1 := by simp
    rw [e2, List.append_assoc]
    exact this)
theorem sFb : ∀ k, 1 ≤ k → ∀ (h : Nat) (w : W) (ws : List Int) (s : Sto) (Q : PQ) (X : PX), ws.length ≤ 5000 → seqOf s w = some (eW ws) → Q (eI (fb h ws)) s → CALL (C k 22 [w, .int h] s) Q X := up (by decide) fun k hk h w ws s Q X hwl hw hq => call_i rfl rfl (by
  rfl'
  refine itK_i hw (by simp [eW]; show ws.length < 100000; omega) fun it hit => ?_
  rw [if_neg (by decide)] at hit
  have hlen : (eW ws).length = ws.length := by simp [eW]
  rw [hlen] at hit
  refine for_ix ws.length (gI (eW ws)) (fun i env s' => s' = s ∧ (∀ r ∈ ws.take i, Gd h r) ∧ ∃ a, env = [.v w, .v (.int h), a]) (fun i env s' _ z => by rw [z.1]; exact hit _ hw) ⟨rfl, fun r hr => by simp at hr, _, rfl⟩ ?_ ?_
  · rintro i env s' hi ⟨rfl, hg, a, rfl⟩
    have e1 : gI (eW ws) i = .int ws[i] := gI_map hi
    rw [e1]
    rfl'
    have bad : ¬ Gd h ws[i] → Q (.int ws[i]) s' := fun g => by
      rw [fb_at (List.getElem?_eq_getElem hi) g hg] at hq
      exact hq
    refine ⟨fun h1 => ?_, fun h1 => ?_⟩
    · rfl'
      exact bad fun g => absurd g.1 (by omega)
    · rfl'
      refine ⟨mulOk_l (by decide) (by decide), ?_⟩
      rfl'
      refine ⟨fun h2 => ?_, fun h2 => ?_⟩
      · rfl'
        exact bad fun g => absurd g.2 (by omega)
      · refine ⟨rfl, fun r hr => ?_, _, rfl⟩
        rw [take_snoc hi] at hr
        rcases List.mem_append.mp hr with hr | hr
        · exact hg r hr
        · rw [List.mem_singleton.mp hr]; exact ⟨by omega, by omega⟩
  · rintro env s' ⟨rfl, hg, a, rfl⟩
    rw [List.take_length] at hg
    rw [fb_none.mpr hg] at hq
    exact hq)
/-! ### the law's own goal -/
theorem gr_even {L : List Int} {a r g : Nat} (hr : r % 2 = 0) (ha : a ≤ g) (hg : g ≤ L.length) (hb : ∀ i, a ≤ i → i < g → 2 * lv L i ≤ r) (he : g = L.length ∨ 2 * lv L g > r) : gr L a r = some g := by
  refine gr_some.mpr ⟨hg, ?_, fun u h1 h2 => ?_⟩
  · unfold okA
    rw [if_pos hr]
    have : gp L a g ≤ ((r / 2 : Nat) : Int) := gp_le.mpr ⟨by omega, fun i h1 h2 => by have := hb i (by omega) (by omega); omega⟩
    rw [decide_eq_true this, Bool.or_true]
  · rcases he with he | he
    · omega
    · unfold okA
      rw [if_pos hr]
      have : ¬ gp L a u ≤ ((r / 2 : Nat) : Int) := fun z => by
        have := (gp_le.mp z).2 g (by omega) (by omega)
        omega
      rw [decide_eq_false this, decide_eq_false (show ¬ u ≤ a by omega)]; rfl
theorem gr_odd {L : List Int} {a r g : Nat} (hr : r % 2 ≠ 0) (hg : g < a) (hb : ∀ i, g < i → i < a → 2 * lv L i ≤ r) (he : 2 * lv L g > r) (ha : a ≤ L.length) : gr L a r = some g := by
  refine gr_some.mpr ⟨by omega, ?_, fun u h1 h2 => ?_⟩
  · unfold okA
    rw [if_neg hr]
    have : (((r + 1) / 2 : Nat) : Int) ≤ gp L a g := le_gp.mpr (.inr ⟨g, by omega, by omega, by omega⟩)
    rw [decide_eq_true hg, decide_eq_true this]; rfl
  · unfold okA
    rw [if_neg hr]
    by_cases hu : u < a
    · have : ¬ (((r + 1) / 2 : Nat) : Int) ≤ gp L a u := fun z => by
        rcases le_gp.mp z with z | ⟨i, h3, h4, h5⟩
        · omega
        · have := hb i (by omega) (by omega)
          omega
      rw [decide_eq_false this, Bool.and_false]
    · rw [decide_eq_false hu, Bool.false_and]
theorem gr_off {L : List Int} {a r : Nat} (hr : r % 2 ≠ 0) (hb : ∀ i, i < a → 2 * lv L i ≤ r) : gr L a r = none := by
  refine gr_none.mpr fun u h1 => ?_
  unfold okA
  rw [if_neg hr]
  by_cases hu : u < a
  · have : ¬ (((r + 1) / 2 : Nat) : Int) ≤ gp L a u := fun z => by
      rcases le_gp.mp z with z | ⟨i, h3, h4, h5⟩
      · omega
      · have := hb i (by omega)
        omega
    rw [decide_eq_false this, Bool.and_false]
  · rw [decide_eq_false hu, Bool.false_and]
theorem sGoal : ∀ k, 1 ≤ k → ∀ (L : List Int) (o : Option Nat) (r : Int) (s : Sto) (Q : PQ) (X : PX), L.length ≤ 50 → 0 ≤ r → r ≤ 100 → (∀ a, o = some a → a ≤ L.length) → Q (eO (o.bind (gr L · r.toNat))) s → CALL (C k 23 [eL L, eO o, .int r] s) Q X := up (by decide) fun k hk L o r s Q X hl h0 h1 ho hq => call_i rfl rfl (by
  obtain ⟨q, rfl⟩ : ∃ q : Nat, r = q := ⟨r.toNat, by omega⟩
  rw [Int.toNat_natCast] at hq
  cases o with
  | none => rfl'; exact hq
  | some a =>
    have ha := ho a rfl
    have hq : Q (eO (gr L a q)) s := hq
    rfl'
    refine ⟨by decide, ?_⟩
    rfl'
    refine ⟨fun hm => ?_, fun hm => ?_⟩
    · rfl'
      rw [List.length_map]
      refine rng_ab (by omega) (by omega) ?_
      refine for_ix (L.length - a) _ (fun i env s' => s' = s ∧ (∀ j, a ≤ j → j < a + i → 2 * lv L j ≤ q) ∧ ∃ x y, env = [.v (eL L), .v (.int a), .v (.int q), x, y]) (fun _ _ _ _ _ => its_ab) ⟨rfl, fun j h1 h2 => by omega, _, _, rfl⟩ ?_ ?_
      · rintro i env s' hi ⟨rfl, hb, x, y, rfl⟩
        rfl'
        refine oK_i (atI_map (r := L) (i := ((a + i : Nat) : Int)) (by omega) (by omega)) ?_
        rfl'
        refine ⟨mulOk_l (by decide) (by decide), ?_⟩
        rfl'
        have el : L[((a + i : Nat) : Int).toNat]'(by omega) = lv L (a + i) := by rw [lv_at (by omega)]; rfl
        rw [el]
        refine ⟨fun h2 => ?_, fun h2 => ?_⟩
        · rfl'
          rw [gr_even (g := a + i) (by omega) (by omega) (by omega) (fun j h3 h4 => hb j h3 h4) (.inr (by omega))] at hq
          exact hq
        · refine ⟨rfl, fun j h3 h4 => ?_, _, _, rfl⟩
          by_cases e : j = a + i
          · subst e; omega
          · exact hb j h3 (by omega)
      · rintro env s' ⟨rfl, hb, x, y, rfl⟩
        rfl'
        rw [List.length_map]
        rw [gr_even (g := L.length) (by omega) ha (Nat.le_refl _) (fun j h3 h4 => hb j h3 (by omega)) (.inl rfl)] at hq
        exact hq
    · rfl'
      refine rng_n rfl (by omega) ?_
      refine for_ix a _ (fun i env s' => s' = s ∧ (∀ j, a - i ≤ j → j < a → 2 * lv L j ≤ q) ∧ ∃ x y, env = [.v (eL L), .v (.int a), .v (.int q), x, y]) (fun _ _ _ _ _ => its_rng) ⟨rfl, fun j h1 h2 => by omega, _, _, rfl⟩ ?_ ?_
      · rintro i env s' hi ⟨rfl, hb, x, y, rfl⟩
        have ei : ((a : Int) - 1 - i) = ((a - 1 - i : Nat) : Int) := by omega
        rfl'
        rw [ei]
        refine oK_i (atI_map (r := L) (i := ((a - 1 - i : Nat) : Int)) (by omega) (by omega)) ?_
        rfl'
        refine ⟨mulOk_l (by decide) (by decide), ?_⟩
        rfl'
        have el : L[((a - 1 - i : Nat) : Int).toNat]'(by omega) = lv L (a - 1 - i) := by rw [lv_at (by omega)]; rfl
        rw [el]
        refine ⟨fun h2 => ?_, fun h2 => ?_⟩
        · rfl'
          rw [ei]
          rw [gr_odd (g := a - 1 - i) (by omega) (by omega) (fun j h3 h4 => hb j (by omega) h4) (by omega) ha] at hq
          exact hq
        · refine ⟨rfl, fun j h3 h4 => ?_, _, _, rfl⟩
          by_cases e : j = a - 1 - i
          · subst e; omega
          · exact hb j (by omega) h4
      · rintro env s' ⟨rfl, hb, x, y, rfl⟩
        rfl'
        rw [gr_off (by omega) (fun j h3 => hb j (by omega) h3)] at hq
        exact hq)
theorem sWalk : ∀ k, 2 ≤ k → ∀ (h : Nat) (L : List Int) (o : Option Nat) (w : W) (ws : List Int) (s : Sto) (Q : PQ) (X : PX), h ≤ 3 → L.length ≤ 50 → ws.length ≤ 5000 → (∀ r ∈ ws, Gd h r) → (∀ a, o = some a → a ≤ L.length) → seqOf s w = some (eW ws) → Q (.lst (ePl (wk L o ws))) s → CALL (C k 24 [eL L, eO o, w] s) Q X := up (by decide) fun k hk h L o w ws s Q X hh hl hwl hg ho hw hq => call_i rfl rfl (by
  rfl'
  refine itK_i hw (by simp [eW]; show ws.length < 100000; omega) fun it hit => ?_
  rw [if_neg (by decide)] at hit
  have hlen : (eW ws).length = ws.length := by simp [eW]
  rw [hlen] at hit
  refine for_ix ws.length (gI (eW ws)) (fun i env s' => s' = s ∧ ∃ ys a, env = [.v (eL L), .v (eO (wkE L o (ws.take i))), .v w, .own ys, a] ∧ ys = ePl (wk L o (ws.take i))) (fun i env s' _ z => by rw [z.1]; exact hit _ hw) ⟨rfl, _, _, rfl, rfl⟩ ?_ ?_
  · rintro i env s' hi ⟨rfl, ys, a, rfl, rfl⟩
    have e1 : gI (eW ws) i = .int ws[i] := gI_map hi
    rw [e1]
    have g := hg _ (List.getElem_mem hi)
    have g2 := g.2
    rfl'
    refine sGoal k (by omega) L _ _ _ _ _ hl g.1 (by omega) (wkE_le ho) ?_
    rfl'
    refine ⟨okN_i (by simp [ePl, wk_len]; omega), ?_⟩
    have et : ws.take (i + 1) = ws.take i ++ [ws[i]] := take_snoc hi
    exact ⟨rfl, _, _, by rw [et, wkE_snoc] <;> rfl, by rw [et, wk_snoc]; simp [ePl]⟩
  · rintro env s' ⟨rfl, ys, a, rfl, rfl⟩
    rw [List.take_length]
    exact hq)
/-! ### refusals -/
theorem sRefRead : ∀ k, 6 ≤ k → ∀ (h : Nat) (L : List Int) (w : W) (ws : List Int) (b : Option Int) (s : Sto) (Q : PQ) (X : PX), LvM h L → L.length ≤ 50 → ws.length ≤ 5000 → seqOf s w = some (eW ws) →
    (∀ t, b = some t → (t < 0 ∨ (L.length : Int) < t) → ∀ c, Q (.tup [.str "step", .int t, .bl true]) (s ++ [c])) → (∀ o : Nat, b.getD L.length = o → o ≤ L.length → ∀ r c, fb h ws = some r → Q (.tup [.str "rank", .int r, .bl true]) (s ++ [c])) → (b.getD L.length < 0 ∨ (L.length : Int) < b.getD L.length ∨ fb h ws ≠ none) →
    CALL (C k 25 [lad h L, w, eI b] s) Q X := up (by decide) fun k hk h L w ws b s Q X hL hl hwl hw hb hr hbad => call_i rfl rfl (by
  rfl'
  refine seqK_i hw ?_
  rfl'
  refine sRead k (by omega) h L _ ws b _ _ _ hL hl hwl rfl (fun g o ho eo => ?_) (fun t et ht c => ?_) fun o eo ho r c g => ?_
  · exfalso
    rcases hbad with z | z | z
    · omega
    · omega
    · exact z g
  · rfl'
    exact hb t et ht c
  · rfl'
    exact hr o eo ho r c g)
theorem sRefStart : ∀ k, 3 ≤ k → ∀ (h : Nat) (L : List Int) (t : Int) (s : Sto) (Q : PQ) (X : PX), (t < 0 ∨ (L.length : Int) < t) → (∀ c, Q (.tup [.str "step", .int t, .bl true]) (s ++ [c])) → CALL (C k 26 [lad h L, .int t] s) Q X := up (by decide) fun k hk h L t s Q X ht hq => call_i rfl rfl (by
  rfl'
  refine sRInit k (by omega) s.length h L (some t) _ _ _ (by simp) (fun o ho eo => ?_) fun t' et ht' => ?_
  · have : t = o := eo
    omega
  · cases et
    rfl'
    exact hq _)
theorem sRefCall : ∀ k, 5 ≤ k → ∀ (n h : Nat) (L : List Int) (o : Option Nat) (r : Int) (s : Sto) (Q : PQ) (X : PX), LvM h L → L.length ≤ 50 → (∀ a, o = some a → a ≤ L.length) → RdAt s n h L o → ¬ Gd h r → Q (.tup [.str "rank", .int r, .bl true]) s → CALL (C k 27 [.cell n, .int r] s) Q X := up (by decide) fun k hk n h L o r s Q X hL hl ho hn hb hq => call_i rfl rfl (by
  rfl'
  refine oK_i (rd_m 5000 hn (by decide) (by decide)) ?_
  refine sCall k (by omega) n h L o r _ _ _ hL hl ho hn (fun g => absurd g hb) fun _ => ?_
  rfl'
  exact hq)
theorem sRefReset : ∀ k, 3 ≤ k → ∀ (n h : Nat) (L : List Int) (o : Option Nat) (t : Int) (s : Sto) (Q : PQ) (X : PX), RdAt s n h L o → (t < 0 ∨ (L.length : Int) < t) → Q (.tup [.str "step", .int t, .bl true]) s → CALL (C k 28 [.cell n, .int t] s) Q X := up (by decide) fun k hk n h L o t s Q X hn ht hq => call_i rfl rfl (by
  rfl'
  refine oK_i (rd_m 10 hn (by decide) (by decide)) ?_
  rfl'
  refine sReset k (by omega) n h L o t _ _ _ hn (fun a h1 h2 => by omega) fun _ => ?_
  rfl'
  exact hq)
theorem same_eO {s : Sto} {n : Nat} : ∀ {o : Option Nat}, SameN s (n + 1) (eO o) (eO o)
  | none => SameN.non
  | some _ => SameN.int
theorem same_ePl {s : Sto} {w : W} {l : List (Option Nat)} (h : lstOf s w = some (ePl l)) (hl : l.length ≤ 5000) : SameN s 2 w (.lst (ePl l)) := same_lst (f := eO) (g := eO) h rfl (by omega) fun _ _ => same_eO
theorem sStands : ∀ k, 3 ≤ k → ∀ (n h : Nat) (L : List Int) (o : Option Nat) (s : Sto) (Q : PQ) (X : PX), RdAt s n h L o → Q (.bl true) s → CALL (C k 29 [.cell n, eO o] s) Q X := up (by decide) fun k hk n h L o s Q X hn hq => call_i rfl rfl (by
  rfl'
  refine oK_i (celO_i hn) ?_
  rfl'
  refine sSame 1 k (by omega) _ _ _ _ _ same_eO ?_
  rfl'
  refine oK_i (rd_m 1011 hn (by decide) (by decide)) ?_
  refine sOff k (by omega) n h L o _ _ _ hn ?_
  rfl'
  cases o with
  | none => rfl'; exact sSame 1 k (by omega) _ _ _ _ _ SameN.bl hq
  | some a => rfl'; exact sSame 1 k (by omega) _ _ _ _ _ SameN.bl hq)
/-! ### read, twice over -/
def GdB (L : List Int) (b : Option Int) : Prop := 0 ≤ b.getD L.length ∧ b.getD L.length ≤ L.length
theorem cel_last {s : Sto} {d : Cl} {xs : List W} : celL (s ++ [d, .lst xs]) (s.length + 1) = some xs := celL_i (by
  rw [List.getElem?_append_right (by omega), show s.length + 1 - s.length = 1 by omega]; rfl)
theorem set_last {s : Sto} {d l e : Cl} : (s ++ [d, l]).set (s.length + 1) e = s ++ [d, e] := by rw [set_app]; rfl
theorem sReads : ∀ k, 6 ≤ k → ∀ (h : Nat) (L ws : List Int) (b : Option Int) (s : Sto) (Q : PQ) (X : PX), h ≤ 3 → LvM h L → L.length ≤ 24 → ws.length ≤ 5000 → (∀ r ∈ ws, Gd h r) → GdB L b → (∀ cs, Q (.bl true) (s ++ cs)) →
    CALL (C k 30 [lad h L, eL L, .lst (eW ws), eI b] s) Q X := up (by decide) fun k hk h L ws b s Q X hh hL hl hwl hg hb hq => call_i rfl rfl (by
  have hfb : fb h ws = none := fb_none.mpr hg
  obtain ⟨o, eo⟩ : ∃ o : Nat, b.getD L.length = o := ⟨(b.getD L.length).toNat, by have := hb.1; omega⟩
  have ho : o ≤ L.length := by have := hb.2; omega
  have hos : ∀ a, some o = some a → a ≤ L.length := fun a e => by cases e; exact ho
  have wl : ∀ o : Option Nat, (wk L o ws).length ≤ 5000 := fun o => by rw [wk_len]; exact hwl
  ac_rfl
  refine JOIN_c (fun e s4 => s4 = s ∧ e = [.v (lad h L), .v (eL L), .v (.lst (eW ws)), .v (eI b), .v (.int o), .un, .un, .un]) ?_ ?_
  · intro Q' hq' _
    rw [List.length_map]
    cases b with
    | none =>
      rfl'
      refine hq' _ _ ⟨rfl, ?_⟩
      have : (L.length : Int) = o := eo
      rw [← this]
      rfl
    | some t =>
      rfl'
      refine hq' _ _ ⟨rfl, ?_⟩
      have : t = o := eo
      rw [← this]
      rfl
  · rintro e s4 ⟨rfl, rfl⟩
    rfl'
    refine rng_n (n := 2) rfl (by omega) ?_
    refine for_ix 2 _ (fun i env s' => ∃ cs x y z, s' = s4 ++ cs ∧ env = [.v (lad h L), .v (eL L), .v (.lst (eW ws)), .v (eI b), .v (.int o), x, y, z]) (fun _ _ _ _ _ => its_rng) ⟨[], _, _, _, by simp, rfl⟩ ?_ ?_
    · rintro i env s' hi ⟨cs, x, y, z, rfl, rfl⟩
      rfl'
      refine sRead k (by omega) h L _ ws b _ _ _ hL (by omega) hwl rfl (fun _ o' ho' eo' => ?_) (fun t et ht c => ?_) (fun o' _ _ r c g => ?_)
      · have e : o' = o := by omega
        subst e
        rfl'
        refine sWalk k (by omega) h L (some o') _ ws _ _ _ hh (by omega) hwl hg hos rfl ?_
        rfl'
        have hc : ∀ d : Cl, celL (s4 ++ cs ++ [d, .lst (ePl (wk L (some o') ws))]) ((s4 ++ cs).length + 1) = some (ePl (wk L (some o') ws)) := fun d => cel_last
        refine sSame 2 k (by omega) _ _ _ _ _ (same_ePl (show lstOf _ (.cell _) = _ from hc _) (wl _)) ?_
        rfl'
        refine sSame 2 k (by omega) _ _ _ _ _ (same_lst (f := fun z => W.int z) (g := fun z => W.int z) rfl rfl (by omega) fun _ _ => SameN.int) ?_
        rfl'
        refine oK_i (hc _) ?_
        rfl'
        refine oK_i (hc _) ?_
        refine ⟨okN_i (by simp [ePl, wk_len]; omega), ?_⟩
        exact ⟨cs ++ [_, _], _, _, _, by rw [set_last, List.append_assoc], rfl⟩
      · subst et
        exfalso
        have h1 := hb.1
        have h2 := hb.2
        simp only [Option.getD_some] at h1 h2
        omega
      · rw [hfb] at g; cases g
    · rintro env s' ⟨cs, x, y, z, rfl, rfl⟩
      rfl'
      refine sRead k (by omega) h L _ ws none _ _ _ hL (by omega) hwl rfl (fun _ o' ho' eo' => ?_) (fun t et ht c => by cases et) (fun o' _ _ r c g => by rw [hfb] at g; cases g)
      have e : o' = L.length := by
        have : (L.length : Int) = o' := eo'
        omega
      subst e
      rfl'
      rw [List.length_map]
      refine sWalk k (by omega) h L (some L.length) _ ws _ _ _ hh (by omega) hwl hg (fun a e => by cases e; exact Nat.le_refl _) rfl ?_
      rfl'
      have hc : ∀ d : Cl, celL (s4 ++ cs ++ [d, .lst (ePl (wk L (some L.length) ws))]) ((s4 ++ cs).length + 1) = some (ePl (wk L (some L.length) ws)) := fun d => cel_last
      refine sSame 2 k (by omega) _ _ _ _ _ (same_ePl (show lstOf _ (.cell _) = _ from hc _) (wl _)) ?_
      rw [List.append_assoc]
      exact hq _)
/-! ### two readers -/
structure Two (s : Sto) (c n0 n1 h : Nat) (L : List Int) (o0 o1 : Option Nat) : Prop where
  r0 : RdAt s n0 h L o0
  r1 : RdAt s n1 h L o1
  cl : celL s c = some [eO o0, eO o1]
  ne : n0 ≠ n1
  l0 : ∀ a, o0 = some a → a ≤ L.length
  l1 : ∀ a, o1 = some a → a ≤ L.length
theorem rd_ne {s : Sto} {n c h : Nat} {L : List Int} {o : Option Nat} {xs : List W} (h1 : RdAt s n h L o) (h2 : celL s c = some xs) : n ≠ c := fun e => by
  subst e
  have h1 : s[n]? = some (.obj 8 [2, 3] [eO o, lad h L]) := h1
  have := celL_e h2
  rw [h1] at this
  cases this
theorem pool_rd {s : Sto} {n p h : Nat} {L : List Int} {o : Option Nat} (h1 : RdAt s n h L o) (hp : Pool s p) : n ≠ p := by
  obtain ⟨_, _, _, _, hp⟩ := hp
  exact rd_ne h1 hp
theorem pool_cl {s : Sto} {c p : Nat} {x y : W} (h1 : celL s c = some [x, y]) (hp : Pool s p) : c ≠ p := fun e => by
  subst e
  obtain ⟨_, _, _, _, hp⟩ := hp
  rw [h1] at hp
  cases hp
theorem RdAt.set {s : Sto} {n m h : Nat} {L : List Int} {o : Option Nat} {d : Cl} (h1 : RdAt s n h L o) (e : m ≠ n) : RdAt (s.set m d) n h L o := by
  unfold RdAt
  rw [List.getElem?_set_ne e]; exact h1
theorem RdAt.put {s : Sto} {n h : Nat} {L : List Int} {o o' : Option Nat} (h1 : RdAt s n h L o) : RdAt (s.set n (rdC h L o')) n h L o' := get_set h1
/-- who's reader and place -/
def setW (w : Nat) (o o0 o1 : Option Nat) : Option Nat × Option Nat := if w = 0 then (o, o1) else (o0, o)
def nth (w n0 n1 : Nat) : Nat := if w = 0 then n0 else n1
theorem Two.set {s : Sto} {c n0 n1 h w : Nat} {L : List Int} {o0 o1 o : Option Nat} (T : Two s c n0 n1 h L o0 o1) (hw : w < 2) (ho : ∀ a, o = some a → a ≤ L.length) :
    Two ((s.set (nth w n0 n1) (rdC h L o)).set c (.lst [eO (setW w o o0 o1).1, eO (setW w o o0 o1).2])) c n0 n1 h L (setW w o o0 o1).1 (setW w o o0 o1).2 := by
  have c0 := rd_ne T.r0 T.cl
  have c1 := rd_ne T.r1 T.cl
  have : w = 0 ∨ w = 1 := by omega
  rcases this with rfl | rfl
  · refine ⟨T.r0.put.set (Ne.symm c0), (T.r1.set T.ne).set (Ne.symm c1), celL_set (celL_ne c0 T.cl), T.ne, ho, T.l1⟩
  · refine ⟨(T.r0.set (Ne.symm T.ne)).set (Ne.symm c0), T.r1.put.set (Ne.symm c1), celL_set (celL_ne c1 T.cl), T.ne, T.l0, ho⟩
theorem Two.pool {s : Sto} {c n0 n1 h w p : Nat} {L : List Int} {o0 o1 : Option Nat} {d e : Cl} (T : Two s c n0 n1 h L o0 o1) (hw : w < 2) (hp : Pool s p) : Pool ((s.set (nth w n0 n1) d).set c e) p := by
  have : w = 0 ∨ w = 1 := by omega
  refine (Pool.set ?_ hp).set (pool_cl T.cl hp)
  rcases this with rfl | rfl
  · exact pool_rd T.r0 hp
  · exact pool_rd T.r1 hp
theorem Two.fr {s s' : Sto} {c n0 n1 h p : Nat} {L : List Int} {o0 o1 : Option Nat} (T : Two s c n0 n1 h L o0 o1) (f : Fr p s s') (hp : Pool s p) : Two s' c n0 n1 h L o0 o1 := by
  have h0 : s[n0]? = some (rdC h L o0) := T.r0
  have h1 : s[n1]? = some (rdC h L o1) := T.r1
  exact ⟨(f.2 _ (get_lt h0) (pool_rd T.r0 hp)).trans T.r0, (f.2 _ (get_lt h1) (pool_rd T.r1 hp)).trans T.r1, f.cel (pool_cl T.cl hp) T.cl, T.ne, T.l0, T.l1⟩
theorem Two.at {s : Sto} {c n0 n1 h w : Nat} {L : List Int} {o0 o1 : Option Nat} (T : Two s c n0 n1 h L o0 o1) : RdAt s (nth w n0 n1) h L (if w = 0 then o0 else o1) := by
  unfold nth
  by_cases e : w = 0
  · rw [if_pos e, if_pos e]; exact T.r0
  · rw [if_neg e, if_neg e]; exact T.r1
theorem two_ix {n0 n1 w : Nat} (hw : w < 2) : atI [W.cell n0, W.cell n1] (w : Int) = some (.cell (nth w n0 n1)) := by
  have : w = 0 ∨ w = 1 := by omega
  rcases this with rfl | rfl <;> rfl
theorem two_ixN {w : Nat} (hw : w < 2) : ixN 2 (w : Int) = some w := by
  have : w = 0 ∨ w = 1 := by omega
  rcases this with rfl | rfl <;> rfl
theorem two_px {a b : Option Nat} {w : Nat} (hw : w < 2) : atI [eO a, eO b] (w : Int) = some (eO (if w = 0 then a else b)) := by
  have : w = 0 ∨ w = 1 := by omega
  rcases this with rfl | rfl <;> rfl
theorem two_set {a b o : Option Nat} {w : Nat} (hw : w < 2) : ([eO a, eO b].set w (eO o)) = [eO (setW w o a b).1, eO (setW w o a b).2] := by
  have : w = 0 ∨ w = 1 := by omega
  rcases this with rfl | rfl <;> rfl
theorem sPut : ∀ k, 5 ≤ k → ∀ (c n0 n1 h w g : Nat) (L : List Int) (o0 o1 : Option Nat) (t : Int) (s : Sto) (Q : PQ) (X : PX), Two s c n0 n1 h L o0 o1 → w < 2 → g ≤ L.length → (t < 0 ∨ (L.length : Int) < t) →
    (∀ s', Two s' c n0 n1 h L (setW w (some g) o0 o1).1 (setW w (some g) o0 o1).2 → (∀ p, Pool s p → Pool s' p) → Q (.bl true) s') →
    CALL (C k 31 [.lst [.cell n0, .cell n1], .cell c, .int w, .int g, .int t] s) Q X := up (by decide) fun k hk c n0 n1 h w g L o0 o1 t s Q X T hw hg ht hq => call_i rfl rfl (by
  rfl'
  refine oK_i (two_ix hw) ?_
  rfl'
  refine sRefReset k (by omega) _ h L _ t _ _ _ T.at ht ?_
  rfl'
  refine sSame 2 k (by omega) _ _ _ _ _ (same_cons SameN.str (same_cons SameN.int (same_cons SameN.bl same_nil (by simp)) (by simp)) (by simp)) ?_
  have st : ∀ {s o0 o1} {Q : PQ} {X : PX}, Two s c n0 n1 h L o0 o1 → Q (.bl true) s → CALL (C k 29 [.cell n0, eO o0] s) Q X ∧ CALL (C k 29 [.cell n1, eO o1] s) Q X := fun T hq => ⟨sStands k (by omega) _ _ _ _ _ _ _ T.r0 hq, sStands k (by omega) _ _ _ _ _ _ _ T.r1 hq⟩
  rfl'
  refine oK_i T.cl ?_
  rfl'
  refine (st T ?_).1
  rfl'
  refine oK_i T.cl ?_
  rfl'
  refine (st T ?_).2
  rfl'
  refine oK_i (two_ix hw) ?_
  rfl'
  refine oK_i (rd_m 10 T.at (by decide) (by decide)) ?_
  rfl'
  refine sReset k (by omega) _ h L _ g _ _ _ T.at (fun a ha ea => ?_) fun z => by omega
  have ea : a = g := by omega
  subst ea
  rfl'
  have T2 := T.set (o := some a) hw fun b e => by cases e; exact hg
  have c0 := rd_ne T.r0 T.cl
  have c1 := rd_ne T.r1 T.cl
  have hcl : celL (s.set (nth w n0 n1) (rdC h L (some a))) c = some [eO o0, eO o1] := celL_ne (rd_ne T.at T.cl) T.cl
  refine oK_i hcl ?_
  rfl'
  refine oK_i (two_ixN hw) ?_
  rw [show ([eO o0, eO o1].set w (W.int (a : Int))) = _ from two_set (o := some a) hw]
  generalize hs2 : ((s.set (nth w n0 n1) (rdC h L (some a))).set c (.lst [eO (setW w (some a) o0 o1).1, eO (setW w (some a) o0 o1).2])) = s2 at T2
  rfl'
  refine oK_i T2.cl ?_
  rfl'
  refine (st T2 ?_).1
  rfl'
  refine oK_i T2.cl ?_
  rfl'
  refine (st T2 ?_).2
  refine hq s2 T2 fun p hp => ?_
  rw [← hs2]
  exact T.pool hw hp)
theorem sReadOn : ∀ k, 6 ≤ k → ∀ (c n0 n1 h w : Nat) (L : List Int) (o0 o1 : Option Nat) (r : Int) (s : Sto) (Q : PQ) (X : PX), h ≤ 3 → LvM h L → L.length ≤ 50 → Two s c n0 n1 h L o0 o1 → w < 2 →
    (∀ s' o0' o1', Two s' c n0 n1 h L o0' o1' → (∀ p, Pool s p → Pool s' p) → Q (.bl true) s') →
    CALL (C k 32 [.lst [.cell n0, .cell n1], .cell c, eL L, .int h, .int w, .int r] s) Q X := up (by decide) fun k hk c n0 n1 h w L o0 o1 r s Q X hh hL hl T hw hq => call_i rfl rfl (by
  have st : ∀ {s o0 o1} {Q : PQ} {X : PX}, Two s c n0 n1 h L o0 o1 → Q (.bl true) s → CALL (C k 29 [.cell n0, eO o0] s) Q X ∧ CALL (C k 29 [.cell n1, eO o1] s) Q X := fun T hq => ⟨sStands k (by omega) _ _ _ _ _ _ _ T.r0 hq, sStands k (by omega) _ _ _ _ _ _ _ T.r1 hq⟩
  have hos : ∀ a, (if w = 0 then o0 else o1) = some a → a ≤ L.length := fun a e => by
    by_cases z : w = 0
    · rw [if_pos z] at e; exact T.l0 a e
    · rw [if_neg z] at e; exact T.l1 a e
  rfl'
  refine oK_i (two_ix hw) ?_
  rfl'
  refine oK_i T.cl ?_
  rfl'
  refine oK_i (two_px hw) ?_
  rfl'
  refine sStands k (by omega) _ _ _ _ _ _ _ T.at ?_
  rfl'
  refine sFb k (by omega) h _ [r] _ _ _ (by simp) rfl ?_
  rfl'
  by_cases hg : Gd h r
  · have e : fb h [r] = none := fb_none.mpr fun q hq => by rw [List.mem_singleton.mp hq]; exact hg
    rw [e]
    rfl'
    refine oK_i T.cl ?_
    refine oK_i (two_px hw) ?_
    rfl'
    refine sGoal k (by omega) L _ r _ _ _ hl hg.1 (by have := hg.2; omega) hos ?_
    generalize ho' : (if w = 0 then o0 else o1).bind (gr L · r.toNat) = o'
    have lo' : ∀ a, o' = some a → a ≤ L.length := fun a e => by
      rw [← ho'] at e
      obtain ⟨b, _, e⟩ := Option.bind_eq_some_iff.mp e
      exact gr_le e
    rfl'
    refine oK_i T.cl ?_
    rfl'
    refine oK_i (two_ixN hw) ?_
    rw [two_set hw]
    have c0 := rd_ne T.r0 T.cl
    have c1 := rd_ne T.r1 T.cl
    have T2 := T.set hw lo'
    have hnc : nth w n0 n1 ≠ c := rd_ne T.at T.cl
    have hsw : ((s.set c (.lst [eO (setW w o' o0 o1).1, eO (setW w o' o0 o1).2])).set (nth w n0 n1) (rdC h L o')) = ((s.set (nth w n0 n1) (rdC h L o')).set c (.lst [eO (setW w o' o0 o1).1, eO (setW w o' o0 o1).2])) := List.set_comm _ _ (Ne.symm hnc)
    have hrd : RdAt (s.set c (.lst [eO (setW w o' o0 o1).1, eO (setW w o' o0 o1).2])) (nth w n0 n1) h L (if w = 0 then o0 else o1) := T.at.set (Ne.symm hnc)
    rfl'
    refine oK_i (two_ix hw) ?_
    rfl'
    refine oK_i (rd_m 5000 hrd (by decide) (by decide)) ?_
    rfl'
    refine sCall k (by omega) _ h L _ r _ _ _ hL hl hos hrd (fun _ o'' eo => ?_) fun z => absurd hg z
    rw [ho'] at eo
    rw [eo, hsw]
    have hpl : ∀ p, Pool s p → Pool ((s.set (nth w n0 n1) (rdC h L o')).set c (.lst [eO (setW w o' o0 o1).1, eO (setW w o' o0 o1).2])) p := fun p hp => T.pool hw hp
    generalize ((s.set (nth w n0 n1) (rdC h L o')).set c (.lst [eO (setW w o' o0 o1).1, eO (setW w o' o0 o1).2])) = s2 at T2 hpl
    rfl'
    refine oK_i T2.cl ?_
    rfl'
    refine oK_i (two_px hw) ?_
    rfl'
    have ew : (if w = 0 then (setW w o' o0 o1).1 else (setW w o' o0 o1).2) = o' := by
      have : w = 0 ∨ w = 1 := by omega
      rcases this with rfl | rfl <;> rfl
    rw [ew]
    refine sSame 1 k (by omega) _ _ _ _ _ same_eO ?_
    rfl'
    refine oK_i T2.cl ?_
    rfl'
    refine (st T2 ?_).1
    rfl'
    refine oK_i T2.cl ?_
    rfl'
    refine (st T2 ?_).2
    exact hq s2 _ _ T2 hpl
  · have e : fb h [r] = some r := fb_at (i := 0) rfl hg fun q hq => by simp at hq
    rw [e]
    rfl'
    refine oK_i (two_ix hw) ?_
    rfl'
    refine sRefCall k (by omega) _ h L _ r _ _ _ hL hl hos T.at hg ?_
    rfl'
    refine sSame 2 k (by omega) _ _ _ _ _ (same_cons SameN.str (same_cons SameN.int (same_cons SameN.bl same_nil (by simp)) (by simp)) (by simp)) ?_
    rfl'
    refine oK_i T.cl ?_
    rfl'
    refine (st T ?_).1
    rfl'
    refine oK_i T.cl ?_
    rfl'
    refine (st T ?_).2
    exact hq s o0 o1 T fun p hp => hp)
theorem sBey : ∀ k, 2 ≤ k → BeyS (C k) 19 := up (by decide) fun k hk p t s Q X hp hq => call_i rfl rfl (bey_b (sDraw k (by omega)) hp hq)
theorem sBegin : ∀ k, 3 ≤ k → ∀ (p t : Nat) (s : Sto) (Q : PQ) (X : PX), Pool s p → t ≤ 1000 → (∀ b s', Pool s' p → Fr p s s' → Q (eI b) s') → CALL (C k 20 [.cell p, .int t] s) Q X := up (by decide) fun k hk p t s Q X hp ht hq => call_i rfl rfl (by
  rfl'
  refine sDraw k (by omega) _ _ _ _ _ hp (by omega) (by omega) fun r s1 p1 f1 r0 r1 => ?_
  rfl'
  refine ⟨fun _ => ?_, fun _ => ?_⟩
  · rfl'
    refine sBey k (by omega) _ _ _ _ _ p1 fun v s2 p2 f2 hv => ?_
    exact hq (some v) _ p2 (f1.trans f2)
  · rfl'
    refine sDraw k (by omega) _ _ _ _ _ p1 (by omega) (by omega) fun r s2 p2 f2 r0 r1 => ?_
    rfl'
    refine ⟨fun _ => ?_, fun _ => ?_⟩
    · rfl'
      exact hq none _ p2 (f1.trans f2)
    · rfl'
      refine sDraw k (by omega) _ _ _ _ _ p2 (by omega) (by omega) fun r s3 p3 f3 r0 r1 => ?_
      exact hq (some r) _ p3 (f1.trans (f2.trans f3)))
theorem sWord : ∀ k, 3 ≤ k → ∀ (p h : Nat) (s : Sto) (Q : PQ) (X : PX), Pool s p → h ≤ 3 → (∀ ws s', Pool s' p → Fr p s s' → ws.length ≤ 14 → Q (.lst (eW ws)) s') → CALL (C k 21 [.cell p, .int h] s) Q X := up (by decide) fun k hk p h s Q X hp hh hq => call_i rfl rfl (by
  rfl'
  refine sDraw k (by omega) _ _ _ _ _ hp (by omega) (by omega) fun n s1 p1 f1 n0 n1 => ?_
  rfl'
  refine rngI_i n0 (by omega) ?_
  refine comp_dr (fun _ : Int => True) .int p1 (fun _ => its_rng) (okN_i (by omega)) (by decide) ?_ ?_
  · intro i s2 hi p2 f2 Q' hq'
    rfl'
    refine ⟨mulOk_l (by decide) (by decide), ?_⟩
    rfl'
    refine sDraw k (by omega) _ _ _ _ _ p2 (by omega) (by omega) fun r s3 p3 f3 r0 r1 => ?_
    exact hq' r s3 p3 f3 trivial
  · intro ws s2 p2 f2 hn _
    have hwl : ws.length ≤ 14 := by omega
    rfl'
    refine sDraw k (by omega) _ _ _ _ _ p2 (by omega) (by omega) fun r s3 p3 f3 r0 r1 => ?_
    rfl'
    refine ⟨fun _ => ?_, fun _ => ?_⟩
    · rfl'
      rw [List.length_map]
      refine rng_n rfl (by omega) ?_
      refine for_ix ws.length _ (fun i env s' => Pool s' p ∧ Fr p s3 s' ∧ ∃ vs a b, vs.length = ws.length ∧ env = [.v (.cell p), .v (.int h), .own (eW vs), a, b]) (fun _ _ _ _ _ => its_rng) ⟨p3, Fr.refl, ws, _, _, rfl, rfl⟩ ?_ ?_
      · rintro i env s' hi ⟨q1, g1, vs, a, b, hv, rfl⟩
        rfl'
        refine sDraw k (by omega) _ _ _ _ _ q1 (by omega) (by omega) fun r s4 q2 g2 r0 r1 => ?_
        rfl'
        refine ⟨fun _ => ?_, fun _ => ?_⟩
        · rfl'
          refine ⟨mulOk_l (by decide) (by decide), ?_⟩
          rfl'
          refine sBey k (by omega) _ _ _ _ _ q2 fun v s5 q3 g3 hv2 => ?_
          rfl'
          have e : ixN (eW vs).length (i : Int) = some i := by
            unfold ixN
            rw [if_pos (by omega), if_pos (by simp [eW]; omega)]; simp
          refine oK_i e ?_
          refine ⟨q3, g1.trans (g2.trans g3), vs.set i v, a, .v (.int i), by rw [List.length_set]; exact hv, ?_⟩
          have : (eW vs).set i (.int v) = eW (vs.set i v) := by simp [eW, List.map_set]
          rw [this] <;> rfl
        · exact ⟨q2, g1.trans g2, vs, _, _, hv, rfl⟩
      · rintro env s' ⟨q1, g1, vs, a, b, hv, rfl⟩
        exact hq vs _ q1 (f1.trans (f2.trans (f3.trans g1))) (by omega)
    · exact hq ws _ p3 (f1.trans (f2.trans f3)) hwl)
theorem new_at {s : Sto} {c d e : Cl} : (s ++ [c] ++ [d] ++ [e])[s.length]? = some c ∧ (s ++ [c] ++ [d] ++ [e])[(s ++ [c]).length]? = some d ∧ (s ++ [c] ++ [d] ++ [e])[(s ++ [c] ++ [d]).length]? = some e := by
  refine ⟨?_, ?_, ?_⟩
  · rw [List.getElem?_append_left (by simp), List.getElem?_append_left (by simp)]; simp
  · rw [List.getElem?_append_left (by simp)]; simp
  · simp
theorem sTwo : ∀ k, 7 ≤ k → ∀ (p h : Nat) (L ws : List Int) (b : Option Int) (s : Sto) (Q : PQ) (X : PX), h ≤ 3 → LvM h L → L.length ≤ 24 → ws.length ≤ 5000 → GdB L b → Pool s p → (∀ s', Q (.bl true) s') →
    CALL (C k 33 [lad h L, eL L, .int h, .lst (eW ws), eI b, .cell p] s) Q X := up (by decide) fun k hk p h L ws b s Q X hh hL hl hwl hb hp hq => call_i rfl rfl (by
  obtain ⟨o, eo⟩ : ∃ o : Nat, b.getD L.length = o := ⟨(b.getD L.length).toNat, by have := hb.1; omega⟩
  have ho : o ≤ L.length := by have := hb.2; omega
  have hos' : ∀ {a : Nat}, a ≤ L.length → ∀ b, some a = some b → b ≤ L.length := fun h b e => by cases e; exact h
  rfl'
  refine sRInit k (by omega) s.length h L b _ _ _ (by simp) (fun o' ho' eo' => ?_) fun t et ht => ?_
  · have e : o' = o := by omega
    subst e
    rw [show ∀ c d : Cl, (s ++ [c]).set s.length d = s ++ [d] from fun c d => set_app (i := 0)]
    rfl'
    refine sRInit k (by omega) (s ++ [rdC h L (some o')]).length h L none _ _ _ (by simp) (fun o2 ho2 eo2 => ?_) fun t et ht => by cases et
    have e2 : o2 = L.length := by
      have : (L.length : Int) = o2 := eo2
      omega
    subst e2
    rw [show ∀ c d : Cl, ((s ++ [rdC h L (some o')]) ++ [c]).set (s ++ [rdC h L (some o')]).length d = (s ++ [rdC h L (some o')]) ++ [d] from fun c d => set_app (i := 0)]
    have hn := @new_at s (rdC h L (some o')) (rdC h L (some L.length)) (.lst [eO (some L.length), eO (some L.length)])
    generalize hn1 : (s ++ [rdC h L (some o')]).length = n1 at hn
    have hn1' : n1 = s.length + 1 := by rw [← hn1]; simp
    have hc : (s ++ [rdC h L (some o')] ++ [rdC h L (some L.length)]).length = s.length + 2 := by simp
    have hpl : ∀ r, Pool (s ++ r) p := fun r => hp.app
    have hplt := hp.lt
    ac_rfl
    refine JOIN_c (fun e s4 => Two s4 (s.length + 2) s.length n1 h L (some o') (some L.length) ∧ Pool s4 p ∧ e = [.v (lad h L), .v (eL L), .v (.int h), .v (.lst (eW ws)), .v (eI b), .v (.cell p), .v (.int L.length), .v (.lst [.cell s.length, .cell n1]), .v (.cell (s.length + 2)), .un, .un, .un, .un]) ?_ ?_
    · intro Q' hq' _
      rw [hc] at hn
      have e1 : celL (s ++ [rdC h L (some o')] ++ [rdC h L (some L.length)] ++ [.lst [eO (some L.length), eO (some L.length)]]) (s.length + 2) = some [eO (some L.length), eO (some L.length)] := celL_i hn.2.2
      have hp3 : Pool (s ++ [rdC h L (some o')] ++ [rdC h L (some L.length)] ++ [.lst [eO (some L.length), eO (some L.length)]]) p := hp.app.app.app
      rw [hc, List.length_map]
      cases b with
      | none =>
        rfl'
        have e3 : o' = L.length := by
          have : (L.length : Int) = o' := eo
          omega
        subst e3
        exact hq' _ _ ⟨⟨hn.1, hn.2.1, e1, by omega, hos' ho', hos' (Nat.le_refl _)⟩, hp3, rfl⟩
      | some t =>
        rfl'
        have et : t = o' := eo
        refine oK_i e1 ?_
        rfl'
        refine hq' _ _ ⟨⟨?_, ?_, ?_, by omega, hos' ho', hos' (Nat.le_refl _)⟩, Pool.set (by omega) hp3, rfl⟩
        · exact RdAt.set hn.1 (by omega)
        · exact RdAt.set hn.2.1 (by omega)
        · rw [et]
          exact celL_set e1
    · rintro e s4 ⟨T, p4, rfl⟩
      rfl'
      refine sDraw k (by omega) _ _ _ _ _ p4 (by simp [eW] <;> omega) (by simp [eW] <;> omega) fun m s5 p5 f5 m0 m1 => ?_
      have T5 : Two s5 (s.length + 2) s.length n1 h L (some o') (some L.length) := T.fr f5 p4
      clear hn hc
      generalize s.length + 2 = c at T5
      generalize s.length = n0 at T5
      rfl'
      have elen : ((eW ws).length : Int) + 1 = ((ws.length + 1 : Nat) : Int) := by simp [eW]
      refine rng_n elen (by omega) ?_
      refine for_ix (ws.length + 1) _ (fun i env s' => ∃ o0 o1 x y z, Two s' c n0 n1 h L o0 o1 ∧ Pool s' p ∧ env = [.v (lad h L), .v (eL L), .v (.int h), .v (.lst (eW ws)), .v (eI b), .v (.cell p), .v (.int L.length), .v (.lst [.cell n0, .cell n1]), .v (.cell c), .v (.int m), x, y, z]) (fun _ _ _ _ _ => its_rng) ⟨_, _, _, _, _, T5, p5, rfl⟩ ?_ ?_
      · rintro i env s' hi ⟨o0, o1, x, y, z, T', p', rfl⟩
        ac_rfl
        refine JOIN_c (fun e s4 => ∃ o0 o1 y z, Two s4 c n0 n1 h L o0 o1 ∧ Pool s4 p ∧ e = [.v (lad h L), .v (eL L), .v (.int h), .v (.lst (eW ws)), .v (eI b), .v (.cell p), .v (.int L.length), .v (.lst [.cell n0, .cell n1]), .v (.cell c), .v (.int m), .v (.int i), y, z]) ?_ ?_
        · intro Q' hq' _
          rfl'
          refine ⟨fun _ => ?_, fun _ => ?_⟩
          · rfl'
            refine sDraw k (by omega) _ _ _ _ _ p' (by omega) (by omega) fun g s6 p6 f6 g0 g1 => ?_
            rfl'
            refine sBey k (by omega) _ _ _ _ _ p6 fun t s7 p7 f7 ht => ?_
            rfl'
            obtain ⟨g', rfl⟩ : ∃ g' : Nat, g = g' := ⟨g.toNat, by omega⟩
            refine sPut k (by omega) c n0 n1 h 1 g' L o0 o1 t _ _ _ ((T'.fr f6 p').fr f7 p6) (by omega) (by omega) ht fun s8 T8 hp8 => ?_
            rfl'
            exact hq' _ _ ⟨_, _, _, _, T8, hp8 p p7, rfl⟩
          · exact hq' _ _ ⟨_, _, _, _, T', p', rfl⟩
        · rintro e s4 ⟨o0, o1, y, z, T', p', rfl⟩
          rfl'
          refine ⟨fun hlt => ?_, fun _ => ⟨_, _, _, _, _, T', p', rfl⟩⟩
          have hiw : i < ws.length := by
            have : (eW ws).length = ws.length := by simp [eW]
            omega
          rfl'
          refine rng_n (n := 2) rfl (by omega) ?_
          refine for_ix 2 _ (fun j env s' => ∃ o0 o1 y z, Two s' c n0 n1 h L o0 o1 ∧ Pool s' p ∧ env = [.v (lad h L), .v (eL L), .v (.int h), .v (.lst (eW ws)), .v (eI b), .v (.cell p), .v (.int L.length), .v (.lst [.cell n0, .cell n1]), .v (.cell c), .v (.int m), .v (.int i), y, z]) (fun _ _ _ _ _ => its_rng) ⟨_, _, _, _, T', p', rfl⟩ ?_ ?_
          · rintro j env s5 hj ⟨o0, o1, y, z, T5, p5, rfl⟩
            rfl'
            refine oK_i (show atI (eW ws) (i : Int) = some (.int ws[i]) from ?_) ?_
            · have := atI_map (f := W.int) (r := ws) (i := (i : Int)) (by omega) (by omega)
              simpa [eW] using this
            rfl'
            refine sReadOn k (by omega) c n0 n1 h j L o0 o1 ws[i] _ _ _ hh hL (by omega) T5 hj fun s6 o0' o1' T6 hp6 => ?_
            rfl'
            exact ⟨_, _, _, _, T6, hp6 p p5, rfl⟩
          · rintro env s5 ⟨o0, o1, y, z, T5, p5, rfl⟩
            exact ⟨_, _, _, _, _, T5, p5, rfl⟩
      · rintro env s' ⟨o0, o1, x, y, z, T', p', rfl⟩
        rfl'
        refine sDraw k (by omega) _ _ _ _ _ p' (by omega) (by omega) fun g s6 p6 f6 g0 g1 => ?_
        rfl'
        refine sBey k (by omega) _ _ _ _ _ p6 fun t s7 p7 f7 ht => ?_
        rfl'
        obtain ⟨g', rfl⟩ : ∃ g' : Nat, g = g' := ⟨g.toNat, by omega⟩
        refine sPut k (by omega) c n0 n1 h 0 g' L o0 o1 t _ _ _ ((T'.fr f6 p').fr f7 p6) (by omega) (by omega) ht fun s8 T8 hp8 => ?_
        rfl'
        show LOOP (forI _ _ _ (.lst (eW ws)) _ _) _ _
        refine for_ix ws.length (gI (eW ws)) (fun i env s' => ∃ o0 o1 x y z, Two s' c n0 n1 h L o0 o1 ∧ env = [.v (lad h L), .v (eL L), .v (.int h), .v (.lst (eW ws)), .v (eI b), .v (.cell p), .v (.int L.length), .v (.lst [.cell n0, .cell n1]), .v (.cell c), .v (.int m), x, y, z]) (fun _ _ _ _ _ => its_map) ⟨_, _, _, _, _, T8, rfl⟩ ?_ ?_
        · rintro i env s' hi ⟨o0, o1, x, y, z, T9, rfl⟩
          rw [show gI (eW ws) i = .int ws[i] from gI_map hi]
          rfl'
          refine sReadOn k (by omega) c n0 n1 h 0 L o0 o1 ws[i] _ _ _ hh hL (by omega) T9 (by omega) fun s6 o0' o1' T6 hp6 => ?_
          rfl'
          exact ⟨_, _, _, _, _, T6, rfl⟩
        · rintro env s' ⟨o0, o1, x, y, z, T9, rfl⟩
          exact hq _
  · subst et
    exfalso
    have h1 := hb.1
    have h2 := hb.2
    simp only [Option.getD_some] at h1 h2
    omega)
/-! ### the law -/
theorem law_ok {k : Nat} (hk : 8 ≤ k) (ns : List Int) (s : Sto) : CALL (C (k + 1) 34 [.scr ns] s) (fun w _ => w = .bl true) (fun _ _ => False) := call_i rfl rfl (by
  rfl'
  refine sPool k (by omega) _ _ _ _ _ (by decide) fun c0 p0 => ?_
  generalize s ++ [c0] = s0 at p0
  generalize s.length = p at p0
  rfl'
  refine sDraw k (by omega) _ _ _ _ _ p0 (by omega) (by omega) fun r1 s1 p1 f1 r1a r1b => ?_
  obtain ⟨h, hh⟩ : ∃ h : Nat, 1 + r1 = (h : Int) := ⟨(1 + r1).toNat, by omega⟩
  have h1 : 1 ≤ h := by omega
  have h3 : h ≤ 3 := by omega
  ac_rfl
  rw [hh]
  refine JOIN_c (fun e s2 => Pool s2 p ∧ ∃ l : Nat, l ≤ 24 ∧ e = [.v (.scr ns), .v (.cell p), .v (.int h), .v (.int l), .un, .un, .un, .un, .un, .un, .un]) ?_ ?_
  · intro Q' hq' _
    rfl'
    refine sDraw k (by omega) _ _ _ _ _ p1 (by omega) (by omega) fun r2 s2 p2 f2 _ _ => ?_
    rfl'
    exact ⟨fun _ => hq' _ _ ⟨p2, 24, by omega, rfl⟩, fun _ => hq' _ _ ⟨p2, 7, by omega, rfl⟩⟩
  rintro e s2 ⟨p2, l, hl, rfl⟩
  rfl'
  refine sLevels k (by omega) p h l _ _ _ p2 h1 h3 (by omega) fun L s3 p3 f3 hL lL => ?_
  have hl24 : L.length ≤ 24 := by omega
  rfl'
  refine sInit k (by omega) h _ L _ _ _ h1 h3 hL hl24 rfl ?_
  rfl'
  refine sPool k (by omega) _ _ _ _ _ (by decide) fun c4 p4 => ?_
  rfl'
  rw [List.length_map]
  refine sBegin k (by omega) _ L.length _ _ _ p4 (by omega) fun b s4 _ _ => ?_
  rfl'
  refine sPool k (by omega) _ _ _ _ _ (by decide) fun c5 p5 => ?_
  rfl'
  refine sWord k (by omega) _ h _ _ _ p5 h3 fun ws0 s5 _ _ hw0 => ?_
  rfl'
  refine sPool k (by omega) _ _ _ _ _ (by decide) fun c6 p6 => ?_
  generalize s5 ++ [c6] = s6 at p6
  generalize s5.length = q at p6
  ac_rfl
  refine JOIN_c (fun e s7 => ∃ ws x, ws.length ≤ 5000 ∧ e = [.v (.scr ns), .v (.cell q), .v (.int h), .v (.int l), .v (eL L), .v (lad h L), .v (eI b), .v (.lst (eW ws)), x, .un, .un]) ?_ ?_
  · intro Q' hq' _
    rfl'
    refine sDraw k (by omega) _ _ _ _ _ p6 (by omega) (by omega) fun r7 s7 p7 f7 _ _ => ?_
    rfl'
    refine ⟨fun _ => ?_, fun _ => ?_⟩
    · rfl'
      refine ⟨fun hpos => ?_, fun _ => ?_⟩
      · have hpos : 0 < ws0.length := by
          have : (eW ws0).length = ws0.length := by simp [eW]
          omega
        rfl'
        refine sDraw k (by omega) _ _ _ _ _ p7 (by omega) (by omega) fun r8 s8 p8 f8 r8a r8b => ?_
        rfl'
        refine rngI_i (by omega) (by omega) ?_
        let vs : List Int := (List.range (70 + r8).toNat).map fun i => ws0.getD (i % ws0.length) 0
        have hv : vs.length = (70 + r8).toNat := by simp [vs]
        have hit : Its TT.sz s8 (.lst (rngC 0 1 (70 + r8).toNat)) vs.length (fun i => .int i) := by rw [hv]; exact its_rng
        refine comp_lst vs .int hit (okN_i (by omega)) (by decide) ?_ ?_
        · intro i a ha Q'' hq''
          have hi : i < (70 + r8).toNat := by rw [← hv]; exact (List.getElem?_eq_some_iff.mp ha).1
          have ea : a = ws0.getD (i % ws0.length) 0 := by
            have : vs[i]? = some (ws0.getD (i % ws0.length) 0) := by simp [vs, hi]
            rw [this] at ha; exact (Option.some.inj ha).symm
          have hlt := Nat.mod_lt i hpos
          have elen : (eW ws0).length = ws0.length := by simp [eW]
          rfl'
          refine ⟨by rw [elen]; omega, ?_⟩
          rfl'
          have em : ((i : Int) % ((eW ws0).length : Nat)) = ((i % ws0.length : Nat) : Int) := by rw [elen]; omega
          rw [em]
          refine oK_i (show atI (eW ws0) ((i % ws0.length : Nat) : Int) = some (.int a) from ?_) ?_
          · have := atI_map (f := W.int) (r := ws0) (i := ((i % ws0.length : Nat) : Int)) (by omega) (by omega)
            rw [ea, show eW ws0 = ws0.map W.int from rfl, this]
            have e9 : ((i % ws0.length : Nat) : Int).toNat = i % ws0.length := Int.toNat_natCast _
            simp only [e9]
            rw [List.getD_eq_getElem?_getD, List.getElem?_eq_getElem hlt]
            rfl
          · exact hq''
        · rfl'
          exact hq' _ _ ⟨vs, _, by omega, rfl⟩
      · exact hq' _ _ ⟨ws0, _, by omega, rfl⟩
    · exact hq' _ _ ⟨ws0, _, by omega, rfl⟩
  rintro e s7 ⟨ws, x, hwl, rfl⟩
  rfl'
  refine sFb k (by omega) h _ ws _ _ _ hwl rfl ?_
  ac_rfl
  refine JOIN_c (fun e s8 => ∃ b', GdB L b' ∧ e = [.v (.scr ns), .v (.cell q), .v (.int h), .v (.int l), .v (eL L), .v (lad h L), .v (eI b'), .v (.lst (eW ws)), x, .v (eI (fb h ws)), .un]) ?_ ?_
  · intro Q' hq' _
    cases b with
    | none =>
      rfl'
      exact hq' _ _ ⟨none, ⟨by show (0 : Int) ≤ L.length; omega, by show (L.length : Int) ≤ L.length; omega⟩, rfl⟩
    | some t =>
      have bad : (t < 0 ∨ (L.length : Int) < t) → True := fun _ => trivial
      have bad : (t < 0 ∨ (L.length : Int) < t) → ∀ e, e = [Sl.v (.scr ns), .v (.cell q), .v (.int h), .v (.int l), .v (eL L), .v (lad h L), .v (eI (some t)), .v (.lst (eW ws)), x, .v (eI (fb h ws)), .un] →
          wss TT (C k) (CI k) (.cons (.ife (.not (.call 18 (.cons (.call 25 (.cons (.var 5) (.cons (.var 7) (.cons (.var 6) .nil)))) (.cons (.tup (.cons (.str "step") (.cons (.var 6) (.cons (.bl true) .nil)))) .nil)))) (.cons (.ret (.bl false)) .nil) .nil) (.cons (.ife (.not (.call 18 (.cons (.call 26 (.cons (.var 5) (.cons (.var 6) .nil))) (.cons (.tup (.cons (.str "step") (.cons (.var 6) (.cons (.bl true) .nil)))) .nil)))) (.cons (.ret (.bl false)) .nil) .nil) (.cons (.set 6 .non) .nil))) e s7 Q' (fun x _ s => (fun _ _ => False) x s) := fun ht e he => by
        subst he
        rfl'
        refine sRefRead k (by omega) h L _ ws (some t) _ _ _ hL (by omega) hwl rfl (fun t' et _ c => ?_) (fun o eo ho r c g => ?_) ?_
        · cases et
          rfl'
          refine sSame 2 k (by omega) _ _ _ _ _ (same_cons SameN.str (same_cons SameN.int (same_cons SameN.bl same_nil (by simp)) (by simp)) (by simp)) ?_
          rfl'
          refine sRefStart k (by omega) h L t _ _ _ ht fun c2 => ?_
          rfl'
          refine sSame 2 k (by omega) _ _ _ _ _ (same_cons SameN.str (same_cons SameN.int (same_cons SameN.bl same_nil (by simp)) (by simp)) (by simp)) ?_
          rfl'
          exact hq' _ _ ⟨none, ⟨by show (0 : Int) ≤ L.length; omega, by show (L.length : Int) ≤ L.length; omega⟩, rfl⟩
        · have : t = o := eo
          omega
        · show t < 0 ∨ (L.length : Int) < t ∨ _
          rcases ht with z | z
          · exact .inl z
          · exact .inr (.inl z)
      rfl'
      refine ⟨fun h4 => ?_, fun h4 => ?_⟩
      · exact bad (.inl h4) _ rfl
      · rfl'
        rw [List.length_map]
        refine ⟨fun h5 => ?_, fun h5 => ?_⟩
        · exact bad (.inr (by omega)) _ rfl
        · exact hq' _ _ ⟨some t, ⟨by show (0 : Int) ≤ t; omega, by show t ≤ (L.length : Int); omega⟩, rfl⟩
  rintro e s8 ⟨b', hb', rfl⟩
  ac_rfl
  refine JOIN_c (fun e s9 => e = [.v (.scr ns), .v (.cell q), .v (.int h), .v (.int l), .v (eL L), .v (lad h L), .v (eI b'), .v (.lst (eW ws)), x, .v (eI (fb h ws)), .un]) ?_ ?_
  · intro Q' hq' _
    cases hf : fb h ws with
    | none =>
      rw [hf] at hq'
      rfl'
      refine sReads k (by omega) h L ws b' _ _ _ h3 hL hl24 hwl (fb_none.mp hf) hb' fun cs => ?_
      rfl'
      exact hq' _ _ rfl
    | some r =>
      rw [hf] at hq'
      rfl'
      refine sRefRead k (by omega) h L _ ws b' _ _ _ hL (by omega) hwl rfl (fun t et ht c => ?_) (fun o eo ho r' c g => ?_) (.inr (.inr (by rw [hf]; simp)))
      · exfalso
        subst et
        have h4 := hb'.1
        have h5 := hb'.2
        simp only [Option.getD_some] at h4 h5
        omega
      · rw [hf] at g
        cases g
        rfl'
        refine sSame 2 k (by omega) _ _ _ _ _ (same_cons SameN.str (same_cons SameN.int (same_cons SameN.bl same_nil (by simp)) (by simp)) (by simp)) ?_
        rfl'
        exact hq' _ _ rfl
  rintro e s9 rfl
  rfl'
  refine sPool k (by omega) _ _ _ _ _ (by decide) fun c9 p9 => ?_
  rfl'
  refine sWord k (by omega) _ h _ _ _ p9 h3 fun vs s10 _ _ hvl => ?_
  ac_rfl
  refine JOIN_c (fun e s11 => e = [.v (.scr ns), .v (.cell q), .v (.int h), .v (.int l), .v (eL L), .v (lad h L), .v (eI b'), .v (.lst (eW ws)), x, .v (eI (fb h ws)), .v (.lst (eW vs))]) ?_ ?_
  · intro Q' hq' _
    rfl'
    refine sFb k (by omega) h _ vs _ _ _ (by omega) rfl ?_
    cases hf : fb h vs with
    | none =>
      rfl'
      refine sReads k (by omega) h L vs none _ _ _ h3 hL hl24 (by omega) (fb_none.mp hf) ⟨by show (0 : Int) ≤ L.length; omega, by show (L.length : Int) ≤ L.length; omega⟩ fun cs => ?_
      rfl'
      exact hq' _ _ rfl
    | some r =>
      rfl'
      exact hq' _ _ rfl
  rintro e s11 rfl
  ac_rfl
  refine JOIN_c (fun e s12 => e = [.v (.scr ns), .v (.cell q), .v (.int h), .v (.int l), .v (eL L), .v (lad h L), .v (eI b'), .v (.lst (eW ws)), x, .v (eI (fb h ws)), .v (.lst (eW vs))]) ?_ ?_
  · intro Q' hq' _
    cases hf : fb h ws with
    | none =>
      rw [hf] at hq'
      rfl'
      refine sReads k (by omega) h L ws b' _ _ _ h3 hL hl24 hwl (fb_none.mp hf) hb' fun cs => ?_
      rfl'
      exact hq' _ _ rfl
    | some r =>
      rw [hf] at hq'
      rfl'
      exact hq' _ _ rfl
  rintro e s12 rfl
  rfl'
  refine sPool k (by omega) _ _ _ _ _ (by decide) fun c12 p12 => ?_
  rfl'
  exact sTwo k (by omega) _ h L ws b' _ _ _ h3 hL hl24 hwl hb' p12 fun s' => rfl)
theorem law_all (ns : List Int) : ∃ s, (LI.callF tab 60).1 34 [.scr ns] [] = .ok (.bl true) s := by
  have := CALL_e (law_ok (k := 59) (by decide) ns [])
  revert this
  show WP ((callF tab 60).1 34 [.scr ns] []) _ _ → _
  cases (callF tab 60).1 34 [.scr ns] [] with
  | ok w s => rintro (rfl : w = .bl true); exact ⟨s, rfl⟩
  | ex x s => exact fun h => h.elim
  | no => exact fun h => h.elim
end K48
end
set_option Elab.async false
set_option linter.all false
set_option maxRecDepth 100000
set_option maxHeartbeats 0
/-! k48: the law from what the small language's law gives. -/
namespace K48
open PySem PySem.Spec PyProof.Rows L2 LI
abbrev LW : PySem.W.OpenLaw := PySem.Challenge.rw_ladderreach_k48_readers_go_to_the_greate
end K48
open PySem PySem.W PySem.Calls PyProof.Rows
theorem PySem.Challenge.cw_ladderreach_k48_readers_go_to_the_greate_holds : PySem.Challenge.rw_ladderreach_k48_readers_go_to_the_greate.Holds := by
  w_on; o_law
  refine HandSHeadRun.head_any (r := K48.RR) (q := view K48.RR.prog [49]) (H := K48.hk) (ob := K48.ob) (M := 20000) (loose := K48.loose) (d := HandSHeadRun.topDef K48.RR.prog 49) (kwd := []) K48.ob_eq
    (by kernel_rfl) (fun s => by kernel_rfl) K48.run (by kernel_rfl) (by kernel_rfl) (by kernel_rfl) (by rfl) (by first | assumption | decide +kernel) (by decide +kernel) ⟨rfl, rfl, rfl, rfl, rfl, by decide +kernel⟩ ?hw ?hc
  case hw => w_witness2
  case hc => exact LI.walk_end (l := K48.LW) (t := K48.td) (n := 63) (m := 60) (N := 5) (i := 34) (dl := K48.d34) (x := "script") rfl (by decide) (by kernel_rfl) K48.st rfl rfl rfl (by kernel_rfl) (by kernel_rfl) ⟨rfl, by decide, by decide⟩ (by rw [K48.td_tab]; exact fun ns _ => K48.law_all ns)
